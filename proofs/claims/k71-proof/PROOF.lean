import PyProof.Rows.All
import Wide.All
import OpenK.AllK
import Wide.FinOn
import HandS.ForMost
import HandS.ForExc
import HandS.IsInst
import HandS.Small
import HandS.ExcCtx
import HandS.CallSlots
import HandS.Walk
import HandS.Zip
import HandS.TupAny
import HandS.TupMul
import HandS.Flow
import HandS.Deep
import HandS.TupLe
import HandS.Sort
import HandS.SortInts
import HandS.Conv
import HandS.More
import HandS.SetFor
import HandS.Rev
import KE.GoesEnum
import HandS.Defaults
import HandS.Words
import HandS.SortRule
import HandS.NamedTupSort
import PyProof.TupleOfSeq
import HandS.ExcValue
import HandS.Style
import HandS.Head0
import HandS.Head1
import HandS.Head2
import HandS.HeadEnd
import HandS.HeadHook1
import HandS.HeadHook2
import PySem.Challenge.RW_chesthours_k71_whole_greatest_lots_of_ne
set_option Elab.async false
set_option linter.all false
set_option maxRecDepth 100000
set_option maxHeartbeats 0
noncomputable section
/-! S1: plain data D, how it lies in the abstract heap (Rp), plain results (R), the relation of slots to plain data (Rel), and the plain judgements Pu.. over the hand layer's readings. -/
namespace G
open PySem L2
/-- sizes are told by no reckoning (so that the kernel never counts up to the line) -/
instance fitsLe (n : Nat) : Decidable (n ≤ sizeLine) := Classical.propDecidable _
instance fitsLt (n : Nat) : Decidable (n < sizeLine) := Classical.propDecidable _
instance bigI1 (a : Int) (n : Nat) : Decidable (a < 2 ^ n) := Classical.propDecidable _
instance bigI2 (a : Int) (n : Nat) : Decidable (-(2 ^ n) ≤ a) := Classical.propDecidable _
instance bigI3 (a : Int) (n : Nat) : Decidable (-(2 ^ n) < a) := Classical.propDecidable _
instance bigN1 (a n : Nat) : Decidable (a < 2 ^ n) := Classical.propDecidable _
instance bigN2 (a n : Nat) : Decidable (a ≤ 2 ^ n) := Classical.propDecidable _
instance bigN3 (a : Nat) : Decidable (a < 1073741824) := Classical.propDecidable _

/-- a dict's key -/
inductive DK where
  | i (k : Int) | s (x : Str) | t (ks : List Key)
  deriving DecidableEq
/-- plain data -/
inductive D where
  | non | bl (b : Bool) | int (i : Int) | str (x : Str) | tup (ds : List D) | lst (ds : List D)
  | dic (tk : Bool) (ks : List DK) (ds : List D) | iset (xs : List Int) | fn (n : Str)
  /-- a list that is only read (the script), a tuple of the module -/
  | scr (ds : List D) | ktup (ds : List D)
  /-- a built-in type -/
  | ty (n : String)
def dkK : Key → DK
  | .inl i => .i i
  | .inr x => .s x
structure Gc where
  K : PySem.W.Frag
  mg : Str → Option Value

mutual
inductive Rp (G : Gc) (F : Hp) : D → V → Prop
  | non : Rp G F .non .non
  | bl (b : Bool) : Rp G F (.bl b) (.bl b)
  | int (i : Int) : Rp G F (.int i) (.int i)
  | str (x : Str) : Rp G F (.str x) (.str x)
  | tup {a : Addr} {vs : List V} {ds : List D} : F a = some (.tup vs) → RpL G F ds vs → Rp G F (.tup ds) (.ref a)
  | lst {a : Addr} {vs : List V} {ds : List D} : F a = some (.lst vs) → RpL G F ds vs → Rp G F (.lst ds) (.ref a)
  | scr {a : Addr} {vs : List V} {ds : List D} : SqL G.K F a vs → RpL G F ds vs → Rp G F (.scr ds) (.ref a)
  | ktup {a : Addr} {vs : List V} {ds : List D} : SqT G.K F a vs → RpL G F ds vs → Rp G F (.ktup ds) (.ref a)
  | dicK {a : Addr} {ks : List Key} {vs : List V} {ds : List D} : Rd F a (.dK (ks.zip vs)) → ks.length = vs.length → RpL G F ds vs → Rp G F (.dic false (ks.map dkK) ds) (.ref a)
  | dicT {a : Addr} {ks : List (List Key)} {vs : List V} {ds : List D} : Rd F a (.dT (ks.zip vs)) → ks.length = vs.length → RpL G F ds vs → Rp G F (.dic true (ks.map DK.t) ds) (.ref a)
  | iset {a : Addr} {xs : List Int} : F a = some (.set (fun i => decide (i ∈ xs)) xs.length) → xs.Nodup → Rp G F (.iset xs) (.ref a)
  | fn {n : Str} {a : Addr} : G.mg n = some (.ref a) → Rp G F (.fn n) (.ref a)
  | ty (n : String) : Rp G F (.ty n) (.ty n)
inductive RpL (G : Gc) (F : Hp) : List D → List V → Prop
  | nil : RpL G F [] []
  | cons {d : D} {v : V} {ds : List D} {vs : List V} : Rp G F d v → RpL G F ds vs → RpL G F (d :: ds) (v :: vs)
end

/-- what never is locked -/
def plainO : HO → Bool
  | .lst _ => true
  | .tup _ => true
  | .set _ _ => true
  | _ => false
def isFrz : HO → Bool
  | .frz _ _ => true
  | _ => false
/-- what F knows to be read, F' knows too -/
structure Le0 (F F' : Hp) : Prop where
  rd : ∀ a u, isFrz u = false → Rd F a u → Rd F' a u
  ex : ∀ a u, plainO u = true → F a = some u → F' a = some u
/-- moreover what is locked stays so -/
structure Le (F F' : Hp) : Prop extends Le0 F F' where
  fz : ∀ a o u, F a = some (.frz o u) → F' a = some (.frz o u)
theorem Le.refl (F : Hp) : Le F F := ⟨⟨fun _ _ _ h => h, fun _ _ _ h => h⟩, fun _ _ _ h => h⟩
theorem Le.trans {F F1 F2 : Hp} (a : Le F F1) (b : Le F1 F2) : Le F F2 := ⟨⟨fun x u p h => b.rd x u p (a.rd x u p h), fun x u p h => b.ex x u p (a.ex x u p h)⟩, fun x o u h => b.fz x o u (a.fz x o u h)⟩
theorem Le.of {F F' : Hp} (h : ∀ a u, F a = some u → F' a = some u) : Le F F' := ⟨⟨fun a u _ r => by
  rcases r with r | ⟨o, r⟩
  · exact .inl (h a u r)
  · exact .inr ⟨o, h a _ r⟩, fun a u _ r => h a u r⟩, fun a _ _ r => h a _ r⟩
theorem Le.upd {F : Hp} {a : Addr} {u : HO} (h : F a = none) : Le F (upd F a u) := .of fun b w e => by
  rw [upd_ne (ne_of_none e h)]
  exact e
theorem Le0.l {G : Gc} {F F' : Hp} {a : Addr} {vs : List V} (e : Le0 F F') (h : SqL G.K F a vs) : SqL G.K F' a vs := h.elim (fun q => .inl (e.rd _ _ rfl q)) .inr
theorem Le0.t {G : Gc} {F F' : Hp} {a : Addr} {vs : List V} (e : Le0 F F') (h : SqT G.K F a vs) : SqT G.K F' a vs := h.elim (fun q => .inl (e.rd _ _ rfl q)) .inr
section
variable {G : Gc} {F F' : Hp}
mutual
theorem Rp.mono0 (e : Le0 F F') : ∀ {d : D} {v : V}, Rp G F d v → Rp G F' d v
  | _, _, .non => .non
  | _, _, .bl b => .bl b
  | _, _, .int i => .int i
  | _, _, .str x => .str x
  | _, _, .tup h r => .tup (e.ex _ _ rfl h) (RpL.mono0 e r)
  | _, _, .lst h r => .lst (e.ex _ _ rfl h) (RpL.mono0 e r)
  | _, _, .scr h r => .scr (e.l h) (RpL.mono0 e r)
  | _, _, .ktup h r => .ktup (e.t h) (RpL.mono0 e r)
  | _, _, .dicK h l r => .dicK (e.rd _ _ rfl h) l (RpL.mono0 e r)
  | _, _, .dicT h l r => .dicT (e.rd _ _ rfl h) l (RpL.mono0 e r)
  | _, _, .iset h n => .iset (e.ex _ _ rfl h) n
  | _, _, .fn h => .fn h
  | _, _, .ty n => .ty n
theorem RpL.mono0 (e : Le0 F F') : ∀ {ds : List D} {vs : List V}, RpL G F ds vs → RpL G F' ds vs
  | _, _, .nil => .nil
  | _, _, .cons h r => .cons (Rp.mono0 e h) (RpL.mono0 e r)
end
theorem Rp.mono (e : Le F F') {d : D} {v : V} (h : Rp G F d v) : Rp G F' d v := h.mono0 e.toLe0
theorem RpL.mono (e : Le F F') {ds : List D} {vs : List V} (h : RpL G F ds vs) : RpL G F' ds vs := h.mono0 e.toLe0
theorem RpL.length : ∀ {ds : List D} {vs : List V}, RpL G F ds vs → ds.length = vs.length
  | _, _, .nil => rfl
  | _, _, .cons _ r => congrArg Nat.succ (RpL.length r)
theorem RpL.get : ∀ {ds : List D} {vs : List V} {i : Nat} {d : D}, RpL G F ds vs → ds[i]? = some d → ∃ v, vs[i]? = some v ∧ Rp G F d v
  | _, _, _, _, .nil, e => by simp at e
  | _, _, 0, _, .cons h _, e => by simp at e; subst e; exact ⟨_, rfl, h⟩
  | _, _, i + 1, _, .cons _ r, e => by
    obtain ⟨v, h1, h2⟩ := RpL.get (i := i) r (by simpa using e)
    exact ⟨v, by simpa using h1, h2⟩
theorem RpL.getV : ∀ {ds : List D} {vs : List V} {i : Nat} {v : V}, RpL G F ds vs → vs[i]? = some v → ∃ d, ds[i]? = some d ∧ Rp G F d v
  | _, _, _, _, .nil, e => by simp at e
  | _, _, 0, _, .cons h _, e => by simp at e; subst e; exact ⟨_, rfl, h⟩
  | _, _, i + 1, _, .cons _ r, e => by
    obtain ⟨d, h1, h2⟩ := RpL.getV (i := i) r (by simpa using e)
    exact ⟨d, by simpa using h1, h2⟩
theorem RpL.append : ∀ {ds es : List D} {vs ws : List V}, RpL G F ds vs → RpL G F es ws → RpL G F (ds ++ es) (vs ++ ws)
  | _, _, _, _, .nil, s => s
  | _, _, _, _, .cons h r, s => .cons h (RpL.append r s)
theorem RpL.drop : ∀ {ds : List D} {vs : List V} (n : Nat), RpL G F ds vs → RpL G F (ds.drop n) (vs.drop n)
  | _, _, 0, h => h
  | _, _, _ + 1, .nil => .nil
  | _, _, n + 1, .cons _ r => RpL.drop n r
theorem RpL.take : ∀ {ds : List D} {vs : List V} (n : Nat), RpL G F ds vs → RpL G F (ds.take n) (vs.take n)
  | _, _, 0, _ => .nil
  | _, _, _ + 1, .nil => .nil
  | _, _, n + 1, .cons h r => .cons h (RpL.take n r)
theorem RpL.set : ∀ {ds : List D} {vs : List V} {d : D} {v : V} (i : Nat), RpL G F ds vs → Rp G F d v → RpL G F (ds.set i d) (vs.set i v)
  | _, _, _, _, _, .nil, _ => .nil
  | _, _, _, _, 0, .cons _ r, q => .cons q r
  | _, _, _, _, i + 1, .cons h r, q => .cons h (RpL.set i r q)
theorem RpL.reverse : ∀ {ds : List D} {vs : List V}, RpL G F ds vs → RpL G F ds.reverse vs.reverse
  | _, _, .nil => .nil
  | _, _, .cons h r => by rw [List.reverse_cons, List.reverse_cons]; exact RpL.append (RpL.reverse r) (.cons h .nil)
theorem RpL.ints : ∀ (xs : List Int), RpL G F (xs.map D.int) (xs.map V.int)
  | [] => .nil
  | x :: xs => .cons (.int x) (RpL.ints xs)
theorem RpL.eraseIdx : ∀ {ds : List D} {vs : List V} (i : Nat), RpL G F ds vs → RpL G F (ds.eraseIdx i) (vs.eraseIdx i)
  | _, _, _, .nil => .nil
  | _, _, 0, .cons _ r => r
  | _, _, i + 1, .cons h r => .cons h (RpL.eraseIdx i r)
theorem RpL.insert {ds : List D} {vs : List V} {d : D} {v : V} (i : Nat) (h : RpL G F ds vs) (q : Rp G F d v) : RpL G F (ds.take i ++ d :: ds.drop i) (vs.take i ++ v :: vs.drop i) :=
  RpL.append (RpL.take i h) (.cons q (RpL.drop i h))
end

/-! ### plain results -/
inductive R (α : Type) where
  | ok (a : α) | exc (c : Str) (p : Option (Str × D)) | bad
def R.bind {α β : Type} (r : R α) (f : α → R β) : R β := match r with
  | .ok a => f a
  | .exc c p => .exc c p
  | .bad => .bad
@[simp] theorem R.bind_ok {α β : Type} (a : α) (f : α → R β) : (R.ok a).bind f = f a := rfl
@[simp] theorem R.bind_bad {α β : Type} (f : α → R β) : (R.bad : R α).bind f = .bad := rfl
@[simp] theorem R.bind_exc {α β : Type} (c : Str) (p : Option (Str × D)) (f : α → R β) : (R.exc c p : R α).bind f = .exc c p := rfl
abbrev Env := List (Option D)
/-- how a statement ends -/
inductive Out where
  | nx (ρ : Env) | rt (d : D) | bk (ρ : Env) | ct (ρ : Env) | exc (c : Str) (p : Option (Str × D)) (ρ : Env) | bad

/-! ### slots and plain data -/
/-- an object that this frame alone holds: a list, a dict, a set at a -/
inductive Own (G : Gc) (F H : Hp) : D → Addr → Prop
  | lst {a : Addr} {vs : List V} {ds : List D} : H a = some (.lst vs) → RpL G F ds vs → Own G F H (.lst ds) a
  | dicK {a : Addr} {ks : List Key} {vs : List V} {ds : List D} : H a = some (.dK (ks.zip vs)) → ks.length = vs.length → RpL G F ds vs → Own G F H (.dic false (ks.map dkK) ds) a
  | dicT {a : Addr} {ks : List (List Key)} {vs : List V} {ds : List D} : H a = some (.dT (ks.zip vs)) → ks.length = vs.length → RpL G F ds vs → Own G F H (.dic true (ks.map DK.t) ds) a
  | iset {a : Addr} {xs : List Int} : H a = some (.set (fun i => decide (i ∈ xs)) xs.length) → xs.Nodup → Own G F H (.iset xs) a
theorem Own.there {G : Gc} {F H : Hp} {d : D} {a : Addr} (h : Own G F H d a) : ∃ u, H a = some u := by
  cases h with
  | lst e _ => exact ⟨_, e⟩
  | dicK e _ _ => exact ⟨_, e⟩
  | dicT e _ _ => exact ⟨_, e⟩
  | iset e _ => exact ⟨_, e⟩
theorem Own.mono {G : Gc} {F F' H H' : Hp} {d : D} {a : Addr} (h : Own G F H d a) (e : Le F F') (k : ∀ u, H a = some u → H' a = some u) : Own G F' H' d a := by
  cases h with
  | lst h r => exact .lst (k _ h) (r.mono e)
  | dicK h l r => exact .dicK (k _ h) l (r.mono e)
  | dicT h l r => exact .dicT (k _ h) l (r.mono e)
  | iset h n => exact .iset (k _ h) n
/-- the same object, now one that everybody may read -/
theorem Own.rp {G : Gc} {F H : Hp} {d : D} {a : Addr} {u : HO} (h : Own G F H d a) (hu : H a = some u) (hf : F a = none) : Rp G (upd F a u) d (.ref a) := by
  have e : Le F (upd F a u) := Le.upd hf
  cases h with
  | lst h r => rw [hu] at h; cases h; exact .lst upd_same (r.mono e)
  | dicK h l r => rw [hu] at h; cases h; exact .dicK (.inl upd_same) l (r.mono e)
  | dicT h l r => rw [hu] at h; cases h; exact .dicT (.inl upd_same) l (r.mono e)
  | iset h n => rw [hu] at h; cases h; exact .iset upd_same n

/-- B: what the caller's heap held, F0: what was known at the entry, F: what may be read now, H: the heap -/
structure Core (B F0 F H : Hp) : Prop where
  fh : ∀ a u, F a = some u → H a = some u
  bh : ∀ a u, B a = some u → H a = some u
  nf : ∀ a, F a ≠ none → F0 a ≠ none ∨ B a = none
  f0 : ∀ a, F0 a ≠ none → B a ≠ none
/-- slots σ hold the plain data ρ; those of o are held by this frame alone -/
structure Rel (G : Gc) (B F0 F H : Hp) (o : List Nat) (σ : St) (ρ : Env) : Prop where
  core : Core B F0 F H
  len : σ.length = ρ.length
  sh : ∀ i d, ρ[i]? = some (some d) → i ∉ o → ∃ v, σ[i]? = some (some v) ∧ Rp G F d v
  ow : ∀ i d, ρ[i]? = some (some d) → i ∈ o → ∃ a, σ[i]? = some (some (.ref a)) ∧ Own G F H d a ∧ F a = none ∧ B a = none
  dj : ∀ i j d e a, i ≠ j → i ∈ o → j ∈ o → ρ[i]? = some (some d) → ρ[j]? = some (some e) → σ[i]? = some (some (.ref a)) → σ[j]? = some (some (.ref a)) → False
section
variable {G : Gc} {B F0 F H : Hp} {o : List Nat} {σ : St} {ρ : Env}
/-- a is none of the objects held alone -/
def Apart (o : List Nat) (σ : St) (ρ : Env) (a : Addr) : Prop := ∀ i d, i ∈ o → ρ[i]? = some (some d) → σ[i]? = some (some (.ref a)) → False
/-- the heap and what may be read grow -/
theorem Rel.grow {F' H' : Hp} (r : Rel G B F0 F H o σ ρ) (e : Le F F') (fh : ∀ a u, F' a = some u → H' a = some u) (k : ∀ a u, H a = some u → H' a = some u) (nf : ∀ a, F' a ≠ none → F a ≠ none ∨ H a = none) : Rel G B F0 F' H' o σ ρ where
  core := ⟨fh, fun a u q => k a u (r.core.bh a u q), fun a q => (nf a q).elim (r.core.nf a) fun z => .inr (by
    cases w : B a with
    | none => rfl
    | some u => rw [r.core.bh a u w] at z; cases z), r.core.f0⟩
  len := r.len
  sh := fun i d h1 h2 => let ⟨v, a, b⟩ := r.sh i d h1 h2; ⟨v, a, b.mono e⟩
  ow := fun i d h1 h2 => by
    obtain ⟨a, q1, q2, q3, q4⟩ := r.ow i d h1 h2
    refine ⟨a, q1, q2.mono e (k a), ?_, q4⟩
    obtain ⟨u, hu⟩ := q2.there
    cases w : F' a with
    | none => rfl
    | some y =>
      rcases nf a (by rw [w]; simp) with z | z
      · exact absurd q3 z
      · rw [hu] at z; cases z
  dj := r.dj
/-- something new is laid, for everybody to read -/
theorem Rel.laid {a : Addr} {u : HO} (r : Rel G B F0 F H o σ ρ) (ha : H a = none) : Le F (upd F a u) ∧ Rel G B F0 (upd F a u) (upd H a u) o σ ρ := by
  have fa : F a = none := by
    cases w : F a with
    | none => rfl
    | some y => rw [r.core.fh a y w] at ha; cases ha
  refine ⟨Le.upd fa, r.grow (Le.upd fa) (fun b w e => ?_) (fun b w e => ?_) fun b e => ?_⟩
  · by_cases hb : b = a
    · subst hb; rw [upd_same] at e ⊢; exact e
    · rw [upd_ne hb] at e ⊢; exact r.core.fh b w e
  · rw [upd_ne (ne_of_none e ha)]; exact e
  · by_cases hb : b = a
    · subst hb; exact .inr ha
    · rw [upd_ne hb] at e; exact .inl e
/-- something new is laid that nobody else knows -/
theorem Rel.laidOwn {a : Addr} {u : HO} (r : Rel G B F0 F H o σ ρ) (ha : H a = none) : Rel G B F0 F (upd H a u) o σ ρ ∧ F a = none ∧ B a = none ∧ Apart o σ ρ a := by
  have fa : F a = none := by
    cases w : F a with
    | none => rfl
    | some y => rw [r.core.fh a y w] at ha; cases ha
  have ba : B a = none := by
    cases w : B a with
    | none => rfl
    | some y => rw [r.core.bh a y w] at ha; cases ha
  refine ⟨r.grow (Le.refl F) (fun b w e => ?_) (fun b w e => ?_) fun b e => .inl e, fa, ba, fun i d hi hd hs => ?_⟩
  · have h1 := r.core.fh b w e
    rw [upd_ne (ne_of_none h1 ha)]; exact h1
  · rw [upd_ne (ne_of_none e ha)]; exact e
  · obtain ⟨b, q1, q2, _, _⟩ := r.ow i d hd hi
    rw [hs] at q1; cases q1
    obtain ⟨w, hw⟩ := q2.there
    rw [ha] at hw; cases hw
/-- an object that was held alone (by no slot) may be read by everybody -/
theorem Rel.share {a : Addr} {u : HO} (r : Rel G B F0 F H o σ ρ) (hu : H a = some u) (fa : F a = none) (ba : B a = none) (ap : Apart o σ ρ a) : Le F (upd F a u) ∧ Rel G B F0 (upd F a u) H o σ ρ := by
  have e := Le.upd (u := u) fa
  refine ⟨e, ⟨⟨fun b w q => ?_, r.core.bh, fun b q => ?_, r.core.f0⟩, r.len, fun i d h1 h2 => let ⟨v, x, y⟩ := r.sh i d h1 h2; ⟨v, x, y.mono e⟩, fun i d h1 h2 => ?_, r.dj⟩⟩
  · by_cases hb : b = a
    · subst hb; rw [upd_same] at q; cases q; exact hu
    · rw [upd_ne hb] at q; exact r.core.fh b w q
  · by_cases hb : b = a
    · subst hb; exact .inr ba
    · rw [upd_ne hb] at q; exact r.core.nf b q
  · obtain ⟨b, q1, q2, q3, q4⟩ := r.ow i d h1 h2
    have hb : b ≠ a := fun z => ap i d h2 h1 (by rw [← z]; exact q1)
    exact ⟨b, q1, q2.mono e fun _ z => z, by rw [upd_ne hb]; exact q3, q4⟩
/-- a slot's object that was held alone is given to everybody -/
theorem Rel.give {i : Nat} {d : D} (r : Rel G B F0 F H o σ ρ) (hd : ρ[i]? = some (some d)) (hi : i ∈ o) : ∃ F' v, Le F F' ∧ Rel G B F0 F' H (o.filter (· != i)) σ ρ ∧ σ[i]? = some (some v) ∧ Rp G F' d v := by
  obtain ⟨a, q1, q2, q3, q4⟩ := r.ow i d hd hi
  obtain ⟨u, hu⟩ := q2.there
  have mem : ∀ {j}, j ∈ o.filter (· != i) → j ∈ o ∧ j ≠ i := fun {j} h => by
    rw [List.mem_filter] at h; exact ⟨h.1, by simpa using h.2⟩
  have r1 : Rel G B F0 F H (o.filter (· != i)) σ ρ → Apart (o.filter (· != i)) σ ρ a := fun _ j e hj he hs => r.dj j i e d a (mem hj).2 (mem hj).1 hi he hd hs q1
  have e := Le.upd (u := u) q3
  refine ⟨upd F a u, .ref a, e, ⟨⟨fun b w q => ?_, r.core.bh, fun b q => ?_, r.core.f0⟩, r.len, fun j f h1 h2 => ?_, fun j f h1 h2 => ?_, fun j k f g b h1 h2 h3 => r.dj j k f g b h1 (mem h2).1 (mem h3).1⟩, q1, q2.rp hu q3⟩
  · by_cases hb : b = a
    · subst hb; rw [upd_same] at q; cases q; exact hu
    · rw [upd_ne hb] at q; exact r.core.fh b w q
  · by_cases hb : b = a
    · subst hb; exact .inr q4
    · rw [upd_ne hb] at q; exact r.core.nf b q
  · by_cases hj : j = i
    · subst hj
      rw [hd] at h1; cases h1
      exact ⟨_, q1, q2.rp hu q3⟩
    · have h3 : j ∉ o := fun z => h2 (List.mem_filter.mpr ⟨z, by simpa using hj⟩)
      obtain ⟨v, x, y⟩ := r.sh j f h1 h3
      exact ⟨v, x, y.mono e⟩
  · obtain ⟨b, x1, x2, x3, x4⟩ := r.ow j f h1 (mem h2).1
    have hb : b ≠ a := fun z => r.dj j i f d a (mem h2).2 (mem h2).1 hi h1 hd (by rw [← z]; exact x1) q1
    exact ⟨b, x1, x2.mono e fun _ z => z, by rw [upd_ne hb]; exact x3, x4⟩
/-- o may shrink to any part (the others are given to everybody) -/
theorem Rel.giveAll : ∀ (l : List Nat) {F : Hp} {o : List Nat}, Rel G B F0 F H o σ ρ → ∃ F', Le F F' ∧ Rel G B F0 F' H (o.filter fun j => !l.contains j) σ ρ
  | [], F, o, r => by
    have e : (o.filter fun j => !([] : List Nat).contains j) = o := by rw [List.filter_eq_self]; intro j _; rfl
    exact ⟨F, Le.refl F, by rw [e]; exact r⟩
  | i :: l, F, o, r => by
    have e : (o.filter fun j => !(i :: l).contains j) = ((o.filter (· != i)).filter fun j => !l.contains j) := by
      rw [List.filter_filter]
      congr 1
      funext j
      simp only [List.contains_cons]
      cases h1 : (j == i) <;> cases h2 : l.contains j <;> simp [bne, h1]
    rw [e]
    have key : ∃ F1, Le F F1 ∧ Rel G B F0 F1 H (o.filter (· != i)) σ ρ := by
      by_cases hi : i ∈ o
      · cases hρ : ρ[i]? with
        | some q =>
          cases q with
          | some d =>
            obtain ⟨F1, v, e1, r1, _, _⟩ := r.give hρ hi
            exact ⟨F1, e1, r1⟩
          | none =>
            have mem : ∀ {j}, j ∈ o.filter (· != i) → j ∈ o := fun {j} h => (List.mem_filter.mp h).1
            refine ⟨F, Le.refl F, ⟨r.core, r.len, fun j f h1 h2 => r.sh j f h1 fun z => h2 (List.mem_filter.mpr ⟨z, ?_⟩), fun j f h1 h2 => r.ow j f h1 (mem h2), fun j k f g b h1 h2 h3 => r.dj j k f g b h1 (mem h2) (mem h3)⟩⟩
            have : j ≠ i := fun q => by rw [q, hρ] at h1; cases h1
            simpa using this
        | none =>
          have mem : ∀ {j}, j ∈ o.filter (· != i) → j ∈ o := fun {j} h => (List.mem_filter.mp h).1
          refine ⟨F, Le.refl F, ⟨r.core, r.len, fun j f h1 h2 => r.sh j f h1 fun z => h2 (List.mem_filter.mpr ⟨z, ?_⟩), fun j f h1 h2 => r.ow j f h1 (mem h2), fun j k f g b h1 h2 h3 => r.dj j k f g b h1 (mem h2) (mem h3)⟩⟩
          have : j ≠ i := fun q => by rw [q, hρ] at h1; cases h1
          simpa using this
      · have e2 : o.filter (· != i) = o := by rw [List.filter_eq_self]; intro j hj; have : j ≠ i := fun q => hi (q ▸ hj); simpa using this
        exact ⟨F, Le.refl F, by rw [e2]; exact r⟩
    obtain ⟨F1, e1, r1⟩ := key
    obtain ⟨F2, e2, r2⟩ := Rel.giveAll l r1
    exact ⟨F2, e1.trans e2, r2⟩
theorem Rel.bare (r : Rel G B F0 F H o σ ρ) : ∃ F', Le F F' ∧ Rel G B F0 F' H [] σ ρ := by
  obtain ⟨F', e, r'⟩ := Rel.giveAll o r
  have z : (o.filter fun j => !o.contains j) = [] := by
    rw [List.filter_eq_nil_iff]
    intro j hj
    simp [hj]
  rw [z] at r'
  exact ⟨F', e, r'⟩
/-- a slot takes a value -/
theorem Rel.set {i : Nat} {d : D} {v : V} (r : Rel G B F0 F H o σ ρ) (h : Rp G F d v) : Rel G B F0 F H (o.filter (· != i)) (σ.set i (some v)) (ρ.set i (some d)) := by
  have mem : ∀ {j}, j ∈ o.filter (· != i) → j ∈ o ∧ j ≠ i := fun {j} h => by
    rw [List.mem_filter] at h; exact ⟨h.1, by simpa using h.2⟩
  refine ⟨r.core, by rw [List.length_set, List.length_set]; exact r.len, fun j f h1 h2 => ?_, fun j f h1 h2 => ?_, fun j k f g b h1 h2 h3 h4 h5 h6 h7 => ?_⟩
  · by_cases hj : i = j
    · subst hj
      have hl : i < ρ.length := by
        rcases Nat.lt_or_ge i ρ.length with q | q
        · exact q
        · rw [List.getElem?_eq_none (by rw [List.length_set]; exact q)] at h1; cases h1
      rw [List.getElem?_set_self hl] at h1
      cases h1
      exact ⟨v, List.getElem?_set_self (by rw [r.len]; exact hl), h⟩
    · rw [List.getElem?_set_ne hj] at h1
      have h3 : j ∉ o := fun z => h2 (List.mem_filter.mpr ⟨z, by simpa using fun q : j = i => hj q.symm⟩)
      rw [List.getElem?_set_ne hj]
      exact r.sh j f h1 h3
  · have hj : i ≠ j := fun q => (mem h2).2 q.symm
    rw [List.getElem?_set_ne hj] at h1 ⊢
    exact r.ow j f h1 (mem h2).1
  · have hj : i ≠ j := fun q => (mem h2).2 q.symm
    have hk : i ≠ k := fun q => (mem h3).2 q.symm
    rw [List.getElem?_set_ne hj] at h4 h6
    rw [List.getElem?_set_ne hk] at h5 h7
    exact r.dj j k f g b h1 (mem h2).1 (mem h3).1 h4 h5 h6 h7
/-- a slot takes an object that nobody else holds -/
theorem Rel.setOwn {i : Nat} {d : D} {a : Addr} (r : Rel G B F0 F H o σ ρ) (h : Own G F H d a) (fa : F a = none) (ba : B a = none) (ap : Apart o σ ρ a) : Rel G B F0 F H (i :: o.filter (· != i)) (σ.set i (some (.ref a))) (ρ.set i (some d)) := by
  have mem : ∀ {j}, j ∈ o.filter (· != i) → j ∈ o ∧ j ≠ i := fun {j} h => by
    rw [List.mem_filter] at h; exact ⟨h.1, by simpa using h.2⟩
  have mem2 : ∀ {j}, j ∈ i :: o.filter (· != i) → j ≠ i → j ∈ o := fun {j} h hn => by
    rcases List.mem_cons.mp h with q | q
    · exact absurd q hn
    · exact (mem q).1
  have lt : ∀ {f : D}, (ρ.set i (some d))[i]? = some (some f) → i < ρ.length ∧ f = d := fun {f} h1 => by
    have hl : i < ρ.length := by
      rcases Nat.lt_or_ge i ρ.length with q | q
      · exact q
      · rw [List.getElem?_eq_none (by rw [List.length_set]; exact q)] at h1; cases h1
    rw [List.getElem?_set_self hl] at h1
    cases h1
    exact ⟨hl, rfl⟩
  have at_ : i < ρ.length → (σ.set i (some (V.ref a)))[i]? = some (some (.ref a)) := fun hl => List.getElem?_set_self (by rw [r.len]; exact hl)
  refine ⟨r.core, by rw [List.length_set, List.length_set]; exact r.len, fun j f h1 h2 => ?_, fun j f h1 h2 => ?_, fun j k f g b h1 h2 h3 h4 h5 h6 h7 => ?_⟩
  · have hj : i ≠ j := fun q => h2 (by rw [q]; exact List.mem_cons_self)
    rw [List.getElem?_set_ne hj] at h1 ⊢
    exact r.sh j f h1 fun z => h2 (List.mem_cons_of_mem _ (List.mem_filter.mpr ⟨z, by simpa using fun q : j = i => hj q.symm⟩))
  · by_cases hj : j = i
    · subst hj
      obtain ⟨hl, rfl⟩ := lt h1
      exact ⟨a, at_ hl, h, fa, ba⟩
    · rw [List.getElem?_set_ne (Ne.symm hj)] at h1 ⊢
      exact r.ow j f h1 (mem2 h2 hj)
  · by_cases hj : j = i
    · subst hj
      have hk : k ≠ j := fun q => h1 q.symm
      rw [List.getElem?_set_ne (Ne.symm hk)] at h5 h7
      rw [at_ (lt h4).1] at h6
      cases h6
      exact ap k g (mem2 h3 hk) h5 h7
    · rw [List.getElem?_set_ne (Ne.symm hj)] at h4 h6
      by_cases hk : k = i
      · subst hk
        rw [at_ (lt h5).1] at h7
        cases h7
        exact ap j f (mem2 h2 hj) h4 h6
      · rw [List.getElem?_set_ne (Ne.symm hk)] at h5 h7
        exact r.dj j k f g b h1 (mem2 h2 hj) (mem2 h3 hk) h4 h5 h6 h7
/-- a slot's own object changes -/
theorem Rel.mut {i : Nat} {d e : D} {a : Addr} {u : HO} (r : Rel G B F0 F H o σ ρ) (hi : i ∈ o) (hd : ρ[i]? = some (some d)) (hs : σ[i]? = some (some (.ref a))) (h : Own G F (upd H a u) e a) : Rel G B F0 F (upd H a u) o σ (ρ.set i (some e)) := by
  obtain ⟨b, q1, q2, q3, q4⟩ := r.ow i d hd hi
  rw [hs] at q1; cases q1
  have hl : i < ρ.length := by
    rcases Nat.lt_or_ge i ρ.length with q | q
    · exact q
    · rw [List.getElem?_eq_none q] at hd; cases hd
  refine ⟨⟨fun c w q => ?_, fun c w q => ?_, r.core.nf, r.core.f0⟩, by rw [List.length_set]; exact r.len, fun j f h1 h2 => ?_, fun j f h1 h2 => ?_, fun j k f g c h1 h2 h3 h4 h5 h6 h7 => ?_⟩
  · rw [upd_ne (ne_of_none q q3)]; exact r.core.fh c w q
  · rw [upd_ne (ne_of_none q q4)]; exact r.core.bh c w q
  · have hj : i ≠ j := fun q => h2 (q ▸ hi)
    rw [List.getElem?_set_ne hj] at h1
    exact r.sh j f h1 h2
  · by_cases hj : j = i
    · subst hj
      rw [List.getElem?_set_self hl] at h1
      cases h1
      exact ⟨a, hs, h, q3, q4⟩
    · rw [List.getElem?_set_ne (Ne.symm hj)] at h1
      obtain ⟨c, x1, x2, x3, x4⟩ := r.ow j f h1 h2
      have hc : c ≠ a := fun z => r.dj j i f d a hj h2 hi h1 hd (by rw [← z]; exact x1) hs
      exact ⟨c, x1, x2.mono (Le.refl F) fun w q => by rw [upd_ne hc]; exact q, x3, x4⟩
  · have old : ∀ {m : Nat} {x : D}, m ∈ o → (ρ.set i (some e))[m]? = some (some x) → ∃ y, ρ[m]? = some (some y) := fun {m x} hm hx => by
      by_cases q : m = i
      · subst q; exact ⟨d, hd⟩
      · rw [List.getElem?_set_ne (Ne.symm q)] at hx; exact ⟨x, hx⟩
    obtain ⟨f', h4'⟩ := old h2 h4
    obtain ⟨g', h5'⟩ := old h3 h5
    exact r.dj j k f' g' c h1 h2 h3 h4' h5' h6 h7
/-- a slot is forgotten -/
theorem Rel.forget {i : Nat} (r : Rel G B F0 F H o σ ρ) (x : Option V) : Rel G B F0 F H o (σ.set i x) (ρ.set i none) := by
  have lt : ∀ {j : Nat} {f : D}, (ρ.set i none)[j]? = some (some f) → i ≠ j ∧ ρ[j]? = some (some f) := fun {j f} h => by
    by_cases q : i = j
    · subst q
      rcases Nat.lt_or_ge i ρ.length with l | l
      · rw [List.getElem?_set_self l] at h; cases h
      · rw [List.getElem?_eq_none (by rw [List.length_set]; exact l)] at h; cases h
    · rw [List.getElem?_set_ne q] at h; exact ⟨q, h⟩
  refine ⟨r.core, by rw [List.length_set, List.length_set]; exact r.len, fun j f h1 h2 => ?_, fun j f h1 h2 => ?_, fun j k f g c h1 h2 h3 h4 h5 h6 h7 => ?_⟩
  · obtain ⟨q, h⟩ := lt h1
    rw [List.getElem?_set_ne q]
    exact r.sh j f h h2
  · obtain ⟨q, h⟩ := lt h1
    rw [List.getElem?_set_ne q]
    exact r.ow j f h h2
  · obtain ⟨q4, e4⟩ := lt h4
    obtain ⟨q5, e5⟩ := lt h5
    rw [List.getElem?_set_ne q4] at h6
    rw [List.getElem?_set_ne q5] at h7
    exact r.dj j k f g c h1 h2 h3 e4 e5 h6 h7
/-- less is known -/
theorem Rel.less {ρ' : Env} (r : Rel G B F0 F H o σ ρ) (hl : ρ'.length = ρ.length) (h : ∀ (i : Nat) (d : D), ρ'[i]? = some (some d) → ρ[i]? = some (some d)) : Rel G B F0 F H o σ ρ' :=
  ⟨r.core, r.len.trans hl.symm, fun i d q => r.sh i d (h i d q), fun i d q => r.ow i d (h i d q), fun i j d e a n h1 h2 h3 h4 => r.dj i j d e a n h1 h2 (h i d h3) (h j e h4)⟩
end
end G
/-! S2: the plain judgements (ME, MT, MA, MS): a piece of syntax, its reading, and the plain function that it computes. -/
namespace G
open PySem L2

/-- an exception of the own class c, with at most one field -/
def ExcRep (G : Gc) (F H : Hp) (c : Str) (p : Option (Str × D)) (cls : Value) (dd : Option Addr) : Prop :=
  ∃ C, G.mg c = some (.ref C) ∧ cls = .ref C ∧ match p with
    | none => dd = none
    | some (f, d) => ∃ a v, dd = some a ∧ H a = some (.xd [(f, v)]) ∧ Rp G F d v
/-- an expression only lays new things -/
structure Gr (F H F' H' : Hp) : Prop where
  le : Le F F'
  same : Same H H'
theorem Gr.refl (F H : Hp) : Gr F H F H := ⟨Le.refl F, Same.refl H⟩
theorem Gr.trans {F H F1 H1 F2 H2 : Hp} (a : Gr F H F1 H1) (b : Gr F1 H1 F2 H2) : Gr F H F2 H2 := ⟨a.le.trans b.le, a.same.trans b.same⟩
def ExcEnd (G : Gc) (W : WX) (B F0 F : Hp) (σ : L2.St) (ρ : Env) (c : Str) (p : Option (Str × D)) : Prop :=
  ∀ F' H' cls dd, Le F F' → Rel G B F0 F' H' [] σ ρ → ExcRep G F' H' c p cls dd → W cls dd σ H'
/-- what a plain result asks of the end: k where it is a value -/
def Res (G : Gc) (W : WX) (B F0 F H : Hp) (o : List Nat) (σ : L2.St) (ρ : Env) {α : Type} (k : α → Hp → Hp → Prop) : R α → Prop
  | .ok a => ∀ F' H', Gr F H F' H' → Rel G B F0 F' H' o σ ρ → k a F' H'
  | .exc c p => ExcEnd G W B F0 F σ ρ c p
  | .bad => False
section
variable {G : Gc} {W : WX} {B F0 F F1 H H1 : Hp} {o o1 o2 : List Nat} {σ : L2.St} {ρ : Env} {α β : Type} {k k' : α → Hp → Hp → Prop}
theorem Res.mono {r : R α} (e : Gr F H F1 H1) (h : Res G W B F0 F H o σ ρ k r) : Res G W B F0 F1 H1 o σ ρ k r := by
  cases r with
  | ok a => exact fun F' H' le rel => h F' H' (e.trans le) rel
  | exc c p => exact fun F' H' cls dd le rel x => h F' H' cls dd (e.le.trans le) rel x
  | bad => exact h
theorem Res.imp {r : R α} (h : Res G W B F0 F H o σ ρ k r) (hk : ∀ a F' H', Gr F H F' H' → Rel G B F0 F' H' o σ ρ → k a F' H' → k' a F' H') : Res G W B F0 F H o σ ρ k' r := by
  cases r with
  | ok a => exact fun F' H' le rel => hk a F' H' le rel (h F' H' le rel)
  | exc c p => exact h
  | bad => exact h
theorem Res.bnd {r : R α} {f : α → R β} {k2 : β → Hp → Hp → Prop} (h : Res G W B F0 F H o2 σ ρ k2 (r.bind f)) : Res G W B F0 F H o1 σ ρ (fun a F' H' => Res G W B F0 F' H' o2 σ ρ k2 (f a)) r := by
  cases r with
  | ok a => exact fun F' H' le _ => Res.mono le h
  | exc c p => exact h
  | bad => exact h
end
abbrev kE (G : Gc) (Q : VK) : D → Hp → Hp → Prop := fun d F' H' => ∀ v, Rp G F' d v → Q v H'
abbrev kT (Q : Bool → Hp → Prop) : Bool → Hp → Hp → Prop := fun b _ H' => Q b H'
abbrev kA (G : Gc) (Q : List V → Hp → Prop) : List D → Hp → Hp → Prop := fun ds F' H' => ∀ vs, RpL G F' ds vs → Q vs H'
abbrev kO (G : Gc) (B : Hp) (o : List Nat) (σ : L2.St) (ρ : Env) (Q : VK) : D → Hp → Hp → Prop := fun d F' H' => ∀ a, Own G F' H' d a → F' a = none → B a = none → Apart o σ ρ a → Q (.ref a) H'
def PuE (G : Gc) (W : WX) (o : List Nat) (t : TE) (o' : List Nat) (m : Env → R D) : Prop :=
  ∀ {B F0 F H : Hp} {σ : L2.St} {ρ : Env} {Q : VK}, Rel G B F0 F H o σ ρ → Res G W B F0 F H o' σ ρ (kE G Q) (m ρ) → t σ H Q
/-- a new object that nobody else holds -/
def PuO (G : Gc) (W : WX) (o : List Nat) (t : TE) (o' : List Nat) (m : Env → R D) : Prop :=
  ∀ {B F0 F H : Hp} {σ : L2.St} {ρ : Env} {Q : VK}, Rel G B F0 F H o σ ρ → Res G W B F0 F H o' σ ρ (kO G B o' σ ρ Q) (m ρ) → t σ H Q
def PuT (G : Gc) (W : WX) (o : List Nat) (t : TT) (o' : List Nat) (m : Env → R Bool) : Prop :=
  ∀ {B F0 F H : Hp} {σ : L2.St} {ρ : Env} {Q : Bool → Hp → Prop}, Rel G B F0 F H o σ ρ → Res G W B F0 F H o' σ ρ (kT Q) (m ρ) → t σ H Q
def PuA (G : Gc) (W : WX) (o : List Nat) (t : TA) (o' : List Nat) (m : Env → R (List D)) : Prop :=
  ∀ {B F0 F H : Hp} {σ : L2.St} {ρ : Env} {Q : List V → Hp → Prop}, Rel G B F0 F H o σ ρ → Res G W B F0 F H o' σ ρ (kA G Q) (m ρ) → t σ H Q
/-- what a statement's plain end asks -/
def Post (G : Gc) (W : WX) (B F0 F : Hp) (oL o' : List Nat) (X : Ends) : Out → Prop
  | .nx ρ' => ∀ F' H' σ', Le F F' → Rel G B F0 F' H' o' σ' ρ' → X.nx σ' H'
  | .rt d => ∀ F' H' v, Le F F' → Core B F0 F' H' → Rp G F' d v → X.rt v H'
  | .bk ρ' => ∀ F' H' σ', Le F F' → Rel G B F0 F' H' oL σ' ρ' → X.bk σ' H'
  | .ct ρ' => ∀ F' H' σ', Le F F' → Rel G B F0 F' H' oL σ' ρ' → X.ct σ' H'
  | .exc c p ρ' => ∀ F' H' σ' cls dd, Le F F' → Rel G B F0 F' H' [] σ' ρ' → ExcRep G F' H' c p cls dd → W cls dd σ' H'
  | .bad => False
def PuS (G : Gc) (W : WX) (oL o : List Nat) (t : TS) (o' : List Nat) (m : Env → Out) : Prop :=
  ∀ {B F0 F H : Hp} {σ : L2.St} {ρ : Env} {X : Ends}, Rel G B F0 F H o σ ρ → Post G W B F0 F oL o' X (m ρ) → t X σ H
/-- a two-place operation, a one-place one, a call on values -/
def PuR2 (G : Gc) (W : WX) (r : R2) (f : D → D → R D) : Prop :=
  ∀ {B F0 F H : Hp} {o : List Nat} {σ : L2.St} {ρ : Env} {Q : VK} {v w : V} {a b : D}, Rel G B F0 F H o σ ρ → Rp G F a v → Rp G F b w → Res G W B F0 F H o σ ρ (kE G Q) (f a b) → r v w H Q
def PuR1 (G : Gc) (W : WX) (r : V → Hp → VK → Prop) (f : D → R D) : Prop :=
  ∀ {B F0 F H : Hp} {o : List Nat} {σ : L2.St} {ρ : Env} {Q : VK} {v : V} {a : D}, Rel G B F0 F H o σ ρ → Rp G F a v → Res G W B F0 F H o σ ρ (kE G Q) (f a) → r v H Q
def PuC (G : Gc) (W : WX) (r : List V → Hp → VK → Prop) (f : List D → R D) : Prop :=
  ∀ {B F0 F H : Hp} {o : List Nat} {σ : L2.St} {ρ : Env} {Q : VK} {vs : List V} {ds : List D}, Rel G B F0 F H o σ ρ → RpL G F ds vs → Res G W B F0 F H o σ ρ (kE G Q) (f ds) → r vs H Q
/-- a call on values that gives a new object -/
def PuCO (G : Gc) (W : WX) (r : List V → Hp → VK → Prop) (f : List D → R D) : Prop :=
  ∀ {B F0 F H : Hp} {o : List Nat} {σ : L2.St} {ρ : Env} {Q : VK} {vs : List V} {ds : List D}, Rel G B F0 F H o σ ρ → RpL G F ds vs → Res G W B F0 F H o σ ρ (kO G B o σ ρ Q) (f ds) → r vs H Q

/-! ### the plain functions -/
def mVar (i : Nat) : Env → R D := fun ρ => match ρ[i]? with
  | some (some d) => .ok d
  | _ => .bad
def mC (d : D) : Env → R D := fun _ => .ok d
def m2 (f : D → D → R D) (a b : Env → R D) : Env → R D := fun ρ => (a ρ).bind fun x => (b ρ).bind fun y => f x y
def m1 (f : D → R D) (a : Env → R D) : Env → R D := fun ρ => (a ρ).bind f
def mNil : Env → R (List D) := fun _ => .ok []
def mCons (a : Env → R D) (r : Env → R (List D)) : Env → R (List D) := fun ρ => (a ρ).bind fun x => (r ρ).bind fun xs => .ok (x :: xs)
def mCall (f : List D → R D) (a : Env → R (List D)) : Env → R D := fun ρ => (a ρ).bind f
def D.toB : D → R Bool
  | .bl b => .ok b
  | _ => .bad
def mB (a : Env → R D) : Env → R Bool := fun ρ => (a ρ).bind D.toB
def mOfB (a : Env → R Bool) : Env → R D := fun ρ => (a ρ).bind fun b => .ok (.bl b)
def mAnd (a b : Env → R Bool) : Env → R Bool := fun ρ => (a ρ).bind fun x => bif x then b ρ else .ok false
def mOr (a b : Env → R Bool) : Env → R Bool := fun ρ => (a ρ).bind fun x => bif x then .ok true else b ρ
def mNot (a : Env → R Bool) : Env → R Bool := fun ρ => (a ρ).bind fun x => .ok (!x)
def mAndV (a b : Env → R D) : Env → R D := fun ρ => (a ρ).bind fun x => x.toB.bind fun c => bif c then b ρ else .ok (.bl false)
def mOrV (a b : Env → R D) : Env → R D := fun ρ => (a ρ).bind fun x => x.toB.bind fun c => bif c then .ok (.bl true) else b ρ
def mNotV (a : Env → R D) : Env → R D := fun ρ => (a ρ).bind fun x => x.toB.bind fun c => .ok (.bl (!c))
def mIte (c : Env → R Bool) (a b : Env → R D) : Env → R D := fun ρ => (c ρ).bind fun x => bif x then a ρ else b ρ
def mChain (f g : D → D → R D) (a b c : Env → R D) : Env → R D := fun ρ => (a ρ).bind fun x => (b ρ).bind fun y => (f x y).bind fun z => z.toB.bind fun k => bif k then (c ρ).bind fun w => g y w else .ok (.bl false)
/-- a statement's function that starts with an expression -/
def oBind {α : Type} (r : R α) (ρ : Env) (f : α → Out) : Out := match r with
  | .ok a => f a
  | .exc c p => .exc c p ρ
  | .bad => .bad
@[simp] theorem oBind_ok {α : Type} (a : α) (ρ : Env) (f : α → Out) : oBind (.ok a) ρ f = f a := rfl
@[simp] theorem oBind_bad {α : Type} (ρ : Env) (f : α → Out) : oBind (.bad : R α) ρ f = .bad := rfl
@[simp] theorem oBind_exc {α : Type} (c : Str) (p : Option (Str × D)) (ρ : Env) (f : α → Out) : oBind (.exc c p : R α) ρ f = .exc c p ρ := rfl
def mNext : Env → Out := fun ρ => .nx ρ
def Out.seq (r : Out) (f : Env → Out) : Out := match r with
  | .nx ρ => f ρ
  | x => x
@[simp] theorem Out.seq_nx (ρ : Env) (f : Env → Out) : (Out.nx ρ).seq f = f ρ := rfl
@[simp] theorem Out.seq_rt (d : D) (f : Env → Out) : (Out.rt d).seq f = .rt d := rfl
@[simp] theorem Out.seq_bk (ρ : Env) (f : Env → Out) : (Out.bk ρ).seq f = .bk ρ := rfl
@[simp] theorem Out.seq_ct (ρ : Env) (f : Env → Out) : (Out.ct ρ).seq f = .ct ρ := rfl
@[simp] theorem Out.seq_exc (c : Str) (p : Option (Str × D)) (ρ : Env) (f : Env → Out) : (Out.exc c p ρ).seq f = .exc c p ρ := rfl
@[simp] theorem Out.seq_bad (f : Env → Out) : Out.bad.seq f = .bad := rfl
def mSeq (a b : Env → Out) : Env → Out := fun ρ => (a ρ).seq b
def mSet (i : Nat) (a : Env → R D) : Env → Out := fun ρ => oBind (a ρ) ρ fun d => .nx (ρ.set i (some d))
def mDrop (a : Env → R D) : Env → Out := fun ρ => oBind (a ρ) ρ fun _ => .nx ρ
def mRet (a : Env → R D) : Env → Out := fun ρ => oBind (a ρ) ρ fun d => .rt d
def mRetN : Env → Out := fun _ => .rt .non
def mIf (c : Env → R Bool) (a b : Env → Out) : Env → Out := fun ρ => oBind (c ρ) ρ fun x => bif x then a ρ else b ρ
def mBrk : Env → Out := fun ρ => .bk ρ
def mCnt : Env → Out := fun ρ => .ct ρ
def mBad : Env → Out := fun _ => .bad

section
variable {G : Gc} {W : WX} {o o1 o2 o3 oL : List Nat} {ta tb tc : TE} {ma mb mc : Env → R D} {t u : TT} {mt mu : Env → R Bool} {ts : TA} {ms : Env → R (List D)}
theorem Rel.at {B F0 F H : Hp} {σ : L2.St} {ρ : Env} {i : Nat} {d : D} (r : Rel G B F0 F H o σ ρ) (hd : ρ[i]? = some (some d)) (hi : i ∉ o) : ∃ v, σ[i]? = some (some v) ∧ Rp G F d v := r.sh i d hd hi
theorem PuE.var {i : Nat} (hi : i ∉ o) : PuE G W o (tVar i) o (mVar i) := by
  intro B F0 F H σ ρ Q r h
  unfold mVar at h
  split at h
  · rename_i d hd
    obtain ⟨v, h1, h2⟩ := r.at hd hi
    exact ⟨v, h1, h F H (Gr.refl F H) r v h2⟩
  · exact h.elim
/-- the object of a slot of its own is read as a value: from then on everybody holds it -/
theorem PuE.give {i : Nat} (hi : i ∈ o) : PuE G W o (tVar i) (o.filter (· != i)) (mVar i) := by
  intro B F0 F H σ ρ Q r h
  unfold mVar at h
  split at h
  · rename_i d hd
    obtain ⟨F', v, e, r', h1, h2⟩ := r.give hd hi
    exact ⟨v, h1, h F' H ⟨e, Same.refl H⟩ r' v h2⟩
  · exact h.elim
theorem PuE.c {d : D} {v : V} (h : ∀ F, Rp G F d v) : PuE G W o (tC v) o (mC d) := fun {_ _ F H _ _ _} r q => q F H (Gr.refl F H) r v (h F)
theorem PuE.op2 {r : R2} {f : D → D → R D} (hr : PuR2 G W r f) (ha : PuE G W o ta o1 ma) (hb : PuE G W o1 tb o2 mb) : PuE G W o (tOp r ta tb) o2 (m2 f ma mb) := by
  intro B F0 F H σ ρ Q rel h
  refine ha rel ((Res.bnd h).imp fun a F1 H1 e1 r1 h1 v rv => ?_)
  refine hb r1 ((Res.bnd h1).imp fun b F2 H2 e2 r2 h2 w rw => ?_)
  exact hr r2 (rv.mono e2.le) rw h2
theorem PuE.op1 {r : V → Hp → VK → Prop} {f : D → R D} (hr : PuR1 G W r f) (ha : PuE G W o ta o1 ma) : PuE G W o (tUn r ta) o1 (m1 f ma) := by
  intro B F0 F H σ ρ Q rel h
  exact ha rel ((Res.bnd h).imp fun a F1 H1 e1 r1 h1 v rv => hr r1 rv h1)
theorem PuA.nil : PuA G W o tNil o mNil := fun {_ _ F H _ _ _} r q => q F H (Gr.refl F H) r [] .nil
theorem PuA.cons (ha : PuE G W o ta o1 ma) (hs : PuA G W o1 ts o2 ms) : PuA G W o (tCons ta ts) o2 (mCons ma ms) := by
  intro B F0 F H σ ρ Q rel h
  refine ha rel ((Res.bnd h).imp fun a F1 H1 e1 r1 h1 v rv => ?_)
  refine hs r1 ((Res.bnd h1).imp fun as F2 H2 e2 r2 h2 vs rvs => ?_)
  exact h2 F2 H2 (Gr.refl F2 H2) r2 (v :: vs) (.cons (rv.mono e2.le) rvs)
theorem PuE.cb {r : List V → Hp → VK → Prop} {f : List D → R D} (hr : PuC G W r f) (hs : PuA G W o ts o1 ms) : PuE G W o (tCB r ts) o1 (mCall f ms) := by
  intro B F0 F H σ ρ Q rel h
  exact hs rel ((Res.bnd h).imp fun a F1 H1 e1 r1 h1 v rv => hr r1 rv h1)
theorem PuO.cb {r : List V → Hp → VK → Prop} {f : List D → R D} (hr : PuCO G W r f) (hs : PuA G W o ts o1 ms) : PuO G W o (tCB r ts) o1 (mCall f ms) := by
  intro B F0 F H σ ρ Q rel h
  exact hs rel ((Res.bnd h).imp fun a F1 H1 e1 r1 h1 v rv => hr r1 rv h1)
/-- a new object as a plain value -/
theorem PuO.e (ha : PuO G W o ta o1 ma) : PuE G W o ta o1 ma := by
  intro B F0 F H σ ρ Q rel h
  refine ha rel ?_
  cases hm : ma ρ with
  | ok d =>
    rw [hm] at h
    intro F1 H1 e1 r1 a ow fa ba ap
    obtain ⟨x, hx⟩ := ow.there
    obtain ⟨e2, r2⟩ := r1.share hx fa ba ap
    exact h _ _ (e1.trans ⟨e2, Same.refl _⟩) r2 _ (ow.rp hx fa)
  | exc c p => rw [hm] at h; exact h
  | bad => rw [hm] at h; exact h
/-! ### tests -/
theorem PuT.val (ha : PuE G W o ta o1 ma) : PuT G W o (tTest ta) o1 (mB ma) := by
  intro B F0 F H σ ρ Q rel h
  refine ha rel ((Res.bnd h).imp fun a F1 H1 e1 r1 h1 v rv => ?_)
  cases rv with
  | bl b => exact ⟨b, rfl, h1 F1 H1 (Gr.refl F1 H1) r1⟩
  | _ => exact h1.elim
theorem PuT.and (h1 : PuT G W o t o1 mt) (h2 : PuT G W o1 u o1 mu) : PuT G W o (tAnd t u) o1 (mAnd mt mu) := by
  intro B F0 F H σ ρ Q rel h
  refine h1 rel ((Res.bnd h).imp fun a F1 H1 e1 r1 q => ?_)
  cases a with
  | true => exact h2 r1 q
  | false => exact q F1 H1 (Gr.refl F1 H1) r1
theorem PuT.or (h1 : PuT G W o t o1 mt) (h2 : PuT G W o1 u o1 mu) : PuT G W o (tOr t u) o1 (mOr mt mu) := by
  intro B F0 F H σ ρ Q rel h
  refine h1 rel ((Res.bnd h).imp fun a F1 H1 e1 r1 q => ?_)
  cases a with
  | true => exact q F1 H1 (Gr.refl F1 H1) r1
  | false => exact h2 r1 q
theorem PuT.not (h1 : PuT G W o t o1 mt) : PuT G W o (tNot t) o1 (mNot mt) := by
  intro B F0 F H σ ρ Q rel h
  exact h1 rel ((Res.bnd h).imp fun a F1 H1 e1 r1 q => q F1 H1 (Gr.refl F1 H1) r1)
theorem PuE.ite (h1 : PuT G W o t o1 mt) (ha : PuE G W o1 ta o2 ma) (hb : PuE G W o1 tb o2 mb) : PuE G W o (tIf t ta tb) o2 (mIte mt ma mb) := by
  intro B F0 F H σ ρ Q rel h
  refine h1 rel ((Res.bnd h).imp fun a F1 H1 e1 r1 q => ?_)
  cases a with
  | true => exact ha r1 q
  | false => exact hb r1 q
/-- and, or of truth values, as a value -/
theorem PuE.andV (ha : PuE G W o ta o1 ma) (hb : PuE G W o1 tb o1 mb) : PuE G W o (tAndV ta tb) o1 (mAndV ma mb) := by
  intro B F0 F H σ ρ Q rel h
  refine ha rel ((Res.bnd h).imp fun a F1 H1 e1 r1 q v rv => ?_)
  cases rv with
  | bl c =>
    refine ⟨c, rfl, ?_⟩
    cases c with
    | true => exact hb r1 q
    | false => exact q F1 H1 (Gr.refl F1 H1) r1 _ (.bl false)
  | _ => exact q.elim
theorem PuE.orV (ha : PuE G W o ta o1 ma) (hb : PuE G W o1 tb o1 mb) : PuE G W o (tOrV ta tb) o1 (mOrV ma mb) := by
  intro B F0 F H σ ρ Q rel h
  refine ha rel ((Res.bnd h).imp fun a F1 H1 e1 r1 q v rv => ?_)
  cases rv with
  | bl c =>
    refine ⟨c, rfl, ?_⟩
    cases c with
    | true => exact q F1 H1 (Gr.refl F1 H1) r1 _ (.bl true)
    | false => exact hb r1 q
  | _ => exact q.elim
theorem PuE.notV (ha : PuE G W o ta o1 ma) : PuE G W o (tNotV ta) o1 (mNotV ma) := by
  intro B F0 F H σ ρ Q rel h
  refine ha rel ((Res.bnd h).imp fun a F1 H1 e1 r1 q v rv => ?_)
  cases rv with
  | bl c => exact ⟨c, rfl, q F1 H1 (Gr.refl F1 H1) r1 _ (.bl (!c))⟩
  | _ => exact q.elim
/-- a op b op' c -/
theorem PuE.chain {r r' : R2} {f g : D → D → R D} (hr : PuR2 G W r f) (hr' : PuR2 G W r' g) (ha : PuE G W o ta o1 ma) (hb : PuE G W o1 tb o2 mb) (hc : PuE G W o2 tc o2 mc) : PuE G W o (tChain r r' ta tb tc) o2 (mChain f g ma mb mc) := by
  intro B F0 F H σ ρ Q rel h
  refine ha rel ((Res.bnd h).imp fun a F1 H1 e1 r1 h1 v rv => ?_)
  refine hb r1 ((Res.bnd h1).imp fun b F2 H2 e2 r2 h2 w rw => ?_)
  refine hr r2 (rv.mono e2.le) rw ((Res.bnd h2).imp fun z F3 H3 e3 r3 h3 zv rz => ?_)
  cases rz with
  | bl k =>
    refine ⟨k, rfl, ?_⟩
    cases k with
    | true => exact hc r3 ((Res.bnd (r := mc ρ) (f := fun w => g b w) h3).imp fun y F4 H4 e4 r4 h4 yv ry => hr' r4 ((rw.mono e3.le).mono e4.le) ry h4)
    | false => exact h3 F3 H3 (Gr.refl F3 H3) r3 _ (.bl false)
  | _ => exact h3.elim
/-- a value's truth -/
theorem PuT.tru {r : V → Hp → (Bool → Hp → Prop) → Prop} {f : D → R Bool} (hr : ∀ {B F0 F H : Hp} {o : List Nat} {σ : L2.St} {ρ : Env} {Q : Bool → Hp → Prop} {v : V} {a : D}, Rel G B F0 F H o σ ρ → Rp G F a v → Res G W B F0 F H o σ ρ (kT Q) (f a) → r v H Q)
    (ha : PuE G W o ta o1 ma) : PuT G W o (fun σ H Q => ta σ H fun x H' => r x H' Q) o1 (fun ρ => (ma ρ).bind f) := by
  intro B F0 F H σ ρ Q rel h
  exact ha rel ((Res.bnd h).imp fun a F1 H1 e1 r1 h1 v rv => hr r1 rv h1)
end

/-! ### statements -/
section
variable {G : Gc} {W : WX} {B F0 F F1 : Hp} {oL o o1 o2 o3 : List Nat} {X : Ends}
theorem Post.mono {m : Out} (e : Le F F1) (h : Post G W B F0 F oL o X m) : Post G W B F0 F1 oL o X m := by
  cases m with
  | nx ρ => exact fun F' H' σ' le => h F' H' σ' (e.trans le)
  | rt d => exact fun F' H' v le => h F' H' v (e.trans le)
  | bk ρ => exact fun F' H' σ' le => h F' H' σ' (e.trans le)
  | ct ρ => exact fun F' H' σ' le => h F' H' σ' (e.trans le)
  | exc c p ρ => exact fun F' H' σ' cls dd le => h F' H' σ' cls dd (e.trans le)
  | bad => exact h
/-- from a statement's end to the end of the expression that it starts with -/
theorem Post.res {α : Type} {H : Hp} {r : R α} {f : α → Out} {σ : L2.St} {ρ : Env} (h : Post G W B F0 F oL o X (oBind r ρ f)) : Res G W B F0 F H o1 σ ρ (fun a F' _ => Post G W B F0 F' oL o X (f a)) r := by
  cases r with
  | ok a => exact fun F' H' le _ => Post.mono le.le h
  | exc c p => exact fun F' H' cls dd le rel x => h F' H' σ cls dd le rel x
  | bad => exact h
variable {t u : TS} {m n : Env → Out} {ta : TE} {ma : Env → R D} {tt : TT} {mt : Env → R Bool}
theorem PuS.next : PuS G W oL o tNext o mNext := fun {_ _ F H σ _ _} r h => h F H σ (Le.refl F) r
theorem PuS.seq (h1 : PuS G W oL o t o1 m) (h2 : PuS G W oL o1 u o2 n) : PuS G W oL o (tSeq t u) o2 (mSeq m n) := by
  intro B F0 F H σ ρ X rel h
  refine h1 rel ?_
  unfold mSeq at h
  cases hm : m ρ with
  | nx ρ' =>
    rw [hm] at h
    exact fun F' H' σ' le r' => h2 r' (Post.mono le h)
  | rt d => rw [hm] at h; exact h
  | bk ρ' => rw [hm] at h; exact h
  | ct ρ' => rw [hm] at h; exact h
  | exc c p ρ' => rw [hm] at h; exact h
  | bad => rw [hm] at h; exact h
/-- some own objects are given to everybody behind a statement -/
theorem PuS.weak (l : List Nat) (h1 : PuS G W oL o t o1 m) : PuS G W oL o t (o1.filter fun j => !l.contains j) m := by
  intro B F0 F H σ ρ X rel h
  refine h1 rel ?_
  cases hm : m ρ with
  | nx ρ' =>
    rw [hm] at h
    exact fun F' H' σ' le r' => by
      obtain ⟨F2, e2, r2⟩ := Rel.giveAll l r'
      exact h F2 H' σ' (le.trans e2) r2
  | rt d => rw [hm] at h; exact h
  | bk ρ' => rw [hm] at h; exact h
  | ct ρ' => rw [hm] at h; exact h
  | exc c p ρ' => rw [hm] at h; exact h
  | bad => rw [hm] at h; exact h
/-- .. ahead of it -/
theorem PuS.weak0 (l : List Nat) (h1 : PuS G W oL (o.filter fun j => !l.contains j) t o1 m) : PuS G W oL o t o1 m := by
  intro B F0 F H σ ρ X rel h
  obtain ⟨F2, e2, r2⟩ := Rel.giveAll l rel
  exact h1 r2 (Post.mono e2 h)
theorem PuS.set {i : Nat} (ha : PuE G W o ta o1 ma) : PuS G W oL o (tAsg ta (gName i)) (o1.filter (· != i)) (mSet i ma) := by
  intro B F0 F H σ ρ X rel h
  exact ha rel ((Post.res h).imp fun d F1 H1 e1 r1 q v rv => q F1 H1 _ (Le.refl F1) (r1.set rv))
theorem PuS.setO {i : Nat} (ha : PuO G W o ta o1 ma) : PuS G W oL o (tAsg ta (gName i)) (i :: o1.filter (· != i)) (mSet i ma) := by
  intro B F0 F H σ ρ X rel h
  exact ha rel ((Post.res h).imp fun d F1 H1 e1 r1 q a ow fa ba ap => q F1 H1 _ (Le.refl F1) (r1.setOwn ow fa ba ap))
theorem PuS.drop (ha : PuE G W o ta o1 ma) : PuS G W oL o (tDrop ta) o1 (mDrop ma) := by
  intro B F0 F H σ ρ X rel h
  exact ha rel ((Post.res h).imp fun d F1 H1 e1 r1 q v rv => q F1 H1 _ (Le.refl F1) r1)
theorem PuS.ret (ha : PuE G W o ta o1 ma) : PuS G W oL o (tRet ta) o2 (mRet ma) := by
  intro B F0 F H σ ρ X rel h
  exact ha rel ((Post.res h).imp fun d F1 H1 e1 r1 q v rv => q F1 H1 v (Le.refl F1) r1.core rv)
theorem PuS.retN : PuS G W oL o tRetN o2 mRetN := fun {_ _ F H _ _ _} r h => h F H .non (Le.refl F) r.core .non
theorem PuS.ifS (hc : PuT G W o tt o1 mt) (h1 : PuS G W oL o1 t o2 m) (h2 : PuS G W oL o1 u o2 n) : PuS G W oL o (tIfS tt t u) o2 (mIf mt m n) := by
  intro B F0 F H σ ρ X rel h
  refine hc rel ((Post.res h).imp fun b F1 H1 e1 r1 q => ?_)
  cases b with
  | true => exact h1 r1 q
  | false => exact h2 r1 q
theorem PuS.bad : PuS G W oL o tNever o2 mBad := fun _ h => h
theorem PuS.brk (hs : oL = o) : PuS G W oL o tBreak o2 mBrk := fun {_ _ F H σ _ _} r h => h F H σ (Le.refl F) (by rw [hs]; exact r)
theorem PuS.cnt (hs : oL = o) : PuS G W oL o tCont o2 mCnt := fun {_ _ F H σ _ _} r h => h F H σ (Le.refl F) (by rw [hs]; exact r)
end

/-! ### targets -/
def PuG (G : Gc) (o : List Nat) (g : TG) (o' : List Nat) (mg : D → Env → R Env) : Prop :=
  ∀ {B F0 F H : Hp} {σ : L2.St} {ρ : Env} {K : L2.St → Hp → Prop} {v : V} {d : D}, Rel G B F0 F H o σ ρ → Rp G F d v → (∃ ρ', mg d ρ = .ok ρ' ∧ ∀ σ', Rel G B F0 F H o' σ' ρ' → K σ' H) → g v σ H K
def PuGs (G : Gc) (o : List Nat) (g : TGs) (o' : List Nat) (mg : List D → Env → R Env) : Prop :=
  ∀ {B F0 F H : Hp} {σ : L2.St} {ρ : Env} {K : L2.St → Hp → Prop} {vs : List V} {ds : List D}, Rel G B F0 F H o σ ρ → RpL G F ds vs → (∃ ρ', mg ds ρ = .ok ρ' ∧ ∀ σ', Rel G B F0 F H o' σ' ρ' → K σ' H) → g vs σ H K
def gnName (i : Nat) : D → Env → R Env := fun d ρ => .ok (ρ.set i (some d))
def gnNil : List D → Env → R Env := fun ds ρ => match ds with
  | [] => .ok ρ
  | _ => .bad
def gnCons (g : D → Env → R Env) (r : List D → Env → R Env) : List D → Env → R Env := fun ds ρ => match ds with
  | d :: ds => (g d ρ).bind fun ρ' => r ds ρ'
  | [] => .bad
def gnTup (n : Nat) (g : List D → Env → R Env) : D → Env → R Env := fun d ρ => match d with
  | .tup ds => if ds.length = n then g ds ρ else .bad
  | .ktup ds => if ds.length = n then g ds ρ else .bad
  | _ => .bad
section
variable {G : Gc} {o o1 o2 : List Nat} {g : TG} {gs : TGs} {mg : D → Env → R Env} {mgs : List D → Env → R Env}
theorem PuG.name {i : Nat} : PuG G o (gName i) (o.filter (· != i)) (gnName i) := by
  intro B F0 F H σ ρ K v d rel rv h
  obtain ⟨ρ', e, k⟩ := h
  cases e
  exact k _ (rel.set rv)
theorem PuGs.nil : PuGs G o gNil o gnNil := by
  intro B F0 F H σ ρ K vs ds rel rv h
  obtain ⟨ρ', e, k⟩ := h
  cases rv with
  | nil => cases e; exact ⟨rfl, k _ rel⟩
  | cons _ _ => cases e
theorem PuGs.cons (h1 : PuG G o g o1 mg) (h2 : PuGs G o1 gs o2 mgs) : PuGs G o (gCons g gs) o2 (gnCons mg mgs) := by
  intro B F0 F H σ ρ K vs ds rel rv h
  obtain ⟨ρ', e, k⟩ := h
  cases rv with
  | nil => cases e
  | @cons d v ds vs h3 h4 =>
    refine ⟨v, vs, rfl, h1 rel h3 ?_⟩
    show ∃ ρ1, mg d ρ = .ok ρ1 ∧ _
    have e' : (mg d ρ).bind (fun ρ' => mgs ds ρ') = .ok ρ' := e
    cases q : mg d ρ with
    | ok ρ1 =>
      rw [q] at e'
      exact ⟨ρ1, rfl, fun σ1 r1 => h2 r1 h4 ⟨ρ', e', k⟩⟩
    | exc c p => rw [q] at e'; cases e'
    | bad => rw [q] at e'; cases e'
theorem PuG.tup {K : PySem.W.Frag} {n : Nat} (hK : G.K = K) (h : PuGs G o gs o1 mgs) : PuG G o (gTup K n gs) o1 (gnTup n mgs) := by
  subst hK
  intro B F0 F H σ ρ K v d rel rv hh
  obtain ⟨ρ', e, k⟩ := hh
  cases rv with
  | @tup a vs ds h1 h2 =>
    have e' : (if ds.length = n then mgs ds ρ else .bad) = .ok ρ' := e
    split at e'
    · rename_i hl
      exact ⟨a, vs, rfl, .inl (.inl (rel.core.fh _ _ h1)), by rw [← h2.length]; exact hl, h rel h2 ⟨ρ', e', k⟩⟩
    · cases e'
  | @ktup a vs ds h1 h2 =>
    have e' : (if ds.length = n then mgs ds ρ else .bad) = .ok ρ' := e
    split at e'
    · rename_i hl
      have hq : SqT G.K H a vs := h1.elim (fun q => .inl (q.elim (fun q => .inl (rel.core.fh _ _ q)) fun ⟨o, q⟩ => .inr ⟨o, rel.core.fh _ _ q⟩)) .inr
      exact ⟨a, vs, rfl, hq, by rw [← h2.length]; exact hl, h rel h2 ⟨ρ', e', k⟩⟩
    · cases e'
  | _ => cases e
end
end G
/-! S3: borrowing, loops, comprehensions, calls. -/
namespace G
open PySem L2

/-! ### borrowing: an own object is read, the answer holds nothing of it -/
def D.scal : D → Bool
  | .non => true
  | .bl _ => true
  | .int _ => true
  | .str _ => true
  | .fn _ => true
  | _ => false
theorem Rp.scal {G : Gc} {F F' : Hp} {d : D} {v : V} (h : Rp G F d v) (hs : d.scal = true) : Rp G F' d v := by
  cases h with
  | non => exact .non
  | bl b => exact .bl b
  | int i => exact .int i
  | str x => exact .str x
  | fn e => exact .fn e
  | _ => cases hs
theorem RpL.scal {G : Gc} {F F' : Hp} : ∀ {ds : List D} {vs : List V}, RpL G F ds vs → ds.all D.scal = true → RpL G F' ds vs
  | _, _, .nil, _ => .nil
  | _, _, .cons h r, e => by
    rw [List.all_cons, Bool.and_eq_true] at e
    exact .cons (h.scal e.1) (RpL.scal r e.2)
def mScal (m : Env → R D) : Env → R D := fun ρ => (m ρ).bind fun d => if d.scal = true then .ok d else .bad
def mScalL (m : Env → R D) : Env → R D := fun ρ => (m ρ).bind fun d => match d with
  | .lst ds => if ds.all D.scal = true then .ok d else .bad
  | .iset xs => .ok d
  | _ => .bad
section
variable {G : Gc} {W : WX} {B F0 F F' H H' : Hp} {o o1 o2 oL oI : List Nat} {σ : L2.St} {ρ : Env} {i : Nat}
/-- F without a -/
def cutA (F : Hp) (a : Addr) : Hp := fun b => if b = a then none else F b
theorem cutA_ne {F : Hp} {a b : Addr} (h : b ≠ a) : cutA F a b = F b := if_neg h
theorem cutA_same {F : Hp} {a : Addr} : cutA F a a = none := if_pos rfl
theorem cutA_some {F : Hp} {a b : Addr} {u : HO} (h : cutA F a b = some u) : b ≠ a ∧ F b = some u := by
  unfold cutA at h
  split at h
  · cases h
  · rename_i hb; exact ⟨hb, h⟩
/-- what holds again behind the borrowing -/
theorem Rel.back {a : Addr} {d : D} {u : HO} (r : Rel G B F0 F H o σ ρ) (hi : i ∈ o) (hd : ρ[i]? = some (some d)) (hs : σ[i]? = some (some (.ref a))) (e : Gr (upd F a u) H F' H') (r' : Rel G B F0 F' H' (o.filter (· != i)) σ ρ) :
    Gr F H (cutA F' a) H' ∧ Rel G B F0 (cutA F' a) H' o σ ρ := by
  obtain ⟨b, q1, q2, q3, q4⟩ := r.ow i d hd hi
  rw [hs] at q1; cases q1
  have ne : ∀ {b u}, F b = some u → b ≠ a := fun {b u} q => ne_of_none q q3
  have le : Le F (cutA F' a) := by
    refine ⟨⟨fun b u p q => ?_, fun b u p q => ?_⟩, fun b x u q => ?_⟩
    · have hb : b ≠ a := by rcases q with q | ⟨x, q⟩ <;> exact ne q
      have q' := e.le.rd b u p (by
        rcases q with q | ⟨x, q⟩
        · exact .inl (by rw [upd_ne hb]; exact q)
        · exact .inr ⟨x, by rw [upd_ne hb]; exact q⟩)
      rcases q' with z | ⟨x, z⟩
      · exact .inl (by rw [cutA_ne hb]; exact z)
      · exact .inr ⟨x, by rw [cutA_ne hb]; exact z⟩
    · rw [cutA_ne (ne q)]
      exact e.le.ex b u p (by rw [upd_ne (ne q)]; exact q)
    · rw [cutA_ne (ne q)]
      exact e.le.fz b x u (by rw [upd_ne (ne q)]; exact q)
  refine ⟨⟨le, e.same⟩, ⟨⟨fun b w q => r'.core.fh b w (cutA_some q).2, r'.core.bh, fun b q => r'.core.nf b fun z => q ?_, r'.core.f0⟩, r.len, fun j f h1 h2 => let ⟨v, x, y⟩ := r.sh j f h1 h2; ⟨v, x, y.mono le⟩, fun j f h1 h2 => ?_, r.dj⟩⟩
  · unfold cutA; split
    · rfl
    · exact z
  · obtain ⟨b, x1, x2, x3, x4⟩ := r.ow j f h1 h2
    refine ⟨b, x1, x2.mono le (e.same b), ?_, x4⟩
    by_cases hj : j = i
    · subst hj
      rw [hs] at x1; cases x1
      exact cutA_same
    · have hb : b ≠ a := fun z => r.dj j i f d a hj h2 hi h1 hd (by rw [← z]; exact x1) hs
      obtain ⟨b', y1, y2, y3, y4⟩ := r'.ow j f h1 (List.mem_filter.mpr ⟨h2, by simpa using hj⟩)
      rw [x1] at y1; cases y1
      rw [cutA_ne hb]
      exact y3
/-- what is lent: the slot's object may be read by everybody -/
theorem Rel.lend {d : D} (r : Rel G B F0 F H o σ ρ) (hi : i ∈ o) (hd : ρ[i]? = some (some d)) : ∃ a u, σ[i]? = some (some (.ref a)) ∧ F a = none ∧ H a = some u ∧ Le F (upd F a u) ∧ Rel G B F0 (upd F a u) H (o.filter (· != i)) σ ρ := by
  obtain ⟨a, q1, q2, q3, q4⟩ := r.ow i d hd hi
  obtain ⟨u, hu⟩ := q2.there
  have mem : ∀ {j}, j ∈ o.filter (· != i) → j ∈ o ∧ j ≠ i := fun {j} h => by
    rw [List.mem_filter] at h; exact ⟨h.1, by simpa using h.2⟩
  have e := Le.upd (u := u) q3
  refine ⟨a, u, q1, q3, hu, e, ⟨⟨fun b w q => ?_, r.core.bh, fun b q => ?_, r.core.f0⟩, r.len, fun j f h1 h2 => ?_, fun j f h1 h2 => ?_, fun j k f g b h1 h2 h3 => r.dj j k f g b h1 (mem h2).1 (mem h3).1⟩⟩
  · by_cases hb : b = a
    · subst hb; rw [upd_same] at q; cases q; exact hu
    · rw [upd_ne hb] at q; exact r.core.fh b w q
  · by_cases hb : b = a
    · subst hb; exact .inr q4
    · rw [upd_ne hb] at q; exact r.core.nf b q
  · by_cases hj : j = i
    · subst hj
      rw [hd] at h1; cases h1
      exact ⟨_, q1, q2.rp hu q3⟩
    · have h3 : j ∉ o := fun z => h2 (List.mem_filter.mpr ⟨z, by simpa using hj⟩)
      obtain ⟨v, x, y⟩ := r.sh j f h1 h3
      exact ⟨v, x, y.mono e⟩
  · obtain ⟨b, x1, x2, x3, x4⟩ := r.ow j f h1 (mem h2).1
    have hb : b ≠ a := fun z => r.dj j i f d a (mem h2).2 (mem h2).1 hi h1 hd (by rw [← z]; exact x1) q1
    exact ⟨b, x1, x2.mono e fun _ z => z, by rw [upd_ne hb]; exact x3, x4⟩
variable {t : TE} {m : Env → R D} {tt : TT} {mt : Env → R Bool}
theorem ExcEnd.back {u : HO} {a : Addr} {c : Str} {p : Option (Str × D)} (e : Le F (upd F a u)) (h : ExcEnd G W B F0 F σ ρ c p) : ExcEnd G W B F0 (upd F a u) σ ρ c p := fun F' H' cls dd le rel x => h F' H' cls dd (e.trans le) rel x
theorem mScal_res {r : R D} {f : D → R D} {G W} {B F0 F H : Hp} {o σ ρ} {k : D → Hp → Hp → Prop} (h : Res G W B F0 F H o σ ρ k (r.bind f)) : (∃ d, r = .ok d) ∨ ∃ c p, r = .exc c p ∧ ExcEnd G W B F0 F σ ρ c p := by
  cases r with
  | ok d => exact .inl ⟨d, rfl⟩
  | exc c p => exact .inr ⟨c, p, rfl, h⟩
  | bad => exact h.elim
theorem Rel.unk (r : Rel G B F0 F H o σ ρ) (h : ∀ d, ρ[i]? ≠ some (some d)) : Rel G B F0 F H (o.filter (· != i)) σ ρ := by
  have mem : ∀ {j}, j ∈ o.filter (· != i) → j ∈ o := fun {j} h => (List.mem_filter.mp h).1
  refine ⟨r.core, r.len, fun j f h1 h2 => r.sh j f h1 fun z => h2 (List.mem_filter.mpr ⟨z, ?_⟩), fun j f h1 h2 => r.ow j f h1 (mem h2), fun j k f g b h1 h2 h3 => r.dj j k f g b h1 (mem h2) (mem h3)⟩
  have : j ≠ i := fun q => h f (q ▸ h1)
  simpa using this
theorem Rel.unk' (r : Rel G B F0 F H (o.filter (· != i)) σ ρ) (h : ∀ d, ρ[i]? ≠ some (some d)) : Rel G B F0 F H o σ ρ := by
  have mem : ∀ {j f}, ρ[j]? = some (some f) → j ∈ o → j ∈ o.filter (· != i) := fun {j f} h1 h2 => List.mem_filter.mpr ⟨h2, by have : j ≠ i := fun q => h f (q ▸ h1); simpa using this⟩
  exact ⟨r.core, r.len, fun j f h1 h2 => r.sh j f h1 fun z => h2 (List.mem_filter.mp z).1, fun j f h1 h2 => r.ow j f h1 (mem h1 h2), fun j k f g b h1 h2 h3 h4 h5 => r.dj j k f g b h1 (mem h4 h2) (mem h5 h3) h4 h5⟩
theorem known_or (ρ : Env) (i : Nat) : (∃ d, ρ[i]? = some (some d)) ∨ ∀ d, ρ[i]? ≠ some (some d) := by
  cases h : ρ[i]? with
  | none => exact .inr fun d q => by cases q
  | some z =>
    cases z with
    | none => exact .inr fun d q => by cases q
    | some d => exact .inl ⟨d, rfl⟩
/-- an own slot is only read on the way to a scalar -/
theorem PuE.borrow (i : Nat) (hi : i ∈ o) (h : PuE G W (o.filter (· != i)) t (o.filter (· != i)) m) : PuE G W o t o (mScal m) := by
  intro B F0 F H σ ρ Q rel q
  unfold mScal at q
  rcases known_or ρ i with ⟨e, hρ⟩ | hρ
  · obtain ⟨a, u, h1, h2, h3, h4, h5⟩ := rel.lend hi hρ
    refine h h5 ?_
    cases hm : m ρ with
    | ok d =>
      rw [hm] at q
      have q' : Res G W B F0 F H o σ ρ (kE G Q) (if d.scal = true then .ok d else .bad) := q
      split at q'
      · rename_i hs
        intro F' H' gr r' v rv
        obtain ⟨g2, r2⟩ := rel.back hi hρ h1 gr r'
        exact q' _ H' g2 r2 v (rv.scal hs)
      · exact q'.elim
    | exc c p => rw [hm] at q; exact ExcEnd.back h4 q
    | bad => rw [hm] at q; exact q
  · refine h (rel.unk hρ) ?_
    cases hm : m ρ with
    | ok d =>
      rw [hm] at q
      have q' : Res G W B F0 F H o σ ρ (kE G Q) (if d.scal = true then .ok d else .bad) := q
      split at q'
      · exact fun F' H' gr r' v rv => q' F' H' gr (r'.unk' hρ) v rv
      · exact q'.elim
    | exc c p => rw [hm] at q; exact q
    | bad => rw [hm] at q; exact q
theorem PuT.borrow (i : Nat) (hi : i ∈ o) (h : PuT G W (o.filter (· != i)) tt (o.filter (· != i)) mt) : PuT G W o tt o mt := by
  intro B F0 F H σ ρ Q rel q
  rcases known_or ρ i with ⟨e, hρ⟩ | hρ
  · obtain ⟨a, u, h1, h2, h3, h4, h5⟩ := rel.lend hi hρ
    refine h h5 ?_
    cases hm : mt ρ with
    | ok d =>
      rw [hm] at q
      intro F' H' gr r'
      obtain ⟨g2, r2⟩ := rel.back hi hρ h1 gr r'
      exact q (cutA F' a) H' g2 r2
    | exc c p => rw [hm] at q; exact ExcEnd.back h4 q
    | bad => rw [hm] at q; exact q
  · refine h (rel.unk hρ) ?_
    cases hm : mt ρ with
    | ok d => rw [hm] at q; exact fun F' H' gr r' => q F' H' gr (r'.unk' hρ)
    | exc c p => rw [hm] at q; exact q
    | bad => rw [hm] at q; exact q
/-- .. on the way to a new list of scalars -/
theorem PuO.borrow (i : Nat) (hi : i ∈ o) (h : PuO G W (o.filter (· != i)) t (o.filter (· != i)) m) : PuO G W o t o (mScalL m) := by
  intro B F0 F H σ ρ Q rel q
  unfold mScalL at q
  have own : ∀ {d : D} {F' F2 H' : Hp} {a : Addr}, (∀ ds, d = .lst ds → ds.all D.scal = true) → (∀ tk ks ds, d ≠ .dic tk ks ds) → Own G F' H' d a → Own G F2 H' d a := fun {d F' F2 H' a} h1 h2 ow => by
    cases ow with
    | lst e r => exact .lst e (r.scal (h1 _ rfl))
    | iset e n => exact .iset e n
    | dicK _ _ _ => exact absurd rfl (h2 _ _ _)
    | dicT _ _ _ => exact absurd rfl (h2 _ _ _)
  have cond : ∀ {d : D}, Res G W B F0 F H o σ ρ (kO G B o σ ρ Q) (match d with
      | .lst ds => if ds.all D.scal = true then .ok d else .bad
      | .iset xs => .ok d
      | _ => .bad) → (∀ ds, d = .lst ds → ds.all D.scal = true) ∧ (∀ tk ks ds, d ≠ .dic tk ks ds) ∧ Res G W B F0 F H o σ ρ (kO G B o σ ρ Q) (.ok d) := fun {d} q => by
    cases d with
    | lst ds =>
      have q' : Res G W B F0 F H o σ ρ (kO G B o σ ρ Q) (if ds.all D.scal = true then .ok (.lst ds) else .bad) := q
      split at q'
      · rename_i hs
        exact ⟨fun _ e => (by cases e; exact hs), fun _ _ _ e => (by cases e), q'⟩
      · exact q'.elim
    | iset xs => exact ⟨fun _ e => (by cases e), fun _ _ _ e => (by cases e), q⟩
    | _ => exact q.elim
  rcases known_or ρ i with ⟨e, hρ⟩ | hρ
  · obtain ⟨a, u, h1, h2, h3, h4, h5⟩ := rel.lend hi hρ
    refine h h5 ?_
    cases hm : m ρ with
    | ok d =>
      rw [hm] at q
      obtain ⟨c1, c2, q'⟩ := cond q
      intro F' H' gr r' b ow fb bb ap
      obtain ⟨g2, r2⟩ := rel.back hi hρ h1 gr r'
      have hb : b ≠ a := fun z => by
        have y := gr.le.rd a u
        subst z
        have k1 : F' b = none := fb
        have k2 : (upd F b u) b = some u := upd_same
        cases u with
        | frz o' u' => rw [gr.le.fz b o' u' k2] at k1; cases k1
        | _ =>
          rcases y rfl (.inl k2) with z | ⟨o', z⟩
          · rw [z] at k1; cases k1
          · rw [z] at k1; cases k1
      refine q' _ H' g2 r2 b (own c1 c2 ow) (by rw [cutA_ne hb]; exact fb) bb fun j f hj hf hs => ?_
      by_cases hij : j = i
      · subst hij
        rw [h1] at hs; cases hs
        exact hb rfl
      · exact ap j f (List.mem_filter.mpr ⟨hj, by simpa using hij⟩) hf hs
    | exc c p => rw [hm] at q; exact ExcEnd.back h4 q
    | bad => rw [hm] at q; exact q
  · refine h (rel.unk hρ) ?_
    cases hm : m ρ with
    | ok d =>
      rw [hm] at q
      obtain ⟨c1, c2, q'⟩ := cond q
      intro F' H' gr r' b ow fb bb ap
      refine q' F' H' gr (r'.unk' hρ) b ow fb bb fun j f hj hf hs => ?_
      by_cases hij : j = i
      · subst hij; exact hρ f hf
      · exact ap j f (List.mem_filter.mpr ⟨hj, by simpa using hij⟩) hf hs
    | exc c p => rw [hm] at q; exact q
    | bad => rw [hm] at q; exact q
/-- own objects are given away ahead of an expression -/
theorem PuE.weak0 (l : List Nat) (h : PuE G W (o.filter fun j => !l.contains j) t o1 m) : PuE G W o t o1 m := by
  intro B F0 F H σ ρ Q rel q
  obtain ⟨F2, e2, r2⟩ := Rel.giveAll l rel
  exact h r2 (q.mono ⟨e2, Same.refl H⟩)
theorem PuT.weak0 (l : List Nat) (h : PuT G W (o.filter fun j => !l.contains j) tt o1 mt) : PuT G W o tt o1 mt := by
  intro B F0 F H σ ρ Q rel q
  obtain ⟨F2, e2, r2⟩ := Rel.giveAll l rel
  exact h r2 (q.mono ⟨e2, Same.refl H⟩)
theorem PuO.weak0 (l : List Nat) (h : PuO G W (o.filter fun j => !l.contains j) t o1 m) : PuO G W o t o1 m := by
  intro B F0 F H σ ρ Q rel q
  obtain ⟨F2, e2, r2⟩ := Rel.giveAll l rel
  exact h r2 (q.mono ⟨e2, Same.refl H⟩)
end

/-! ### what is walked -/
/-- the iterator J gives the plain values ds, one behind another, whatever is laid meanwhile -/
def Yields (G : Gc) (F1 : Hp) (J : It) (ds : List D) : Prop := ∀ F2 H2, Le F1 F2 → (∀ a u, F2 a = some u → H2 a = some u) →
  (∀ i, i < ds.length → J.go i H2) ∧ J.stop ds.length H2 ∧ ∀ (i : Nat) d x H3, ds[i]? = some d → J.yld i H2 x H3 →
    ∃ F3, Gr F2 H2 F3 H3 ∧ (∀ a u, F3 a = some u → H3 a = some u) ∧ (∀ a, F3 a ≠ none → F2 a ≠ none ∨ H2 a = none) ∧ Rp G F3 d x
def PuI (G : Gc) (W : WX) (o : List Nat) (wi : TI) (o' : List Nat) (mi : Env → R (List D)) : Prop :=
  ∀ {B F0 F H : Hp} {σ : L2.St} {ρ : Env} {K : It → Hp → Prop}, Rel G B F0 F H o σ ρ → Res G W B F0 F H o' σ ρ (fun ds F' H' => ∀ J, Yields G F' J ds → K J H') (mi ρ) → wi σ H K
def loopD (f : D → Env → Out) : List D → Env → Out
  | [], ρ => .nx ρ
  | d :: ds, ρ => match f d ρ with
    | .nx ρ' => loopD f ds ρ'
    | .ct ρ' => loopD f ds ρ'
    | .bk ρ' => .nx ρ'
    | x => x
def stepD (mg : D → Env → R Env) (mb : Env → Out) : D → Env → Out := fun d ρ => match mg d ρ with
  | .ok ρ' => mb ρ'
  | _ => .bad
def mFor (mi : Env → R (List D)) (mg : D → Env → R Env) (mb : Env → Out) : Env → Out := fun ρ => oBind (mi ρ) ρ fun ds => loopD (stepD mg mb) ds ρ
def whileN (c : Env → R Bool) (b : Env → Out) : Nat → Env → Out
  | 0, _ => .bad
  | n + 1, ρ => oBind (c ρ) ρ fun x => bif x then (match b ρ with
    | .nx ρ' => whileN c b n ρ'
    | .ct ρ' => whileN c b n ρ'
    | .bk ρ' => .nx ρ'
    | x => x) else .nx ρ
def bigN : Nat := 1000000000
def mWhile (c : Env → R Bool) (b : Env → Out) : Env → Out := whileN c b bigN
section
variable {G : Gc} {W : WX} {o o1 oL oI : List Nat} {wi : TI} {g : TG} {tb : TS} {tc : TT} {mi : Env → R (List D)} {mg : D → Env → R Env} {mb : Env → Out} {mc : Env → R Bool}
theorem PuS.forS (hi : PuI G W o wi oI mi) (hg : PuG G oI g oI mg) (hb : PuS G W oI oI tb oI mb) : PuS G W oL o (tFor wi g tb) oI (mFor mi mg mb) := by
  intro B F0 F H σ ρ X rel h
  refine hi rel ((Post.res h).imp fun ds F1 H1 e1 r1 q J Y => ?_)
  let Inv : Nat → L2.St → Hp → Prop := fun i σ' H' => ∃ F' ρ', Le F1 F' ∧ Rel G B F0 F' H' oI σ' ρ' ∧ Post G W B F0 F' oL oI X (loopD (stepD mg mb) (ds.drop i) ρ')
  refine ⟨fun i m σ' H' => m = ds.length - i ∧ i ≤ ds.length ∧ Inv i σ' H', ⟨ds.length, by simp, Nat.zero_le _, F1, ρ, Le.refl F1, r1, by simpa using q⟩, ?_⟩
  rintro i m σ' H' ⟨rfl, hle, F', ρ', le, r', p⟩
  obtain ⟨y1, y2, y3⟩ := Y F' H' le r'.core.fh
  by_cases hlt : i < ds.length
  · have hd : ds[i]? = some ds[i] := List.getElem?_eq_getElem hlt
    rw [List.drop_eq_getElem_cons hlt] at p
    refine .inr ⟨y1 i hlt, Inv (i + 1), fun σ2 H2 I2 => ⟨ds.length - (i + 1), by omega, rfl, hlt, I2⟩, fun x H3 hy => ?_⟩
    obtain ⟨F3, g3, f3, n3, rv⟩ := y3 i ds[i] x H3 hd hy
    have r3 := r'.grow g3.le f3 g3.same n3
    have p3 := Post.mono g3.le p
    have p4 : Post G W B F0 F3 oL oI X (match stepD mg mb ds[i] ρ' with
      | .nx ρ' => loopD (stepD mg mb) (ds.drop (i + 1)) ρ'
      | .ct ρ' => loopD (stepD mg mb) (ds.drop (i + 1)) ρ'
      | .bk ρ' => .nx ρ'
      | x => x) := p3
    unfold stepD at p4
    cases hm : mg ds[i] ρ' with
    | ok ρ2 =>
      rw [hm] at p4
      refine hg r3 rv ⟨ρ2, hm, fun σ2 r2 => hb r2 ?_⟩
      change Post G W B F0 F3 oL oI X (match mb ρ2 with
        | .nx ρ' => loopD (stepD mg mb) (ds.drop (i + 1)) ρ'
        | .ct ρ' => loopD (stepD mg mb) (ds.drop (i + 1)) ρ'
        | .bk ρ' => .nx ρ'
        | x => x) at p4
      cases hb2 : mb ρ2 with
      | nx ρ5 => rw [hb2] at p4; exact fun F5 H5 σ5 l5 r5 => ⟨F5, ρ5, (le.trans g3.le).trans l5, r5, Post.mono l5 p4⟩
      | ct ρ5 => rw [hb2] at p4; exact fun F5 H5 σ5 l5 r5 => ⟨F5, ρ5, (le.trans g3.le).trans l5, r5, Post.mono l5 p4⟩
      | bk ρ5 => rw [hb2] at p4; exact fun F5 H5 σ5 l5 r5 => p4 F5 H5 σ5 l5 r5
      | rt d => rw [hb2] at p4; exact p4
      | exc c q ρ5 => rw [hb2] at p4; exact p4
      | bad => rw [hb2] at p4; exact p4.elim
    | exc c q => rw [hm] at p4; exact p4.elim
    | bad => rw [hm] at p4; exact p4.elim
  · have e : i = ds.length := by omega
    subst e
    rw [List.drop_length] at p
    exact .inl ⟨y2, p F' H' σ' (Le.refl F') r'⟩
theorem PuS.whileS (hc : PuT G W o tc o mc) (hb : PuS G W o o tb o mb) : PuS G W oL o (tWhile tc tb) o (mWhile mc mb) := by
  intro B F0 F H σ ρ X rel h
  let Inv : Nat → L2.St → Hp → Prop := fun n σ' H' => ∃ F' ρ', Le F F' ∧ Rel G B F0 F' H' o σ' ρ' ∧ Post G W B F0 F' oL o X (whileN mc mb n ρ')
  refine ⟨Inv, ⟨bigN, F, ρ, Le.refl F, rel, h⟩, ?_⟩
  rintro n σ' H' ⟨F', ρ', le, r', p⟩
  cases n with
  | zero => exact p.elim
  | succ n =>
    have p' : Post G W B F0 F' oL o X (oBind (mc ρ') ρ' fun x => bif x then (match mb ρ' with
      | .nx ρ' => whileN mc mb n ρ'
      | .ct ρ' => whileN mc mb n ρ'
      | .bk ρ' => .nx ρ'
      | x => x) else .nx ρ') := p
    refine hc r' ((Post.res p').imp fun b F1 H1 e1 r1 q => ?_)
    cases b with
    | false => exact q F1 H1 σ' (Le.refl F1) r1
    | true =>
      refine ⟨Inv n, fun σ2 H2 I2 => ⟨n, Nat.lt_succ_self n, I2⟩, hb r1 ?_⟩
      have q' : Post G W B F0 F1 oL o X (match mb ρ' with
        | .nx ρ' => whileN mc mb n ρ'
        | .ct ρ' => whileN mc mb n ρ'
        | .bk ρ' => .nx ρ'
        | x => x) := q
      cases hb2 : mb ρ' with
      | nx ρ5 => rw [hb2] at q'; exact fun F5 H5 σ5 l5 r5 => ⟨F5, ρ5, (le.trans e1.le).trans l5, r5, Post.mono l5 q'⟩
      | ct ρ5 => rw [hb2] at q'; exact fun F5 H5 σ5 l5 r5 => ⟨F5, ρ5, (le.trans e1.le).trans l5, r5, Post.mono l5 q'⟩
      | bk ρ5 => rw [hb2] at q'; exact q'
      | rt d => rw [hb2] at q'; exact q'
      | exc c z ρ5 => rw [hb2] at q'; exact q'
      | bad => rw [hb2] at q'; exact q'.elim
end
end G
/-! S4: comprehensions, defs and their calls. -/
namespace G
open PySem L2

/-! ### slots forgotten -/
def wipeD (ρ : Env) : List Nat → Env
  | [] => ρ
  | v :: vs => (wipeD ρ vs).set v none
section
variable {G : Gc} {W W1 : WX} {B F0 F F' H H' : Hp} {o o1 o2 oL oI : List Nat} {σ σ2 : L2.St} {ρ ρ2 : Env}
theorem wipe_get (σ : L2.St) (j : Nat) : ∀ vs : List Nat, (wipe σ vs)[j]? = if j ∈ vs ∧ j < σ.length then some none else σ[j]?
  | [] => by simp [wipe]
  | v :: vs => by
    have ih := wipe_get σ j vs
    unfold wipe
    by_cases hj : v = j
    · subst hj
      by_cases hl : v < σ.length
      · rw [List.getElem?_set_self (by rw [wipe_length]; exact hl)]
        simp [hl]
      · rw [List.getElem?_eq_none (by rw [List.length_set, wipe_length]; omega)]
        simp [hl]
    · rw [List.getElem?_set_ne hj, ih]
      have : j ≠ v := fun q => hj q.symm
      simp [this]
theorem wipe_ext {σ σ2 : L2.St} (h : ∀ j : Nat, σ[j]? = σ2[j]?) : σ = σ2 := List.ext_getElem? h
theorem wipe_wipe (σ : L2.St) (vs : List Nat) : wipe (wipe σ vs) vs = wipe σ vs := wipe_ext fun j => by
  rw [wipe_get, wipe_get, wipe_length]
  split
  · rfl
  · rfl
theorem wipe_set {σ : L2.St} {i : Nat} {x : Option V} {vs : List Nat} (h : i ∈ vs) : wipe (σ.set i x) vs = wipe σ vs := wipe_ext fun j => by
  rw [wipe_get, wipe_get, List.length_set]
  by_cases hj : i = j
  · subst hj
    by_cases hl : i < σ.length
    · simp [h, hl]
    · simp [hl]
  · rw [List.getElem?_set_ne hj]
theorem wipeD_length (ρ : Env) : ∀ vs : List Nat, (wipeD ρ vs).length = ρ.length
  | [] => rfl
  | v :: vs => by unfold wipeD; rw [List.length_set, wipeD_length ρ vs]
theorem wipeD_get (σ : Env) (j : Nat) : ∀ vs : List Nat, (wipeD σ vs)[j]? = if j ∈ vs ∧ j < σ.length then some none else σ[j]?
  | [] => by simp [wipeD]
  | v :: vs => by
    have ih := wipeD_get σ j vs
    unfold wipeD
    by_cases hj : v = j
    · subst hj
      by_cases hl : v < σ.length
      · rw [List.getElem?_set_self (by rw [wipeD_length]; exact hl)]
        simp [hl]
      · rw [List.getElem?_eq_none (by rw [List.length_set, wipeD_length]; omega)]
        simp [hl]
    · rw [List.getElem?_set_ne hj, ih]
      have : j ≠ v := fun q => hj q.symm
      simp [this]
theorem wipeD_set {σ : Env} {i : Nat} {x : Option D} {vs : List Nat} (h : i ∈ vs) : wipeD (σ.set i x) vs = wipeD σ vs := List.ext_getElem? fun j => by
  rw [wipeD_get, wipeD_get, List.length_set]
  by_cases hj : i = j
  · subst hj
    by_cases hl : i < σ.length
    · simp [h, hl]
    · simp [hl]
  · rw [List.getElem?_set_ne hj]
theorem wipeD_wipeD (ρ : Env) (vs : List Nat) : wipeD (wipeD ρ vs) vs = wipeD ρ vs := List.ext_getElem? fun j => by
  rw [wipeD_get, wipeD_get, wipeD_length]
  split
  · rfl
  · rfl
theorem Rel.wiped (r : Rel G B F0 F H o σ ρ) : ∀ vs : List Nat, Rel G B F0 F H o (wipe σ vs) (wipeD ρ vs)
  | [] => r
  | v :: vs => (Rel.wiped r vs).forget none
/-- a target keeps to the block's own names -/
def GW (g : TG) (mg : D → Env → R Env) (vs : List Nat) : Prop := (∀ v σ H (K : L2.St → Hp → Prop), g v σ H (fun σ2 H2 => wipe σ2 vs = wipe σ vs → K σ2 H2) → g v σ H fun σ2 H2 => wipe σ2 vs = wipe σ vs ∧ K σ2 H2) ∧ ∀ d ρ ρ', mg d ρ = .ok ρ' → wipeD ρ' vs = wipeD ρ vs
def GWs (g : TGs) (mg : List D → Env → R Env) (vs : List Nat) : Prop := (∀ v σ H (K : L2.St → Hp → Prop), g v σ H (fun σ2 H2 => wipe σ2 vs = wipe σ vs → K σ2 H2) → g v σ H fun σ2 H2 => wipe σ2 vs = wipe σ vs ∧ K σ2 H2) ∧ ∀ d ρ ρ', mg d ρ = .ok ρ' → wipeD ρ' vs = wipeD ρ vs
theorem GW.name {i : Nat} {vs : List Nat} (h : i ∈ vs) : GW (gName i) (gnName i) vs := ⟨fun _ _ _ _ k => ⟨wipe_set h, k (wipe_set h)⟩, fun _ _ _ e => by cases e; exact wipeD_set h⟩
theorem GWs.nil {vs : List Nat} : GWs gNil gnNil vs := ⟨fun _ _ _ _ ⟨e, k⟩ => ⟨e, rfl, k rfl⟩, fun d ρ ρ' e => by
  cases d with
  | nil => cases e; rfl
  | cons _ _ => cases e⟩
theorem GWs.cons {vs : List Nat} {g : TG} {gs : TGs} {mg : D → Env → R Env} {mgs : List D → Env → R Env} (h1 : GW g mg vs) (h2 : GWs gs mgs vs) (hm : ∀ v σ H (K K' : L2.St → Hp → Prop), (∀ σ' H', K σ' H' → K' σ' H') → g v σ H K → g v σ H K') : GWs (gCons g gs) (gnCons mg mgs) vs := by
  refine ⟨fun v σ H K ⟨x, r, e, k⟩ => ⟨x, r, e, ?_⟩, fun d ρ ρ' e => ?_⟩
  · refine hm _ _ _ _ _ (fun σ' H' q => q.2) (h1.1 _ _ _ (fun σ' H' => gs r σ' H' fun σ2 H2 => wipe σ2 vs = wipe σ vs ∧ K σ2 H2) (hm _ _ _ _ _ (fun σ' H' q eq => ?_) k))
    have q' : gs r σ' H' fun σ2 H2 => wipe σ2 vs = wipe σ' vs → K σ2 H2 := by rw [eq]; exact q
    have z := h2.1 _ _ _ _ q'
    rw [eq] at z
    exact z
  · cases d with
    | nil => cases e
    | cons d ds =>
      have e' : (mg d ρ).bind (fun ρ' => mgs ds ρ') = .ok ρ' := e
      cases q : mg d ρ with
      | ok ρ1 => rw [q] at e'; exact (h2.2 _ _ _ e').trans (h1.2 _ _ _ q)
      | exc c p => rw [q] at e'; cases e'
      | bad => rw [q] at e'; cases e'
theorem gName_mono {i : Nat} : ∀ (v : V) (σ : L2.St) (H : Hp) (K K' : L2.St → Hp → Prop), (∀ σ' H', K σ' H' → K' σ' H') → gName i v σ H K → gName i v σ H K' := fun _ _ _ _ _ h k => h _ _ k
theorem GW.tup {vs : List Nat} {K : PySem.W.Frag} {n : Nat} {gs : TGs} {mgs : List D → Env → R Env} (h : GWs gs mgs vs) : GW (gTup K n gs) (gnTup n mgs) vs := by
  refine ⟨fun v σ H K ⟨a, xs, e, s, l, k⟩ => ⟨a, xs, e, s, l, h.1 _ _ _ _ k⟩, fun d ρ ρ' e => ?_⟩
  cases d with
  | tup ds =>
    have e' : (if ds.length = n then mgs ds ρ else .bad) = .ok ρ' := e
    split at e'
    · exact h.2 _ _ _ e'
    · cases e'
  | ktup ds =>
    have e' : (if ds.length = n then mgs ds ρ else .bad) = .ok ρ' := e
    split at e'
    · exact h.2 _ _ _ e'
    · cases e'
  | _ => cases e
/-! ### an object that the construct itself holds -/
theorem Rel.guard {a : Addr} {u : HO} (r : Rel G B F0 F H o σ ρ) (hu : H a = some u) (hf : F a = none) (ap : Apart o σ ρ a) : Rel G (upd B a u) F0 F H o σ ρ := by
  refine ⟨⟨r.core.fh, fun b w q => ?_, fun b q => ?_, fun b q => ?_⟩, r.len, r.sh, fun i d h1 h2 => ?_, r.dj⟩
  · by_cases hb : b = a
    · subst hb; rw [upd_same] at q; cases q; exact hu
    · rw [upd_ne hb] at q; exact r.core.bh b w q
  · have hb : b ≠ a := fun z => q (by rw [z]; exact hf)
    rw [upd_ne hb]
    exact r.core.nf b q
  · by_cases hb : b = a
    · subst hb; rw [upd_same]; simp
    · rw [upd_ne hb]; exact r.core.f0 b q
  · obtain ⟨b, q1, q2, q3, q4⟩ := r.ow i d h1 h2
    have hb : b ≠ a := fun z => ap i d h2 h1 (by rw [← z]; exact q1)
    exact ⟨b, q1, q2, q3, by rw [upd_ne hb]; exact q4⟩
theorem Rel.unguard {a : Addr} {u : HO} (r : Rel G (upd B a u) F0 F H o σ ρ) (hb : B a = none) (h0 : F0 a = none) (hB : ∀ b, F0 b ≠ none → B b ≠ none) : Rel G B F0 F H o σ ρ ∧ H a = some u ∧ F a = none ∧ Apart o σ ρ a := by
  have fa : F a = none := by
    cases q : F a with
    | none => rfl
    | some w =>
      rcases r.core.nf a (by rw [q]; simp) with z | z
      · exact absurd h0 z
      · rw [upd_same] at z; cases z
  refine ⟨⟨⟨r.core.fh, fun b w q => r.core.bh b w (by rw [upd_ne (ne_of_none q hb)]; exact q), fun b q => ?_, hB⟩, r.len, r.sh, fun i d h1 h2 => ?_, r.dj⟩, r.core.bh a u upd_same, fa, fun i d h1 h2 h3 => ?_⟩
  · rcases r.core.nf b q with z | z
    · exact .inl z
    · by_cases hba : b = a
      · subst hba; exact .inr hb
      · rw [upd_ne hba] at z; exact .inr z
  · obtain ⟨b, q1, q2, q3, q4⟩ := r.ow i d h1 h2
    refine ⟨b, q1, q2, q3, ?_⟩
    by_cases hba : b = a
    · subst hba; exact hb
    · rw [upd_ne hba] at q4; exact q4
  · obtain ⟨b, q1, q2, q3, q4⟩ := r.ow i d h2 h1
    rw [h3] at q1; cases q1
    rw [upd_same] at q4; cases q4
theorem Rel.chg {a : Addr} {u : HO} (r : Rel G B F0 F H o σ ρ) (hf : F a = none) (hb : B a = none) (ap : Apart o σ ρ a) : Rel G B F0 F (upd H a u) o σ ρ := by
  refine ⟨⟨fun b w q => ?_, fun b w q => ?_, r.core.nf, r.core.f0⟩, r.len, r.sh, fun i d h1 h2 => ?_, r.dj⟩
  · rw [upd_ne (ne_of_none q hf)]; exact r.core.fh b w q
  · rw [upd_ne (ne_of_none q hb)]; exact r.core.bh b w q
  · obtain ⟨b, q1, q2, q3, q4⟩ := r.ow i d h1 h2
    have hba : b ≠ a := fun z => ap i d h2 h1 (by rw [← z]; exact q1)
    exact ⟨b, q1, q2.mono (Le.refl F) fun w q => by rw [upd_ne hba]; exact q, q3, q4⟩
theorem Rel.unwipe {vs : List Nat} (r : Rel G B F0 F H o σ ρ) (r' : Rel G B F0 F' H' o (wipe σ vs) (wipeD ρ vs)) (le : Le F F') (hv : ∀ i, i ∈ vs → i ∉ o) : Rel G B F0 F' H' o σ ρ := by
  refine ⟨r'.core, r.len, fun i d h1 h2 => let ⟨v, x, y⟩ := r.sh i d h1 h2; ⟨v, x, y.mono le⟩, fun i d h1 h2 => ?_, r.dj⟩
  have hi : i ∉ vs := fun z => hv i z h2
  obtain ⟨a, q1, q2, q3, q4⟩ := r'.ow i d (by rw [wipeD_get, if_neg fun z => hi z.1]; exact h1) h2
  rw [wipe_get, if_neg fun z => hi z.1] at q1
  exact ⟨a, q1, q2, q3, q4⟩
/-! ### a list comprehension -/
def R.val {α : Type} (r : R α) : R α := match r with
  | .ok a => .ok a
  | _ => .bad
def lcD (mg : D → Env → R Env) (mt : Env → R Bool) (me : Env → R D) : List D → Env → R (List D)
  | [], _ => .ok []
  | d :: ds, ρ => (mg d ρ).val.bind fun ρ' => (mt ρ').val.bind fun b => bif b then (me ρ').val.bind fun x => (lcD mg mt me ds ρ).bind fun xs => .ok (x :: xs) else lcD mg mt me ds ρ
def mLc (vs : List Nat) (mi : Env → R (List D)) (mg : D → Env → R Env) (mt : Env → R Bool) (me : Env → R D) : Env → R D := fun ρ =>
  (mi ρ).bind fun ds => (lcD mg mt me ds (wipeD ρ vs)).val.bind fun xs => if xs.length ≤ sizeLine then .ok (.lst xs) else .bad
def mYes : Env → R Bool := fun _ => .ok true
theorem PuT.yes : PuT G W o tYes o mYes := fun {_ _ F H _ _ _} r h => h F H (Gr.refl F H) r
theorem R.val_ok {α : Type} {r : R α} {a : α} (h : r.val = .ok a) : r = .ok a := by
  cases r with
  | ok b => exact h
  | exc c p => cases h
  | bad => cases h
theorem R.bind_eq {α β : Type} {r : R α} {f : α → R β} {b : β} (h : r.bind f = .ok b) : ∃ a, r = .ok a ∧ f a = .ok b := by
  cases r with
  | ok a => exact ⟨a, rfl, h⟩
  | exc c p => cases h
  | bad => cases h
variable {wi : TI} {g : TG} {tt : TT} {te : TE} {mi : Env → R (List D)} {mg : D → Env → R Env} {mt : Env → R Bool} {me : Env → R D}
theorem PuO.lc {vs : List Nat} (hi : PuI G W o wi o mi) (hv : ∀ i, i ∈ vs → i ∉ o) (hw : GW g mg vs) (hg : PuG G o g o mg) (ht : PuT G W1 o tt o mt) (he : PuE G W1 o te o me) : PuO G W o (tLc wi g tt te vs) o (mLc vs mi mg mt me) := by
  intro B F0 F H σ ρ Q rel h
  refine hi rel ((Res.bnd h).imp fun ds F1 H1 e1 r1 q J Y D hD => ?_)
  -- the whole list
  obtain ⟨xs, hxs, hlen, q⟩ : ∃ xs, lcD mg mt me ds (wipeD ρ vs) = .ok xs ∧ xs.length ≤ sizeLine ∧ Res G W B F0 F1 H1 o σ ρ (kO G B o σ ρ Q) (.ok (.lst xs)) := by
    cases hl : lcD mg mt me ds (wipeD ρ vs) with
    | ok xs =>
      rw [hl] at q
      have q' : Res G W B F0 F1 H1 o σ ρ (kO G B o σ ρ Q) (if xs.length ≤ sizeLine then .ok (.lst xs) else .bad) := q
      split at q'
      · rename_i hz; exact ⟨xs, rfl, hz, q'⟩
      · exact q'.elim
    | exc c p => rw [hl] at q; exact q.elim
    | bad => rw [hl] at q; exact q.elim
  obtain ⟨r1D, fD, bD, apD⟩ := r1.laidOwn (u := .lst []) hD
  have f0D : F0 D = none := by
    cases z : F0 D with
    | none => rfl
    | some w => exact absurd bD (r1.core.f0 D (by rw [z]; simp))
  have sD : Same H1 (upd H1 D (.lst [])) := fun b u z => by rw [upd_ne (ne_of_none z hD)]; exact z
  let Inv : Nat → Hp → Prop := fun i H' => ∃ F' acc accD rest, Le F1 F' ∧ Same H1 H' ∧ Rel G B F0 F' H' o (wipe σ vs) (wipeD ρ vs) ∧ H' D = some (.lst acc) ∧ RpL G F' accD acc ∧ F' D = none ∧ Apart o (wipe σ vs) (wipeD ρ vs) D ∧
    lcD mg mt me (ds.drop i) (wipeD ρ vs) = .ok rest ∧ accD ++ rest = xs
  have apW : Apart o (wipe σ vs) (wipeD ρ vs) D := fun i d h1 h2 h3 => by
    have hi : i ∉ vs := fun z => hv i z h1
    rw [wipeD_get, if_neg fun z => hi z.1] at h2
    rw [wipe_get, if_neg fun z => hi z.1] at h3
    exact apD i d h1 h2 h3
  refine ⟨fun i m H' => m = ds.length - i ∧ i ≤ ds.length ∧ Inv i H', ⟨ds.length, by simp, Nat.zero_le _, F1, [], [], xs, Le.refl F1, sD, r1D.wiped vs, upd_same, .nil, fD, apW, by simpa using hxs, rfl⟩, ?_⟩
  rintro i m H' ⟨rfl, hle, F', acc, accD, rest, le, sm, r', hacc, racc, fD', ap', hrest, happ⟩
  obtain ⟨y1, y2, y3⟩ := Y F' H' le r'.core.fh
  by_cases hlt : i < ds.length
  · have hd : ds[i]? = some ds[i] := List.getElem?_eq_getElem hlt
    rw [List.drop_eq_getElem_cons hlt] at hrest
    have hrest' : (mg ds[i] (wipeD ρ vs)).val.bind (fun ρ' => (mt ρ').val.bind fun b => bif b then (me ρ').val.bind fun x => (lcD mg mt me (ds.drop (i + 1)) (wipeD ρ vs)).bind fun xs => .ok (x :: xs) else lcD mg mt me (ds.drop (i + 1)) (wipeD ρ vs)) = .ok rest := hrest
    obtain ⟨ρ2, hm1, hm2⟩ := R.bind_eq hrest'
    obtain ⟨b, hb1, hb2⟩ := R.bind_eq hm2
    have hm1 := R.val_ok hm1
    have hb1 := R.val_ok hb1
    have hwd : wipeD ρ2 vs = wipeD ρ vs := (hw.2 _ _ _ hm1).trans (wipeD_wipeD ρ vs)
    refine .inr ⟨y1 i hlt, Inv (i + 1), fun H2 I2 => ⟨ds.length - (i + 1), by omega, rfl, hlt, I2⟩, fun x H3 hy => ?_⟩
    obtain ⟨F3, g3, f3, n3, rv⟩ := y3 i ds[i] x H3 hd hy
    have r3 := r'.grow g3.le f3 g3.same n3
    have h3D := g3.same D _ hacc
    have fD3 : F3 D = none := by
      cases z : F3 D with
      | none => rfl
      | some w =>
        rcases n3 D (by rw [z]; simp) with z | z
        · exact absurd fD' z
        · rw [hacc] at z; cases z
    have r3g := r3.guard h3D fD3 ap'
    have rw1 : wipe (wipe σ vs) vs = wipe σ vs := wipe_wipe σ vs
    have key := hw.1 x (wipe σ vs) H3 (fun σ2 H2 => tt σ2 H2 fun b H3 => if b = true then te σ2 H3 fun y H4 => ∃ acc, H4 D = some (.lst acc) ∧ acc.length < sizeLine ∧ Inv (i + 1) (upd H4 D (.lst (acc ++ [y]))) else Inv (i + 1) H3)
    rw [rw1] at key
    refine key (hg r3g rv ⟨ρ2, hm1, fun σ2 r2 hwip => ht r2 ?_⟩)
    rw [hb1]
    intro F4 H4 g4 r4
    -- what the invariant wants behind the turn, acc or one more
    have back : ∀ {F5 H5 : Hp}, Gr F3 H3 F5 H5 → Rel G (upd B D (.lst acc)) F0 F5 H5 o σ2 ρ2 → Le F1 F5 ∧ Same H1 H5 ∧ Rel G B F0 F5 H5 o (wipe σ vs) (wipeD ρ vs) ∧ H5 D = some (.lst acc) ∧ F5 D = none ∧ Apart o (wipe σ vs) (wipeD ρ vs) D := fun {F5 H5} g5 r5 => by
      obtain ⟨x1, x2, x3, x4⟩ := r5.unguard bD f0D r3.core.f0
      have w1 := x1.wiped vs
      rw [hwip, hwd] at w1
      refine ⟨(le.trans g3.le).trans g5.le, (sm.trans g3.same).trans g5.same, w1, x2, x3, fun j f z1 z2 z3 => ?_⟩
      exact ap' j f z1 z2 z3
    cases b with
    | false =>
      obtain ⟨z1, z2, z3, z4, z5, z6⟩ := back g4 r4
      exact ⟨F4, acc, accD, rest, z1, z2, z3, z4, (racc.mono g3.le).mono g4.le, z5, z6, hb2, happ⟩
    | true =>
      have hb2' : (me ρ2).val.bind (fun x => (lcD mg mt me (ds.drop (i + 1)) (wipeD ρ vs)).bind fun xs => .ok (x :: xs)) = .ok rest := hb2
      obtain ⟨y, hy1, hy2⟩ := R.bind_eq hb2'
      obtain ⟨rest', hr1, hr2⟩ := R.bind_eq hy2
      cases hr2
      have hy1 := R.val_ok hy1
      refine he r4 ?_
      rw [hy1]
      intro F5 H5 g5 r5 yv ry
      obtain ⟨z1, z2, z3, z4, z5, z6⟩ := back (g4.trans g5) r5
      have hl : acc.length < sizeLine := by
        have h1 := racc.length
        have h2 : accD.length + (rest'.length + 1) ≤ sizeLine := by
          rw [← happ] at hlen
          simpa using hlen
        omega
      refine ⟨acc, z4, hl, F5, acc ++ [yv], accD ++ [y], rest', z1, fun c u q => ?_, z3.chg z5 bD z6, upd_same, RpL.append (((racc.mono g3.le).mono g4.le).mono g5.le) (.cons ry .nil), z5, z6, hr1, by rw [List.append_assoc]; exact happ⟩
      have hc : c ≠ D := ne_of_none q hD
      rw [upd_ne hc]
      exact z2 c u q
  · have e : i = ds.length := by omega
    subst e
    rw [List.drop_length] at hrest
    cases hrest
    rw [List.append_nil] at happ
    subst happ
    refine .inl ⟨y2, q F' H' ⟨le, sm⟩ (r1.unwipe r' le hv) D (.lst hacc racc) fD' bD apD⟩
end
end G
/-! S5: defs, their plain functions, their calls. -/
namespace G
open PySem L2

/-- a def as plain data: n parameters, k further slots, its body's function -/
structure DefM where
  n : Nat
  k : Nat
  body : Env → Out
def Out.res : Out → R D
  | .nx _ => .ok .non
  | .rt d => .ok d
  | .exc c p _ => .exc c p
  | _ => .bad
def DefM.fn (d : DefM) : List D → R D := fun ds => if ds.length = d.n then (d.body (ds.map some ++ List.replicate d.k none)).res else .bad
/-- what a call's plain result asks -/
def FEnd (G : Gc) (F H : Hp) (Q : VK) (E : XK) : R D → Prop
  | .ok d => ∀ F' H' v, Le F F' → Same H H' → (∀ a u, F' a = some u → H' a = some u) → (∀ a, F' a ≠ none → F a ≠ none ∨ H a = none) → Rp G F' d v → Q v H'
  | .exc c p => ∀ F' H' cls dd, Le F F' → Same H H' → (∀ a u, F' a = some u → H' a = some u) → (∀ a, F' a ≠ none → F a ≠ none ∨ H a = none) → ExcRep G F' H' c p cls dd → E cls dd H'
  | .bad => False
/-- the promise of a def: it computes fn -/
def spM (G : Gc) (n : Nat) (fn : List D → R D) : Sp := fun vs H Q E => ∃ F ds, (∀ a u, F a = some u → H a = some u) ∧ RpL G F ds vs ∧ ds.length = n ∧ FEnd G F H Q E (fn ds)
theorem spM_len {G : Gc} {n : Nat} {fn : List D → R D} {ps : List Str} (hn : ps.length = n) : ∀ vs H Q E, spM G n fn vs H Q E → vs.length = ps.length := fun vs H Q E ⟨F, ds, _, r, l, _⟩ => by rw [hn, ← l, r.length]
section
variable {G : Gc} {W : WX} {o o1 o2 : List Nat}
theorem rel_start {F H : Hp} {N : List Str} {vs : List V} {ds : List D} {k : Nat} (hf : ∀ a u, F a = some u → H a = some u) (r : RpL G F ds vs) (hk : N.length - vs.length = k) : Rel G H F F H [] (L2.start N vs) (ds.map some ++ List.replicate k none) := by
  refine ⟨⟨hf, fun _ _ q => q, fun _ q => .inl q, fun a q => ?_⟩, ?_, fun i d h1 _ => ?_, fun i d _ h => (by cases h), fun i j d e a _ h => (by cases h)⟩
  · cases z : F a with
    | none => exact absurd z q
    | some u => rw [hf a u z]; simp
  · unfold L2.start
    rw [List.length_append, List.length_append, List.length_map, List.length_map, List.length_replicate, List.length_replicate, hk, r.length]
  · have hl := r.length
    rcases Nat.lt_or_ge i ds.length with q | q
    · rw [List.getElem?_append_left (by rw [List.length_map]; exact q), List.getElem?_map] at h1
      cases z : ds[i]? with
      | none => rw [z] at h1; cases h1
      | some e =>
        rw [z] at h1; cases h1
        obtain ⟨v, h3, h4⟩ := r.get z
        refine ⟨v, ?_, h4⟩
        unfold L2.start
        rw [List.getElem?_append_left (by rw [List.length_map, ← hl]; exact q), List.getElem?_map, h3]
        rfl
    · rw [List.getElem?_append_right (by rw [List.length_map]; exact q)] at h1
      rw [List.getElem?_replicate] at h1
      split at h1 <;> cases h1
/-- a body's reading at the entry -/
theorem body_start {F H : Hp} {N : List Str} {vs : List V} {Q : VK} {E : XK} {t : TS} {o' : List Nat} {d : DefM} {ps : List Str} (hN : N.length - ps.length = d.k) (hp : ps.length = d.n) (hb : PuS G (fun cls dd _ H => E cls dd H) [] [] t o' d.body) (h : spM G d.n d.fn vs H Q E) :
    t { nx := fun _ H' => Q .non H', rt := Q } (L2.start N vs) H := by
  obtain ⟨F, ds, hf, r, hl, h⟩ := h
  have hv : vs.length = ps.length := by rw [← r.length, hl, hp]
  refine hb (rel_start (k := d.k) hf r (by rw [hv]; exact hN)) ?_
  have h' : FEnd G F H Q E (d.body (ds.map some ++ List.replicate d.k none)).res := by
    unfold DefM.fn at h
    rw [if_pos hl] at h
    exact h
  have nf : ∀ {F' H' : Hp}, Core H F F' H' → ∀ a, F' a ≠ none → F a ≠ none ∨ H a = none := fun {F' H'} c a q => c.nf a q
  cases hm : d.body (ds.map some ++ List.replicate d.k none) with
  | nx ρ' => rw [hm] at h'; exact fun F' H' σ' le r' => h' F' H' .non le r'.core.bh r'.core.fh (nf r'.core) .non
  | rt e => rw [hm] at h'; exact fun F' H' v le c rv => h' F' H' v le c.bh c.fh (nf c) rv
  | exc c p ρ' => rw [hm] at h'; exact fun F' H' σ' cls dd le r' x => h' F' H' cls dd le r'.core.bh r'.core.fh (nf r'.core) x
  | bk ρ' => rw [hm] at h'; exact h'.elim
  | ct ρ' => rw [hm] at h'; exact h'.elim
  | bad => rw [hm] at h'; exact h'.elim
/-- what is asked of a def behind the top -/
structure Fd (P : Program) (w : World) (K : PySem.W.Frag) (mg : Str → Option Value) (base : Heap) (k : Nat) (x : Str) (ps : List Str) (f : Addr) (fd : FuncData) (fn : List D → R D) : Prop where
  ok : FnOk P w K mg base (L2N.CX P w) k f fd ps (spM ⟨K, mg⟩ ps.length fn)
  g : mg x = some (.ref f)
  kp : PySem.W.keepIn K (.ref f) = true
  b : Binds K fd ps []
/-- nothing is let out where nothing is wished -/
theorem FnOk.quiet {P : Program} {w : World} {K : PySem.W.Frag} {mg : Str → Option Value} {base : Heap} {k : Nat} {f : Addr} {fd : FuncData} {ps : List Str} {sp : Sp} (F : FnOk P w K mg base (L2N.CX P w) k f fd ps sp) :
    FnOk P w K mg base CX0 k f fd ps (fun vs H Q _ => sp vs H Q fun _ _ _ => False) := by
  refine ⟨fun vs H Q E h => F.len vs H Q _ h, fun A outer s H args us vs Q E hr e0 hb r h => ?_⟩
  refine codeAny_mono (F.run A outer s H args us vs Q (fun _ _ _ => False) hr e0 hb r h) fun r s' hq => ?_
  cases r with
  | ok fl => cases fl <;> exact hq
  | error e =>
    obtain ⟨_, _, _, _, _, _, _, _, _, _, _, _, z⟩ := hq
    exact z.elim
theorem FEnd.of_res {B F0 F H : Hp} {σ : L2.St} {ρ : Env} {Q : VK} {r : R D} (rel : Rel G B F0 F H o σ ρ) (h : Res G W B F0 F H o σ ρ (kE G Q) r) : FEnd G F H Q (fun cls dd H' => W cls dd σ H') r := by
  cases r with
  | ok d => exact fun F' H' v le sm fh nf rv => h F' H' ⟨le, sm⟩ (rel.grow le fh sm nf) v rv
  | exc c p =>
    exact fun F' H' cls dd le sm fh nf x => by
      obtain ⟨F2, e2, r2⟩ := (rel.grow le fh sm nf).bare
      refine h F2 H' cls dd (le.trans e2) r2 ?_
      obtain ⟨C, h1, h2, h3⟩ := x
      refine ⟨C, h1, h2, ?_⟩
      cases p with
      | none => exact h3
      | some q =>
        obtain ⟨a, v, y1, y2, y3⟩ := h3
        exact ⟨a, v, y1, y2, y3.mono e2⟩
  | bad => exact h.elim
variable {ts : TA} {ms : Env → R (List D)} {n : Nat} {fn : List D → R D}
/-- the callee wants just n values -/
def mCallN (n : Nat) (fn : List D → R D) (ms : Env → R (List D)) : Env → R D := fun ρ => (ms ρ).bind fun ds => if ds.length = n then fn ds else .bad
theorem PuE.call (hs : PuA G W o ts o1 ms) : PuE G W o (tCallS (spM G n fn) (WE W) ts) o1 (mCallN n fn ms) := by
  intro B F0 F H σ ρ Q rel h
  refine hs rel ((Res.bnd h).imp fun ds F1 H1 e1 r1 q vs rv => ?_)
  split at q
  · rename_i hl
    exact ⟨F1, ds, r1.core.fh, rv, hl, FEnd.of_res r1 q⟩
  · exact q.elim
/-- .. where nothing may be let out (a comprehension's block) -/
theorem PuE.call0 (hs : PuA G W o ts o1 ms) : PuE G W o (tCall (fun vs H Q _ => spM G n fn vs H Q fun _ _ _ => False) [] E0 ts) o1 (fun ρ => (ms ρ).bind fun ds => if ds.length = n then (fn ds).val else .bad) := by
  intro B F0 F H σ ρ Q rel h
  refine hs rel ((Res.bnd h).imp fun ds F1 H1 e1 r1 q vs rv => ?_)
  split at q
  · rename_i hl
    refine ⟨F1, ds, r1.core.fh, by rw [List.append_nil]; exact rv, hl, ?_⟩
    cases hf : fn ds with
    | ok d => rw [hf] at q; exact fun F' H' v le sm fh nf rv => q F' H' ⟨le, sm⟩ (r1.grow le fh sm nf) v rv
    | exc c p => rw [hf] at q; exact q.elim
    | bad => rw [hf] at q; exact q.elim
  · exact q.elim
end
end G
/-! E3: a tuple, once or not at all (tuple * 1, tuple * 0). -/
namespace TpM
open PySem PySem.Spec PyProof.Rows L2
abbrev Tob (xs : Array Value) (k : Nat) (e : Option Addr) (z : Array (Option Value)) : Obj := { cls := .type "tuple", dict := e, data := .seq xs k, slots := z }
theorem once (l : Addr) (xs : Array Value) (k : Nat) (e : Option Addr) (z : Array (Option Value)) (u : Tok) :
    Meets (Builtin.«tuple.__mul__» ⟨[.ref l, .int 1 u], []⟩) (fun _ R s => s.heap.get? l = some (Tob xs k e z) ∧ R (.ok (.ret (.ref l))) s) :=
  .of_wp fun prog w A R s h => by
    obtain ⟨hp, g, d, tk, os⟩ := s
    obtain ⟨hl, h⟩ := h
    have f1 := AutoSeq1.idx_int
    wp_walk using wpAny_loadPart' hl
    exact ⟨_, rfl, h⟩
theorem naught (l : Addr) (xs : Array Value) (hx : xs.isEmpty = false) (k : Nat) (e : Option Addr) (z : Array (Option Value)) (u : Tok) :
    Meets (Builtin.«tuple.__mul__» ⟨[.ref l, .int 0 u], []⟩) (fun _ R s => s.heap.get? l = some (Tob xs k e z) ∧ R (.ok (.ret (Value.ref s.heap.objs.size))) { s with heap := s.heap.push { cls := Value.type "tuple", data := Data.seq #[] }, toks := s.toks }) :=
  .of_wp fun prog w A R s h => by
    obtain ⟨hp, g, d, tk, os⟩ := s
    obtain ⟨hl, h⟩ := h
    have f1 := AutoSeq1.idx_int
    wp_walk using wpAny_loadPart' hl
    exact ⟨_, rfl, h⟩
def rTimes (K : PySem.W.Frag) : R2 := fun x y H Q => ∃ l k vs, x = .ref l ∧ y = .int k ∧ SqT K H l vs ∧ vs ≠ [] ∧ ((k = 1 ∧ Q (.ref l) H) ∨ (k = 0 ∧ ∀ p, H p = none → Q (.ref p) (upd H p (.tup []))))
theorem op_times {X : Cx} : OpR X (binaryOp .Mult) (rTimes X.K) := by
  intro pins s σ H x y v u Q I rx ry h
  obtain ⟨l, k, vs, rfl, rfl, hT, hne, hk⟩ := h
  cases rx
  obtain ⟨t, rfl⟩ := ry
  obtain ⟨its, r, ⟨⟨cls, dd, data, sl⟩, ho, hc, n, hd⟩, hs⟩ := I.tuple hT
  simp only at hc hd
  subst hc hd
  have hi : its.toArray.isEmpty = false := by
    cases its with
    | nil =>
      cases vs with
      | nil => exact absurd rfl hne
      | cons _ _ => cases r
    | cons a b => rfl
  rcases hk with ⟨rfl, q⟩ | ⟨rfl, q⟩
  · refine wpAny_binaryOp_repeat_ref (T := "tuple") (U := "int") (by decide) ⟨_, ho, rfl⟩ (fun s' => typeIs_int s' 1 t) noFill_tuple_mul F.fills_int_mul F.slot_int_rmul repeat_tuple F.slot_int_index.lookup ?_
    refine call_meets F.slot_int_rmul (typeIs_int s 1 t) F.entry_int_rmul (F.args_int_rmul_2 _ _) (int_rmul_tuple 1 t l its.toArray n dd sl) ⟨ho, rfl, ⟨_, ho, rfl⟩, ?_⟩
    refine call_meets F.slot_tuple_mul ⟨_, ho, rfl⟩ F.entry_tuple_mul (F.args_tuple_mul_2 _ _) (once l its.toArray n dd sl t) ⟨ho, ?_⟩
    exact ⟨.ref l, _, I, rfl, q⟩
  · refine wpAny_binaryOp_repeat_ref (T := "tuple") (U := "int") (by decide) ⟨_, ho, rfl⟩ (fun s' => typeIs_int s' 0 t) noFill_tuple_mul F.fills_int_mul F.slot_int_rmul repeat_tuple F.slot_int_index.lookup ?_
    refine call_meets F.slot_int_rmul (typeIs_int s 0 t) F.entry_int_rmul (F.args_int_rmul_2 _ _) (int_rmul_tuple 0 t l its.toArray n dd sl) ⟨ho, rfl, ⟨_, ho, rfl⟩, ?_⟩
    refine call_meets F.slot_tuple_mul ⟨_, ho, rfl⟩ F.entry_tuple_mul (F.args_tuple_mul_2 _ _) (naught l its.toArray hi n dd sl t) ⟨ho, ?_⟩
    refine ⟨.ref s.heap.objs.size, _, I.laid (t' := s.toks) (o := .tup []) (fun b ob w => Heap.get?_push_of_some _ w) (Nat.le_refl _) ?_, rfl, q _ (I.hok.fresh (Nat.le_refl _))⟩
    exact ⟨Nat.zero_le _, [], .nil, IsTup.new _ _⟩
end TpM
/-! S6: the operations on plain data, and the hand layer's rules for them. -/
namespace G
open PySem L2

section
variable {G : Gc} {W : WX} {B F0 F H : Hp} {o : List Nat} {σ : L2.St} {ρ : Env} {Q : VK}
theorem Res.here {d : D} {v : V} (h : Res G W B F0 F H o σ ρ (kE G Q) (.ok d)) (rel : Rel G B F0 F H o σ ρ) (rv : Rp G F d v) : Q v H := h F H (Gr.refl F H) rel v rv
theorem Res.new {d : D} {p : Addr} {u : HO} (h : Res G W B F0 F H o σ ρ (kE G Q) (.ok d)) (rel : Rel G B F0 F H o σ ρ) (hp : H p = none) (rv : ∀ F', Le F F' → F' p = some u → Rp G F' d (.ref p)) : Q (.ref p) (upd H p u) := by
  obtain ⟨e, r⟩ := rel.laid (u := u) hp
  exact h _ _ ⟨e, fun b w q => by rw [upd_ne (ne_of_none q hp)]; exact q⟩ r _ (rv _ e upd_same)
theorem Res.newO {d : D} {p : Addr} {u : HO} (h : Res G W B F0 F H o σ ρ (kO G B o σ ρ Q) (.ok d)) (rel : Rel G B F0 F H o σ ρ) (hp : H p = none) (rv : Own G F (upd H p u) d p) : Q (.ref p) (upd H p u) := by
  obtain ⟨r, f, b, ap⟩ := rel.laidOwn (u := u) hp
  exact h _ _ ⟨Le.refl F, fun c w q => by rw [upd_ne (ne_of_none q hp)]; exact q⟩ r p rv f b ap
/-- where a plain list, tuple stands -/
theorem Rel.lst {a : Addr} {vs : List V} (rel : Rel G B F0 F H o σ ρ) (h : F a = some (.lst vs)) : H a = some (.lst vs) := rel.core.fh _ _ h
theorem Rel.sqL {a : Addr} {vs : List V} (rel : Rel G B F0 F H o σ ρ) (h : SqL G.K F a vs) : SqL G.K H a vs := h.elim (fun q => .inl (q.elim (fun q => .inl (rel.core.fh _ _ q)) fun ⟨x, q⟩ => .inr ⟨x, rel.core.fh _ _ q⟩)) .inr
theorem Rel.sqT {a : Addr} {vs : List V} (rel : Rel G B F0 F H o σ ρ) (h : SqT G.K F a vs) : SqT G.K H a vs := h.elim (fun q => .inl (q.elim (fun q => .inl (rel.core.fh _ _ q)) fun ⟨x, q⟩ => .inr ⟨x, rel.core.fh _ _ q⟩)) .inr
theorem Rel.rd {a : Addr} {u : HO} (rel : Rel G B F0 F H o σ ρ) (h : Rd F a u) : Rd H a u := h.elim (fun q => .inl (rel.core.fh _ _ q)) fun ⟨x, q⟩ => .inr ⟨x, rel.core.fh _ _ q⟩
end

/-! ### numbers, texts, sequences put together -/
def D.add : D → D → R D
  | .int i, .int j => .ok (.int (i + j))
  | .str a, .str b => if a.length + b.length ≤ sizeLine then .ok (.str (a ++ b)) else .bad
  | .tup a, .tup b => if a.length + b.length ≤ sizeLine then .ok (.tup (a ++ b)) else .bad
  | .lst a, .lst b => if a.length + b.length ≤ sizeLine then .ok (.lst (a ++ b)) else .bad
  | _, _ => .bad
abbrev rAddAll (K : PySem.W.Frag) : R2 := fun x y H Q => (rI0 fun i j => V.int (i + j)) x y H Q ∨ ((∃ i j, x = V.str i ∧ y = V.str j ∧ i.length + j.length ≤ sizeLine ∧ Q (.str (i ++ j)) H) ∨ (rCatA K x y H Q ∨ rCat x y H Q))
theorem R.ifOk {α : Type} {c : Prop} [Decidable c] {r : R α} {a : α} (h : (if c then r else .bad) = .ok a) : c ∧ r = .ok a := by
  split at h
  · rename_i hc; exact ⟨hc, h⟩
  · cases h
theorem Res.ifP {G : Gc} {W : WX} {B F0 F H : Hp} {o : List Nat} {σ : L2.St} {ρ : Env} {α : Type} {k : α → Hp → Hp → Prop} {c : Prop} [Decidable c] {r : R α} (h : Res G W B F0 F H o σ ρ k (if c then r else .bad)) : c ∧ Res G W B F0 F H o σ ρ k r := by
  split at h
  · rename_i hc; exact ⟨hc, h⟩
  · exact h.elim
section
variable {X : Cx} {G : Gc} {W : WX}
theorem op_addAll : OpR X (binaryOp .Add) (rAddAll X.K) := OpR.or op_add (OpR.or op_add_str (OpR.or op_catA op_cat))
theorem pu_add : PuR2 G W (rAddAll G.K) D.add := by
  intro B F0 F H o σ ρ Q v w a b rel ra rb h
  cases ra with
  | int i =>
    cases rb with
    | int j => exact .inl ⟨i, j, rfl, rfl, h.here rel (.int _)⟩
    | _ => exact h.elim
  | str x =>
    cases rb with
    | str y => exact .inr (.inl ⟨x, y, rfl, rfl, (Res.ifP h).1, (Res.ifP h).2.here rel (.str _)⟩)
    | _ => exact h.elim
  | @tup p vs ds h1 r1 =>
    cases rb with
    | @tup q ws es h2 r2 =>
      obtain ⟨hl, h⟩ := Res.ifP h
      have nilD : vs = [] → ds = [] := fun e => by subst e; cases r1; rfl
      have nilE : ws = [] → es = [] := fun e => by subst e; cases r2; rfl
      refine .inr (.inr (.inl ⟨p, q, vs, ws, rfl, rfl, .inl (.inl (rel.core.fh _ _ h1)), .inl (.inl (rel.core.fh _ _ h2)), by rw [← r1.length, ← r2.length]; exact hl, fun e => ?_, fun _ e => ?_, fun _ _ z hz => h.new rel hz fun F' le e => .tup e ((r1.mono le).append (r2.mono le))⟩))
      · rw [nilD e] at h; exact h.here rel (.tup h2 r2)
      · rw [nilE e, List.append_nil] at h; exact h.here rel (.tup h1 r1)
    | _ => exact h.elim
  | @lst p vs ds h1 r1 =>
    cases rb with
    | @lst q ws es h2 r2 =>
      obtain ⟨hl, h⟩ := Res.ifP h
      exact .inr (.inr (.inr ⟨p, q, vs, ws, rfl, rfl, rel.core.fh _ _ h1, rel.core.fh _ _ h2, by rw [← r1.length, ← r2.length]; exact hl, fun z hz => h.new rel hz fun F' le e => .lst e ((r1.mono le).append (r2.mono le))⟩))
    | _ => exact h.elim
  | _ => cases rb <;> exact h.elim
/-- an operation on two ints that gives an int under a condition -/
def dI (c : Int → Int → Bool) (f : Int → Int → Int) : D → D → R D
  | .int i, .int j => if c i j = true then .ok (.int (f i j)) else .bad
  | _, _ => .bad
theorem pu_I {C : Int → Int → Prop} {c : Int → Int → Bool} {f : Int → Int → Int} (hc : ∀ i j, c i j = true → C i j) : PuR2 G W (rI C fun i j => .int (f i j)) (dI c f) := by
  intro B F0 F H o σ ρ Q v w a b rel ra rb h
  cases ra with
  | int i =>
    cases rb with
    | int j => exact ⟨i, j, rfl, rfl, hc i j (Res.ifP h).1, (Res.ifP h).2.here rel (.int _)⟩
    | _ => exact h.elim
  | _ => cases rb <;> exact h.elim
def dI0 (f : Int → Int → Int) : D → D → R D
  | .int i, .int j => .ok (.int (f i j))
  | _, _ => .bad
theorem pu_I0 {f : Int → Int → Int} : PuR2 G W (rI0 fun i j => .int (f i j)) (dI0 f) := by
  intro B F0 F H o σ ρ Q v w a b rel ra rb h
  cases ra with
  | int i =>
    cases rb with
    | int j => exact ⟨i, j, rfl, rfl, h.here rel (.int _)⟩
    | _ => exact h.elim
  | _ => cases rb <;> exact h.elim
def dB0 (f : Int → Int → Bool) : D → D → R D
  | .int i, .int j => .ok (.bl (f i j))
  | _, _ => .bad
theorem pu_B0 {f : Int → Int → Bool} : PuR2 G W (rI0 fun i j => .bl (f i j)) (dB0 f) := by
  intro B F0 F H o σ ρ Q v w a b rel ra rb h
  cases ra with
  | int i =>
    cases rb with
    | int j => exact ⟨i, j, rfl, rfl, h.here rel (.bl _)⟩
    | _ => exact h.elim
  | _ => cases rb <;> exact h.elim
def D.sub : D → D → R D := dI0 fun i j => i - j
def mulC (i j : Int) : Bool := (decide (-(2 ^ 64) < i) && decide (i < 2 ^ 64)) || (decide (-(2 ^ 64) < j) && decide (j < 2 ^ 64))
theorem mulC_ok (i j : Int) (h : mulC i j = true) : CMul i j := by
  unfold mulC at h
  rw [Bool.or_eq_true, Bool.and_eq_true, Bool.and_eq_true] at h
  rcases h with ⟨a, b⟩ | ⟨a, b⟩
  · exact .inl ⟨of_decide_eq_true a, of_decide_eq_true b⟩
  · exact .inr ⟨of_decide_eq_true a, of_decide_eq_true b⟩
/-- a list or tuple, so many times -/
def repD (ds : List D) (k : Int) : List D := (List.replicate k.toNat ds).flatten
def D.mul : D → D → R D
  | .int i, .int j => if mulC i j = true then .ok (.int (i * j)) else .bad
  | .lst ds, .int k => if -(2 ^ 63) ≤ k ∧ k < 2 ^ 63 ∧ ds.length * k.toNat ≤ sizeLine then .ok (.lst (repD ds k)) else .bad
  | .tup ds, .int k => if ds ≠ [] ∧ 2 ≤ k ∧ k ≤ 1000 ∧ ds.length ≤ 1000 then .ok (.tup (repD ds k)) else if ds ≠ [] ∧ k = 1 then .ok (.tup ds) else if ds ≠ [] ∧ k = 0 then .ok (.tup []) else .bad
  | _, _ => .bad
abbrev rMulAll (K : PySem.W.Frag) : R2 := fun x y H Q => (rI CMul fun i j => V.int (i * j)) x y H Q ∨ (rRep x y H Q ∨ (rRepT K x y H Q ∨ TpM.rTimes K x y H Q))
theorem op_mulAll : OpR X (binaryOp .Mult) (rMulAll X.K) := OpR.or op_mul (OpR.or op_rep (OpR.or op_repT TpM.op_times))
theorem RpL.rep {F : Hp} {ds : List D} {vs : List V} (h : RpL G F ds vs) : ∀ n : Nat, RpL G F (List.replicate n ds).flatten (List.replicate n vs).flatten
  | 0 => .nil
  | n + 1 => by rw [List.replicate_succ, List.replicate_succ, List.flatten_cons, List.flatten_cons]; exact h.append (RpL.rep h n)
theorem pu_mul : PuR2 G W (rMulAll G.K) D.mul := by
  intro B F0 F H o σ ρ Q v w a b rel ra rb h
  cases ra with
  | int i =>
    cases rb with
    | int j => exact .inl ⟨i, j, rfl, rfl, mulC_ok _ _ (Res.ifP h).1, (Res.ifP h).2.here rel (.int _)⟩
    | _ => exact h.elim
  | @lst p vs ds h1 r1 =>
    cases rb with
    | int k =>
      obtain ⟨⟨c1, c2, c3⟩, h⟩ := Res.ifP h
      exact .inr (.inl ⟨p, k, vs, rfl, rfl, rel.core.fh _ _ h1, c1, c2, by rw [← r1.length]; exact c3, fun z hz => h.new rel hz fun F' le e => .lst e ((r1.mono le).rep k.toNat)⟩)
    | _ => exact h.elim
  | @tup p vs ds h1 r1 =>
    cases rb with
    | int k =>
      have hne : ds ≠ [] → vs ≠ [] := fun c e => c (by subst e; cases r1; rfl)
      have hT : SqT G.K H p vs := .inl (.inl (rel.core.fh _ _ h1))
      unfold D.mul at h
      dsimp only at h
      by_cases q1 : ds ≠ [] ∧ 2 ≤ k ∧ k ≤ 1000 ∧ ds.length ≤ 1000
      · rw [if_pos q1] at h
        exact .inr (.inr (.inl ⟨p, k, vs, rfl, rfl, hT, hne q1.1, q1.2.1, q1.2.2.1, by rw [← r1.length]; exact q1.2.2.2, fun z hz => h.new rel hz fun F' le e => .tup e ((r1.mono le).rep k.toNat)⟩))
      · rw [if_neg q1] at h
        by_cases q2 : ds ≠ [] ∧ k = 1
        · rw [if_pos q2] at h
          exact .inr (.inr (.inr ⟨p, k, vs, rfl, rfl, hT, hne q2.1, .inl ⟨q2.2, h.here rel (.tup h1 r1)⟩⟩))
        · rw [if_neg q2] at h
          by_cases q3 : ds ≠ [] ∧ k = 0
          · rw [if_pos q3] at h
            exact .inr (.inr (.inr ⟨p, k, vs, rfl, rfl, hT, hne q3.1, .inr ⟨q3.2, fun z hz => h.new rel hz fun F' le e => .tup e .nil⟩⟩))
          · rw [if_neg q3] at h
            exact h.elim
    | _ => exact h.elim
  | _ => cases rb <;> exact h.elim
def divC (i j : Int) : Bool := decide (j ≠ 0) && decide (j.natAbs < 1073741824)
theorem divC_ok (i j : Int) (h : divC i j = true) : CDivN i j := by
  unfold divC at h
  rw [Bool.and_eq_true] at h
  exact ⟨of_decide_eq_true h.1, of_decide_eq_true h.2⟩
def D.fdiv : D → D → R D := dI divC fun i j => i.fdiv j
def modC (i j : Int) : Bool := decide (j ≠ 0)
def D.mod : D → D → R D := dI modC fun i j => i.fmod j
theorem pu_sub : PuR2 G W (rI0 fun i j => .int (i - j)) D.sub := pu_I0
theorem pu_fdiv : PuR2 G W (rI CDivN fun i j => .int (i.fdiv j)) D.fdiv := pu_I divC_ok
theorem pu_mod : PuR2 G W (rI (fun _ j => j ≠ 0) fun i j => .int (i.fmod j)) D.mod := pu_I fun _ _ h => of_decide_eq_true h
def powC (i j : Int) : Bool := decide (0 ≤ j) && (decide (j ≤ 1000000) && decide (i.natAbs < 2 ^ 64))
def D.pow : D → D → R D := dI powC fun i j => i ^ j.toNat
theorem pu_pow : PuR2 G W (rI CPow fun i j => .int (i ^ j.toNat)) D.pow := pu_I fun i j h => by
  unfold powC at h
  rw [Bool.and_eq_true, Bool.and_eq_true] at h
  exact ⟨of_decide_eq_true h.1, of_decide_eq_true h.2.1, of_decide_eq_true h.2.2⟩
def D.neg : D → R D
  | .int i => .ok (.int (-i))
  | _ => .bad
theorem pu_neg : PuR1 G W (rU fun i => .int (-i)) D.neg := by
  intro B F0 F H o σ ρ Q v a rel ra h
  cases ra with
  | int i => exact ⟨i, rfl, h.here rel (.int _)⟩
  | _ => exact h.elim
/-! ### comparisons -/
def D.ge : D → D → R D := dB0 fun i j => decide (j ≤ i)
def D.gt : D → D → R D := dB0 fun i j => decide (j < i)
def D.le : D → D → R D := dB0 fun i j => decide (i ≤ j)
def D.lt : D → D → R D := dB0 fun i j => decide (i < j)
theorem pu_ge : PuR2 G W (rI0 fun i j => .bl (decide (j ≤ i))) D.ge := pu_B0
theorem pu_gt : PuR2 G W (rI0 fun i j => .bl (decide (j < i))) D.gt := pu_B0
theorem pu_le : PuR2 G W (rI0 fun i j => .bl (decide (i ≤ j))) D.le := pu_B0
theorem pu_lt : PuR2 G W (rI0 fun i j => .bl (decide (i < j))) D.lt := pu_B0
/-! data that == takes -/
mutual
def D.py : D → Option PyData
  | .non => some .none
  | .bl b => some (.bool b)
  | .int i => some (.int i)
  | .str x => some (.str x)
  | .tup ds => (D.pyL ds).map .tuple
  | .lst ds => (D.pyL ds).map .list
  | _ => none
def D.pyL : List D → Option (List PyData)
  | [] => some []
  | d :: ds => match d.py, D.pyL ds with
    | some x, some xs => some (x :: xs)
    | _, _ => none
end
mutual
theorem dp_of {B F0 F H : Hp} {o : List Nat} {σ : L2.St} {ρ : Env} (rel : Rel G B F0 F H o σ ρ) : ∀ (d : D) (v : V) (p : PyData), Rp G F d v → d.py = some p → Dp G.K H v p
  | .non, v, p, h, e => by cases h; cases e; exact .non
  | .bl b, v, p, h, e => by cases h; cases e; exact .bl b
  | .int i, v, p, h, e => by cases h; cases e; exact .int i
  | .str x, v, p, h, e => by cases h; cases e; exact .str x
  | .tup ds, v, p, h, e => by
    cases h with
    | tup hh r =>
      unfold D.py at e
      cases q : D.pyL ds with
      | none => rw [q] at e; cases e
      | some ps => rw [q] at e; cases e; exact .tup (.inl (.inl (rel.core.fh _ _ hh))) (dpL_of rel ds _ ps r q)
  | .lst ds, v, p, h, e => by
    cases h with
    | lst hh r =>
      unfold D.py at e
      cases q : D.pyL ds with
      | none => rw [q] at e; cases e
      | some ps => rw [q] at e; cases e; exact .lst (.inl (.inl (rel.core.fh _ _ hh))) (dpL_of rel ds _ ps r q)
  | .dic _ _ _, v, p, h, e => by unfold D.py at e; cases e
  | .iset _, v, p, h, e => by unfold D.py at e; cases e
  | .fn _, v, p, h, e => by unfold D.py at e; cases e
  | .scr _, v, p, h, e => by unfold D.py at e; cases e
  | .ktup _, v, p, h, e => by unfold D.py at e; cases e
  | .ty _, v, p, h, e => by unfold D.py at e; cases e
theorem dpL_of {B F0 F H : Hp} {o : List Nat} {σ : L2.St} {ρ : Env} (rel : Rel G B F0 F H o σ ρ) : ∀ (ds : List D) (vs : List V) (ps : List PyData), RpL G F ds vs → D.pyL ds = some ps → DpAll G.K H vs ps
  | [], vs, ps, h, e => by cases h; unfold D.pyL at e; cases e; exact .nil
  | d :: ds, vs, ps, h, e => by
    cases h with
    | cons hh r =>
      unfold D.pyL at e
      cases q1 : d.py with
      | none => rw [q1] at e; cases e
      | some x =>
        cases q2 : D.pyL ds with
        | none => rw [q1, q2] at e; cases e
        | some xs => rw [q1, q2] at e; cases e; exact .cons (dp_of rel d _ x hh q1) (dpL_of rel ds _ xs r q2)
end
def D.eq2 (a b : D) (f : Bool → Bool) : R D := match a.py, b.py with
  | some x, some y => if SeqAt.shaped x = true ∧ SeqAt.shaped y = true then .ok (.bl (f (PyData.eqv x y))) else .bad
  | _, _ => .bad
def D.eq : D → D → R D := fun a b => D.eq2 a b id
def D.ne : D → D → R D := fun a b => D.eq2 a b not
theorem eq2_of {B F0 F H : Hp} {o : List Nat} {σ : L2.St} {ρ : Env} {Q : VK} {f : Bool → Bool} {v w : V} {a b : D} (rel : Rel G B F0 F H o σ ρ) (ra : Rp G F a v) (rb : Rp G F b w) (h : Res G W B F0 F H o σ ρ (kE G Q) (D.eq2 a b f)) :
    ∃ d e, Dp G.K H v d ∧ Dp G.K H w e ∧ SeqAt.shaped d = true ∧ SeqAt.shaped e = true ∧ Q (.bl (f (PyData.eqv d e))) H := by
  unfold D.eq2 at h
  cases q1 : a.py with
  | none => rw [q1] at h; exact h.elim
  | some x =>
    cases q2 : b.py with
    | none => rw [q1, q2] at h; exact h.elim
    | some y =>
      rw [q1, q2] at h
      obtain ⟨⟨s1, s2⟩, h⟩ := Res.ifP h
      exact ⟨x, y, dp_of rel _ _ _ ra q1, dp_of rel _ _ _ rb q2, s1, s2, h.here rel (.bl _)⟩
theorem pu_eq : PuR2 G W (rEqD G.K) D.eq := fun rel ra rb h => eq2_of rel ra rb h
theorem pu_ne : PuR2 G W (rNeD G.K) D.ne := fun rel ra rb h => eq2_of rel ra rb h
end
end G
/-! S7: in, is, subscripts, calls of builtins, truth. -/
namespace G
open PySem L2
section
variable {X : Cx} {G : Gc} {W : WX}
/-! ### in -/
def rInDT (K : PySem.W.Frag) : R2 := fun x y H Q => ∃ d ds, Dp K H x d ∧ Dp K H y (.tuple ds) ∧ SeqAt.shaped d = true ∧ SeqAt.shaped (.tuple ds) = true ∧ Q (.bl (ds.any fun z => PyData.eqv z d)) H
def rNotInDT (K : PySem.W.Frag) : R2 := fun x y H Q => ∃ d ds, Dp K H x d ∧ Dp K H y (.tuple ds) ∧ SeqAt.shaped d = true ∧ SeqAt.shaped (.tuple ds) = true ∧ Q (.bl (!ds.any fun z => PyData.eqv z d)) H
theorem roomT {A : Around} {d : PyData} {ds : List PyData} (sd : SeqAt.shaped d = true) (hu : A.units + 65 < cLine) : A.units + 1 + min (PyData.depthAll ds) d.depth < cLine := by
  have h1 := SeqAt.depth_of_shaped sd
  have h2 : min (PyData.depthAll ds) d.depth ≤ d.depth := Nat.min_le_right _ _
  omega
theorem op_inDT (hu : X.A.units + 65 < cLine) : OpR X (compareOp .In) (rInDT X.K) := by
  intro pins s σ H x y v u Q I rx ry h
  obtain ⟨d, ds, hd, he, sd, se, q⟩ := h
  obtain ⟨as, r1⟩ := Dp.reads I d x v hd rx
  obtain ⟨bs, r2⟩ := Dp.reads I (.tuple ds) y u he ry
  have c1 := SeqAt.canLay_of_shaped se
  exact SeqAt.in_tuple_reads r2 r1 c1 (SeqAt.canLay_of_shaped sd) (roomT sd hu) ⟨.bl _, H, I, rfl, q⟩
theorem op_notInDT (hu : X.A.units + 65 < cLine) : OpR X (compareOp .NotIn) (rNotInDT X.K) := by
  intro pins s σ H x y v u Q I rx ry h
  obtain ⟨d, ds, hd, he, sd, se, q⟩ := h
  obtain ⟨as, r1⟩ := Dp.reads I d x v hd rx
  obtain ⟨bs, r2⟩ := Dp.reads I (.tuple ds) y u he ry
  have c1 := SeqAt.canLay_of_shaped se
  exact SeqAt.notIn_tuple_reads r2 r1 c1 (SeqAt.canLay_of_shaped sd) (roomT sd hu) ⟨.bl _, H, I, rfl, q⟩
def rInDic : R2 := fun x y H Q => ∃ a r, y = .ref a ∧ DGet H a x r ∧ Q (.bl r.isSome) H
def rNotInDic : R2 := fun x y H Q => ∃ a r, y = .ref a ∧ DGet H a x r ∧ Q (.bl (!r.isSome)) H
theorem op_inDic (hu : X.A.units + 1 < cLine) : OpR X (compareOp .In) rInDic := by
  intro pins s σ H x y v u Q I rx ry h
  obtain ⟨a, r, rfl, g, q⟩ := h
  cases (show u = Value.ref a from ry)
  exact d_in hu I g rx fun s' I' => ⟨.bl _, H, I', rfl, q⟩
theorem op_notInDic (hu : X.A.units + 1 < cLine) : OpR X (compareOp .NotIn) rNotInDic := by
  intro pins s σ H x y v u Q I rx ry h
  obtain ⟨a, r, rfl, g, q⟩ := h
  cases (show u = Value.ref a from ry)
  exact d_notIn hu I g rx fun s' I' => ⟨.bl _, H, I', rfl, q⟩
def D.keyL : List D → Option (List Key)
  | [] => some []
  | .int i :: ds => (D.keyL ds).map (Sum.inl i :: ·)
  | .str x :: ds => (D.keyL ds).map (Sum.inr x :: ·)
  | _ :: _ => none
/-- a value as a dict's key -/
def D.key : D → Option DK
  | .int i => some (.i i)
  | .str x => some (.s x)
  | .tup ds => (D.keyL ds).map .t
  | _ => none
/-- what a dict's pairs hold at a key -/
def dget : List DK → List D → DK → Option D
  | k :: ks, d :: ds, j => if k = j then some d else dget ks ds j
  | _, _, _ => none
/-- flat things, told apart as Python does -/
def D.flatB : D → Bool
  | .non => true
  | .bl _ => true
  | .int _ => true
  | .str _ => true
  | _ => false
def D.eqF : D → D → Bool
  | .non, .non => true
  | .bl a, .bl b => a == b
  | .bl a, .int b => (if a then 1 else 0) == b
  | .int a, .bl b => a == (if b then 1 else 0)
  | .int a, .int b => a == b
  | .str a, .str b => a == b
  | _, _ => false
def isKind (t : Bool) : DK → Bool
  | .t _ => t
  | _ => !t
def D.in2 (a b : D) (f : Bool → Bool) : R D := match b with
  | .lst ds => (match a.py, D.pyL ds with
    | some x, some ys => if SeqAt.shaped x = true ∧ SeqAt.shaped (.list ys) = true then .ok (.bl (f (ys.any fun z => PyData.eqv z x))) else .bad
    | _, _ => .bad)
  | .tup ds => (match a.py, D.pyL ds with
    | some x, some ys => if SeqAt.shaped x = true ∧ SeqAt.shaped (.tuple ys) = true then .ok (.bl (f (ys.any fun z => PyData.eqv z x))) else .bad
    | _, _ => .bad)
  | .ktup ds => if a.flatB = true ∧ ds.all D.flatB = true then .ok (.bl (f (ds.any fun z => D.eqF z a))) else .bad
  | .dic t ks ds => (match a.key with
    | some k => if isKind t k = true then .ok (.bl (f (dget ks ds k).isSome)) else .bad
    | none => .bad)
  | _ => .bad
def D.isIn (a b : D) : R D := D.in2 a b id
def D.notIn (a b : D) : R D := D.in2 a b not
theorem flat_of {F : Hp} {d : D} {v : V} (r : Rp G F d v) (h : d.flatB = true) : flatV v = true := by
  cases r with
  | non => rfl
  | bl b => rfl
  | int i => rfl
  | str x => rfl
  | _ => cases h
theorem eqF_of {F : Hp} {d e : D} {v w : V} (r : Rp G F d v) (q : Rp G F e w) (h1 : d.flatB = true) (h2 : e.flatB = true) : eqV v w = D.eqF d e := by
  cases r <;> first | (cases h1; done) | (cases q <;> first | (cases h2; done) | rfl)
theorem flatL_of {F : Hp} : ∀ {ds : List D} {vs : List V}, RpL G F ds vs → ds.all D.flatB = true → vs.all flatV = true
  | _, _, .nil, _ => rfl
  | _, _, .cons h r, e => by
    rw [List.all_cons, Bool.and_eq_true] at e
    rw [List.all_cons, Bool.and_eq_true]
    exact ⟨flat_of h e.1, flatL_of r e.2⟩
theorem inV_of {F : Hp} {d : D} {v : V} (r : Rp G F d v) (h1 : d.flatB = true) : ∀ {ds : List D} {vs : List V}, RpL G F ds vs → ds.all D.flatB = true → inV v vs = ds.any fun z => D.eqF z d
  | _, _, .nil, _ => rfl
  | _, _, .cons h q, e => by
    rw [List.all_cons, Bool.and_eq_true] at e
    have ih := inV_of r h1 q e.2
    unfold inV at ih ⊢
    rw [List.any_cons, List.any_cons, ih, eqF_of h r e.1 h1]
theorem key_rel {F : Hp} : ∀ {ds : List D} {vs : List V} {ks : List Key}, RpL G F ds vs → D.keyL ds = some ks → vs = ks.map kV
  | [], _, ks, .nil, e => by unfold D.keyL at e; cases e; rfl
  | .int i :: ds, _, ks, .cons (.int _) r, e => by
    unfold D.keyL at e
    cases q : D.keyL ds with
    | none => rw [q] at e; cases e
    | some ks' => rw [q] at e; cases e; rw [key_rel r q]; rfl
  | .str x :: ds, _, ks, .cons (.str _) r, e => by
    unfold D.keyL at e
    cases q : D.keyL ds with
    | none => rw [q] at e; cases e
    | some ks' => rw [q] at e; cases e; rw [key_rel r q]; rfl
  | .non :: _, _, _, _, e => by unfold D.keyL at e; cases e
  | .bl _ :: _, _, _, _, e => by unfold D.keyL at e; cases e
  | .tup _ :: _, _, _, _, e => by unfold D.keyL at e; cases e
  | .lst _ :: _, _, _, _, e => by unfold D.keyL at e; cases e
  | .dic _ _ _ :: _, _, _, _, e => by unfold D.keyL at e; cases e
  | .iset _ :: _, _, _, _, e => by unfold D.keyL at e; cases e
  | .fn _ :: _, _, _, _, e => by unfold D.keyL at e; cases e
  | .scr _ :: _, _, _, _, e => by unfold D.keyL at e; cases e
  | .ktup _ :: _, _, _, _, e => by unfold D.keyL at e; cases e
  | .ty _ :: _, _, _, _, e => by unfold D.keyL at e; cases e

theorem dk_get {F : Hp} {k : Key} : ∀ {ks : List Key} {vs : List V} {ds : List D}, ks.length = vs.length → RpL G F ds vs → valV (ks.zip vs) k = none ∧ dget (ks.map dkK) ds (dkK k) = none ∨ ∃ v d, valV (ks.zip vs) k = some v ∧ dget (ks.map dkK) ds (dkK k) = some d ∧ Rp G F d v
  | [], [], [], _, _ => .inl ⟨rfl, rfl⟩
  | j :: ks, v :: vs, d :: ds, hl, .cons h r => by
    by_cases e : j = k
    · subst e
      refine .inr ⟨v, d, ?_, ?_, h⟩
      · rw [List.zip_cons_cons]; exact valV_pos (p := (j, v)) rfl
      · show (if dkK j = dkK j then some d else _) = some d
        rw [if_pos rfl]
    · have e2 : dkK j ≠ dkK k := fun q => e (by cases j <;> cases k <;> simp [dkK] at q <;> simp [q])
      have hl' : ks.length = vs.length := by simpa using hl
      rw [List.zip_cons_cons, valV_neg (p := (j, v)) e]
      show valV (ks.zip vs) k = none ∧ (if dkK j = dkK k then some d else dget (ks.map dkK) ds (dkK k)) = none ∨ ∃ v' d', valV (ks.zip vs) k = some v' ∧ (if dkK j = dkK k then some d else dget (ks.map dkK) ds (dkK k)) = some d' ∧ Rp G F d' v'
      rw [if_neg e2]
      exact dk_get hl' r
theorem dt_get {F : Hp} {k : List Key} : ∀ {ks : List (List Key)} {vs : List V} {ds : List D}, ks.length = vs.length → RpL G F ds vs → valV (ks.zip vs) k = none ∧ dget (ks.map DK.t) ds (.t k) = none ∨ ∃ v d, valV (ks.zip vs) k = some v ∧ dget (ks.map DK.t) ds (.t k) = some d ∧ Rp G F d v
  | [], [], [], _, _ => .inl ⟨rfl, rfl⟩
  | j :: ks, v :: vs, d :: ds, hl, .cons h r => by
    by_cases e : j = k
    · subst e
      refine .inr ⟨v, d, ?_, ?_, h⟩
      · rw [List.zip_cons_cons]; exact valV_pos (p := (j, v)) rfl
      · show (if DK.t j = DK.t j then some d else _) = some d
        rw [if_pos rfl]
    · have e2 : DK.t j ≠ DK.t k := fun q => e (by injection q)
      have hl' : ks.length = vs.length := by simpa using hl
      rw [List.zip_cons_cons, valV_neg (p := (j, v)) e]
      show valV (ks.zip vs) k = none ∧ (if DK.t j = DK.t k then some d else dget (ks.map DK.t) ds (.t k)) = none ∨ ∃ v' d', valV (ks.zip vs) k = some v' ∧ (if DK.t j = DK.t k then some d else dget (ks.map DK.t) ds (.t k)) = some d' ∧ Rp G F d' v'
      rw [if_neg e2]
      exact dt_get hl' r
/-- the key's own value -/
theorem key_of {F H : Hp} {d : D} {v : V} {k : DK} (hf : ∀ a u, F a = some u → H a = some u) (r : Rp G F d v) (h : d.key = some k) : (∃ j, k = dkK j ∧ v = kV j) ∨ ∃ ks b, k = .t ks ∧ v = .ref b ∧ H b = some (.tup (ks.map kV)) := by
  cases r with
  | int i => cases h; exact .inl ⟨.inl i, rfl, rfl⟩
  | str x => cases h; exact .inl ⟨.inr x, rfl, rfl⟩
  | @tup a vs ds h1 r1 =>
    unfold D.key at h
    dsimp only at h
    cases q : D.keyL ds with
    | none => rw [q] at h; cases h
    | some ks =>
      rw [q] at h; cases h
      rw [key_rel r1 q] at h1
      exact .inr ⟨ks, a, rfl, rfl, hf _ _ h1⟩
  | _ => cases h
/-- what the dict holds at a value -/
theorem dget_of {B F0 F H : Hp} {o : List Nat} {σ : L2.St} {ρ : Env} {t : Bool} {ks : List DK} {ds : List D} {p w : V} {e : D} {k : DK} (rel : Rel G B F0 F H o σ ρ) (rd : Rp G F (.dic t ks ds) p) (re : Rp G F e w) (hk : e.key = some k) (ht : isKind t k = true) :
    ∃ a, p = .ref a ∧ ((DGet H a w none ∧ dget ks ds k = none) ∨ ∃ v d, DGet H a w (some v) ∧ dget ks ds k = some d ∧ Rp G F d v) := by
  cases rd with
  | @dicK a js vs _ h1 hl r1 =>
    rcases key_of rel.core.fh re hk with ⟨j, rfl, rfl⟩ | ⟨js', b, rfl, _⟩
    · refine ⟨a, rfl, ?_⟩
      rcases dk_get (k := j) hl r1 with ⟨x1, x2⟩ | ⟨v, d, x1, x2, x3⟩
      · exact .inl ⟨.inl ⟨_, j, rel.rd h1, rfl, x1.symm⟩, x2⟩
      · exact .inr ⟨v, d, .inl ⟨_, j, rel.rd h1, rfl, x1.symm⟩, x2, x3⟩
    · cases ht
  | @dicT a js vs _ h1 hl r1 =>
    rcases key_of rel.core.fh re hk with ⟨j, rfl, rfl⟩ | ⟨js', b, rfl, rfl, hb⟩
    · cases j <;> cases ht
    · refine ⟨a, rfl, ?_⟩
      rcases dt_get (k := js') hl r1 with ⟨x1, x2⟩ | ⟨v, d, x1, x2, x3⟩
      · exact .inl ⟨.inr ⟨_, js', b, rel.rd h1, rfl, hb, x1.symm⟩, x2⟩
      · exact .inr ⟨v, d, .inr ⟨_, js', b, rel.rd h1, rfl, hb, x1.symm⟩, x2, x3⟩
abbrev rInAll (K : PySem.W.Frag) : R2 := fun x y H Q => rInD K x y H Q ∨ (rInDT K x y H Q ∨ (rInDic x y H Q ∨ rIn K false x y H Q))
abbrev rNotInAll (K : PySem.W.Frag) : R2 := fun x y H Q => rNotInD K x y H Q ∨ (rNotInDT K x y H Q ∨ (rNotInDic x y H Q ∨ rIn K true x y H Q))
theorem op_inAll (hu : X.A.units + 65 < cLine) : OpR X (compareOp .In) (rInAll X.K) := OpR.or (op_inD hu) (OpR.or (op_inDT hu) (OpR.or (op_inDic (by omega)) op_in_seq))
theorem op_notInAll (hu : X.A.units + 65 < cLine) : OpR X (compareOp .NotIn) (rNotInAll X.K) := OpR.or (op_notInD hu) (OpR.or (op_notInDT hu) (OpR.or (op_notInDic (by omega)) op_notIn_seq))
theorem in2_of {B F0 F H : Hp} {o : List Nat} {σ : L2.St} {ρ : Env} {Q : VK} {f : Bool → Bool} {v w : V} {a b : D} (rel : Rel G B F0 F H o σ ρ) (ra : Rp G F a v) (rb : Rp G F b w) (h : Res G W B F0 F H o σ ρ (kE G Q) (D.in2 a b f)) :
    (∃ d ds, Dp G.K H v d ∧ Dp G.K H w (.list ds) ∧ SeqAt.shaped d = true ∧ SeqAt.shaped (.list ds) = true ∧ Q (.bl (f (ds.any fun z => PyData.eqv z d))) H) ∨
    (∃ d ds, Dp G.K H v d ∧ Dp G.K H w (.tuple ds) ∧ SeqAt.shaped d = true ∧ SeqAt.shaped (.tuple ds) = true ∧ Q (.bl (f (ds.any fun z => PyData.eqv z d))) H) ∨
    (∃ a r, w = .ref a ∧ DGet H a v r ∧ Q (.bl (f r.isSome)) H) ∨ ∃ p xs, w = .ref p ∧ (SqL G.K H p xs ∨ SqT G.K H p xs) ∧ flatV v = true ∧ xs.all flatV = true ∧ Q (.bl (f (inV v xs))) H := by
  unfold D.in2 at h
  cases rb with
  | @lst p vs ds h1 r1 =>
    cases q1 : a.py with
    | none => rw [q1] at h; exact h.elim
    | some x =>
      cases q2 : D.pyL ds with
      | none => rw [q1] at h; dsimp only at h; rw [q2] at h; exact h.elim
      | some ys =>
        rw [q1] at h; dsimp only at h; rw [q2] at h
        obtain ⟨⟨s1, s2⟩, h⟩ := Res.ifP h
        exact .inl ⟨x, ys, dp_of rel _ _ _ ra q1, .lst (.inl (.inl (rel.core.fh _ _ h1))) (dpL_of rel _ _ _ r1 q2), s1, s2, h.here rel (.bl _)⟩
  | @tup p vs ds h1 r1 =>
    cases q1 : a.py with
    | none => rw [q1] at h; exact h.elim
    | some x =>
      cases q2 : D.pyL ds with
      | none => rw [q1] at h; dsimp only at h; rw [q2] at h; exact h.elim
      | some ys =>
        rw [q1] at h; dsimp only at h; rw [q2] at h
        obtain ⟨⟨s1, s2⟩, h⟩ := Res.ifP h
        exact .inr (.inl ⟨x, ys, dp_of rel _ _ _ ra q1, .tup (.inl (.inl (rel.core.fh _ _ h1))) (dpL_of rel _ _ _ r1 q2), s1, s2, h.here rel (.bl _)⟩)
  | @ktup p vs ds h1 r1 =>
    obtain ⟨⟨s1, s2⟩, h⟩ := Res.ifP h
    refine .inr (.inr (.inr ⟨p, vs, rfl, .inr (rel.sqT h1), flat_of ra s1, flatL_of r1 s2, ?_⟩))
    rw [inV_of ra s1 r1 s2]
    exact h.here rel (.bl _)
  | dicK h1 hl r1 =>
    cases q1 : a.key with
    | none => rw [q1] at h; exact h.elim
    | some k =>
      rw [q1] at h
      obtain ⟨s1, h⟩ := Res.ifP h
      obtain ⟨p, e, z⟩ := dget_of rel (.dicK h1 hl r1) ra q1 s1
      cases e
      rcases z with ⟨z1, z2⟩ | ⟨v', d', z1, z2, z3⟩
      · rw [z2] at h; exact .inr (.inr (.inl ⟨_, none, rfl, z1, h.here rel (.bl _)⟩))
      · rw [z2] at h; exact .inr (.inr (.inl ⟨_, some v', rfl, z1, h.here rel (.bl _)⟩))
  | dicT h1 hl r1 =>
    cases q1 : a.key with
    | none => rw [q1] at h; exact h.elim
    | some k =>
      rw [q1] at h
      obtain ⟨s1, h⟩ := Res.ifP h
      obtain ⟨p, e, z⟩ := dget_of rel (.dicT h1 hl r1) ra q1 s1
      cases e
      rcases z with ⟨z1, z2⟩ | ⟨v', d', z1, z2, z3⟩
      · rw [z2] at h; exact .inr (.inr (.inl ⟨_, none, rfl, z1, h.here rel (.bl _)⟩))
      · rw [z2] at h; exact .inr (.inr (.inl ⟨_, some v', rfl, z1, h.here rel (.bl _)⟩))
  | _ => exact h.elim
theorem pu_in : PuR2 G W (rInAll G.K) D.isIn := fun rel ra rb h => by
  rcases in2_of rel ra rb h with z | z | z | z
  · exact .inl z
  · exact .inr (.inl z)
  · exact .inr (.inr (.inl z))
  · exact .inr (.inr (.inr z))
theorem pu_notIn : PuR2 G W (rNotInAll G.K) D.notIn := fun rel ra rb h => by
  rcases in2_of rel ra rb h with z | z | z | z
  · exact .inl z
  · exact .inr (.inl z)
  · exact .inr (.inr (.inl z))
  · exact .inr (.inr (.inr z))
/-! ### is -/
def D.isN : D → Bool
  | .non => true
  | _ => false
def D.is2 (a b : D) (f : Bool → Bool) : R D := match b with
  | .non => .ok (.bl (f a.isN))
  | .bl c => (match a with
    | .bl d => .ok (.bl (f (decide (d = c))))
    | _ => .bad)
  | _ => .bad
def D.is (a b : D) : R D := D.is2 a b id
def D.isnt (a b : D) : R D := D.is2 a b not
theorem isN_of {F : Hp} {d : D} {v : V} (r : Rp G F d v) : decide (v = .non) = d.isN := by
  cases r <;> simp [D.isN]
abbrev rIsAll : R2 := fun x y H Q => (y = .non ∧ Q (.bl (decide (x = .non))) H) ∨ ∃ a b, x = .bl a ∧ y = .bl b ∧ Q (.bl (decide (a = b))) H
abbrev rIsntAll : R2 := fun x y H Q => (y = .non ∧ Q (.bl (!decide (x = .non))) H) ∨ ∃ a b, x = .bl a ∧ y = .bl b ∧ Q (.bl (!decide (a = b))) H
theorem op_isAll : OpR X (compareOp .Is) rIsAll := OpR.or op_isN op_is_bl
theorem op_isntAll : OpR X (compareOp .IsNot) rIsntAll := OpR.or op_notN op_isnot_bl
theorem is2_of {B F0 F H : Hp} {o : List Nat} {σ : L2.St} {ρ : Env} {Q : VK} {f : Bool → Bool} {v w : V} {a b : D} (rel : Rel G B F0 F H o σ ρ) (ra : Rp G F a v) (rb : Rp G F b w) (h : Res G W B F0 F H o σ ρ (kE G Q) (D.is2 a b f)) :
    (w = .non ∧ Q (.bl (f (decide (v = .non)))) H) ∨ ∃ c d, v = .bl c ∧ w = .bl d ∧ Q (.bl (f (decide (c = d)))) H := by
  unfold D.is2 at h
  cases rb with
  | non => exact .inl ⟨rfl, by rw [isN_of ra]; exact h.here rel (.bl _)⟩
  | bl c =>
    cases ra with
    | bl d => exact .inr ⟨d, c, rfl, rfl, h.here rel (.bl _)⟩
    | _ => exact h.elim
  | _ => exact h.elim
theorem pu_is : PuR2 G W rIsAll D.is := fun rel ra rb h => is2_of rel ra rb h
theorem pu_isnt : PuR2 G W rIsntAll D.isnt := fun rel ra rb h => is2_of rel ra rb h
/-! ### subscripts -/
/-- the item at an index of any sign -/
def D.ix (a b : D) : R D := match a, b with
  | .lst ds, .int i => (match atI ds i with
    | some d => .ok d
    | none => .bad)
  | .scr ds, .int i => (match atI ds i with
    | some d => .ok d
    | none => .bad)
  | .tup ds, .int i => (match atI ds i with
    | some d => .ok d
    | none => .bad)
  | .ktup ds, .int i => (match atI ds i with
    | some d => .ok d
    | none => .bad)
  | _, _ => .bad
theorem RpL.atI {F : Hp} {ds : List D} {vs : List V} {i : Int} {d : D} (r : RpL G F ds vs) (h : L2.atI ds i = some d) : ∃ v, L2.atI vs i = some v ∧ Rp G F d v := by
  unfold L2.atI at h ⊢
  rw [r.length] at h
  cases q : ixN vs.length i with
  | none => rw [q] at h; cases h
  | some j =>
    rw [q] at h
    obtain ⟨v, h1, h2⟩ := r.get (i := j) h
    exact ⟨v, h1, h2⟩
abbrev rIxLT (K : PySem.W.Frag) : R2 := fun x y H Q => rIxL K x y H Q ∨ rIxT K x y H Q
theorem ix_LT : IxR X (rIxLT X.K) := IxR.or ix_list ix_tup
theorem pu_ix : PuR2 G W (rIxLT G.K) D.ix := by
  intro B F0 F H o σ ρ Q v w a b rel ra rb h
  unfold D.ix at h
  cases ra with
  | @lst p vs ds h1 r1 =>
    cases rb with
    | int i =>
      cases q : atI ds i with
      | none => dsimp only at h; rw [q] at h; exact h.elim
      | some d =>
        dsimp only at h; rw [q] at h
        obtain ⟨x, x1, x2⟩ := r1.atI q
        exact .inl ⟨p, vs, i, x, rfl, rfl, .inl (.inl (rel.core.fh _ _ h1)), x1, h.here rel x2⟩
    | _ => exact h.elim
  | @scr p vs ds h1 r1 =>
    cases rb with
    | int i =>
      cases q : atI ds i with
      | none => dsimp only at h; rw [q] at h; exact h.elim
      | some d =>
        dsimp only at h; rw [q] at h
        obtain ⟨x, x1, x2⟩ := r1.atI q
        exact .inl ⟨p, vs, i, x, rfl, rfl, rel.sqL h1, x1, h.here rel x2⟩
    | _ => exact h.elim
  | @tup p vs ds h1 r1 =>
    cases rb with
    | int i =>
      cases q : atI ds i with
      | none => dsimp only at h; rw [q] at h; exact h.elim
      | some d =>
        dsimp only at h; rw [q] at h
        obtain ⟨x, x1, x2⟩ := r1.atI q
        exact .inr ⟨p, vs, i, x, rfl, rfl, .inl (.inl (rel.core.fh _ _ h1)), x1, h.here rel x2⟩
    | _ => exact h.elim
  | @ktup p vs ds h1 r1 =>
    cases rb with
    | int i =>
      cases q : atI ds i with
      | none => dsimp only at h; rw [q] at h; exact h.elim
      | some d =>
        dsimp only at h; rw [q] at h
        obtain ⟨x, x1, x2⟩ := r1.atI q
        exact .inr ⟨p, vs, i, x, rfl, rfl, rel.sqT h1, x1, h.here rel x2⟩
    | _ => exact h.elim
  | _ => cases rb <;> exact h.elim
/-- d[k] -/
def D.dgetE (a b : D) : R D := match a with
  | .dic t ks ds => (match b.key with
    | some k => if isKind t k = true then (match dget ks ds k with
      | some d => .ok d
      | none => .bad) else .bad
    | none => .bad)
  | _ => .bad
theorem PuE.dget {o o1 o2 : List Nat} {ta tb : TE} {ma mb : Env → R D} (ha : PuE G W o ta o1 ma) (hb : PuE G W o1 tb o2 mb) : PuE G W o (tDGet ta tb) o2 (m2 D.dgetE ma mb) := by
  intro B F0 F H σ ρ Q rel h
  refine ha rel ((Res.bnd h).imp fun a F1 H1 e1 r1 h1 v rv => ?_)
  refine hb r1 ((Res.bnd h1).imp fun b F2 H2 e2 r2 h2 w rw => ?_)
  have rv' := rv.mono e2.le
  unfold D.dgetE at h2
  cases a with
  | dic t ks ds =>
    cases q1 : b.key with
    | none => dsimp only at h2; rw [q1] at h2; exact h2.elim
    | some k =>
      dsimp only at h2; rw [q1] at h2
      obtain ⟨s1, h2⟩ := Res.ifP h2
      obtain ⟨p, e, z⟩ := dget_of r2 rv' rw q1 s1
      rcases z with ⟨z1, z2⟩ | ⟨v', d', z1, z2, z3⟩
      · rw [z2] at h2; exact h2.elim
      · rw [z2] at h2; exact ⟨p, v', e, z1, h2.here r2 z3⟩
  | _ => exact h2.elim
end
end G
/-! S8: calls of builtins, slices, displays, truth. -/
namespace G
open PySem L2
section
variable {X : Cx} {G : Gc} {W : WX}
def rToInt : List V → Hp → VK → Prop := fun xs H Q => (∃ i, xs = [V.int i] ∧ Q (V.int i) H) ∨ ∃ k, xs = [V.bl k] ∧ Q (V.int (if k then 1 else 0)) H
def rAbs : List V → Hp → VK → Prop := fun xs H Q => ∃ i, xs = [V.int i] ∧ Q (V.int (if i < 0 then -i else i)) H
def rI2 (f : Int → Int → Int) : List V → Hp → VK → Prop := fun xs H Q => ∃ i j, xs = [V.int i, V.int j] ∧ Q (V.int (f i j)) H
def rToTup (K : PySem.W.Frag) : List V → Hp → VK → Prop := fun xs H Q => ∃ p ys, xs = [V.ref p] ∧ ((SqL K H p ys ∧ ∀ l, H l = none → Q (.ref l) (upd H l (.tup ys))) ∨ (SqT K H p ys ∧ Q (.ref p) H))
def rToLst (K : PySem.W.Frag) : List V → Hp → VK → Prop := fun xs H Q => ∃ p ys, xs = [V.ref p] ∧ (SqL K H p ys ∨ SqT K H p ys) ∧ ∀ l, H l = none → Q (.ref l) (upd H l (.lst ys))
/-! ### one value in -/
def d1 (f : D → R D) : List D → R D
  | [d] => f d
  | _ => .bad
theorem pu_c1 {r : List V → Hp → VK → Prop} {f : D → R D} (h : ∀ {B F0 F H : Hp} {o : List Nat} {σ : L2.St} {ρ : Env} {Q : VK} {v : V} {d : D}, Rel G B F0 F H o σ ρ → Rp G F d v → Res G W B F0 F H o σ ρ (kE G Q) (f d) → r [v] H Q) : PuC G W r (d1 f) := by
  intro B F0 F H o σ ρ Q vs ds rel rv q
  cases rv with
  | nil => exact q.elim
  | cons h1 r1 =>
    cases r1 with
    | nil => exact h rel h1 q
    | cons _ _ => exact q.elim
theorem pu_c1O {r : List V → Hp → VK → Prop} {f : D → R D} (h : ∀ {B F0 F H : Hp} {o : List Nat} {σ : L2.St} {ρ : Env} {Q : VK} {v : V} {d : D}, Rel G B F0 F H o σ ρ → Rp G F d v → Res G W B F0 F H o σ ρ (kO G B o σ ρ Q) (f d) → r [v] H Q) : PuCO G W r (d1 f) := by
  intro B F0 F H o σ ρ Q vs ds rel rv q
  cases rv with
  | nil => exact q.elim
  | cons h1 r1 =>
    cases r1 with
    | nil => exact h rel h1 q
    | cons _ _ => exact q.elim
def d2 (f : D → D → R D) : List D → R D
  | [d, e] => f d e
  | _ => .bad
theorem pu_c2 {r : List V → Hp → VK → Prop} {f : D → D → R D} (h : ∀ {B F0 F H : Hp} {o : List Nat} {σ : L2.St} {ρ : Env} {Q : VK} {v w : V} {d e : D}, Rel G B F0 F H o σ ρ → Rp G F d v → Rp G F e w → Res G W B F0 F H o σ ρ (kE G Q) (f d e) → r [v, w] H Q) : PuC G W r (d2 f) := by
  intro B F0 F H o σ ρ Q vs ds rel rv q
  cases rv with
  | nil => exact q.elim
  | cons h1 r1 =>
    cases r1 with
    | nil => exact q.elim
    | cons h2 r2 =>
      cases r2 with
      | nil => exact h rel h1 h2 q
      | cons _ _ => exact q.elim
/-! ### len -/
def D.len : D → R D
  | .str x => if x.length ≤ sizeLine then .ok (.int x.length) else .bad
  | .lst ds => .ok (.int ds.length)
  | .scr ds => .ok (.int ds.length)
  | .tup ds => .ok (.int ds.length)
  | .ktup ds => .ok (.int ds.length)
  | .dic false ks _ => .ok (.int ks.length)
  | _ => .bad
abbrev rLenAll (K : PySem.W.Frag) : List V → Hp → VK → Prop := fun xs H Q => (∃ x n, xs = [x] ∧ LenV K x H n ∧ Q (.int n) H) ∨ ∃ a kvs, xs = [V.ref a] ∧ Rd H a (.dK kvs) ∧ Q (.int kvs.length) H
theorem call_lenD' : CallR X (.builtin "len") (fun xs H Q => ∃ a kvs, xs = [V.ref a] ∧ Rd H a (.dK kvs) ∧ Q (.int kvs.length) H) := by
  intro pins s σ H xs us Q I r h
  obtain ⟨a, kvs, rfl, e, q⟩ := h
  rw [Vals.ref1 r]
  exact d_len I e fun t s' I' => ⟨.int kvs.length, H, I', ⟨t, rfl⟩, q⟩
theorem call_lenAll : CallR X (.builtin "len") (rLenAll X.K) := CallR.or call_len call_lenD'
theorem pu_len : PuC G W (rLenAll G.K) (d1 D.len) := by
  refine pu_c1 (fun {B F0 F H o σ ρ Q v d} rel rv h => ?_)
  cases rv with
  | str x => exact .inl ⟨_, _, rfl, ⟨(Res.ifP h).1, rfl⟩, (Res.ifP h).2.here rel (.int _)⟩
  | @lst a vs ds h1 r1 => exact .inl ⟨_, vs.length, rfl, .inl ⟨vs, .inl (.inl (rel.core.fh _ _ h1)), rfl⟩, by rw [← r1.length]; exact h.here rel (.int _)⟩
  | @scr a vs ds h1 r1 => exact .inl ⟨_, vs.length, rfl, .inl ⟨vs, rel.sqL h1, rfl⟩, by rw [← r1.length]; exact h.here rel (.int _)⟩
  | @tup a vs ds h1 r1 => exact .inl ⟨_, vs.length, rfl, .inr ⟨vs, .inl (.inl (rel.core.fh _ _ h1)), rfl⟩, by rw [← r1.length]; exact h.here rel (.int _)⟩
  | @ktup a vs ds h1 r1 => exact .inl ⟨_, vs.length, rfl, .inr ⟨vs, rel.sqT h1, rfl⟩, by rw [← r1.length]; exact h.here rel (.int _)⟩
  | @dicK a ks vs ds h1 hl r1 =>
    refine .inr ⟨a, _, rfl, rel.rd h1, ?_⟩
    have e : (ks.zip vs).length = (ks.map dkK).length := by rw [List.length_zip, List.length_map, ← hl]; simp
    rw [e]
    exact h.here rel (.int _)
  | _ => exact h.elim
/-! ### int, abs, max, min -/
def D.toInt : D → R D
  | .int i => .ok (.int i)
  | .bl b => .ok (.int (if b then 1 else 0))
  | _ => .bad
theorem pu_int : PuC G W rToInt (d1 D.toInt) := by
  refine pu_c1 (fun {B F0 F H o σ ρ Q v d} rel rv h => ?_)
  cases rv with
  | int i => exact .inl ⟨i, rfl, h.here rel (.int _)⟩
  | bl b => exact .inr ⟨b, rfl, h.here rel (.int _)⟩
  | _ => exact h.elim
def D.abs : D → R D
  | .int i => .ok (.int (if i < 0 then -i else i))
  | _ => .bad
theorem pu_abs : PuC G W rAbs (d1 D.abs) := by
  refine pu_c1 (fun {B F0 F H o σ ρ Q v d} rel rv h => ?_)
  cases rv with
  | int i => exact ⟨i, rfl, h.here rel (.int _)⟩
  | _ => exact h.elim
theorem pu_I2 {f : Int → Int → Int} : PuC G W (rI2 f) (d2 (dI0 f)) := by
  refine pu_c2 (fun {B F0 F H o σ ρ Q v w d e} rel rv rw h => ?_)
  cases rv with
  | int i =>
    cases rw with
    | int j => exact ⟨i, j, rfl, h.here rel (.int _)⟩
    | _ => exact h.elim
  | _ => cases rw <;> exact h.elim
def D.max2 : D → D → R D := dI0 fun i j => if j > i then j else i
def D.min2 : D → D → R D := dI0 fun i j => if j < i then j else i
theorem pu_max2 : PuC G W (rI2 fun i j => if j > i then j else i) (d2 D.max2) := pu_I2
theorem pu_min2 : PuC G W (rI2 fun i j => if j < i then j else i) (d2 D.min2) := pu_I2
/-! ### tuple(..), list(..) -/
def D.toTup : D → R D
  | .lst ds => .ok (.tup ds)
  | .scr ds => .ok (.tup ds)
  | .tup ds => .ok (.tup ds)
  | _ => .bad
theorem pu_tuple : PuC G W (rToTup G.K) (d1 D.toTup) := by
  refine pu_c1 (fun {B F0 F H o σ ρ Q v d} rel rv h => ?_)
  cases rv with
  | @lst a vs ds h1 r1 => exact ⟨a, vs, rfl, .inl ⟨.inl (.inl (rel.core.fh _ _ h1)), fun l hl => h.new rel hl fun F' le e => .tup e (r1.mono le)⟩⟩
  | @scr a vs ds h1 r1 => exact ⟨a, vs, rfl, .inl ⟨rel.sqL h1, fun l hl => h.new rel hl fun F' le e => .tup e (r1.mono le)⟩⟩
  | @tup a vs ds h1 r1 => exact ⟨a, vs, rfl, .inr ⟨.inl (.inl (rel.core.fh _ _ h1)), h.here rel (.tup h1 r1)⟩⟩
  | _ => exact h.elim
def D.toLst : D → R D
  | .lst ds => .ok (.lst ds)
  | .scr ds => .ok (.lst ds)
  | .tup ds => .ok (.lst ds)
  | .ktup ds => .ok (.lst ds)
  | _ => .bad
theorem pu_list : PuCO G W (rToLst G.K) (d1 D.toLst) := by
  refine pu_c1O (fun {B F0 F H o σ ρ Q v d} rel rv h => ?_)
  cases rv with
  | @lst a vs ds h1 r1 => exact ⟨a, vs, rfl, .inl (.inl (.inl (rel.core.fh _ _ h1))), fun l hl => h.newO rel hl (.lst upd_same r1)⟩
  | @scr a vs ds h1 r1 => exact ⟨a, vs, rfl, .inl (rel.sqL h1), fun l hl => h.newO rel hl (.lst upd_same r1)⟩
  | @tup a vs ds h1 r1 => exact ⟨a, vs, rfl, .inr (.inl (.inl (rel.core.fh _ _ h1))), fun l hl => h.newO rel hl (.lst upd_same r1)⟩
  | @ktup a vs ds h1 r1 => exact ⟨a, vs, rfl, .inr (rel.sqT h1), fun l hl => h.newO rel hl (.lst upd_same r1)⟩
  | _ => exact h.elim
/-! ### lists of ints, of truth values -/
def D.ints : List D → Option (List Int)
  | [] => some []
  | .int i :: ds => (D.ints ds).map (i :: ·)
  | _ :: _ => none
def D.bls : List D → Option (List Bool)
  | [] => some []
  | .bl b :: ds => (D.bls ds).map (b :: ·)
  | _ :: _ => none
theorem ints_eq : ∀ {ds : List D} {xs : List Int}, D.ints ds = some xs → ds = xs.map D.int
  | [], xs, e => by unfold D.ints at e; cases e; rfl
  | .int i :: ds, xs, e => by
    unfold D.ints at e
    cases q : D.ints ds with
    | none => rw [q] at e; cases e
    | some ys => rw [q] at e; cases e; rw [ints_eq q]; rfl
  | .non :: _, _, e => by unfold D.ints at e; cases e
  | .bl _ :: _, _, e => by unfold D.ints at e; cases e
  | .str _ :: _, _, e => by unfold D.ints at e; cases e
  | .tup _ :: _, _, e => by unfold D.ints at e; cases e
  | .lst _ :: _, _, e => by unfold D.ints at e; cases e
  | .dic _ _ _ :: _, _, e => by unfold D.ints at e; cases e
  | .iset _ :: _, _, e => by unfold D.ints at e; cases e
  | .fn _ :: _, _, e => by unfold D.ints at e; cases e
  | .scr _ :: _, _, e => by unfold D.ints at e; cases e
  | .ktup _ :: _, _, e => by unfold D.ints at e; cases e
  | .ty _ :: _, _, e => by unfold D.ints at e; cases e
theorem bls_eq : ∀ {ds : List D} {xs : List Bool}, D.bls ds = some xs → ds = xs.map D.bl
  | [], xs, e => by unfold D.bls at e; cases e; rfl
  | .bl i :: ds, xs, e => by
    unfold D.bls at e
    cases q : D.bls ds with
    | none => rw [q] at e; cases e
    | some ys => rw [q] at e; cases e; rw [bls_eq q]; rfl
  | .non :: _, _, e => by unfold D.bls at e; cases e
  | .int _ :: _, _, e => by unfold D.bls at e; cases e
  | .str _ :: _, _, e => by unfold D.bls at e; cases e
  | .tup _ :: _, _, e => by unfold D.bls at e; cases e
  | .lst _ :: _, _, e => by unfold D.bls at e; cases e
  | .dic _ _ _ :: _, _, e => by unfold D.bls at e; cases e
  | .iset _ :: _, _, e => by unfold D.bls at e; cases e
  | .fn _ :: _, _, e => by unfold D.bls at e; cases e
  | .scr _ :: _, _, e => by unfold D.bls at e; cases e
  | .ktup _ :: _, _, e => by unfold D.bls at e; cases e
  | .ty _ :: _, _, e => by unfold D.bls at e; cases e
@[simp] theorem ints_map (xs : List Int) : D.ints (xs.map D.int) = some xs := by
  induction xs with
  | nil => rfl
  | cons x xs ih => rw [List.map_cons]; unfold D.ints; rw [ih]; rfl
@[simp] theorem bls_map (xs : List Bool) : D.bls (xs.map D.bl) = some xs := by
  induction xs with
  | nil => rfl
  | cons x xs ih => rw [List.map_cons]; unfold D.bls; rw [ih]; rfl
theorem RpL.intsV {F : Hp} : ∀ {xs : List Int} {vs : List V}, RpL G F (xs.map D.int) vs → vs = xs.map V.int
  | [], _, .nil => rfl
  | _ :: xs, _, .cons (.int _) r => by rw [RpL.intsV r]; rfl
theorem RpL.blsV {F : Hp} : ∀ {xs : List Bool} {vs : List V}, RpL G F (xs.map D.bl) vs → vs = xs.map V.bl
  | [], _, .nil => rfl
  | _ :: xs, _, .cons (.bl _) r => by rw [RpL.blsV r]; rfl
def dInts (f : List Int → R D) : D → R D
  | .lst ds => (match D.ints ds with
    | some xs => f xs
    | none => .bad)
  | _ => .bad
def dBls (f : List Bool → R D) : D → R D
  | .lst ds => (match D.bls ds with
    | some xs => f xs
    | none => .bad)
  | _ => .bad
theorem dInts_of {B F0 F H : Hp} {o : List Nat} {σ : L2.St} {ρ : Env} {k : D → Hp → Hp → Prop} {v : V} {d : D} {f : List Int → R D} (rel : Rel G B F0 F H o σ ρ) (rv : Rp G F d v) (h : Res G W B F0 F H o σ ρ k (dInts f d)) : ∃ a xs, v = .ref a ∧ H a = some (.lst (xs.map V.int)) ∧ Res G W B F0 F H o σ ρ k (f xs) := by
  unfold dInts at h
  cases rv with
  | @lst a vs ds h1 r1 =>
    cases q : D.ints ds with
    | none => dsimp only at h; rw [q] at h; exact h.elim
    | some xs =>
      dsimp only at h; rw [q] at h
      rw [ints_eq q] at r1
      exact ⟨a, xs, rfl, by rw [← r1.intsV]; exact rel.core.fh _ _ h1, h⟩
  | _ => exact h.elim
theorem dBls_of {B F0 F H : Hp} {o : List Nat} {σ : L2.St} {ρ : Env} {k : D → Hp → Hp → Prop} {v : V} {d : D} {f : List Bool → R D} (rel : Rel G B F0 F H o σ ρ) (rv : Rp G F d v) (h : Res G W B F0 F H o σ ρ k (dBls f d)) : ∃ a xs, v = .ref a ∧ H a = some (.lst (xs.map V.bl)) ∧ Res G W B F0 F H o σ ρ k (f xs) := by
  unfold dBls at h
  cases rv with
  | @lst a vs ds h1 r1 =>
    cases q : D.bls ds with
    | none => dsimp only at h; rw [q] at h; exact h.elim
    | some xs =>
      dsimp only at h; rw [q] at h
      rw [bls_eq q] at r1
      exact ⟨a, xs, rfl, by rw [← r1.blsV]; exact rel.core.fh _ _ h1, h⟩
  | _ => exact h.elim
def D.sum : D → R D := dInts fun xs => .ok (.int xs.sum)
theorem pu_sum : PuC G W (rSum G.K) (d1 D.sum) := by
  refine pu_c1 (fun rel rv h => ?_)
  obtain ⟨a, xs, rfl, h1, h⟩ := dInts_of rel rv h
  exact ⟨a, xs, rfl, .inl (.inl h1), h.here rel (.int _)⟩
/-- the greatest, the least of some ints -/
def gtI : Int → List Int → Int
  | m, [] => m
  | m, x :: xs => gtI (if m < x then x else m) xs
def ltI : Int → List Int → Int
  | m, [] => m
  | m, x :: xs => ltI (if x < m then x else m) xs
theorem gtI_spec : ∀ (xs : List Int) (m : Int), (gtI m xs = m ∨ gtI m xs ∈ xs) ∧ m ≤ gtI m xs ∧ ∀ y ∈ xs, y ≤ gtI m xs
  | [], m => ⟨.inl rfl, Int.le_refl m, fun y h => by cases h⟩
  | x :: xs, m => by
    obtain ⟨h1, h2, h3⟩ := gtI_spec xs (if m < x then x else m)
    show (gtI (if m < x then x else m) xs = m ∨ gtI (if m < x then x else m) xs ∈ x :: xs) ∧ m ≤ gtI (if m < x then x else m) xs ∧ ∀ y ∈ x :: xs, y ≤ gtI (if m < x then x else m) xs
    generalize gtI (if m < x then x else m) xs = z at *
    refine ⟨?_, ?_, fun y hy => ?_⟩
    · rcases h1 with h1 | h1
      · split at h1
        · exact .inr (by rw [h1]; exact List.mem_cons_self)
        · exact .inl h1
      · exact .inr (List.mem_cons_of_mem _ h1)
    · split at h2 <;> omega
    · rcases List.mem_cons.mp hy with e | e
      · subst e; split at h2 <;> omega
      · exact h3 y e
theorem ltI_spec : ∀ (xs : List Int) (m : Int), (ltI m xs = m ∨ ltI m xs ∈ xs) ∧ ltI m xs ≤ m ∧ ∀ y ∈ xs, ltI m xs ≤ y
  | [], m => ⟨.inl rfl, Int.le_refl m, fun y h => by cases h⟩
  | x :: xs, m => by
    obtain ⟨h1, h2, h3⟩ := ltI_spec xs (if x < m then x else m)
    show (ltI (if x < m then x else m) xs = m ∨ ltI (if x < m then x else m) xs ∈ x :: xs) ∧ ltI (if x < m then x else m) xs ≤ m ∧ ∀ y ∈ x :: xs, ltI (if x < m then x else m) xs ≤ y
    generalize ltI (if x < m then x else m) xs = z at *
    refine ⟨?_, ?_, fun y hy => ?_⟩
    · rcases h1 with h1 | h1
      · split at h1
        · exact .inr (by rw [h1]; exact List.mem_cons_self)
        · exact .inl h1
      · exact .inr (List.mem_cons_of_mem _ h1)
    · split at h2 <;> omega
    · rcases List.mem_cons.mp hy with e | e
      · subst e; split at h2 <;> omega
      · exact h3 y e
def maxI : List Int → Option Int
  | [] => none
  | x :: xs => some (gtI x xs)
def minI : List Int → Option Int
  | [] => none
  | x :: xs => some (ltI x xs)
def D.max : D → R D := dInts fun xs => match maxI xs with
  | some m => .ok (.int m)
  | none => .bad
def D.min : D → R D := dInts fun xs => match minI xs with
  | some m => .ok (.int m)
  | none => .bad
theorem pu_max : PuC G W (rMax G.K) (d1 D.max) := by
  refine pu_c1 (fun rel rv h => ?_)
  obtain ⟨a, xs, rfl, h1, h⟩ := dInts_of rel rv h
  cases xs with
  | nil => exact h.elim
  | cons x xs =>
    refine ⟨a, x :: xs, rfl, .inl (.inl h1), Nat.succ_pos _, fun m hm hle => ?_⟩
    obtain ⟨z1, z2, z3⟩ := gtI_spec xs x
    have e : m = gtI x xs := by
      have i1 : gtI x xs ∈ x :: xs := z1.elim (fun z => by rw [z]; exact List.mem_cons_self) fun z => List.mem_cons_of_mem _ z
      have i2 := hle _ i1
      rcases List.mem_cons.mp hm with e | e
      · subst e; omega
      · have := z3 m e; omega
    rw [e]
    exact h.here rel (.int _)
theorem pu_min : PuC G W (rMin G.K) (d1 D.min) := by
  refine pu_c1 (fun rel rv h => ?_)
  obtain ⟨a, xs, rfl, h1, h⟩ := dInts_of rel rv h
  cases xs with
  | nil => exact h.elim
  | cons x xs =>
    refine ⟨a, x :: xs, rfl, .inl (.inl h1), Nat.succ_pos _, fun m hm hle => ?_⟩
    obtain ⟨z1, z2, z3⟩ := ltI_spec xs x
    have e : m = ltI x xs := by
      have i1 : ltI x xs ∈ x :: xs := z1.elim (fun z => by rw [z]; exact List.mem_cons_self) fun z => List.mem_cons_of_mem _ z
      have i2 := hle _ i1
      rcases List.mem_cons.mp hm with e | e
      · subst e; omega
      · have := z3 m e; omega
    rw [e]
    exact h.here rel (.int _)
def D.all : D → R D := dBls fun xs => .ok (.bl (xs.all id))
def D.any : D → R D := dBls fun xs => .ok (.bl (xs.any id))
theorem pu_all : PuC G W (rAll G.K) (d1 D.all) := by
  refine pu_c1 (fun rel rv h => ?_)
  obtain ⟨a, xs, rfl, h1, h⟩ := dBls_of rel rv h
  exact ⟨a, xs, rfl, .inl (.inl h1), h.here rel (.bl _)⟩
theorem pu_any : PuC G W (rAny G.K) (d1 D.any) := by
  refine pu_c1 (fun rel rv h => ?_)
  obtain ⟨a, xs, rfl, h1, h⟩ := dBls_of rel rv h
  exact ⟨a, xs, rfl, .inl (.inl h1), h.here rel (.bl _)⟩
/-! ### slices -/
def optI : Option D → Option (Option Int)
  | none => some none
  | some (.int i) => some (some i)
  | _ => none
def cutD (ds : List D) (lo hi : Option Int) : List D := (ds.drop (HT.sIx ds.length 0 lo)).take (HT.sIx ds.length ds.length hi - HT.sIx ds.length 0 lo)
theorem cutD_of {F : Hp} {ds : List D} {vs : List V} (r : RpL G F ds vs) (lo hi : Option Int) : RpL G F (cutD ds lo hi) (cutV vs lo hi) := by
  unfold cutD cutV
  rw [r.length]
  exact (r.drop _).take _
def D.cut (a : D) (lo hi : Option Int) : R D := match a with
  | .lst ds => .ok (.lst (cutD ds lo hi))
  | .scr ds => .ok (.lst (cutD ds lo hi))
  | .tup ds => .ok (.tup (cutD ds lo hi))
  | _ => .bad
abbrev rSlAll (K : PySem.W.Frag) : V → Option Int → Option Int → Hp → VK → Prop := fun x lo hi H Q => rSlL K x lo hi H Q ∨ rSlA K x lo hi H Q
theorem sl_all : SlR X (rSlAll X.K) := SlR.or sl_list sl_tupA
def PuP (G : Gc) (W : WX) (o : List Nat) (t : TO) (o' : List Nat) (m : Env → R (Option Int)) : Prop :=
  ∀ {B F0 F H : Hp} {σ : L2.St} {ρ : Env} {Q : Option Int → Hp → Prop}, Rel G B F0 F H o σ ρ → Res G W B F0 F H o' σ ρ (fun a _ H' => Q a H') (m ρ) → t σ H Q
def mNoP : Env → R (Option Int) := fun _ => .ok none
def mPart (m : Env → R D) : Env → R (Option Int) := fun ρ => (m ρ).bind fun d => match d with
  | .int i => .ok (some i)
  | _ => .bad
theorem PuP.no {o : List Nat} : PuP G W o tNoPart o mNoP := fun {_ _ F H _ _ _} r h => h F H (Gr.refl F H) r
theorem PuP.part {o o1 : List Nat} {t : TE} {m : Env → R D} (h : PuE G W o t o1 m) : PuP G W o (tPart t) o1 (mPart m) := by
  intro B F0 F H σ ρ Q rel q
  refine h rel ((Res.bnd q).imp fun d F1 H1 e1 r1 q v rv => ?_)
  cases rv with
  | int i => exact ⟨i, rfl, q F1 H1 (Gr.refl F1 H1) r1⟩
  | _ => exact q.elim
def mSl (a : Env → R D) (lo hi : Env → R (Option Int)) : Env → R D := fun ρ => (a ρ).bind fun x => (lo ρ).bind fun l => (hi ρ).bind fun h => x.cut l h
theorem PuE.slice {o o1 o2 o3 : List Nat} {t : TE} {tl th : TO} {m : Env → R D} {ml mh : Env → R (Option Int)} (ha : PuE G W o t o1 m) (hl : PuP G W o1 tl o2 ml) (hh : PuP G W o2 th o3 mh) : PuE G W o (tSl (rSlAll G.K) t tl th) o3 (mSl m ml mh) := by
  intro B F0 F H σ ρ Q rel h
  refine ha rel ((Res.bnd h).imp fun a F1 H1 e1 r1 h1 v rv => ?_)
  refine hl r1 ((Res.bnd h1).imp fun l F2 H2 e2 r2 h2 => ?_)
  refine hh r2 ((Res.bnd h2).imp fun u F3 H3 e3 r3 h3 => ?_)
  have rv' := (rv.mono e2.le).mono e3.le
  cases rv' with
  | @lst p vs ds h4 r4 => exact .inl ⟨p, vs, rfl, .inl (.inl (r3.core.fh _ _ h4)), fun z hz => h3.new r3 hz fun F' le e => .lst e (cutD_of (r4.mono le) l u)⟩
  | @scr p vs ds h4 r4 => exact .inl ⟨p, vs, rfl, r3.sqL h4, fun z hz => h3.new r3 hz fun F' le e => .lst e (cutD_of (r4.mono le) l u)⟩
  | @tup p vs ds h4 r4 =>
    refine .inr ⟨p, vs, rfl, .inl (.inl (r3.core.fh _ _ h4)), fun w => ?_, fun _ z hz => h3.new r3 hz fun F' le e => .tup e (cutD_of (r4.mono le) l u)⟩
    have e : cutD ds l u = ds := by
      unfold cutD
      rw [r4.length, w.1, w.2, Nat.sub_zero, List.drop_zero, ← r4.length]
      exact List.take_length
    have h3' : Res G W B F0 F3 H3 o3 σ ρ (kE G Q) (.ok (.tup (cutD ds l u))) := h3
    rw [e] at h3'
    exact h3'.here r3 (.tup h4 r4)
  | _ => exact h3.elim
/-! ### written tuples, lists, dicts -/
def mTup (m : Env → R (List D)) : Env → R D := fun ρ => (m ρ).bind fun ds => if ds.length ≤ sizeLine then .ok (.tup ds) else .bad
def mLst (m : Env → R (List D)) : Env → R D := fun ρ => (m ρ).bind fun ds => if ds.length ≤ sizeLine then .ok (.lst ds) else .bad
theorem PuE.tupE {o o1 : List Nat} {t : TA} {m : Env → R (List D)} (h : PuA G W o t o1 m) : PuE G W o (tTup t) o1 (mTup m) := by
  intro B F0 F H σ ρ Q rel q
  refine h rel ((Res.bnd q).imp fun ds F1 H1 e1 r1 q vs rv => ?_)
  obtain ⟨hl, q⟩ := Res.ifP q
  exact ⟨by rw [← rv.length]; exact hl, fun p hp => q.new r1 hp fun F' le e => .tup e (rv.mono le)⟩
theorem PuO.lstE {o o1 : List Nat} {t : TA} {m : Env → R (List D)} (h : PuA G W o t o1 m) : PuO G W o (tLst t) o1 (mLst m) := by
  intro B F0 F H σ ρ Q rel q
  refine h rel ((Res.bnd q).imp fun ds F1 H1 e1 r1 q vs rv => ?_)
  obtain ⟨hl, q⟩ := Res.ifP q
  exact ⟨by rw [← rv.length]; exact hl, fun p hp => q.newO r1 hp (.lst upd_same rv)⟩
/-! ### isinstance -/
def D.tyN : D → Option String
  | .non => some "NoneType"
  | .bl _ => some "bool"
  | .int _ => some "int"
  | .str _ => some "str"
  | .tup _ => some "tuple"
  | .lst _ => some "list"
  | .dic false _ _ => some "dict"
  | .ktup _ => some "tuple"
  | .scr _ => some "list"
  | _ => none
def isiT : String → String → Option Bool
  | "NoneType", "int" => some false | "NoneType", "bool" => some false | "NoneType", "str" => some false | "NoneType", "tuple" => some false | "NoneType", "list" => some false | "NoneType", "dict" => some false
  | "bool", "int" => some true | "bool", "bool" => some true | "bool", "str" => some false | "bool", "tuple" => some false | "bool", "list" => some false | "bool", "dict" => some false
  | "int", "int" => some true | "int", "bool" => some false | "int", "str" => some false | "int", "tuple" => some false | "int", "list" => some false | "int", "dict" => some false
  | "str", "int" => some false | "str", "bool" => some false | "str", "str" => some true | "str", "tuple" => some false | "str", "list" => some false | "str", "dict" => some false
  | "tuple", "int" => some false | "tuple", "bool" => some false | "tuple", "str" => some false | "tuple", "tuple" => some true | "tuple", "list" => some false | "tuple", "dict" => some false
  | "list", "int" => some false | "list", "bool" => some false | "list", "str" => some false | "list", "tuple" => some false | "list", "list" => some true | "list", "dict" => some false
  | "dict", "int" => some false | "dict", "bool" => some false | "dict", "str" => some false | "dict", "tuple" => some false | "dict", "list" => some false | "dict", "dict" => some true
  | _, _ => none
end
end G
/-! S9: isinstance, truth, methods that change an own object, stores, what is walked. -/
namespace G
open PySem L2
theorem isiT_ok : ∀ {a b : String} {r : Bool}, isiT a b = some r → kitB a b = some r := by
  intro a b r h
  unfold isiT at h
  split at h <;> first | (cases h; decide +kernel) | cases h
section
variable {X : Cx} {G : Gc} {W : WX} {oL o o1 o2 oI : List Nat}
def D.isi (a b : D) : R D := match b with
  | .ty T => (match a.tyN with
    | some t => (match isiT t T with
      | some r => .ok (.bl r)
      | none => .bad)
    | none => .bad)
  | _ => .bad
theorem tyX_of {B F0 F H : Hp} {σ : L2.St} {ρ : Env} {d : D} {v : V} {t : String} (rel : Rel G B F0 F H o σ ρ) (rv : Rp G F d v) (h : d.tyN = some t) : TyX G.K H v (.type t) := by
  cases rv with
  | non => cases h; exact .base .non
  | bl b => cases h; exact .base (.bl b)
  | int i => cases h; exact .base (.int i)
  | str x => cases h; exact .base (.str x)
  | tup h1 r1 => cases h; exact .base (.tup (rel.core.fh _ _ h1))
  | lst h1 r1 => cases h; exact .base (.lst (rel.core.fh _ _ h1))
  | scr h1 r1 =>
    cases h
    rcases rel.sqL h1 with (z | ⟨x, z⟩) | ⟨x, _, _, z, c, _⟩
    · exact .base (.lst z)
    · exact .base (.frz z)
    · exact .kList z c
  | ktup h1 r1 =>
    cases h
    rcases rel.sqT h1 with (z | ⟨x, z⟩) | ⟨x, _, _, z, c, _⟩
    · exact .base (.tup z)
    · exact .fTuple z
    · exact .kTuple z c
  | dicK h1 hl r1 =>
    cases h
    rcases rel.rd h1 with z | ⟨x, z⟩
    · exact .base (.dK z)
    · exact .fDict z
  | _ => cases h
theorem pu_isi : PuC G W (rIsi G.K) (d2 D.isi) := by
  refine pu_c2 (fun {B F0 F H o σ ρ Q v w d e} rel rv rw h => ?_)
  unfold D.isi at h
  cases rw with
  | ty T =>
    cases q1 : d.tyN with
    | none => dsimp only at h; rw [q1] at h; exact h.elim
    | some t =>
      dsimp only at h; rw [q1] at h
      cases q2 : isiT t T with
      | none => dsimp only at h; rw [q2] at h; exact h.elim
      | some r =>
        dsimp only at h; rw [q2] at h
        exact ⟨v, .ty T, .type t, .type T, r, rfl, .ty T, tyX_of rel rv q1, kit_ty (isiT_ok q2), h.here rel (.bl _)⟩
  | _ => exact h.elim
/-! ### truth -/
def D.truth : D → R Bool
  | .non => .ok false
  | .bl b => .ok b
  | .int i => .ok (i != 0)
  | .str x => if x.length ≤ sizeLine then .ok ((x.length : Int) != 0) else .bad
  | .lst ds => .ok (!ds.isEmpty)
  | .scr ds => .ok (!ds.isEmpty)
  | .tup ds => .ok (!ds.isEmpty)
  | .ktup ds => .ok (!ds.isEmpty)
  | _ => .bad
theorem RpL.isEmpty {F : Hp} {ds : List D} {vs : List V} (r : RpL G F ds vs) : ds.isEmpty = vs.isEmpty := by
  cases r <;> rfl
def mTru (m : Env → R D) : Env → R Bool := fun ρ => (m ρ).bind D.truth
theorem PuT.truth {ta : TE} {ma : Env → R D} (ha : PuE G W o ta o1 ma) : PuT G W o (fun σ H Q => ta σ H fun x H' => ∃ k, TruV G.K x H' k ∧ Q k H') o1 (mTru ma) := by
  intro B F0 F H σ ρ Q rel h
  refine ha rel ((Res.bnd h).imp fun d F1 H1 e1 r1 h1 v rv => ?_)
  cases rv with
  | non => exact ⟨_, rfl, h1 F1 H1 (Gr.refl F1 H1) r1⟩
  | bl b => exact ⟨_, rfl, h1 F1 H1 (Gr.refl F1 H1) r1⟩
  | int i => exact ⟨_, rfl, h1 F1 H1 (Gr.refl F1 H1) r1⟩
  | str x => exact ⟨_, ⟨(Res.ifP h1).1, rfl⟩, (Res.ifP h1).2 F1 H1 (Gr.refl F1 H1) r1⟩
  | @lst a vs ds h2 r2 => exact ⟨_, .inl ⟨vs, .inl (.inl (r1.core.fh _ _ h2)), rfl⟩, by rw [← r2.isEmpty]; exact h1 F1 H1 (Gr.refl F1 H1) r1⟩
  | @scr a vs ds h2 r2 => exact ⟨_, .inl ⟨vs, r1.sqL h2, rfl⟩, by rw [← r2.isEmpty]; exact h1 F1 H1 (Gr.refl F1 H1) r1⟩
  | @tup a vs ds h2 r2 => exact ⟨_, .inr (.inl ⟨vs, .inl (.inl (r1.core.fh _ _ h2)), rfl⟩), by rw [← r2.isEmpty]; exact h1 F1 H1 (Gr.refl F1 H1) r1⟩
  | @ktup a vs ds h2 r2 => exact ⟨_, .inr (.inl ⟨vs, r1.sqT h2, rfl⟩), by rw [← r2.isEmpty]; exact h1 F1 H1 (Gr.refl F1 H1) r1⟩
  | _ => exact h1.elim
/-! ### methods that change an own object -/
def PuM (G : Gc) (r : V → List V → Hp → VK → Prop) (f : D → List D → R (D × D)) : Prop :=
  ∀ {F H : Hp} {a : Addr} {vs : List V} {ds : List D} {d d' e : D} {Q : VK}, Own G F H d a → RpL G F ds vs → (∀ b u, F b = some u → H b = some u) → F a = none → f d ds = .ok (d', e) → (∀ u v, Own G F (upd H a u) d' a → Rp G F e v → Q v (upd H a u)) → r (.ref a) vs H Q
def tyOk (T : String) : D → Bool
  | .lst _ => T == "list"
  | .dic _ _ _ => T == "dict"
  | _ => false
theorem tyV_own {F H : Hp} {d : D} {a : Addr} {T : String} (ow : Own G F H d a) (h : tyOk T d = true) : tyV G.K T (.ref a) H := by
  cases ow with
  | lst h1 r1 => exact .inl ⟨by simpa [tyOk] using h, _, .inl (.inl h1)⟩
  | dicK h1 hl r1 => exact .inr (.inr (.inl ⟨by simpa [tyOk] using h, .inl ⟨_, h1⟩⟩))
  | dicT h1 hl r1 => exact .inr (.inr (.inl ⟨by simpa [tyOk] using h, .inr ⟨_, h1⟩⟩))
  | iset _ _ => cases h
def mMut (T : String) (i : Nat) (f : D → List D → R (D × D)) (ms : Env → R (List D)) (k : D → Env → Out) : Env → Out := fun ρ => match ρ[i]? with
  | some (some d) => if tyOk T d = true then oBind (ms ρ) ρ fun ds => (match f d ds with
    | .ok (d', e) => k e (ρ.set i (some d'))
    | _ => .bad) else .bad
  | _ => .bad
def kDrop : D → Env → Out := fun _ ρ => .nx ρ
def kSet (j : Nat) : D → Env → Out := fun e ρ => .nx (ρ.set j (some e))
def kTg (mg : D → Env → R Env) : D → Env → Out := fun e ρ => match mg e ρ with
  | .ok ρ' => .nx ρ'
  | _ => .bad
/-- how a statement goes on with a method's value -/
def PuK (G : Gc) (W : WX) (oL o : List Nat) (t : Ends → V → L2.St → Hp → Prop) (o' : List Nat) (k : D → Env → Out) : Prop :=
  ∀ {B F0 F H : Hp} {σ : L2.St} {ρ : Env} {X : Ends} {v : V} {d : D}, Rel G B F0 F H o σ ρ → Rp G F d v → Post G W B F0 F oL o' X (k d ρ) → t X v σ H
theorem PuK.drop : PuK G W oL o (fun X _ σ H => X.nx σ H) o kDrop := fun {_ _ F H σ _ _ _ _} rel _ h => h F H σ (Le.refl F) rel
theorem PuK.set {j : Nat} : PuK G W oL o (fun X v σ H => X.nx (σ.set j (some v)) H) (o.filter (· != j)) (kSet j) := fun {_ _ F H σ _ _ _ _} rel rv h => h F H _ (Le.refl F) (rel.set rv)
theorem PuK.ret : PuK G W oL o (fun X v _ H => X.rt v H) o2 (fun e _ => .rt e) := fun {_ _ F H σ _ _ _ _} rel rv h => h F H _ (Le.refl F) rel.core rv
theorem PuK.tg {g : TG} {mg : D → Env → R Env} (hg : PuG G o g o1 mg) : PuK G W oL o (fun X v σ H => g v σ H X.nx) o1 (kTg mg) := by
  intro B F0 F H σ ρ X v d rel rv h
  unfold kTg at h
  cases q : mg d ρ with
  | ok ρ' => rw [q] at h; exact hg rel rv ⟨ρ', q, fun σ' r' => h F H σ' (Le.refl F) r'⟩
  | exc c p => rw [q] at h; exact h.elim
  | bad => rw [q] at h; exact h.elim
theorem Post.ifP {B F0 F : Hp} {oL o' : List Nat} {X : Ends} {c : Prop} [Decidable c] {m : Out} (h : Post G W B F0 F oL o' X (if c then m else .bad)) : c ∧ Post G W B F0 F oL o' X m := by
  split at h
  · rename_i hc; exact ⟨hc, h⟩
  · exact h.elim
theorem mut_end {r : V → List V → Hp → VK → Prop} {f : D → List D → R (D × D)} {t : Ends → V → L2.St → Hp → Prop} {k : D → Env → Out} {i : Nat} {B F0 F H : Hp} {σ : L2.St} {ρ : Env} {X : Ends} {vs : List V} {ds : List D} {d : D} {a : Addr} (hm : PuM G r f) (hk : PuK G W oL o t o1 k) (hi : i ∈ o)
    (rel : Rel G B F0 F H o σ ρ) (rv : RpL G F ds vs) (hρ : ρ[i]? = some (some d)) (ha : σ[i]? = some (some (.ref a))) (h : Post G W B F0 F oL o1 X (match f d ds with
        | .ok (d', e) => k e (ρ.set i (some d'))
        | _ => .bad)) : r (.ref a) vs H (fun v H' => t X v σ H') := by
  obtain ⟨b, q1, q2, q3, q4⟩ := rel.ow i d hρ hi
  rw [ha] at q1; cases q1
  cases q : f d ds with
  | ok z =>
    obtain ⟨d', e⟩ := z
    rw [q] at h
    exact hm q2 rv rel.core.fh q3 q (Q := fun v H' => t X v σ H') fun u v ow re => hk (rel.mut hi hρ ha ow) re h
  | exc c p => rw [q] at h; exact h.elim
  | bad => rw [q] at h; exact h.elim
theorem PuS.mutA {T : String} {r : V → List V → Hp → VK → Prop} {f : D → List D → R (D × D)} {t : Ends → V → L2.St → Hp → Prop} {k : D → Env → Out} {i : Nat} {ts : TA} {ms : Env → R (List D)} (hm : PuM G r f) (hi : i ∈ o1) (hi0 : i ∈ o) (hs : PuA G W o ts o1 ms) (hk : PuK G W oL o1 t o2 k) :
    PuS G W oL o (fun X σ H => tBM G.K T r (tVar i) ts σ H fun v H' => t X v σ H') o2 (mMut T i f ms k) := by
  intro B F0 F H σ ρ X rel h
  unfold mMut at h
  cases hρ : ρ[i]? with
  | none => rw [hρ] at h; exact h.elim
  | some z =>
    cases z with
    | none => rw [hρ] at h; exact h.elim
    | some d =>
      rw [hρ] at h
      obtain ⟨hT, h⟩ := Post.ifP h
      obtain ⟨a, q1, q2, q3, q4⟩ := rel.ow i d hρ hi0
      exact ⟨.ref a, q1, tyV_own q2 hT, hs rel ((Post.res h).imp fun ds F1 H1 e1 r1 q vs rv => mut_end hm hk hi r1 rv hρ q1 q)⟩
theorem PuS.mut0 {T : String} {r : V → List V → Hp → VK → Prop} {f : D → List D → R (D × D)} {t : Ends → V → L2.St → Hp → Prop} {k : D → Env → Out} {i : Nat} (hm : PuM G r f) (hi : i ∈ o) (hk : PuK G W oL o t o2 k) :
    PuS G W oL o (fun X σ H => tBM0 G.K T r (tVar i) σ H fun v H' => t X v σ H') o2 (mMut T i f mNil k) := by
  intro B F0 F H σ ρ X rel h
  unfold mMut at h
  cases hρ : ρ[i]? with
  | none => rw [hρ] at h; exact h.elim
  | some z =>
    cases z with
    | none => rw [hρ] at h; exact h.elim
    | some d =>
      rw [hρ] at h
      obtain ⟨hT, h⟩ := Post.ifP h
      obtain ⟨a, q1, q2, q3, q4⟩ := rel.ow i d hρ hi
      exact ⟨.ref a, q1, tyV_own q2 hT, mut_end hm hk hi rel .nil hρ q1 h⟩
/-! the methods -/
def dAppend : D → List D → R (D × D)
  | .lst xs, [y] => if xs.length < sizeLine then .ok (.lst (xs ++ [y]), .non) else .bad
  | _, _ => .bad
theorem pm_append : PuM G rAppend dAppend := by
  intro F H a vs ds d d' e Q ow rv fh fa hf hq
  cases ow with
  | @lst _ xs es h1 r1 =>
    cases rv with
    | nil => cases hf
    | cons h2 r2 =>
      cases r2 with
      | nil =>
        obtain ⟨hl, hf⟩ := R.ifOk hf
        cases hf
        exact ⟨a, xs, _, rfl, rfl, h1, by rw [← r1.length]; exact hl, hq _ _ (.lst upd_same (r1.append (.cons h2 .nil))) .non⟩
      | cons _ _ => cases hf
  | _ => cases rv <;> cases hf
def dExtend : D → List D → R (D × D)
  | .lst xs, [.lst ys] => if xs.length + ys.length ≤ sizeLine then .ok (.lst (xs ++ ys), .non) else .bad
  | _, _ => .bad
theorem pm_extend : PuM G rExtend dExtend := by
  intro F H a vs ds d d' e Q ow rv fh fa hf hq
  cases ow with
  | @lst _ xs es h1 r1 =>
    cases rv with
    | nil => cases hf
    | cons h2 r2 =>
      cases r2 with
      | nil =>
        cases h2 with
        | @lst b zs fs h3 r3 =>
          obtain ⟨hl, hf⟩ := R.ifOk hf
          cases hf
          exact ⟨a, b, xs, zs, rfl, rfl, h1, fh _ _ h3, by rw [← r1.length, ← r3.length]; exact hl, hq _ _ (.lst upd_same (r1.append r3)) .non⟩
        | _ => cases hf
      | cons _ _ => cases h2 <;> cases hf
  | _ => cases rv <;> cases hf
def rInsert : V → List V → Hp → VK → Prop := fun x vs H Q => ∃ (l : Addr) (xs : List V) (i : Int) (y : V), x = .ref l ∧ vs = [.int i, y] ∧ H l = some (.lst xs) ∧ xs.length < sizeLine ∧ 0 ≤ i ∧ i < 2 ^ 63 ∧
    Q .non (upd H l (.lst (xs.take i.toNat ++ [y] ++ xs.drop i.toNat)))
def dInsert : D → List D → R (D × D)
  | .lst xs, [.int i, y] => if xs.length < sizeLine ∧ 0 ≤ i ∧ i < 2 ^ 63 then .ok (.lst (xs.take i.toNat ++ [y] ++ xs.drop i.toNat), .non) else .bad
  | _, _ => .bad
theorem pm_insert : PuM G rInsert dInsert := by
  intro F H a vs ds d d' e Q ow rv fh fa hf hq
  cases ow with
  | @lst _ xs es h1 r1 =>
    cases rv with
    | nil => cases hf
    | cons h2 r2 =>
      cases r2 with
      | nil => cases h2 <;> cases hf
      | cons h3 r3 =>
        cases r3 with
        | nil =>
          cases h2 with
          | int i =>
            obtain ⟨⟨c1, c2, c3⟩, hf⟩ := R.ifOk hf
            cases hf
            exact ⟨a, xs, i, _, rfl, rfl, h1, by rw [← r1.length]; exact c1, c2, c3, hq _ _ (.lst upd_same (((r1.take _).append (.cons h3 .nil)).append (r1.drop _))) .non⟩
          | _ => cases hf
        | cons _ _ => cases h2 <;> cases hf
  | _ => cases rv <;> cases hf
def dPop : D → List D → R (D × D)
  | .lst xs, [] => (match xs[xs.length - 1]? with
    | some y => .ok (.lst xs.dropLast, y)
    | none => .bad)
  | _, _ => .bad
theorem RpL.dropLast {F : Hp} : ∀ {ds : List D} {vs : List V}, RpL G F ds vs → RpL G F ds.dropLast vs.dropLast := by
  intro ds vs r
  rw [List.dropLast_eq_take, List.dropLast_eq_take, r.length]
  exact r.take _
theorem pm_pop : PuM G rPop dPop := by
  intro F H a vs ds d d' e Q ow rv fh fa hf hq
  cases ow with
  | @lst _ xs es h1 r1 =>
    cases rv with
    | nil =>
      unfold dPop at hf
      cases q : es[es.length - 1]? with
      | none => dsimp only at hf; rw [q] at hf; cases hf
      | some y =>
        dsimp only at hf; rw [q] at hf; cases hf
        obtain ⟨v, h3, h4⟩ := r1.get q
        exact ⟨a, xs, v, rfl, rfl, h1, by rw [← r1.length]; exact h3, hq _ _ (.lst upd_same r1.dropLast) h4⟩
    | cons _ _ => cases hf
  | _ => cases rv <;> cases hf
def dPopAt : D → List D → R (D × D)
  | .lst xs, [.int i] => (match ixN xs.length i with
    | some k => (match xs[k]? with
      | some y => if -(2 ^ 63) ≤ i ∧ i < 2 ^ 63 then .ok (.lst (xs.eraseIdx k), y) else .bad
      | none => .bad)
    | none => .bad)
  | _, _ => .bad
theorem pm_popAt : PuM G rPopAt dPopAt := by
  intro F H a vs ds d d' e Q ow rv fh fa hf hq
  cases ow with
  | @lst _ xs es h1 r1 =>
    cases rv with
    | nil => cases hf
    | cons h2 r2 =>
      cases r2 with
      | nil =>
        cases h2 with
        | int i =>
          unfold dPopAt at hf
          dsimp only at hf
          cases q1 : ixN es.length i with
          | none => rw [q1] at hf; cases hf
          | some k =>
            rw [q1] at hf
            dsimp only at hf
            cases q : es[k]? with
            | none => rw [q] at hf; cases hf
            | some y =>
              rw [q] at hf
              obtain ⟨⟨c1, c2⟩, hf⟩ := R.ifOk hf
              cases hf
              obtain ⟨v, h3, h4⟩ := r1.get q
              exact ⟨a, xs, i, k, v, rfl, rfl, h1, c1, c2, by rw [← r1.length]; exact (ixN_seq q1).1, h3, hq _ _ (.lst upd_same (r1.eraseIdx k)) h4⟩
        | _ => cases hf
      | cons _ _ => cases h2 <;> cases hf
  | _ => cases rv <;> cases hf
/-- the first place of an int among ints -/
def dRemove : D → List D → R (D × D)
  | .lst xs, [.int k] => (match D.ints xs with
    | some ns => if k ∈ ns then .ok (.lst ((ns.eraseIdx (ns.idxOf k)).map D.int), .non) else .bad
    | none => .bad)
  | _, _ => .bad
end
end G
/-! S10: remove, dicts, stores, what is walked. -/
namespace G
open PySem L2
section
variable {X : Cx} {G : Gc} {W : WX} {oL o o1 o2 o3 oI : List Nat}
theorem idx_first : ∀ {ns : List Int} {k : Int}, k ∈ ns → ns[ns.idxOf k]? = some k ∧ ∀ m : Nat, m < ns.idxOf k → ns[m]? ≠ some k
  | [], k, h => by cases h
  | x :: ns, k, h => by
    by_cases e : x = k
    · subst e
      rw [List.idxOf_cons_self]
      exact ⟨rfl, fun m hm => absurd hm (Nat.not_lt_zero m)⟩
    · have hk : k ∈ ns := (List.mem_cons.mp h).elim (fun q => absurd q.symm e) id
      obtain ⟨h1, h2⟩ := idx_first hk
      have ei : (x :: ns).idxOf k = ns.idxOf k + 1 := by
        rw [List.idxOf_cons]
        have : (x == k) = false := by simpa using e
        rw [this]
        rfl
      rw [ei]
      refine ⟨by simpa using h1, fun m hm => ?_⟩
      cases m with
      | zero => simpa using e
      | succ m => simpa using h2 m (by omega)
theorem pm_remove : PuM G rRemI dRemove := by
  intro F H a vs ds d d' e Q ow rv fh fa hf hq
  cases ow with
  | @lst _ xs es h1 r1 =>
    cases rv with
    | nil => cases hf
    | cons h2 r2 =>
      cases r2 with
      | nil =>
        cases h2 with
        | int k =>
          unfold dRemove at hf
          dsimp only at hf
          cases q1 : D.ints es with
          | none => rw [q1] at hf; cases hf
          | some ns =>
            rw [q1] at hf
            obtain ⟨hk, hf⟩ := R.ifOk hf
            cases hf
            have e1 := ints_eq q1
            subst e1
            rw [r1.intsV] at h1
            obtain ⟨i1, i2⟩ := idx_first hk
            exact ⟨a, ns, k, _, rfl, rfl, h1, i1, i2, hq _ _ (.lst upd_same (RpL.ints _)) .non⟩
        | _ => cases hf
      | cons _ _ => cases h2 <;> cases hf
  | _ => cases rv <;> cases hf
/-! ### dicts -/
def mDic (t : Bool) : Env → R D := fun _ => .ok (.dic t [] [])
theorem PuO.dnewK : PuO G W o tDNewK o (mDic false) := fun {_ _ F H σ ρ Q} rel h p hp => Res.newO h rel hp (.dicK (ks := []) (vs := []) upd_same rfl .nil)
theorem PuO.dnewT : PuO G W o tDNewT o (mDic true) := fun {_ _ F H σ ρ Q} rel h p hp => Res.newO h rel hp (.dicT (ks := []) (vs := []) upd_same rfl .nil)
/-- values with those at the key j changed -/
def dputV : List DK → List D → DK → D → List D
  | k :: ks, d :: ds, j, e => (if k = j then e else d) :: dputV ks ds j e
  | _, ds, _, _ => ds
def dhas (ks : List DK) (j : DK) : Bool := ks.any fun k => decide (k = j)
/-- in its place, or at the end -/
def dput (ks : List DK) (ds : List D) (j : DK) (e : D) : List DK × List D := if dhas ks j = true then (ks, dputV ks ds j e) else (ks ++ [j], ds ++ [e])
theorem dkK_inj {a b : Key} (h : dkK a = dkK b) : a = b := by
  cases a <;> cases b <;> simp [dkK] at h <;> simp [h]
theorem any_map {κ : Type} [DecidableEq κ] (f : κ → DK) (hf : ∀ a b, f a = f b → a = b) (j : κ) : ∀ (ks : List κ) (vs : List V), ks.length = vs.length → ((ks.zip vs).any fun kv => decide (kv.1 = j)) = dhas (ks.map f) (f j)
  | [], [], _ => rfl
  | k :: ks, v :: vs, hl => by
    have ih := any_map f hf j ks vs (by simpa using hl)
    unfold dhas at ih ⊢
    rw [List.zip_cons_cons, List.any_cons, List.map_cons, List.any_cons, ih]
    congr 1
    by_cases e : k = j
    · subst e; simp
    · have : f k ≠ f j := fun q => e (hf _ _ q)
      simp [e, this]
theorem repl_map {κ : Type} [DecidableEq κ] {F : Hp} {e : D} {w : V} (f : κ → DK) (hf : ∀ a b, f a = f b → a = b) (j : κ) (re : Rp G F e w) : ∀ (ks : List κ) (vs : List V) (ds : List D), ks.length = vs.length → RpL G F ds vs → ∃ ws, (ks.zip vs).map (fun kv => if kv.1 = j then (kv.1, w) else kv) = ks.zip ws ∧ ks.length = ws.length ∧ RpL G F (dputV (ks.map f) ds (f j) e) ws
  | [], [], [], _, _ => ⟨[], rfl, rfl, .nil⟩
  | k :: ks, v :: vs, d :: ds, hl, .cons h r => by
    obtain ⟨ws, h1, h2, h3⟩ := repl_map f hf j re ks vs ds (by simpa using hl) r
    by_cases q : k = j
    · subst q
      refine ⟨w :: ws, ?_, by simp [h2], ?_⟩
      · rw [List.zip_cons_cons, List.map_cons, h1]; simp
      · show RpL G F ((if f k = f k then e else d) :: dputV (ks.map f) ds (f k) e) (w :: ws)
        rw [if_pos rfl]; exact .cons re h3
    · have q2 : f k ≠ f j := fun z => q (hf _ _ z)
      refine ⟨v :: ws, ?_, by simp [h2], ?_⟩
      · rw [List.zip_cons_cons, List.map_cons, h1]; simp [q]
      · show RpL G F ((if f k = f j then e else d) :: dputV (ks.map f) ds (f j) e) (v :: ws)
        rw [if_neg q2]; exact .cons h h3
theorem put_map {κ : Type} [DecidableEq κ] {F : Hp} {e : D} {w : V} (f : κ → DK) (hf : ∀ a b, f a = f b → a = b) (j : κ) (re : Rp G F e w) (ks : List κ) (vs : List V) (ds : List D) (hl : ks.length = vs.length) (r : RpL G F ds vs) :
    ∃ (ks' : List κ) (ws : List V), putK (ks.zip vs) j w = ks'.zip ws ∧ ks'.length = ws.length ∧ RpL G F (dput (ks.map f) ds (f j) e).2 ws ∧ (dput (ks.map f) ds (f j) e).1 = ks'.map f := by
  unfold putK dput
  rw [any_map f hf j ks vs hl]
  by_cases h : dhas (ks.map f) (f j) = true
  · rw [if_pos h, if_pos h]
    obtain ⟨ws, h1, h2, h3⟩ := repl_map f hf j re ks vs ds hl r
    exact ⟨ks, ws, h1, h2, h3, rfl⟩
  · rw [if_neg h, if_neg h]
    refine ⟨ks ++ [j], vs ++ [w], ?_, by simp [hl], r.append (.cons re .nil), by simp⟩
    rw [List.zip_append hl]
    rfl
def mDPut (i : Nat) (mk mv : Env → R D) : Env → Out := fun ρ => oBind (mv ρ) ρ fun e => match ρ[i]? with
  | some (some (.dic t ks ds)) => oBind (mk ρ) ρ fun j => (match j.key with
    | some k => if isKind t k = true ∧ ks.length < sizeLine then .nx (ρ.set i (some (.dic t (dput ks ds k e).1 (dput ks ds k e).2))) else .bad
    | none => .bad)
  | _ => .bad
theorem dput_end {B F0 F H : Hp} {σ : L2.St} {ρ : Env} {t : Bool} {ks : List DK} {ds : List D} {a : Addr} {y w : V} {j e : D} {k : DK} {i : Nat} {N : L2.St → Hp → Prop} (rel : Rel G B F0 F H o σ ρ) (hi : i ∈ o) (hρ : ρ[i]? = some (some (.dic t ks ds))) (ha : σ[i]? = some (some (.ref a))) (rj : Rp G F j y) (re : Rp G F e w) (hk : j.key = some k) (ht : isKind t k = true) (hl : ks.length < sizeLine)
    (h : ∀ H', Rel G B F0 F H' o σ (ρ.set i (some (.dic t (dput ks ds k e).1 (dput ks ds k e).2))) → N σ H') : ∃ H4, DPut H a y w H4 ∧ N σ H4 := by
  obtain ⟨b, q1, q2, q3, q4⟩ := rel.ow i _ hρ hi
  rw [ha] at q1; cases q1
  cases q2 with
  | @dicK _ js vs _ h1 hz r1 =>
    rcases key_of rel.core.fh rj hk with ⟨j', rfl, rfl⟩ | ⟨_, _, rfl, _⟩
    · obtain ⟨ks', ws, p1, p2, p3, p4⟩ := put_map dkK (fun _ _ => dkK_inj) j' re js vs ds hz r1
      refine ⟨upd H a (.dK (putK (js.zip vs) j' w)), .inl ⟨_, j', h1, rfl, ?_, rfl⟩, h _ (rel.mut hi hρ ha ?_)⟩
      · rw [List.length_zip, ← hz, Nat.min_self]; simpa using hl
      · rw [p1, p4]; exact .dicK upd_same p2 p3
    · cases ht
  | @dicT _ js vs _ h1 hz r1 =>
    rcases key_of rel.core.fh rj hk with ⟨j', rfl, rfl⟩ | ⟨js', b, rfl, rfl, hb⟩
    · cases j' <;> cases ht
    · obtain ⟨ks', ws, p1, p2, p3, p4⟩ := put_map DK.t (fun _ _ z => by injection z) js' re js vs ds hz r1
      refine ⟨upd H a (.dT (putK (js.zip vs) js' w)), .inr ⟨_, js', b, h1, rfl, hb, ?_, rfl⟩, h _ (rel.mut hi hρ ha ?_)⟩
      · rw [List.length_zip, ← hz, Nat.min_self]; simpa using hl
      · rw [p1, p4]; exact .dicT upd_same p2 p3
theorem PuS.dput {i : Nat} {tk tv : TE} {mk mv : Env → R D} (hi1 : i ∈ o1) (hi2 : i ∈ o2) (hv : PuE G W o tv o1 mv) (hk : PuE G W o1 tk o2 mk) : PuS G W oL o (sDPut (tVar i) tk tv) o2 (mDPut i mk mv) := by
  intro B F0 F H σ ρ X rel h
  refine hv rel ((Post.res h).imp fun e F1 H1 e1 r1 q w re => ?_)
  cases hρ : ρ[i]? with
  | none => rw [hρ] at q; exact q.elim
  | some z =>
    cases z with
    | none => rw [hρ] at q; exact q.elim
    | some d =>
      cases d with
      | dic t ks ds =>
        rw [hρ] at q
        dsimp only at q
        obtain ⟨a, q1, q2, q3, q4⟩ := r1.ow i _ hρ hi1
        refine ⟨.ref a, q1, hk r1 ((Post.res q).imp fun j F2 H2 e2 r2 p y rj => ?_)⟩
        cases hj : j.key with
        | none => rw [hj] at p; exact p.elim
        | some k =>
          rw [hj] at p
          obtain ⟨⟨c1, c2⟩, p⟩ := Post.ifP p
          obtain ⟨H4, x1, x2⟩ := dput_end (N := X.nx) r2 hi2 hρ q1 rj (re.mono e2.le) hj c1 c2 fun H' r' => p F2 H' σ (Le.refl F2) r'
          exact ⟨a, H4, rfl, x1, x2⟩
      | _ => rw [hρ] at q; exact q.elim
/-- d.get(k), d.get(k, x) -/
theorem isD_of {B F0 F H : Hp} {σ : L2.St} {ρ : Env} {t : Bool} {ks : List DK} {ds : List D} {v : V} (rel : Rel G B F0 F H o σ ρ) (rd : Rp G F (.dic t ks ds) v) : ∃ a, v = .ref a ∧ IsD H a := by
  cases rd with
  | @dicK a js vs _ h1 hl r1 => exact ⟨a, rfl, .inl ⟨_, rel.rd h1⟩⟩
  | @dicT a js vs _ h1 hl r1 => exact ⟨a, rfl, .inr ⟨_, rel.rd h1⟩⟩
def D.getD3 (a b c : D) : R D := match a with
  | .dic t ks ds => (match b.key with
    | some k => if isKind t k = true then (match dget ks ds k with
      | some d => .ok d
      | none => .ok c) else .bad
    | none => .bad)
  | _ => .bad
def D.isDic : D → Bool
  | .dic _ _ _ => true
  | _ => false
def mGet1 (a b : Env → R D) : Env → R D := fun ρ => (a ρ).bind fun x => if x.isDic = true then (b ρ).bind fun y => x.getD3 y .non else .bad
def mGet2 (a b c : Env → R D) : Env → R D := fun ρ => (a ρ).bind fun x => if x.isDic = true then (b ρ).bind fun y => (c ρ).bind fun z => x.getD3 y z else .bad
theorem getD_of {B F0 F H : Hp} {σ : L2.St} {ρ : Env} {x y z : D} {v w u : V} {Q : VK} (rel : Rel G B F0 F H o σ ρ) (rx : Rp G F x v) (ry : Rp G F y w) (rz : Rp G F z u) (h : Res G W B F0 F H o σ ρ (kE G Q) (x.getD3 y z)) : ∃ a r, v = .ref a ∧ DGet H a w r ∧ Q (r.getD u) H := by
  unfold D.getD3 at h
  cases x with
  | dic t ks ds =>
    cases q1 : y.key with
    | none => dsimp only at h; rw [q1] at h; exact h.elim
    | some k =>
      dsimp only at h; rw [q1] at h
      obtain ⟨s1, h⟩ := Res.ifP h
      obtain ⟨p, e, m⟩ := dget_of rel rx ry q1 s1
      rcases m with ⟨z1, z2⟩ | ⟨v', d', z1, z2, z3⟩
      · rw [z2] at h; exact ⟨p, none, e, z1, h.here rel rz⟩
      · rw [z2] at h; exact ⟨p, some v', e, z1, h.here rel z3⟩
  | _ => exact h.elim
theorem PuE.get1 {ta tb : TE} {ma mb : Env → R D} (ha : PuE G W o ta o1 ma) (hb : PuE G W o1 tb o2 mb) : PuE G W o (tDGet1 ta tb) o2 (mGet1 ma mb) := by
  intro B F0 F H σ ρ Q rel h
  refine ha rel ((Res.bnd h).imp fun a F1 H1 e1 r1 h1 v rv => ?_)
  obtain ⟨hd, h1⟩ := Res.ifP h1
  cases a with
  | dic t ks ds =>
    obtain ⟨p, ep, ip⟩ := isD_of r1 rv
    refine ⟨p, ep, ip, hb r1 ((Res.bnd h1).imp fun b F2 H2 e2 r2 h2 w rw => ?_)⟩
    obtain ⟨p', r, e', g, q⟩ := getD_of r2 (rv.mono e2.le) rw .non h2
    rw [ep] at e'; cases e'
    exact ⟨r, g, q⟩
  | _ => cases hd
theorem PuE.get2 {ta tb tc : TE} {ma mb mc : Env → R D} (ha : PuE G W o ta o1 ma) (hb : PuE G W o1 tb o2 mb) (hc : PuE G W o2 tc o3 mc) : PuE G W o (tDGet2 ta tb tc) o3 (mGet2 ma mb mc) := by
  intro B F0 F H σ ρ Q rel h
  refine ha rel ((Res.bnd h).imp fun a F1 H1 e1 r1 h1 v rv => ?_)
  obtain ⟨hd, h1⟩ := Res.ifP h1
  cases a with
  | dic t ks ds =>
    obtain ⟨p, ep, ip⟩ := isD_of r1 rv
    refine ⟨p, ep, ip, hb r1 ((Res.bnd h1).imp fun b F2 H2 e2 r2 h2 w rw => ?_)⟩
    refine hc r2 ((Res.bnd h2).imp fun c F3 H3 e3 r3 h3 u ru => ?_)
    obtain ⟨p', r, e', g, q⟩ := getD_of r3 ((rv.mono e2.le).mono e3.le) (rw.mono e3.le) ru h3
    rw [ep] at e'; cases e'
    exact ⟨r, g, q⟩
  | _ => cases hd
/-! ### stores into an own list; x += e -/
def mLPut (i : Nat) (mk mv : Env → R D) : Env → Out := fun ρ => oBind (mv ρ) ρ fun e => match ρ[i]? with
  | some (some (.lst ds)) => oBind (mk ρ) ρ fun j => (match j with
    | .int k => (match ixN ds.length k with
      | some n => .nx (ρ.set i (some (.lst (ds.set n e))))
      | none => .bad)
    | _ => .bad)
  | _ => .bad
theorem PuS.lput {i : Nat} {tk tv : TE} {mk mv : Env → R D} (hi1 : i ∈ o1) (hi2 : i ∈ o2) (hv : PuE G W o tv o1 mv) (hk : PuE G W o1 tk o2 mk) : PuS G W oL o (tAsg tv (gSub (tVar i) tk rSetL)) o2 (mLPut i mk mv) := by
  intro B F0 F H σ ρ X rel h
  refine hv rel ((Post.res h).imp fun e F1 H1 e1 r1 q w re => ?_)
  cases hρ : ρ[i]? with
  | none => rw [hρ] at q; exact q.elim
  | some z =>
    cases z with
    | none => rw [hρ] at q; exact q.elim
    | some d =>
      cases d with
      | lst ds =>
        rw [hρ] at q
        dsimp only at q
        obtain ⟨a, q1, q2, q3, q4⟩ := r1.ow i _ hρ hi1
        refine ⟨.ref a, q1, hk r1 ((Post.res q).imp fun j F2 H2 e2 r2 p y rj => ?_)⟩
        obtain ⟨b, y1, y2, y3, y4⟩ := r2.ow i _ hρ hi2
        rw [q1] at y1; cases y1
        cases rj with
        | int k =>
          dsimp only at p
          cases y2 with
          | @lst _ vs _ h1 r3 =>
            cases hn : ixN ds.length k with
            | none => rw [hn] at p; exact p.elim
            | some n =>
              rw [hn] at p
              refine ⟨a, vs, k, n, rfl, rfl, h1, by rw [← r3.length]; exact hn, ?_⟩
              exact p F2 _ σ (Le.refl F2) (r2.mut hi2 hρ q1 (.lst upd_same (r3.set n (re.mono e2.le))))
        | _ => exact p.elim
      | _ => rw [hρ] at q; exact q.elim
def mAug (i : Nat) (f : Int → Int → Int) (m : Env → R D) : Env → Out := fun ρ => match ρ[i]? with
  | some (some (.int x)) => oBind (m ρ) ρ fun d => (match d with
    | .int y => .nx (ρ.set i (some (.int (f x y))))
    | _ => .bad)
  | _ => .bad
theorem PuS.aug {i : Nat} {f : Int → Int → Int} {t : TE} {m : Env → R D} (hi : i ∉ o) (h : PuE G W o t o1 m) : PuS G W oL o (tAug i t (ipI f)) (o1.filter (· != i)) (mAug i f m) := by
  intro B F0 F H σ ρ X rel q
  unfold mAug at q
  cases hρ : ρ[i]? with
  | none => rw [hρ] at q; exact q.elim
  | some z =>
    cases z with
    | none => rw [hρ] at q; exact q.elim
    | some d =>
      cases d with
      | int x =>
        rw [hρ] at q
        dsimp only at q
        obtain ⟨v, q1, q2⟩ := rel.sh i _ hρ hi
        cases q2
        refine ⟨.int x, q1, h rel ((Post.res q).imp fun e F1 H1 e1 r1 p y ry => ?_)⟩
        cases ry with
        | int y => exact ⟨x, y, rfl, rfl, p F1 H1 _ (Le.refl F1) (r1.set (.int _))⟩
        | _ => exact p.elim
      | _ => rw [hρ] at q; exact q.elim
/-! ### what is walked -/
def D.seq : D → R (List D)
  | .lst ds => .ok ds
  | .scr ds => .ok ds
  | .tup ds => .ok ds
  | .ktup ds => .ok ds
  | _ => .bad
def D.seqL : D → R (List D)
  | .lst ds => .ok ds
  | .scr ds => .ok ds
  | _ => .bad
def D.seqT : D → R (List D)
  | .tup ds => .ok ds
  | .ktup ds => .ok ds
  | _ => .bad
def mSq (f : D → R (List D)) (m : Env → R D) : Env → R (List D) := fun ρ => (m ρ).bind f
/-- where a walked list, tuple stands for good -/
theorem yields_of {F : Hp} {J : It} {ds : List D} (h : ∀ F2 H2, Le F F2 → (∀ a u, F2 a = some u → H2 a = some u) → (∀ i, i < ds.length → J.go i H2) ∧ J.stop ds.length H2 ∧ ∀ (i : Nat) d x H3, ds[i]? = some d → J.yld i H2 x H3 → H3 = H2 ∧ Rp G F2 d x) : Yields G F J ds := fun F2 H2 le fh => by
  obtain ⟨h1, h2, h3⟩ := h F2 H2 le fh
  refine ⟨h1, h2, fun i d x H3 hd hy => ?_⟩
  obtain ⟨rfl, r⟩ := h3 i d x H3 hd hy
  exact ⟨F2, Gr.refl F2 _, fh, fun _ q => .inl q, r⟩
theorem sqL_up {F F2 H2 : Hp} {a : Addr} {vs : List V} (le : Le F F2) (fh : ∀ a u, F2 a = some u → H2 a = some u) (h : SqL G.K F a vs) : SqL G.K H2 a vs := (le.toLe0.l (G := G) h).elim (fun q => .inl (q.elim (fun q => .inl (fh _ _ q)) fun ⟨x, q⟩ => .inr ⟨x, fh _ _ q⟩)) .inr
theorem sqT_up {F F2 H2 : Hp} {a : Addr} {vs : List V} (le : Le F F2) (fh : ∀ a u, F2 a = some u → H2 a = some u) (h : SqT G.K F a vs) : SqT G.K H2 a vs := (le.toLe0.t (G := G) h).elim (fun q => .inl (q.elim (fun q => .inl (fh _ _ q)) fun ⟨x, q⟩ => .inr ⟨x, fh _ _ q⟩)) .inr
theorem yl_list {F : Hp} {a : Addr} {vs : List V} {ds : List D} (h : SqL G.K F a vs) (r : RpL G F ds vs) : Yields G F (Itl G.K a) ds := yields_of fun F2 H2 le fh => by
  have q := sqL_up le fh h
  refine ⟨fun i hi => ?_, ⟨vs, q, by rw [r.length]; exact Nat.le_refl _⟩, fun i d x H3 hd hy => ?_⟩
  · have hi' : i < vs.length := by rw [← r.length]; exact hi
    exact ⟨vs, vs[i], q, by simp [hi']⟩
  · obtain ⟨v, h1, h2⟩ := r.get hd
    have e := hy.2 vs q
    rw [h1] at e; cases e
    exact ⟨hy.1, h2.mono le⟩
theorem yl_tup {F : Hp} {a : Addr} {vs : List V} {ds : List D} (h : SqT G.K F a vs) (r : RpL G F ds vs) : Yields G F (Itt G.K a) ds := yields_of fun F2 H2 le fh => by
  have q := sqT_up le fh h
  refine ⟨fun i hi => ?_, ⟨vs, q, by rw [r.length]; exact Nat.le_refl _⟩, fun i d x H3 hd hy => ?_⟩
  · have hi' : i < vs.length := by rw [← r.length]; exact hi
    exact ⟨vs, vs[i], q, by simp [hi']⟩
  · obtain ⟨v, h1, h2⟩ := r.get hd
    have e := hy.2 vs q
    rw [h1] at e; cases e
    exact ⟨hy.1, h2.mono le⟩
theorem PuI.list {t : TE} {m : Env → R D} (h : PuE G W o t o1 m) : PuI G W o (iList G.K t) o1 (mSq D.seqL m) := by
  intro B F0 F H σ ρ K rel q
  refine h rel ((Res.bnd q).imp fun d F1 H1 e1 r1 p v rv => ?_)
  cases rv with
  | @lst a vs ds h1 r2 => exact ⟨a, rfl, ⟨vs, .inl (.inl (r1.core.fh _ _ h1))⟩, p F1 H1 (Gr.refl F1 H1) r1 _ (yl_list (.inl (.inl h1)) r2)⟩
  | @scr a vs ds h1 r2 => exact ⟨a, rfl, ⟨vs, r1.sqL h1⟩, p F1 H1 (Gr.refl F1 H1) r1 _ (yl_list h1 r2)⟩
  | _ => exact p.elim
theorem PuI.tup {t : TE} {m : Env → R D} (h : PuE G W o t o1 m) : PuI G W o (iTup G.K t) o1 (mSq D.seqT m) := by
  intro B F0 F H σ ρ K rel q
  refine h rel ((Res.bnd q).imp fun d F1 H1 e1 r1 p v rv => ?_)
  cases rv with
  | @tup a vs ds h1 r2 => exact ⟨a, rfl, ⟨vs, .inl (.inl (r1.core.fh _ _ h1))⟩, p F1 H1 (Gr.refl F1 H1) r1 _ (yl_tup (.inl (.inl h1)) r2)⟩
  | @ktup a vs ds h1 r2 => exact ⟨a, rfl, ⟨vs, r1.sqT h1⟩, p F1 H1 (Gr.refl F1 H1) r1 _ (yl_tup h1 r2)⟩
  | _ => exact p.elim
def rangeD (a b : Int) : List D := (List.range (b - a).toNat).map fun i => D.int (a + (i : Nat))
theorem yl_range {F : Hp} {lo : Int} {n : Nat} : Yields G F (Itr lo n) ((List.range n).map fun i => D.int (lo + (i : Nat))) := yields_of fun F2 H2 le fh => by
  refine ⟨fun i hi => by show i < n; simpa using hi, by show n ≤ _; simp, fun i d x H3 hd hy => ⟨hy.1, ?_⟩⟩
  rw [List.getElem?_map] at hd
  have e2 : x = V.int (lo + (i : Nat)) := hy.2
  cases q : (List.range n)[i]? with
  | none => rw [q] at hd; cases hd
  | some j =>
    rw [q] at hd; cases hd
    have : j = i := by
      have := List.getElem?_eq_some_iff.mp q
      obtain ⟨h1, h2⟩ := this
      simpa using h2.symm
    subst this
    rw [e2]
    exact .int _
def rangeOk (a b : Int) : Bool := decide (-(2 ^ 62) ≤ a) && (decide (a < 2 ^ 62) && (decide (-(2 ^ 62) ≤ b) && decide (b < 2 ^ 62)))
theorem rangeOk_of {a b : Int} (h : rangeOk a b = true) : -(2 ^ 62) ≤ a ∧ a < 2 ^ 62 ∧ -(2 ^ 62) ≤ b ∧ b < 2 ^ 62 := by
  unfold rangeOk at h
  rw [Bool.and_eq_true, Bool.and_eq_true, Bool.and_eq_true] at h
  exact ⟨of_decide_eq_true h.1, of_decide_eq_true h.2.1, of_decide_eq_true h.2.2.1, of_decide_eq_true h.2.2.2⟩
def dRange1 : D → R (List D)
  | .int j => if rangeOk 0 j = true then .ok (rangeD 0 j) else .bad
  | _ => .bad
def dRange2 : D → D → R (List D)
  | .int i, .int j => if rangeOk i j = true then .ok (rangeD i j) else .bad
  | _, _ => .bad
def mRange2 (a b : Env → R D) : Env → R (List D) := fun ρ => (a ρ).bind fun x => (b ρ).bind fun y => dRange2 x y
theorem PuI.range1 {t : TE} {m : Env → R D} (h : PuE G W o t o1 m) : PuI G W o (iRng1 (tCons t tNil)) o1 (mSq dRange1 m) := by
  intro B F0 F H σ ρ K rel q
  refine h rel ((Res.bnd q).imp fun d F1 H1 e1 r1 p v rv => ?_)
  cases rv with
  | int j =>
    obtain ⟨c, p⟩ := Res.ifP p
    obtain ⟨_, _, c3, c4⟩ := rangeOk_of c
    refine ⟨j, rfl, c3, c4, p F1 H1 (Gr.refl F1 H1) r1 _ ?_⟩
    have := yl_range (G := G) (F := F1) (lo := 0) (n := j.toNat)
    unfold rangeD
    rw [Int.sub_zero]
    exact this
  | _ => exact p.elim
theorem PuI.range2 {t u : TE} {m n : Env → R D} (h : PuE G W o t o1 m) (h2 : PuE G W o1 u o2 n) : PuI G W o (iRng2 (tCons t (tCons u tNil))) o2 (mRange2 m n) := by
  intro B F0 F H σ ρ K rel q
  refine h rel ((Res.bnd q).imp fun d F1 H1 e1 r1 p v rv => ?_)
  refine h2 r1 ((Res.bnd p).imp fun e F2 H2 e2 r2 p w rw => ?_)
  cases rv with
  | int i =>
    cases rw with
    | int j =>
      obtain ⟨c, p⟩ := Res.ifP p
      obtain ⟨c1, c2, c3, c4⟩ := rangeOk_of c
      exact ⟨i, j, rfl, ⟨c1, c2, c3, c4⟩, p F2 H2 (Gr.refl F2 H2) r2 _ yl_range⟩
    | _ => exact p.elim
  | _ => cases rw <;> exact p.elim
/-- new pairs of what f and g tell -/
theorem yl_pair {F : Hp} {J : It} {ds : List D} {xs ys : Nat → Option V} {fs gs : Nat → Option D} {G0 : Hp → Prop} {n : Nat} (w : Walk J n G0 (YPair xs ys)) (hn : ds.length = n) (hG : ∀ F2 H2, Le F F2 → (∀ a u, F2 a = some u → H2 a = some u) → G0 H2)
    (hd : ∀ (i : Nat) d, ds[i]? = some d → ∃ a b, d = .tup [a, b] ∧ fs i = some a ∧ gs i = some b) (hf : ∀ i a, fs i = some a → ∃ v, xs i = some v ∧ Rp G F a v) (hg : ∀ i b, gs i = some b → ∃ v, ys i = some v ∧ Rp G F b v) : Yields G F J ds := fun F2 H2 le fh => by
  subst hn
  have q := hG F2 H2 le fh
  refine ⟨fun i hi => w.goes i H2 hi q, w.stops H2 q, fun i d x H3 hdi hy => ?_⟩
  obtain ⟨a, b, rfl, ha, hb⟩ := hd i d hdi
  obtain ⟨va, xa, ra⟩ := hf i a ha
  obtain ⟨vb, xb, rb⟩ := hg i b hb
  have hi : i < ds.length := (List.getElem?_eq_some_iff.mp hdi).1
  obtain ⟨T, x1, y1, e1, e2, e3, e4, e5⟩ := w.yields i H2 x H3 hi q hy
  rw [xa] at e4; cases e4
  rw [xb] at e5; cases e5
  subst e1 e3
  have fT : F2 T = none := by
    cases z : F2 T with
    | none => rfl
    | some u => rw [fh _ _ z] at e2; cases e2
  refine ⟨upd F2 T (.tup [va, vb]), ⟨Le.upd fT, fun c u z => by rw [upd_ne (ne_of_none z e2)]; exact z⟩, fun c u z => ?_, fun c z => ?_, .tup upd_same (.cons ((ra.mono le).mono (Le.upd fT)) (.cons ((rb.mono le).mono (Le.upd fT)) .nil))⟩
  · by_cases hc : c = T
    · subst hc; rw [upd_same] at z ⊢; exact z
    · rw [upd_ne hc] at z ⊢; exact fh c u z
  · by_cases hc : c = T
    · subst hc; exact .inr e2
    · rw [upd_ne hc] at z; exact .inl z
def enumD (ds : List D) : List D := ds.zipIdx.map fun p => .tup [.int (p.2 : Nat), p.1]
theorem enumD_len (ds : List D) : (enumD ds).length = ds.length := by unfold enumD; simp
theorem enumD_get {ds : List D} {i : Nat} {d : D} (h : (enumD ds)[i]? = some d) : ∃ a b, d = .tup [a, b] ∧ some (D.int (i : Nat)) = some a ∧ ds[i]? = some b := by
  unfold enumD at h
  rw [List.getElem?_map, List.getElem?_zipIdx] at h
  cases q : ds[i]? with
  | none => rw [q] at h; cases h
  | some b => rw [q] at h; cases h; exact ⟨.int (i : Nat), b, by simp, rfl, rfl⟩
def dEnum (f : D → R (List D)) : D → R (List D) := fun d => (f d).bind fun ds => .ok (enumD ds)
theorem PuI.enumL {t : TE} {m : Env → R D} (h : PuE G W o t o1 m) : PuI G W o (iEnum G.K (tCons t tNil)) o1 (mSq (dEnum D.seqL) m) := by
  intro B F0 F H σ ρ K rel q
  refine h rel ((Res.bnd q).imp fun d F1 H1 e1 r1 p v rv => ?_)
  have go : ∀ {a : Addr} {vs : List V} {ds : List D}, SqL G.K F1 a vs → RpL G F1 ds vs → Yields G F1 (Ite G.K a) (enumD ds) := fun {a vs ds} h1 r => by
    refine yl_pair (fs := fun i => some (.int (i : Nat))) (gs := fun i => ds[i]?) (walk_enum (xs := vs)) (by rw [enumD_len, r.length]) (fun F2 H2 le fh => sqL_up le fh h1) (fun i d hd => enumD_get hd) (fun i a e => by cases e; exact ⟨_, rfl, .int _⟩) fun i b e => r.get e
  cases rv with
  | @lst a vs ds h1 r2 => exact ⟨a, vs, rfl, .inl (.inl (r1.core.fh _ _ h1)), p F1 H1 (Gr.refl F1 H1) r1 _ (go (.inl (.inl h1)) r2)⟩
  | @scr a vs ds h1 r2 => exact ⟨a, vs, rfl, r1.sqL h1, p F1 H1 (Gr.refl F1 H1) r1 _ (go h1 r2)⟩
  | _ => exact p.elim
def zipD : List D → List D → List D
  | a :: as, b :: bs => .tup [a, b] :: zipD as bs
  | _, _ => []
theorem zipD_len : ∀ (as bs : List D), (zipD as bs).length = min as.length bs.length
  | [], bs => by simp [zipD]
  | a :: as, [] => by simp [zipD]
  | a :: as, b :: bs => by simp [zipD, zipD_len as bs]
theorem zipD_get : ∀ {as bs : List D} {i : Nat} {d : D}, (zipD as bs)[i]? = some d → ∃ a b, d = .tup [a, b] ∧ as[i]? = some a ∧ bs[i]? = some b
  | [], bs, i, d, h => by simp [zipD] at h
  | a :: as, [], i, d, h => by simp [zipD] at h
  | a :: as, b :: bs, 0, d, h => by simp [zipD] at h; exact ⟨a, b, h.symm, rfl, rfl⟩
  | a :: as, b :: bs, i + 1, d, h => by
    have h' : (zipD as bs)[i]? = some d := by simpa [zipD] using h
    obtain ⟨x, y, e, h1, h2⟩ := zipD_get h'
    exact ⟨x, y, e, by simpa using h1, by simpa using h2⟩
def dZip (x y : D) : R (List D) := match x, y with
  | .lst a, .lst b => .ok (zipD a b)
  | .tup a, .tup b => .ok (zipD a b)
  | _, _ => .bad
def mZip (a b : Env → R D) : Env → R (List D) := fun ρ => (a ρ).bind fun x => (b ρ).bind fun y => dZip x y
theorem walk_zipT {K : PySem.W.Frag} {a b : Addr} {xs ys : List V} {n : Nat} (hn : n = min xs.length ys.length) : Walk (RZ.ItzT K a b) n (fun H => SqT K H a xs ∧ SqT K H b ys) (YPair (fun i => xs[i]?) (fun i => ys[i]?)) := by
  subst hn
  refine ⟨fun i _ hi q => ?_, fun _ q => ⟨xs, ys, q.1, q.2, by omega⟩, fun i H v H' _ q y => ?_⟩
  · have h1 : i < xs.length := by omega
    have h2 : i < ys.length := by omega
    exact ⟨xs, ys, xs[i], ys[i], q.1, q.2, by simp [h1], by simp [h2]⟩
  · obtain ⟨T, x, z, h1, h2, h3, h4, h5⟩ := y
    exact ⟨T, x, z, h1, h2, h3, h4 xs q.1, h5 ys q.2⟩
theorem PuI.zip {t u : TE} {m n : Env → R D} (h : PuE G W o t o1 m) (h2 : PuE G W o1 u o2 n) : PuI G W o (RZ.iZipA G.K (tCons t (tCons u tNil))) o2 (mZip m n) := by
  intro B F0 F H σ ρ K rel q
  refine h rel ((Res.bnd q).imp fun d F1 H1 e1 r1 p v rv => ?_)
  refine h2 r1 ((Res.bnd p).imp fun e F2 H2 e2 r2 p w rw => ?_)
  have rv := rv.mono e2.le
  cases rv with
  | @lst a vs ds h3 r3 =>
    cases rw with
    | @lst b ws es h4 r4 =>
      refine ⟨a, b, vs, ws, rfl, .inl ⟨.inl (.inl (r2.core.fh _ _ h3)), .inl (.inl (r2.core.fh _ _ h4)), p F2 H2 (Gr.refl F2 H2) r2 _ ?_⟩⟩
      exact yl_pair (fs := fun i => ds[i]?) (gs := fun i => es[i]?) (walk_zip (xs := vs) (ys := ws) rfl) (by rw [zipD_len, r3.length, r4.length]) (fun F3 H3 le fh => ⟨sqL_up le fh (.inl (.inl h3)), sqL_up le fh (.inl (.inl h4))⟩) (fun i d hd => zipD_get hd) (fun i a e => r3.get e) fun i b e => r4.get e
    | _ => exact p.elim
  | @tup a vs ds h3 r3 =>
    cases rw with
    | @tup b ws es h4 r4 =>
      refine ⟨a, b, vs, ws, rfl, .inr ⟨.inl (.inl (r2.core.fh _ _ h3)), .inl (.inl (r2.core.fh _ _ h4)), p F2 H2 (Gr.refl F2 H2) r2 _ ?_⟩⟩
      exact yl_pair (fs := fun i => ds[i]?) (gs := fun i => es[i]?) (walk_zipT (xs := vs) (ys := ws) rfl) (by rw [zipD_len, r3.length, r4.length]) (fun F3 H3 le fh => ⟨sqT_up le fh (.inl (.inl h3)), sqT_up le fh (.inl (.inl h4))⟩) (fun i d hd => zipD_get hd) (fun i a e => r3.get e) fun i b e => r4.get e
    | _ => exact p.elim
  | _ => cases rw <;> exact p.elim
end
end G
/-! E1: enumerate over a tuple; a for over a list or a tuple. -/
namespace PySem
open Sem (wp)
open AutoSeq1 (wpAny_loadPart')
/-- enumerate(t), t a tuple -/
theorem enumT_meets (l : Addr) (items : Array Value) :
    Meets (Builtin.«enumerate.__new__» ⟨[.type "enumerate", .ref l], []⟩) (fun _ R s => s.heap.IsTuple l items ∧
      R (.ok (.ret (.ref (s.heap.push { cls := .type "tuple_iterator", data := .fields #[.ref l, .int 0 0] }).objs.size)))
        { s with heap := (s.heap.push { cls := .type "tuple_iterator", data := .fields #[.ref l, .int 0 0] }).push { cls := .type "enumerate", data := .fields #[.none, .bool false, .ref s.heap.objs.size, rawInt 0, .none, .none] } }) :=
  .of_wp fun prog w A R s h => by
    obtain ⟨hp, g, d, tk, os⟩ := s
    obtain ⟨hL, h⟩ := h
    have hsub := sub_enumerate
    wp_walk
    refine wpAny_stack_any fun st => wpAny_pure ?_
    split
    · rename_i c _ _ _ _ _
      cases (c == Value.type "enumerate")
      · wp_walk using wpAny_pyIter_tuple hL
        exact ⟨_, rfl, h⟩
      · wp_walk using wpAny_pyIter_tuple hL
        exact ⟨_, rfl, h⟩
    · wp_walk using wpAny_pyIter_tuple hL
      exact ⟨_, rfl, h⟩
section
variable {prog : Program} {w : World} {A : Around} {E : Value → Shared → Prop} {s : Shared}
theorem enumT_call {l : Addr} {items : Array Value} {Q : Value → Shared → Prop} (hL : s.heap.IsTuple l items)
    (h : ∀ h2, IsEnum h2 (s.heap.objs.size + 1) s.heap.objs.size 0 .none → h2.IsTupleIter s.heap.objs.size l 0 → (∀ b o, s.heap.get? b = some o → h2.get? b = some o) → Q (.ref (s.heap.objs.size + 1)) { s with heap := h2 }) :
    wpAny (model prog w) A (call (.type "enumerate") [.ref l]) Q E s := by
  refine callType_new F.called_enumerate (by decide) (F.typeCall_enumerate_1 _) (F.newCall_enumerate_1 _) (fun obj => F.args_object_init_2 obj _) F.entry_enumerate_new (enumT_meets l items) ⟨hL, ?_⟩
  have sz : (s.heap.push { cls := .type "tuple_iterator", data := .fields #[.ref l, .int 0 0] }).objs.size = s.heap.objs.size + 1 := Heap.size_push ..
  show _ ∧ _
  rw [sz]
  have en : IsEnum ((s.heap.push { cls := .type "tuple_iterator", data := .fields #[.ref l, .int 0 0] }).push { cls := .type "enumerate", data := .fields #[.none, .bool false, .ref s.heap.objs.size, rawInt 0, .none, .none] }) (s.heap.objs.size + 1) s.heap.objs.size 0 .none := by
    have z := Heap.get?_push_size (s.heap.push { cls := .type "tuple_iterator", data := .fields #[.ref l, .int 0 0] }) (o := { cls := .type "enumerate", data := .fields #[.none, .bool false, .ref s.heap.objs.size, rawInt 0, .none, .none] }) rfl
    rw [sz] at z
    exact z
  exact ⟨⟨_, en, rfl⟩, h _ en ⟨_, Heap.get?_push_of_some _ (Heap.get?_push_size _ rfl), rfl, rfl⟩ fun b o x => Heap.get?_push_of_some _ (Heap.get?_push_of_some _ x)⟩
/-- a tuple's iterator, drawn from -/
theorem tupDraws {it l : Addr} {items : Array Value} (hh : A.handled = none) (hne : it ≠ l) : Draws prog w A it [it, l] items.size (fun i v => items[i]? = some v) (fun i h => h.IsTupleIter it l i ∧ h.IsTuple l items) where
  live := fun i h st => let ⟨⟨o, ho, _⟩, _⟩ := st; ⟨o, ho⟩
  frame := fun i h h' st k => by
    obtain ⟨⟨o, ho, a⟩, ⟨u, hu, b⟩⟩ := st
    exact ⟨⟨o, k it (by simp) _ ho, a⟩, ⟨u, k l (by simp) _ hu, b⟩⟩
  item := fun i s Q E hi st hQ => by
    obtain ⟨a, b⟩ := st
    have hx : items[i]? = some items[i] := by simp [hi]
    refine RZ.nextOf_tuple_item a b hx fun h' a' sb => hQ _ h' s.toks hx ⟨a', ?_⟩ sb
    obtain ⟨u, hu, b⟩ := b
    exact ⟨u, (sb.2 l (Ne.symm hne)).trans hu, b⟩
  done := fun s Q E st hE => by
    obtain ⟨a, b⟩ := st
    exact RZ.nextOf_tuple_end hh a b (by simp) hE
end
end PySem
namespace G
open PySem L2
/-- the tuple at a as it stands at each turn, place and item in a new pair -/
def IteT (K : PySem.W.Frag) (a : Addr) : It :=
  ⟨fun i H => ∃ (xs : List V) (x : V), SqT K H a xs ∧ xs[i]? = some x,
   fun i H v H' => ∃ T x, v = .ref T ∧ H T = none ∧ H' = upd H T (.tup [.int (i : Nat), x]) ∧ ∀ xs, SqT K H a xs → xs[i]? = some x,
   fun i H => ∃ xs : List V, SqT K H a xs ∧ xs.length ≤ i⟩
theorem turn_enT {P : Program} {w : World} {K : PySem.W.Frag} {es : List Expr} {kk : Nat} {tp : Pos} (a e it : Addr) :
    Turn P w K (.Tuple es kk tp) (IteT K a) [e, it] e (fun i h => (∃ old, IsEnum h e it ((i : Nat) : Int) old) ∧ h.IsTupleIter it a i ∧ e ≠ it) where
  mem := by simp
  obj := fun i h st b hb => by
    obtain ⟨⟨old, he⟩, ⟨o, ho, hc, hd⟩, _⟩ := st
    rcases (show b = e ∨ b = it by simpa using hb) with z | z
    · rw [z]
      exact ⟨_, he, fun v q => nomatch q⟩
    · rw [z]
      exact ⟨o, ho, fun v q => by rw [hd] at q; cases q⟩
  keep := fun i h h' st k => by
    obtain ⟨⟨old, he⟩, ⟨o, ho, hc, hd⟩, hne⟩ := st
    exact ⟨⟨old, k e (by simp) _ he⟩, ⟨o, k it (by simp) _ ho, hc, hd⟩, hne⟩
  item := by
    intro X hP hw hK hc i pins s σ H E I hf st hg
    subst hP hw hK
    obtain ⟨⟨old, he⟩, hit, hne⟩ := st
    obtain ⟨xs, x, hq, hx⟩ := hg
    obtain ⟨its, rv, p, hz⟩ := I.tuple hq
    obtain ⟨u, hu, ru⟩ := rv.get hx
    have hel : e < s.heap.objs.size := Heap.lt_size he
    have hil : it < s.heap.objs.size := by
      obtain ⟨_, q, _⟩ := hit
      exact Heap.lt_size q
    have hal : it ≠ a := fun z => by
      obtain ⟨_, q, c, _⟩ := hit
      obtain ⟨_, q2, c2, _⟩ := (show s.heap.IsTuple a its.toArray from p)
      rw [z, q2] at q
      cases q
      rw [c] at c2
      exact absurd (Value.type.inj c2) (by decide)
    have hin : X.A.in1.handled = none := I.ok.hd hc
    have hlt : i < its.toArray.size := by
      have := (List.getElem?_eq_some_iff.mp hu).1
      simpa using this
    refine wpAny_pyNext_enum_itemD (P := fun i v => its.toArray[i]? = some v) (tupDraws hin hal) he ⟨hit, p⟩ hlt hne ?_ fun x' h' tk hp ho hs' hT hsz hk => ?_
    · intro hm
      rcases (show e = it ∨ e = a by simpa using hm) with z | z
      · exact hne z
      · subst z
        obtain ⟨_, q2, c2, _⟩ := (show s.heap.IsTuple e its.toArray from p)
        rw [he] at q2
        cases q2
        exact absurd (Value.type.inj c2) (by decide)
    have ex : x' = u := by
      have h1 : its.toArray[i]? = some u := by simpa using hu
      rw [h1] at hp
      exact (Option.some.inj hp).symm
    subst ex
    refine ⟨_, rfl, wpAny_letOwnedTupleGo_enum (s := { s with heap := h', toks := tk + 1 }) ho fun h2 he' sb => ?_⟩
    have hT2 : h2.get? s.heap.objs.size = some { cls := .type "tuple", data := .seq #[.int i tk, x'] } := (sb.2 _ (Nat.ne_of_gt hel)).trans hT
    have new : ObjOk X.prog X.w (upd H s.heap.objs.size (.tup [.int (i : Nat), x])) h2 s.heap.objs.size (.tup [.int (i : Nat), x]) :=
      ⟨by show 2 ≤ sizeLine; rw [sizeLine_eq]; omega, [.int i tk, x'], .cons ⟨tk, rfl⟩ (.cons ru .nil), ⟨_, hT2, rfl, _, rfl⟩⟩
    have I1 : Inv X pins σ (upd H s.heap.objs.size (.tup [.int (i : Nat), x])) { s with heap := h2, toks := tk + 1 } :=
      I.turnedNew (ch := [e, it]) (fun b ob hb q => (sb.2 b (fun z => hb (by simp [z]))).trans (hk b ob (fun z => hb (by simp [z])) (fun z => hb (by simp [z])) q)) hf (Nat.le_refl _) new
    have hit2 : h2.IsTupleIter it a (i + 1) := by
      obtain ⟨⟨o, ho2, hc2⟩, _⟩ := hs'
      exact ⟨o, (sb.2 it (Ne.symm hne)).trans ho2, hc2⟩
    refine ⟨.ref s.heap.objs.size, _, I1, rfl, ⟨_, x, rfl, I.hok.fresh (Nat.le_refl _), rfl, fun ys hy => by rw [I.tuple_inj hy hq]; exact hx⟩, ⟨⟨x', ?_⟩, hit2, hne⟩, fun b hb => ?_⟩
    · rw [show ((i + 1 : Nat) : Int) = (i : Int) + 1 by omega]
      exact he'
    · have hb' : b < s.heap.objs.size := by
        rcases (show b = e ∨ b = it by simpa using hb) with z | z
        · rw [z]; exact hel
        · rw [z]; exact hil
      rw [upd_ne (Nat.ne_of_lt hb')]
      exact (hf b hb).1
  done := by
    intro X hP hw hK hc i pins s σ H E I hf st hg
    subst hP hw hK
    obtain ⟨⟨old, he⟩, hit, hne⟩ := st
    obtain ⟨xs, hq, hx⟩ := hg
    obtain ⟨its, rv, p, hz⟩ := I.tuple hq
    obtain ⟨f0, f1, f2, f3, f4, f5⟩ := hf it (by simp)
    have hl := rv.length
    have hal : it ≠ a := fun z => by
      obtain ⟨_, q, c, _⟩ := hit
      obtain ⟨_, q2, c2, _⟩ := (show s.heap.IsTuple a its.toArray from p)
      rw [z, q2] at q
      cases q
      rw [c] at c2
      exact absurd (Value.type.inj c2) (by decide)
    have hin : X.A.in1.handled = none := I.ok.hd hc
    have none_at : its.toArray[i]? = none := by simp; omega
    have hT : s.TypeIs (.ref e) "enumerate" := ⟨_, he, rfl⟩
    unfold pyNext
    refine wpAny_bind (wpAny_attempt (wpAny_callSpecial?_slot (name := Str.ofString "__next__") hT F.slot_enumerate_next (wpAny_call_entry F.slot_enumerate_next hT F.entry_enumerate_next ?_ (F.args_enumerate_next_1 _))))
    show wpAny _ _ (field (.ref e) 2 >>= _) _ _ _
    refine wpAny_bind (wpAny_field he rfl (x := .ref it) rfl ?_)
    refine wpAny_bind (RZ.nextOf_tuple_end hin hit p none_at fun h' x eb hx' => ?_)
    obtain ⟨o, ho, hc⟩ := hx'
    refine wpAny_bind (wpAny_isInstance (T := "StopIteration") (b := true) ⟨o, ho, hc⟩ isSubtype_stop ?_)
    exact wpAny_pure ⟨rfl, I.turned (t' := s.toks) (fun b o hb q => eb b o hb q) f0 f1 f3 f4 f5⟩
  self := fun A i s Q E st h => let ⟨⟨_, he⟩, _⟩ := st; wpAny_pyIter_enum he h
/-- enumerate of a list or a tuple -/
def iEnumA (K : PySem.W.Frag) (ta : TA) : TI := fun σ H R => ta σ H fun vs H1 => ∃ a xs, vs = [.ref a] ∧ ((SqL K H1 a xs ∧ R (Ite K a) H1) ∨ (SqT K H1 a xs ∧ R (IteT K a) H1))
theorem pi_enumA {X : Cx} {e : Expr} {ta : TA} {p pos tp : Pos} {es : List Expr} {kk : Nat} (hg : Gl X "enumerate") (hm : X.mg "enumerate" = none) (ha : PA X [e] ta) (hs : starEach [e] X.env = [(false, eval e X.env)] := by rfl) :
    PI X (.Tuple es kk tp) (.Call (.Name "enumerate" p) [e] [] pos) (iEnumA X.K ta) := by
  refine ⟨fun pins s σ H R I h => ?_⟩
  refine PyProof.Rows.Call_ (ld_blt I hg hm PyProof.Rows.boot_enumerate (PyProof.Rows.callWith_type1 (thn (ha.run pos pins s σ H _ I h) fun us s1 ⟨vs, H1, I1, r1, q1⟩ => ?_) hs rfl))
  obtain ⟨a, xs, ex, q⟩ := q1
  subst ex
  cases r1 with
  | cons r rr =>
    cases rr
    cases r
    have two : ∀ {b}, b ∈ [s1.heap.objs.size + 1, s1.heap.objs.size] → s1.heap.objs.size ≤ b := fun {b} hb => by
      rcases (show b = s1.heap.objs.size + 1 ∨ b = s1.heap.objs.size by simpa using hb) with z | z
      · rw [z]; exact Nat.le_succ _
      · rw [z]; exact Nat.le_refl _
    rcases q with ⟨hq, q⟩ | ⟨hq, q⟩
    · obtain ⟨its, rv, pl, hz⟩ := I1.list hq
      refine call_enumerate_list pl.isList fun h2 en hit hsz hk => wpAny_pyIter_enum en ?_
      have I2 : Inv X pins σ H1 { s1 with heap := h2 } := I1.kept (t' := s1.toks) hk
      exact ⟨s1.heap.objs.size + 1, [s1.heap.objs.size + 1, s1.heap.objs.size], _, _, H1, rfl, I2, turn_enum a (s1.heap.objs.size + 1) s1.heap.objs.size, ⟨⟨.none, en⟩, hit, Nat.succ_ne_self _⟩, fun b hb => I1.fpOk (two hb) (I1.hok.fresh (two hb)), q⟩
    · obtain ⟨its, rv, pl, hz⟩ := I1.tuple hq
      refine enumT_call pl fun h2 en hit hk => wpAny_pyIter_enum en ?_
      have I2 : Inv X pins σ H1 { s1 with heap := h2 } := I1.kept (t' := s1.toks) hk
      exact ⟨s1.heap.objs.size + 1, [s1.heap.objs.size + 1, s1.heap.objs.size], _, _, H1, rfl, I2, turn_enT a (s1.heap.objs.size + 1) s1.heap.objs.size, ⟨⟨.none, en⟩, hit, Nat.succ_ne_self _⟩, fun b hb => I1.fpOk (two hb) (I1.hok.fresh (two hb)), q⟩
/-- a for over a list or a tuple -/
def iSeq (K : PySem.W.Frag) (tl : TE) : TI := fun σ H R => tl σ H fun x H1 => ∃ a xs, x = .ref a ∧ ((SqL K H1 a xs ∧ R (Itl K a) H1) ∨ (SqT K H1 a xs ∧ R (Itt K a) H1))
theorem pi_seq {X : Cx} {tg l : Expr} {tl : TE} (hl : PE X l tl) : PI X tg l (iSeq X.K tl) := by
  refine ⟨fun pins s σ H R I h => ?_⟩
  refine thn (hl.run pins s σ H _ I h) fun v s1 ⟨x, H1, I1, r1, a, xs, ex, q⟩ => ?_
  subst ex
  cases r1
  have one : ∀ {b}, b ∈ [s1.heap.objs.size] → FpOk X pins H1 b := fun {b} hb => by
    have z : b = s1.heap.objs.size := by simpa using hb
    rw [z]
    exact I1.fpOk (Nat.le_refl _) I1.fresh
  rcases q with ⟨hq, q⟩ | ⟨hq, q⟩
  · obtain ⟨its, rv, pl, hz⟩ := I1.list hq
    exact wpAny_pyIter_list pl.isList ⟨s1.heap.objs.size, [s1.heap.objs.size], _, _, H1, rfl, I1.kept (t' := s1.toks) fun b o z => Heap.get?_push_of_some _ z, turn_list a _, ⟨_, Heap.get?_push_size _ rfl, rfl, rfl⟩, fun b hb => one hb, q⟩
  · obtain ⟨its, rv, pl, hz⟩ := I1.tuple hq
    exact wpAny_pyIter_tuple (show s1.heap.IsTuple a its.toArray from pl) ⟨s1.heap.objs.size, [s1.heap.objs.size], _, _, H1, rfl, I1.kept (t' := s1.toks) fun b o z => Heap.get?_push_of_some _ z, turn_tuple a _, ⟨_, Heap.get?_push_size _ rfl, rfl, rfl⟩, fun b hb => one hb, q⟩
section
variable {G : Gc} {W : WX} {o o1 : List Nat}
theorem PuI.seq {t : TE} {m : Env → R D} (h : PuE G W o t o1 m) : PuI G W o (iSeq G.K t) o1 (mSq D.seq m) := by
  intro B F0 F H σ ρ K rel q
  refine h rel ((Res.bnd q).imp fun d F1 H1 e1 r1 p v rv => ?_)
  cases rv with
  | @lst a vs ds h1 r2 => exact ⟨a, vs, rfl, .inl ⟨.inl (.inl (r1.core.fh _ _ h1)), p F1 H1 (Gr.refl F1 H1) r1 _ (yl_list (.inl (.inl h1)) r2)⟩⟩
  | @scr a vs ds h1 r2 => exact ⟨a, vs, rfl, .inl ⟨r1.sqL h1, p F1 H1 (Gr.refl F1 H1) r1 _ (yl_list h1 r2)⟩⟩
  | @tup a vs ds h1 r2 => exact ⟨a, vs, rfl, .inr ⟨.inl (.inl (r1.core.fh _ _ h1)), p F1 H1 (Gr.refl F1 H1) r1 _ (yl_tup (.inl (.inl h1)) r2)⟩⟩
  | @ktup a vs ds h1 r2 => exact ⟨a, vs, rfl, .inr ⟨r1.sqT h1, p F1 H1 (Gr.refl F1 H1) r1 _ (yl_tup h1 r2)⟩⟩
  | _ => exact p.elim
theorem walk_enT {K : PySem.W.Frag} {a : Addr} {xs : List V} : Walk (IteT K a) xs.length (fun H => SqT K H a xs) (YPair (fun i => some (.int (i : Nat))) (fun i => xs[i]?)) := by
  refine ⟨fun i _ hi q => ⟨xs, xs[i], q, by simp [hi]⟩, fun _ q => ⟨xs, q, Nat.le_refl _⟩, fun i H v H' _ q y => ?_⟩
  obtain ⟨T, x, h1, h2, h3, h4⟩ := y
  exact ⟨T, .int (i : Nat), x, h1, h2, h3, rfl, h4 xs q⟩
theorem PuI.enum {t : TE} {m : Env → R D} (h : PuE G W o t o1 m) : PuI G W o (iEnumA G.K (tCons t tNil)) o1 (mSq (dEnum D.seq) m) := by
  intro B F0 F H σ ρ K rel q
  refine h rel ((Res.bnd q).imp fun d F1 H1 e1 r1 p v rv => ?_)
  have goL : ∀ {a : Addr} {vs : List V} {ds : List D}, SqL G.K F1 a vs → RpL G F1 ds vs → Yields G F1 (Ite G.K a) (enumD ds) := fun {a vs ds} h1 r =>
    yl_pair (fs := fun i => some (.int (i : Nat))) (gs := fun i => ds[i]?) (walk_enum (xs := vs)) (by rw [enumD_len, r.length]) (fun F2 H2 le fh => sqL_up le fh h1) (fun i d hd => enumD_get hd) (fun i a e => by cases e; exact ⟨_, rfl, .int _⟩) fun i b e => r.get e
  have goT : ∀ {a : Addr} {vs : List V} {ds : List D}, SqT G.K F1 a vs → RpL G F1 ds vs → Yields G F1 (IteT G.K a) (enumD ds) := fun {a vs ds} h1 r =>
    yl_pair (fs := fun i => some (.int (i : Nat))) (gs := fun i => ds[i]?) (walk_enT (xs := vs)) (by rw [enumD_len, r.length]) (fun F2 H2 le fh => sqT_up le fh h1) (fun i d hd => enumD_get hd) (fun i a e => by cases e; exact ⟨_, rfl, .int _⟩) fun i b e => r.get e
  cases rv with
  | @lst a vs ds h1 r2 => exact ⟨a, vs, rfl, .inl ⟨.inl (.inl (r1.core.fh _ _ h1)), p F1 H1 (Gr.refl F1 H1) r1 _ (goL (.inl (.inl h1)) r2)⟩⟩
  | @scr a vs ds h1 r2 => exact ⟨a, vs, rfl, .inl ⟨r1.sqL h1, p F1 H1 (Gr.refl F1 H1) r1 _ (goL h1 r2)⟩⟩
  | @tup a vs ds h1 r2 => exact ⟨a, vs, rfl, .inr ⟨.inl (.inl (r1.core.fh _ _ h1)), p F1 H1 (Gr.refl F1 H1) r1 _ (goT (.inl (.inl h1)) r2)⟩⟩
  | @ktup a vs ds h1 r2 => exact ⟨a, vs, rfl, .inr ⟨r1.sqT h1, p F1 H1 (Gr.refl F1 H1) r1 _ (goT h1 r2)⟩⟩
  | _ => exact p.elim
end
end G
/-! S11: the derivations (what the printer prints). -/
namespace G
open PySem L2
class HG (Γ : Gc) (X : Cx) : Prop where
  e : Γ = ⟨X.K, X.mg⟩
instance {Γ : Gc} {X : Cx} [h : HG Γ X] {s : Shared} {H : Hp} {scope : Scope} {cenv : PySem.Env} {fp : List Addr} : HG Γ (X.blk s H scope cenv fp) := ⟨h.e⟩
structure ME (Γ : Gc) (X : Cx) (W : WX) (o : List Nat) (e : Expr) (o' : List Nat) (t : TE) (m : Env → R D) : Prop where
  pe : PE X e t
  pu : PuE Γ W o t o' m
structure MO (Γ : Gc) (X : Cx) (W : WX) (o : List Nat) (e : Expr) (o' : List Nat) (t : TE) (m : Env → R D) : Prop where
  pe : PE X e t
  pu : PuO Γ W o t o' m
structure MT (Γ : Gc) (X : Cx) (W : WX) (o : List Nat) (e : Expr) (o' : List Nat) (t : TT) (m : Env → R Bool) : Prop where
  pe : PT X e t
  pu : PuT Γ W o t o' m
structure MW (Γ : Gc) (X : Cx) (W : WX) (o : List Nat) (e : Expr) (o' : List Nat) (t : TT) (m : Env → R Bool) : Prop where
  pe : PW X e t
  pu : PuT Γ W o t o' m
structure MA (Γ : Gc) (X : Cx) (W : WX) (o : List Nat) (es : List Expr) (o' : List Nat) (t : TA) (m : Env → R (List D)) : Prop where
  pe : PA X es t
  pu : PuA Γ W o t o' m
structure MI (Γ : Gc) (X : Cx) (W : WX) (o : List Nat) (tg e : Expr) (o' : List Nat) (t : TI) (m : Env → R (List D)) : Prop where
  pe : PI X tg e t
  pu : PuI Γ W o t o' m
structure MG (Γ : Gc) (X : Cx) (o : List Nat) (tg : Expr) (o' : List Nat) (g : TG) (m : D → Env → R Env) : Prop where
  pe : PG X tg g
  pu : PuG Γ o g o' m
structure MGs (Γ : Gc) (X : Cx) (o : List Nat) (tg : List Expr) (o' : List Nat) (g : TGs) (m : List D → Env → R Env) : Prop where
  pe : PGs X tg g
  pu : PuGs Γ o g o' m
structure MS (Γ : Gc) (X : Cx) (W : WX) (oL o : List Nat) (st : Stmt) (o' : List Nat) (t : TS) (m : Env → Out) : Prop where
  pe : PS X st t
  pu : PuS Γ W oL o t o' m
structure MSs (Γ : Gc) (X : Cx) (W : WX) (oL o : List Nat) (st : List Stmt) (o' : List Nat) (t : TS) (m : Env → Out) : Prop where
  pe : PSs X st t
  pu : PuS Γ W oL o t o' m
structure MP (Γ : Gc) (X : Cx) (W : WX) (o : List Nat) (e : Option Expr) (o' : List Nat) (t : TO) (m : Env → R (Option Int)) : Prop where
  pe : PO X e t
  pu : PuP Γ W o t o' m
section
variable {Γ : Gc} {X : Cx} [hG : HG Γ X] {W : WX} {o o1 o2 o3 oL oI : List Nat} {a b c e : Expr} {es : List Expr} {pos p : Pos} {ta tb tc : TE} {ma mb mc : Env → R D} {tt tu : TT} {mt mu : Env → R Bool} {ts : TA} {ms : Env → R (List D)} {x : Str}
/-! ### names, constants -/
theorem me_var (i : Nat) (hi : i ∉ o := by decide) (hN : X.N[i]? = some x := by rfl) (hv : Vis X.env.scope x := by first | exact Or.inl rfl | exact Or.inr (Or.inl rfl) | exact Or.inr (Or.inr rfl)) (hd : (x == ("__debug__" : Str)) = false := by decide) (hcd : (x == ("__classdict__" : Str)) = false := by decide) :
    ME Γ X W o (.Name x pos) o (tVar i) (mVar i) := by
  obtain ⟨eG⟩ := hG
  subst eG
  exact ⟨pe_var hN hv hd hcd, PuE.var hi⟩
theorem me_give (i : Nat) (hi : i ∈ o := by decide) (hN : X.N[i]? = some x := by rfl) (hv : Vis X.env.scope x := by first | exact Or.inl rfl | exact Or.inr (Or.inl rfl) | exact Or.inr (Or.inr rfl)) (hd : (x == ("__debug__" : Str)) = false := by decide) (hcd : (x == ("__classdict__" : Str)) = false := by decide) :
    ME Γ X W o (.Name x pos) (o.filter (· != i)) (tVar i) (mVar i) := by
  obtain ⟨eG⟩ := hG
  subst eG
  exact ⟨pe_var hN hv hd hcd, PuE.give hi⟩
theorem me_int {i : Int} {j} : ME Γ X W o (.Constant (.int i) j pos) o (tC (.int i)) (mC (.int i)) := by
  obtain ⟨eG⟩ := hG
  subst eG
  exact ⟨pe_int, PuE.c fun _ => .int i⟩
theorem me_bl {b : Bool} {j} : ME Γ X W o (.Constant (.bool b) j pos) o (tC (.bl b)) (mC (.bl b)) := by
  obtain ⟨eG⟩ := hG
  subst eG
  exact ⟨pe_bl, PuE.c fun _ => .bl b⟩
theorem me_non {j} : ME Γ X W o (.Constant .none j pos) o (tC .non) (mC .non) := by
  obtain ⟨eG⟩ := hG
  subst eG
  exact ⟨pe_non, PuE.c fun _ => .non⟩
theorem me_str {s : Str} {j} : ME Γ X W o (.Constant (.str s) j pos) o (tC (.str s)) (mC (.str s)) := by
  obtain ⟨eG⟩ := hG
  subst eG
  exact ⟨pe_str, PuE.c fun _ => .str s⟩
/-- a module's constant -/
theorem me_glob {v : V} {u : Value} {d : D} (hm : X.mg x = some u) (r : RelV v u) (hd : ∀ F, Rp Γ F d v) (hg : Gl X x := by rfl) (hdb : (x == ("__debug__" : Str)) = false := by decide) : ME Γ X W o (.Name x pos) o (tC v) (mC d) := by
  obtain ⟨eG⟩ := hG
  subst eG
  exact ⟨pe_glob hg hm r hdb, PuE.c hd⟩
theorem me_gint {i : Int} {t : Tok} (hm : X.mg x = some (.int i t)) (hg : Gl X x := by rfl) (hdb : (x == ("__debug__" : Str)) = false := by decide) : ME Γ X W o (.Name x pos) o (tC (.int i)) (mC (.int i)) := me_glob hm ⟨t, rfl⟩ (fun _ => .int i) hg hdb
/-- a built-in type as a value -/
theorem me_ty {n : String} (hm : X.mg x = none) (hv : bootBuiltins x = some (.type n)) (hg : Gl X x := by rfl) (hn : x ≠ "__name__" := by decide) (hdb : (x == ("__debug__" : Str)) = false := by decide) : ME Γ X W o (.Name x pos) o (tC (.ty n)) (mC (.ty n)) := by
  obtain ⟨eG⟩ := hG
  subst eG
  exact ⟨pe_bltn hg hm hv rfl hn hdb, PuE.c fun _ => .ty n⟩
/-! ### operators -/
theorem me_add (ha : ME Γ X W o a o1 ta ma) (hb : ME Γ X W o1 b o2 tb mb) : ME Γ X W o (.BinOp a .Add b pos) o2 (tOp (rAddAll Γ.K) ta tb) (m2 D.add ma mb) := by
  obtain ⟨eG⟩ := hG
  subst eG
  exact ⟨pe_op op_addAll ha.pe hb.pe, PuE.op2 pu_add ha.pu hb.pu⟩
theorem me_sub (ha : ME Γ X W o a o1 ta ma) (hb : ME Γ X W o1 b o2 tb mb) : ME Γ X W o (.BinOp a .Sub b pos) o2 (tOp (rI0 fun i j => .int (i - j)) ta tb) (m2 D.sub ma mb) := by
  obtain ⟨eG⟩ := hG
  subst eG
  exact ⟨pe_op op_sub ha.pe hb.pe, PuE.op2 pu_sub ha.pu hb.pu⟩
theorem me_mul (ha : ME Γ X W o a o1 ta ma) (hb : ME Γ X W o1 b o2 tb mb) : ME Γ X W o (.BinOp a .Mult b pos) o2 (tOp (rMulAll Γ.K) ta tb) (m2 D.mul ma mb) := by
  obtain ⟨eG⟩ := hG
  subst eG
  exact ⟨pe_op op_mulAll ha.pe hb.pe, PuE.op2 pu_mul ha.pu hb.pu⟩
theorem me_fdiv (ha : ME Γ X W o a o1 ta ma) (hb : ME Γ X W o1 b o2 tb mb) : ME Γ X W o (.BinOp a .FloorDiv b pos) o2 (tOp (rI CDivN fun i j => .int (i.fdiv j)) ta tb) (m2 D.fdiv ma mb) := by
  obtain ⟨eG⟩ := hG
  subst eG
  exact ⟨pe_op op_fdivN ha.pe hb.pe, PuE.op2 pu_fdiv ha.pu hb.pu⟩
theorem me_mod (ha : ME Γ X W o a o1 ta ma) (hb : ME Γ X W o1 b o2 tb mb) : ME Γ X W o (.BinOp a .Mod b pos) o2 (tOp (rI (fun _ j => j ≠ 0) fun i j => .int (i.fmod j)) ta tb) (m2 D.mod ma mb) := by
  obtain ⟨eG⟩ := hG
  subst eG
  exact ⟨pe_op op_modN ha.pe hb.pe, PuE.op2 pu_mod ha.pu hb.pu⟩
theorem me_pow (ha : ME Γ X W o a o1 ta ma) (hb : ME Γ X W o1 b o2 tb mb) : ME Γ X W o (.BinOp a .Pow b pos) o2 (tOp (rI CPow fun i j => .int (i ^ j.toNat)) ta tb) (m2 D.pow ma mb) := by
  obtain ⟨eG⟩ := hG
  subst eG
  exact ⟨pe_op op_pow ha.pe hb.pe, PuE.op2 pu_pow ha.pu hb.pu⟩
theorem me_neg (ha : ME Γ X W o a o1 ta ma) : ME Γ X W o (.UnaryOp .USub a pos) o1 (tUn (rU fun i => .int (-i)) ta) (m1 D.neg ma) := by
  obtain ⟨eG⟩ := hG
  subst eG
  exact ⟨pe_un un_neg ha.pe, PuE.op1 pu_neg ha.pu⟩
/-- a comparison: its rule, its plain function, a side's mark -/
structure CmpR (Γ : Gc) (X : Cx) (W : WX) (op : CmpOp) (r : R2) (f : D → D → R D) : Prop where
  op : OpR X (compareOp op) r
  pu : PuR2 Γ W r f
theorem c_lt : CmpR Γ X W .Lt (rI0 fun i j => .bl (decide (i < j))) D.lt := by
  obtain ⟨eG⟩ := hG
  subst eG
  exact ⟨op_lt, pu_lt⟩
theorem c_le : CmpR Γ X W .LtE (rI0 fun i j => .bl (decide (i ≤ j))) D.le := by
  obtain ⟨eG⟩ := hG
  subst eG
  exact ⟨op_le, pu_le⟩
theorem c_gt : CmpR Γ X W .Gt (rI0 fun i j => .bl (decide (j < i))) D.gt := by
  obtain ⟨eG⟩ := hG
  subst eG
  exact ⟨op_gt, pu_gt⟩
theorem c_ge : CmpR Γ X W .GtE (rI0 fun i j => .bl (decide (j ≤ i))) D.ge := by
  obtain ⟨eG⟩ := hG
  subst eG
  exact ⟨op_ge, pu_ge⟩
theorem c_eq (hu : X.A.units + 65 < cLine) : CmpR Γ X W .Eq (rEqD Γ.K) D.eq := by
  obtain ⟨eG⟩ := hG
  subst eG
  exact ⟨op_eqD (by omega), pu_eq⟩
theorem c_ne (hu : X.A.units + 65 < cLine) : CmpR Γ X W .NotEq (rNeD Γ.K) D.ne := by
  obtain ⟨eG⟩ := hG
  subst eG
  exact ⟨op_neD (by omega), pu_ne⟩
theorem c_in (hu : X.A.units + 65 < cLine) : CmpR Γ X W .In (rInAll Γ.K) D.isIn := by
  obtain ⟨eG⟩ := hG
  subst eG
  exact ⟨op_inAll hu, pu_in⟩
theorem c_notIn (hu : X.A.units + 65 < cLine) : CmpR Γ X W .NotIn (rNotInAll Γ.K) D.notIn := by
  obtain ⟨eG⟩ := hG
  subst eG
  exact ⟨op_notInAll hu, pu_notIn⟩
theorem c_is : CmpR Γ X W .Is rIsAll D.is := by
  obtain ⟨eG⟩ := hG
  subst eG
  exact ⟨op_isAll, pu_is⟩
theorem c_isnt : CmpR Γ X W .IsNot rIsntAll D.isnt := by
  obtain ⟨eG⟩ := hG
  subst eG
  exact ⟨op_isntAll, pu_isnt⟩
variable {op op' : CmpOp} {r r' : R2} {f g : D → D → R D}
theorem me_cmp (hc : CmpR Γ X W op r f) (ha : ME Γ X W o a o1 ta ma) (hb : ME Γ X W o1 b o2 tb mb) (hm : behindInMarks op b = false := by first | exact nomark _ | rfl) : ME Γ X W o (.Compare a [op] [b] pos) o2 (tOp r ta tb) (m2 f ma mb) := by
  obtain ⟨eG⟩ := hG
  subst eG
  exact ⟨pe_cmpR hc.op ha.pe hb.pe hm, PuE.op2 hc.pu ha.pu hb.pu⟩
theorem me_chain (hc : CmpR Γ X W op r f) (hc' : CmpR Γ X W op' r' g) (ha : ME Γ X W o a o1 ta ma) (hb : ME Γ X W o1 b o2 tb mb) (hcc : ME Γ X W o2 c o2 tc mc) (hm : lastMarks [op, op'] [b, c] = false := by with_unfolding_all rfl) :
    ME Γ X W o (.Compare a [op, op'] [b, c] pos) o2 (tChain r r' ta tb tc) (mChain f g ma mb mc) := by
  obtain ⟨eG⟩ := hG
  subst eG
  exact ⟨pe_chain hc.op hc'.op ha.pe hb.pe hcc.pe hm, PuE.chain hc.pu hc'.pu ha.pu hb.pu hcc.pu⟩
theorem mt_cmp (hc : CmpR Γ X W op r f) (ha : ME Γ X W o a o1 ta ma) (hb : ME Γ X W o1 b o2 tb mb) (hm : behindInMarks op b = false := by first | exact nomark _ | rfl) : MT Γ X W o (.Compare a [op] [b] pos) o2 (tTest (tOp r ta tb)) (mB (m2 f ma mb)) := by
  obtain ⟨eG⟩ := hG
  subst eG
  exact ⟨pt_cmpR hc.op ha.pe hb.pe hm, PuT.val (PuE.op2 hc.pu ha.pu hb.pu)⟩
theorem mt_chain (hc : CmpR Γ X W op r f) (hc' : CmpR Γ X W op' r' g) (ha : ME Γ X W o a o1 ta ma) (hb : ME Γ X W o1 b o2 tb mb) (hcc : ME Γ X W o2 c o2 tc mc) (hm : lastMarks [op, op'] [b, c] = false := by with_unfolding_all rfl) :
    MT Γ X W o (.Compare a [op, op'] [b, c] pos) o2 (tTest (tChain r r' ta tb tc)) (mB (mChain f g ma mb mc)) := by
  obtain ⟨eG⟩ := hG
  subst eG
  exact ⟨pt_chain hc.op hc'.op ha.pe hb.pe hcc.pe hm, PuT.val (PuE.chain hc.pu hc'.pu ha.pu hb.pu hcc.pu)⟩
/-! ### and, or, not, if .. else -/
theorem mw_and1 (h : MT Γ X W o a o1 tt mt) : MW Γ X W o (.BoolOp .And [a] pos) o1 tt mt := by
  obtain ⟨eG⟩ := hG
  subst eG
  exact ⟨pw_and1 h.pe, h.pu⟩
theorem mw_or1 (h : MT Γ X W o a o1 tt mt) : MW Γ X W o (.BoolOp .Or [a] pos) o1 tt mt := by
  obtain ⟨eG⟩ := hG
  subst eG
  exact ⟨pw_or1 h.pe, h.pu⟩
theorem mw_and {rest : List Expr} (h : MT Γ X W o a o1 tt mt) (h2 : MW Γ X W o1 (.BoolOp .And (b :: rest) pos) o1 tu mu) : MW Γ X W o (.BoolOp .And (a :: b :: rest) pos) o1 (tAnd tt tu) (mAnd mt mu) := by
  obtain ⟨eG⟩ := hG
  subst eG
  exact ⟨pw_and h.pe h2.pe, PuT.and h.pu h2.pu⟩
theorem mw_or {rest : List Expr} (h : MT Γ X W o a o1 tt mt) (h2 : MW Γ X W o1 (.BoolOp .Or (b :: rest) pos) o1 tu mu) : MW Γ X W o (.BoolOp .Or (a :: b :: rest) pos) o1 (tOr tt tu) (mOr mt mu) := by
  obtain ⟨eG⟩ := hG
  subst eG
  exact ⟨pw_or h.pe h2.pe, PuT.or h.pu h2.pu⟩
theorem mt_w (h : MW Γ X W o a o1 tt mt) : MT Γ X W o a o1 tt mt := by
  obtain ⟨eG⟩ := hG
  subst eG
  exact ⟨h.pe.pt, h.pu⟩
theorem mt_not (h : MT Γ X W o a o1 tt mt) : MT Γ X W o (.UnaryOp .Not a pos) o1 (tNot tt) (mNot mt) := by
  obtain ⟨eG⟩ := hG
  subst eG
  exact ⟨pt_not h.pe, PuT.not h.pu⟩
/-- a call, a name .. as a test: True or False -/
theorem mt_val (h : ME Γ X W o a o1 ta ma) (he : ∀ whole, isTrue a X.env whole = (do let v ← whole; standAt a.pos; holding [v] (truthy v)) := by intro _; rfl) : MT Γ X W o a o1 (tB ta) (mB ma) := by
  obtain ⟨eG⟩ := hG
  subst eG
  exact ⟨pt_val h.pe he, PuT.val h.pu⟩
/-- .. any value, by its truth -/
theorem mt_truth (h : ME Γ X W o a o1 ta ma) (he : ∀ whole, isTrue a X.env whole = (do let v ← whole; standAt a.pos; holding [v] (truthy v)) := by intro _; rfl) : MT Γ X W o a o1 (fun σ H Q => ta σ H fun x H' => ∃ k, TruV Γ.K x H' k ∧ Q k H') (mTru ma) := by
  obtain ⟨eG⟩ := hG
  subst eG
  exact ⟨pt_truth h.pe he, PuT.truth h.pu⟩
theorem me_one {bo : BoolOp} (h : ME Γ X W o a o1 ta ma) : ME Γ X W o (.BoolOp bo [a] pos) o1 ta ma := by
  obtain ⟨eG⟩ := hG
  subst eG
  exact ⟨pe_one h.pe, h.pu⟩
theorem me_and {rest : List Expr} (h : ME Γ X W o a o1 ta ma) (h2 : ME Γ X W o1 (.BoolOp .And (b :: rest) pos) o1 tb mb) : ME Γ X W o (.BoolOp .And (a :: b :: rest) pos) o1 (tAndV ta tb) (mAndV ma mb) := by
  obtain ⟨eG⟩ := hG
  subst eG
  exact ⟨pe_and h.pe h2.pe, PuE.andV h.pu h2.pu⟩
theorem me_or {rest : List Expr} (h : ME Γ X W o a o1 ta ma) (h2 : ME Γ X W o1 (.BoolOp .Or (b :: rest) pos) o1 tb mb) : ME Γ X W o (.BoolOp .Or (a :: b :: rest) pos) o1 (tOrV ta tb) (mOrV ma mb) := by
  obtain ⟨eG⟩ := hG
  subst eG
  exact ⟨pe_or h.pe h2.pe, PuE.orV h.pu h2.pu⟩
theorem me_not (h : ME Γ X W o a o1 ta ma) : ME Γ X W o (.UnaryOp .Not a pos) o1 (tNotV ta) (mNotV ma) := by
  obtain ⟨eG⟩ := hG
  subst eG
  exact ⟨pe_not h.pe, PuE.notV h.pu⟩
theorem me_if (h : MT Γ X W o c o1 tt mt) (ha : ME Γ X W o1 a o2 ta ma) (hb : ME Γ X W o1 b o2 tb mb) : ME Γ X W o (.IfExp c a b pos) o2 (tIf tt ta tb) (mIte mt ma mb) := by
  obtain ⟨eG⟩ := hG
  subst eG
  exact ⟨pe_ifExp h.pe ha.pe hb.pe, PuE.ite h.pu ha.pu hb.pu⟩
/-! ### subscripts, displays -/
theorem me_ix (ha : ME Γ X W o a o1 ta ma) (hb : ME Γ X W o1 b o2 tb mb) (hs : PlainIx b := by exact fun _ _ => rfl) : ME Γ X W o (.Subscript a b pos) o2 (tOp (rIxLT Γ.K) ta tb) (m2 D.ix ma mb) := by
  obtain ⟨eG⟩ := hG
  subst eG
  exact ⟨pe_ix ix_LT ha.pe hb.pe hs, PuE.op2 pu_ix ha.pu hb.pu⟩
theorem me_dget (hu : X.A.units + 65 < cLine) (ha : ME Γ X W o a o1 ta ma) (hb : ME Γ X W o1 b o2 tb mb) (hs : NoSl b := by exact fun _ _ => rfl) : ME Γ X W o (.Subscript a b pos) o2 (tDGet ta tb) (m2 D.dgetE ma mb) := by
  obtain ⟨eG⟩ := hG
  subst eG
  exact ⟨pe_dget (by omega) ha.pe hb.pe hs, PuE.dget ha.pu hb.pu⟩
theorem mp_no : MP Γ X W o none o tNoPart mNoP := by
  obtain ⟨eG⟩ := hG
  subst eG
  exact ⟨po_none, PuP.no⟩
theorem mp_some (h : ME Γ X W o a o1 ta ma) : MP Γ X W o (some a) o1 (tPart ta) (mPart ma) := by
  obtain ⟨eG⟩ := hG
  subst eG
  exact ⟨po_some h.pe, PuP.part h.pu⟩
theorem me_slice {lo hi : Option Expr} {p2 : Pos} {tl th : TO} {ml mh : Env → R (Option Int)} (ha : ME Γ X W o a o1 ta ma) (hl : MP Γ X W o1 lo o2 tl ml) (hh : MP Γ X W o2 hi o3 th mh) : ME Γ X W o (.Subscript a (.Slice lo hi none p2) pos) o3 (tSl (rSlAll Γ.K) ta tl th) (mSl ma ml mh) := by
  obtain ⟨eG⟩ := hG
  subst eG
  exact ⟨pe_slice sl_all ha.pe hl.pe hh.pe, PuE.slice ha.pu hl.pu hh.pu⟩
theorem ma_nil : MA Γ X W o [] o tNil mNil := by
  obtain ⟨eG⟩ := hG
  subst eG
  exact ⟨pa_nil, PuA.nil⟩
theorem ma_cons (ha : ME Γ X W o a o1 ta ma) (hs : MA Γ X W o1 es o2 ts ms) (hst : starEach (a :: es) X.env = (false, eval a X.env) :: starEach es X.env := by rfl) : MA Γ X W o (a :: es) o2 (tCons ta ts) (mCons ma ms) := by
  obtain ⟨eG⟩ := hG
  subst eG
  exact ⟨pa_cons ha.pe hs.pe hst, PuA.cons ha.pu hs.pu⟩
theorem me_tup {k : Nat} (h : MA Γ X W o es o1 ts ms) : ME Γ X W o (.Tuple es k pos) o1 (tTup ts) (mTup ms) := by
  obtain ⟨eG⟩ := hG
  subst eG
  exact ⟨pe_tup h.pe, PuE.tupE h.pu⟩
theorem mo_lst (h : MA Γ X W o es o1 ts ms) : MO Γ X W o (.List es pos) o1 (tLst ts) (mLst ms) := by
  obtain ⟨eG⟩ := hG
  subst eG
  exact ⟨pe_lst h.pe, PuO.lstE h.pu⟩
theorem mo_dicK : MO Γ X W o (.Dict [] [] pos) o tDNewK (mDic false) := by
  obtain ⟨eG⟩ := hG
  subst eG
  exact ⟨pe_dnewK, PuO.dnewK⟩
theorem mo_dicT : MO Γ X W o (.Dict [] [] pos) o tDNewT (mDic true) := by
  obtain ⟨eG⟩ := hG
  subst eG
  exact ⟨pe_dnewT, PuO.dnewT⟩
theorem me_o (h : MO Γ X W o a o1 ta ma) : ME Γ X W o a o1 ta ma := by
  obtain ⟨eG⟩ := hG
  subst eG
  exact ⟨h.pe, PuO.e h.pu⟩
/-! ### own slots read on the way -/
theorem me_bor (i : Nat) (h : ME Γ X W (o.filter (· != i)) a (o.filter (· != i)) ta ma) (hi : i ∈ o := by decide) : ME Γ X W o a o ta (mScal ma) := by
  obtain ⟨eG⟩ := hG
  subst eG
  exact ⟨h.pe, PuE.borrow i hi h.pu⟩
theorem mt_bor (i : Nat) (h : MT Γ X W (o.filter (· != i)) a (o.filter (· != i)) tt mt) (hi : i ∈ o := by decide) : MT Γ X W o a o tt mt := by
  obtain ⟨eG⟩ := hG
  subst eG
  exact ⟨h.pe, PuT.borrow i hi h.pu⟩
theorem mo_bor (i : Nat) (h : MO Γ X W (o.filter (· != i)) a (o.filter (· != i)) ta ma) (hi : i ∈ o := by decide) : MO Γ X W o a o ta (mScalL ma) := by
  obtain ⟨eG⟩ := hG
  subst eG
  exact ⟨h.pe, PuO.borrow i hi h.pu⟩
theorem me_weak (l : List Nat) (h : ME Γ X W (o.filter fun j => !l.contains j) a o1 ta ma) : ME Γ X W o a o1 ta ma := by
  obtain ⟨eG⟩ := hG
  subst eG
  exact ⟨h.pe, PuE.weak0 l h.pu⟩
theorem mt_weak (l : List Nat) (h : MT Γ X W (o.filter fun j => !l.contains j) a o1 tt mt) : MT Γ X W o a o1 tt mt := by
  obtain ⟨eG⟩ := hG
  subst eG
  exact ⟨h.pe, PuT.weak0 l h.pu⟩
theorem mo_weak (l : List Nat) (h : MO Γ X W (o.filter fun j => !l.contains j) a o1 ta ma) : MO Γ X W o a o1 ta ma := by
  obtain ⟨eG⟩ := hG
  subst eG
  exact ⟨h.pe, PuO.weak0 l h.pu⟩
/-! ### calls of built-ins -/
variable {id T : String} {rc : List V → Hp → VK → Prop} {fc : List D → R D}
theorem me_cb (hp : PuC Γ W rc fc) (hc : CallR X (.builtin id) rc) (hm : X.mg x = none) (hv : bootBuiltins x = some (.builtin id)) (ha : MA Γ X W o (e :: es) o1 ts ms) (hg : Gl X x := by rfl) (hn : x ≠ "__name__" := by decide) (hdb : (x == ("__debug__" : Str)) = false := by decide)
    (he : starEach (e :: es) X.env = (false, eval e X.env) :: starEach es X.env := by rfl) (hpl : (backTo pos (starEach es X.env)).any (·.1) = false := by rfl) : ME Γ X W o (.Call (.Name x p) (e :: es) [] pos) o1 (tCB rc ts) (mCall fc ms) := by
  obtain ⟨eG⟩ := hG
  subst eG
  exact ⟨pe_callB hc hg hm hv ha.pe hn hdb he hpl, PuE.cb hp ha.pu⟩
theorem me_ct (hp : PuC Γ W rc fc) (hc : CallR X (.type T) rc) (hm : X.mg x = none) (hv : bootBuiltins x = some (.type T)) (ha : MA Γ X W o (e :: es) o1 ts ms) (hg : Gl X x := by rfl) (hn : x ≠ "__name__" := by decide) (hdb : (x == ("__debug__" : Str)) = false := by decide)
    (he : starEach (e :: es) X.env = (false, eval e X.env) :: starEach es X.env := by rfl) (hpl : (backTo pos (starEach es X.env)).any (·.1) = false := by rfl) : ME Γ X W o (.Call (.Name x p) (e :: es) [] pos) o1 (tCB rc ts) (mCall fc ms) := by
  obtain ⟨eG⟩ := hG
  subst eG
  exact ⟨pe_callTy hc hg hm hv ha.pe hn hdb he hpl, PuE.cb hp ha.pu⟩
theorem mo_ct (hp : PuCO Γ W rc fc) (hc : CallR X (.type T) rc) (hm : X.mg x = none) (hv : bootBuiltins x = some (.type T)) (ha : MA Γ X W o (e :: es) o1 ts ms) (hg : Gl X x := by rfl) (hn : x ≠ "__name__" := by decide) (hdb : (x == ("__debug__" : Str)) = false := by decide)
    (he : starEach (e :: es) X.env = (false, eval e X.env) :: starEach es X.env := by rfl) (hpl : (backTo pos (starEach es X.env)).any (·.1) = false := by rfl) : MO Γ X W o (.Call (.Name x p) (e :: es) [] pos) o1 (tCB rc ts) (mCall fc ms) := by
  obtain ⟨eG⟩ := hG
  subst eG
  exact ⟨pe_callTy hc hg hm hv ha.pe hn hdb he hpl, PuO.cb hp ha.pu⟩
theorem mo_cb (hp : PuCO Γ W rc fc) (hc : CallR X (.builtin id) rc) (hm : X.mg x = none) (hv : bootBuiltins x = some (.builtin id)) (ha : MA Γ X W o (e :: es) o1 ts ms) (hg : Gl X x := by rfl) (hn : x ≠ "__name__" := by decide) (hdb : (x == ("__debug__" : Str)) = false := by decide)
    (he : starEach (e :: es) X.env = (false, eval e X.env) :: starEach es X.env := by rfl) (hpl : (backTo pos (starEach es X.env)).any (·.1) = false := by rfl) : MO Γ X W o (.Call (.Name x p) (e :: es) [] pos) o1 (tCB rc ts) (mCall fc ms) := by
  obtain ⟨eG⟩ := hG
  subst eG
  exact ⟨pe_callB hc hg hm hv ha.pe hn hdb he hpl, PuO.cb hp ha.pu⟩
theorem b_len : bootBuiltins "len" = some (.builtin "len") := boot_len
theorem b_int : bootBuiltins "int" = some (.type "int") := by decide +kernel
theorem b_abs : bootBuiltins "abs" = some (.builtin "abs") := by decide +kernel
theorem b_max : bootBuiltins "max" = some (.builtin "max") := by decide +kernel
theorem b_min : bootBuiltins "min" = some (.builtin "min") := by decide +kernel
theorem b_sum : bootBuiltins "sum" = some (.builtin "sum") := by decide +kernel
theorem b_all : bootBuiltins "all" = some (.builtin "all") := by decide +kernel
theorem b_any : bootBuiltins "any" = some (.builtin "any") := by decide +kernel
theorem b_tuple : bootBuiltins "tuple" = some (.type "tuple") := by decide +kernel
theorem b_list : bootBuiltins "list" = some (.type "list") := by decide +kernel
theorem b_isi : bootBuiltins "isinstance" = some (.builtin "isinstance") := by decide +kernel
theorem b_sorted : bootBuiltins "sorted" = some (.builtin "sorted") := by decide +kernel
theorem b_bool : bootBuiltins "bool" = some (.type "bool") := by decide +kernel
theorem b_str : bootBuiltins "str" = some (.type "str") := by decide +kernel
theorem b_dict : bootBuiltins "dict" = some (.type "dict") := by decide +kernel
/-! ### calls of defs -/
variable {k n : Nat} {f : Addr} {fd : FuncData} {ps : List Str} {fn : List D → R D}
theorem me_call (tk : L2N.Takes X W) (F : Fd X.prog X.w X.K X.mg X.base k x ps f fd fn) (hr : Room k X.A) (ha : MA Γ X W o (e :: es) o1 ts ms) (hg : Gl X x := by rfl) (hdb : (x == ("__debug__" : Str)) = false := by decide)
    (he : starEach (e :: es) X.env = (false, eval e X.env) :: starEach es X.env := by rfl) (hpl : (backTo pos (starEach es X.env)).any (·.1) = false := by rfl) (hn : ps.length = n := by rfl) :
    ME Γ X W o (.Call (.Name x p) (e :: es) [] pos) o1 (tCallS (spM Γ n fn) (WE W) ts) (mCallN n fn ms) := by
  obtain ⟨eG⟩ := hG
  subst eG
  subst hn
  exact ⟨pe_callS F.ok hr hg F.g F.kp F.b (fun σ => L2N.passAt tk σ) ha.pe hdb he hpl, PuE.call ha.pu⟩
def mCall0 (n : Nat) (fn : List D → R D) (ms : Env → R (List D)) : Env → R D := fun ρ => (ms ρ).bind fun ds => if ds.length = n then (fn ds).val else .bad
/-- .. within a comprehension -/
theorem me_callC (F : Fd X.prog X.w X.K X.mg X.base k x ps f fd fn) (hr : Room k X.A) (ha : MA Γ X W o (e :: es) o1 ts ms) (hg : Gl X x := by rfl) (hdb : (x == ("__debug__" : Str)) = false := by decide)
    (he : starEach (e :: es) X.env = (false, eval e X.env) :: starEach es X.env := by rfl) (hpl : (backTo pos (starEach es X.env)).any (·.1) = false := by rfl) (hn : ps.length = n := by rfl) :
    ME Γ X W o (.Call (.Name x p) (e :: es) [] pos) o1 (tCall (fun vs H Q _ => spM Γ n fn vs H Q fun _ _ _ => False) [] E0 ts) (mCall0 n fn ms) := by
  obtain ⟨eG⟩ := hG
  subst eG
  subst hn
  exact ⟨pe_call (FnOk.quiet F.ok) hr hg F.g F.kp F.b .nil pass0 ha.pe hdb he hpl, PuE.call0 ha.pu⟩
/-! ### targets -/
theorem filt_no {o : List Nat} {i : Nat} (hi : i ∉ o) : o.filter (· != i) = o := by
  rw [List.filter_eq_self]; intro j hj; have : j ≠ i := fun q => hi (q ▸ hj); simpa using this
theorem puG_name {G : Gc} {o : List Nat} {i : Nat} (hi : i ∉ o) : PuG G o (gName i) o (gnName i) := by
  intro B F0 F H σ ρ K v d rel rv h
  obtain ⟨ρ', e, k⟩ := h
  cases e
  have z := rel.set (i := i) rv
  rw [filt_no hi] at z
  exact k _ z
theorem puS_set {G : Gc} {W : WX} {oL o o1 : List Nat} {ta : TE} {ma : Env → R D} {i : Nat} (hi : i ∉ o1) (ha : PuE G W o ta o1 ma) : PuS G W oL o (tAsg ta (gName i)) o1 (mSet i ma) := by
  intro B F0 F H σ ρ X rel h
  exact ha rel ((Post.res h).imp fun d F1 H1 e1 r1 q v rv => q F1 H1 _ (Le.refl F1) (by have z := r1.set (i := i) rv; rw [filt_no hi] at z; exact z))
theorem puS_aug {G : Gc} {W : WX} {oL o o1 : List Nat} {t : TE} {m : Env → R D} {i : Nat} {f : Int → Int → Int} (hi : i ∉ o) (hi1 : i ∉ o1) (h : PuE G W o t o1 m) : PuS G W oL o (tAug i t (ipI f)) o1 (mAug i f m) := by
  have z : PuS G W oL o (tAug i t (ipI f)) (o1.filter (· != i)) (mAug i f m) := by
    intro B F0 F H σ ρ X rel q
    exact PuS.aug hi h rel q
  rw [filt_no hi1] at z
  exact @z
theorem mg_name (i : Nat) (nd : X.N.Nodup) (hi : i ∉ o := by decide) (hN : X.N[i]? = some x := by rfl) (hl : Loc X.env.scope x := by first | exact Or.inl rfl | exact Or.inr rfl) (hf : X.fn x = true ∨ X.env.scope.names.lookup x = some .local := by first | exact .inl rfl | exact .inr rfl) : MG Γ X o (.Name x pos) o (gName i) (gnName i) := by
  obtain ⟨eG⟩ := hG
  subst eG
  exact ⟨pg_name nd hN hl hf, puG_name hi⟩
theorem mgs_nil : MGs Γ X o [] o gNil gnNil := by
  obtain ⟨eG⟩ := hG
  subst eG
  exact ⟨pgs_nil, PuGs.nil⟩
theorem mgs_cons {tg : Expr} {tgs : List Expr} {g : TG} {gs : TGs} {mg : D → Env → R Env} {mgs : List D → Env → R Env} (h1 : MG Γ X o tg o1 g mg) (h2 : MGs Γ X o1 tgs o2 gs mgs) (hs : (assignEach (tg :: tgs) X.env).map (·.2) = assign tg X.env :: (assignEach tgs X.env).map (·.2) := by rfl) : MGs Γ X o (tg :: tgs) o2 (gCons g gs) (gnCons mg mgs) := by
  obtain ⟨eG⟩ := hG
  subst eG
  exact ⟨pgs_cons h1.pe h2.pe hs, PuGs.cons h1.pu h2.pu⟩
theorem mg_tup {tgs : List Expr} {kk n : Nat} {gs : TGs} {mgs : List D → Env → R Env} (hc : X.calm = true) (h : MGs Γ X o tgs o1 gs mgs) (hn : (assignEach tgs X.env).length = n := by rfl) (hst : (assignEach tgs X.env).findIdx? (·.1) = none := by rfl) : MG Γ X o (.Tuple tgs kk pos) o1 (gTup Γ.K n gs) (gnTup n mgs) := by
  obtain ⟨eG⟩ := hG
  subst eG
  exact ⟨pg_tup hc h.pe hn hst, PuG.tup rfl h.pu⟩
end
end G
/-! S12: the derivations of statements. -/
namespace G
open PySem L2
/-- nothing is let out of a comprehension -/
abbrev WN : WX := fun _ _ _ _ => False
section
variable {Γ : Gc} {X : Cx} [hG : HG Γ X] {W : WX} {o o1 o2 o3 oL oI : List Nat} {a b c e elt tg iter : Expr} {es ifs : List Expr} {pos p cpos apos spos py : Pos} {ta tb tc te : TE} {ma mb mc me : Env → R D} {tt tu : TT} {mt mu : Env → R Bool} {ts : TA} {ms : Env → R (List D)} {x : Str} {st : Stmt} {sts A1 A2 : List Stmt} {t u : TS} {m n : Env → Out} {wi : TI} {g : TG} {mi : Env → R (List D)} {mg : D → Env → R Env}
/-! ### what is walked -/
theorem mi_seq (ha : ME Γ X W o a o1 ta ma) : MI Γ X W o tg a o1 (iSeq Γ.K ta) (mSq D.seq ma) := by
  obtain ⟨eG⟩ := hG
  subst eG
  exact ⟨pi_seq ha.pe, PuI.seq ha.pu⟩
theorem mi_range1 (hm : X.mg "range" = none) (ha : ME Γ X W o a o1 ta ma) (hg : Gl X "range" := by rfl) (hs : starEach [a] X.env = [(false, eval a X.env)] := by rfl) : MI Γ X W o tg (.Call (.Name "range" p) [a] [] pos) o1 (iRng1 (tCons ta tNil)) (mSq dRange1 ma) := by
  obtain ⟨eG⟩ := hG
  subst eG
  exact ⟨pi_range1 hg hm (pa_cons ha.pe pa_nil hs) hs, PuI.range1 ha.pu⟩
theorem mi_range2 (hm : X.mg "range" = none) (ha : ME Γ X W o a o1 ta ma) (hb : ME Γ X W o1 b o2 tb mb) (hg : Gl X "range" := by rfl) (hs : starEach [a, b] X.env = [(false, eval a X.env), (false, eval b X.env)] := by rfl) (hs2 : starEach [b] X.env = [(false, eval b X.env)] := by rfl) : MI Γ X W o tg (.Call (.Name "range" p) [a, b] [] pos) o2 (iRng2 (tCons ta (tCons tb tNil))) (mRange2 ma mb) := by
  obtain ⟨eG⟩ := hG
  subst eG
  exact ⟨pi_range2 hg hm (pa_cons ha.pe (pa_cons hb.pe pa_nil hs2) (hs.trans (congrArg _ hs2.symm))) hs hs2, PuI.range2 ha.pu hb.pu⟩
theorem mi_enum {els : List Expr} {kk : Nat} (hm : X.mg "enumerate" = none) (ha : ME Γ X W o a o1 ta ma) (hg : Gl X "enumerate" := by rfl) (hs : starEach [a] X.env = [(false, eval a X.env)] := by rfl) : MI Γ X W o (.Tuple els kk py) (.Call (.Name "enumerate" p) [a] [] pos) o1 (iEnumA Γ.K (tCons ta tNil)) (mSq (dEnum D.seq) ma) := by
  obtain ⟨eG⟩ := hG
  subst eG
  exact ⟨pi_enumA hg hm (pa_cons ha.pe pa_nil hs) hs, PuI.enum ha.pu⟩
theorem mi_zip {els : List Expr} {kk : Nat} (hm : X.mg "zip" = none) (ha : ME Γ X W o a o1 ta ma) (hb : ME Γ X W o1 b o2 tb mb) (hg : Gl X "zip" := by rfl) (hs : starEach [a, b] X.env = (false, eval a X.env) :: starEach [b] X.env := by rfl) (hs2 : starEach [b] X.env = [(false, eval b X.env)] := by rfl) (hpl : (backTo pos (starEach [b] X.env)).any (·.1) = false := by rfl) : MI Γ X W o (.Tuple els kk py) (.Call (.Name "zip" p) [a, b] [] pos) o2 (RZ.iZipA Γ.K (tCons ta (tCons tb tNil))) (mZip ma mb) := by
  obtain ⟨eG⟩ := hG
  subst eG
  exact ⟨RZ.pi_zipA hg hm (pa_cons ha.pe (pa_cons hb.pe pa_nil hs2) hs) hs hpl, PuI.zip ha.pu hb.pu⟩
/-! ### comprehensions with one clause -/
structure MTs (Γ : Gc) (X : Cx) (W : WX) (o : List Nat) (ifs : List Expr) (t : TT) (m : Env → R Bool) : Prop where
  pe : PTs X ifs t
  pu : PuT Γ W o t o m
theorem mts_nil : MTs Γ X W o [] tYes mYes := by
  obtain ⟨eG⟩ := hG
  subst eG
  exact ⟨pts_nil, PuT.yes⟩
theorem mts_one (h : MT Γ X W o c o tt mt) : MTs Γ X W o [c] tt mt := by
  obtain ⟨eG⟩ := hG
  subst eG
  exact ⟨pts_one h.pe, h.pu⟩
abbrev B0 (X : Cx) (scope : Scope) (s : Shared) (H : Hp) (C : Addr) (cl : List (Str × Addr)) (fp : List Addr) : Cx := X.blk s H scope (compEnvC scope cl C X.env) fp
theorem mo_lc {scope : Scope} (s0 : Shared) (H0 : Hp) (own : List (Str × Nat)) (hc : X.calm = true) (hN : X.N.Nodup) (hi : MI Γ X W o tg iter o wi mi) (ok : blkC X.N X.env.scope scope own = true)
    (hg : ∀ (s : Shared) (H : Hp) (C : Addr) (cl : List (Str × Addr)) (fp : List Addr), MG Γ (B0 X scope s H C cl fp) o tg o g mg)
    (ht : ∀ (s : Shared) (H : Hp) (C : Addr) (cl : List (Str × Addr)) (fp : List Addr), MTs Γ (B0 X scope s H C cl fp) WN o ifs tt mt)
    (he : ∀ (s : Shared) (H : Hp) (C : Addr) (cl : List (Str × Addr)) (fp : List Addr), ME Γ (B0 X scope s H C cl fp) WN o elt o te me)
    (hw : GW g mg (own.map (·.2))) (hv : ∀ i, i ∈ own.map (·.2) → i ∉ o := by decide) (hs : ∀ x, foldedSetIterable iter X.env x = pure x := by intro _; rfl) :
    MO Γ X W o (.ListComp elt [⟨tg, iter, ifs, 0⟩] scope pos) o (tLc wi g tt te (own.map (·.2))) (mLc (own.map (·.2)) mi mg mt me) := by
  obtain ⟨eG⟩ := hG
  subst eG
  exact ⟨pe_lc hc hN hi.pe (blkOk_by ok) (fun s H C cl fp => (hg s H C cl fp).pe) (fun s H C cl fp => (ht s H C cl fp).pe) (fun s H C cl fp => (he s H C cl fp).pe) hs,
    PuO.lc hi.pu hv hw (hg s0 H0 0 [] []).pu (ht s0 H0 0 [] []).pu (he s0 H0 0 [] []).pu⟩
/-! ### statements -/
theorem mss_nil : MSs Γ X W oL o [] o tNext mNext := by
  obtain ⟨eG⟩ := hG
  subst eG
  exact ⟨pss_nil, PuS.next⟩
theorem mss_cons (h1 : MS Γ X W oL o st o1 t m) (h2 : MSs Γ X W oL o1 sts o2 u n) : MSs Γ X W oL o (st :: sts) o2 (tSeq t u) (mSeq m n) := by
  obtain ⟨eG⟩ := hG
  subst eG
  exact ⟨pss_cons h1.pe h2.pe, PuS.seq h1.pu h2.pu⟩
theorem mss_one (h1 : MS Γ X W oL o st o1 t m) : MSs Γ X W oL o [st] o1 t m := by
  obtain ⟨eG⟩ := hG
  subst eG
  exact ⟨pss_one h1.pe, h1.pu⟩
theorem mss_weak (l : List Nat) (h1 : MSs Γ X W oL o sts o1 t m) : MSs Γ X W oL o sts (o1.filter fun j => !l.contains j) t m := by
  obtain ⟨eG⟩ := hG
  subst eG
  exact ⟨h1.pe, PuS.weak l h1.pu⟩
theorem mss_weak0 (l : List Nat) (h1 : MSs Γ X W oL (o.filter fun j => !l.contains j) sts o1 t m) : MSs Γ X W oL o sts o1 t m := by
  obtain ⟨eG⟩ := hG
  subst eG
  exact ⟨h1.pe, PuS.weak0 l h1.pu⟩
theorem ms_weak (l : List Nat) (h1 : MS Γ X W oL o st o1 t m) : MS Γ X W oL o st (o1.filter fun j => !l.contains j) t m := by
  obtain ⟨eG⟩ := hG
  subst eG
  exact ⟨h1.pe, PuS.weak l h1.pu⟩
theorem ms_weak0 (l : List Nat) (h1 : MS Γ X W oL (o.filter fun j => !l.contains j) st o1 t m) : MS Γ X W oL o st o1 t m := by
  obtain ⟨eG⟩ := hG
  subst eG
  exact ⟨h1.pe, PuS.weak0 l h1.pu⟩
theorem ms_pass : MS Γ X W oL o (.Pass pos) o tNext mNext := by
  obtain ⟨eG⟩ := hG
  subst eG
  exact ⟨ps_pass, PuS.next⟩
theorem ms_doc {s : Str} {j} : MS Γ X W oL o (.Expr (.Constant (.str s) j p) pos) o tNext mNext := by
  obtain ⟨eG⟩ := hG
  subst eG
  exact ⟨ps_doc, PuS.next⟩
theorem ms_brk (hs : oL = o := by rfl) : MS Γ X W oL o (.Break pos) o2 tBreak mBrk := by
  obtain ⟨eG⟩ := hG
  subst eG
  exact ⟨ps_break, PuS.brk hs⟩
theorem ms_cnt (hs : oL = o := by rfl) : MS Γ X W oL o (.Continue pos) o2 tCont mCnt := by
  obtain ⟨eG⟩ := hG
  subst eG
  exact ⟨ps_continue, PuS.cnt hs⟩
theorem ms_ret (ha : ME Γ X W o a o1 ta ma) : MS Γ X W oL o (.Return (some a) pos) o2 (tRet ta) (mRet ma) := by
  obtain ⟨eG⟩ := hG
  subst eG
  exact ⟨ps_ret ha.pe, PuS.ret ha.pu⟩
theorem ms_retN : MS Γ X W oL o (.Return none pos) o2 tRetN mRetN := by
  obtain ⟨eG⟩ := hG
  subst eG
  exact ⟨ps_retN, PuS.retN⟩
theorem ms_expr (ha : ME Γ X W o a o1 ta ma) (hs : swapsWith a none pos.line X.env = pure false := by rfl) : MS Γ X W oL o (.Expr a pos) o1 (tDrop ta) (mDrop ma) := by
  obtain ⟨eG⟩ := hG
  subst eG
  exact ⟨ps_expr ha.pe hs, PuS.drop ha.pu⟩
theorem ms_bad : MS Γ X W oL o st o2 tNever mBad := by
  obtain ⟨eG⟩ := hG
  subst eG
  exact ⟨ps_never, PuS.bad⟩
theorem ms_if (hc : MT Γ X W o c o1 tt mt) (h1 : MSs Γ X W oL o1 A1 o2 t m) (h2 : MSs Γ X W oL o1 A2 o2 u n) : MS Γ X W oL o (.If c A1 A2 pos) o2 (tIfS tt t u) (mIf mt m n) := by
  obtain ⟨eG⟩ := hG
  subst eG
  exact ⟨ps_if hc.pe h1.pe h2.pe, PuS.ifS hc.pu h1.pu h2.pu⟩
theorem ms_set (i : Nat) (nd : X.N.Nodup) (ha : ME Γ X W o a o1 ta ma) (hi : i ∉ o1 := by decide) (hN : X.N[i]? = some x := by rfl) (hl : Loc X.env.scope x := by first | exact Or.inl rfl | exact Or.inr rfl) (hs : swapsWith a (some (.Name x p)) pos.line X.env = pure false := by rfl) (hf : X.fn x = true ∨ X.env.scope.names.lookup x = some .local := by first | exact .inl rfl | exact .inr rfl) :
    MS Γ X W oL o (.Assign [.Name x p] a pos) o1 (tAsg ta (gName i)) (mSet i ma) := by
  obtain ⟨eG⟩ := hG
  subst eG
  exact ⟨ps_set nd hN hl ha.pe hs hf, puS_set hi ha.pu⟩
theorem ms_setW (i : Nat) (nd : X.N.Nodup) (ha : ME Γ X W o a o1 ta ma) (hN : X.N[i]? = some x := by rfl) (hl : Loc X.env.scope x := by first | exact Or.inl rfl | exact Or.inr rfl) (hs : swapsWith a (some (.Name x p)) pos.line X.env = pure false := by rfl) (hf : X.fn x = true ∨ X.env.scope.names.lookup x = some .local := by first | exact .inl rfl | exact .inr rfl) :
    MS Γ X W oL o (.Assign [.Name x p] a pos) (o1.filter (· != i)) (tAsg ta (gName i)) (mSet i ma) := by
  obtain ⟨eG⟩ := hG
  subst eG
  exact ⟨ps_set nd hN hl ha.pe hs hf, PuS.set ha.pu⟩
theorem ms_setO (i : Nat) (nd : X.N.Nodup) (ha : MO Γ X W o a o1 ta ma) (hN : X.N[i]? = some x := by rfl) (hl : Loc X.env.scope x := by first | exact Or.inl rfl | exact Or.inr rfl) (hs : swapsWith a (some (.Name x p)) pos.line X.env = pure false := by rfl) (hf : X.fn x = true ∨ X.env.scope.names.lookup x = some .local := by first | exact .inl rfl | exact .inr rfl) :
    MS Γ X W oL o (.Assign [.Name x p] a pos) (i :: o1.filter (· != i)) (tAsg ta (gName i)) (mSet i ma) := by
  obtain ⟨eG⟩ := hG
  subst eG
  exact ⟨ps_set nd hN hl ha.pe hs hf, PuS.setO ha.pu⟩
/-- name = [.. for ..] where the tongue stores in another order -/
theorem ms_setLc (i : Nat) {scope : Scope} (s0 : Shared) (H0 : Hp) (own : List (Str × Nat)) (hc : X.calm = true) (hN : X.N.Nodup) (hi : MI Γ X W o tg iter o wi mi) (ok : blkC X.N X.env.scope scope own = true)
    (hg : ∀ (s : Shared) (H : Hp) (C : Addr) (cl : List (Str × Addr)) (fp : List Addr), MG Γ (B0 X scope s H C cl fp) o tg o g mg)
    (ht : ∀ (s : Shared) (H : Hp) (C : Addr) (cl : List (Str × Addr)) (fp : List Addr), MTs Γ (B0 X scope s H C cl fp) WN o ifs tt mt)
    (he : ∀ (s : Shared) (H : Hp) (C : Addr) (cl : List (Str × Addr)) (fp : List Addr), ME Γ (B0 X scope s H C cl fp) WN o elt o te me)
    (hw : GW g mg (own.map (·.2))) (hv : ∀ i, i ∈ own.map (·.2) → i ∉ o := by decide) (hs : ∀ x, foldedSetIterable iter X.env x = pure x := by intro _; rfl) 
    (hy : X.N[i]? = some x := by rfl) (hyl : X.env.scope.names.lookup x = some .local := by rfl) (hsw : swapsWith (.ListComp elt [⟨tg, iter, ifs, 0⟩] scope pos) (some (.Name x py)) spos.line X.env = pure true := by rfl) :
    MS Γ X W oL o (.Assign [.Name x py] (.ListComp elt [⟨tg, iter, ifs, 0⟩] scope pos) spos) (i :: o.filter (· != i)) (tAsg (tLc wi g tt te (own.map (·.2))) (gName i)) (mSet i (mLc (own.map (·.2)) mi mg mt me)) := by
  obtain ⟨eG⟩ := hG
  subst eG
  exact ⟨ps_setLc hc hN hy hyl hsw hi.pe (blkOk_by ok) (fun s H C cl fp => (hg s H C cl fp).pe) (fun s H C cl fp => (ht s H C cl fp).pe) (fun s H C cl fp => (he s H C cl fp).pe) hs,
    PuS.setO (PuO.lc hi.pu hv hw (hg s0 H0 0 [] []).pu (ht s0 H0 0 [] []).pu (he s0 H0 0 [] []).pu)⟩
/-- any target -/
def mTg (ma : Env → R D) (mg : D → Env → R Env) : Env → Out := fun ρ => oBind (ma ρ) ρ fun d => match mg d ρ with
  | .ok ρ' => .nx ρ'
  | _ => .bad
theorem PuS.target {G : Gc} (ha : PuE G W o ta o1 ma) (hg : PuG G o1 g o2 mg) : PuS G W oL o (tAsg ta g) o2 (mTg ma mg) := by
  intro B F0 F H σ ρ X rel h
  refine ha rel ((Post.res h).imp fun d F1 H1 e1 r1 q v rv => ?_)
  cases z : mg d ρ with
  | ok ρ' => rw [z] at q; exact hg r1 rv ⟨ρ', z, fun σ' r' => q F1 H1 σ' (Le.refl F1) r'⟩
  | exc _ _ => rw [z] at q; exact q.elim
  | bad => rw [z] at q; exact q.elim
theorem ms_tg (ha : ME Γ X W o a o1 ta ma) (hg : MG Γ X o1 tg o2 g mg) (hs : swapsWithSole [tg] a pos.line X.env = pure false := by rfl) (hw : swappedStores [tg] a X.env = pure none := by rfl)
    (h1 : (assignEach [tg] X.env).map (·.2) = [assign tg X.env] := by rfl) : MS Γ X W oL o (.Assign [tg] a pos) o2 (tAsg ta g) (mTg ma mg) := by
  obtain ⟨eG⟩ := hG
  subst eG
  exact ⟨ps_asg ha.pe hg.pe hs hw h1, PuS.target ha.pu hg.pu⟩
/-- a, b = x, y -/
def mPar (i j : Nat) (ms : Env → R (List D)) : Env → Out := fun ρ => oBind (ms ρ) ρ fun ds => match ds with
  | [a, b] => .nx ((ρ.set i (some a)).set j (some b))
  | _ => .bad
theorem PuS.par {G : Gc} {i j : Nat} (hi : i ∉ o1) (hj : j ∉ o1) (ha : PuA G W o ts o1 ms) : PuS G W oL o (tPar i j ts) o1 (mPar i j ms) := by
  intro B F0 F H σ ρ X rel h
  refine ha rel ((Post.res h).imp fun ds F1 H1 e1 r1 q vs rv => ?_)
  cases rv with
  | nil => exact q.elim
  | cons h1 r2 =>
    cases r2 with
    | nil => exact q.elim
    | cons h2 r3 =>
      cases r3 with
      | nil =>
        refine ⟨_, _, rfl, q F1 H1 _ (Le.refl F1) ?_⟩
        have z := (r1.set (i := i) h1)
        rw [filt_no hi] at z
        have z2 := z.set (i := j) h2
        rw [filt_no hj] at z2
        exact z2
      | cons _ _ => exact q.elim
theorem ms_par (i j : Nat) {y : Str} {px pt2 pt : Pos} {kt k2 : Nat} (hc : X.calm = true) (nd : X.N.Nodup) (ha : MA Γ X W o [a, b] o1 ts ms) (hij : i ≠ j := by decide) (hi : i ∉ o1 := by decide) (hj : j ∉ o1 := by decide) (hN : X.N[i]? = some x := by rfl) (hM : X.N[j]? = some y := by rfl)
    (hx : X.env.scope.names.lookup x = some .local := by rfl) (hy : X.env.scope.names.lookup y = some .local := by rfl)
    (hw : swappedStores [.Tuple [.Name x px, .Name y py] kt pt] (.Tuple [a, b] k2 pt2) X.env = pure (some [x, y]) := by rfl)
    (hs : swapsWithSole [.Tuple [.Name x px, .Name y py] kt pt] (.Tuple [a, b] k2 pt2) pos.line X.env = pure false := by rfl) :
    MS Γ X W oL o (.Assign [.Tuple [.Name x px, .Name y py] kt pt] (.Tuple [a, b] k2 pt2) pos) o1 (tPar i j ts) (mPar i j ms) := by
  obtain ⟨eG⟩ := hG
  subst eG
  exact ⟨ps_par hc nd hN hM hij hx hy ha.pe hw hs, PuS.par hi hj ha.pu⟩
/-! loops -/
theorem ms_for (hp : PassesOwn (model X.prog X.w) X.A X.env X.xe) (hc : X.calm = true) (hi : MI Γ X W o tg iter oI wi mi) (hg : MG Γ X oI tg oI g mg) (hb : MSs Γ X W oI oI sts oI t m) (hs : ∀ x, foldedSetIterable iter X.env x = pure x := by intro _; rfl) :
    MS Γ X W oL o (.For tg iter sts [] pos) oI (tFor wi g t) (mFor mi mg m) := by
  obtain ⟨eG⟩ := hG
  subst eG
  exact ⟨ps_for hp hc hi.pe hg.pe hb.pe hs, PuS.forS hi.pu hg.pu hb.pu⟩
theorem ms_while (hp : PassesOwn (model X.prog X.w) X.A X.env X.xe) (hc : MT Γ X W o c o tt mt) (hb : MSs Γ X W o o sts o t m) :
    MS Γ X W oL o (.While c sts [] pos) o (tWhile tt t) (mWhile mt m) := by
  obtain ⟨eG⟩ := hG
  subst eG
  exact ⟨ps_while hp hc.pe hb.pe, PuS.whileS hc.pu hb.pu⟩
/-! own lists and dicts -/
structure Mtd (Γ : Gc) (X : Cx) (T : String) (name : Str) (id : String) (r : V → List V → Hp → VK → Prop) (f : D → List D → R (D × D)) : Prop where
  pa : PlainAttrs T
  slot : Slot T name id
  ty : typeOf (.builtin id) = pure (.type "method_descriptor")
  mt : MtR X id r
  pm : PuM Γ r f
theorem m_append : Mtd Γ X "list" "append" "list.append" rAppend dAppend := by
  obtain ⟨eG⟩ := hG
  subst eG
  exact ⟨PySem.F.plainAttrs_list, PySem.F.slot_list_append, PySem.F.type_list_append, mt_append, pm_append⟩
theorem m_extend : Mtd Γ X "list" "extend" "list.extend" rExtend dExtend := by
  obtain ⟨eG⟩ := hG
  subst eG
  exact ⟨PySem.F.plainAttrs_list, PySem.F.slot_list_extend, PySem.F.type_list_extend, mt_extend, pm_extend⟩
variable {T id : String} {name : Str} {r : V → List V → Hp → VK → Prop} {f : D → List D → R (D × D)}
theorem ms_mut (hm : Mtd Γ X T name id r f) (i : Nat) (ha : MA Γ X W o (e :: es) o1 ts ms) (hi : i ∈ o := by decide) (hi1 : i ∈ o1 := by decide) (hN : X.N[i]? = some x := by rfl) (hv : Vis X.env.scope x := by first | exact Or.inl rfl | exact Or.inr (Or.inl rfl) | exact Or.inr (Or.inr rfl)) (hd : (x == ("__debug__" : Str)) = false := by decide) (hcd : (x == ("__classdict__" : Str)) = false := by decide)
    (hbase : attributeBase (.Name x p) name X.env (eval (.Name x p) X.env) = eval (.Name x p) X.env := by rfl)
    (hfew : ((backTo cpos (starEach (e :: es) X.env)).all (fun x => !x.1) && (backToKw cpos (keywordEach [] X.env)).all (fun x => x.1.isSome)
      && decide ((e :: es).length + ([] : List Keyword).length + (if ([] : List Keyword).isEmpty then 0 else 1) < 30)) = true := by rfl)
    (hline : (apos.endLine == cpos.line) = true := by rfl) (hs : starEach (e :: es) X.env = (false, eval e X.env) :: starEach es X.env := by rfl) (hplain : (backTo cpos (starEach es X.env)).any (·.1) = false := by rfl)
    (hsw : swapsWith (.Call (.Attribute (.Name x p) name apos) (e :: es) [] cpos) none pos.line X.env = pure false := by rfl) :
    MS Γ X W oL o (.Expr (.Call (.Attribute (.Name x p) name apos) (e :: es) [] cpos) pos) o1 (tDrop (tBM Γ.K T r (tVar i) ts)) (mMut T i f ms kDrop) := by
  obtain ⟨eG⟩ := hG
  subst eG
  exact ⟨ps_expr (pe_bm hm.pa hm.slot hm.ty hm.mt (pe_var hN hv hd hcd) ha.pe hbase hfew hline hs hplain) hsw, PuS.mutA (t := fun X _ σ H => X.nx σ H) hm.pm hi1 hi ha.pu PuK.drop⟩
theorem ms_dput (i : Nat) (hu : X.A.units + 1 < cLine) (hv : ME Γ X W o a o1 ta ma) (hk : ME Γ X W o1 b o2 tb mb) (hi1 : i ∈ o1 := by decide) (hi2 : i ∈ o2 := by decide) (hN : X.N[i]? = some x := by rfl) (hvi : Vis X.env.scope x := by first | exact Or.inl rfl | exact Or.inr (Or.inl rfl) | exact Or.inr (Or.inr rfl)) (hd : (x == ("__debug__" : Str)) = false := by decide) (hcd : (x == ("__classdict__" : Str)) = false := by decide)
    (hs : swapsWith a (some (.Subscript (.Name x p) b py)) pos.line X.env = pure false := by rfl) :
    MS Γ X W oL o (.Assign [.Subscript (.Name x p) b py] a pos) o2 (sDPut (tVar i) tb ta) (mDPut i mb ma) := by
  obtain ⟨eG⟩ := hG
  subst eG
  exact ⟨ps_dput hu (pe_var hN hvi hd hcd) hk.pe hv.pe hs, PuS.dput hi1 hi2 hv.pu hk.pu⟩
theorem ms_lput (i : Nat) (hv : ME Γ X W o a o1 ta ma) (hk : ME Γ X W o1 b o2 tb mb) (hi1 : i ∈ o1 := by decide) (hi2 : i ∈ o2 := by decide) (hN : X.N[i]? = some x := by rfl) (hvi : Vis X.env.scope x := by first | exact Or.inl rfl | exact Or.inr (Or.inl rfl) | exact Or.inr (Or.inr rfl)) (hd : (x == ("__debug__" : Str)) = false := by decide) (hcd : (x == ("__classdict__" : Str)) = false := by decide)
    (hsw : swapsWithSole [.Subscript (.Name x p) b py] a pos.line X.env = pure false := by rfl) (hw : swappedStores [.Subscript (.Name x p) b py] a X.env = pure none := by rfl)
    (h1 : (assignEach [.Subscript (.Name x p) b py] X.env).map (·.2) = [assign (.Subscript (.Name x p) b py) X.env] := by rfl)
    (hasg : ∀ v, assign (.Subscript (.Name x p) b py) X.env v = (do
      let ov ← holding [v] (eval (.Name x p) X.env)
      let iv ← holding [v, ov] (eval b X.env)
      standAt py
      holding [v, ov, iv] (setItem ov iv v)
      release [v, ov, iv] []) := by intro _; rfl) :
    MS Γ X W oL o (.Assign [.Subscript (.Name x p) b py] a pos) o2 (tAsg ta (gSub (tVar i) tb rSetL)) (mLPut i mb ma) := by
  obtain ⟨eG⟩ := hG
  subst eG
  exact ⟨ps_asg hv.pe (pg_sub (pe_var hN hvi hd hcd) hk.pe set_list hasg) hsw hw h1, PuS.lput hi1 hi2 hv.pu hk.pu⟩
/-- an operator on a name -/
structure AugR (X : Cx) (op : Operator) (f : Int → Int → Int) : Prop where
  ip : PIp X op (ipI f)
theorem ms_aug {op : Operator} {f : Int → Int → Int} (i : Nat) (nd : X.N.Nodup) (hop : AugR X op f) (ha : ME Γ X W o a o1 ta ma) (hi : i ∉ o := by decide) (hi1 : i ∉ o1 := by decide) (hN : X.N[i]? = some x := by rfl) (hl : Loc X.env.scope x := by first | exact Or.inl rfl | exact Or.inr rfl) (hf : X.fn x = true ∨ X.env.scope.names.lookup x = some .local := by first | exact .inl rfl | exact .inr rfl) :
    MS Γ X W oL o (.AugAssign (.Name x p) op a pos) o1 (tAug i ta (ipI f)) (mAug i f ma) := by
  obtain ⟨eG⟩ := hG
  subst eG
  exact ⟨ps_aug nd hN hl ha.pe hop.ip hf, puS_aug hi hi1 ha.pu⟩
end
end G
/-! S13: defs as wholes. -/
namespace G
open PySem L2 PyProof.Rows
theorem gw1 {i : Nat} {vs : List Nat} (h : i ∈ vs := by decide) : GW (gName i) (gnName i) vs := GW.name h
theorem gw2 {K : PySem.W.Frag} {i j n : Nat} {vs : List Nat} (h : i ∈ vs := by decide) (h2 : j ∈ vs := by decide) : GW (gTup K n (gCons (gName i) (gCons (gName j) gNil))) (gnTup n (gnCons (gnName i) (gnCons (gnName j) gnNil))) vs :=
  GW.tup (GWs.cons (GW.name h) (GWs.cons (GW.name h2) GWs.nil gName_mono) gName_mono)
theorem gw3 {K : PySem.W.Frag} {i j k n : Nat} {vs : List Nat} (h : i ∈ vs := by decide) (h2 : j ∈ vs := by decide) (h3 : k ∈ vs := by decide) : GW (gTup K n (gCons (gName i) (gCons (gName j) (gCons (gName k) gNil)))) (gnTup n (gnCons (gnName i) (gnCons (gnName j) (gnCons (gnName k) gnNil)))) vs :=
  GW.tup (GWs.cons (GW.name h) (GWs.cons (GW.name h2) (GWs.cons (GW.name h3) GWs.nil gName_mono) gName_mono) gName_mono)
abbrev FnP (K : PySem.W.Frag) (x : Str) (st : Stmt) (f : Addr) (fd : FuncData) : Prop := FunD K x x (defArgs st) (defBody st) (defScope st) [] [] f fd
section
variable {P : Program} {w : World} {K : PySem.W.Frag} {mg : Str → Option Value} {base : Heap}
abbrev XD (P : Program) (w : World) (K : PySem.W.Frag) (mg : Str → Option Value) (base : Heap) (N : List Str) (x : Str) (st : Stmt) (f : Addr) (cdv : Value) (A : Around) (outer : List PySem.Env) (s : Shared) (H : Hp) (E : XK) : Cx :=
  cxOf (L2N.CX P w) P w K mg base N x (defScope st) f cdv A outer s H E
instance {P : Program} {w : World} {K : PySem.W.Frag} {mg : Str → Option Value} {base : Heap} {N : List Str} {x : Str} {st : Stmt} {f : Addr} {cdv : Value} {A : Around} {outer : List PySem.Env} {s : Shared} {H : Hp} {E : XK} : HG ⟨K, mg⟩ (XD P w K mg base N x st f cdv A outer s H E) := ⟨rfl⟩
abbrev WD (E : XK) : WX := fun cls dd _ H => E cls dd H
theorem fd_of {x : Str} {st : Stmt} {f : Addr} {fd : FuncData} {k : Nat} {N ps : List Str} {m : DefM} (F : FnP K x st f fd) (S : FnScope N ps (defScope st)) (g : mg x = some (.ref f)) (b : Binds K fd ps []) (hp : ps.length = m.n) (hk : N.length - ps.length = m.k)
    (h : ∀ cdv A outer s H E, Room k (A.deeper (envOfC x (defScope st) s.heap.objs.size f cdv)) → L2N.Takes (XD P w K mg base N x st f cdv A outer s H E) (WD E) → ∃ t o', MSs ⟨K, mg⟩ (XD P w K mg base N x st f cdv A outer s H E) (WD E) [] [] (defBody st) o' t m.body) :
    Fd P w K mg base (k + 1) x ps f fd m.fn := by
  refine ⟨F.ok S (fun vs H Q E h => ?_) fun cdv A outer s H vs Q E hr hsp => ?_, g, F.kp, b⟩
  · exact spM_len rfl vs H Q E h
  · obtain ⟨t, o', d⟩ := h cdv A outer s H E hr (L2N.takes_of rfl rfl rfl rfl)
    rw [hp] at hsp
    exact ⟨t, d.pe, body_start (F := H) hk hp d.pu hsp⟩
end
end G
/-! S14: small rules; sorted. -/
namespace G
open PySem L2
theorem hu65 {k : Nat} {A : Around} (hr : Room k A) : A.units + 65 < cLine := by have := hr.un; omega
section
variable {Γ : Gc} {X : Cx} [hG : HG Γ X] {W : WX} {o o1 o2 oL oI : List Nat} {a b c e : Expr} {x : Str} {pos : Pos} {st : Stmt} {sts : List Stmt} {t : TS} {m : Env → Out}
theorem me_gintE {i : Int} (hm : ∃ t, X.mg x = some (.int i t)) (hg : Gl X x := by rfl) (hdb : (x == ("__debug__" : Str)) = false := by decide) : ME Γ X W o (.Name x pos) o (tC (.int i)) (mC (.int i)) := by
  obtain ⟨t, h⟩ := hm
  exact me_gint h hg hdb
theorem a_add : AugR X .Add (fun i j => i + j) := ⟨ip_add⟩
theorem a_sub : AugR X .Sub (fun i j => i - j) := ⟨ip_sub⟩
theorem m_insert : Mtd Γ X "list" "insert" "list.insert" rInsert dInsert := ⟨PySem.F.plainAttrs_list, PySem.F.slot_list_insert, PySem.F.type_list_insert, mt_insert, pm_insert⟩
/-- the order of the own slots is none -/
theorem Rel.eqv {G : Gc} {B F0 F H : Hp} {o o' : List Nat} {σ : L2.St} {ρ : Env} (h : ∀ i, i ∈ o ↔ i ∈ o') (r : Rel G B F0 F H o σ ρ) : Rel G B F0 F H o' σ ρ :=
  ⟨r.core, r.len, fun i d h1 h2 => r.sh i d h1 fun z => h2 ((h i).mp z), fun i d h1 h2 => r.ow i d h1 ((h i).mpr h2), fun i j d e a h1 h2 h3 => r.dj i j d e a h1 ((h i).mpr h2) ((h j).mpr h3)⟩
theorem PuS.eqv {G : Gc} (h : ∀ i, i ∈ o1 ↔ i ∈ o2) (h1 : PuS G W oL o t o1 m) : PuS G W oL o t o2 m := by
  intro B F0 F H σ ρ X rel p
  refine h1 rel ?_
  cases hm : m ρ with
  | nx ρ' => rw [hm] at p; exact fun F' H' σ' le r' => p F' H' σ' le (r'.eqv h)
  | rt d => rw [hm] at p; exact p
  | bk ρ' => rw [hm] at p; exact p
  | ct ρ' => rw [hm] at p; exact p
  | exc c q ρ' => rw [hm] at p; exact p
  | bad => rw [hm] at p; exact p
theorem mss_eqv (h1 : MSs Γ X W oL o sts o1 t m) (h : ((o1.all fun i => o2.contains i) && (o2.all fun i => o1.contains i)) = true := by rfl) : MSs Γ X W oL o sts o2 t m := by
  refine ⟨h1.pe, PuS.eqv (fun i => ?_) h1.pu⟩
  obtain ⟨ha, hb⟩ := (Bool.and_eq_true _ _).mp h
  have h : _ ∧ _ := ⟨List.all_eq_true.mp ha, List.all_eq_true.mp hb⟩
  exact ⟨fun z => by simpa using h.1 i z, fun z => by simpa using h.2 i z⟩
end
/-! ### sorted -/
def lexB : List Int → List Int → Bool
  | [], [] => false
  | [], _ :: _ => true
  | _ :: _, [] => false
  | x :: xs, y :: ys => if x = y then lexB xs ys else decide (x < y)
theorem lexB_irr : ∀ xs, lexB xs xs = false
  | [] => rfl
  | x :: xs => by unfold lexB; rw [if_pos rfl]; exact lexB_irr xs
theorem lexB_tot : ∀ {xs ys}, lexB xs ys = false → lexB ys xs = false → xs = ys
  | [], [], _, _ => rfl
  | [], _ :: _, h, _ => by cases h
  | _ :: _, [], _, h => by cases h
  | x :: xs, y :: ys, h1, h2 => by
    unfold lexB at h1 h2
    by_cases e : x = y
    · subst e
      rw [if_pos rfl] at h1 h2
      rw [lexB_tot h1 h2]
    · rw [if_neg e] at h1
      rw [if_neg (Ne.symm e)] at h2
      have := of_decide_eq_false h1
      have := of_decide_eq_false h2
      omega
theorem lexB_asym : ∀ {xs ys}, lexB xs ys = true → lexB ys xs = false
  | [], [], h => by cases h
  | [], _ :: _, _ => rfl
  | _ :: _, [], h => by cases h
  | x :: xs, y :: ys, h => by
    unfold lexB at h ⊢
    by_cases e : x = y
    · subst e
      rw [if_pos rfl] at h ⊢
      exact lexB_asym h
    · rw [if_neg e] at h
      rw [if_neg (Ne.symm e)]
      have := of_decide_eq_true h
      exact decide_eq_false (by omega)
theorem lexB_tr : ∀ {xs ys zs}, lexB ys xs = false → lexB zs ys = false → lexB zs xs = false
  | [], [], [], _, _ => rfl
  | [], [], _ :: _, _, h => by simp [lexB]
  | [], _ :: _, [], _, h => by simp [lexB] at h
  | [], _ :: _, _ :: _, _, _ => by simp [lexB]
  | _ :: _, [], _, h, _ => by simp [lexB] at h
  | _ :: _, _ :: _, [], _, h => by simp [lexB] at h
  | x :: xs, y :: ys, z :: zs, h1, h2 => by
    unfold lexB at h1 h2 ⊢
    by_cases e : y = x
    · subst e
      rw [if_pos rfl] at h1
      by_cases e2 : z = y
      · subst e2
        rw [if_pos rfl] at h2 ⊢
        exact lexB_tr h1 h2
      · rw [if_neg e2] at h2 ⊢
        exact h2
    · rw [if_neg e] at h1
      have q1 := of_decide_eq_false h1
      by_cases e2 : z = y
      · subst e2
        rw [if_neg e]
        exact h1
      · rw [if_neg e2] at h2
        have q2 := of_decide_eq_false h2
        have e3 : z ≠ x := by omega
        rw [if_neg e3]
        exact decide_eq_false (by omega)
/-- a datum's ints, to sort by -/
def D.key' : D → List Int
  | .int i => [i]
  | .tup ds => (D.ints ds).getD []
  | _ => []
def leD (a b : D) : Bool := !lexB b.key' a.key'
def sortD (ds : List D) : List D := ds.mergeSort leD
theorem leD_tr (a b c : D) (h1 : leD a b = true) (h2 : leD b c = true) : leD a c = true := by
  unfold leD at *
  rw [Bool.not_eq_true'] at *
  exact lexB_tr h1 h2
theorem leD_tot (a b : D) : (leD a b || leD b a) = true := by
  unfold leD
  cases h : lexB b.key' a.key' with
  | false => rfl
  | true => rw [lexB_asym h]; rfl
/-- there is just one such list -/
theorem sortD_eq {ds es : List D} (hp : es.Perm ds) (hs : es.Pairwise fun a b => leD a b = true) (hk : ∀ a ∈ ds, ∀ b ∈ ds, a.key' = b.key' → a = b) : es = sortD ds := by
  have m := List.mergeSort_perm ds leD
  refine List.Perm.eq_of_pairwise (le := fun a b => leD a b = true) (fun a b ha hb h1 h2 => ?_) hs (List.pairwise_mergeSort leD_tr leD_tot ds) (hp.trans m.symm)
  refine hk a (hp.subset ha) b (m.subset hb) ?_
  unfold leD at h1 h2
  rw [Bool.not_eq_true'] at h1 h2
  exact lexB_tot h2 h1
theorem RpL.perm {G : Gc} {F : Hp} {xs ys : List V} (h : ys.Perm xs) : ∀ {ds : List D}, RpL G F ds xs → ∃ es, es.Perm ds ∧ RpL G F es ys := by
  induction h with
  | nil => intro ds r; exact ⟨ds, List.Perm.refl _, r⟩
  | cons x p ih =>
    intro ds r
    cases r with
    | cons h1 r1 =>
      obtain ⟨es, q1, q2⟩ := ih r1
      exact ⟨_ :: es, List.Perm.cons _ q1, .cons h1 q2⟩
  | swap x y l =>
    intro ds r
    cases r with
    | cons h1 r1 =>
      cases r1 with
      | cons h2 r2 => exact ⟨_, List.Perm.swap _ _ _, .cons h2 (.cons h1 r2)⟩
  | trans p q ih1 ih2 =>
    intro ds r
    obtain ⟨es, q1, q2⟩ := ih2 r
    obtain ⟨fs, q3, q4⟩ := ih1 q2
    exact ⟨fs, q3.trans q1, q4⟩
end G
namespace G
open PySem L2
def D.isI : D → Bool
  | .int _ => true
  | _ => false
def allI (ds : List D) : Bool := ds.all D.isI
/-- sorted of a list of ints -/
def D.sortI : D → R D
  | .lst ds => if allI ds = true then .ok (.lst (sortD ds)) else .bad
  | _ => .bad
theorem allI_ints : ∀ {ds : List D} {G : Gc} {F : Hp} {vs : List V}, allI ds = true → RpL G F ds vs → ∃ ns : List Int, ds = ns.map D.int ∧ vs = ns.map V.int
  | [], _, _, _, _, .nil => ⟨[], rfl, rfl⟩
  | d :: ds, _, _, _, h, .cons h1 r => by
    have hd : allI ds = true := by unfold allI at h ⊢; rw [List.all_cons, Bool.and_eq_true] at h; exact h.2
    obtain ⟨ns, e1, e2⟩ := allI_ints hd r
    have h0 : d.isI = true := by unfold allI at h; rw [List.all_cons, Bool.and_eq_true] at h; exact h.1
    cases d with
    | int i => cases h1; exact ⟨i :: ns, by rw [e1]; rfl, by rw [e2]; rfl⟩
    | _ => cases h0
theorem ints_rp {G : Gc} {F : Hp} : ∀ ns : List Int, RpL G F (ns.map D.int) (ns.map V.int)
  | [] => .nil
  | n :: ns => .cons (.int n) (ints_rp ns)
theorem le_int {a b : Int} : leD (.int a) (.int b) = decide (a ≤ b) := by
  unfold leD D.key' lexB
  by_cases h : b = a
  · subst h; simp [lexB]
  · rw [if_neg h]
    by_cases h2 : a ≤ b
    · rw [decide_eq_true h2, decide_eq_false (by omega)]; rfl
    · rw [decide_eq_false h2, decide_eq_true (by omega)]; rfl
theorem sortI_ints {ns ns' : List Int} (hp : ns'.Perm ns) (hs : ns'.Pairwise (· ≤ ·)) : ns'.map D.int = sortD (ns.map D.int) := by
  refine sortD_eq (hp.map _) ?_ fun a ha b hb h => ?_
  · rw [List.pairwise_map]
    exact hs.imp fun {a b} h => by rw [le_int]; exact decide_eq_true h
  · obtain ⟨x, _, rfl⟩ := List.mem_map.mp ha
    obtain ⟨y, _, rfl⟩ := List.mem_map.mp hb
    have : x = y := by simpa [D.key'] using h
    rw [this]
section
variable {G : Gc} {W : WX}
theorem pu_sortI : PuCO G W (rSortedI G.K) (d1 D.sortI) := by
  refine pu_c1O (fun {B F0 F H o σ ρ Q v d} rel rv h => ?_)
  cases rv with
  | @lst a vs ds h1 r1 =>
    obtain ⟨c, h⟩ := Res.ifP h
    obtain ⟨ns, e1, e2⟩ := allI_ints c r1
    subst e1 e2
    refine ⟨a, ns, rfl, .inl (.inl (rel.core.fh _ _ h1)), fun ns' l hp hs hl => ?_⟩
    rw [← sortI_ints hp hs] at h
    exact h.newO rel hl (.lst upd_same (ints_rp ns'))
  | _ => exact h.elim
end
end G
/-! E2: sorted of lists of tuples of ints, of any lengths, the first of them the empty one (so that the tongue compares whole tuples). -/
namespace TpL
open PySem PySem.Spec PySem.W PyProof.Rows L2
/-- v is a tuple of these numbers -/
def IsTp (h : Heap) (v : Value) (ns : List Int) : Prop :=
  ∃ (a : Addr) (dd : Option Addr) (items : Array Value) (n : Nat) (sl : Array (Option Value)), v = .ref a ∧ h.get? a = some { cls := .type "tuple", dict := dd, data := .seq items n, slots := sl } ∧ IntsAre items.toList ns
theorem IsTp.keeps {h h' : Heap} {v : Value} {ns : List Int} (x : IsTp h v ns) (k : ∀ b o, v = .ref b → h.get? b = some o → h'.get? b = some o) : IsTp h' v ns := by
  obtain ⟨a, dd, items, n, sl, e, g, i⟩ := x
  exact ⟨a, dd, items, n, sl, e, k _ _ e g, i⟩
theorem IsTp.type {M : Model} {h : Heap} {v : Value} {ns : List Int} (x : IsTp h v ns) : Looks M h (typeOf v) (.type "tuple") := by
  obtain ⟨a, dd, items, n, sl, rfl, g, i⟩ := x
  exact (Looks.ld g).andThen .now
section
variable {prog : Program} {w : World} {A : Around} {E : Value → Shared → Prop} {s : Shared}
theorem lt_tp {v u : Value} {ns ms : List Int} {Q : Bool → Shared → Prop} (hu : A.units < cLine) (hv : IsTp s.heap v ns) (hw : IsTp s.heap u ms) (h : Q (HT.lexLt ns ms) s) : wpAny (model prog w) A (keyLt' oneType' v u) Q E s := by
  obtain ⟨a, dd, items, n, sl, rfl, ga, ia⟩ := hv
  obtain ⟨b, dd2, items2, n2, sl2, rfl, gb, ib⟩ := hw
  rw [keyLt'_oneType, oneLt'_eq]
  simp only [if_true]
  refine wpAny_bind (wpAny_cRoomFor hu ?_)
  refine wpAny_bind (wpAny_callSpecialIfBound?_slot (T := "tuple") ⟨_, ga, rfl⟩ F.slot_tuple_lt (call_meets F.slot_tuple_lt ⟨_, ga, rfl⟩ F.entry_tuple_lt (F.args_tuple_lt_2 _ _) (NtL.nt_lt_ints a b _ _ items items2 n n2 dd dd2 sl sl2 ns ms ia ib) ⟨ga, gb, fun M A' Q' E' s' k q => ?_, ?_⟩))
  · exact wpAny_isInstance (T := "tuple") (U := "tuple") ⟨_, k _ _ gb, rfl⟩ AutoSeq1.sub_tuple_tuple q
  · exact wpAny_truthy_bool h
/-- what list.sort looks at first -/
theorem kind_tp {vs : List Value} {k : Value → List Int} {Q : SortKind → Shared → Prop} (hv : ∀ v ∈ vs, IsTp s.heap v (k v)) (h1 : ∃ v r, vs = v :: r ∧ k v = []) (h : Q oneType' s) : wpAny (model prog w) A (keyKind' vs.toArray) Q E s := by
  obtain ⟨v0, r0, rfl, hk0⟩ := h1
  rw [kat_kind_eq, List.mapM_toArray, map_eq_pure_bind]
  have firsts : ∀ (l : List Value) {P : List (Option Value) → Shared → Prop}, (∀ v ∈ l, IsTp s.heap v (k v)) → (∀ fs : List (Option Value), (∀ v r, l = v :: r → k v = [] → ∃ gs, fs = none :: gs) → P fs s) → wpAny (model prog w) A (l.mapM firstOfTuple') P E s := by
    intro l
    induction l with
    | nil => intro P _ hP; rw [List.mapM_nil]; exact wpAny_pure (hP [] fun v r e => by cases e)
    | cons v l ih =>
      intro P hl hP
      rw [List.mapM_cons]
      have tv := (hl v (.head _)).type (M := model prog w)
      obtain ⟨a, dd, items, n, sl, rfl, ga, ia⟩ := hl v (.head _)
      rw [kas_first_eq]
      refine wpAny_bind (wpAny_bind (tv.here ?_))
      rw [if_neg (by first | decide | simp)]
      refine wpAny_bind (listItems_at ga rfl (wpAny_pure ?_))
      refine wpAny_bind (ih (fun u hu => hl u (.tail _ hu)) fun fs _ => wpAny_pure (hP _ fun v' r' e he => ?_))
      cases e
      rw [he] at ia
      have z : items.toList = [] := by cases hh : items.toList with
        | nil => rfl
        | cons _ _ => rw [hh] at ia; cases ia
      have z2 : items = #[] := by simpa using z
      subst z2
      exact ⟨fs, rfl⟩
  refine wpAny_bind (wpAny_bind (firsts _ hv fun fs hf => wpAny_pure ?_))
  obtain ⟨gs, rfl⟩ := hf v0 r0 rfl hk0
  rw [if_neg (by simp), if_neg (by simp)]
  rw [oneTypeOnly'_eq, List.mapM_toArray, map_eq_pure_bind]
  refine wpAny_bind (wpAny_bind (wpAny_bind (kas_mapM (r := Value.type "tuple") _ (fun v hm Q' hq => ((hv v hm).type (M := model prog w)).here hq) (wpAny_pure ?_))))
  have hall : ((List.map (fun _ => Value.type "tuple") (v0 :: r0)).toArray.all fun x => x == Value.type "tuple") = true := by simp
  have h0 : (List.map (fun _ => Value.type "tuple") (v0 :: r0)).toArray[0]? = some (Value.type "tuple") := by simp
  rw [h0]
  simp only [hall, if_true]
  exact wpAny_pure (wpAny_pure h)
theorem tp_sortable {a : Addr} {vs : List Value} {k : Value → List Int} (hu : A.units < cLine) (hv : ∀ v ∈ vs, IsTp s.heap v (k v)) (h1 : ∃ v r, vs = v :: r ∧ k v = []) (ha : ∀ v ∈ vs, v ≠ .ref a) :
    SrtO.SortableO prog w A s a vs fun v u => HT.lexLt (k v) (k u) := by
  intro h' keep
  have hv' : ∀ v ∈ vs, IsTp h' v (k v) := fun v hm => (hv v hm).keeps fun b o e g => keep b o (fun z => ha v hm (by rw [e, z])) g
  refine ⟨oneType', fun Q E hq => kind_tp (s := { s with heap := h' }) hv' h1 hq, fun p q hp hq => ?_⟩
  exact lt_tp (s := { s with heap := h' }) (Q := fun r s' => s' = { s with heap := h' } ∧ r = HT.lexLt (k p.1) (k q.1)) (E := fun _ _ => False) hu (hv' p.1 hp) (hv' q.1 hq) ⟨rfl, rfl⟩
end
section
variable {prog : Program} {w : World} {A : Around} {E : Value → Shared → Prop} {s : Shared}
/-- sorted(l), l a list or a tuple -/
theorem sorted_seq {l : Addr} {T : String} {o : Obj} {n : Nat} {vs : List Value} {ltv : Value → Value → Bool} {Q : Value → Shared → Prop} (hT : T = "list" ∨ T = "tuple") (ho : s.heap.get? l = some o) (hc : o.cls = .type T) (hd : o.data = .seq vs.toArray n) (hz : vs.length ≤ sizeLine) (O : SrtO.Swo ltv)
    (hS : 2 ≤ vs.length → ∀ (h₁ : Heap) (a : Addr), h₁.get? a = some (seqObj "list" vs.toArray 0) → (∀ b o, s.heap.get? b = some o → b ≠ a ∧ h₁.get? b = some o) → SrtO.SortableO prog w A.in1.in1 { s with heap := h₁ } a vs ltv)
    (h : ∀ (h' : Heap) (d : Addr) (out : List Value), SrtO.Srtd ltv out → SrtO.Stb ltv out vs → (∀ b o, s.heap.get? b = some o → h'.get? b = some o) → s.heap.get? d = none → (∃ n, h'.get? d = some (seqObj "list" out.toArray n)) → Q (.ref d) { s with heap := h' }) :
    wpAny (model prog w) A (call (.builtin "sorted") [.ref l]) Q E s := by
  refine Calls.call_function_entry kind_sorted plain_sorted entry_sorted (args_sorted1 _) ?_
  unfold Builtin.«sorted»
  refine wpAny_bind (m := checkCount "sorted" 1 1 _) (wpAny_pure ?_)
  refine wpAny_bind (wpAny_collect_seq (T := T) l hT ho hc hd (fun h' keep => ?_) (by simpa using hz))
  rw [List.toList_toArray]
  refine wpAny_bind (wpAny_newList ?_ hz)
  have hoL : (h'.push (seqObj "list" vs.toArray 0)).get? h'.objs.size = some (seqObj "list" vs.toArray 0) := Heap.get?_push_size _ rfl
  have old : ∀ b o, s.heap.get? b = some o → b < h'.objs.size := fun b o q => Heap.lt_size (keep b o q)
  have keep1 : ∀ b o, s.heap.get? b = some o → b ≠ h'.objs.size ∧ (h'.push (seqObj "list" vs.toArray 0)).get? b = some o := fun b o q => ⟨Nat.ne_of_lt (old b o q), Heap.get?_push_of_some _ (keep b o q)⟩
  show wpAny _ _ _ _ _ { s with heap := h'.push (seqObj "list" vs.toArray 0) }
  refine wpAny_bind (wpAny_holding (wpAny_call_entry slot_list_sort ⟨_, hoL, rfl⟩ entry_list_sort (SrtO.list_sort_ord O hoL hz (fun h2 => hS h2 _ _ hoL keep1) fun out hs hb => ⟨_, rfl, ?_⟩) (args_list_sort _)))
  refine wpAny_pure ⟨_, rfl, h _ _ out hs hb (fun b o q => ?_) ?_ ?_⟩
  · rw [sortedHeap_old (Nat.ne_of_lt (old b o q)) (by rw [size_push']; exact Nat.lt_succ_of_lt (old b o q))]
    exact (keep1 b o q).2
  · cases q : s.heap.get? h'.objs.size with
    | none => rfl
    | some o' => exact absurd (old _ _ q) (Nat.lt_irrefl _)
  · exact sortedHeap_at hoL
end
theorem live {P : Program} {w : World} {H : Hp} {h : Heap} {a : Addr} {o : HO} (x : ObjOk P w H h a o) : ∃ u, h.get? a = some u := by
  cases o with
  | lst xs => obtain ⟨z, its, n, r, e⟩ := x; exact ⟨_, e⟩
  | tup xs => obtain ⟨z, its, r, ob, e, c⟩ := x; exact ⟨_, e⟩
  | dK kvs => obtain ⟨z, y, vs, r, ob, es, ep, e, c⟩ := x; exact ⟨_, e⟩
  | dT kvs => obtain ⟨z, y, xs, r, ob, es, ep, e, c⟩ := x; exact ⟨_, e⟩
  | set S n => obtain ⟨ob, es, ep, t, e, c⟩ := x; exact ⟨_, e⟩
  | ins C dx fs => obtain ⟨d, z, ne, e, mA, ⟨od, es, ep, e2, c⟩, r⟩ := x; exact ⟨_, e⟩
  | own y => obtain ⟨ob, e⟩ := x; exact ⟨_, e⟩
  | xd fs => obtain ⟨mA, ⟨od, es, ep, e, c⟩, r⟩ := x; exact ⟨_, e⟩
  | rng lo hi => obtain ⟨t, u, v, e⟩ := x; exact ⟨_, e⟩
  | frz ob u => obtain ⟨e, q⟩ := x; exact ⟨_, e⟩
  | tbl ps => exact ⟨_, x⟩
  | met f y => exact ⟨_, x⟩
  | ext φ => obtain ⟨p, ⟨o, e⟩, st⟩ := x; exact ⟨_, e⟩
theorem none_of {P : Program} {w : World} {H : Hp} {h : Heap} {a : Addr} (x : HOk P w H h) (e : h.get? a = none) : H a = none := by
  cases q : H a with
  | none => rfl
  | some u => obtain ⟨o, z⟩ := live (x a u q); rw [e] at z; cases z
/-- a list or a tuple -/
abbrev SqA (K : Frag) (H : Hp) (a : Addr) (xs : List V) : Prop := SqL K H a xs ∨ SqT K H a xs
section
variable {X : Cx} {pins : List (Addr × Obj)} {σ : L2.St} {H : Hp} {s : Shared}
theorem sqA_of {a : Addr} {xs : List V} (I : Inv X pins σ H s) (h : SqA X.K H a xs) : ∃ (its : List Value) (T : String) (o : Obj) (n : Nat), Vals xs its ∧ (T = "list" ∨ T = "tuple") ∧ s.heap.get? a = some o ∧ o.cls = .type T ∧ o.data = .seq its.toArray n ∧ xs.length ≤ sizeLine := by
  rcases h with h | h
  · obtain ⟨its, rv, ⟨o, n, e, hc, _, hd⟩, hz⟩ := I.list h
    exact ⟨its, _, o, n, rv, .inl rfl, e, hc, hd, hz⟩
  · obtain ⟨its, rv, ⟨o, e, hc, n, hd⟩, hz⟩ := I.tuple h
    exact ⟨its, _, o, n, rv, .inr rfl, e, hc, hd, hz⟩
end
/-- sorted(xs), xs a list or a tuple of ints -/
def rSoI (K : Frag) : List V → Hp → VK → Prop := fun vs H Q => ∃ (a : Addr) (ns : List Int), vs = [V.ref a] ∧ SqA K H a (ns.map V.int) ∧
  ∀ (ns' : List Int) (p : Addr), ns'.Perm ns → ns'.Pairwise (· ≤ ·) → H p = none → Q (.ref p) (upd H p (.lst (ns'.map V.int)))
/-- sorted(xs), xs a list or a tuple of tuples of ints, the first one empty -/
def rSoT (K : Frag) : List V → Hp → VK → Prop := fun vs H Q => ∃ (a : Addr) (xs : List V) (k : V → List Int), vs = [V.ref a] ∧ SqA K H a xs ∧ (∀ x ∈ xs, ∃ t, x = V.ref t ∧ H t = some (.tup ((k x).map V.int))) ∧ (2 ≤ xs.length → ∃ x r, xs = x :: r ∧ k x = []) ∧
  ∀ ys p, ys.Perm xs → ys.Pairwise (fun x y => HT.lexLt (k y) (k x) = false) → H p = none → Q (.ref p) (upd H p (.lst ys))
section
variable {X : Cx}
theorem cr_soI : CallR X (.builtin "sorted") (rSoI X.K) := by
  intro pins s σ H vs us Q I r h
  obtain ⟨a, ns, rfl, hs, q⟩ := h
  obtain ⟨its, T, o, n, rv, hT, ho, hc, hd, hz⟩ := sqA_of I hs
  rw [Vals.ref1 r]
  have hi := rv.ints
  refine sorted_seq hT ho hc hd (by rw [← rv.length]; exact hz) SrtO.swo_int (fun h2 h₁ a' _ _ => SrtO.ints_sortable hi h2) fun h' d out h1 h2 kp hd he => ?_
  obtain ⟨k1, k2, k3⟩ := SrtO.ints_out hi h1 h2
  obtain ⟨ep, he'⟩ := he
  have hlen : ((out.map SrtO.iv).map V.int).length ≤ sizeLine := by
    rw [List.length_map, k2.length_eq]
    rw [List.length_map] at hz
    exact hz
  have hn := none_of I.hok hd
  exact ⟨.ref d, upd H d (.lst ((out.map SrtO.iv).map V.int)), I.laidN (t' := s.toks) kp hd hn ⟨hlen, out, ep, vals_of_ints k1, he'⟩, rfl, q _ _ k2 k3 hn⟩
theorem cr_soT (hu : X.A.units + 65 < cLine) : CallR X (.builtin "sorted") (rSoT X.K) := by
  intro pins s σ H vs us Q I r h
  obtain ⟨a, xs, k, rfl, hs, hx, h1, q⟩ := h
  obtain ⟨its, T, o, n, rv, hT, ho, hc, hd, hz⟩ := sqA_of I hs
  rw [Vals.ref1 r]
  obtain ⟨e1, e2⟩ := refs_back rv fun x m => by
    obtain ⟨t, e, _⟩ := hx x m
    exact ⟨t, e⟩
  have hv : ∀ v ∈ its, IsTp s.heap v (k (backV v)) := fun v hv => by
    obtain ⟨t, rfl⟩ := e2 v hv
    have hm : V.ref t ∈ xs := by rw [e1]; exact List.mem_map.mpr ⟨_, hv, rfl⟩
    obtain ⟨t', e, ht⟩ := hx _ hm
    cases e
    obtain ⟨_, its2, r2, o2, ho2, hc2, n2, hd2⟩ := I.hok _ _ ht
    obtain ⟨c2, dd, da, sl⟩ := o2
    simp only at hc2 hd2
    subst hc2 hd2
    exact ⟨t, dd, _, n2, sl, rfl, ho2, by simpa [backV] using r2.ints⟩
  refine sorted_seq hT ho hc hd (by rw [← rv.length]; exact hz) (NtL.swo_lexL fun u => k (backV u)) (fun h2 h₁ a' ha' kk => ?_) fun h' d out h3 h4 kp hd he => ?_
  · refine tp_sortable (s := { s with heap := h₁ }) (by first | (show X.A.units + 1 + 1 < cLine; omega) | (show X.A.units + 2 < cLine; omega) | (show X.A.units < cLine; omega) | (simp [Around.in1]; omega)) (fun v hm => (hv v hm).keeps fun b o _ e => (kk b o e).2) ?_ fun v hm => ?_
    · obtain ⟨x, r, e, hk⟩ := h1 (by rw [rv.length]; exact h2)
      cases its with
      | nil => cases rv; cases e
      | cons v its' => 
        rw [e1] at e
        cases e
        exact ⟨v, its', rfl, hk⟩
    · obtain ⟨b, dd, items, n3, sl, e, g, _⟩ := hv v hm
      rw [e]
      intro z
      cases z
      exact (kk _ _ g).1 rfl
  · have h5 : ∀ u ∈ out, ∃ a, u = Value.ref a := fun u hu => e2 u (h4.perm.mem_iff.mp hu)
    obtain ⟨n, hn⟩ := he
    have hp : (out.map backV).Perm xs := by rw [e1]; exact h4.perm.map _
    have hno := none_of I.hok hd
    refine ⟨.ref d, upd H d (.lst (out.map backV)), I.laidN (t' := s.toks) kp hd hno ⟨?_, out, n, vals_back h5, hn⟩, rfl, q _ d hp (List.pairwise_map.mpr h3) hno⟩
    rw [hp.length_eq]
    exact hz
end
end TpL
/-! S15: sorted, plain. -/
namespace G
open PySem L2 TpL
theorem lexLt_eq : ∀ xs ys : List Int, HT.lexLt xs ys = lexB xs ys
  | [], [] => by rw [HT.lexLt_nil_nil]; rfl
  | [], _ :: _ => by rw [HT.lexLt_nil_cons]; rfl
  | _ :: _, [] => by rw [HT.lexLt_cons_nil]; rfl
  | x :: xs, y :: ys => by
    rw [HT.lexLt_cons, lexLt_eq xs ys]
    rfl
/-- a list's or a tuple's items -/
def D.items : D → Option (List D)
  | .lst ds => some ds
  | .tup ds => some ds
  | _ => none
def D.isTI : D → Bool
  | .tup ds => allI ds
  | _ => false
def D.isP : D → Bool
  | .tup [.int _, .int _] => true
  | _ => false
def D.sortI' (d : D) : R D := match d.items with
  | some ds => if allI ds = true then .ok (.lst (sortD ds)) else .bad
  | none => .bad
def headE : List D → Bool
  | d :: _ :: _ => d.key' == []
  | _ => true
def D.sortT (d : D) : R D := match d.items with
  | some ds => if (ds.all D.isTI && headE ds) = true then .ok (.lst (sortD ds)) else .bad
  | none => .bad
def D.sortP : D → R D
  | .lst ds => if ds.all D.isP = true then .ok (.lst (sortD ds)) else .bad
  | _ => .bad
def intV : V → Option Int
  | .int i => some i
  | _ => none
def kF (F : Hp) : V → List Int
  | .ref t => match F t with
    | some (.tup vs) => vs.filterMap intV
    | _ => []
  | _ => []
theorem filt_ints : ∀ ns : List Int, (ns.map V.int).filterMap intV = ns
  | [] => rfl
  | n :: ns => by rw [List.map_cons, List.filterMap_cons]; show n :: _ = _; rw [filt_ints ns]
theorem ints_mapD : ∀ ns : List Int, D.ints (ns.map D.int) = some ns
  | [] => rfl
  | n :: ns => by
    show D.ints (D.int n :: ns.map D.int) = _
    unfold D.ints
    rw [ints_mapD ns]
    rfl
section
variable {G : Gc} {W : WX} {F : Hp}
theorem tI_of {d : D} {v : V} (h : d.isTI = true) (r : Rp G F d v) : ∃ t, v = .ref t ∧ F t = some (.tup ((kF F v).map V.int)) ∧ kF F v = d.key' ∧ d = .tup ((kF F v).map D.int) := by
  cases r with
  | @tup a vs ds h1 r1 =>
    obtain ⟨ns, e1, e2⟩ := allI_ints h r1
    subst e1 e2
    have ek : kF F (.ref a) = ns := by
      show (match F a with | some (.tup vs) => vs.filterMap intV | _ => []) = ns
      rw [h1]
      exact filt_ints ns
    rw [ek]
    refine ⟨a, rfl, h1, ?_, rfl⟩
    show ns = (D.ints (ns.map D.int)).getD []
    rw [ints_mapD]; rfl
  | _ => cases h
theorem keys_of : ∀ {ds : List D} {vs : List V}, ds.all D.isTI = true → RpL G F ds vs → vs.map (kF F) = ds.map D.key'
  | [], _, _, .nil => rfl
  | d :: ds, _, h, .cons h1 r => by
    rw [List.all_cons, Bool.and_eq_true] at h
    obtain ⟨t, _, _, e, _⟩ := tI_of h.1 h1
    rw [List.map_cons, List.map_cons, keys_of h.2 r, e]
theorem mem_of : ∀ {ds : List D} {vs : List V} {v : V}, RpL G F ds vs → v ∈ vs → ∃ d, d ∈ ds ∧ Rp G F d v
  | _, _, _, .nil, h => by cases h
  | _ :: _, _, _, .cons h1 r, h => by
    rcases List.mem_cons.mp h with e | h
    · subst e; exact ⟨_, .head _, h1⟩
    · obtain ⟨d, q1, q2⟩ := mem_of r h
      exact ⟨d, .tail _ q1, q2⟩
theorem sortT_out {ds : List D} {xs ys : List V} (h : ds.all D.isTI = true) (r : RpL G F ds xs) (hp : ys.Perm xs) (hs : ys.Pairwise fun x y => lexB (kF F y) (kF F x) = false) : RpL G F (sortD ds) ys := by
  obtain ⟨es, q1, q2⟩ := RpL.perm hp r
  have he : es.all D.isTI = true := by
    rw [List.all_eq_true] at h ⊢
    exact fun d hd => h d (q1.mem_iff.mp hd)
  have k := keys_of he q2
  have s1 : (ys.map (kF F)).Pairwise fun a b => lexB b a = false := List.pairwise_map.mpr hs
  rw [k] at s1
  have s2 := List.pairwise_map.mp s1
  have e := sortD_eq q1 (s2.imp fun {a b} z => by unfold leD; rw [z]; rfl) fun a ha b hb hk => by
    rw [List.all_eq_true] at h
    have ia := h a ha
    have ib := h b hb
    cases a with
    | tup as =>
      cases b with
      | tup bs =>
        have key : ∀ cs : List D, allI cs = true → ∃ ns : List Int, cs = ns.map D.int := fun cs => by
          induction cs with
          | nil => exact fun _ => ⟨[], rfl⟩
          | cons c cs ih =>
            intro z
            unfold allI at z
            rw [List.all_cons, Bool.and_eq_true] at z
            obtain ⟨ns, e⟩ := ih z.2
            cases c with
            | int i => exact ⟨i :: ns, by rw [e]; rfl⟩
            | _ => cases z.1
        obtain ⟨ns, e1⟩ := key as ia
        obtain ⟨ms, e2⟩ := key bs ib
        subst e1 e2
        have z : (D.ints (ns.map D.int)).getD [] = (D.ints (ms.map D.int)).getD [] := hk
        rw [ints_mapD, ints_mapD] at z
        rw [show ns = ms from z]
      | _ => cases ib
    | _ => cases ia
  rw [← e]
  exact q2
theorem items_of {B F0 F H : Hp} {o : List Nat} {σ : L2.St} {ρ : Env} {d : D} {v : V} {ds : List D} (rel : Rel G B F0 F H o σ ρ) (rv : Rp G F d v) (h : d.items = some ds) : ∃ a vs, v = .ref a ∧ SqA G.K H a vs ∧ RpL G F ds vs := by
  cases rv with
  | @lst a vs ds h1 r1 => cases h; exact ⟨a, vs, rfl, .inl (.inl (.inl (rel.core.fh _ _ h1))), r1⟩
  | @tup a vs ds h1 r1 => cases h; exact ⟨a, vs, rfl, .inr (.inl (.inl (rel.core.fh _ _ h1))), r1⟩
  | _ => cases h
theorem pu_sortI' : PuCO G W (rSoI G.K) (d1 D.sortI') := by
  refine pu_c1O (fun {B F0 F H o σ ρ Q v d} rel rv h => ?_)
  unfold D.sortI' at h
  cases hd : d.items with
  | none => rw [hd] at h; exact h.elim
  | some ds =>
    rw [hd] at h
    obtain ⟨c, h⟩ := Res.ifP h
    obtain ⟨a, vs, rfl, hs, r1⟩ := items_of rel rv hd
    obtain ⟨ns, e1, e2⟩ := allI_ints c r1
    subst e1 e2
    refine ⟨a, ns, rfl, hs, fun ns' l hp hso hl => ?_⟩
    rw [← sortI_ints hp hso] at h
    exact h.newO rel hl (.lst upd_same (ints_rp ns'))
theorem pu_sortT : PuCO G W (rSoT G.K) (d1 D.sortT) := by
  refine pu_c1O (fun {B F0 F H o σ ρ Q v d} rel rv h => ?_)
  unfold D.sortT at h
  cases hd : d.items with
  | none => rw [hd] at h; exact h.elim
  | some ds =>
    rw [hd] at h
    obtain ⟨c, h⟩ := Res.ifP h
    obtain ⟨ca, ch⟩ := (Bool.and_eq_true _ _).mp c
    obtain ⟨a, vs, rfl, hs, r1⟩ := items_of rel rv hd
    refine ⟨a, vs, kF F, rfl, hs, fun x hx => ?_, fun h2 => ?_, fun ys l hp hso hl => ?_⟩
    · obtain ⟨d, m, rd⟩ := mem_of r1 hx
      obtain ⟨t, e, f, _, _⟩ := tI_of (List.all_eq_true.mp ca d m) rd
      exact ⟨t, e, rel.core.fh _ _ f⟩
    · cases r1 with
      | nil => cases h2
      | @cons d v ds vs q1 q2 =>
        refine ⟨v, vs, rfl, ?_⟩
        obtain ⟨t, e, f, ek, _⟩ := tI_of (List.all_eq_true.mp ca d (.head _)) q1
        rw [ek]
        cases q2 with
        | nil => exact absurd h2 (by simp)
        | cons _ _ => exact eq_of_beq ch
    · exact h.newO rel hl (.lst upd_same (sortT_out ca r1 hp (hso.imp fun {x y} z => by rw [← lexLt_eq]; exact z)))
theorem pu_sortP : PuCO G W (rSortedPO G.K) (d1 D.sortP) := by
  refine pu_c1O (fun {B F0 F H o σ ρ Q v d} rel rv h => ?_)
  cases rv with
  | @lst a vs ds h1 r1 =>
    obtain ⟨c, h⟩ := Res.ifP h
    have ca : ds.all D.isTI = true := by
      rw [List.all_eq_true] at c ⊢
      intro d hd
      have z := c d hd
      unfold D.isP at z
      split at z
      · rfl
      · cases z
    refine ⟨a, vs, fun v => ((kF F v).getD 0 0, (kF F v).getD 1 0), rfl, .inl (.inl (rel.core.fh _ _ h1)), fun x hx => ?_, fun ys l hs hb hl => ?_⟩
    · obtain ⟨d, m, rd⟩ := mem_of r1 hx
      have z := List.all_eq_true.mp c d m
      obtain ⟨t, e, f, _, ed⟩ := tI_of (List.all_eq_true.mp ca d m) rd
      refine ⟨t, e, ?_⟩
      rw [ed] at z
      have f' := rel.core.fh _ _ f
      show H t = some (.tup [.int ((kF F x).getD 0 0), .int ((kF F x).getD 1 0)])
      generalize kF F x = ks at z f'
      match ks, z, f' with
      | [i, j], _, f' => exact f'
    · refine h.newO rel hl (.lst upd_same (sortT_out ca r1 hb.perm ?_))
      have two : ∀ y ∈ ys, ∃ i j, kF F y = [i, j] := fun y hy => by
        obtain ⟨d, m, rd⟩ := mem_of r1 (hb.perm.mem_iff.mp hy)
        have z := List.all_eq_true.mp c d m
        obtain ⟨t, e, f, _, ed⟩ := tI_of (List.all_eq_true.mp ca d m) rd
        rw [ed] at z
        generalize hk : kF F y = ks at z
        match ks, z with
        | [i, j], _ => exact ⟨i, j, rfl⟩
      refine List.Pairwise.imp_of_mem (fun {x y} hx hy z => ?_) hs
      obtain ⟨i, j, e1⟩ := two x hx
      obtain ⟨k, l, e2⟩ := two y hy
      have z' : SrtO.lexB ((kF F y).getD 0 0, (kF F y).getD 1 0) ((kF F x).getD 0 0, (kF F x).getD 1 0) = false := z
      rw [e1, e2] at z' ⊢
      have q := SrtO.lexB_no.mp z'
      simp only [List.getD_cons_zero, List.getD_cons_succ] at q
      unfold lexB
      by_cases h1 : k = i
      · rw [if_pos h1]
        unfold lexB
        by_cases h2 : l = j
        · rw [if_pos h2]; rfl
        · rw [if_neg h2]
          exact decide_eq_false (by omega)
      · rw [if_neg h1]
        exact decide_eq_false (by omega)
  | _ => exact h.elim
end
end G
/-! S16: range as a value, [::-1], list.remove, a comprehension over what is lent. -/
namespace G
open PySem L2
def rgC (a b : Int) : Bool := rangeOk a b && decide ((b - a).toNat ≤ 2 ^ 24)
theorem rgC_of {a b : Int} (h : rgC a b = true) : RgOk a b := by
  unfold rgC at h
  rw [Bool.and_eq_true] at h
  obtain ⟨h1, h2, h3, h4⟩ := rangeOk_of h.1
  exact ⟨h1, h2, h3, h4, of_decide_eq_true h.2⟩
theorem rg_rp {G : Gc} {F : Hp} (a b : Int) : RpL G F (rangeD a b) (rgV a b) := by
  unfold rangeD rgV
  generalize (b - a).toNat = n
  generalize List.range n = l
  induction l with
  | nil => exact .nil
  | cons x l ih => exact .cons (.int _) ih
def dRgT (a b : Int) : R D := if rgC a b = true then .ok (.tup (rangeD a b)) else .bad
def dRgL (a b : Int) : R D := if rgC a b = true then .ok (.lst (rangeD a b)) else .bad
def mRg1 (f : Int → Int → R D) (m : Env → R D) : Env → R D := fun ρ => (m ρ).bind fun x => match x with
  | .int n => f 0 n
  | _ => .bad
def mRg2 (f : Int → Int → R D) (m n : Env → R D) : Env → R D := fun ρ => (m ρ).bind fun x => (n ρ).bind fun y => match x, y with
  | .int i, .int j => f i j
  | _, _ => .bad
section
variable {G : Gc} {W : WX} {o o1 o2 oL : List Nat} {ta tb : TE} {ma mb : Env → R D}
theorem PuE.tupRg1 (ha : PuE G W o ta o1 ma) : PuE G W o (tTupRg (tRg1 ta)) o1 (mRg1 dRgT ma) := by
  intro B F0 F H σ ρ Q rel h
  refine ha rel ((Res.bnd h).imp fun d F1 H1 e1 r1 q v rv => ?_)
  cases rv with
  | int n =>
    obtain ⟨c, q⟩ := Res.ifP q
    exact ⟨n, rfl, rgC_of c, fun p hp => q.new r1 hp fun F' le e => .tup e (rg_rp 0 n)⟩
  | _ => exact q.elim
theorem PuE.tupRg2 (ha : PuE G W o ta o1 ma) (hb : PuE G W o1 tb o2 mb) : PuE G W o (tTupRg (tRg2 ta tb)) o2 (mRg2 dRgT ma mb) := by
  intro B F0 F H σ ρ Q rel h
  refine ha rel ((Res.bnd h).imp fun d F1 H1 e1 r1 q v rv => ?_)
  refine hb r1 ((Res.bnd q).imp fun d2 F2 H2 e2 r2 q w rw => ?_)
  cases rv with
  | int i =>
    cases rw with
    | int j =>
      obtain ⟨c, q⟩ := Res.ifP q
      exact ⟨i, j, rfl, rfl, rgC_of c, fun p hp => q.new r2 hp fun F' le e => .tup e (rg_rp i j)⟩
    | _ => exact q.elim
  | _ => cases rw <;> exact q.elim
theorem PuO.lstRg1 (ha : PuE G W o ta o1 ma) : PuO G W o (tLstRg (tRg1 ta)) o1 (mRg1 dRgL ma) := by
  intro B F0 F H σ ρ Q rel h
  refine ha rel ((Res.bnd h).imp fun d F1 H1 e1 r1 q v rv => ?_)
  cases rv with
  | int n =>
    obtain ⟨c, q⟩ := Res.ifP q
    exact ⟨n, rfl, rgC_of c, fun p hp => q.newO r1 hp (.lst upd_same (rg_rp 0 n))⟩
  | _ => exact q.elim
theorem PuO.lstRg2 (ha : PuE G W o ta o1 ma) (hb : PuE G W o1 tb o2 mb) : PuO G W o (tLstRg (tRg2 ta tb)) o2 (mRg2 dRgL ma mb) := by
  intro B F0 F H σ ρ Q rel h
  refine ha rel ((Res.bnd h).imp fun d F1 H1 e1 r1 q v rv => ?_)
  refine hb r1 ((Res.bnd q).imp fun d2 F2 H2 e2 r2 q w rw => ?_)
  cases rv with
  | int i =>
    cases rw with
    | int j =>
      obtain ⟨c, q⟩ := Res.ifP q
      exact ⟨i, j, rfl, rfl, rgC_of c, fun p hp => q.newO r2 hp (.lst upd_same (rg_rp i j))⟩
    | _ => exact q.elim
  | _ => cases rw <;> exact q.elim
theorem RpL.rev {F : Hp} {ds : List D} {vs : List V} (h : RpL G F ds vs) : RpL G F ds.reverse vs.reverse := by
  have go : ∀ {ds : List D} {vs : List V}, RpL G F ds vs → RpL G F ds.reverse vs.reverse := fun {ds} => by
    induction ds with
    | nil => intro vs r; cases r; exact .nil
    | cons d ds ih =>
      intro vs r
      cases r with
      | cons h1 r1 => rw [List.reverse_cons, List.reverse_cons]; exact (ih r1).append (.cons h1 .nil)
  exact go h
def D.revL : D → R D
  | .lst ds => .ok (.lst ds.reverse)
  | .scr ds => .ok (.lst ds.reverse)
  | _ => .bad
theorem PuO.revL (ha : PuE G W o ta o1 ma) : PuO G W o (tRevL G.K ta) o1 (m1 D.revL ma) := by
  intro B F0 F H σ ρ Q rel h
  refine ha rel ((Res.bnd h).imp fun d F1 H1 e1 r1 q v rv => ?_)
  cases rv with
  | @lst a vs ds h1 r2 => exact ⟨a, vs, rfl, .inl (.inl (r1.core.fh _ _ h1)), fun p hp => q.newO r1 hp (.lst upd_same (RpL.rev r2))⟩
  | @scr a vs ds h1 r2 => exact ⟨a, vs, rfl, r1.sqL h1, fun p hp => q.newO r1 hp (.lst upd_same (RpL.rev r2))⟩
  | _ => exact q.elim
end
section
variable {Γ : Gc} {X : Cx} [hG : HG Γ X] {W : WX} {o o1 o2 oL : List Nat} {a b c e elt tg iter : Expr} {ifs : List Expr} {x : Str} {p p2 pos py spos : Pos} {ta tb te : TE} {ma mb me : Env → R D} {wi : TI} {g : TG} {mi : Env → R (List D)} {mg : D → Env → R Env} {tt : TT} {mt : Env → R Bool}
theorem me_tupRg1 (hr : X.mg "range" = none) (ht : X.mg "tuple" = none) (hc : X.calm = true) (ha : ME Γ X W o a o1 ta ma) (hg : Gl X "range" := by rfl) (hg2 : Gl X "tuple" := by rfl) (na : starEach [a] X.env = (false, eval a X.env) :: starEach [] X.env := by rfl) (nb : starEach [.Call (.Name "range" p) [a] [] pos] X.env = (false, eval (.Call (.Name "range" p) [a] [] pos) X.env) :: starEach [] X.env := by rfl) :
    ME Γ X W o (.Call (.Name "tuple" p2) [.Call (.Name "range" p) [a] [] pos] [] py) o1 (tTupRg (tRg1 ta)) (mRg1 dRgT ma) := by
  obtain ⟨eG⟩ := hG
  subst eG
  exact ⟨pe_tupRg hc hg2 ht (prg_1 hg hr ha.pe na) nb, PuE.tupRg1 ha.pu⟩
theorem mo_lstRg1 (hr : X.mg "range" = none) (ht : X.mg "list" = none) (hc : X.calm = true) (ha : ME Γ X W o a o1 ta ma) (hg : Gl X "range" := by rfl) (hg2 : Gl X "list" := by rfl) (na : starEach [a] X.env = (false, eval a X.env) :: starEach [] X.env := by rfl) (nb : starEach [.Call (.Name "range" p) [a] [] pos] X.env = (false, eval (.Call (.Name "range" p) [a] [] pos) X.env) :: starEach [] X.env := by rfl) :
    MO Γ X W o (.Call (.Name "list" p2) [.Call (.Name "range" p) [a] [] pos] [] py) o1 (tLstRg (tRg1 ta)) (mRg1 dRgL ma) := by
  obtain ⟨eG⟩ := hG
  subst eG
  exact ⟨pe_listRg hc hg2 ht (prg_1 hg hr ha.pe na) nb, PuO.lstRg1 ha.pu⟩
theorem me_tupRg2 (hr : X.mg "range" = none) (ht : X.mg "tuple" = none) (hc : X.calm = true) (ha : ME Γ X W o a o1 ta ma) (hb : ME Γ X W o1 b o2 tb mb) (hg : Gl X "range" := by rfl) (hg2 : Gl X "tuple" := by rfl) (na : starEach [a, b] X.env = (false, eval a X.env) :: starEach [b] X.env := by rfl) (nc : starEach [b] X.env = (false, eval b X.env) :: starEach [] X.env := by rfl) (nd : (backTo pos (starEach [b] X.env)).any (·.1) = false := by rfl) (nb : starEach [.Call (.Name "range" p) [a, b] [] pos] X.env = (false, eval (.Call (.Name "range" p) [a, b] [] pos) X.env) :: starEach [] X.env := by rfl) :
    ME Γ X W o (.Call (.Name "tuple" p2) [.Call (.Name "range" p) [a, b] [] pos] [] py) o2 (tTupRg (tRg2 ta tb)) (mRg2 dRgT ma mb) := by
  obtain ⟨eG⟩ := hG
  subst eG
  exact ⟨pe_tupRg hc hg2 ht (prg_2 hg hr ha.pe hb.pe na nc nd) nb, PuE.tupRg2 ha.pu hb.pu⟩
theorem mo_lstRg2 (hr : X.mg "range" = none) (ht : X.mg "list" = none) (hc : X.calm = true) (ha : ME Γ X W o a o1 ta ma) (hb : ME Γ X W o1 b o2 tb mb) (hg : Gl X "range" := by rfl) (hg2 : Gl X "list" := by rfl) (na : starEach [a, b] X.env = (false, eval a X.env) :: starEach [b] X.env := by rfl) (nc : starEach [b] X.env = (false, eval b X.env) :: starEach [] X.env := by rfl) (nd : (backTo pos (starEach [b] X.env)).any (·.1) = false := by rfl) (nb : starEach [.Call (.Name "range" p) [a, b] [] pos] X.env = (false, eval (.Call (.Name "range" p) [a, b] [] pos) X.env) :: starEach [] X.env := by rfl) :
    MO Γ X W o (.Call (.Name "list" p2) [.Call (.Name "range" p) [a, b] [] pos] [] py) o2 (tLstRg (tRg2 ta tb)) (mRg2 dRgL ma mb) := by
  obtain ⟨eG⟩ := hG
  subst eG
  exact ⟨pe_listRg hc hg2 ht (prg_2 hg hr ha.pe hb.pe na nc nd) nb, PuO.lstRg2 ha.pu hb.pu⟩
theorem mo_revL {k : Nat} {p1 p3 : Pos} (ha : ME Γ X W o e o1 ta ma) : MO Γ X W o (.Subscript e (.Slice none none (some (.UnaryOp .USub (.Constant (.int 1) k p1) p2)) p3) pos) o1 (tRevL Γ.K ta) (m1 D.revL ma) := by
  obtain ⟨eG⟩ := hG
  subst eG
  exact ⟨pe_revL ha.pe, PuO.revL ha.pu⟩
theorem m_remove : Mtd Γ X "list" "remove" "list.remove" rRemI dRemove := ⟨PySem.F.plainAttrs_list, PySem.F.slot_list_remove, PySem.F.type_list_remove, mt_remove, pm_remove⟩
/-- .. where an own slot is lent to the comprehension -/
theorem ms_setLcB (i : Nat) {scope : Scope} (s0 : Shared) (H0 : Hp) (j : Nat) (own : List (Str × Nat)) (hc : X.calm = true) (hN : X.N.Nodup) (hi : MI Γ X W (o.filter (· != j)) tg iter (o.filter (· != j)) wi mi) (ok : blkC X.N X.env.scope scope own = true)
    (hg : ∀ (s : Shared) (H : Hp) (C : Addr) (cl : List (Str × Addr)) (fp : List Addr), MG Γ (B0 X scope s H C cl fp) (o.filter (· != j)) tg (o.filter (· != j)) g mg)
    (ht : ∀ (s : Shared) (H : Hp) (C : Addr) (cl : List (Str × Addr)) (fp : List Addr), MTs Γ (B0 X scope s H C cl fp) WN (o.filter (· != j)) ifs tt mt)
    (he : ∀ (s : Shared) (H : Hp) (C : Addr) (cl : List (Str × Addr)) (fp : List Addr), ME Γ (B0 X scope s H C cl fp) WN (o.filter (· != j)) elt (o.filter (· != j)) te me)
    (hw : GW g mg (own.map (·.2))) (hj : j ∈ o := by decide) (hv : ∀ i, i ∈ own.map (·.2) → i ∉ (o.filter (· != j)) := by decide) (hs : ∀ x, foldedSetIterable iter X.env x = pure x := by intro _; rfl) 
    (hy : X.N[i]? = some x := by rfl) (hyl : X.env.scope.names.lookup x = some .local := by rfl) (hsw : swapsWith (.ListComp elt [⟨tg, iter, ifs, 0⟩] scope pos) (some (.Name x py)) spos.line X.env = pure true := by rfl) :
    MS Γ X W oL o (.Assign [.Name x py] (.ListComp elt [⟨tg, iter, ifs, 0⟩] scope pos) spos) (i :: o.filter (· != i)) (tAsg (tLc wi g tt te (own.map (·.2))) (gName i)) (mSet i (mScalL (mLc (own.map (·.2)) mi mg mt me))) := by
  obtain ⟨eG⟩ := hG
  subst eG
  exact ⟨ps_setLc hc hN hy hyl hsw hi.pe (blkOk_by ok) (fun s H C cl fp => (hg s H C cl fp).pe) (fun s H C cl fp => (ht s H C cl fp).pe) (fun s H C cl fp => (he s H C cl fp).pe) hs,
    PuS.setO (PuO.borrow j hj (PuO.lc hi.pu hv hw (hg s0 H0 0 [] []).pu (ht s0 H0 0 [] []).pu (he s0 H0 0 [] []).pu))⟩
end
end G
/-! S17: the end of a law. -/
namespace G
open PySem L2
theorem law_end {K : PySem.W.Frag} {mg : Str → Option Value} {H : Hp} {a : Addr} {ns : List Int} {fn : List D → R D} (hS : SqL K H a (ns.map V.int)) (h : fn [.scr (ns.map D.int)] = .ok (.bl true)) : spM ⟨K, mg⟩ 1 fn [.ref a] H (fun v _ => v = .bl true) fun _ _ _ => False :=
  ⟨H, [.scr (ns.map D.int)], fun _ _ q => q, .cons (.scr hS (ints_rp ns)) .nil, rfl, by
    rw [h]
    intro F' H' v _ _ _ _ rv
    cases rv
    rfl⟩
end G
/-! S18: plain lemmas: ==, in, comprehensions, loops. -/
namespace G
open PySem L2
/-- ints, None, tuples and lists of such, nested at most so deep -/
def okD : Nat → D → Bool
  | _, .non => true
  | _, .int _ => true
  | _, .str x => PyData.strOk x
  | n + 1, .tup ds => ds.all (okD n)
  | n + 1, .lst ds => ds.all (okD n)
  | _, _ => false
theorem okD_int {n : Nat} {i : Int} : okD n (.int i) = true := by cases n <;> rfl
theorem okD_non {n : Nat} : okD n .non = true := by cases n <;> rfl
theorem okD_str {n : Nat} {x : Str} : okD n (.str x) = PyData.strOk x := by cases n <;> rfl
theorem okD_tup {n : Nat} {ds : List D} : okD (n + 1) (.tup ds) = ds.all (okD n) := rfl
theorem okD_lst {n : Nat} {ds : List D} : okD (n + 1) (.lst ds) = ds.all (okD n) := rfl
theorem okD_up : ∀ {n : Nat} {a : D}, okD n a = true → okD (n + 1) a = true
  | _, .non, _ => okD_non
  | _, .int _, _ => okD_int
  | _, .str _, h => by rw [okD_str] at h ⊢; exact h
  | n + 1, .tup ds, h => by
    rw [okD_tup, List.all_eq_true] at h ⊢
    exact fun d hd => okD_up (h d hd)
  | n + 1, .lst ds, h => by
    rw [okD_lst, List.all_eq_true] at h ⊢
    exact fun d hd => okD_up (h d hd)
  | 0, .tup _, h => by cases h
  | 0, .lst _, h => by cases h
  | 0, .bl _, h => by cases h
  | 0, .dic _ _ _, h => by cases h
  | 0, .iset _, h => by cases h
  | 0, .fn _, h => by cases h
  | 0, .scr _, h => by cases h
  | 0, .ktup _, h => by cases h
  | 0, .ty _, h => by cases h
  | _ + 1, .bl _, h => by cases h
  | _ + 1, .dic _ _ _, h => by cases h
  | _ + 1, .iset _, h => by cases h
  | _ + 1, .fn _, h => by cases h
  | _ + 1, .scr _, h => by cases h
  | _ + 1, .ktup _, h => by cases h
  | _ + 1, .ty _, h => by cases h
theorem okD_ups {n : Nat} {ds : List D} (h : ds.all (okD n) = true) : ds.all (okD (n + 1)) = true := by
  rw [List.all_eq_true] at h ⊢
  exact fun d hd => okD_up (h d hd)
/-- what it is as Python's data -/
structure PyOk (n : Nat) (a : D) (x : PyData) : Prop where
  py : a.py = some x
  lay : x.canLay0 = true
  dp : x.depth ≤ n
theorem pyL_ok {n : Nat} (ih : ∀ a, okD n a = true → ∃ x, PyOk n a x) : ∀ ds : List D, ds.all (okD n) = true → ∃ xs, D.pyL ds = some xs ∧ PyData.canLayAll0 xs = true ∧ PyData.depthAll xs ≤ n
  | [], _ => ⟨[], by simp [D.pyL], by simp [PyData.canLayAll0], by simp [PyData.depthAll]⟩
  | d :: ds, h => by
    rw [List.all_cons, Bool.and_eq_true] at h
    obtain ⟨x, h1, h2, h3⟩ := ih d h.1
    obtain ⟨xs, h4, h5, h6⟩ := pyL_ok ih ds h.2
    refine ⟨x :: xs, by simp [D.pyL, h1, h4], by simp [PyData.canLayAll0, h2, h5], by simp [PyData.depthAll]; omega⟩
theorem okD_py : ∀ (n : Nat) (a : D), okD n a = true → ∃ x, PyOk n a x
  | n, .non, _ => ⟨.none, by simp [D.py], by simp [PyData.canLay0], by simp [PyData.depth]⟩
  | n, .int i, _ => ⟨.int i, by simp [D.py], by simp [PyData.canLay0], by simp [PyData.depth]⟩
  | n, .str x, h => ⟨.str x, by simp [D.py], by rw [okD_str] at h; simp [PyData.canLay0, h], by simp [PyData.depth]⟩
  | n + 1, .tup ds, h => by
    obtain ⟨xs, h1, h2, h3⟩ := pyL_ok (okD_py n) ds h
    exact ⟨.tuple xs, by simp [D.py, h1], by simp [PyData.canLay0, h2], by simp [PyData.depth]; omega⟩
  | n + 1, .lst ds, h => by
    obtain ⟨xs, h1, h2, h3⟩ := pyL_ok (okD_py n) ds h
    exact ⟨.list xs, by simp [D.py, h1], by simp [PyData.canLay0, h2], by simp [PyData.depth]; omega⟩
  | 0, .tup _, h => by cases h
  | 0, .lst _, h => by cases h
  | 0, .bl _, h => by cases h
  | 0, .dic _ _ _, h => by cases h
  | 0, .iset _, h => by cases h
  | 0, .fn _, h => by cases h
  | 0, .scr _, h => by cases h
  | 0, .ktup _, h => by cases h
  | 0, .ty _, h => by cases h
  | _ + 1, .bl _, h => by cases h
  | _ + 1, .dic _ _ _, h => by cases h
  | _ + 1, .iset _, h => by cases h
  | _ + 1, .fn _, h => by cases h
  | _ + 1, .scr _, h => by cases h
  | _ + 1, .ktup _, h => by cases h
  | _ + 1, .ty _, h => by cases h
theorem pyL_inv {ds : List D} {xs : List PyData} (h : D.pyL ds = some xs) : (ds = [] ∧ xs = []) ∨ ∃ d es x ys, ds = d :: es ∧ xs = x :: ys ∧ d.py = some x ∧ D.pyL es = some ys := by
  cases ds with
  | nil => left; simp [D.pyL] at h; exact ⟨rfl, h⟩
  | cons d es =>
    right
    unfold D.pyL at h
    cases h1 : d.py with
    | none => rw [h1] at h; simp at h
    | some x =>
      cases h2 : D.pyL es with
      | none => rw [h1, h2] at h; simp at h
      | some ys => rw [h1, h2] at h; cases h; exact ⟨d, es, x, ys, rfl, rfl, h1, h2⟩
theorem eqvL {n : Nat} (ih : ∀ a b x y, okD n a = true → okD n b = true → a.py = some x → b.py = some y → (PyData.eqv x y = true ↔ a = b)) :
    ∀ (as bs : List D) (xs ys : List PyData), as.all (okD n) = true → bs.all (okD n) = true → D.pyL as = some xs → D.pyL bs = some ys → (PyData.eqvAll xs ys = true ↔ as = bs)
  | as, bs, xs, ys, ha, hb, h1, h2 => by
    rcases pyL_inv h1 with ⟨e1, e2⟩ | ⟨a, as', x, xs', e1, e2, p1, p2⟩
    · rcases pyL_inv h2 with ⟨e3, e4⟩ | ⟨b, bs', y, ys', e3, e4, p3, p4⟩
      · subst e1 e2 e3 e4; simp [PyData.eqvAll]
      · subst e1 e2 e3 e4; simp [PyData.eqvAll]
    · rcases pyL_inv h2 with ⟨e3, e4⟩ | ⟨b, bs', y, ys', e3, e4, p3, p4⟩
      · subst e1 e2 e3 e4; simp [PyData.eqvAll]
      · subst e1 e2 e3 e4
        rw [List.all_cons, Bool.and_eq_true] at ha hb
        have z := ih a b x y ha.1 hb.1 p1 p3
        have z2 := eqvL ih as' bs' xs' ys' ha.2 hb.2 p2 p4
        rw [PyData.eqvAll, Bool.and_eq_true, z, z2]
        simp
termination_by as => as.length
theorem okD_eqv : ∀ (n : Nat) (a b : D) (x y : PyData), okD n a = true → okD n b = true → a.py = some x → b.py = some y → (PyData.eqv x y = true ↔ a = b) := by
  intro n
  induction n with
  | zero =>
    intro a b x y ha hb h1 h2
    cases a <;> first | (cases ha; done) | skip
    all_goals (cases b <;> first | (cases hb; done) | skip)
    all_goals (simp [D.py] at h1 h2; subst h1 h2; simp [PyData.eqv])
  | succ n ih =>
    intro a b x y ha hb h1 h2
    cases a <;> first | (cases ha; done) | skip
    all_goals (cases b <;> first | (cases hb; done) | skip)
    all_goals simp only [D.py, Option.map_eq_some_iff, Option.some.injEq] at h1 h2
    all_goals first
      | (obtain ⟨xs, p1, rfl⟩ := h1; obtain ⟨ys, p2, rfl⟩ := h2; first | (have z := eqvL ih _ _ xs ys ha hb p1 p2; simp only [PyData.eqv, z, D.tup.injEq, D.lst.injEq]; done) | (simp [PyData.eqv]; done))
      | (obtain ⟨xs, p1, rfl⟩ := h1; subst h2; simp [PyData.eqv]; done)
      | (obtain ⟨ys, p2, rfl⟩ := h2; subst h1; simp [PyData.eqv]; done)
      | (subst h1 h2; simp [PyData.eqv]; done)
/-- the same datum -/
noncomputable def dq (a b : D) : Bool := @decide (a = b) (Classical.propDecidable _)
theorem dq_iff {a b : D} : dq a b = true ↔ a = b := by unfold dq; exact @decide_eq_true_iff _ (Classical.propDecidable _)
noncomputable def dIn (a : D) (ds : List D) : Bool := @decide (a ∈ ds) (Classical.propDecidable _)
theorem dIn_iff {a : D} {ds : List D} : dIn a ds = true ↔ a ∈ ds := by unfold dIn; exact @decide_eq_true_iff _ (Classical.propDecidable _)
theorem shaped_of {n : Nat} {a : D} {x : PyData} (h : PyOk n a x) (hn : n ≤ 64) : SeqAt.shaped x = true := by
  unfold SeqAt.shaped
  rw [h.lay, decide_eq_true (Nat.le_trans h.dp hn)]
  rfl
theorem bool_ext {a b : Bool} (h : a = true ↔ b = true) : a = b := by cases a <;> cases b <;> simp_all
theorem eq2_ok {n : Nat} {a b : D} {f : Bool → Bool} (hn : n ≤ 64) (ha : okD n a = true) (hb : okD n b = true) : D.eq2 a b f = .ok (.bl (f (dq a b))) := by
  obtain ⟨x, hx⟩ := okD_py n a ha
  obtain ⟨y, hy⟩ := okD_py n b hb
  unfold D.eq2
  rw [hx.py, hy.py]
  dsimp only
  rw [if_pos ⟨shaped_of hx hn, shaped_of hy hn⟩]
  have z : PyData.eqv x y = dq a b := bool_ext (by rw [okD_eqv n a b x y ha hb hx.py hy.py, dq_iff])
  rw [z]
theorem eq_ok {n : Nat} {a b : D} (hn : n ≤ 64) (ha : okD n a = true) (hb : okD n b = true) : D.eq a b = .ok (.bl (dq a b)) := eq2_ok hn ha hb
theorem ne_ok {n : Nat} {a b : D} (hn : n ≤ 64) (ha : okD n a = true) (hb : okD n b = true) : D.ne a b = .ok (.bl (!dq a b)) := eq2_ok hn ha hb
theorem in2_ok {n : Nat} {a b : D} {ds : List D} {f : Bool → Bool} (hb : b = .lst ds ∨ b = .tup ds) (hn : n < 64) (ha : okD n a = true) (hd : ds.all (okD n) = true) : D.in2 a b f = .ok (.bl (f (dIn a ds))) := by
  obtain ⟨x, hx⟩ := okD_py n a ha
  obtain ⟨ys, h1, h2, h3⟩ := pyL_ok (okD_py n) ds hd
  have any : (ys.any fun z => PyData.eqv z x) = dIn a ds := by
    have go : ∀ (ds : List D) (ys : List PyData), ds.all (okD n) = true → D.pyL ds = some ys → ((ys.any fun z => PyData.eqv z x) = true ↔ a ∈ ds) := by
      intro ds
      induction ds with
      | nil => intro ys _ h; simp [D.pyL] at h; subst h; simp
      | cons d ds ih =>
        intro ys hd h
        rcases pyL_inv h with ⟨e, _⟩ | ⟨d', es, y, ys', e1, e2, p1, p2⟩
        · cases e
        · cases e1
          subst e2
          rw [List.all_cons, Bool.and_eq_true] at hd
          rw [List.any_cons, Bool.or_eq_true, ih ys' hd.2 p2, okD_eqv n d a y x hd.1 ha p1 hx.py, List.mem_cons]
          constructor
          · rintro (h | h)
            · exact .inl h.symm
            · exact .inr h
          · rintro (h | h)
            · exact .inl h.symm
            · exact .inr h
    exact bool_ext ((go ds ys hd h1).trans dIn_iff.symm)
  have sh : SeqAt.shaped (.list ys) = true ∧ SeqAt.shaped (.tuple ys) = true := by
    refine ⟨?_, ?_⟩ <;> (unfold SeqAt.shaped; rw [Bool.and_eq_true]; refine ⟨by simp [PyData.canLay0, h2], decide_eq_true ?_⟩; show PyData.depthAll ys + 1 ≤ 64; omega)
  unfold D.in2
  rcases hb with rfl | rfl
  · dsimp only
    rw [hx.py, h1]
    dsimp only
    rw [if_pos ⟨shaped_of hx (by omega), sh.1⟩, any]
  · dsimp only
    rw [hx.py, h1]
    dsimp only
    rw [if_pos ⟨shaped_of hx (by omega), sh.2⟩, any]
theorem in_lst {n : Nat} {a : D} {ds : List D} (hn : n < 64) (ha : okD n a = true) (hd : ds.all (okD n) = true) : D.isIn a (.lst ds) = .ok (.bl (dIn a ds)) := in2_ok (.inl rfl) hn ha hd
theorem in_tup {n : Nat} {a : D} {ds : List D} (hn : n < 64) (ha : okD n a = true) (hd : ds.all (okD n) = true) : D.isIn a (.tup ds) = .ok (.bl (dIn a ds)) := in2_ok (.inr rfl) hn ha hd
theorem notIn_lst {n : Nat} {a : D} {ds : List D} (hn : n < 64) (ha : okD n a = true) (hd : ds.all (okD n) = true) : D.notIn a (.lst ds) = .ok (.bl (!dIn a ds)) := in2_ok (.inl rfl) hn ha hd
theorem notIn_tup {n : Nat} {a : D} {ds : List D} (hn : n < 64) (ha : okD n a = true) (hd : ds.all (okD n) = true) : D.notIn a (.tup ds) = .ok (.bl (!dIn a ds)) := in2_ok (.inr rfl) hn ha hd
/-! comprehensions -/
theorem lcD_ok {α : Type} {mg : D → Env → R Env} {mt : Env → R Bool} {me : Env → R D} {ρ : Env} {emb : α → D} (r : α → Env) (p : α → Bool) (f : α → D) : ∀ (l : List α), (∀ a ∈ l, mg (emb a) ρ = .ok (r a) ∧ mt (r a) = .ok (p a) ∧ (p a = true → me (r a) = .ok (f a))) → lcD mg mt me (l.map emb) ρ = .ok ((l.filter p).map f)
  | [], _ => rfl
  | a :: l, h => by
    obtain ⟨h1, h2, h3⟩ := h a (.head _)
    have ih := lcD_ok r p f l fun b hb => h b (.tail _ hb)
    rw [List.map_cons]
    unfold lcD
    rw [h1]
    show ((mt (r a)).val.bind _) = _
    rw [h2]
    show (bif p a then _ else _) = _
    cases hp : p a with
    | false => rw [List.filter_cons_of_neg (by rw [hp]; decide)]; exact ih
    | true =>
      rw [List.filter_cons_of_pos hp, List.map_cons]
      show ((me (r a)).val.bind _) = _
      rw [h3 hp, ih]
      rfl
theorem mLc_ok {α : Type} {vs : List Nat} {mi : Env → R (List D)} {mg : D → Env → R Env} {mt : Env → R Bool} {me : Env → R D} {ρ : Env} {emb : α → D} {l : List α} (r : α → Env) (p : α → Bool) (f : α → D) (hi : mi ρ = .ok (l.map emb)) (hl : l.length ≤ sizeLine)
    (h : ∀ a ∈ l, mg (emb a) (wipeD ρ vs) = .ok (r a) ∧ mt (r a) = .ok (p a) ∧ (p a = true → me (r a) = .ok (f a))) : mLc vs mi mg mt me ρ = .ok (.lst ((l.filter p).map f)) := by
  unfold mLc
  rw [hi, R.bind_ok, lcD_ok r p f l h]
  show (if _ then _ else _) = _
  rw [if_pos]
  rw [List.length_map]
  exact Nat.le_trans (List.length_filter_le _ _) hl
/-! loops -/
theorem loopD_fold {α S : Type} {f : D → Env → Out} {emb : α → D} (enc : S → Env) (step : S → α → S) : ∀ (l : List α) (s : S), (∀ s a, a ∈ l → f (emb a) (enc s) = .nx (enc (step s a))) → loopD f (l.map emb) (enc s) = .nx (enc (l.foldl step s))
  | [], s, _ => rfl
  | a :: l, s, h => by
    rw [List.map_cons]
    unfold loopD
    rw [h s a (.head _)]
    exact loopD_fold enc step l (step s a) fun s' b hb => h s' b (.tail _ hb)
end G
/-! S19: plain lemmas: arithmetic, subscripts, ranges, all/any. -/
namespace G
open PySem L2
theorem mod_ok {i j : Int} (h : j ≠ 0) : D.mod (.int i) (.int j) = .ok (.int (i.fmod j)) := by
  show (if modC i j = true then _ else _) = _
  rw [if_pos (show modC i j = true from decide_eq_true h)]
theorem fdiv_ok {i j : Int} (h : j ≠ 0) (h2 : j.natAbs < 1073741824) : D.fdiv (.int i) (.int j) = .ok (.int (i.fdiv j)) := by
  show (if divC i j = true then _ else _) = _
  rw [if_pos (by unfold divC; rw [decide_eq_true h, decide_eq_true h2]; rfl)]
theorem mul_okR {i j : Int} (h : -(2 ^ 64) < j) (h2 : j < 2 ^ 64) : D.mul (.int i) (.int j) = .ok (.int (i * j)) := by
  show (if mulC i j = true then _ else _) = _
  rw [if_pos (by unfold mulC; rw [decide_eq_true h, decide_eq_true h2]; simp)]
theorem mul_okL {i j : Int} (h : -(2 ^ 64) < i) (h2 : i < 2 ^ 64) : D.mul (.int i) (.int j) = .ok (.int (i * j)) := by
  show (if mulC i j = true then _ else _) = _
  rw [if_pos (by unfold mulC; rw [decide_eq_true h, decide_eq_true h2]; simp)]
theorem fmod_rg {i j : Int} (h : 0 < j) : 0 ≤ i.fmod j ∧ i.fmod j < j := ⟨Int.fmod_nonneg_of_pos i h, Int.fmod_lt_of_pos i h⟩
theorem dlt (i j : Int) : D.lt (.int i) (.int j) = .ok (.bl (decide (i < j))) := rfl
theorem dle (i j : Int) : D.le (.int i) (.int j) = .ok (.bl (decide (i ≤ j))) := rfl
theorem dgt (i j : Int) : D.gt (.int i) (.int j) = .ok (.bl (decide (j < i))) := rfl
theorem dge (i j : Int) : D.ge (.int i) (.int j) = .ok (.bl (decide (j ≤ i))) := rfl
theorem dq_int (i j : Int) : dq (.int i) (.int j) = decide (i = j) := bool_ext (by rw [dq_iff, D.int.injEq, decide_eq_true_iff])
theorem deq (i j : Int) : D.eq (.int i) (.int j) = .ok (.bl (decide (i = j))) := by rw [eq_ok (n := 0) (by decide) okD_int okD_int, dq_int]
theorem dne (i j : Int) : D.ne (.int i) (.int j) = .ok (.bl (!decide (i = j))) := by rw [ne_ok (n := 0) (by decide) okD_int okD_int, dq_int]
theorem atI_nat {α : Type} {xs : List α} {i : Int} {n : Nat} (e : i = (n : Int)) (h : n < xs.length) : atI xs i = some xs[n] := by
  subst e
  unfold atI ixN
  rw [if_pos (Int.natCast_nonneg n), if_pos (by omega)]
  show xs[((n : Int)).toNat]? = _
  rw [Int.toNat_natCast]
  exact List.getElem?_eq_getElem h
theorem atI_neg {α : Type} {xs : List α} (h : 0 < xs.length) : atI xs (-1) = some (xs[xs.length - 1]'(by omega)) := by
  unfold atI ixN
  rw [if_neg (by decide), if_pos (by omega)]
  show xs[(-1 + (xs.length : Int)).toNat]? = _
  rw [show (-1 + (xs.length : Int)).toNat = xs.length - 1 by omega]
  exact List.getElem?_eq_getElem (by omega)
theorem ix_lst {ds : List D} {i : Int} {d : D} (h : atI ds i = some d) : D.ix (.lst ds) (.int i) = .ok d := by
  show (match atI ds i with | some d => R.ok d | none => .bad) = _
  rw [h]
theorem ix_tup {ds : List D} {i : Int} {d : D} (h : atI ds i = some d) : D.ix (.tup ds) (.int i) = .ok d := by
  show (match atI ds i with | some d => R.ok d | none => .bad) = _
  rw [h]
theorem ix_scr {ds : List D} {i : Int} {d : D} (h : atI ds i = some d) : D.ix (.scr ds) (.int i) = .ok d := by
  show (match atI ds i with | some d => R.ok d | none => .bad) = _
  rw [h]
theorem all_ok {α : Type} (l : List α) (p : α → Bool) : D.all (.lst (l.map fun a => .bl (p a))) = .ok (.bl (l.all p)) := by
  have e : (l.map fun a => D.bl (p a)) = (l.map p).map D.bl := by rw [List.map_map]; rfl
  rw [e]
  unfold D.all dBls
  dsimp only
  rw [bls_map]
  dsimp only
  rw [List.all_map]
  rfl
theorem any_ok {α : Type} (l : List α) (p : α → Bool) : D.any (.lst (l.map fun a => .bl (p a))) = .ok (.bl (l.any p)) := by
  have e : (l.map fun a => D.bl (p a)) = (l.map p).map D.bl := by rw [List.map_map]; rfl
  rw [e]
  unfold D.any dBls
  dsimp only
  rw [bls_map]
  dsimp only
  rw [List.any_map]
  rfl
theorem fn_run {m : DefM} {ds : List D} (h : ds.length = m.n) : m.fn ds = (m.body (ds.map some ++ List.replicate m.k none)).res := by
  unfold DefM.fn
  rw [if_pos h]
/-- an int that is a number -/
abbrev nI (k : Nat) : D := .int (k : Int)
theorem range_nat (n : Nat) : rangeD 0 (n : Int) = (List.range n).map nI := by
  unfold rangeD
  rw [show (((n : Int) - 0).toNat) = n by omega]
  refine List.map_congr_left fun i _ => ?_
  rw [Int.zero_add]
theorem rangeOk_nat {n : Nat} (h : n ≤ 100000) : rangeOk 0 (n : Int) = true := by
  unfold rangeOk
  rw [decide_eq_true (by omega), decide_eq_true (by omega), decide_eq_true (by omega), decide_eq_true (by omega)]
  rfl
theorem range1_ok {n : Nat} (h : n ≤ 100000) : dRange1 (.int (n : Int)) = .ok ((List.range n).map nI) := by
  show (if rangeOk 0 (n : Int) = true then R.ok (rangeD 0 (n : Int)) else .bad) = _
  rw [if_pos (rangeOk_nat h), range_nat]
theorem len_lst (ds : List D) : D.len (.lst ds) = .ok (.int ds.length) := rfl
theorem len_tup (ds : List D) : D.len (.tup ds) = .ok (.int ds.length) := rfl
theorem mTup_ok {m : Env → R (List D)} {ρ : Env} {ds : List D} (h : m ρ = .ok ds) (hl : ds.length ≤ 16777216) : mTup m ρ = .ok (.tup ds) := by
  unfold mTup
  rw [h, R.bind_ok, if_pos (by rw [sizeLine_eq]; exact hl)]
theorem mLst_ok {m : Env → R (List D)} {ρ : Env} {ds : List D} (h : m ρ = .ok ds) (hl : ds.length ≤ 16777216) : mLst m ρ = .ok (.lst ds) := by
  unfold mLst
  rw [h, R.bind_ok, if_pos (by rw [sizeLine_eq]; exact hl)]
theorem sl_le {n : Nat} (h : n ≤ 16777216) : n ≤ sizeLine := by rw [sizeLine_eq]; exact h
theorem nI_ok {n : Nat} (l : List Nat) : (l.map nI).all (okD n) = true := by
  rw [List.all_map, List.all_eq_true]
  exact fun x _ => okD_int
theorem dIn_nI (k : Nat) (l : List Nat) : dIn (nI k) (l.map nI) = decide (k ∈ l) := bool_ext (by
  rw [dIn_iff, decide_eq_true_iff, List.mem_map]
  constructor
  · rintro ⟨a, h, e⟩
    have : (a : Int) = (k : Int) := by injection e
    have : a = k := by omega
    exact this ▸ h
  · exact fun h => ⟨k, h, rfl⟩)
theorem nI_inj {a b : Nat} (h : nI a = nI b) : a = b := by injection h; omega
theorem map_nI_inj : ∀ {l m : List Nat}, l.map nI = m.map nI → l = m
  | [], [], _ => rfl
  | [], _ :: _, h => by cases h
  | _ :: _, [], h => by cases h
  | a :: l, b :: m, h => by
    rw [List.map_cons, List.map_cons, List.cons.injEq] at h
    rw [nI_inj h.1, map_nI_inj h.2]
theorem mLc_map {α : Type} {vs : List Nat} {mi : Env → R (List D)} {mg : D → Env → R Env} {me : Env → R D} {ρ : Env} {emb : α → D} {l : List α} (r : α → Env) (f : α → D) (hi : mi ρ = .ok (l.map emb)) (hl : l.length ≤ 16777216)
    (h : ∀ a ∈ l, mg (emb a) (wipeD ρ vs) = .ok (r a) ∧ me (r a) = .ok (f a)) : mLc vs mi mg mYes me ρ = .ok (.lst (l.map f)) := by
  rw [mLc_ok r (fun _ => true) f hi (sl_le hl) fun a ha => ⟨(h a ha).1, rfl, fun _ => (h a ha).2⟩]
  rw [List.filter_eq_self.mpr fun _ _ => rfl]
theorem mLc_fil {α : Type} {vs : List Nat} {mi : Env → R (List D)} {mg : D → Env → R Env} {mt : Env → R Bool} {me : Env → R D} {ρ : Env} {emb : α → D} {l : List α} (r : α → Env) (p : α → Bool) (f : α → D) (hi : mi ρ = .ok (l.map emb)) (hl : l.length ≤ 16777216)
    (h : ∀ a ∈ l, mg (emb a) (wipeD ρ vs) = .ok (r a) ∧ mt (r a) = .ok (p a) ∧ (p a = true → me (r a) = .ok (f a))) : mLc vs mi mg mt me ρ = .ok (.lst ((l.filter p).map f)) := mLc_ok r p f hi (sl_le hl) h
theorem range2_nat {a b : Nat} (hb : b ≤ 100000) (ha : a ≤ 100000) : dRange2 (.int (a : Int)) (.int (b : Int)) = .ok ((List.range (b - a)).map fun i => nI (a + i)) := by
  show (if rangeOk (a : Int) (b : Int) = true then R.ok (rangeD (a : Int) (b : Int)) else .bad) = _
  rw [if_pos (by unfold rangeOk; rw [decide_eq_true (by omega), decide_eq_true (by omega), decide_eq_true (by omega), decide_eq_true (by omega)]; rfl)]
  unfold rangeD
  rw [show ((b : Int) - (a : Int)).toNat = b - a by omega]
  exact congrArg R.ok (List.map_congr_left fun i _ => by show D.int _ = D.int _; congr 1)
/-! statements, one behind another -/
theorem seq_res {a b : Env → Out} {ρ ρ' : Env} {r : R D} (h1 : a ρ = .nx ρ') (h2 : (b ρ').res = r) : (mSeq a b ρ).res = r := by
  unfold mSeq
  rw [h1]
  exact h2
theorem seq_nx {a b : Env → Out} {ρ ρ' : Env} {o : Out} (h1 : a ρ = .nx ρ') (h2 : b ρ' = o) : mSeq a b ρ = o := by
  unfold mSeq
  rw [h1]
  exact h2
theorem seq_rt {a b : Env → Out} {ρ : Env} {d : D} (h1 : a ρ = .rt d) : mSeq a b ρ = .rt d := by
  unfold mSeq
  rw [h1]
  rfl
theorem ret_res {a : Env → R D} {ρ : Env} {r : R D} (h : a ρ = r) : (mRet a ρ).res = r := by
  unfold mRet
  rw [h]
  cases r <;> rfl
theorem set_nx {a : Env → R D} {ρ : Env} {i : Nat} {d : D} (h : a ρ = .ok d) : mSet i a ρ = .nx (ρ.set i (some d)) := by
  unfold mSet
  rw [h]
  rfl
theorem for_nx {mi : Env → R (List D)} {mg : D → Env → R Env} {mb : Env → Out} {ρ ρ' : Env} {ds : List D} (hi : mi ρ = .ok ds) (hl : loopD (stepD mg mb) ds ρ = .nx ρ') : mFor mi mg mb ρ = .nx ρ' := by
  unfold mFor
  rw [hi]
  exact hl
theorem if_t {c : Env → R Bool} {a b : Env → Out} {ρ : Env} {o : Out} (h : c ρ = .ok true) (h2 : a ρ = o) : mIf c a b ρ = o := by
  unfold mIf
  rw [h]
  exact h2
theorem if_f {c : Env → R Bool} {a b : Env → Out} {ρ : Env} {o : Out} (h : c ρ = .ok false) (h2 : b ρ = o) : mIf c a b ρ = o := by
  unfold mIf
  rw [h]
  exact h2
theorem loop_nil {f : D → Env → Out} {ρ : Env} : loopD f [] ρ = .nx ρ := rfl
theorem loop_cons {mg : D → Env → R Env} {mb : Env → Out} {d : D} {ds : List D} {ρ ρ1 ρ2 : Env} {o : Out} (h1 : mg d ρ = .ok ρ1) (h2 : mb ρ1 = .nx ρ2) (h3 : loopD (stepD mg mb) ds ρ2 = o) : loopD (stepD mg mb) (d :: ds) ρ = o := by
  unfold loopD stepD
  rw [h1]
  dsimp only
  rw [h2]
  exact h3
theorem mut_append {ms : Env → R (List D)} {i : Nat} {ρ : Env} {xs : List D} {y : D} (h1 : ρ[i]? = some (some (.lst xs))) (h2 : ms ρ = .ok [y]) (h3 : xs.length < 16777216) : mMut "list" i dAppend ms kDrop ρ = .nx (ρ.set i (some (.lst (xs ++ [y])))) := by
  unfold mMut
  rw [h1]
  dsimp only
  rw [if_pos (show tyOk "list" (.lst xs) = true from rfl), h2]
  show (match dAppend (.lst xs) [y] with | .ok (d', e) => kDrop e (ρ.set i (some d')) | _ => .bad) = _
  have e : dAppend (.lst xs) [y] = .ok (.lst (xs ++ [y]), .non) := by
    unfold dAppend
    dsimp only
    rw [if_pos (by rw [sizeLine_eq]; exact h3)]
  rw [e]
  rfl
theorem mut_insert {ms : Env → R (List D)} {i n : Nat} {ρ : Env} {xs : List D} {y : D} (h1 : ρ[i]? = some (some (.lst xs))) (h2 : ms ρ = .ok [.int (n : Int), y]) (h3 : xs.length < 100000) (h4 : n ≤ 100000) : mMut "list" i dInsert ms kDrop ρ = .nx (ρ.set i (some (.lst (xs.take n ++ [y] ++ xs.drop n)))) := by
  unfold mMut
  rw [h1]
  dsimp only
  rw [if_pos (show tyOk "list" (.lst xs) = true from rfl), h2]
  show (match dInsert (.lst xs) [.int (n : Int), y] with | .ok (d', e) => kDrop e (ρ.set i (some d')) | _ => .bad) = _
  have e : dInsert (.lst xs) [.int (n : Int), y] = .ok (.lst (xs.take n ++ [y] ++ xs.drop n), .non) := by
    unfold dInsert
    dsimp only
    rw [if_pos ⟨by rw [sizeLine_eq]; omega, by omega, by omega⟩, Int.toNat_natCast]
  rw [e]
  rfl
end G
namespace L
open PySem PySem.Spec PyProof.Rows L2 G
def top (i : Nat) : Stmt := PySem.Challenge.pw_chesthours_k71_whole_greatest_lots_of_ne.main.body.getD i (.Pass ⟨0, 0, 0, 0⟩)
abbrev s__law_mixed : Stmt := top 38
theorem sc__law_mixed : FnScope ["cell", "k", "first"] ["cell", "k"] (defScope s__law_mixed) := ⟨rfl, rfl, rfl, by decide +kernel, rfl, by decide +kernel, by decide +kernel⟩
def b__law_mixed : G.Env → Out := (mSeq (mSet 2 (m2 D.add (m2 D.add (m2 D.mul (mCall (d1 D.toInt) (mCons (mVar 0) mNil)) (mC (.int 48271))) (m2 D.mul (mVar 1) (mC (.int 69621)))) (mC (.int 11)))) (mRet (m2 D.mod (mCall (d1 D.toInt) (mCons (m2 D.add (m2 D.mul (mVar 2) (mC (.int 16807))) (m2 D.fdiv (mVar 2) (mC (.int 8191)))) mNil)) (mC (.int 2147483647)))))
def m__law_mixed : DefM := ⟨2, 1, b__law_mixed⟩
theorem k__law_mixed {P : Program} {w : World} {K : PySem.W.Frag} {mg : Str → Option Value} {base : Heap} {f : Addr} {fd : FuncData} (F : FnP K "_law_mixed" s__law_mixed f fd) (g : mg "_law_mixed" = some (.ref f)) (n_int : mg "int" = none) : Fd P w K mg base 1 "_law_mixed" ["cell", "k"] f fd m__law_mixed.fn := by
  refine fd_of (k := 0) (N := ["cell", "k", "first"]) (m := m__law_mixed) F sc__law_mixed g (F.bindsN fun _ _ _ _ _ _ us hl => match us, hl with | [_, _], _ => rfl) rfl rfl fun cdv A outer s H E hr tk => ?_
  have nd := sc__law_mixed.nd
  have hu := hu65 hr
  show ∃ t o', MSs _ _ _ _ _ _ o' t b__law_mixed
  unfold b__law_mixed
  exact ⟨_, [], (mss_cons (ms_set 2 nd (me_add (me_add (me_mul (me_ct pu_int call_int1 n_int b_int (ma_cons (me_var 0) ma_nil)) me_int) (me_mul (me_var 1) me_int)) me_int)) (mss_one (ms_ret (me_mod (me_ct pu_int call_int1 n_int b_int (ma_cons (me_add (me_mul (me_var 2) me_int) (me_fdiv (me_var 2) me_int)) ma_nil)) me_int))))⟩
abbrev s__law_row : Stmt := top 39
theorem sc__law_row : FnScope ["cell", "many", "top", "found", "left", "great", "k"] ["cell", "many", "top"] (defScope s__law_row) := ⟨rfl, rfl, rfl, by decide +kernel, rfl, by decide +kernel, by decide +kernel⟩
def b__law_row : G.Env → Out := (mSeq (mSet 3 (mLst mNil)) (mSeq (mSet 4 (mCall (d1 D.toInt) (mCons (mVar 0) mNil))) (mSeq (mSet 5 (m2 D.ge (mVar 4) (mC (.int 1000000000000000000)))) (mSeq (mFor (mSq dRange1 (mVar 1)) (gnName 6) (mIf (mB (mVar 5)) (mSeq (mMut "list" 3 dAppend (mCons (m2 D.mod (mCall (d1 D.toInt) (mCons (mVar 4) mNil)) (mVar 2)) mNil) kDrop) (mSet 4 (m2 D.fdiv (mVar 4) (mVar 2)))) (mMut "list" 3 dAppend (mCons (m2 D.mod (m2 D.fdiv (mCallN 2 m__law_mixed.fn (mCons (mVar 0) (mCons (mVar 6) mNil))) (mC (.int 7))) (mVar 2)) mNil) kDrop))) (mRet (mVar 3))))))
def m__law_row : DefM := ⟨3, 4, b__law_row⟩
theorem k__law_row {P : Program} {w : World} {K : PySem.W.Frag} {mg : Str → Option Value} {base : Heap} {f : Addr} {fd : FuncData} (F : FnP K "_law_row" s__law_row f fd) (g : mg "_law_row" = some (.ref f)) {f__law_mixed : Addr} {fd__law_mixed : FuncData} (h__law_mixed : Fd P w K mg base 1 "_law_mixed" ["cell", "k"] f__law_mixed fd__law_mixed m__law_mixed.fn) (n_int : mg "int" = none) (n_range : mg "range" = none) : Fd P w K mg base 2 "_law_row" ["cell", "many", "top"] f fd m__law_row.fn := by
  refine fd_of (k := 1) (N := ["cell", "many", "top", "found", "left", "great", "k"]) (m := m__law_row) F sc__law_row g (F.bindsN fun _ _ _ _ _ _ us hl => match us, hl with | [_, _, _], _ => rfl) rfl rfl fun cdv A outer s H E hr tk => ?_
  have nd := sc__law_row.nd
  have hu := hu65 hr
  show ∃ t o', MSs _ _ _ _ _ _ o' t b__law_row
  unfold b__law_row
  exact ⟨_, [], (mss_cons (ms_setO 3 nd (mo_lst ma_nil)) (mss_cons (ms_set 4 nd (me_ct pu_int call_int1 n_int b_int (ma_cons (me_var 0) ma_nil))) (mss_cons (ms_set 5 nd (me_cmp c_ge (me_var 4) me_int)) (mss_cons (ms_weak [3] (ms_for (passes_of rfl) rfl (mi_range1 n_range (me_var 1)) (mg_name 6 nd) (mss_one (ms_if (mt_val (me_var 5)) (mss_cons (ms_mut m_append 3 (ma_cons (me_mod (me_ct pu_int call_int1 n_int b_int (ma_cons (me_var 4) ma_nil)) (me_var 2)) ma_nil)) (mss_one (ms_set 4 nd (me_fdiv (me_var 4) (me_var 2))))) (mss_one (ms_mut m_append 3 (ma_cons (me_mod (me_fdiv (me_call tk h__law_mixed (hr.mono (by decide)) (ma_cons (me_var 0) (ma_cons (me_var 6) ma_nil))) me_int) (me_var 2)) ma_nil))))))) (mss_one (ms_ret (me_var 3)))))))⟩
abbrev s__law_web : Stmt := top 34
theorem sc__law_web : FnScope ["cell", "more", "many", "marks", "order", "digits", "groups", "rows", "at", "group", "k", "giver", "taker", "place", "pair"] ["cell", "more"] (defScope s__law_web) := ⟨rfl, rfl, rfl, by decide +kernel, rfl, by decide +kernel, by decide +kernel⟩
def b__law_web : G.Env → Out := (mSeq (mSet 2 (m2 D.add (mC (.int 2)) (m2 D.ix (mCallN 3 m__law_row.fn (mCons (mVar 0) (mCons (mC (.int 1)) (mCons (mC (.int 4)) mNil)))) (mC (.int 0))))) (mSeq (mSet 3 (mCallN 3 m__law_row.fn (mCons (m2 D.add (m2 D.fdiv (mCall (d1 D.toInt) (mCons (mVar 0) mNil)) (mC (.int 5))) (mC (.int 3))) (mCons (mVar 2) (mCons (mC (.int 1000)) mNil))))) (mSeq (mSet 4 (mLc [14] (mSq D.seq (mCall (d1 D.sortP) (mCons (mLc [10] (mSq dRange1 (mVar 2)) (gnName 10) mYes (mTup (mCons (m2 D.ix (mVar 3) (mVar 10)) (mCons (mVar 10) mNil)))) mNil))) (gnName 14) mYes (m2 D.ix (mVar 14) (mC (.int 1))))) (mSeq (mSet 5 (mCallN 3 m__law_row.fn (mCons (mVar 1) (mCons (mC (.int 40)) (mCons (mC (.int 30)) mNil))))) (mSeq (mSet 6 (mLst (mCons (mVar 4) mNil))) (mSeq (mIf (mAnd (mB (m2 D.gt (mVar 2) (mC (.int 3)))) (mB (m2 D.lt (m2 D.ix (mVar 5) (mC (.int 0))) (mC (.int 12))))) (mSet 6 (mLst (mCons (mSl (mVar 4) mNoP (mPart (mC (.int 2)))) (mCons (mSl (mVar 4) (mPart (mC (.int 2))) mNoP) mNil)))) mNext) (mSeq (mSet 7 (mLst mNil)) (mSeq (mSet 8 (mC (.int 1))) (mSeq (mFor (mSq D.seq (mVar 6)) (gnName 9) (mFor (mSq dRange1 (mCall (d1 D.len) (mCons (mVar 9) mNil))) (gnName 10) (mSeq (mMut "list" 7 dAppend (mCons (mTup (mCons (m2 D.ix (mVar 9) (m2 D.sub (mVar 10) (mC (.int 1)))) (mCons (m2 D.ix (mVar 9) (mVar 10)) (mCons (m2 D.add (mC (.int 1)) (m2 D.mod (m2 D.ix (mVar 5) (mVar 8)) (mC (.int 3)))) mNil)))) mNil) kDrop) (mSet 8 (m2 D.add (mVar 8) (mC (.int 1))))))) (mSeq (mFor (mSq dRange1 (m2 D.mod (m2 D.ix (mVar 5) (mC (.int 10))) (mC (.int 4)))) (gnName 10) (mSeq (mSet 11 (m2 D.mod (m2 D.ix (mVar 5) (m2 D.add (mC (.int 11)) (m2 D.mul (mC (.int 3)) (mVar 10)))) (mVar 2))) (mSeq (mSet 12 (m2 D.mod (mCall (d1 D.toInt) (mCons (m2 D.add (m2 D.add (mVar 11) (mC (.int 1))) (m2 D.mod (m2 D.ix (mVar 5) (m2 D.add (mC (.int 12)) (m2 D.mul (mC (.int 3)) (mVar 10)))) (m2 D.sub (mVar 2) (mC (.int 1))))) mNil)) (mVar 2))) (mSeq (mSet 13 (m2 D.mod (m2 D.ix (mVar 5) (m2 D.add (mC (.int 13)) (m2 D.mul (mC (.int 3)) (mVar 10)))) (m2 D.add (mScal (mCall (d1 D.len) (mCons (mVar 7) mNil))) (mC (.int 1))))) (mMut "list" 7 dInsert (mCons (mVar 13) (mCons (mTup (mCons (mVar 11) (mCons (mVar 12) (mCons (m2 D.add (mC (.int 1)) (m2 D.mod (m2 D.ix (mVar 5) (m2 D.add (mC (.int 24)) (mVar 10))) (mC (.int 3)))) mNil)))) mNil)) kDrop))))) (mRet (mTup (mCons (mVar 2) (mCons (mCall (d1 D.toTup) (mCons (mVar 7) mNil)) mNil))))))))))))))
def m__law_web : DefM := ⟨2, 13, b__law_web⟩
theorem k__law_web {P : Program} {w : World} {K : PySem.W.Frag} {mg : Str → Option Value} {base : Heap} {f : Addr} {fd : FuncData} (F : FnP K "_law_web" s__law_web f fd) (g : mg "_law_web" = some (.ref f)) {f__law_row : Addr} {fd__law_row : FuncData} (h__law_row : Fd P w K mg base 2 "_law_row" ["cell", "many", "top"] f__law_row fd__law_row m__law_row.fn) (n_int : mg "int" = none) (n_sorted : mg "sorted" = none) (n_range : mg "range" = none) (n_len : mg "len" = none) (n_tuple : mg "tuple" = none) : Fd P w K mg base 3 "_law_web" ["cell", "more"] f fd m__law_web.fn := by
  refine fd_of (k := 2) (N := ["cell", "more", "many", "marks", "order", "digits", "groups", "rows", "at", "group", "k", "giver", "taker", "place", "pair"]) (m := m__law_web) F sc__law_web g (F.bindsN fun _ _ _ _ _ _ us hl => match us, hl with | [_, _], _ => rfl) rfl rfl fun cdv A outer s H E hr tk => ?_
  have nd := sc__law_web.nd
  have hu := hu65 hr
  show ∃ t o', MSs _ _ _ _ _ _ o' t b__law_web
  unfold b__law_web
  exact ⟨_, [], (mss_cons (ms_set 2 nd (me_add me_int (me_ix (me_call tk h__law_row (hr.mono (by decide)) (ma_cons (me_var 0) (ma_cons me_int (ma_cons me_int ma_nil)))) me_int))) (mss_cons (ms_set 3 nd (me_call tk h__law_row (hr.mono (by decide)) (ma_cons (me_add (me_fdiv (me_ct pu_int call_int1 n_int b_int (ma_cons (me_var 0) ma_nil)) me_int) me_int) (ma_cons (me_var 2) (ma_cons me_int ma_nil))))) (mss_cons (ms_weak [4] (ms_setLc 4 s H [("pair", 14)] rfl nd (mi_seq (me_o (mo_cb pu_sortP cr_sortedPO n_sorted b_sorted (ma_cons (me_o (mo_lc s H [("k", 10)] rfl nd (mi_range1 n_range (me_var 2)) (by first | (show blkC ["cell", "more", "many", "marks", "order", "digits", "groups", "rows", "at", "group", "k", "giver", "taker", "place", "pair"] (defScope s__law_web) _ _ = true; decide +kernel) | kernel_rfl) (fun _ _ _ _ _ => (mg_name 10 nd)) (fun _ _ _ _ _ => mts_nil) (fun _ _ _ _ _ => (me_tup (ma_cons (me_ix (me_var 3) (me_var 10)) (ma_cons (me_var 10) ma_nil)))) gw1)) ma_nil)))) (by first | (show blkC ["cell", "more", "many", "marks", "order", "digits", "groups", "rows", "at", "group", "k", "giver", "taker", "place", "pair"] (defScope s__law_web) _ _ = true; decide +kernel) | kernel_rfl) (fun _ _ _ _ _ => (mg_name 14 nd)) (fun _ _ _ _ _ => mts_nil) (fun _ _ _ _ _ => (me_ix (me_var 14) me_int)) gw1)) (mss_cons (ms_set 5 nd (me_call tk h__law_row (hr.mono (by decide)) (ma_cons (me_var 1) (ma_cons me_int (ma_cons me_int ma_nil))))) (mss_cons (ms_set 6 nd (me_o (mo_lst (ma_cons (me_var 4) ma_nil)))) (mss_cons (ms_if (mt_w (mw_and (mt_cmp c_gt (me_var 2) me_int) (mw_and1 (mt_cmp c_lt (me_ix (me_var 5) me_int) me_int)))) (mss_one (ms_set 6 nd (me_o (mo_lst (ma_cons (me_slice (me_var 4) mp_no (mp_some me_int)) (ma_cons (me_slice (me_var 4) (mp_some me_int) mp_no) ma_nil)))))) mss_nil) (mss_cons (ms_setO 7 nd (mo_lst ma_nil)) (mss_cons (ms_set 8 nd me_int) (mss_cons (ms_for (passes_of rfl) rfl (mi_seq (me_var 6)) (mg_name 9 nd) (mss_one (ms_for (passes_of rfl) rfl (mi_range1 n_range (me_cb pu_len call_lenAll n_len b_len (ma_cons (me_var 9) ma_nil))) (mg_name 10 nd) (mss_cons (ms_mut m_append 7 (ma_cons (me_tup (ma_cons (me_ix (me_var 9) (me_sub (me_var 10) me_int)) (ma_cons (me_ix (me_var 9) (me_var 10)) (ma_cons (me_add me_int (me_mod (me_ix (me_var 5) (me_var 8)) me_int)) ma_nil)))) ma_nil)) (mss_one (ms_set 8 nd (me_add (me_var 8) me_int))))))) (mss_cons (ms_weak [7] (ms_for (passes_of rfl) rfl (mi_range1 n_range (me_mod (me_ix (me_var 5) me_int) me_int)) (mg_name 10 nd) (mss_cons (ms_set 11 nd (me_mod (me_ix (me_var 5) (me_add me_int (me_mul me_int (me_var 10)))) (me_var 2))) (mss_cons (ms_set 12 nd (me_mod (me_ct pu_int call_int1 n_int b_int (ma_cons (me_add (me_add (me_var 11) me_int) (me_mod (me_ix (me_var 5) (me_add me_int (me_mul me_int (me_var 10)))) (me_sub (me_var 2) me_int))) ma_nil)) (me_var 2))) (mss_cons (ms_set 13 nd (me_mod (me_ix (me_var 5) (me_add me_int (me_mul me_int (me_var 10)))) (me_add (me_bor 7 (me_cb pu_len call_lenAll n_len b_len (ma_cons (me_var 7) ma_nil))) me_int))) (mss_one (ms_mut m_insert 7 (ma_cons (me_var 13) (ma_cons (me_tup (ma_cons (me_var 11) (ma_cons (me_var 12) (ma_cons (me_add me_int (me_mod (me_ix (me_var 5) (me_add me_int (me_var 10))) me_int)) ma_nil)))) ma_nil))))))))) (mss_one (ms_ret (me_tup (ma_cons (me_var 2) (ma_cons (me_ct pu_tuple call_tuple_of n_tuple b_tuple (ma_cons (me_var 7) ma_nil)) ma_nil)))))))))))))))⟩
abbrev s__law_at : Stmt := top 35
theorem sc__law_at : FnScope ["script", "k"] ["script", "k"] (defScope s__law_at) := ⟨rfl, rfl, rfl, by decide +kernel, rfl, by decide +kernel, by decide +kernel⟩
def b__law_at : G.Env → Out := (mSeq (mIf (mB (m2 D.lt (mVar 1) (mCall (d1 D.len) (mCons (mVar 0) mNil)))) (mRet (mCall (d1 D.toInt) (mCons (m2 D.ix (mVar 0) (mVar 1)) mNil))) mNext) (mRet (m2 D.add (mC (.int 5)) (m2 D.mul (mC (.int 3)) (mVar 1)))))
def m__law_at : DefM := ⟨2, 0, b__law_at⟩
theorem k__law_at {P : Program} {w : World} {K : PySem.W.Frag} {mg : Str → Option Value} {base : Heap} {f : Addr} {fd : FuncData} (F : FnP K "_law_at" s__law_at f fd) (g : mg "_law_at" = some (.ref f)) (n_len : mg "len" = none) (n_int : mg "int" = none) : Fd P w K mg base 1 "_law_at" ["script", "k"] f fd m__law_at.fn := by
  refine fd_of (k := 0) (N := ["script", "k"]) (m := m__law_at) F sc__law_at g (F.bindsN fun _ _ _ _ _ _ us hl => match us, hl with | [_, _], _ => rfl) rfl rfl fun cdv A outer s H E hr tk => ?_
  have nd := sc__law_at.nd
  have hu := hu65 hr
  show ∃ t o', MSs _ _ _ _ _ _ o' t b__law_at
  unfold b__law_at
  exact ⟨_, [], (mss_cons (ms_if (mt_cmp c_lt (me_var 1) (me_cb pu_len call_lenAll n_len b_len (ma_cons (me_var 0) ma_nil))) (mss_one (ms_ret (me_ct pu_int call_int1 n_int b_int (ma_cons (me_ix (me_var 0) (me_var 1)) ma_nil)))) mss_nil) (mss_one (ms_ret (me_add me_int (me_mul me_int (me_var 1))))))⟩
abbrev s__law_gets : Stmt := top 40
theorem sc__law_gets : FnScope ["web", "person", "k"] ["web", "person"] (defScope s__law_gets) := ⟨rfl, rfl, rfl, by decide +kernel, rfl, by decide +kernel, by decide +kernel⟩
def b__law_gets : G.Env → Out := (mRet (mLc [2] (mSq dRange1 (mCall (d1 D.len) (mCons (m2 D.ix (mVar 0) (mC (.int 1))) mNil))) (gnName 2) (mB (m2 D.eq (m2 D.ix (m2 D.ix (m2 D.ix (mVar 0) (mC (.int 1))) (mVar 2)) (mC (.int 1))) (mVar 1))) (mVar 2)))
def m__law_gets : DefM := ⟨2, 1, b__law_gets⟩
theorem k__law_gets {P : Program} {w : World} {K : PySem.W.Frag} {mg : Str → Option Value} {base : Heap} {f : Addr} {fd : FuncData} (F : FnP K "_law_gets" s__law_gets f fd) (g : mg "_law_gets" = some (.ref f)) (n_range : mg "range" = none) (n_len : mg "len" = none) : Fd P w K mg base 1 "_law_gets" ["web", "person"] f fd m__law_gets.fn := by
  refine fd_of (k := 0) (N := ["web", "person", "k"]) (m := m__law_gets) F sc__law_gets g (F.bindsN fun _ _ _ _ _ _ us hl => match us, hl with | [_, _], _ => rfl) rfl rfl fun cdv A outer s H E hr tk => ?_
  have nd := sc__law_gets.nd
  have hu := hu65 hr
  show ∃ t o', MSs _ _ _ _ _ _ o' t b__law_gets
  unfold b__law_gets
  exact ⟨_, [], (mss_one (ms_ret (me_o (mo_lc s H [("k", 2)] rfl nd (mi_range1 n_range (me_cb pu_len call_lenAll n_len b_len (ma_cons (me_ix (me_var 0) me_int) ma_nil))) (by first | (show blkC ["web", "person", "k"] (defScope s__law_gets) _ _ = true; decide +kernel) | kernel_rfl) (fun _ _ _ _ _ => (mg_name 2 nd)) (fun _ _ _ _ _ => (mts_one (mt_cmp (c_eq hu) (me_ix (me_ix (me_ix (me_var 0) me_int) (me_var 2)) me_int) (me_var 1)))) (fun _ _ _ _ _ => (me_var 2)) gw1))))⟩
abbrev s__law_needs : Stmt := top 36
theorem sc__law_needs : FnScope ["cell", "web", "digits", "found", "at", "row", "lot", "k"] ["cell", "web"] (defScope s__law_needs) := ⟨rfl, rfl, rfl, by decide +kernel, rfl, by decide +kernel, by decide +kernel⟩
def b__law_needs : G.Env → Out := (mSeq (mSet 2 (mCallN 3 m__law_row.fn (mCons (mVar 0) (mCons (mC (.int 64)) (mCons (mC (.int 24)) mNil))))) (mSeq (mSet 3 (mLst mNil)) (mSeq (mSet 4 (mC (.int 0))) (mSeq (mFor (mSq D.seq (m2 D.ix (mVar 1) (mC (.int 1)))) (gnName 5) (mSeq (mSet 6 (mLst mNil)) (mSeq (mFor (mSq D.seq (mCallN 2 m__law_gets.fn (mCons (mVar 1) (mCons (m2 D.ix (mVar 5) (mC (.int 0))) mNil)))) (gnName 7) (mSeq (mSet 4 (m2 D.add (mVar 4) (mC (.int 1)))) (mIf (mB (m2 D.lt (m2 D.ix (mVar 2) (m2 D.mod (mVar 4) (mC (.int 60)))) (m2 D.add (mC (.int 8)) (m2 D.fdiv (m2 D.ix (mVar 2) (mC (.int 61))) (mC (.int 3)))))) (mMut "list" 6 dAppend (mCons (mVar 7) mNil) kDrop) mNext))) (mMut "list" 3 dAppend (mCons (mCall (d1 D.toTup) (mCons (mVar 6) mNil)) mNil) kDrop)))) (mRet (mCall (d1 D.toTup) (mCons (mVar 3) mNil)))))))
def m__law_needs : DefM := ⟨2, 6, b__law_needs⟩
theorem k__law_needs {P : Program} {w : World} {K : PySem.W.Frag} {mg : Str → Option Value} {base : Heap} {f : Addr} {fd : FuncData} (F : FnP K "_law_needs" s__law_needs f fd) (g : mg "_law_needs" = some (.ref f)) {f__law_row : Addr} {fd__law_row : FuncData} (h__law_row : Fd P w K mg base 2 "_law_row" ["cell", "many", "top"] f__law_row fd__law_row m__law_row.fn) {f__law_gets : Addr} {fd__law_gets : FuncData} (h__law_gets : Fd P w K mg base 1 "_law_gets" ["web", "person"] f__law_gets fd__law_gets m__law_gets.fn) (n_tuple : mg "tuple" = none) : Fd P w K mg base 3 "_law_needs" ["cell", "web"] f fd m__law_needs.fn := by
  refine fd_of (k := 2) (N := ["cell", "web", "digits", "found", "at", "row", "lot", "k"]) (m := m__law_needs) F sc__law_needs g (F.bindsN fun _ _ _ _ _ _ us hl => match us, hl with | [_, _], _ => rfl) rfl rfl fun cdv A outer s H E hr tk => ?_
  have nd := sc__law_needs.nd
  have hu := hu65 hr
  show ∃ t o', MSs _ _ _ _ _ _ o' t b__law_needs
  unfold b__law_needs
  exact ⟨_, [], (mss_cons (ms_set 2 nd (me_call tk h__law_row (hr.mono (by decide)) (ma_cons (me_var 0) (ma_cons me_int (ma_cons me_int ma_nil))))) (mss_cons (ms_setO 3 nd (mo_lst ma_nil)) (mss_cons (ms_set 4 nd me_int) (mss_cons (ms_weak [3] (ms_for (passes_of rfl) rfl (mi_seq (me_ix (me_var 1) me_int)) (mg_name 5 nd) (mss_cons (ms_setO 6 nd (mo_lst ma_nil)) (mss_cons (ms_for (passes_of rfl) rfl (mi_seq (me_call tk h__law_gets (hr.mono (by decide)) (ma_cons (me_var 1) (ma_cons (me_ix (me_var 5) me_int) ma_nil)))) (mg_name 7 nd) (mss_cons (ms_set 4 nd (me_add (me_var 4) me_int)) (mss_one (ms_if (mt_cmp c_lt (me_ix (me_var 2) (me_mod (me_var 4) me_int)) (me_add me_int (me_fdiv (me_ix (me_var 2) me_int) me_int))) (mss_one (ms_mut m_append 6 (ma_cons (me_var 7) ma_nil))) mss_nil)))) (mss_one (ms_mut m_append 3 (ma_cons (me_ct pu_tuple call_tuple_of n_tuple b_tuple (ma_cons (me_give 6) ma_nil)) ma_nil))))))) (mss_one (ms_ret (me_ct pu_tuple call_tuple_of n_tuple b_tuple (ma_cons (me_var 3) ma_nil))))))))⟩
abbrev s__law_keeps : Stmt := top 37
theorem sc__law_keeps : FnScope ["needs", "lot", "k", "other"] ["needs", "lot"] (defScope s__law_keeps) := ⟨rfl, rfl, rfl, by decide +kernel, rfl, by decide +kernel, by decide +kernel⟩
def b__law_keeps : G.Env → Out := (mRet (mCall (d1 D.all) (mCons (mLc [2] (mSq D.seq (mVar 1)) (gnName 2) mYes (mCall (d1 D.all) (mCons (mLc [3] (mSq D.seq (m2 D.ix (mVar 0) (mVar 2))) (gnName 3) mYes (m2 D.isIn (mVar 3) (mVar 1))) mNil))) mNil)))
def m__law_keeps : DefM := ⟨2, 2, b__law_keeps⟩
theorem k__law_keeps {P : Program} {w : World} {K : PySem.W.Frag} {mg : Str → Option Value} {base : Heap} {f : Addr} {fd : FuncData} (F : FnP K "_law_keeps" s__law_keeps f fd) (g : mg "_law_keeps" = some (.ref f)) (n_all : mg "all" = none) : Fd P w K mg base 1 "_law_keeps" ["needs", "lot"] f fd m__law_keeps.fn := by
  refine fd_of (k := 0) (N := ["needs", "lot", "k", "other"]) (m := m__law_keeps) F sc__law_keeps g (F.bindsN fun _ _ _ _ _ _ us hl => match us, hl with | [_, _], _ => rfl) rfl rfl fun cdv A outer s H E hr tk => ?_
  have nd := sc__law_keeps.nd
  have hu := hu65 hr
  show ∃ t o', MSs _ _ _ _ _ _ o' t b__law_keeps
  unfold b__law_keeps
  exact ⟨_, [], (mss_one (ms_ret (me_cb pu_all (cr_all rfl) n_all b_all (ma_cons (me_o (mo_lc s H [("k", 2)] rfl nd (mi_seq (me_var 1)) (by first | (show blkC ["needs", "lot", "k", "other"] (defScope s__law_keeps) _ _ = true; decide +kernel) | kernel_rfl) (fun _ _ _ _ _ => (mg_name 2 nd)) (fun _ _ _ _ _ => mts_nil) (fun _ _ _ _ _ => (me_cb pu_all (cr_all rfl) n_all b_all (ma_cons (me_o (mo_lc s H [("other", 3)] rfl nd (mi_seq (me_ix (me_var 0) (me_var 2))) (by first | (show blkC ["needs", "lot", "k", "other"] (defScope s__law_keeps) _ _ = true; decide +kernel) | kernel_rfl) (fun _ _ _ _ _ => (mg_name 3 nd)) (fun _ _ _ _ _ => mts_nil) (fun _ _ _ _ _ => (me_cmp (c_in hu) (me_var 3) (me_var 1))) gw1)) ma_nil))) gw1)) ma_nil))))⟩
abbrev s_is_tuple_of : Stmt := top 9
theorem sc_is_tuple_of : FnScope ["thing", "many"] ["thing", "many"] (defScope s_is_tuple_of) := ⟨rfl, rfl, rfl, by decide +kernel, rfl, by decide +kernel, by decide +kernel⟩
def b_is_tuple_of : G.Env → Out := (mRet (mAndV (mCall (d2 D.isi) (mCons (mVar 0) (mCons (mC (.ty "tuple")) mNil))) (m2 D.eq (mCall (d1 D.len) (mCons (mVar 0) mNil)) (mVar 1))))
def m_is_tuple_of : DefM := ⟨2, 0, b_is_tuple_of⟩
theorem k_is_tuple_of {P : Program} {w : World} {K : PySem.W.Frag} {mg : Str → Option Value} {base : Heap} {f : Addr} {fd : FuncData} (F : FnP K "is_tuple_of" s_is_tuple_of f fd) (g : mg "is_tuple_of" = some (.ref f)) (n_isinstance : mg "isinstance" = none) (n_tuple : mg "tuple" = none) (n_len : mg "len" = none) : Fd P w K mg base 1 "is_tuple_of" ["thing", "many"] f fd m_is_tuple_of.fn := by
  refine fd_of (k := 0) (N := ["thing", "many"]) (m := m_is_tuple_of) F sc_is_tuple_of g (F.bindsN fun _ _ _ _ _ _ us hl => match us, hl with | [_, _], _ => rfl) rfl rfl fun cdv A outer s H E hr tk => ?_
  have nd := sc_is_tuple_of.nd
  have hu := hu65 hr
  show ∃ t o', MSs _ _ _ _ _ _ o' t b_is_tuple_of
  unfold b_is_tuple_of
  exact ⟨_, [], (mss_one (ms_ret (me_and (me_cb pu_isi call_isi n_isinstance b_isi (ma_cons (me_var 0) (ma_cons (me_ty n_tuple b_tuple) ma_nil))) (me_one (me_cmp (c_eq hu) (me_cb pu_len call_lenAll n_len b_len (ma_cons (me_var 0) ma_nil)) (me_var 1))))))⟩
abbrev s_is_integer : Stmt := top 6
theorem sc_is_integer : FnScope ["thing"] ["thing"] (defScope s_is_integer) := ⟨rfl, rfl, rfl, by decide +kernel, rfl, by decide +kernel, by decide +kernel⟩
def b_is_integer : G.Env → Out := (mRet (mAndV (mCall (d2 D.isi) (mCons (mVar 0) (mCons (mC (.ty "int")) mNil))) (mNotV (mCall (d2 D.isi) (mCons (mVar 0) (mCons (mC (.ty "bool")) mNil))))))
def m_is_integer : DefM := ⟨1, 0, b_is_integer⟩
theorem k_is_integer {P : Program} {w : World} {K : PySem.W.Frag} {mg : Str → Option Value} {base : Heap} {f : Addr} {fd : FuncData} (F : FnP K "is_integer" s_is_integer f fd) (g : mg "is_integer" = some (.ref f)) (n_isinstance : mg "isinstance" = none) (n_int : mg "int" = none) (n_bool : mg "bool" = none) : Fd P w K mg base 1 "is_integer" ["thing"] f fd m_is_integer.fn := by
  refine fd_of (k := 0) (N := ["thing"]) (m := m_is_integer) F sc_is_integer g (F.bindsN fun _ _ _ _ _ _ us hl => match us, hl with | [_], _ => rfl) rfl rfl fun cdv A outer s H E hr tk => ?_
  have nd := sc_is_integer.nd
  have hu := hu65 hr
  show ∃ t o', MSs _ _ _ _ _ _ o' t b_is_integer
  unfold b_is_integer
  exact ⟨_, [], (mss_one (ms_ret (me_and (me_cb pu_isi call_isi n_isinstance b_isi (ma_cons (me_var 0) (ma_cons (me_ty n_int b_int) ma_nil))) (me_one (me_not (me_cb pu_isi call_isi n_isinstance b_isi (ma_cons (me_var 0) (ma_cons (me_ty n_bool b_bool) ma_nil))))))))⟩
abbrev s_is_between : Stmt := top 7
theorem sc_is_between : FnScope ["thing", "least", "most"] ["thing", "least", "most"] (defScope s_is_between) := ⟨rfl, rfl, rfl, by decide +kernel, rfl, by decide +kernel, by decide +kernel⟩
def b_is_between : G.Env → Out := (mRet (mAndV (mCallN 1 m_is_integer.fn (mCons (mVar 0) mNil)) (mChain D.le D.le (mVar 1) (mVar 0) (mVar 2))))
def m_is_between : DefM := ⟨3, 0, b_is_between⟩
theorem k_is_between {P : Program} {w : World} {K : PySem.W.Frag} {mg : Str → Option Value} {base : Heap} {f : Addr} {fd : FuncData} (F : FnP K "is_between" s_is_between f fd) (g : mg "is_between" = some (.ref f)) {f_is_integer : Addr} {fd_is_integer : FuncData} (h_is_integer : Fd P w K mg base 1 "is_integer" ["thing"] f_is_integer fd_is_integer m_is_integer.fn) : Fd P w K mg base 2 "is_between" ["thing", "least", "most"] f fd m_is_between.fn := by
  refine fd_of (k := 1) (N := ["thing", "least", "most"]) (m := m_is_between) F sc_is_between g (F.bindsN fun _ _ _ _ _ _ us hl => match us, hl with | [_, _, _], _ => rfl) rfl rfl fun cdv A outer s H E hr tk => ?_
  have nd := sc_is_between.nd
  have hu := hu65 hr
  show ∃ t o', MSs _ _ _ _ _ _ o' t b_is_between
  unfold b_is_between
  exact ⟨_, [], (mss_one (ms_ret (me_and (me_call tk h_is_integer (hr.mono (by decide)) (ma_cons (me_var 0) ma_nil)) (me_one (me_chain c_le c_le (me_var 1) (me_var 0) (me_var 2))))))⟩
abbrev s_is_under : Stmt := top 8
theorem sc_is_under : FnScope ["thing", "many"] ["thing", "many"] (defScope s_is_under) := ⟨rfl, rfl, rfl, by decide +kernel, rfl, by decide +kernel, by decide +kernel⟩
def b_is_under : G.Env → Out := (mRet (mAndV (mCallN 1 m_is_integer.fn (mCons (mVar 0) mNil)) (mChain D.le D.lt (mC (.int 0)) (mVar 0) (mVar 1))))
def m_is_under : DefM := ⟨2, 0, b_is_under⟩
theorem k_is_under {P : Program} {w : World} {K : PySem.W.Frag} {mg : Str → Option Value} {base : Heap} {f : Addr} {fd : FuncData} (F : FnP K "is_under" s_is_under f fd) (g : mg "is_under" = some (.ref f)) {f_is_integer : Addr} {fd_is_integer : FuncData} (h_is_integer : Fd P w K mg base 1 "is_integer" ["thing"] f_is_integer fd_is_integer m_is_integer.fn) : Fd P w K mg base 2 "is_under" ["thing", "many"] f fd m_is_under.fn := by
  refine fd_of (k := 1) (N := ["thing", "many"]) (m := m_is_under) F sc_is_under g (F.bindsN fun _ _ _ _ _ _ us hl => match us, hl with | [_, _], _ => rfl) rfl rfl fun cdv A outer s H E hr tk => ?_
  have nd := sc_is_under.nd
  have hu := hu65 hr
  show ∃ t o', MSs _ _ _ _ _ _ o' t b_is_under
  unfold b_is_under
  exact ⟨_, [], (mss_one (ms_ret (me_and (me_call tk h_is_integer (hr.mono (by decide)) (ma_cons (me_var 0) ma_nil)) (me_one (me_chain c_le c_lt me_int (me_var 0) (me_var 1))))))⟩
abbrev s_is_row : Stmt := top 17
theorem sc_is_row : FnScope ["many", "thing"] ["many", "thing"] (defScope s_is_row) := ⟨rfl, rfl, rfl, by decide +kernel, rfl, by decide +kernel, by decide +kernel⟩
def b_is_row : G.Env → Out := (mSeq (mIf (mOr (mNot (mB (mCallN 2 m_is_tuple_of.fn (mCons (mVar 1) (mCons (mC (.int 3)) mNil))))) (mOr (mNot (mB (mCallN 2 m_is_under.fn (mCons (m2 D.ix (mVar 1) (mC (.int 0))) (mCons (mVar 0) mNil))))) (mNot (mB (mCallN 2 m_is_under.fn (mCons (m2 D.ix (mVar 1) (mC (.int 1))) (mCons (mVar 0) mNil))))))) (mRet (mC (.bl false))) mNext) (mRet (mAndV (m2 D.ne (m2 D.ix (mVar 1) (mC (.int 0))) (m2 D.ix (mVar 1) (mC (.int 1)))) (mCallN 3 m_is_between.fn (mCons (m2 D.ix (mVar 1) (mC (.int 2))) (mCons (mC (.int 1)) (mCons (mC (.int (9))) mNil)))))))
def m_is_row : DefM := ⟨2, 0, b_is_row⟩
theorem k_is_row {P : Program} {w : World} {K : PySem.W.Frag} {mg : Str → Option Value} {base : Heap} {f : Addr} {fd : FuncData} (F : FnP K "is_row" s_is_row f fd) (g : mg "is_row" = some (.ref f)) {f_is_tuple_of : Addr} {fd_is_tuple_of : FuncData} (h_is_tuple_of : Fd P w K mg base 1 "is_tuple_of" ["thing", "many"] f_is_tuple_of fd_is_tuple_of m_is_tuple_of.fn) {f_is_under : Addr} {fd_is_under : FuncData} (h_is_under : Fd P w K mg base 2 "is_under" ["thing", "many"] f_is_under fd_is_under m_is_under.fn) {f_is_between : Addr} {fd_is_between : FuncData} (h_is_between : Fd P w K mg base 2 "is_between" ["thing", "least", "most"] f_is_between fd_is_between m_is_between.fn) (c_MOST_DELAY : ∃ t, mg "MOST_DELAY" = some (.int (9) t)) : Fd P w K mg base 3 "is_row" ["many", "thing"] f fd m_is_row.fn := by
  refine fd_of (k := 2) (N := ["many", "thing"]) (m := m_is_row) F sc_is_row g (F.bindsN fun _ _ _ _ _ _ us hl => match us, hl with | [_, _], _ => rfl) rfl rfl fun cdv A outer s H E hr tk => ?_
  have nd := sc_is_row.nd
  have hu := hu65 hr
  show ∃ t o', MSs _ _ _ _ _ _ o' t b_is_row
  unfold b_is_row
  exact ⟨_, [], (mss_cons (ms_if (mt_w (mw_or (mt_not (mt_val (me_call tk h_is_tuple_of (hr.mono (by decide)) (ma_cons (me_var 1) (ma_cons me_int ma_nil))))) (mw_or (mt_not (mt_val (me_call tk h_is_under (hr.mono (by decide)) (ma_cons (me_ix (me_var 1) me_int) (ma_cons (me_var 0) ma_nil))))) (mw_or1 (mt_not (mt_val (me_call tk h_is_under (hr.mono (by decide)) (ma_cons (me_ix (me_var 1) me_int) (ma_cons (me_var 0) ma_nil))))))))) (mss_one (ms_ret me_bl)) mss_nil) (mss_one (ms_ret (me_and (me_cmp (c_ne hu) (me_ix (me_var 1) me_int) (me_ix (me_var 1) me_int)) (me_one (me_call tk h_is_between (hr.mono (by decide)) (ma_cons (me_ix (me_var 1) me_int) (ma_cons me_int (ma_cons (me_gintE c_MOST_DELAY) ma_nil)))))))))⟩
abbrev s_is_web : Stmt := top 18
theorem sc_is_web : FnScope ["thing", "many", "rows", "givers", "takers", "row", "person"] ["thing"] (defScope s_is_web) := ⟨rfl, rfl, rfl, by decide +kernel, rfl, by decide +kernel, by decide +kernel⟩
def b_is_web : G.Env → Out := (mSeq (mIf (mOr (mNot (mB (mCallN 2 m_is_tuple_of.fn (mCons (mVar 0) (mCons (mC (.int 2)) mNil))))) (mNot (mB (mCallN 3 m_is_between.fn (mCons (m2 D.ix (mVar 0) (mC (.int 0))) (mCons (mC (.int (2))) (mCons (mC (.int (6))) mNil))))))) (mRet (mC (.bl false))) mNext) (mSeq (mTg (mVar 0) (gnTup 2 (gnCons (gnName 1) (gnCons (gnName 2) gnNil)))) (mSeq (mIf (mOr (mNot (mB (mCall (d2 D.isi) (mCons (mVar 2) (mCons (mC (.ty "tuple")) mNil))))) (mNot (mB (mChain D.le D.le (mC (.int 1)) (mCall (d1 D.len) (mCons (mVar 2) mNil)) (mC (.int (10))))))) (mRet (mC (.bl false))) mNext) (mSeq (mIf (mNot (mB (mCall (d1 D.all) (mCons (mLc [5] (mSq D.seq (mVar 2)) (gnName 5) mYes (mCall0 2 m_is_row.fn (mCons (mVar 1) (mCons (mVar 5) mNil)))) mNil)))) (mRet (mC (.bl false))) mNext) (mSeq (mTg (mTup (mCons (mLc [5] (mSq D.seq (mVar 2)) (gnName 5) mYes (m2 D.ix (mVar 5) (mC (.int 0)))) (mCons (mLc [5] (mSq D.seq (mVar 2)) (gnName 5) mYes (m2 D.ix (mVar 5) (mC (.int 1)))) mNil))) (gnTup 2 (gnCons (gnName 3) (gnCons (gnName 4) gnNil)))) (mRet (mCall (d1 D.all) (mCons (mLc [6] (mSq dRange1 (mVar 1)) (gnName 6) mYes (mAndV (m2 D.isIn (mVar 6) (mVar 3)) (m2 D.isIn (mVar 6) (mVar 4)))) mNil))))))))
def m_is_web : DefM := ⟨1, 6, b_is_web⟩
theorem k_is_web {P : Program} {w : World} {K : PySem.W.Frag} {mg : Str → Option Value} {base : Heap} {f : Addr} {fd : FuncData} (F : FnP K "is_web" s_is_web f fd) (g : mg "is_web" = some (.ref f)) {f_is_tuple_of : Addr} {fd_is_tuple_of : FuncData} (h_is_tuple_of : Fd P w K mg base 1 "is_tuple_of" ["thing", "many"] f_is_tuple_of fd_is_tuple_of m_is_tuple_of.fn) {f_is_between : Addr} {fd_is_between : FuncData} (h_is_between : Fd P w K mg base 2 "is_between" ["thing", "least", "most"] f_is_between fd_is_between m_is_between.fn) {f_is_row : Addr} {fd_is_row : FuncData} (h_is_row : Fd P w K mg base 3 "is_row" ["many", "thing"] f_is_row fd_is_row m_is_row.fn) (n_isinstance : mg "isinstance" = none) (n_tuple : mg "tuple" = none) (n_len : mg "len" = none) (n_all : mg "all" = none) (n_range : mg "range" = none) (c_FEWEST_PERSONS : ∃ t, mg "FEWEST_PERSONS" = some (.int (2) t)) (c_MOST_PERSONS : ∃ t, mg "MOST_PERSONS" = some (.int (6) t)) (c_MOST_TRANSFERS : ∃ t, mg "MOST_TRANSFERS" = some (.int (10) t)) : Fd P w K mg base 4 "is_web" ["thing"] f fd m_is_web.fn := by
  refine fd_of (k := 3) (N := ["thing", "many", "rows", "givers", "takers", "row", "person"]) (m := m_is_web) F sc_is_web g (F.bindsN fun _ _ _ _ _ _ us hl => match us, hl with | [_], _ => rfl) rfl rfl fun cdv A outer s H E hr tk => ?_
  have nd := sc_is_web.nd
  have hu := hu65 hr
  show ∃ t o', MSs _ _ _ _ _ _ o' t b_is_web
  unfold b_is_web
  exact ⟨_, [], (mss_cons (ms_if (mt_w (mw_or (mt_not (mt_val (me_call tk h_is_tuple_of (hr.mono (by decide)) (ma_cons (me_var 0) (ma_cons me_int ma_nil))))) (mw_or1 (mt_not (mt_val (me_call tk h_is_between (hr.mono (by decide)) (ma_cons (me_ix (me_var 0) me_int) (ma_cons (me_gintE c_FEWEST_PERSONS) (ma_cons (me_gintE c_MOST_PERSONS) ma_nil))))))))) (mss_one (ms_ret me_bl)) mss_nil) (mss_cons (ms_tg (me_var 0) (mg_tup rfl (mgs_cons (mg_name 1 nd) (mgs_cons (mg_name 2 nd) mgs_nil)))) (mss_cons (ms_if (mt_w (mw_or (mt_not (mt_val (me_cb pu_isi call_isi n_isinstance b_isi (ma_cons (me_var 2) (ma_cons (me_ty n_tuple b_tuple) ma_nil))))) (mw_or1 (mt_not (mt_chain c_le c_le me_int (me_cb pu_len call_lenAll n_len b_len (ma_cons (me_var 2) ma_nil)) (me_gintE c_MOST_TRANSFERS)))))) (mss_one (ms_ret me_bl)) mss_nil) (mss_cons (ms_if (mt_not (mt_val (me_cb pu_all (cr_all rfl) n_all b_all (ma_cons (me_o (mo_lc s H [("row", 5)] rfl nd (mi_seq (me_var 2)) (by first | (show blkC ["thing", "many", "rows", "givers", "takers", "row", "person"] (defScope s_is_web) _ _ = true; decide +kernel) | kernel_rfl) (fun _ _ _ _ _ => (mg_name 5 nd)) (fun _ _ _ _ _ => mts_nil) (fun _ _ _ _ _ => (me_callC h_is_row (hr.mono (by decide)) (ma_cons (me_var 1) (ma_cons (me_var 5) ma_nil)))) gw1)) ma_nil)))) (mss_one (ms_ret me_bl)) mss_nil) (mss_cons (ms_tg (me_tup (ma_cons (me_o (mo_lc s H [("row", 5)] rfl nd (mi_seq (me_var 2)) (by first | (show blkC ["thing", "many", "rows", "givers", "takers", "row", "person"] (defScope s_is_web) _ _ = true; decide +kernel) | kernel_rfl) (fun _ _ _ _ _ => (mg_name 5 nd)) (fun _ _ _ _ _ => mts_nil) (fun _ _ _ _ _ => (me_ix (me_var 5) me_int)) gw1)) (ma_cons (me_o (mo_lc s H [("row", 5)] rfl nd (mi_seq (me_var 2)) (by first | (show blkC ["thing", "many", "rows", "givers", "takers", "row", "person"] (defScope s_is_web) _ _ = true; decide +kernel) | kernel_rfl) (fun _ _ _ _ _ => (mg_name 5 nd)) (fun _ _ _ _ _ => mts_nil) (fun _ _ _ _ _ => (me_ix (me_var 5) me_int)) gw1)) ma_nil))) (mg_tup rfl (mgs_cons (mg_name 3 nd) (mgs_cons (mg_name 4 nd) mgs_nil)))) (mss_one (ms_ret (me_cb pu_all (cr_all rfl) n_all b_all (ma_cons (me_o (mo_lc s H [("person", 6)] rfl nd (mi_range1 n_range (me_var 1)) (by first | (show blkC ["thing", "many", "rows", "givers", "takers", "row", "person"] (defScope s_is_web) _ _ = true; decide +kernel) | kernel_rfl) (fun _ _ _ _ _ => (mg_name 6 nd)) (fun _ _ _ _ _ => mts_nil) (fun _ _ _ _ _ => (me_and (me_cmp (c_in hu) (me_var 6) (me_var 3)) (me_one (me_cmp (c_in hu) (me_var 6) (me_var 4))))) gw1)) ma_nil)))))))))⟩
abbrev s_need_web : Stmt := top 19
theorem sc_need_web : FnScope ["thing"] ["thing"] (defScope s_need_web) := ⟨rfl, rfl, rfl, by decide +kernel, rfl, by decide +kernel, by decide +kernel⟩
def b_need_web : G.Env → Out := (mIf (mNot (mB (mCallN 1 m_is_web.fn (mCons (mVar 0) mNil)))) mBad mNext)
def m_need_web : DefM := ⟨1, 0, b_need_web⟩
theorem k_need_web {P : Program} {w : World} {K : PySem.W.Frag} {mg : Str → Option Value} {base : Heap} {f : Addr} {fd : FuncData} (F : FnP K "need_web" s_need_web f fd) (g : mg "need_web" = some (.ref f)) {f_is_web : Addr} {fd_is_web : FuncData} (h_is_web : Fd P w K mg base 4 "is_web" ["thing"] f_is_web fd_is_web m_is_web.fn) : Fd P w K mg base 5 "need_web" ["thing"] f fd m_need_web.fn := by
  refine fd_of (k := 4) (N := ["thing"]) (m := m_need_web) F sc_need_web g (F.bindsN fun _ _ _ _ _ _ us hl => match us, hl with | [_], _ => rfl) rfl rfl fun cdv A outer s H E hr tk => ?_
  have nd := sc_need_web.nd
  have hu := hu65 hr
  show ∃ t o', MSs _ _ _ _ _ _ o' t b_need_web
  unfold b_need_web
  exact ⟨_, [], (mss_one (ms_if (mt_not (mt_val (me_call tk h_is_web (hr.mono (by decide)) (ma_cons (me_var 0) ma_nil)))) (mss_one ms_bad) mss_nil))⟩
abbrev s_are_under : Stmt := top 10
theorem sc_are_under : FnScope ["thing", "many", "one"] ["thing", "many"] (defScope s_are_under) := ⟨rfl, rfl, rfl, by decide +kernel, rfl, by decide +kernel, by decide +kernel⟩
def b_are_under : G.Env → Out := (mRet (mAndV (mCall (d2 D.isi) (mCons (mVar 0) (mCons (mC (.ty "tuple")) mNil))) (mCall (d1 D.all) (mCons (mLc [2] (mSq D.seq (mVar 0)) (gnName 2) mYes (mCall0 2 m_is_under.fn (mCons (mVar 2) (mCons (mVar 1) mNil)))) mNil))))
def m_are_under : DefM := ⟨2, 1, b_are_under⟩
theorem k_are_under {P : Program} {w : World} {K : PySem.W.Frag} {mg : Str → Option Value} {base : Heap} {f : Addr} {fd : FuncData} (F : FnP K "are_under" s_are_under f fd) (g : mg "are_under" = some (.ref f)) {f_is_under : Addr} {fd_is_under : FuncData} (h_is_under : Fd P w K mg base 2 "is_under" ["thing", "many"] f_is_under fd_is_under m_is_under.fn) (n_isinstance : mg "isinstance" = none) (n_tuple : mg "tuple" = none) (n_all : mg "all" = none) : Fd P w K mg base 3 "are_under" ["thing", "many"] f fd m_are_under.fn := by
  refine fd_of (k := 2) (N := ["thing", "many", "one"]) (m := m_are_under) F sc_are_under g (F.bindsN fun _ _ _ _ _ _ us hl => match us, hl with | [_, _], _ => rfl) rfl rfl fun cdv A outer s H E hr tk => ?_
  have nd := sc_are_under.nd
  have hu := hu65 hr
  show ∃ t o', MSs _ _ _ _ _ _ o' t b_are_under
  unfold b_are_under
  exact ⟨_, [], (mss_one (ms_ret (me_and (me_cb pu_isi call_isi n_isinstance b_isi (ma_cons (me_var 0) (ma_cons (me_ty n_tuple b_tuple) ma_nil))) (me_one (me_cb pu_all (cr_all rfl) n_all b_all (ma_cons (me_o (mo_lc s H [("one", 2)] rfl nd (mi_seq (me_var 0)) (by first | (show blkC ["thing", "many", "one"] (defScope s_are_under) _ _ = true; decide +kernel) | kernel_rfl) (fun _ _ _ _ _ => (mg_name 2 nd)) (fun _ _ _ _ _ => mts_nil) (fun _ _ _ _ _ => (me_callC h_is_under (hr.mono (by decide)) (ma_cons (me_var 2) (ma_cons (me_var 1) ma_nil)))) gw1)) ma_nil))))))⟩
abbrev s_is_lot : Stmt := top 11
theorem sc_is_lot : FnScope ["thing", "many", "at"] ["thing", "many"] (defScope s_is_lot) := ⟨rfl, rfl, rfl, by decide +kernel, rfl, by decide +kernel, by decide +kernel⟩
def b_is_lot : G.Env → Out := (mRet (mAndV (mCallN 2 m_are_under.fn (mCons (mVar 0) (mCons (mVar 1) mNil))) (mCall (d1 D.all) (mCons (mLc [2] (mRange2 (mC (.int 1)) (mCall (d1 D.len) (mCons (mVar 0) mNil))) (gnName 2) mYes (m2 D.lt (m2 D.ix (mVar 0) (m2 D.sub (mVar 2) (mC (.int 1)))) (m2 D.ix (mVar 0) (mVar 2)))) mNil))))
def m_is_lot : DefM := ⟨2, 1, b_is_lot⟩
theorem k_is_lot {P : Program} {w : World} {K : PySem.W.Frag} {mg : Str → Option Value} {base : Heap} {f : Addr} {fd : FuncData} (F : FnP K "is_lot" s_is_lot f fd) (g : mg "is_lot" = some (.ref f)) {f_are_under : Addr} {fd_are_under : FuncData} (h_are_under : Fd P w K mg base 3 "are_under" ["thing", "many"] f_are_under fd_are_under m_are_under.fn) (n_all : mg "all" = none) (n_range : mg "range" = none) (n_len : mg "len" = none) : Fd P w K mg base 4 "is_lot" ["thing", "many"] f fd m_is_lot.fn := by
  refine fd_of (k := 3) (N := ["thing", "many", "at"]) (m := m_is_lot) F sc_is_lot g (F.bindsN fun _ _ _ _ _ _ us hl => match us, hl with | [_, _], _ => rfl) rfl rfl fun cdv A outer s H E hr tk => ?_
  have nd := sc_is_lot.nd
  have hu := hu65 hr
  show ∃ t o', MSs _ _ _ _ _ _ o' t b_is_lot
  unfold b_is_lot
  exact ⟨_, [], (mss_one (ms_ret (me_and (me_call tk h_are_under (hr.mono (by decide)) (ma_cons (me_var 0) (ma_cons (me_var 1) ma_nil))) (me_one (me_cb pu_all (cr_all rfl) n_all b_all (ma_cons (me_o (mo_lc s H [("at", 2)] rfl nd (mi_range2 n_range me_int (me_cb pu_len call_lenAll n_len b_len (ma_cons (me_var 0) ma_nil))) (by first | (show blkC ["thing", "many", "at"] (defScope s_is_lot) _ _ = true; decide +kernel) | kernel_rfl) (fun _ _ _ _ _ => (mg_name 2 nd)) (fun _ _ _ _ _ => mts_nil) (fun _ _ _ _ _ => (me_cmp c_lt (me_ix (me_var 0) (me_sub (me_var 2) me_int)) (me_ix (me_var 0) (me_var 2)))) gw1)) ma_nil))))))⟩
abbrev s_is_need : Stmt := top 23
theorem sc_is_need : FnScope ["web", "number", "thing", "other"] ["web", "number", "thing"] (defScope s_is_need) := ⟨rfl, rfl, rfl, by decide +kernel, rfl, by decide +kernel, by decide +kernel⟩
def b_is_need : G.Env → Out := (mSeq (mIf (mNot (mB (mCallN 2 m_is_lot.fn (mCons (mVar 2) (mCons (mCall (d1 D.len) (mCons (m2 D.ix (mVar 0) (mC (.int 1))) mNil)) mNil))))) (mRet (mC (.bl false))) mNext) (mRet (mCall (d1 D.all) (mCons (mLc [3] (mSq D.seq (mVar 2)) (gnName 3) mYes (m2 D.eq (m2 D.ix (m2 D.ix (m2 D.ix (mVar 0) (mC (.int 1))) (mVar 3)) (mC (.int 1))) (m2 D.ix (m2 D.ix (m2 D.ix (mVar 0) (mC (.int 1))) (mVar 1)) (mC (.int 0))))) mNil))))
def m_is_need : DefM := ⟨3, 1, b_is_need⟩
theorem k_is_need {P : Program} {w : World} {K : PySem.W.Frag} {mg : Str → Option Value} {base : Heap} {f : Addr} {fd : FuncData} (F : FnP K "is_need" s_is_need f fd) (g : mg "is_need" = some (.ref f)) {f_is_lot : Addr} {fd_is_lot : FuncData} (h_is_lot : Fd P w K mg base 4 "is_lot" ["thing", "many"] f_is_lot fd_is_lot m_is_lot.fn) (n_len : mg "len" = none) (n_all : mg "all" = none) : Fd P w K mg base 5 "is_need" ["web", "number", "thing"] f fd m_is_need.fn := by
  refine fd_of (k := 4) (N := ["web", "number", "thing", "other"]) (m := m_is_need) F sc_is_need g (F.bindsN fun _ _ _ _ _ _ us hl => match us, hl with | [_, _, _], _ => rfl) rfl rfl fun cdv A outer s H E hr tk => ?_
  have nd := sc_is_need.nd
  have hu := hu65 hr
  show ∃ t o', MSs _ _ _ _ _ _ o' t b_is_need
  unfold b_is_need
  exact ⟨_, [], (mss_cons (ms_if (mt_not (mt_val (me_call tk h_is_lot (hr.mono (by decide)) (ma_cons (me_var 2) (ma_cons (me_cb pu_len call_lenAll n_len b_len (ma_cons (me_ix (me_var 0) me_int) ma_nil)) ma_nil))))) (mss_one (ms_ret me_bl)) mss_nil) (mss_one (ms_ret (me_cb pu_all (cr_all rfl) n_all b_all (ma_cons (me_o (mo_lc s H [("other", 3)] rfl nd (mi_seq (me_var 2)) (by first | (show blkC ["web", "number", "thing", "other"] (defScope s_is_need) _ _ = true; decide +kernel) | kernel_rfl) (fun _ _ _ _ _ => (mg_name 3 nd)) (fun _ _ _ _ _ => mts_nil) (fun _ _ _ _ _ => (me_cmp (c_eq hu) (me_ix (me_ix (me_ix (me_var 0) me_int) (me_var 3)) me_int) (me_ix (me_ix (me_ix (me_var 0) me_int) (me_var 1)) me_int))) gw1)) ma_nil)))))⟩
abbrev s_are_needs : Stmt := top 24
theorem sc_are_needs : FnScope ["web", "thing", "number", "one"] ["web", "thing"] (defScope s_are_needs) := ⟨rfl, rfl, rfl, by decide +kernel, rfl, by decide +kernel, by decide +kernel⟩
def b_are_needs : G.Env → Out := (mSeq (mIf (mNot (mB (mCallN 2 m_is_tuple_of.fn (mCons (mVar 1) (mCons (mCall (d1 D.len) (mCons (m2 D.ix (mVar 0) (mC (.int 1))) mNil)) mNil))))) (mRet (mC (.bl false))) mNext) (mRet (mCall (d1 D.all) (mCons (mLc [2, 3] (mSq (dEnum D.seq) (mVar 1)) (gnTup 2 (gnCons (gnName 2) (gnCons (gnName 3) gnNil))) mYes (mCall0 3 m_is_need.fn (mCons (mVar 0) (mCons (mVar 2) (mCons (mVar 3) mNil))))) mNil))))
def m_are_needs : DefM := ⟨2, 2, b_are_needs⟩
theorem k_are_needs {P : Program} {w : World} {K : PySem.W.Frag} {mg : Str → Option Value} {base : Heap} {f : Addr} {fd : FuncData} (F : FnP K "are_needs" s_are_needs f fd) (g : mg "are_needs" = some (.ref f)) {f_is_tuple_of : Addr} {fd_is_tuple_of : FuncData} (h_is_tuple_of : Fd P w K mg base 1 "is_tuple_of" ["thing", "many"] f_is_tuple_of fd_is_tuple_of m_is_tuple_of.fn) {f_is_need : Addr} {fd_is_need : FuncData} (h_is_need : Fd P w K mg base 5 "is_need" ["web", "number", "thing"] f_is_need fd_is_need m_is_need.fn) (n_len : mg "len" = none) (n_all : mg "all" = none) (n_enumerate : mg "enumerate" = none) : Fd P w K mg base 6 "are_needs" ["web", "thing"] f fd m_are_needs.fn := by
  refine fd_of (k := 5) (N := ["web", "thing", "number", "one"]) (m := m_are_needs) F sc_are_needs g (F.bindsN fun _ _ _ _ _ _ us hl => match us, hl with | [_, _], _ => rfl) rfl rfl fun cdv A outer s H E hr tk => ?_
  have nd := sc_are_needs.nd
  have hu := hu65 hr
  show ∃ t o', MSs _ _ _ _ _ _ o' t b_are_needs
  unfold b_are_needs
  exact ⟨_, [], (mss_cons (ms_if (mt_not (mt_val (me_call tk h_is_tuple_of (hr.mono (by decide)) (ma_cons (me_var 1) (ma_cons (me_cb pu_len call_lenAll n_len b_len (ma_cons (me_ix (me_var 0) me_int) ma_nil)) ma_nil))))) (mss_one (ms_ret me_bl)) mss_nil) (mss_one (ms_ret (me_cb pu_all (cr_all rfl) n_all b_all (ma_cons (me_o (mo_lc s H [("number", 2), ("one", 3)] rfl nd (mi_enum n_enumerate (me_var 1)) (by first | (show blkC ["web", "thing", "number", "one"] (defScope s_are_needs) _ _ = true; decide +kernel) | kernel_rfl) (fun _ _ _ _ _ => (mg_tup rfl (mgs_cons (mg_name 2 nd) (mgs_cons (mg_name 3 nd) mgs_nil)))) (fun _ _ _ _ _ => mts_nil) (fun _ _ _ _ _ => (me_callC h_is_need (hr.mono (by decide)) (ma_cons (me_var 0) (ma_cons (me_var 2) (ma_cons (me_var 3) ma_nil))))) gw2)) ma_nil)))))⟩
abbrev s_need_needs : Stmt := top 25
theorem sc_need_needs : FnScope ["web", "thing"] ["web", "thing"] (defScope s_need_needs) := ⟨rfl, rfl, rfl, by decide +kernel, rfl, by decide +kernel, by decide +kernel⟩
def b_need_needs : G.Env → Out := (mSeq (mDrop (mCallN 1 m_need_web.fn (mCons (mVar 0) mNil))) (mIf (mNot (mB (mCallN 2 m_are_needs.fn (mCons (mVar 0) (mCons (mVar 1) mNil))))) mBad mNext))
def m_need_needs : DefM := ⟨2, 0, b_need_needs⟩
theorem k_need_needs {P : Program} {w : World} {K : PySem.W.Frag} {mg : Str → Option Value} {base : Heap} {f : Addr} {fd : FuncData} (F : FnP K "need_needs" s_need_needs f fd) (g : mg "need_needs" = some (.ref f)) {f_need_web : Addr} {fd_need_web : FuncData} (h_need_web : Fd P w K mg base 5 "need_web" ["thing"] f_need_web fd_need_web m_need_web.fn) {f_are_needs : Addr} {fd_are_needs : FuncData} (h_are_needs : Fd P w K mg base 6 "are_needs" ["web", "thing"] f_are_needs fd_are_needs m_are_needs.fn) : Fd P w K mg base 7 "need_needs" ["web", "thing"] f fd m_need_needs.fn := by
  refine fd_of (k := 6) (N := ["web", "thing"]) (m := m_need_needs) F sc_need_needs g (F.bindsN fun _ _ _ _ _ _ us hl => match us, hl with | [_, _], _ => rfl) rfl rfl fun cdv A outer s H E hr tk => ?_
  have nd := sc_need_needs.nd
  have hu := hu65 hr
  show ∃ t o', MSs _ _ _ _ _ _ o' t b_need_needs
  unfold b_need_needs
  exact ⟨_, [], (mss_cons (ms_expr (me_call tk h_need_web (hr.mono (by decide)) (ma_cons (me_var 0) ma_nil))) (mss_one (ms_if (mt_not (mt_val (me_call tk h_are_needs (hr.mono (by decide)) (ma_cons (me_var 0) (ma_cons (me_var 1) ma_nil))))) (mss_one ms_bad) mss_nil)))⟩
abbrev s_all_lots : Stmt := top 21
theorem sc_all_lots : FnScope ["many", "found", "number", "lot"] ["many"] (defScope s_all_lots) := ⟨rfl, rfl, rfl, by decide +kernel, rfl, by decide +kernel, by decide +kernel⟩
def b_all_lots : G.Env → Out := (mSeq (mSet 1 (mLst (mCons (mTup mNil) mNil))) (mSeq (mFor (mSq dRange1 (mVar 0)) (gnName 2) (mSet 1 (m2 D.add (mVar 1) (mLc [3] (mSq D.seq (mVar 1)) (gnName 3) mYes (m2 D.add (mVar 3) (mTup (mCons (mVar 2) mNil))))))) (mRet (mVar 1))))
def m_all_lots : DefM := ⟨1, 3, b_all_lots⟩
theorem k_all_lots {P : Program} {w : World} {K : PySem.W.Frag} {mg : Str → Option Value} {base : Heap} {f : Addr} {fd : FuncData} (F : FnP K "all_lots" s_all_lots f fd) (g : mg "all_lots" = some (.ref f)) (n_range : mg "range" = none) : Fd P w K mg base 1 "all_lots" ["many"] f fd m_all_lots.fn := by
  refine fd_of (k := 0) (N := ["many", "found", "number", "lot"]) (m := m_all_lots) F sc_all_lots g (F.bindsN fun _ _ _ _ _ _ us hl => match us, hl with | [_], _ => rfl) rfl rfl fun cdv A outer s H E hr tk => ?_
  have nd := sc_all_lots.nd
  have hu := hu65 hr
  show ∃ t o', MSs _ _ _ _ _ _ o' t b_all_lots
  unfold b_all_lots
  exact ⟨_, [], (mss_cons (ms_set 1 nd (me_o (mo_lst (ma_cons (me_tup ma_nil) ma_nil)))) (mss_cons (ms_for (passes_of rfl) rfl (mi_range1 n_range (me_var 0)) (mg_name 2 nd) (mss_one (ms_set 1 nd (me_add (me_var 1) (me_o (mo_lc s H [("lot", 3)] rfl nd (mi_seq (me_var 1)) (by first | (show blkC ["many", "found", "number", "lot"] (defScope s_all_lots) _ _ = true; decide +kernel) | kernel_rfl) (fun _ _ _ _ _ => (mg_name 3 nd)) (fun _ _ _ _ _ => mts_nil) (fun _ _ _ _ _ => (me_add (me_var 3) (me_tup (ma_cons (me_var 2) ma_nil)))) gw1)))))) (mss_one (ms_ret (me_var 1)))))⟩
abbrev s_is_kept_lot : Stmt := top 26
theorem sc_is_kept_lot : FnScope ["needs", "lot", "number", "other"] ["needs", "lot"] (defScope s_is_kept_lot) := ⟨rfl, rfl, rfl, by decide +kernel, rfl, by decide +kernel, by decide +kernel⟩
def b_is_kept_lot : G.Env → Out := (mRet (mCall (d1 D.all) (mCons (mLc [2] (mSq D.seq (mVar 1)) (gnName 2) mYes (mCall (d1 D.all) (mCons (mLc [3] (mSq D.seq (m2 D.ix (mVar 0) (mVar 2))) (gnName 3) mYes (m2 D.isIn (mVar 3) (mVar 1))) mNil))) mNil)))
def m_is_kept_lot : DefM := ⟨2, 2, b_is_kept_lot⟩
theorem k_is_kept_lot {P : Program} {w : World} {K : PySem.W.Frag} {mg : Str → Option Value} {base : Heap} {f : Addr} {fd : FuncData} (F : FnP K "is_kept_lot" s_is_kept_lot f fd) (g : mg "is_kept_lot" = some (.ref f)) (n_all : mg "all" = none) : Fd P w K mg base 1 "is_kept_lot" ["needs", "lot"] f fd m_is_kept_lot.fn := by
  refine fd_of (k := 0) (N := ["needs", "lot", "number", "other"]) (m := m_is_kept_lot) F sc_is_kept_lot g (F.bindsN fun _ _ _ _ _ _ us hl => match us, hl with | [_, _], _ => rfl) rfl rfl fun cdv A outer s H E hr tk => ?_
  have nd := sc_is_kept_lot.nd
  have hu := hu65 hr
  show ∃ t o', MSs _ _ _ _ _ _ o' t b_is_kept_lot
  unfold b_is_kept_lot
  exact ⟨_, [], (mss_one (ms_ret (me_cb pu_all (cr_all rfl) n_all b_all (ma_cons (me_o (mo_lc s H [("number", 2)] rfl nd (mi_seq (me_var 1)) (by first | (show blkC ["needs", "lot", "number", "other"] (defScope s_is_kept_lot) _ _ = true; decide +kernel) | kernel_rfl) (fun _ _ _ _ _ => (mg_name 2 nd)) (fun _ _ _ _ _ => mts_nil) (fun _ _ _ _ _ => (me_cb pu_all (cr_all rfl) n_all b_all (ma_cons (me_o (mo_lc s H [("other", 3)] rfl nd (mi_seq (me_ix (me_var 0) (me_var 2))) (by first | (show blkC ["needs", "lot", "number", "other"] (defScope s_is_kept_lot) _ _ = true; decide +kernel) | kernel_rfl) (fun _ _ _ _ _ => (mg_name 3 nd)) (fun _ _ _ _ _ => mts_nil) (fun _ _ _ _ _ => (me_cmp (c_in hu) (me_var 3) (me_var 1))) gw1)) ma_nil))) gw1)) ma_nil))))⟩
abbrev s_need_all : Stmt := top 32
theorem sc_need_all : FnScope ["web", "needs", "lot"] ["web", "needs"] (defScope s_need_all) := ⟨rfl, rfl, rfl, by decide +kernel, rfl, by decide +kernel, by decide +kernel⟩
def b_need_all : G.Env → Out := (mSeq (mDrop (mCallN 2 m_need_needs.fn (mCons (mVar 0) (mCons (mVar 1) mNil)))) (mRet (mCall (d1 D.toTup) (mCons (mCall (d1 D.sortT) (mCons (mLc [2] (mSq D.seq (mCallN 1 m_all_lots.fn (mCons (mCall (d1 D.len) (mCons (m2 D.ix (mVar 0) (mC (.int 1))) mNil)) mNil))) (gnName 2) (mB (mCall0 2 m_is_kept_lot.fn (mCons (mVar 1) (mCons (mVar 2) mNil)))) (mVar 2)) mNil)) mNil))))
def m_need_all : DefM := ⟨2, 1, b_need_all⟩
theorem k_need_all {P : Program} {w : World} {K : PySem.W.Frag} {mg : Str → Option Value} {base : Heap} {f : Addr} {fd : FuncData} (F : FnP K "need_all" s_need_all f fd) (g : mg "need_all" = some (.ref f)) {f_need_needs : Addr} {fd_need_needs : FuncData} (h_need_needs : Fd P w K mg base 7 "need_needs" ["web", "thing"] f_need_needs fd_need_needs m_need_needs.fn) {f_all_lots : Addr} {fd_all_lots : FuncData} (h_all_lots : Fd P w K mg base 1 "all_lots" ["many"] f_all_lots fd_all_lots m_all_lots.fn) {f_is_kept_lot : Addr} {fd_is_kept_lot : FuncData} (h_is_kept_lot : Fd P w K mg base 1 "is_kept_lot" ["needs", "lot"] f_is_kept_lot fd_is_kept_lot m_is_kept_lot.fn) (n_tuple : mg "tuple" = none) (n_sorted : mg "sorted" = none) (n_len : mg "len" = none) : Fd P w K mg base 8 "need_all" ["web", "needs"] f fd m_need_all.fn := by
  refine fd_of (k := 7) (N := ["web", "needs", "lot"]) (m := m_need_all) F sc_need_all g (F.bindsN fun _ _ _ _ _ _ us hl => match us, hl with | [_, _], _ => rfl) rfl rfl fun cdv A outer s H E hr tk => ?_
  have nd := sc_need_all.nd
  have hu := hu65 hr
  show ∃ t o', MSs _ _ _ _ _ _ o' t b_need_all
  unfold b_need_all
  exact ⟨_, [], (mss_cons (ms_expr (me_call tk h_need_needs (hr.mono (by decide)) (ma_cons (me_var 0) (ma_cons (me_var 1) ma_nil)))) (mss_one (ms_ret (me_ct pu_tuple call_tuple_of n_tuple b_tuple (ma_cons (me_o (mo_cb pu_sortT (TpL.cr_soT hu) n_sorted b_sorted (ma_cons (me_o (mo_lc s H [("lot", 2)] rfl nd (mi_seq (me_call tk h_all_lots (hr.mono (by decide)) (ma_cons (me_cb pu_len call_lenAll n_len b_len (ma_cons (me_ix (me_var 0) me_int) ma_nil)) ma_nil))) (by first | (show blkC ["web", "needs", "lot"] (defScope s_need_all) _ _ = true; decide +kernel) | kernel_rfl) (fun _ _ _ _ _ => (mg_name 2 nd)) (fun _ _ _ _ _ => (mts_one (mt_val (me_callC h_is_kept_lot (hr.mono (by decide)) (ma_cons (me_var 1) (ma_cons (me_var 2) ma_nil)))))) (fun _ _ _ _ _ => (me_var 2)) gw1)) ma_nil))) ma_nil)))))⟩
abbrev s__law_lot : Stmt := top 41
theorem sc__law_lot : FnScope ["cell", "many", "marks", "k"] ["cell", "many"] (defScope s__law_lot) := ⟨rfl, rfl, rfl, by decide +kernel, rfl, by decide +kernel, by decide +kernel⟩
def b__law_lot : G.Env → Out := (mSeq (mSet 2 (mCallN 3 m__law_row.fn (mCons (mVar 0) (mCons (mVar 1) (mCons (mC (.int 2)) mNil))))) (mRet (mCall (d1 D.toTup) (mCons (mLc [3] (mSq dRange1 (mVar 1)) (gnName 3) (mB (m2 D.eq (m2 D.ix (mVar 2) (mVar 3)) (mC (.int 1)))) (mVar 3)) mNil))))
def m__law_lot : DefM := ⟨2, 2, b__law_lot⟩
theorem k__law_lot {P : Program} {w : World} {K : PySem.W.Frag} {mg : Str → Option Value} {base : Heap} {f : Addr} {fd : FuncData} (F : FnP K "_law_lot" s__law_lot f fd) (g : mg "_law_lot" = some (.ref f)) {f__law_row : Addr} {fd__law_row : FuncData} (h__law_row : Fd P w K mg base 2 "_law_row" ["cell", "many", "top"] f__law_row fd__law_row m__law_row.fn) (n_tuple : mg "tuple" = none) (n_range : mg "range" = none) : Fd P w K mg base 3 "_law_lot" ["cell", "many"] f fd m__law_lot.fn := by
  refine fd_of (k := 2) (N := ["cell", "many", "marks", "k"]) (m := m__law_lot) F sc__law_lot g (F.bindsN fun _ _ _ _ _ _ us hl => match us, hl with | [_, _], _ => rfl) rfl rfl fun cdv A outer s H E hr tk => ?_
  have nd := sc__law_lot.nd
  have hu := hu65 hr
  show ∃ t o', MSs _ _ _ _ _ _ o' t b__law_lot
  unfold b__law_lot
  exact ⟨_, [], (mss_cons (ms_set 2 nd (me_call tk h__law_row (hr.mono (by decide)) (ma_cons (me_var 0) (ma_cons (me_var 1) (ma_cons me_int ma_nil))))) (mss_one (ms_ret (me_ct pu_tuple call_tuple_of n_tuple b_tuple (ma_cons (me_o (mo_lc s H [("k", 3)] rfl nd (mi_range1 n_range (me_var 1)) (by first | (show blkC ["cell", "many", "marks", "k"] (defScope s__law_lot) _ _ = true; decide +kernel) | kernel_rfl) (fun _ _ _ _ _ => (mg_name 3 nd)) (fun _ _ _ _ _ => (mts_one (mt_cmp (c_eq hu) (me_ix (me_var 2) (me_var 3)) me_int))) (fun _ _ _ _ _ => (me_var 3)) gw1)) ma_nil)))))⟩
abbrev s__law_flag : Stmt := top 42
theorem sc__law_flag : FnScope ["found", "due"] ["found", "due"] (defScope s__law_flag) := ⟨rfl, rfl, rfl, by decide +kernel, rfl, by decide +kernel, by decide +kernel⟩
def b__law_flag : G.Env → Out := (mSeq (mIf (mB (mVar 1)) (mRet (m2 D.is (mVar 0) (mC (.bl true)))) mNext) (mRet (m2 D.is (mVar 0) (mC (.bl false)))))
def m__law_flag : DefM := ⟨2, 0, b__law_flag⟩
theorem k__law_flag {P : Program} {w : World} {K : PySem.W.Frag} {mg : Str → Option Value} {base : Heap} {f : Addr} {fd : FuncData} (F : FnP K "_law_flag" s__law_flag f fd) (g : mg "_law_flag" = some (.ref f)) : Fd P w K mg base 1 "_law_flag" ["found", "due"] f fd m__law_flag.fn := by
  refine fd_of (k := 0) (N := ["found", "due"]) (m := m__law_flag) F sc__law_flag g (F.bindsN fun _ _ _ _ _ _ us hl => match us, hl with | [_, _], _ => rfl) rfl rfl fun cdv A outer s H E hr tk => ?_
  have nd := sc__law_flag.nd
  have hu := hu65 hr
  show ∃ t o', MSs _ _ _ _ _ _ o' t b__law_flag
  unfold b__law_flag
  exact ⟨_, [], (mss_cons (ms_if (mt_val (me_var 1)) (mss_one (ms_ret (me_cmp c_is (me_var 0) me_bl))) mss_nil) (mss_one (ms_ret (me_cmp c_is (me_var 0) me_bl))))⟩
abbrev s_is_need_kept : Stmt := top 28
theorem sc_is_need_kept : FnScope ["web", "needs", "thing"] ["web", "needs", "thing"] (defScope s_is_need_kept) := ⟨rfl, rfl, rfl, by decide +kernel, rfl, by decide +kernel, by decide +kernel⟩
def b_is_need_kept : G.Env → Out := (mSeq (mDrop (mCallN 2 m_need_needs.fn (mCons (mVar 0) (mCons (mVar 1) mNil)))) (mRet (mAndV (mCallN 2 m_is_lot.fn (mCons (mVar 2) (mCons (mCall (d1 D.len) (mCons (m2 D.ix (mVar 0) (mC (.int 1))) mNil)) mNil))) (mCallN 2 m_is_kept_lot.fn (mCons (mVar 1) (mCons (mVar 2) mNil))))))
def m_is_need_kept : DefM := ⟨3, 0, b_is_need_kept⟩
theorem k_is_need_kept {P : Program} {w : World} {K : PySem.W.Frag} {mg : Str → Option Value} {base : Heap} {f : Addr} {fd : FuncData} (F : FnP K "is_need_kept" s_is_need_kept f fd) (g : mg "is_need_kept" = some (.ref f)) {f_need_needs : Addr} {fd_need_needs : FuncData} (h_need_needs : Fd P w K mg base 7 "need_needs" ["web", "thing"] f_need_needs fd_need_needs m_need_needs.fn) {f_is_lot : Addr} {fd_is_lot : FuncData} (h_is_lot : Fd P w K mg base 4 "is_lot" ["thing", "many"] f_is_lot fd_is_lot m_is_lot.fn) {f_is_kept_lot : Addr} {fd_is_kept_lot : FuncData} (h_is_kept_lot : Fd P w K mg base 1 "is_kept_lot" ["needs", "lot"] f_is_kept_lot fd_is_kept_lot m_is_kept_lot.fn) (n_len : mg "len" = none) : Fd P w K mg base 8 "is_need_kept" ["web", "needs", "thing"] f fd m_is_need_kept.fn := by
  refine fd_of (k := 7) (N := ["web", "needs", "thing"]) (m := m_is_need_kept) F sc_is_need_kept g (F.bindsN fun _ _ _ _ _ _ us hl => match us, hl with | [_, _, _], _ => rfl) rfl rfl fun cdv A outer s H E hr tk => ?_
  have nd := sc_is_need_kept.nd
  have hu := hu65 hr
  show ∃ t o', MSs _ _ _ _ _ _ o' t b_is_need_kept
  unfold b_is_need_kept
  exact ⟨_, [], (mss_cons (ms_expr (me_call tk h_need_needs (hr.mono (by decide)) (ma_cons (me_var 0) (ma_cons (me_var 1) ma_nil)))) (mss_one (ms_ret (me_and (me_call tk h_is_lot (hr.mono (by decide)) (ma_cons (me_var 2) (ma_cons (me_cb pu_len call_lenAll n_len b_len (ma_cons (me_ix (me_var 0) me_int) ma_nil)) ma_nil))) (me_one (me_call tk h_is_kept_lot (hr.mono (by decide)) (ma_cons (me_var 1) (ma_cons (me_var 2) ma_nil))))))))⟩
abbrev s_need_lot_of : Stmt := top 27
theorem sc_need_lot_of : FnScope ["web", "thing"] ["web", "thing"] (defScope s_need_lot_of) := ⟨rfl, rfl, rfl, by decide +kernel, rfl, by decide +kernel, by decide +kernel⟩
def b_need_lot_of : G.Env → Out := (mIf (mNot (mB (mCallN 2 m_is_lot.fn (mCons (mVar 1) (mCons (mCall (d1 D.len) (mCons (m2 D.ix (mVar 0) (mC (.int 1))) mNil)) mNil))))) mBad mNext)
def m_need_lot_of : DefM := ⟨2, 0, b_need_lot_of⟩
theorem k_need_lot_of {P : Program} {w : World} {K : PySem.W.Frag} {mg : Str → Option Value} {base : Heap} {f : Addr} {fd : FuncData} (F : FnP K "need_lot_of" s_need_lot_of f fd) (g : mg "need_lot_of" = some (.ref f)) {f_is_lot : Addr} {fd_is_lot : FuncData} (h_is_lot : Fd P w K mg base 4 "is_lot" ["thing", "many"] f_is_lot fd_is_lot m_is_lot.fn) (n_len : mg "len" = none) : Fd P w K mg base 5 "need_lot_of" ["web", "thing"] f fd m_need_lot_of.fn := by
  refine fd_of (k := 4) (N := ["web", "thing"]) (m := m_need_lot_of) F sc_need_lot_of g (F.bindsN fun _ _ _ _ _ _ us hl => match us, hl with | [_, _], _ => rfl) rfl rfl fun cdv A outer s H E hr tk => ?_
  have nd := sc_need_lot_of.nd
  have hu := hu65 hr
  show ∃ t o', MSs _ _ _ _ _ _ o' t b_need_lot_of
  unfold b_need_lot_of
  exact ⟨_, [], (mss_one (ms_if (mt_not (mt_val (me_call tk h_is_lot (hr.mono (by decide)) (ma_cons (me_var 1) (ma_cons (me_cb pu_len call_lenAll n_len b_len (ma_cons (me_ix (me_var 0) me_int) ma_nil)) ma_nil))))) (mss_one ms_bad) mss_nil))⟩
abbrev s_left_order : Stmt := top 29
theorem sc_left_order : FnScope ["needs", "lot", "left", "found", "going", "bad", "number", "other"] ["needs", "lot"] (defScope s_left_order) := ⟨rfl, rfl, rfl, by decide +kernel, rfl, by decide +kernel, by decide +kernel⟩
def b_left_order : G.Env → Out := (mSeq (mSet 2 (mCall (d1 D.toLst) (mCons (mVar 1) mNil))) (mSeq (mSet 3 (mLst mNil)) (mSeq (mSet 4 (mC (.bl true))) (mSeq (mWhile (mB (mVar 4)) (mSeq (mSet 5 (mScalL (mLc [6] (mSq D.seq (mVar 2)) (gnName 6) (mNot (mB (mCall (d1 D.all) (mCons (mLc [7] (mSq D.seq (m2 D.ix (mVar 0) (mVar 6))) (gnName 7) mYes (m2 D.isIn (mVar 7) (mVar 2))) mNil)))) (mVar 6)))) (mSeq (mSet 4 (m2 D.gt (mCall (d1 D.len) (mCons (mVar 5) mNil)) (mC (.int 0)))) (mIf (mB (mVar 4)) (mSeq (mMut "list" 3 dAppend (mCons (m2 D.ix (mVar 5) (mC (.int 0))) mNil) kDrop) (mMut "list" 2 dRemove (mCons (m2 D.ix (mVar 5) (mC (.int 0))) mNil) kDrop)) mNext)))) (mRet (mTup (mCons (mCall (d1 D.toTup) (mCons (mVar 2) mNil)) (mCons (mCall (d1 D.toTup) (mCons (mVar 3) mNil)) mNil))))))))
def m_left_order : DefM := ⟨2, 6, b_left_order⟩
theorem k_left_order {P : Program} {w : World} {K : PySem.W.Frag} {mg : Str → Option Value} {base : Heap} {f : Addr} {fd : FuncData} (F : FnP K "left_order" s_left_order f fd) (g : mg "left_order" = some (.ref f)) (n_list : mg "list" = none) (n_all : mg "all" = none) (n_len : mg "len" = none) (n_tuple : mg "tuple" = none) : Fd P w K mg base 1 "left_order" ["needs", "lot"] f fd m_left_order.fn := by
  refine fd_of (k := 0) (N := ["needs", "lot", "left", "found", "going", "bad", "number", "other"]) (m := m_left_order) F sc_left_order g (F.bindsN fun _ _ _ _ _ _ us hl => match us, hl with | [_, _], _ => rfl) rfl rfl fun cdv A outer s H E hr tk => ?_
  have nd := sc_left_order.nd
  have hu := hu65 hr
  show ∃ t o', MSs _ _ _ _ _ _ o' t b_left_order
  unfold b_left_order
  exact ⟨_, [], (mss_cons (ms_setO 2 nd (mo_ct pu_list call_list_of n_list b_list (ma_cons (me_var 1) ma_nil))) (mss_cons (ms_setO 3 nd (mo_lst ma_nil)) (mss_cons (ms_set 4 nd me_bl) (mss_cons (ms_weak [3, 2] (ms_while (passes_of rfl) (mt_val (me_var 4)) (mss_cons (ms_weak [5] (ms_setLcB 5 s H 2 [("number", 6)] rfl nd (mi_seq (me_var 2)) (by first | (show blkC ["needs", "lot", "left", "found", "going", "bad", "number", "other"] (defScope s_left_order) _ _ = true; decide +kernel) | kernel_rfl) (fun _ _ _ _ _ => (mg_name 6 nd)) (fun _ _ _ _ _ => (mts_one (mt_not (mt_val (me_cb pu_all (cr_all rfl) n_all b_all (ma_cons (me_o (mo_lc s H [("other", 7)] rfl nd (mi_seq (me_ix (me_var 0) (me_var 6))) (by first | (show blkC ["needs", "lot", "left", "found", "going", "bad", "number", "other"] (defScope s_left_order) _ _ = true; decide +kernel) | kernel_rfl) (fun _ _ _ _ _ => (mg_name 7 nd)) (fun _ _ _ _ _ => mts_nil) (fun _ _ _ _ _ => (me_cmp (c_in hu) (me_var 7) (me_var 2))) gw1)) ma_nil)))))) (fun _ _ _ _ _ => (me_var 6)) gw1)) (mss_cons (ms_set 4 nd (me_cmp c_gt (me_cb pu_len call_lenAll n_len b_len (ma_cons (me_var 5) ma_nil)) me_int)) (mss_one (ms_if (mt_val (me_var 4)) (mss_cons (ms_mut m_append 3 (ma_cons (me_ix (me_var 5) me_int) ma_nil)) (mss_one (ms_mut m_remove 2 (ma_cons (me_ix (me_var 5) me_int) ma_nil)))) mss_nil)))))) (mss_one (ms_ret (me_tup (ma_cons (me_ct pu_tuple call_tuple_of n_tuple b_tuple (ma_cons (me_var 2) ma_nil)) (ma_cons (me_ct pu_tuple call_tuple_of n_tuple b_tuple (ma_cons (me_var 3) ma_nil)) ma_nil)))))))))⟩
abbrev s_need_greatest : Stmt := top 30
theorem sc_need_greatest : FnScope ["web", "needs", "lot"] ["web", "needs", "lot"] (defScope s_need_greatest) := ⟨rfl, rfl, rfl, by decide +kernel, rfl, by decide +kernel, by decide +kernel⟩
def b_need_greatest : G.Env → Out := (mSeq (mDrop (mCallN 2 m_need_needs.fn (mCons (mVar 0) (mCons (mVar 1) mNil)))) (mSeq (mDrop (mCallN 2 m_need_lot_of.fn (mCons (mVar 0) (mCons (mVar 2) mNil)))) (mRet (mCallN 2 m_left_order.fn (mCons (mVar 1) (mCons (mVar 2) mNil))))))
def m_need_greatest : DefM := ⟨3, 0, b_need_greatest⟩
theorem k_need_greatest {P : Program} {w : World} {K : PySem.W.Frag} {mg : Str → Option Value} {base : Heap} {f : Addr} {fd : FuncData} (F : FnP K "need_greatest" s_need_greatest f fd) (g : mg "need_greatest" = some (.ref f)) {f_need_needs : Addr} {fd_need_needs : FuncData} (h_need_needs : Fd P w K mg base 7 "need_needs" ["web", "thing"] f_need_needs fd_need_needs m_need_needs.fn) {f_need_lot_of : Addr} {fd_need_lot_of : FuncData} (h_need_lot_of : Fd P w K mg base 5 "need_lot_of" ["web", "thing"] f_need_lot_of fd_need_lot_of m_need_lot_of.fn) {f_left_order : Addr} {fd_left_order : FuncData} (h_left_order : Fd P w K mg base 1 "left_order" ["needs", "lot"] f_left_order fd_left_order m_left_order.fn) : Fd P w K mg base 8 "need_greatest" ["web", "needs", "lot"] f fd m_need_greatest.fn := by
  refine fd_of (k := 7) (N := ["web", "needs", "lot"]) (m := m_need_greatest) F sc_need_greatest g (F.bindsN fun _ _ _ _ _ _ us hl => match us, hl with | [_, _, _], _ => rfl) rfl rfl fun cdv A outer s H E hr tk => ?_
  have nd := sc_need_greatest.nd
  have hu := hu65 hr
  show ∃ t o', MSs _ _ _ _ _ _ o' t b_need_greatest
  unfold b_need_greatest
  exact ⟨_, [], (mss_cons (ms_expr (me_call tk h_need_needs (hr.mono (by decide)) (ma_cons (me_var 0) (ma_cons (me_var 1) ma_nil)))) (mss_cons (ms_expr (me_call tk h_need_lot_of (hr.mono (by decide)) (ma_cons (me_var 0) (ma_cons (me_var 2) ma_nil)))) (mss_one (ms_ret (me_call tk h_left_order (hr.mono (by decide)) (ma_cons (me_var 1) (ma_cons (me_var 2) ma_nil)))))))⟩
abbrev s_is_need_greatest : Stmt := top 31
theorem sc_is_need_greatest : FnScope ["web", "needs", "lot", "thing", "left", "number", "one", "other"] ["web", "needs", "lot", "thing"] (defScope s_is_need_greatest) := ⟨rfl, rfl, rfl, by decide +kernel, rfl, by decide +kernel, by decide +kernel⟩
def b_is_need_greatest : G.Env → Out := (mSeq (mDrop (mCallN 2 m_need_needs.fn (mCons (mVar 0) (mCons (mVar 1) mNil)))) (mSeq (mDrop (mCallN 2 m_need_lot_of.fn (mCons (mVar 0) (mCons (mVar 2) mNil)))) (mSeq (mIf (mOr (mNot (mB (mCallN 2 m_is_tuple_of.fn (mCons (mVar 3) (mCons (mC (.int 2)) mNil))))) (mOr (mNot (mB (mCallN 2 m_is_lot.fn (mCons (m2 D.ix (mVar 3) (mC (.int 0))) (mCons (mCall (d1 D.len) (mCons (m2 D.ix (mVar 0) (mC (.int 1))) mNil)) mNil))))) (mNot (mB (mCallN 2 m_is_kept_lot.fn (mCons (mVar 1) (mCons (m2 D.ix (mVar 3) (mC (.int 0))) mNil))))))) (mRet (mC (.bl false))) mNext) (mSeq (mIf (mOr (mNot (mB (mCall (d2 D.isi) (mCons (m2 D.ix (mVar 3) (mC (.int 1))) (mCons (mC (.ty "tuple")) mNil))))) (mNot (mB (mCall (d1 D.all) (mCons (mLc [6] (mSq D.seq (m2 D.ix (mVar 3) (mC (.int 1)))) (gnName 6) mYes (mCall0 2 m_is_under.fn (mCons (mVar 6) (mCons (mCall (d1 D.len) (mCons (m2 D.ix (mVar 0) (mC (.int 1))) mNil)) mNil)))) mNil))))) (mRet (mC (.bl false))) mNext) (mSeq (mIf (mB (m2 D.ne (mCall (d1 D.sortI') (mCons (m2 D.add (m2 D.ix (mVar 3) (mC (.int 0))) (m2 D.ix (mVar 3) (mC (.int 1)))) mNil)) (mCall (d1 D.toLst) (mCons (mVar 2) mNil)))) (mRet (mC (.bl false))) mNext) (mSeq (mSet 4 (mCall (d1 D.toLst) (mCons (mVar 2) mNil))) (mSeq (mFor (mSq D.seq (m2 D.ix (mVar 3) (mC (.int 1)))) (gnName 5) (mSeq (mIf (mB (mCall (d1 D.all) (mCons (mLc [7] (mSq D.seq (m2 D.ix (mVar 1) (mVar 5))) (gnName 7) mYes (m2 D.isIn (mVar 7) (mVar 4))) mNil))) (mRet (mC (.bl false))) mNext) (mMut "list" 4 dRemove (mCons (mVar 5) mNil) kDrop))) (mRet (mC (.bl true))))))))))
def m_is_need_greatest : DefM := ⟨4, 4, b_is_need_greatest⟩
theorem k_is_need_greatest {P : Program} {w : World} {K : PySem.W.Frag} {mg : Str → Option Value} {base : Heap} {f : Addr} {fd : FuncData} (F : FnP K "is_need_greatest" s_is_need_greatest f fd) (g : mg "is_need_greatest" = some (.ref f)) {f_need_needs : Addr} {fd_need_needs : FuncData} (h_need_needs : Fd P w K mg base 7 "need_needs" ["web", "thing"] f_need_needs fd_need_needs m_need_needs.fn) {f_need_lot_of : Addr} {fd_need_lot_of : FuncData} (h_need_lot_of : Fd P w K mg base 5 "need_lot_of" ["web", "thing"] f_need_lot_of fd_need_lot_of m_need_lot_of.fn) {f_is_tuple_of : Addr} {fd_is_tuple_of : FuncData} (h_is_tuple_of : Fd P w K mg base 1 "is_tuple_of" ["thing", "many"] f_is_tuple_of fd_is_tuple_of m_is_tuple_of.fn) {f_is_lot : Addr} {fd_is_lot : FuncData} (h_is_lot : Fd P w K mg base 4 "is_lot" ["thing", "many"] f_is_lot fd_is_lot m_is_lot.fn) {f_is_kept_lot : Addr} {fd_is_kept_lot : FuncData} (h_is_kept_lot : Fd P w K mg base 1 "is_kept_lot" ["needs", "lot"] f_is_kept_lot fd_is_kept_lot m_is_kept_lot.fn) {f_is_under : Addr} {fd_is_under : FuncData} (h_is_under : Fd P w K mg base 2 "is_under" ["thing", "many"] f_is_under fd_is_under m_is_under.fn) (n_len : mg "len" = none) (n_isinstance : mg "isinstance" = none) (n_tuple : mg "tuple" = none) (n_all : mg "all" = none) (n_sorted : mg "sorted" = none) (n_list : mg "list" = none) : Fd P w K mg base 8 "is_need_greatest" ["web", "needs", "lot", "thing"] f fd m_is_need_greatest.fn := by
  refine fd_of (k := 7) (N := ["web", "needs", "lot", "thing", "left", "number", "one", "other"]) (m := m_is_need_greatest) F sc_is_need_greatest g (F.bindsN fun _ _ _ _ _ _ us hl => match us, hl with | [_, _, _, _], _ => rfl) rfl rfl fun cdv A outer s H E hr tk => ?_
  have nd := sc_is_need_greatest.nd
  have hu := hu65 hr
  show ∃ t o', MSs _ _ _ _ _ _ o' t b_is_need_greatest
  unfold b_is_need_greatest
  exact ⟨_, [], (mss_cons (ms_expr (me_call tk h_need_needs (hr.mono (by decide)) (ma_cons (me_var 0) (ma_cons (me_var 1) ma_nil)))) (mss_cons (ms_expr (me_call tk h_need_lot_of (hr.mono (by decide)) (ma_cons (me_var 0) (ma_cons (me_var 2) ma_nil)))) (mss_cons (ms_if (mt_w (mw_or (mt_not (mt_val (me_call tk h_is_tuple_of (hr.mono (by decide)) (ma_cons (me_var 3) (ma_cons me_int ma_nil))))) (mw_or (mt_not (mt_val (me_call tk h_is_lot (hr.mono (by decide)) (ma_cons (me_ix (me_var 3) me_int) (ma_cons (me_cb pu_len call_lenAll n_len b_len (ma_cons (me_ix (me_var 0) me_int) ma_nil)) ma_nil))))) (mw_or1 (mt_not (mt_val (me_call tk h_is_kept_lot (hr.mono (by decide)) (ma_cons (me_var 1) (ma_cons (me_ix (me_var 3) me_int) ma_nil))))))))) (mss_one (ms_ret me_bl)) mss_nil) (mss_cons (ms_if (mt_w (mw_or (mt_not (mt_val (me_cb pu_isi call_isi n_isinstance b_isi (ma_cons (me_ix (me_var 3) me_int) (ma_cons (me_ty n_tuple b_tuple) ma_nil))))) (mw_or1 (mt_not (mt_val (me_cb pu_all (cr_all rfl) n_all b_all (ma_cons (me_o (mo_lc s H [("one", 6)] rfl nd (mi_seq (me_ix (me_var 3) me_int)) (by first | (show blkC ["web", "needs", "lot", "thing", "left", "number", "one", "other"] (defScope s_is_need_greatest) _ _ = true; decide +kernel) | kernel_rfl) (fun _ _ _ _ _ => (mg_name 6 nd)) (fun _ _ _ _ _ => mts_nil) (fun _ _ _ _ _ => (me_callC h_is_under (hr.mono (by decide)) (ma_cons (me_var 6) (ma_cons (me_cb pu_len call_lenAll n_len b_len (ma_cons (me_ix (me_var 0) me_int) ma_nil)) ma_nil)))) gw1)) ma_nil))))))) (mss_one (ms_ret me_bl)) mss_nil) (mss_cons (ms_if (mt_cmp (c_ne hu) (me_o (mo_cb pu_sortI' TpL.cr_soI n_sorted b_sorted (ma_cons (me_add (me_ix (me_var 3) me_int) (me_ix (me_var 3) me_int)) ma_nil))) (me_o (mo_ct pu_list call_list_of n_list b_list (ma_cons (me_var 2) ma_nil)))) (mss_one (ms_ret me_bl)) mss_nil) (mss_cons (ms_setO 4 nd (mo_ct pu_list call_list_of n_list b_list (ma_cons (me_var 2) ma_nil))) (mss_cons (ms_weak [4] (ms_for (passes_of rfl) rfl (mi_seq (me_ix (me_var 3) me_int)) (mg_name 5 nd) (mss_cons (ms_if (mt_bor 4 (mt_val (me_cb pu_all (cr_all rfl) n_all b_all (ma_cons (me_o (mo_lc s H [("other", 7)] rfl nd (mi_seq (me_ix (me_var 1) (me_var 5))) (by first | (show blkC ["web", "needs", "lot", "thing", "left", "number", "one", "other"] (defScope s_is_need_greatest) _ _ = true; decide +kernel) | kernel_rfl) (fun _ _ _ _ _ => (mg_name 7 nd)) (fun _ _ _ _ _ => mts_nil) (fun _ _ _ _ _ => (me_cmp (c_in hu) (me_var 7) (me_var 4))) gw1)) ma_nil)))) (mss_one (ms_ret me_bl)) mss_nil) (mss_one (ms_mut m_remove 4 (ma_cons (me_var 5) ma_nil)))))) (mss_one (ms_ret me_bl)))))))))⟩
abbrev s_law : Stmt := top 43
theorem sc_law : FnScope ["script", "web", "many", "needs", "lots", "k", "kept", "digits", "one", "other", "both", "common", "lot", "left", "order", "going", "bad", "due", "inside", "turned", "here", "good", "need"] ["script"] (defScope s_law) := ⟨rfl, rfl, rfl, by decide +kernel, rfl, by decide +kernel, by decide +kernel⟩
def b_law : G.Env → Out := (mSeq (mSet 1 (mCallN 2 m__law_web.fn (mCons (mCallN 2 m__law_at.fn (mCons (mVar 0) (mCons (mC (.int 0)) mNil))) (mCons (mCallN 2 m__law_at.fn (mCons (mVar 0) (mCons (mC (.int 1)) mNil))) mNil)))) (mSeq (mSet 2 (mCall (d1 D.len) (mCons (m2 D.ix (mVar 1) (mC (.int 1))) mNil))) (mSeq (mSet 3 (mCallN 2 m__law_needs.fn (mCons (mCallN 2 m__law_at.fn (mCons (mVar 0) (mCons (mC (.int 2)) mNil))) (mCons (mVar 1) mNil)))) (mSeq (mSet 4 (mLst (mCons (mTup mNil) mNil))) (mSeq (mFor (mSq dRange1 (mVar 2)) (gnName 5) (mSet 4 (m2 D.add (mVar 4) (mLc [12] (mSq D.seq (mVar 4)) (gnName 12) mYes (m2 D.add (mVar 12) (mTup (mCons (mVar 5) mNil))))))) (mSeq (mSet 6 (mLc [12] (mSq D.seq (mCall (d1 D.sortT) (mCons (mVar 4) mNil))) (gnName 12) (mB (mCall0 2 m__law_keeps.fn (mCons (mVar 3) (mCons (mVar 12) mNil)))) (mVar 12))) (mSeq (mIf (mB (m2 D.ne (mCallN 2 m_need_all.fn (mCons (mVar 1) (mCons (mVar 3) mNil))) (mCall (d1 D.toTup) (mCons (mVar 6) mNil)))) (mRet (mC (.bl false))) mNext) (mSeq (mSet 7 (mCallN 3 m__law_row.fn (mCons (mCallN 2 m__law_at.fn (mCons (mVar 0) (mCons (mC (.int 4)) mNil))) (mCons (mC (.int 8)) (mCons (mC (.int 1000)) mNil))))) (mSeq (mSet 8 (m2 D.ix (mVar 6) (m2 D.mod (m2 D.ix (mVar 7) (mC (.int 0))) (mCall (d1 D.len) (mCons (mVar 6) mNil))))) (mSeq (mSet 9 (m2 D.ix (mVar 6) (m2 D.mod (m2 D.ix (mVar 7) (mC (.int 1))) (mCall (d1 D.len) (mCons (mVar 6) mNil))))) (mSeq (mSet 10 (mCall (d1 D.toTup) (mCons (mCall (d1 D.sortI') (mCons (m2 D.add (mVar 8) (mCall (d1 D.toTup) (mCons (mLc [5] (mSq D.seq (mVar 9)) (gnName 5) (mB (m2 D.notIn (mVar 5) (mVar 8))) (mVar 5)) mNil))) mNil)) mNil))) (mSeq (mSet 11 (mCall (d1 D.toTup) (mCons (mLc [5] (mSq D.seq (mVar 8)) (gnName 5) (mB (m2 D.isIn (mVar 5) (mVar 9))) (mVar 5)) mNil))) (mSeq (mIf (mOr (mB (m2 D.notIn (mVar 10) (mVar 6))) (mB (m2 D.notIn (mVar 11) (mVar 6)))) (mRet (mC (.bl false))) mNext) (mSeq (mSet 12 (mCallN 2 m__law_lot.fn (mCons (mCallN 2 m__law_at.fn (mCons (mVar 0) (mCons (mC (.int 3)) mNil))) (mCons (mVar 2) mNil)))) (mSeq (mIf (mB (m2 D.lt (m2 D.ix (mVar 7) (mC (.int 2))) (mC (.int 500)))) (mSet 12 (mRg1 dRgT (mVar 2))) mNext) (mSeq (mIf (mOr (mNot (mB (mCallN 2 m__law_flag.fn (mCons (mCallN 3 m_is_need_kept.fn (mCons (mVar 1) (mCons (mVar 3) (mCons (mVar 12) mNil)))) (mCons (m2 D.isIn (mVar 12) (mVar 6)) mNil))))) (mB (m2 D.isnt (mCallN 3 m_is_need_kept.fn (mCons (mVar 1) (mCons (mVar 3) (mCons (mCall (d1 D.toLst) (mCons (mVar 12) mNil)) mNil)))) (mC (.bl false))))) (mRet (mC (.bl false))) mNext) (mSeq (mSet 13 (mCall (d1 D.toLst) (mCons (mVar 12) mNil))) (mSeq (mSet 14 (mLst mNil)) (mSeq (mSet 15 (mC (.bl true))) (mSeq (mWhile (mB (mVar 15)) (mSeq (mSet 16 (mScalL (mLc [5] (mSq D.seq (mVar 13)) (gnName 5) (mNot (mB (mCall (d1 D.all) (mCons (mLc [22] (mSq D.seq (m2 D.ix (mVar 3) (mVar 5))) (gnName 22) mYes (m2 D.isIn (mVar 22) (mVar 13))) mNil)))) (mVar 5)))) (mSeq (mSet 15 (m2 D.gt (mCall (d1 D.len) (mCons (mVar 16) mNil)) (mC (.int 0)))) (mIf (mB (mVar 15)) (mSeq (mMut "list" 14 dAppend (mCons (m2 D.ix (mVar 16) (mC (.int 0))) mNil) kDrop) (mMut "list" 13 dRemove (mCons (m2 D.ix (mVar 16) (mC (.int 0))) mNil) kDrop)) mNext)))) (mSeq (mSet 17 (mTup (mCons (mCall (d1 D.toTup) (mCons (mVar 13) mNil)) (mCons (mCall (d1 D.toTup) (mCons (mVar 14) mNil)) mNil)))) (mSeq (mSet 18 (mLc [20] (mSq D.seq (mVar 6)) (gnName 20) (mB (mCall (d1 D.all) (mCons (mLc [5] (mSq D.seq (mVar 20)) (gnName 5) mYes (m2 D.isIn (mVar 5) (mVar 12))) mNil))) (mVar 20))) (mSeq (mIf (mOr (mB (m2 D.notIn (m2 D.ix (mVar 17) (mC (.int 0))) (mVar 18))) (mNot (mB (mCall (d1 D.all) (mCons (mLc [20] (mSq D.seq (mVar 18)) (gnName 20) mYes (mCall (d1 D.all) (mCons (mLc [5] (mSq D.seq (mVar 20)) (gnName 5) mYes (m2 D.isIn (mVar 5) (m2 D.ix (mVar 17) (mC (.int 0))))) mNil))) mNil))))) (mRet (mC (.bl false))) mNext) (mSeq (mIf (mOr (mB (m2 D.ne (mCallN 3 m_need_greatest.fn (mCons (mVar 1) (mCons (mVar 3) (mCons (mVar 12) mNil)))) (mVar 17))) (mB (m2 D.isnt (mCallN 4 m_is_need_greatest.fn (mCons (mVar 1) (mCons (mVar 3) (mCons (mVar 12) (mCons (mVar 17) mNil))))) (mC (.bl true))))) (mRet (mC (.bl false))) mNext) (mSeq (mSet 19 (mCall (d1 D.toTup) (mCons (m1 D.revL (mVar 14)) mNil))) (mSeq (mSet 20 (mCall (d1 D.toLst) (mCons (mVar 12) mNil))) (mSeq (mSet 21 (mC (.bl true))) (mSeq (mFor (mSq D.seq (mVar 19)) (gnName 5) (mSeq (mSet 21 (mAndV (mVar 21) (mNotV (mScal (mCall (d1 D.all) (mCons (mLc [22] (mSq D.seq (m2 D.ix (mVar 3) (mVar 5))) (gnName 22) mYes (m2 D.isIn (mVar 22) (mVar 20))) mNil)))))) (mMut "list" 20 dRemove (mCons (mVar 5) mNil) kDrop))) (mSeq (mIf (mNot (mB (mCallN 2 m__law_flag.fn (mCons (mCallN 4 m_is_need_greatest.fn (mCons (mVar 1) (mCons (mVar 3) (mCons (mVar 12) (mCons (mTup (mCons (m2 D.ix (mVar 17) (mC (.int 0))) (mCons (mVar 19) mNil))) mNil))))) (mCons (mVar 21) mNil))))) (mRet (mC (.bl false))) mNext) (mSeq (mIf (mNot (mB (mCallN 2 m__law_flag.fn (mCons (mCallN 4 m_is_need_greatest.fn (mCons (mVar 1) (mCons (mVar 3) (mCons (mVar 12) (mCons (mTup (mCons (mTup mNil) (mCons (mCall (d1 D.toTup) (mCons (mVar 14) mNil)) mNil))) mNil))))) (mCons (m2 D.eq (m2 D.ix (mVar 17) (mC (.int 0))) (mTup mNil)) mNil))))) (mRet (mC (.bl false))) mNext) (mRet (mAndV (m2 D.is (mCallN 4 m_is_need_greatest.fn (mCons (mVar 1) (mCons (mVar 3) (mCons (mVar 12) (mCons (mLst (mCons (m2 D.ix (mVar 17) (mC (.int 0))) (mCons (m2 D.ix (mVar 17) (mC (.int 1))) mNil))) mNil))))) (mC (.bl false))) (m2 D.is (mCallN 4 m_is_need_greatest.fn (mCons (mVar 1) (mCons (mVar 3) (mCons (mVar 12) (mCons (mC .non) mNil))))) (mC (.bl false)))))))))))))))))))))))))))))))))))
def m_law : DefM := ⟨1, 22, b_law⟩
theorem k_law {P : Program} {w : World} {K : PySem.W.Frag} {mg : Str → Option Value} {base : Heap} {f : Addr} {fd : FuncData} (F : FnP K "law" s_law f fd) (g : mg "law" = some (.ref f)) {f__law_web : Addr} {fd__law_web : FuncData} (h__law_web : Fd P w K mg base 3 "_law_web" ["cell", "more"] f__law_web fd__law_web m__law_web.fn) {f__law_at : Addr} {fd__law_at : FuncData} (h__law_at : Fd P w K mg base 1 "_law_at" ["script", "k"] f__law_at fd__law_at m__law_at.fn) {f__law_needs : Addr} {fd__law_needs : FuncData} (h__law_needs : Fd P w K mg base 3 "_law_needs" ["cell", "web"] f__law_needs fd__law_needs m__law_needs.fn) {f__law_keeps : Addr} {fd__law_keeps : FuncData} (h__law_keeps : Fd P w K mg base 1 "_law_keeps" ["needs", "lot"] f__law_keeps fd__law_keeps m__law_keeps.fn) {f_need_all : Addr} {fd_need_all : FuncData} (h_need_all : Fd P w K mg base 8 "need_all" ["web", "needs"] f_need_all fd_need_all m_need_all.fn) {f__law_row : Addr} {fd__law_row : FuncData} (h__law_row : Fd P w K mg base 2 "_law_row" ["cell", "many", "top"] f__law_row fd__law_row m__law_row.fn) {f__law_lot : Addr} {fd__law_lot : FuncData} (h__law_lot : Fd P w K mg base 3 "_law_lot" ["cell", "many"] f__law_lot fd__law_lot m__law_lot.fn) {f__law_flag : Addr} {fd__law_flag : FuncData} (h__law_flag : Fd P w K mg base 1 "_law_flag" ["found", "due"] f__law_flag fd__law_flag m__law_flag.fn) {f_is_need_kept : Addr} {fd_is_need_kept : FuncData} (h_is_need_kept : Fd P w K mg base 8 "is_need_kept" ["web", "needs", "thing"] f_is_need_kept fd_is_need_kept m_is_need_kept.fn) {f_need_greatest : Addr} {fd_need_greatest : FuncData} (h_need_greatest : Fd P w K mg base 8 "need_greatest" ["web", "needs", "lot"] f_need_greatest fd_need_greatest m_need_greatest.fn) {f_is_need_greatest : Addr} {fd_is_need_greatest : FuncData} (h_is_need_greatest : Fd P w K mg base 8 "is_need_greatest" ["web", "needs", "lot", "thing"] f_is_need_greatest fd_is_need_greatest m_is_need_greatest.fn) (n_len : mg "len" = none) (n_range : mg "range" = none) (n_sorted : mg "sorted" = none) (n_tuple : mg "tuple" = none) (n_list : mg "list" = none) (n_all : mg "all" = none) : Fd P w K mg base 9 "law" ["script"] f fd m_law.fn := by
  refine fd_of (k := 8) (N := ["script", "web", "many", "needs", "lots", "k", "kept", "digits", "one", "other", "both", "common", "lot", "left", "order", "going", "bad", "due", "inside", "turned", "here", "good", "need"]) (m := m_law) F sc_law g (F.bindsN fun _ _ _ _ _ _ us hl => match us, hl with | [_], _ => rfl) rfl rfl fun cdv A outer s H E hr tk => ?_
  have nd := sc_law.nd
  have hu := hu65 hr
  show ∃ t o', MSs _ _ _ _ _ _ o' t b_law
  unfold b_law
  exact ⟨_, [], (mss_cons (ms_set 1 nd (me_call tk h__law_web (hr.mono (by decide)) (ma_cons (me_call tk h__law_at (hr.mono (by decide)) (ma_cons (me_var 0) (ma_cons me_int ma_nil))) (ma_cons (me_call tk h__law_at (hr.mono (by decide)) (ma_cons (me_var 0) (ma_cons me_int ma_nil))) ma_nil)))) (mss_cons (ms_set 2 nd (me_cb pu_len call_lenAll n_len b_len (ma_cons (me_ix (me_var 1) me_int) ma_nil))) (mss_cons (ms_set 3 nd (me_call tk h__law_needs (hr.mono (by decide)) (ma_cons (me_call tk h__law_at (hr.mono (by decide)) (ma_cons (me_var 0) (ma_cons me_int ma_nil))) (ma_cons (me_var 1) ma_nil)))) (mss_cons (ms_set 4 nd (me_o (mo_lst (ma_cons (me_tup ma_nil) ma_nil)))) (mss_cons (ms_for (passes_of rfl) rfl (mi_range1 n_range (me_var 2)) (mg_name 5 nd) (mss_one (ms_set 4 nd (me_add (me_var 4) (me_o (mo_lc s H [("lot", 12)] rfl nd (mi_seq (me_var 4)) (by first | (show blkC ["script", "web", "many", "needs", "lots", "k", "kept", "digits", "one", "other", "both", "common", "lot", "left", "order", "going", "bad", "due", "inside", "turned", "here", "good", "need"] (defScope s_law) _ _ = true; decide +kernel) | kernel_rfl) (fun _ _ _ _ _ => (mg_name 12 nd)) (fun _ _ _ _ _ => mts_nil) (fun _ _ _ _ _ => (me_add (me_var 12) (me_tup (ma_cons (me_var 5) ma_nil)))) gw1)))))) (mss_cons (ms_weak [6] (ms_setLc 6 s H [("lot", 12)] rfl nd (mi_seq (me_o (mo_cb pu_sortT (TpL.cr_soT hu) n_sorted b_sorted (ma_cons (me_var 4) ma_nil)))) (by first | (show blkC ["script", "web", "many", "needs", "lots", "k", "kept", "digits", "one", "other", "both", "common", "lot", "left", "order", "going", "bad", "due", "inside", "turned", "here", "good", "need"] (defScope s_law) _ _ = true; decide +kernel) | kernel_rfl) (fun _ _ _ _ _ => (mg_name 12 nd)) (fun _ _ _ _ _ => (mts_one (mt_val (me_callC h__law_keeps (hr.mono (by decide)) (ma_cons (me_var 3) (ma_cons (me_var 12) ma_nil)))))) (fun _ _ _ _ _ => (me_var 12)) gw1)) (mss_cons (ms_if (mt_cmp (c_ne hu) (me_call tk h_need_all (hr.mono (by decide)) (ma_cons (me_var 1) (ma_cons (me_var 3) ma_nil))) (me_ct pu_tuple call_tuple_of n_tuple b_tuple (ma_cons (me_var 6) ma_nil))) (mss_one (ms_ret me_bl)) mss_nil) (mss_cons (ms_set 7 nd (me_call tk h__law_row (hr.mono (by decide)) (ma_cons (me_call tk h__law_at (hr.mono (by decide)) (ma_cons (me_var 0) (ma_cons me_int ma_nil))) (ma_cons me_int (ma_cons me_int ma_nil))))) (mss_cons (ms_set 8 nd (me_ix (me_var 6) (me_mod (me_ix (me_var 7) me_int) (me_cb pu_len call_lenAll n_len b_len (ma_cons (me_var 6) ma_nil))))) (mss_cons (ms_set 9 nd (me_ix (me_var 6) (me_mod (me_ix (me_var 7) me_int) (me_cb pu_len call_lenAll n_len b_len (ma_cons (me_var 6) ma_nil))))) (mss_cons (ms_set 10 nd (me_ct pu_tuple call_tuple_of n_tuple b_tuple (ma_cons (me_o (mo_cb pu_sortI' TpL.cr_soI n_sorted b_sorted (ma_cons (me_add (me_var 8) (me_ct pu_tuple call_tuple_of n_tuple b_tuple (ma_cons (me_o (mo_lc s H [("k", 5)] rfl nd (mi_seq (me_var 9)) (by first | (show blkC ["script", "web", "many", "needs", "lots", "k", "kept", "digits", "one", "other", "both", "common", "lot", "left", "order", "going", "bad", "due", "inside", "turned", "here", "good", "need"] (defScope s_law) _ _ = true; decide +kernel) | kernel_rfl) (fun _ _ _ _ _ => (mg_name 5 nd)) (fun _ _ _ _ _ => (mts_one (mt_cmp (c_notIn hu) (me_var 5) (me_var 8)))) (fun _ _ _ _ _ => (me_var 5)) gw1)) ma_nil))) ma_nil))) ma_nil))) (mss_cons (ms_set 11 nd (me_ct pu_tuple call_tuple_of n_tuple b_tuple (ma_cons (me_o (mo_lc s H [("k", 5)] rfl nd (mi_seq (me_var 8)) (by first | (show blkC ["script", "web", "many", "needs", "lots", "k", "kept", "digits", "one", "other", "both", "common", "lot", "left", "order", "going", "bad", "due", "inside", "turned", "here", "good", "need"] (defScope s_law) _ _ = true; decide +kernel) | kernel_rfl) (fun _ _ _ _ _ => (mg_name 5 nd)) (fun _ _ _ _ _ => (mts_one (mt_cmp (c_in hu) (me_var 5) (me_var 9)))) (fun _ _ _ _ _ => (me_var 5)) gw1)) ma_nil))) (mss_cons (ms_if (mt_w (mw_or (mt_cmp (c_notIn hu) (me_var 10) (me_var 6)) (mw_or1 (mt_cmp (c_notIn hu) (me_var 11) (me_var 6))))) (mss_one (ms_ret me_bl)) mss_nil) (mss_cons (ms_set 12 nd (me_call tk h__law_lot (hr.mono (by decide)) (ma_cons (me_call tk h__law_at (hr.mono (by decide)) (ma_cons (me_var 0) (ma_cons me_int ma_nil))) (ma_cons (me_var 2) ma_nil)))) (mss_cons (ms_if (mt_cmp c_lt (me_ix (me_var 7) me_int) me_int) (mss_one (ms_set 12 nd (me_tupRg1 n_range n_tuple rfl (me_var 2)))) mss_nil) (mss_cons (ms_if (mt_w (mw_or (mt_not (mt_val (me_call tk h__law_flag (hr.mono (by decide)) (ma_cons (me_call tk h_is_need_kept (hr.mono (by decide)) (ma_cons (me_var 1) (ma_cons (me_var 3) (ma_cons (me_var 12) ma_nil)))) (ma_cons (me_cmp (c_in hu) (me_var 12) (me_var 6)) ma_nil))))) (mw_or1 (mt_cmp c_isnt (me_call tk h_is_need_kept (hr.mono (by decide)) (ma_cons (me_var 1) (ma_cons (me_var 3) (ma_cons (me_o (mo_ct pu_list call_list_of n_list b_list (ma_cons (me_var 12) ma_nil))) ma_nil)))) me_bl)))) (mss_one (ms_ret me_bl)) mss_nil) (mss_cons (ms_setO 13 nd (mo_ct pu_list call_list_of n_list b_list (ma_cons (me_var 12) ma_nil))) (mss_cons (ms_setO 14 nd (mo_lst ma_nil)) (mss_cons (ms_set 15 nd me_bl) (mss_cons (ms_weak [14, 13] (ms_while (passes_of rfl) (mt_val (me_var 15)) (mss_cons (ms_weak [16] (ms_setLcB 16 s H 13 [("k", 5)] rfl nd (mi_seq (me_var 13)) (by first | (show blkC ["script", "web", "many", "needs", "lots", "k", "kept", "digits", "one", "other", "both", "common", "lot", "left", "order", "going", "bad", "due", "inside", "turned", "here", "good", "need"] (defScope s_law) _ _ = true; decide +kernel) | kernel_rfl) (fun _ _ _ _ _ => (mg_name 5 nd)) (fun _ _ _ _ _ => (mts_one (mt_not (mt_val (me_cb pu_all (cr_all rfl) n_all b_all (ma_cons (me_o (mo_lc s H [("need", 22)] rfl nd (mi_seq (me_ix (me_var 3) (me_var 5))) (by first | (show blkC ["script", "web", "many", "needs", "lots", "k", "kept", "digits", "one", "other", "both", "common", "lot", "left", "order", "going", "bad", "due", "inside", "turned", "here", "good", "need"] (defScope s_law) _ _ = true; decide +kernel) | kernel_rfl) (fun _ _ _ _ _ => (mg_name 22 nd)) (fun _ _ _ _ _ => mts_nil) (fun _ _ _ _ _ => (me_cmp (c_in hu) (me_var 22) (me_var 13))) gw1)) ma_nil)))))) (fun _ _ _ _ _ => (me_var 5)) gw1)) (mss_cons (ms_set 15 nd (me_cmp c_gt (me_cb pu_len call_lenAll n_len b_len (ma_cons (me_var 16) ma_nil)) me_int)) (mss_one (ms_if (mt_val (me_var 15)) (mss_cons (ms_mut m_append 14 (ma_cons (me_ix (me_var 16) me_int) ma_nil)) (mss_one (ms_mut m_remove 13 (ma_cons (me_ix (me_var 16) me_int) ma_nil)))) mss_nil)))))) (mss_cons (ms_set 17 nd (me_tup (ma_cons (me_ct pu_tuple call_tuple_of n_tuple b_tuple (ma_cons (me_var 13) ma_nil)) (ma_cons (me_ct pu_tuple call_tuple_of n_tuple b_tuple (ma_cons (me_var 14) ma_nil)) ma_nil)))) (mss_cons (ms_weak [18] (ms_setLc 18 s H [("here", 20)] rfl nd (mi_seq (me_var 6)) (by first | (show blkC ["script", "web", "many", "needs", "lots", "k", "kept", "digits", "one", "other", "both", "common", "lot", "left", "order", "going", "bad", "due", "inside", "turned", "here", "good", "need"] (defScope s_law) _ _ = true; decide +kernel) | kernel_rfl) (fun _ _ _ _ _ => (mg_name 20 nd)) (fun _ _ _ _ _ => (mts_one (mt_val (me_cb pu_all (cr_all rfl) n_all b_all (ma_cons (me_o (mo_lc s H [("k", 5)] rfl nd (mi_seq (me_var 20)) (by first | (show blkC ["script", "web", "many", "needs", "lots", "k", "kept", "digits", "one", "other", "both", "common", "lot", "left", "order", "going", "bad", "due", "inside", "turned", "here", "good", "need"] (defScope s_law) _ _ = true; decide +kernel) | kernel_rfl) (fun _ _ _ _ _ => (mg_name 5 nd)) (fun _ _ _ _ _ => mts_nil) (fun _ _ _ _ _ => (me_cmp (c_in hu) (me_var 5) (me_var 12))) gw1)) ma_nil))))) (fun _ _ _ _ _ => (me_var 20)) gw1)) (mss_cons (ms_if (mt_w (mw_or (mt_cmp (c_notIn hu) (me_ix (me_var 17) me_int) (me_var 18)) (mw_or1 (mt_not (mt_val (me_cb pu_all (cr_all rfl) n_all b_all (ma_cons (me_o (mo_lc s H [("here", 20)] rfl nd (mi_seq (me_var 18)) (by first | (show blkC ["script", "web", "many", "needs", "lots", "k", "kept", "digits", "one", "other", "both", "common", "lot", "left", "order", "going", "bad", "due", "inside", "turned", "here", "good", "need"] (defScope s_law) _ _ = true; decide +kernel) | kernel_rfl) (fun _ _ _ _ _ => (mg_name 20 nd)) (fun _ _ _ _ _ => mts_nil) (fun _ _ _ _ _ => (me_cb pu_all (cr_all rfl) n_all b_all (ma_cons (me_o (mo_lc s H [("k", 5)] rfl nd (mi_seq (me_var 20)) (by first | (show blkC ["script", "web", "many", "needs", "lots", "k", "kept", "digits", "one", "other", "both", "common", "lot", "left", "order", "going", "bad", "due", "inside", "turned", "here", "good", "need"] (defScope s_law) _ _ = true; decide +kernel) | kernel_rfl) (fun _ _ _ _ _ => (mg_name 5 nd)) (fun _ _ _ _ _ => mts_nil) (fun _ _ _ _ _ => (me_cmp (c_in hu) (me_var 5) (me_ix (me_var 17) me_int))) gw1)) ma_nil))) gw1)) ma_nil))))))) (mss_one (ms_ret me_bl)) mss_nil) (mss_cons (ms_if (mt_w (mw_or (mt_cmp (c_ne hu) (me_call tk h_need_greatest (hr.mono (by decide)) (ma_cons (me_var 1) (ma_cons (me_var 3) (ma_cons (me_var 12) ma_nil)))) (me_var 17)) (mw_or1 (mt_cmp c_isnt (me_call tk h_is_need_greatest (hr.mono (by decide)) (ma_cons (me_var 1) (ma_cons (me_var 3) (ma_cons (me_var 12) (ma_cons (me_var 17) ma_nil))))) me_bl)))) (mss_one (ms_ret me_bl)) mss_nil) (mss_cons (ms_set 19 nd (me_ct pu_tuple call_tuple_of n_tuple b_tuple (ma_cons (me_o (mo_revL (me_var 14))) ma_nil))) (mss_cons (ms_setO 20 nd (mo_ct pu_list call_list_of n_list b_list (ma_cons (me_var 12) ma_nil))) (mss_cons (ms_set 21 nd me_bl) (mss_cons (ms_weak [20] (ms_for (passes_of rfl) rfl (mi_seq (me_var 19)) (mg_name 5 nd) (mss_cons (ms_set 21 nd (me_and (me_var 21) (me_one (me_not (me_bor 20 (me_cb pu_all (cr_all rfl) n_all b_all (ma_cons (me_o (mo_lc s H [("need", 22)] rfl nd (mi_seq (me_ix (me_var 3) (me_var 5))) (by first | (show blkC ["script", "web", "many", "needs", "lots", "k", "kept", "digits", "one", "other", "both", "common", "lot", "left", "order", "going", "bad", "due", "inside", "turned", "here", "good", "need"] (defScope s_law) _ _ = true; decide +kernel) | kernel_rfl) (fun _ _ _ _ _ => (mg_name 22 nd)) (fun _ _ _ _ _ => mts_nil) (fun _ _ _ _ _ => (me_cmp (c_in hu) (me_var 22) (me_var 20))) gw1)) ma_nil))))))) (mss_one (ms_mut m_remove 20 (ma_cons (me_var 5) ma_nil)))))) (mss_cons (ms_if (mt_not (mt_val (me_call tk h__law_flag (hr.mono (by decide)) (ma_cons (me_call tk h_is_need_greatest (hr.mono (by decide)) (ma_cons (me_var 1) (ma_cons (me_var 3) (ma_cons (me_var 12) (ma_cons (me_tup (ma_cons (me_ix (me_var 17) me_int) (ma_cons (me_var 19) ma_nil))) ma_nil))))) (ma_cons (me_var 21) ma_nil))))) (mss_one (ms_ret me_bl)) mss_nil) (mss_cons (ms_if (mt_not (mt_val (me_call tk h__law_flag (hr.mono (by decide)) (ma_cons (me_call tk h_is_need_greatest (hr.mono (by decide)) (ma_cons (me_var 1) (ma_cons (me_var 3) (ma_cons (me_var 12) (ma_cons (me_tup (ma_cons (me_tup ma_nil) (ma_cons (me_ct pu_tuple call_tuple_of n_tuple b_tuple (ma_cons (me_var 14) ma_nil)) ma_nil))) ma_nil))))) (ma_cons (me_cmp (c_eq hu) (me_ix (me_var 17) me_int) (me_tup ma_nil)) ma_nil))))) (mss_one (ms_ret me_bl)) mss_nil) (mss_one (ms_ret (me_and (me_cmp c_is (me_call tk h_is_need_greatest (hr.mono (by decide)) (ma_cons (me_var 1) (ma_cons (me_var 3) (ma_cons (me_var 12) (ma_cons (me_o (mo_lst (ma_cons (me_ix (me_var 17) me_int) (ma_cons (me_ix (me_var 17) me_int) ma_nil)))) ma_nil))))) me_bl) (me_one (me_cmp c_is (me_call tk h_is_need_greatest (hr.mono (by decide)) (ma_cons (me_var 1) (ma_cons (me_var 3) (ma_cons (me_var 12) (ma_cons me_non ma_nil))))) me_bl)))))))))))))))))))))))))))))))))))⟩
end L
namespace L
open PySem L2 G
/-! ### wholes -/
theorem f_int (i : Int) : m_is_integer.fn [.int i] = .ok (.bl true) := rfl
theorem f_between (i a b : Int) : m_is_between.fn [.int i, .int a, .int b] = .ok (.bl (decide (a ≤ i) && decide (i ≤ b))) := by
  rw [fn_run rfl]
  simp only [mSeq, mSet, mRet, mRetN, mNext, mDrop, mIf, mVar, mC, m1, m2, mCons, mNil, mCall, mCallN, mCall0, mB, mAnd, mOr, mNot, mAndV, mOrV, mNotV, mIte, mChain, mTg, mPar, gnName, gnTup, gnCons, gnNil, d1, d2, D.toB, oBind_ok, Out.seq_nx, Out.seq_rt, R.bind_ok, R.val, Out.res, List.length_cons, List.length_nil, List.map_cons, List.map_nil, List.replicate_succ, List.replicate_zero, List.cons_append, List.nil_append, List.getElem?_cons_zero, List.getElem?_cons_succ, List.set_cons_zero, List.set_cons_succ, Nat.reduceAdd, if_true, cond_true, cond_false, D.add, D.sub, dI0, D.toInt, Bool.not_true, Bool.not_false, id_eq, m_is_between, b_is_between, f_int, dle]
  cases h : decide (a ≤ i) <;> simp only [mSeq, mSet, mRet, mRetN, mNext, mDrop, mIf, mVar, mC, m1, m2, mCons, mNil, mCall, mCallN, mCall0, mB, mAnd, mOr, mNot, mAndV, mOrV, mNotV, mIte, mChain, mTg, mPar, gnName, gnTup, gnCons, gnNil, d1, d2, D.toB, oBind_ok, Out.seq_nx, Out.seq_rt, R.bind_ok, R.val, Out.res, List.length_cons, List.length_nil, List.map_cons, List.map_nil, List.replicate_succ, List.replicate_zero, List.cons_append, List.nil_append, List.getElem?_cons_zero, List.getElem?_cons_succ, List.set_cons_zero, List.set_cons_succ, Nat.reduceAdd, if_true, cond_true, cond_false, D.add, D.sub, dI0, D.toInt, Bool.not_true, Bool.not_false, id_eq, Bool.true_and, Bool.false_and]
theorem f_under (i n : Int) : m_is_under.fn [.int i, .int n] = .ok (.bl (decide (0 ≤ i) && decide (i < n))) := by
  rw [fn_run rfl]
  simp only [mSeq, mSet, mRet, mRetN, mNext, mDrop, mIf, mVar, mC, m1, m2, mCons, mNil, mCall, mCallN, mCall0, mB, mAnd, mOr, mNot, mAndV, mOrV, mNotV, mIte, mChain, mTg, mPar, gnName, gnTup, gnCons, gnNil, d1, d2, D.toB, oBind_ok, Out.seq_nx, Out.seq_rt, R.bind_ok, R.val, Out.res, List.length_cons, List.length_nil, List.map_cons, List.map_nil, List.replicate_succ, List.replicate_zero, List.cons_append, List.nil_append, List.getElem?_cons_zero, List.getElem?_cons_succ, List.set_cons_zero, List.set_cons_succ, Nat.reduceAdd, if_true, cond_true, cond_false, D.add, D.sub, dI0, D.toInt, Bool.not_true, Bool.not_false, id_eq, m_is_under, b_is_under, f_int, dle, dlt]
  cases h : decide (0 ≤ i) <;> simp only [mSeq, mSet, mRet, mRetN, mNext, mDrop, mIf, mVar, mC, m1, m2, mCons, mNil, mCall, mCallN, mCall0, mB, mAnd, mOr, mNot, mAndV, mOrV, mNotV, mIte, mChain, mTg, mPar, gnName, gnTup, gnCons, gnNil, d1, d2, D.toB, oBind_ok, Out.seq_nx, Out.seq_rt, R.bind_ok, R.val, Out.res, List.length_cons, List.length_nil, List.map_cons, List.map_nil, List.replicate_succ, List.replicate_zero, List.cons_append, List.nil_append, List.getElem?_cons_zero, List.getElem?_cons_succ, List.set_cons_zero, List.set_cons_succ, Nat.reduceAdd, if_true, cond_true, cond_false, D.add, D.sub, dI0, D.toInt, Bool.not_true, Bool.not_false, id_eq, Bool.true_and, Bool.false_and]
theorem f_tupleOf (ds : List D) (n : Int) : m_is_tuple_of.fn [.tup ds, .int n] = .ok (.bl (decide ((ds.length : Int) = n))) := by
  have h : D.isi (.tup ds) (.ty "tuple") = .ok (.bl true) := rfl
  rw [fn_run rfl]
  simp only [mSeq, mSet, mRet, mRetN, mNext, mDrop, mIf, mVar, mC, m1, m2, mCons, mNil, mCall, mCallN, mCall0, mB, mAnd, mOr, mNot, mAndV, mOrV, mNotV, mIte, mChain, mTg, mPar, gnName, gnTup, gnCons, gnNil, d1, d2, D.toB, oBind_ok, Out.seq_nx, Out.seq_rt, R.bind_ok, R.val, Out.res, List.length_cons, List.length_nil, List.map_cons, List.map_nil, List.replicate_succ, List.replicate_zero, List.cons_append, List.nil_append, List.getElem?_cons_zero, List.getElem?_cons_succ, List.set_cons_zero, List.set_cons_succ, Nat.reduceAdd, if_true, cond_true, cond_false, D.add, D.sub, dI0, D.toInt, Bool.not_true, Bool.not_false, id_eq, m_is_tuple_of, b_is_tuple_of, h, len_tup, deq]
theorem f_tupleOf_lst (ds : List D) (n : Int) : m_is_tuple_of.fn [.lst ds, .int n] = .ok (.bl false) := rfl
theorem f_tupleOf_non (n : Int) : m_is_tuple_of.fn [.non, .int n] = .ok (.bl false) := rfl
/-- a lot as data -/
abbrev lotD (l : List Nat) : D := .tup (l.map nI)
theorem f_areUnder (l : List Nat) (n : Nat) (hl : l.length ≤ 1000) : m_are_under.fn [lotD l, .int n] = .ok (.bl (l.all fun x => decide (x < n))) := by
  have h : D.isi (.tup (l.map nI)) (.ty "tuple") = .ok (.bl true) := rfl
  rw [fn_run rfl]
  simp only [mSeq, mSet, mRet, mRetN, mNext, mDrop, mIf, mVar, mC, m1, m2, mCons, mNil, mCall, mCallN, mCall0, mB, mAnd, mOr, mNot, mAndV, mOrV, mNotV, mIte, mChain, mTg, mPar, gnName, gnTup, gnCons, gnNil, d1, d2, D.toB, oBind_ok, Out.seq_nx, Out.seq_rt, R.bind_ok, R.val, Out.res, List.length_cons, List.length_nil, List.map_cons, List.map_nil, List.replicate_succ, List.replicate_zero, List.cons_append, List.nil_append, List.getElem?_cons_zero, List.getElem?_cons_succ, List.set_cons_zero, List.set_cons_succ, Nat.reduceAdd, if_true, cond_true, cond_false, D.add, D.sub, dI0, D.toInt, Bool.not_true, Bool.not_false, id_eq, m_are_under, b_are_under, h]
  rw [mLc_map (emb := nI) (l := l) (r := fun a => [some (.tup (l.map nI)), some (.int n), some (nI a)]) (f := fun a => .bl (decide (a < n))) rfl (by omega) fun a _ => ⟨rfl, ?_⟩]
  · simp only [mSeq, mSet, mRet, mRetN, mNext, mDrop, mIf, mVar, mC, m1, m2, mCons, mNil, mCall, mCallN, mCall0, mB, mAnd, mOr, mNot, mAndV, mOrV, mNotV, mIte, mChain, mTg, mPar, gnName, gnTup, gnCons, gnNil, d1, d2, D.toB, oBind_ok, Out.seq_nx, Out.seq_rt, R.bind_ok, R.val, Out.res, List.length_cons, List.length_nil, List.map_cons, List.map_nil, List.replicate_succ, List.replicate_zero, List.cons_append, List.nil_append, List.getElem?_cons_zero, List.getElem?_cons_succ, List.set_cons_zero, List.set_cons_succ, Nat.reduceAdd, if_true, cond_true, cond_false, D.add, D.sub, dI0, D.toInt, Bool.not_true, Bool.not_false, id_eq, all_ok]
  · simp only [mSeq, mSet, mRet, mRetN, mNext, mDrop, mIf, mVar, mC, m1, m2, mCons, mNil, mCall, mCallN, mCall0, mB, mAnd, mOr, mNot, mAndV, mOrV, mNotV, mIte, mChain, mTg, mPar, gnName, gnTup, gnCons, gnNil, d1, d2, D.toB, oBind_ok, Out.seq_nx, Out.seq_rt, R.bind_ok, R.val, Out.res, List.length_cons, List.length_nil, List.map_cons, List.map_nil, List.replicate_succ, List.replicate_zero, List.cons_append, List.nil_append, List.getElem?_cons_zero, List.getElem?_cons_succ, List.set_cons_zero, List.set_cons_succ, Nat.reduceAdd, if_true, cond_true, cond_false, D.add, D.sub, dI0, D.toInt, Bool.not_true, Bool.not_false, id_eq, f_under]
    have e1 : decide (0 ≤ (a : Int)) = true := decide_eq_true (by omega)
    have e2 : decide ((a : Int) < (n : Int)) = decide (a < n) := bool_ext (by rw [decide_eq_true_iff, decide_eq_true_iff]; omega)
    rw [e1, e2]
    rfl
def Lot (n : Nat) (l : List Nat) : Prop := (∀ x ∈ l, x < n) ∧ l.Pairwise (· < ·)
theorem f_isLot {n : Nat} {l : List Nat} (h : Lot n l) (hl : l.length ≤ 1000) : m_is_lot.fn [lotD l, .int n] = .ok (.bl true) := by
  have e : (l.all fun x => decide (x < n)) = true := by
    rw [List.all_eq_true]
    exact fun x hx => decide_eq_true (h.1 x hx)
  rw [fn_run rfl]
  simp only [mSeq, mSet, mRet, mRetN, mNext, mDrop, mIf, mVar, mC, m1, m2, mCons, mNil, mCall, mCallN, mCall0, mB, mAnd, mOr, mNot, mAndV, mOrV, mNotV, mIte, mChain, mTg, mPar, gnName, gnTup, gnCons, gnNil, d1, d2, D.toB, oBind_ok, Out.seq_nx, Out.seq_rt, R.bind_ok, R.val, Out.res, List.length_cons, List.length_nil, List.map_cons, List.map_nil, List.replicate_succ, List.replicate_zero, List.cons_append, List.nil_append, List.getElem?_cons_zero, List.getElem?_cons_succ, List.set_cons_zero, List.set_cons_succ, Nat.reduceAdd, if_true, cond_true, cond_false, D.add, D.sub, dI0, D.toInt, Bool.not_true, Bool.not_false, id_eq, m_is_lot, b_is_lot, f_areUnder l n hl, e]
  rw [mLc_map (emb := fun i => nI (1 + i)) (l := List.range (l.length - 1)) (r := fun i => [some (lotD l), some (.int n), some (nI (1 + i))]) (f := fun i => .bl true) ?hi (by rw [List.length_range]; omega) fun i hi => ⟨rfl, ?hm⟩]
  case hi =>
    simp only [mSeq, mSet, mRet, mRetN, mNext, mDrop, mIf, mVar, mC, m1, m2, mCons, mNil, mCall, mCallN, mCall0, mB, mAnd, mOr, mNot, mAndV, mOrV, mNotV, mIte, mChain, mTg, mPar, gnName, gnTup, gnCons, gnNil, d1, d2, D.toB, oBind_ok, Out.seq_nx, Out.seq_rt, R.bind_ok, R.val, Out.res, List.length_cons, List.length_nil, List.map_cons, List.map_nil, List.replicate_succ, List.replicate_zero, List.cons_append, List.nil_append, List.getElem?_cons_zero, List.getElem?_cons_succ, List.set_cons_zero, List.set_cons_succ, Nat.reduceAdd, if_true, cond_true, cond_false, D.add, D.sub, dI0, D.toInt, Bool.not_true, Bool.not_false, id_eq, mRange2, len_tup, List.length_map]
    exact range2_nat (a := 1) (by omega) (by omega)
  case hm =>
    have hi := List.mem_range.mp hi
    have h1 : D.ix (lotD l) (.int (((1 + i : Nat) : Int) - 1)) = .ok (nI (l[i]'(by omega))) := ix_tup (by
      rw [atI_nat (n := i) (by omega) (by rw [List.length_map]; omega), List.getElem_map])
    have h2 : D.ix (lotD l) (nI (1 + i)) = .ok (nI (l[1 + i]'(by omega))) := ix_tup (by
      rw [atI_nat (n := 1 + i) rfl (by rw [List.length_map]; omega), List.getElem_map])
    simp only [mSeq, mSet, mRet, mRetN, mNext, mDrop, mIf, mVar, mC, m1, m2, mCons, mNil, mCall, mCallN, mCall0, mB, mAnd, mOr, mNot, mAndV, mOrV, mNotV, mIte, mChain, mTg, mPar, gnName, gnTup, gnCons, gnNil, d1, d2, D.toB, oBind_ok, Out.seq_nx, Out.seq_rt, R.bind_ok, R.val, Out.res, List.length_cons, List.length_nil, List.map_cons, List.map_nil, List.replicate_succ, List.replicate_zero, List.cons_append, List.nil_append, List.getElem?_cons_zero, List.getElem?_cons_succ, List.set_cons_zero, List.set_cons_succ, Nat.reduceAdd, if_true, cond_true, cond_false, D.add, D.sub, dI0, D.toInt, Bool.not_true, Bool.not_false, id_eq, h1, h2, dlt]
    have z := List.pairwise_iff_getElem.mp h.2 i (1 + i) (by omega) (by omega) (by omega)
    rw [decide_eq_true (by omega)]
  simp only [mSeq, mSet, mRet, mRetN, mNext, mDrop, mIf, mVar, mC, m1, m2, mCons, mNil, mCall, mCallN, mCall0, mB, mAnd, mOr, mNot, mAndV, mOrV, mNotV, mIte, mChain, mTg, mPar, gnName, gnTup, gnCons, gnNil, d1, d2, D.toB, oBind_ok, Out.seq_nx, Out.seq_rt, R.bind_ok, R.val, Out.res, List.length_cons, List.length_nil, List.map_cons, List.map_nil, List.replicate_succ, List.replicate_zero, List.cons_append, List.nil_append, List.getElem?_cons_zero, List.getElem?_cons_succ, List.set_cons_zero, List.set_cons_succ, Nat.reduceAdd, if_true, cond_true, cond_false, D.add, D.sub, dI0, D.toInt, Bool.not_true, Bool.not_false, id_eq]
  have z := all_ok (List.range (l.length - 1)) (fun _ => true)
  rw [z]
  simp only [mSeq, mSet, mRet, mRetN, mNext, mDrop, mIf, mVar, mC, m1, m2, mCons, mNil, mCall, mCallN, mCall0, mB, mAnd, mOr, mNot, mAndV, mOrV, mNotV, mIte, mChain, mTg, mPar, gnName, gnTup, gnCons, gnNil, d1, d2, D.toB, oBind_ok, Out.seq_nx, Out.seq_rt, R.bind_ok, R.val, Out.res, List.length_cons, List.length_nil, List.map_cons, List.map_nil, List.replicate_succ, List.replicate_zero, List.cons_append, List.nil_append, List.getElem?_cons_zero, List.getElem?_cons_succ, List.set_cons_zero, List.set_cons_succ, Nat.reduceAdd, if_true, cond_true, cond_false, D.add, D.sub, dI0, D.toInt, Bool.not_true, Bool.not_false, id_eq]
  have z2 : ((List.range (l.length - 1)).all fun _ => true) = true := List.all_eq_true.mpr fun _ _ => rfl
  rw [z2]
/-! ### the law's own digits -/
def mixed (c k : Int) : Int := ((c * 48271 + k * 69621 + 11) * 16807 + (c * 48271 + k * 69621 + 11).fdiv 8191).fmod 2147483647
theorem f_mixed (c k : Int) : m__law_mixed.fn [.int c, .int k] = .ok (.int (mixed c k)) := by
  rw [fn_run rfl]
  simp only [mSeq, mSet, mRet, mRetN, mNext, mDrop, mIf, mVar, mC, m1, m2, mCons, mNil, mCall, mCallN, mCall0, mB, mAnd, mOr, mNot, mAndV, mOrV, mNotV, mIte, mChain, mTg, mPar, gnName, gnTup, gnCons, gnNil, d1, d2, D.toB, oBind_ok, Out.seq_nx, Out.seq_rt, R.bind_ok, R.val, Out.res, List.length_cons, List.length_nil, List.map_cons, List.map_nil, List.replicate_succ, List.replicate_zero, List.cons_append, List.nil_append, List.getElem?_cons_zero, List.getElem?_cons_succ, List.set_cons_zero, List.set_cons_succ, Nat.reduceAdd, if_true, cond_true, cond_false, D.add, D.sub, dI0, D.toInt, Bool.not_true, Bool.not_false, id_eq, m__law_mixed, b__law_mixed]
  rw [mul_okR (by omega) (by omega), mul_okR (by omega) (by omega)]
  simp only [mSeq, mSet, mRet, mRetN, mNext, mDrop, mIf, mVar, mC, m1, m2, mCons, mNil, mCall, mCallN, mCall0, mB, mAnd, mOr, mNot, mAndV, mOrV, mNotV, mIte, mChain, mTg, mPar, gnName, gnTup, gnCons, gnNil, d1, d2, D.toB, oBind_ok, Out.seq_nx, Out.seq_rt, R.bind_ok, R.val, Out.res, List.length_cons, List.length_nil, List.map_cons, List.map_nil, List.replicate_succ, List.replicate_zero, List.cons_append, List.nil_append, List.getElem?_cons_zero, List.getElem?_cons_succ, List.set_cons_zero, List.set_cons_succ, Nat.reduceAdd, if_true, cond_true, cond_false, D.add, D.sub, dI0, D.toInt, Bool.not_true, Bool.not_false, id_eq]
  rw [mul_okR (by omega) (by omega), fdiv_ok (by omega) (by omega)]
  simp only [mSeq, mSet, mRet, mRetN, mNext, mDrop, mIf, mVar, mC, m1, m2, mCons, mNil, mCall, mCallN, mCall0, mB, mAnd, mOr, mNot, mAndV, mOrV, mNotV, mIte, mChain, mTg, mPar, gnName, gnTup, gnCons, gnNil, d1, d2, D.toB, oBind_ok, Out.seq_nx, Out.seq_rt, R.bind_ok, R.val, Out.res, List.length_cons, List.length_nil, List.map_cons, List.map_nil, List.replicate_succ, List.replicate_zero, List.cons_append, List.nil_append, List.getElem?_cons_zero, List.getElem?_cons_succ, List.set_cons_zero, List.set_cons_succ, Nat.reduceAdd, if_true, cond_true, cond_false, D.add, D.sub, dI0, D.toInt, Bool.not_true, Bool.not_false, id_eq]
  rw [mod_ok (by omega)]
  rfl
def rowB : G.Env → Out := (mIf (mB (mVar 5)) (mSeq (mMut "list" 3 dAppend (mCons (m2 D.mod (mCall (d1 D.toInt) (mCons (mVar 4) mNil)) (mVar 2)) mNil) kDrop) (mSet 4 (m2 D.fdiv (mVar 4) (mVar 2)))) (mMut "list" 3 dAppend (mCons (m2 D.mod (m2 D.fdiv (mCallN 2 m__law_mixed.fn (mCons (mVar 0) (mCons (mVar 6) mNil))) (mC (.int 7))) (mVar 2)) mNil) kDrop))
theorem f_row (c : Int) (many : Nat) (top : Int) (hm : many ≤ 1000) (h0 : 0 < top) (h1 : top < 1000000) : ∃ l : List Int, m__law_row.fn [.int c, .int many, .int top] = .ok (.lst (l.map D.int)) ∧ l.length = many ∧ ∀ x ∈ l, 0 ≤ x ∧ x < top := by
  have step : ∀ (ks : List Nat) (found : List Int) (left : Int) (g : Bool) (v : Option D), found.length + ks.length ≤ 2000 → ∃ (l : List Int) (left' : Int) (v' : Option D),
      loopD (stepD (gnName 6) rowB) (ks.map nI) [some (.int c), some (.int many), some (.int top), some (.lst (found.map D.int)), some (.int left), some (.bl g), v] = .nx [some (.int c), some (.int many), some (.int top), some (.lst ((found ++ l).map D.int)), some (.int left'), some (.bl g), v'] ∧ l.length = ks.length ∧ ∀ x ∈ l, 0 ≤ x ∧ x < top := by
    intro ks
    induction ks with
    | nil => intro found left g v _; exact ⟨[], left, v, by rw [List.append_nil]; rfl, rfl, fun _ h => by cases h⟩
    | cons k ks ih =>
      intro found left g v hl
      rw [List.length_cons] at hl
      cases g with
      | true =>
        obtain ⟨l, left', v', e, e2, e3⟩ := ih (found ++ [left.fmod top]) (left.fdiv top) true (some (nI k)) (by rw [List.length_append, List.length_singleton]; omega)
        refine ⟨left.fmod top :: l, left', v', loop_cons (ρ1 := [some (.int c), some (.int many), some (.int top), some (.lst (found.map D.int)), some (.int left), some (.bl true), some (nI k)]) (ρ2 := [some (.int c), some (.int many), some (.int top), some (.lst ((found ++ [left.fmod top]).map D.int)), some (.int (left.fdiv top)), some (.bl true), some (nI k)]) rfl ?_ ?_, by rw [List.length_cons, List.length_cons, e2], fun x hx => ?_⟩
        · refine if_t rfl (seq_nx (mut_append (xs := found.map D.int) (y := .int (left.fmod top)) rfl ?_ (by rw [List.length_map]; omega)) ?_)
          · simp only [mSeq, mSet, mRet, mRetN, mNext, mDrop, mIf, mVar, mC, m1, m2, mCons, mNil, mCall, mCallN, mCall0, mB, mAnd, mOr, mNot, mAndV, mOrV, mNotV, mIte, mChain, mTg, mPar, gnName, gnTup, gnCons, gnNil, d1, d2, D.toB, oBind_ok, Out.seq_nx, Out.seq_rt, R.bind_ok, R.val, Out.res, List.length_cons, List.length_nil, List.map_cons, List.map_nil, List.replicate_succ, List.replicate_zero, List.cons_append, List.nil_append, List.getElem?_cons_zero, List.getElem?_cons_succ, List.set_cons_zero, List.set_cons_succ, Nat.reduceAdd, if_true, cond_true, cond_false, D.add, D.sub, dI0, D.toInt, Bool.not_true, Bool.not_false, id_eq, mod_ok (i := left) (j := top) (by omega)]
          · refine (set_nx (d := .int (left.fdiv top)) ?_).trans ?_
            · simp only [mSeq, mSet, mRet, mRetN, mNext, mDrop, mIf, mVar, mC, m1, m2, mCons, mNil, mCall, mCallN, mCall0, mB, mAnd, mOr, mNot, mAndV, mOrV, mNotV, mIte, mChain, mTg, mPar, gnName, gnTup, gnCons, gnNil, d1, d2, D.toB, oBind_ok, Out.seq_nx, Out.seq_rt, R.bind_ok, R.val, Out.res, List.length_cons, List.length_nil, List.map_cons, List.map_nil, List.replicate_succ, List.replicate_zero, List.cons_append, List.nil_append, List.getElem?_cons_zero, List.getElem?_cons_succ, List.set_cons_zero, List.set_cons_succ, Nat.reduceAdd, if_true, cond_true, cond_false, D.add, D.sub, dI0, D.toInt, Bool.not_true, Bool.not_false, id_eq, fdiv_ok (i := left) (j := top) (by omega) (by omega)]
            · rw [List.map_append]; rfl
        · rw [e, List.append_assoc]; rfl
        · rcases List.mem_cons.mp hx with rfl | hx
          · exact fmod_rg h0
          · exact e3 x hx
      | false =>
        obtain ⟨l, left', v', e, e2, e3⟩ := ih (found ++ [((mixed c k).fdiv 7).fmod top]) left false (some (nI k)) (by rw [List.length_append, List.length_singleton]; omega)
        refine ⟨((mixed c k).fdiv 7).fmod top :: l, left', v', loop_cons (ρ1 := [some (.int c), some (.int many), some (.int top), some (.lst (found.map D.int)), some (.int left), some (.bl false), some (nI k)]) (ρ2 := [some (.int c), some (.int many), some (.int top), some (.lst ((found ++ [((mixed c k).fdiv 7).fmod top]).map D.int)), some (.int left), some (.bl false), some (nI k)]) rfl ?_ ?_, by rw [List.length_cons, List.length_cons, e2], fun x hx => ?_⟩
        · refine if_f rfl ((mut_append (xs := found.map D.int) (y := .int (((mixed c k).fdiv 7).fmod top)) rfl ?_ (by rw [List.length_map]; omega)).trans ?_)
          · simp only [mSeq, mSet, mRet, mRetN, mNext, mDrop, mIf, mVar, mC, m1, m2, mCons, mNil, mCall, mCallN, mCall0, mB, mAnd, mOr, mNot, mAndV, mOrV, mNotV, mIte, mChain, mTg, mPar, gnName, gnTup, gnCons, gnNil, d1, d2, D.toB, oBind_ok, Out.seq_nx, Out.seq_rt, R.bind_ok, R.val, Out.res, List.length_cons, List.length_nil, List.map_cons, List.map_nil, List.replicate_succ, List.replicate_zero, List.cons_append, List.nil_append, List.getElem?_cons_zero, List.getElem?_cons_succ, List.set_cons_zero, List.set_cons_succ, Nat.reduceAdd, if_true, cond_true, cond_false, D.add, D.sub, dI0, D.toInt, Bool.not_true, Bool.not_false, id_eq, f_mixed]
            rw [fdiv_ok (by omega) (by omega)]
            simp only [mSeq, mSet, mRet, mRetN, mNext, mDrop, mIf, mVar, mC, m1, m2, mCons, mNil, mCall, mCallN, mCall0, mB, mAnd, mOr, mNot, mAndV, mOrV, mNotV, mIte, mChain, mTg, mPar, gnName, gnTup, gnCons, gnNil, d1, d2, D.toB, oBind_ok, Out.seq_nx, Out.seq_rt, R.bind_ok, R.val, Out.res, List.length_cons, List.length_nil, List.map_cons, List.map_nil, List.replicate_succ, List.replicate_zero, List.cons_append, List.nil_append, List.getElem?_cons_zero, List.getElem?_cons_succ, List.set_cons_zero, List.set_cons_succ, Nat.reduceAdd, if_true, cond_true, cond_false, D.add, D.sub, dI0, D.toInt, Bool.not_true, Bool.not_false, id_eq, mod_ok (i := (mixed c k).fdiv 7) (j := top) (by omega)]
          · rw [List.map_append]; rfl
        · rw [e, List.append_assoc]; rfl
        · rcases List.mem_cons.mp hx with rfl | hx
          · exact fmod_rg h0
          · exact e3 x hx
  obtain ⟨l, left', v', e, e2, e3⟩ := step (List.range many) [] c (decide (1000000000000000000 ≤ c)) none (by rw [List.length_range, List.length_nil]; omega)
  refine ⟨l, ?_, by rw [e2, List.length_range], e3⟩
  rw [fn_run rfl]
  show (b__law_row [some (.int c), some (.int many), some (.int top), none, none, none, none]).res = _
  unfold b__law_row
  refine seq_res (set_nx (mLst_ok rfl (by decide))) ?_
  refine seq_res (set_nx rfl) ?_
  refine seq_res (set_nx rfl) ?_
  refine seq_res (for_nx (range1_ok (by omega)) e) ?_
  exact ret_res rfl
theorem f_at (ns : List Int) (k : Nat) (hn : ns.length ≤ 63) (hk : k ≤ 1000) : ∃ i : Int, m__law_at.fn [.scr (ns.map D.int), .int k] = .ok (.int i) := by
  rw [fn_run rfl]
  show ∃ i : Int, (b__law_at [some (.scr (ns.map D.int)), some (.int k)]).res = _
  unfold b__law_at
  by_cases h : k < ns.length
  · refine ⟨ns[k], ?_⟩
    have h1 : D.ix (.scr (ns.map D.int)) (.int (k : Int)) = .ok (.int ns[k]) := ix_scr (by rw [atI_nat (n := k) rfl (by rw [List.length_map]; exact h), List.getElem_map])
    have h2 : decide ((k : Int) < ((ns.map D.int).length : Int)) = true := decide_eq_true (by rw [List.length_map]; omega)
    have e : mIf (mB (m2 D.lt (mVar 1) (mCall (d1 D.len) (mCons (mVar 0) mNil)))) (mRet (mCall (d1 D.toInt) (mCons (m2 D.ix (mVar 0) (mVar 1)) mNil))) mNext [some (.scr (ns.map D.int)), some (.int k)] = .rt (.int ns[k]) := by
      refine if_t ?_ ?_
      · show R.ok (decide ((k : Int) < ((ns.map D.int).length : Int))) = _
        rw [h2]
      · simp only [mSeq, mSet, mRet, mRetN, mNext, mDrop, mIf, mVar, mC, m1, m2, mCons, mNil, mCall, mCallN, mCall0, mB, mAnd, mOr, mNot, mAndV, mOrV, mNotV, mIte, mChain, mTg, mPar, gnName, gnTup, gnCons, gnNil, d1, d2, D.toB, oBind_ok, Out.seq_nx, Out.seq_rt, R.bind_ok, R.val, Out.res, List.length_cons, List.length_nil, List.map_cons, List.map_nil, List.replicate_succ, List.replicate_zero, List.cons_append, List.nil_append, List.getElem?_cons_zero, List.getElem?_cons_succ, List.set_cons_zero, List.set_cons_succ, Nat.reduceAdd, if_true, cond_true, cond_false, D.add, D.sub, dI0, D.toInt, Bool.not_true, Bool.not_false, id_eq, h1]
    exact congrArg Out.res (seq_rt e)
  · refine ⟨5 + 3 * k, ?_⟩
    have h2 : decide ((k : Int) < ((ns.map D.int).length : Int)) = false := decide_eq_false (by rw [List.length_map]; omega)
    refine seq_res (ρ' := [some (.scr (ns.map D.int)), some (.int k)]) (if_f ?_ rfl) (ret_res ?_)
    · show R.ok (decide ((k : Int) < ((ns.map D.int).length : Int))) = _
      rw [h2]
    · simp only [mSeq, mSet, mRet, mRetN, mNext, mDrop, mIf, mVar, mC, m1, m2, mCons, mNil, mCall, mCallN, mCall0, mB, mAnd, mOr, mNot, mAndV, mOrV, mNotV, mIte, mChain, mTg, mPar, gnName, gnTup, gnCons, gnNil, d1, d2, D.toB, oBind_ok, Out.seq_nx, Out.seq_rt, R.bind_ok, R.val, Out.res, List.length_cons, List.length_nil, List.map_cons, List.map_nil, List.replicate_succ, List.replicate_zero, List.cons_append, List.nil_append, List.getElem?_cons_zero, List.getElem?_cons_succ, List.set_cons_zero, List.set_cons_succ, Nat.reduceAdd, if_true, cond_true, cond_false, D.add, D.sub, dI0, D.toInt, Bool.not_true, Bool.not_false, id_eq, mul_okL (i := 3) (j := (k : Int)) (by omega) (by omega)]
theorem fil_lot (n : Nat) (p : Nat → Bool) : Lot n ((List.range n).filter p) :=
  ⟨fun x hx => List.mem_range.mp (List.mem_filter.mp hx).1, List.Pairwise.filter _ List.pairwise_lt_range⟩
theorem f_lot (c : Int) (many : Nat) (hm : many ≤ 1000) : ∃ l : List Nat, m__law_lot.fn [.int c, .int many] = .ok (lotD l) ∧ Lot many l := by
  obtain ⟨marks, e, hl, _⟩ := f_row c many 2 hm (by omega) (by omega)
  refine ⟨(List.range many).filter fun k => decide (marks.getD k 0 = 1), ?_, fil_lot _ _⟩
  rw [fn_run rfl]
  show (b__law_lot [some (.int c), some (.int many), none, none]).res = _
  unfold b__law_lot
  refine seq_res (set_nx (d := .lst (marks.map D.int)) ?_) (ret_res ?_)
  · simp only [mSeq, mSet, mRet, mRetN, mNext, mDrop, mIf, mVar, mC, m1, m2, mCons, mNil, mCall, mCallN, mCall0, mB, mAnd, mOr, mNot, mAndV, mOrV, mNotV, mIte, mChain, mTg, mPar, gnName, gnTup, gnCons, gnNil, d1, d2, D.toB, oBind_ok, Out.seq_nx, Out.seq_rt, R.bind_ok, R.val, Out.res, List.length_cons, List.length_nil, List.map_cons, List.map_nil, List.replicate_succ, List.replicate_zero, List.cons_append, List.nil_append, List.getElem?_cons_zero, List.getElem?_cons_succ, List.set_cons_zero, List.set_cons_succ, Nat.reduceAdd, if_true, cond_true, cond_false, D.add, D.sub, dI0, D.toInt, Bool.not_true, Bool.not_false, id_eq, e]
  · simp only [mSeq, mSet, mRet, mRetN, mNext, mDrop, mIf, mVar, mC, m1, m2, mCons, mNil, mCall, mCallN, mCall0, mB, mAnd, mOr, mNot, mAndV, mOrV, mNotV, mIte, mChain, mTg, mPar, gnName, gnTup, gnCons, gnNil, d1, d2, D.toB, oBind_ok, Out.seq_nx, Out.seq_rt, R.bind_ok, R.val, Out.res, List.length_cons, List.length_nil, List.map_cons, List.map_nil, List.replicate_succ, List.replicate_zero, List.cons_append, List.nil_append, List.getElem?_cons_zero, List.getElem?_cons_succ, List.set_cons_zero, List.set_cons_succ, Nat.reduceAdd, if_true, cond_true, cond_false, D.add, D.sub, dI0, D.toInt, Bool.not_true, Bool.not_false, id_eq]
    rw [mLc_fil (emb := nI) (l := List.range many) (r := fun k => [some (.int c), some (.int many), some (.lst (marks.map D.int)), some (nI k)]) (p := fun k => decide (marks.getD k 0 = 1)) (f := nI) (range1_ok (by omega)) (by rw [List.length_range]; omega) fun k hk => ⟨rfl, ?_, fun _ => rfl⟩]
    · rfl
    · have hk := List.mem_range.mp hk
      have h1 : D.ix (.lst (marks.map D.int)) (nI k) = .ok (.int (marks.getD k 0)) := ix_lst (by
        rw [atI_nat (n := k) rfl (by rw [List.length_map]; omega), List.getElem_map, List.getD_eq_getElem?_getD, List.getElem?_eq_getElem (by omega)]
        rfl)
      simp only [mSeq, mSet, mRet, mRetN, mNext, mDrop, mIf, mVar, mC, m1, m2, mCons, mNil, mCall, mCallN, mCall0, mB, mAnd, mOr, mNot, mAndV, mOrV, mNotV, mIte, mChain, mTg, mPar, gnName, gnTup, gnCons, gnNil, d1, d2, D.toB, oBind_ok, Out.seq_nx, Out.seq_rt, R.bind_ok, R.val, Out.res, List.length_cons, List.length_nil, List.map_cons, List.map_nil, List.replicate_succ, List.replicate_zero, List.cons_append, List.nil_append, List.getElem?_cons_zero, List.getElem?_cons_succ, List.set_cons_zero, List.set_cons_succ, Nat.reduceAdd, if_true, cond_true, cond_false, D.add, D.sub, dI0, D.toInt, Bool.not_true, Bool.not_false, id_eq, h1, deq]
/-! ### webs as data -/
abbrev Row : Type := Nat × Nat × Nat
abbrev rowD (r : Row) : D := .tup [nI r.1, nI r.2.1, nI r.2.2]
abbrev webD (many : Nat) (rows : List Row) : D := .tup [nI many, .tup (rows.map rowD)]
theorem web0 (many : Nat) (rows : List Row) : D.ix (webD many rows) (.int 0) = .ok (nI many) := rfl
theorem web1 (many : Nat) (rows : List Row) : D.ix (webD many rows) (.int 1) = .ok (.tup (rows.map rowD)) := rfl
theorem row0 (r : Row) : D.ix (rowD r) (.int 0) = .ok (nI r.1) := rfl
theorem row1 (r : Row) : D.ix (rowD r) (.int 1) = .ok (nI r.2.1) := rfl
theorem row2 (r : Row) : D.ix (rowD r) (.int 2) = .ok (nI r.2.2) := rfl
theorem rows_ix {rows : List Row} {k : Nat} (h : k < rows.length) : D.ix (.tup (rows.map rowD)) (nI k) = .ok (rowD rows[k]) := ix_tup (by
  rw [atI_nat (n := k) rfl (by rw [List.length_map]; exact h), List.getElem_map])
theorem deqN (a b : Nat) : D.eq (nI a) (nI b) = .ok (.bl (decide (a = b))) := by
  rw [deq]
  exact congrArg (fun z => R.ok (D.bl z)) (bool_ext (by rw [decide_eq_true_iff, decide_eq_true_iff]; omega))
def getsL (rows : List Row) (p : Nat) : List Nat := (List.range rows.length).filter fun k => decide ((rows.getD k (0, 0, 0)).2.1 = p)
theorem f_gets (many : Nat) (rows : List Row) (p : Nat) (hr : rows.length ≤ 1000) : m__law_gets.fn [webD many rows, nI p] = .ok (.lst ((getsL rows p).map nI)) := by
  rw [fn_run rfl]
  show (b__law_gets [some (webD many rows), some (nI p), none]).res = _
  unfold b__law_gets
  refine ret_res ?_
  rw [mLc_fil (emb := nI) (l := List.range rows.length) (r := fun k => [some (webD many rows), some (nI p), some (nI k)]) (p := fun k => decide ((rows.getD k (0, 0, 0)).2.1 = p)) (f := nI) ?_ (by rw [List.length_range]; omega) fun k hk => ⟨rfl, ?_, fun _ => rfl⟩]
  · rfl
  · show dRange1 (.int ((rows.map rowD).length : Int)) = _
    rw [List.length_map]
    exact range1_ok (by omega)
  · have hk := List.mem_range.mp hk
    have e : rows.getD k (0, 0, 0) = rows[k] := by rw [List.getD_eq_getElem?_getD, List.getElem?_eq_getElem hk]; rfl
    simp only [mSeq, mSet, mRet, mRetN, mNext, mDrop, mIf, mVar, mC, m1, m2, mCons, mNil, mCall, mCallN, mCall0, mB, mAnd, mOr, mNot, mAndV, mOrV, mNotV, mIte, mChain, mTg, mPar, gnName, gnTup, gnCons, gnNil, d1, d2, D.toB, oBind_ok, Out.seq_nx, Out.seq_rt, R.bind_ok, R.val, Out.res, List.length_cons, List.length_nil, List.map_cons, List.map_nil, List.replicate_succ, List.replicate_zero, List.cons_append, List.nil_append, List.getElem?_cons_zero, List.getElem?_cons_succ, List.set_cons_zero, List.set_cons_succ, Nat.reduceAdd, if_true, cond_true, cond_false, D.add, D.sub, dI0, D.toInt, Bool.not_true, Bool.not_false, id_eq, web1, rows_ix hk, row1, deqN, e]
/-! ### drawn needs -/
def needB1 : G.Env → Out := (mSeq (mSet 4 (m2 D.add (mVar 4) (mC (.int 1)))) (mIf (mB (m2 D.lt (m2 D.ix (mVar 2) (m2 D.mod (mVar 4) (mC (.int 60)))) (m2 D.add (mC (.int 8)) (m2 D.fdiv (m2 D.ix (mVar 2) (mC (.int 61))) (mC (.int 3)))))) (mMut "list" 6 dAppend (mCons (mVar 7) mNil) kDrop) mNext))
def needB2 : G.Env → Out := (mSeq (mSet 6 (mLst mNil)) (mSeq (mFor (mSq D.seq (mCallN 2 m__law_gets.fn (mCons (mVar 1) (mCons (m2 D.ix (mVar 5) (mC (.int 0))) mNil)))) (gnName 7) needB1) (mMut "list" 3 dAppend (mCons (mCall (d1 D.toTup) (mCons (mVar 6) mNil)) mNil) kDrop)))
theorem fmodN (a b : Nat) : Int.fmod (a : Int) (b : Int) = ((a % b : Nat) : Int) := (Int.ofNat_fmod a b).symm
theorem dg_ix {dg : List Int} {k : Nat} (h : k < dg.length) : D.ix (.lst (dg.map D.int)) (.int (k : Int)) = .ok (.int dg[k]) := ix_lst (by
  rw [atI_nat (n := k) rfl (by rw [List.length_map]; exact h), List.getElem_map])
theorem need1 {W F Q : D} {c : Option D} {dg : List Int} (hd : dg.length = 64) : ∀ (ks lot : List Nat) (at_ : Nat) (v : Option D), lot.length + ks.length ≤ 2000 → ∃ (sub : List Nat) (v' : Option D),
    loopD (stepD (gnName 7) needB1) (ks.map nI) [c, some W, some (.lst (dg.map D.int)), some F, some (nI at_), some Q, some (.lst (lot.map nI)), v] = .nx [c, some W, some (.lst (dg.map D.int)), some F, some (nI (at_ + ks.length)), some Q, some (.lst ((lot ++ sub).map nI)), v'] ∧ sub.Sublist ks := by
  intro ks
  induction ks with
  | nil => intro lot at_ v _; exact ⟨[], v, by rw [List.append_nil]; rfl, List.Sublist.slnil⟩
  | cons k ks ih =>
    intro lot at_ v hl
    rw [List.length_cons] at hl
    have h1 : D.ix (.lst (dg.map D.int)) (.int (((at_ + 1 : Nat) : Int).fmod 60)) = .ok (.int (dg[(at_ + 1) % 60]'(by omega))) := by
      rw [show ((60 : Int)) = ((60 : Nat) : Int) from rfl, fmodN]
      exact dg_ix (by omega)
    have h2 : D.ix (.lst (dg.map D.int)) (.int 61) = .ok (.int (dg[61]'(by omega))) := dg_ix (k := 61) (by omega)
    have ec : mB (m2 D.lt (m2 D.ix (mVar 2) (m2 D.mod (mVar 4) (mC (.int 60)))) (m2 D.add (mC (.int 8)) (m2 D.fdiv (m2 D.ix (mVar 2) (mC (.int 61))) (mC (.int 3))))) [c, some W, some (.lst (dg.map D.int)), some F, some (nI (at_ + 1)), some Q, some (.lst (lot.map nI)), some (nI k)] = .ok (decide (dg[(at_ + 1) % 60]'(by omega) < (8 : Int) + (dg[61]'(by omega)).fdiv 3)) := by
      simp only [mSeq, mSet, mRet, mRetN, mNext, mDrop, mIf, mVar, mC, m1, m2, mCons, mNil, mCall, mCallN, mCall0, mB, mAnd, mOr, mNot, mAndV, mOrV, mNotV, mIte, mChain, mTg, mPar, gnName, gnTup, gnCons, gnNil, d1, d2, D.toB, oBind_ok, Out.seq_nx, Out.seq_rt, R.bind_ok, R.val, Out.res, List.length_cons, List.length_nil, List.map_cons, List.map_nil, List.replicate_succ, List.replicate_zero, List.cons_append, List.nil_append, List.getElem?_cons_zero, List.getElem?_cons_succ, List.set_cons_zero, List.set_cons_succ, Nat.reduceAdd, if_true, cond_true, cond_false, D.add, D.sub, dI0, D.toInt, Bool.not_true, Bool.not_false, id_eq, mod_ok (i := ((at_ + 1 : Nat) : Int)) (j := 60) (by omega), h1, h2, fdiv_ok (i := dg[61]'(by omega)) (j := 3) (by omega) (by omega), dlt]
    have e4 : mSet 4 (m2 D.add (mVar 4) (mC (.int 1))) [c, some W, some (.lst (dg.map D.int)), some F, some (nI at_), some Q, some (.lst (lot.map nI)), some (nI k)] = .nx [c, some W, some (.lst (dg.map D.int)), some F, some (nI (at_ + 1)), some Q, some (.lst (lot.map nI)), some (nI k)] := rfl
    cases hc : decide (dg[(at_ + 1) % 60]'(by omega) < (8 : Int) + (dg[61]'(by omega)).fdiv 3) with
    | true =>
      rw [hc] at ec
      obtain ⟨sub, v', e, hs⟩ := ih (lot ++ [k]) (at_ + 1) (some (nI k)) (by rw [List.length_append, List.length_singleton]; omega)
      refine ⟨k :: sub, v', loop_cons (ρ1 := [c, some W, some (.lst (dg.map D.int)), some F, some (nI at_), some Q, some (.lst (lot.map nI)), some (nI k)]) (ρ2 := [c, some W, some (.lst (dg.map D.int)), some F, some (nI (at_ + 1)), some Q, some (.lst ((lot ++ [k]).map nI)), some (nI k)]) rfl ?_ ?_, hs.cons₂ k⟩
      · refine seq_nx e4 (if_t ec ((mut_append (xs := lot.map nI) (y := nI k) rfl rfl (by rw [List.length_map]; omega)).trans ?_))
        rw [List.map_append]; rfl
      · rw [e, List.append_assoc, List.length_cons, show at_ + 1 + ks.length = at_ + (ks.length + 1) by omega]; rfl
    | false =>
      rw [hc] at ec
      obtain ⟨sub, v', e, hs⟩ := ih lot (at_ + 1) (some (nI k)) (by omega)
      refine ⟨sub, v', loop_cons (ρ1 := [c, some W, some (.lst (dg.map D.int)), some F, some (nI at_), some Q, some (.lst (lot.map nI)), some (nI k)]) (ρ2 := [c, some W, some (.lst (dg.map D.int)), some F, some (nI (at_ + 1)), some Q, some (.lst (lot.map nI)), some (nI k)]) rfl (seq_nx e4 (if_f ec rfl)) ?_, hs.cons k⟩
      rw [e, List.length_cons, show at_ + 1 + ks.length = at_ + (ks.length + 1) by omega]
theorem getsL_len (rows : List Row) (p : Nat) : (getsL rows p).length ≤ rows.length := by
  have := List.length_filter_le (fun k => decide ((rows.getD k (0, 0, 0)).2.1 = p)) (List.range rows.length)
  rw [List.length_range] at this
  exact this
theorem need2 {many : Nat} {rows : List Row} {c : Option D} {dg : List Int} (hr : rows.length ≤ 100) (hd : dg.length = 64) : ∀ (rs : List Row) (found : List (List Nat)) (at_ : Nat) (v5 v6 v7 : Option D), found.length + rs.length ≤ 2000 → ∃ (ls : List (List Nat)) (at' : Nat) (w5 w6 w7 : Option D),
    loopD (stepD (gnName 5) needB2) (rs.map rowD) [c, some (webD many rows), some (.lst (dg.map D.int)), some (.lst (found.map lotD)), some (nI at_), v5, v6, v7] = .nx [c, some (webD many rows), some (.lst (dg.map D.int)), some (.lst ((found ++ ls).map lotD)), some (nI at'), w5, w6, w7] ∧ ls.length = rs.length ∧ ∀ k, (ls.getD k []).Sublist (getsL rows (rs.getD k (0, 0, 0)).1) := by
  intro rs
  induction rs with
  | nil => intro found at_ v5 v6 v7 _; exact ⟨[], at_, v5, v6, v7, by rw [List.append_nil]; rfl, rfl, fun k => by simp⟩
  | cons r rs ih =>
    intro found at_ v5 v6 v7 hl
    rw [List.length_cons] at hl
    obtain ⟨sub, v', e, hs⟩ := need1 (W := webD many rows) (F := .lst (found.map lotD)) (Q := rowD r) (c := c) hd (getsL rows r.1) [] at_ v7 (by have := getsL_len rows r.1; rw [List.length_nil]; omega)
    obtain ⟨ls, at', w5, w6, w7, e2, h2, h3⟩ := ih (found ++ [sub]) (at_ + (getsL rows r.1).length) (some (rowD r)) (some (.lst (sub.map nI))) v' (by rw [List.length_append, List.length_singleton]; omega)
    refine ⟨sub :: ls, at', w5, w6, w7, loop_cons (ρ1 := [c, some (webD many rows), some (.lst (dg.map D.int)), some (.lst (found.map lotD)), some (nI at_), some (rowD r), v6, v7]) (ρ2 := [c, some (webD many rows), some (.lst (dg.map D.int)), some (.lst ((found ++ [sub]).map lotD)), some (nI (at_ + (getsL rows r.1).length)), some (rowD r), some (.lst (sub.map nI)), v']) rfl ?_ ?_, by rw [List.length_cons, List.length_cons, h2], fun k => ?_⟩
    · refine seq_nx (set_nx (mLst_ok rfl (by decide))) (seq_nx (for_nx (ds := (getsL rows r.1).map nI) ?_ e) ((mut_append (xs := found.map lotD) (y := lotD sub) rfl rfl (by rw [List.length_map]; omega)).trans ?_))
      · show (mSq D.seq (mCallN 2 m__law_gets.fn (mCons (mVar 1) (mCons (m2 D.ix (mVar 5) (mC (.int 0))) mNil))) [c, some (webD many rows), some (.lst (dg.map D.int)), some (.lst (found.map lotD)), some (nI at_), some (rowD r), some (.lst []), v7]) = _
        unfold mSq
        simp only [mSeq, mSet, mRet, mRetN, mNext, mDrop, mIf, mVar, mC, m1, m2, mCons, mNil, mCall, mCallN, mCall0, mB, mAnd, mOr, mNot, mAndV, mOrV, mNotV, mIte, mChain, mTg, mPar, gnName, gnTup, gnCons, gnNil, d1, d2, D.toB, oBind_ok, Out.seq_nx, Out.seq_rt, R.bind_ok, R.val, Out.res, List.length_cons, List.length_nil, List.map_cons, List.map_nil, List.replicate_succ, List.replicate_zero, List.cons_append, List.nil_append, List.getElem?_cons_zero, List.getElem?_cons_succ, List.set_cons_zero, List.set_cons_succ, Nat.reduceAdd, if_true, cond_true, cond_false, D.add, D.sub, dI0, D.toInt, Bool.not_true, Bool.not_false, id_eq, row0, f_gets many rows r.1 (by omega), D.seq]
      · rw [show (found ++ [sub]).map lotD = found.map lotD ++ [lotD sub] from List.map_append]; rfl
    · rw [e2, List.append_assoc]; rfl
    · cases k with
      | zero => exact hs
      | succ k => exact h3 k
theorem f_needs (cell : Int) (many : Nat) (rows : List Row) (hr : rows.length ≤ 100) : ∃ needs : List (List Nat), m__law_needs.fn [.int cell, webD many rows] = .ok (.tup (needs.map lotD)) ∧ needs.length = rows.length ∧ ∀ k, (needs.getD k []).Sublist (getsL rows (rows.getD k (0, 0, 0)).1) := by
  obtain ⟨dg, e, hd, _⟩ := f_row cell 64 24 (by omega) (by omega) (by omega)
  obtain ⟨ls, at', w5, w6, w7, e2, h2, h3⟩ := need2 (many := many) (c := some (.int cell)) hr hd rows [] 0 none none none (by rw [List.length_nil]; omega)
  refine ⟨ls, ?_, h2, h3⟩
  rw [fn_run rfl]
  show (b__law_needs [some (.int cell), some (webD many rows), none, none, none, none, none, none]).res = _
  unfold b__law_needs
  refine seq_res (set_nx (d := .lst (dg.map D.int)) ?_) ?_
  · simp only [mSeq, mSet, mRet, mRetN, mNext, mDrop, mIf, mVar, mC, m1, m2, mCons, mNil, mCall, mCallN, mCall0, mB, mAnd, mOr, mNot, mAndV, mOrV, mNotV, mIte, mChain, mTg, mPar, gnName, gnTup, gnCons, gnNil, d1, d2, D.toB, oBind_ok, Out.seq_nx, Out.seq_rt, R.bind_ok, R.val, Out.res, List.length_cons, List.length_nil, List.map_cons, List.map_nil, List.replicate_succ, List.replicate_zero, List.cons_append, List.nil_append, List.getElem?_cons_zero, List.getElem?_cons_succ, List.set_cons_zero, List.set_cons_succ, Nat.reduceAdd, if_true, cond_true, cond_false, D.add, D.sub, dI0, D.toInt, Bool.not_true, Bool.not_false, id_eq]
    exact e
  refine seq_res (set_nx (mLst_ok rfl (by decide))) ?_
  refine seq_res (set_nx rfl) ?_
  exact seq_res (for_nx rfl e2) (ret_res rfl)
/-! ### drawn webs -/
def webB1 : G.Env → Out := (mSeq (mMut "list" 7 dAppend (mCons (mTup (mCons (m2 D.ix (mVar 9) (m2 D.sub (mVar 10) (mC (.int 1)))) (mCons (m2 D.ix (mVar 9) (mVar 10)) (mCons (m2 D.add (mC (.int 1)) (m2 D.mod (m2 D.ix (mVar 5) (mVar 8)) (mC (.int 3)))) mNil)))) mNil) kDrop) (mSet 8 (m2 D.add (mVar 8) (mC (.int 1)))))
def webB2 : G.Env → Out := (mFor (mSq dRange1 (mCall (d1 D.len) (mCons (mVar 9) mNil))) (gnName 10) webB1)
def webB3 : G.Env → Out := (mSeq (mSet 11 (m2 D.mod (m2 D.ix (mVar 5) (m2 D.add (mC (.int 11)) (m2 D.mul (mC (.int 3)) (mVar 10)))) (mVar 2))) (mSeq (mSet 12 (m2 D.mod (mCall (d1 D.toInt) (mCons (m2 D.add (m2 D.add (mVar 11) (mC (.int 1))) (m2 D.mod (m2 D.ix (mVar 5) (m2 D.add (mC (.int 12)) (m2 D.mul (mC (.int 3)) (mVar 10)))) (m2 D.sub (mVar 2) (mC (.int 1))))) mNil)) (mVar 2))) (mSeq (mSet 13 (m2 D.mod (m2 D.ix (mVar 5) (m2 D.add (mC (.int 13)) (m2 D.mul (mC (.int 3)) (mVar 10)))) (m2 D.add (mScal (mCall (d1 D.len) (mCons (mVar 7) mNil))) (mC (.int 1))))) (mMut "list" 7 dInsert (mCons (mVar 13) (mCons (mTup (mCons (mVar 11) (mCons (mVar 12) (mCons (m2 D.add (mC (.int 1)) (m2 D.mod (m2 D.ix (mVar 5) (m2 D.add (mC (.int 24)) (mVar 10))) (mC (.int 3)))) mNil)))) mNil)) kDrop))))
theorem m2_ok {f : D → D → R D} {a b : G.Env → R D} {ρ : G.Env} {x y : D} {r : R D} (ha : a ρ = .ok x) (hb : b ρ = .ok y) (h : f x y = r) : m2 f a b ρ = r := by
  unfold m2
  rw [ha, hb]
  exact h
theorem cons_ok {a : G.Env → R D} {r : G.Env → R (List D)} {ρ : G.Env} {x : D} {xs : List D} (h1 : a ρ = .ok x) (h2 : r ρ = .ok xs) : mCons a r ρ = .ok (x :: xs) := by
  unfold mCons
  rw [h1, h2]
  rfl
theorem f_rowN (c : Int) (many top : Nat) (hm : many ≤ 1000) (h0 : 0 < top) (h1 : top < 1000000) : ∃ l : List Nat, m__law_row.fn [.int c, .int many, .int top] = .ok (.lst (l.map nI)) ∧ l.length = many ∧ ∀ x ∈ l, x < top := by
  obtain ⟨l, e, h2, h3⟩ := f_row c many top hm (by omega) (by omega)
  refine ⟨l.map Int.toNat, ?_, by rw [List.length_map, h2], fun x hx => ?_⟩
  · rw [e, List.map_map]
    refine congrArg (fun z => R.ok (D.lst z)) (List.map_congr_left fun x hx => ?_)
    have := h3 x hx
    show D.int x = D.int ((x.toNat : Nat) : Int)
    rw [Int.toNat_of_nonneg this.1]
  · obtain ⟨y, hy, rfl⟩ := List.mem_map.mp hx
    have := h3 y hy
    omega
theorem ixL {l : List Nat} {k : Nat} (h : k < l.length) : D.ix (.lst (l.map nI)) (nI k) = .ok (nI l[k]) := ix_lst (by
  rw [atI_nat (n := k) rfl (by rw [List.length_map]; exact h), List.getElem_map])
theorem modN {a b : Nat} (h : b ≠ 0) : D.mod (nI a) (nI b) = .ok (nI (a % b)) := by
  rw [mod_ok (by omega), fmodN]
theorem mulN {a b : Nat} (h : a < 1000) : D.mul (nI a) (nI b) = .ok (nI (a * b)) := by
  rw [mul_okL (by omega) (by omega)]
  rfl
theorem subN {a : Nat} (h : 1 ≤ a) : D.sub (nI a) (.int 1) = .ok (nI (a - 1)) := by
  show R.ok (D.int ((a : Int) - 1)) = R.ok (D.int ((a - 1 : Nat) : Int))
  rw [show ((a - 1 : Nat) : Int) = (a : Int) - 1 by omega]
theorem perm_map {α β : Type} {f : α → β} {m n : List β} (h : m.Perm n) : ∀ l : List α, n = l.map f → ∃ l' : List α, l'.Perm l ∧ m = l'.map f := by
  induction h with
  | nil => intro l e; exact ⟨l, List.Perm.refl _, e⟩
  | cons x p ih =>
    intro l e
    cases l with
    | nil => cases e
    | cons a l =>
      rw [List.map_cons, List.cons.injEq] at e
      obtain ⟨l', h1, h2⟩ := ih l e.2
      exact ⟨a :: l', h1.cons a, by rw [List.map_cons, e.1, h2]⟩
  | swap x y t =>
    intro l e
    cases l with
    | nil => cases e
    | cons a l =>
      cases l with
      | nil => cases e
      | cons b l =>
        rw [List.map_cons, List.map_cons, List.cons.injEq, List.cons.injEq] at e
        exact ⟨b :: a :: l, List.Perm.swap _ _ _, by rw [List.map_cons, List.map_cons, e.1, e.2.1, e.2.2]⟩
  | trans p q ih1 ih2 =>
    intro l e
    obtain ⟨l2, h1, h2⟩ := ih2 l e
    obtain ⟨l1, h3, h4⟩ := ih1 l2 h2
    exact ⟨l1, h3.trans h1, h4⟩
def RowOk (many : Nat) (r : Row) : Prop := r.1 < many ∧ r.2.1 < many ∧ r.1 ≠ r.2.1 ∧ 1 ≤ r.2.2 ∧ r.2.2 ≤ 9
def prev (g : List Nat) (k : Nat) : Nat := g.getD (if k = 0 then g.length - 1 else k - 1) 0
def Grp (many : Nat) (g : List Nat) : Prop := 2 ≤ g.length ∧ g.Nodup ∧ ∀ x ∈ g, x < many
theorem grp_ok {many : Nat} {g : List Nat} (h : Grp many g) {k d : Nat} (hk : k < g.length) (h1 : 1 ≤ d) (h2 : d ≤ 9) : RowOk many (prev g k, g[k], d) := by
  have hl := h.1
  have hj : (if k = 0 then g.length - 1 else k - 1) < g.length := by split <;> omega
  have e : prev g k = g[if k = 0 then g.length - 1 else k - 1] := by
    unfold prev
    rw [List.getD_eq_getElem?_getD, List.getElem?_eq_getElem hj]
    rfl
  refine ⟨?_, h.2.2 _ (List.getElem_mem _), ?_, h1, h2⟩
  · show prev g k < many
    rw [e]
    exact h.2.2 _ (List.getElem_mem _)
  · show prev g k ≠ g[k]
    rw [e]
    have hne : (if k = 0 then g.length - 1 else k - 1) ≠ k := by split <;> omega
    have pw := List.pairwise_iff_getElem.mp h.2.1
    rcases Nat.lt_or_gt_of_ne hne with q | q
    · exact pw _ _ hj hk q
    · exact fun z => pw _ _ hk hj q z.symm
theorem prev_ix {g : List Nat} {k : Nat} (h : k < g.length) : D.ix (.lst (g.map nI)) (.int ((k : Int) - 1)) = .ok (nI (prev g k)) := by
  unfold prev
  by_cases h0 : k = 0
  · subst h0
    rw [if_pos rfl]
    refine ix_lst ?_
    rw [show (((0 : Nat) : Int) - 1) = -1 from rfl, atI_neg (by rw [List.length_map]; exact h), List.getElem_map, List.getD_eq_getElem?_getD, List.getElem?_eq_getElem (by omega)]
    simp only [List.length_map]
    rfl
  · rw [if_neg h0]
    refine ix_lst ?_
    rw [atI_nat (n := k - 1) (by omega) (by rw [List.length_map]; omega), List.getElem_map, List.getD_eq_getElem?_getD, List.getElem?_eq_getElem (by omega)]
    rfl
/-- one group's rows -/
theorem web1L {many : Nat} {g dg : List Nat} {c0 c1 c2 c3 c4 G6 : Option D} {v11 v12 v13 v14 : Option D} (hg : Grp many g) (hd : dg.length = 40) : ∀ (ks : List Nat) (rs : List Row) (at_ : Nat) (v : Option D), (∀ k ∈ ks, k < g.length) → rs.length + ks.length ≤ 1000 → at_ + ks.length ≤ 40 → ∃ (nr : List Row) (v' : Option D),
    loopD (stepD (gnName 10) webB1) (ks.map nI) [c0, c1, c2, c3, c4, some (.lst (dg.map nI)), G6, some (.lst (rs.map rowD)), some (nI at_), some (.lst (g.map nI)), v, v11, v12, v13, v14] = .nx [c0, c1, c2, c3, c4, some (.lst (dg.map nI)), G6, some (.lst ((rs ++ nr).map rowD)), some (nI (at_ + ks.length)), some (.lst (g.map nI)), v', v11, v12, v13, v14] ∧
      nr.length = ks.length ∧ (∀ r ∈ nr, RowOk many r) ∧ ∀ k ∈ ks, ∀ h : k < g.length, ∃ r ∈ nr, r.1 = prev g k ∧ r.2.1 = g[k] := by
  intro ks
  induction ks with
  | nil => intro rs at_ v _ _ _; exact ⟨[], v, by rw [List.append_nil]; rfl, rfl, (fun _ h => by cases h), (fun _ h => by cases h)⟩
  | cons k ks ih =>
    intro rs at_ v hk hl ha
    rw [List.length_cons] at hl ha
    have hk0 := hk k (.head _)
    let r : Row := (prev g k, g[k], 1 + dg[at_]'(by omega) % 3)
    have hr : RowOk many r := grp_ok hg hk0 (by omega) (by omega)
    obtain ⟨nr, v', e, h1, h2, h3⟩ := ih (rs ++ [r]) (at_ + 1) (some (nI k)) (fun j hj => hk j (.tail _ hj)) (by rw [List.length_append, List.length_singleton]; omega) (by omega)
    refine ⟨r :: nr, v', loop_cons (ρ1 := [c0, c1, c2, c3, c4, some (.lst (dg.map nI)), G6, some (.lst (rs.map rowD)), some (nI at_), some (.lst (g.map nI)), some (nI k), v11, v12, v13, v14])
      (ρ2 := [c0, c1, c2, c3, c4, some (.lst (dg.map nI)), G6, some (.lst ((rs ++ [r]).map rowD)), some (nI (at_ + 1)), some (.lst (g.map nI)), some (nI k), v11, v12, v13, v14]) rfl ?_ ?_, by rw [List.length_cons, List.length_cons, h1], fun x hx => ?_, fun j hj hlt => ?_⟩
    · have e7 : mTup (mCons (m2 D.ix (mVar 9) (m2 D.sub (mVar 10) (mC (.int 1)))) (mCons (m2 D.ix (mVar 9) (mVar 10)) (mCons (m2 D.add (mC (.int 1)) (m2 D.mod (m2 D.ix (mVar 5) (mVar 8)) (mC (.int 3)))) mNil))) [c0, c1, c2, c3, c4, some (.lst (dg.map nI)), G6, some (.lst (rs.map rowD)), some (nI at_), some (.lst (g.map nI)), some (nI k), v11, v12, v13, v14] = .ok (rowD r) := by
        have p1 : m2 D.ix (mVar 9) (m2 D.sub (mVar 10) (mC (.int 1))) [c0, c1, c2, c3, c4, some (.lst (dg.map nI)), G6, some (.lst (rs.map rowD)), some (nI at_), some (.lst (g.map nI)), some (nI k), v11, v12, v13, v14] = .ok (nI (prev g k)) := m2_ok rfl (m2_ok rfl rfl rfl) (prev_ix hk0)
        have p2 : m2 D.ix (mVar 9) (mVar 10) [c0, c1, c2, c3, c4, some (.lst (dg.map nI)), G6, some (.lst (rs.map rowD)), some (nI at_), some (.lst (g.map nI)), some (nI k), v11, v12, v13, v14] = .ok (nI g[k]) := m2_ok rfl rfl (ixL hk0)
        have p3 : m2 D.add (mC (.int 1)) (m2 D.mod (m2 D.ix (mVar 5) (mVar 8)) (mC (.int 3))) [c0, c1, c2, c3, c4, some (.lst (dg.map nI)), G6, some (.lst (rs.map rowD)), some (nI at_), some (.lst (g.map nI)), some (nI k), v11, v12, v13, v14] = .ok (nI (1 + dg[at_]'(by omega) % 3)) := m2_ok rfl (m2_ok (m2_ok rfl rfl (ixL (by omega))) rfl (modN (b := 3) (by omega))) rfl
        refine mTup_ok (ds := [nI (prev g k), nI g[k], nI (1 + dg[at_]'(by omega) % 3)]) ?_ (by show 3 ≤ 16777216; omega)
        exact cons_ok p1 (cons_ok p2 (cons_ok p3 rfl))
      refine seq_nx (mut_append (xs := rs.map rowD) (y := rowD r) rfl ?_ (by rw [List.length_map]; omega)) ((set_nx (d := nI (at_ + 1)) rfl).trans ?_)
      · exact cons_ok e7 rfl
      · rw [show (rs ++ [r]).map rowD = rs.map rowD ++ [rowD r] from List.map_append]; rfl
    · rw [e, List.append_assoc, List.length_cons, show at_ + 1 + ks.length = at_ + (ks.length + 1) by omega]; rfl
    · rcases List.mem_cons.mp hx with rfl | hx
      · exact hr
      · exact h2 x hx
    · rcases List.mem_cons.mp hj with rfl | hj
      · exact ⟨r, .head _, rfl, rfl⟩
      · obtain ⟨x, hx, q⟩ := h3 j hj hlt
        exact ⟨x, .tail _ hx, q⟩
abbrev gD (g : List Nat) : D := .lst (g.map nI)
def sumL (gs : List (List Nat)) : Nat := (gs.map List.length).sum
theorem web2L {many : Nat} {dg : List Nat} {c0 c1 c2 c3 c4 G6 : Option D} {v11 v12 v13 v14 : Option D} (hd : dg.length = 40) : ∀ (gs : List (List Nat)) (rs : List Row) (at_ : Nat) (v9 v10 : Option D), (∀ g ∈ gs, Grp many g) → rs.length + sumL gs ≤ 1000 → at_ + sumL gs ≤ 40 → ∃ (nr : List Row) (at' : Nat) (w9 w10 : Option D),
    loopD (stepD (gnName 9) webB2) (gs.map gD) [c0, c1, c2, c3, c4, some (.lst (dg.map nI)), G6, some (.lst (rs.map rowD)), some (nI at_), v9, v10, v11, v12, v13, v14] = .nx [c0, c1, c2, c3, c4, some (.lst (dg.map nI)), G6, some (.lst ((rs ++ nr).map rowD)), some (nI at'), w9, w10, v11, v12, v13, v14] ∧
      nr.length = sumL gs ∧ (∀ r ∈ nr, RowOk many r) ∧ ∀ g ∈ gs, ∀ k, ∀ h : k < g.length, ∃ r ∈ nr, r.1 = prev g k ∧ r.2.1 = g[k] := by
  intro gs
  induction gs with
  | nil => intro rs at_ v9 v10 _ _ _; exact ⟨[], at_, v9, v10, by rw [List.append_nil]; rfl, rfl, (fun _ h => by cases h), (fun _ h => by cases h)⟩
  | cons g gs ih =>
    intro rs at_ v9 v10 hg hl ha
    have es : sumL (g :: gs) = g.length + sumL gs := by unfold sumL; rw [List.map_cons, List.sum_cons]
    rw [es] at hl ha
    have hg0 := hg g (.head _)
    obtain ⟨nr, v', e, h1, h2, h3⟩ := web1L (c0 := c0) (c1 := c1) (c2 := c2) (c3 := c3) (c4 := c4) (G6 := G6) (v11 := v11) (v12 := v12) (v13 := v13) (v14 := v14) hg0 hd (List.range g.length) rs at_ v10 (fun k hk => List.mem_range.mp hk) (by rw [List.length_range]; omega) (by rw [List.length_range]; omega)
    rw [List.length_range] at h1 e
    obtain ⟨mr, at', w9, w10, e2, k1, k2, k3⟩ := ih (rs ++ nr) (at_ + g.length) (some (gD g)) v' (fun x hx => hg x (.tail _ hx)) (by rw [List.length_append]; omega) (by omega)
    refine ⟨nr ++ mr, at', w9, w10, loop_cons rfl (for_nx (ds := (List.range g.length).map nI) ?_ e) ?_, by rw [List.length_append, h1, k1, es], fun r hr => ?_, fun x hx k h => ?_⟩
    · show dRange1 (.int ((g.map nI).length : Int)) = _
      rw [List.length_map]
      exact range1_ok (by omega)
    · rw [e2, List.append_assoc]
    · rcases List.mem_append.mp hr with h | h
      · exact h2 r h
      · exact k2 r h
    · rcases List.mem_cons.mp hx with rfl | hx
      · obtain ⟨r, hr, q⟩ := h3 k (List.mem_range.mpr h) h
        exact ⟨r, List.mem_append_left _ hr, q⟩
      · obtain ⟨r, hr, q⟩ := k3 x hx k h
        exact ⟨r, List.mem_append_right _ hr, q⟩
theorem int_ok {a : G.Env → R D} {ρ : G.Env} {i : Int} (h : a ρ = .ok (.int i)) : mCall (d1 D.toInt) (mCons a mNil) ρ = .ok (.int i) := by
  show ((mCons a mNil ρ).bind _) = _
  rw [cons_ok h rfl]
  rfl
theorem taker_ne {a x many : Nat} (h1 : a < many) (h2 : x < many - 1) : a ≠ (a + 1 + x) % many := by
  by_cases h : a + 1 + x < many
  · rw [Nat.mod_eq_of_lt h]; omega
  · rw [Nat.mod_eq_sub_mod (by omega), Nat.mod_eq_of_lt (by omega)]; omega
theorem web3L {many : Nat} {dg : List Nat} {c0 c1 c3 c4 G6 : Option D} {v8 v9 v14 : Option D} (hm : 2 ≤ many) (hm2 : many ≤ 100) (hd : dg.length = 40) : ∀ (ks : List Nat) (rs : List Row) (v10 v11 v12 v13 : Option D), (∀ k ∈ ks, k < 4) → rs.length + ks.length ≤ 1000 → (∀ r ∈ rs, RowOk many r) → ∃ (rs' : List Row) (w10 w11 w12 w13 : Option D),
    loopD (stepD (gnName 10) webB3) (ks.map nI) [c0, c1, some (nI many), c3, c4, some (.lst (dg.map nI)), G6, some (.lst (rs.map rowD)), v8, v9, v10, v11, v12, v13, v14] = .nx [c0, c1, some (nI many), c3, c4, some (.lst (dg.map nI)), G6, some (.lst (rs'.map rowD)), v8, v9, w10, w11, w12, w13, v14] ∧
      rs'.length = rs.length + ks.length ∧ (∀ r ∈ rs', RowOk many r) ∧ ∀ r ∈ rs, r ∈ rs' := by
  intro ks
  induction ks with
  | nil => intro rs v10 v11 v12 v13 _ _ ho; exact ⟨rs, v10, v11, v12, v13, rfl, rfl, ho, fun _ h => h⟩
  | cons k ks ih =>
    intro rs v10 v11 v12 v13 hk hl ho
    rw [List.length_cons] at hl
    have hk0 := hk k (.head _)
    have a1 : 11 + 3 * k < dg.length := by omega
    have a2 : 12 + 3 * k < dg.length := by omega
    have a3 : 13 + 3 * k < dg.length := by omega
    have a4 : 24 + k < dg.length := by omega
    let gi := dg[11 + 3 * k] % many
    let ta := (gi + 1 + dg[12 + 3 * k] % (many - 1)) % many
    let pl := dg[13 + 3 * k] % (rs.length + 1)
    let r : Row := (gi, ta, 1 + dg[24 + k] % 3)
    have hgi : gi < many := Nat.mod_lt _ (by omega)
    have hr : RowOk many r := ⟨hgi, Nat.mod_lt _ (by omega), taker_ne hgi (Nat.mod_lt _ (by omega)), by show 1 ≤ 1 + dg[24 + k] % 3; omega, by show 1 + dg[24 + k] % 3 ≤ 9; omega⟩
    have hpl : pl < rs.length + 1 := Nat.mod_lt _ (by omega)
    let rs2 := rs.take pl ++ [r] ++ rs.drop pl
    have hl2 : rs2.length = rs.length + 1 := by
      show (rs.take pl ++ [r] ++ rs.drop pl).length = _
      rw [List.length_append, List.length_append, List.length_take, List.length_drop, List.length_singleton]
      omega
    have hin : ∀ x, x ∈ rs2 ↔ x = r ∨ x ∈ rs := fun x => by
      have : x ∈ rs ↔ x ∈ rs.take pl ∨ x ∈ rs.drop pl := by rw [← List.mem_append, List.take_append_drop]
      show x ∈ rs.take pl ++ [r] ++ rs.drop pl ↔ _
      rw [List.mem_append, List.mem_append, List.mem_singleton, this]
      constructor
      · rintro ((h | h) | h)
        · exact .inr (.inl h)
        · exact .inl h
        · exact .inr (.inr h)
      · rintro (h | h | h)
        · exact .inl (.inr h)
        · exact .inl (.inl h)
        · exact .inr h
    obtain ⟨rs', w10, w11, w12, w13, e, h1, h2, h3⟩ := ih rs2 (some (nI k)) (some (nI gi)) (some (nI ta)) (some (nI pl)) (fun j hj => hk j (.tail _ hj)) (by omega) fun x hx => by
      rcases (hin x).mp hx with rfl | h
      · exact hr
      · exact ho x h
    refine ⟨rs', w10, w11, w12, w13, loop_cons (ρ1 := [c0, c1, some (nI many), c3, c4, some (.lst (dg.map nI)), G6, some (.lst (rs.map rowD)), v8, v9, some (nI k), v11, v12, v13, v14])
      (ρ2 := [c0, c1, some (nI many), c3, c4, some (.lst (dg.map nI)), G6, some (.lst (rs2.map rowD)), v8, v9, some (nI k), some (nI gi), some (nI ta), some (nI pl), v14]) rfl ?_ e, by rw [h1, hl2, List.length_cons]; omega, h2, fun x hx => h3 x ((hin x).mpr (.inr hx))⟩
    refine seq_nx (set_nx (d := nI gi) (m2_ok (m2_ok rfl (m2_ok rfl (m2_ok rfl rfl (mulN (a := 3) (by omega))) rfl) (ixL (k := 11 + 3 * k) a1)) rfl (modN (by omega)))) ?_
    refine seq_nx (set_nx (d := nI ta) (m2_ok (int_ok (i := ((gi + 1 + dg[12 + 3 * k] % (many - 1) : Nat) : Int)) (m2_ok (m2_ok rfl rfl rfl) (m2_ok (m2_ok rfl (m2_ok rfl (m2_ok rfl rfl (mulN (a := 3) (by omega))) rfl) (ixL (k := 12 + 3 * k) a2)) (m2_ok rfl rfl (subN (by omega))) (modN (by omega))) rfl)) rfl (modN (by omega)))) ?_
    have hln : mScal (mCall (d1 D.len) (mCons (mVar 7) mNil)) [c0, c1, some (nI many), c3, c4, some (.lst (dg.map nI)), G6, some (.lst (rs.map rowD)), v8, v9, some (nI k), some (nI gi), some (nI ta), v13, v14] = .ok (nI rs.length) := by
      show R.ok (D.int ((rs.map rowD).length : Int)) = _
      rw [List.length_map]
    refine seq_nx (set_nx (d := nI pl) (m2_ok (m2_ok rfl (m2_ok rfl (m2_ok rfl rfl (mulN (a := 3) (by omega))) rfl) (ixL (k := 13 + 3 * k) a3)) (m2_ok hln rfl rfl) (modN (b := rs.length + 1) (by omega)))) ?_
    refine (mut_insert (xs := rs.map rowD) (y := rowD r) (n := pl) rfl (cons_ok rfl (cons_ok (mTup_ok (cons_ok rfl (cons_ok rfl (cons_ok (m2_ok rfl (m2_ok (m2_ok rfl (m2_ok rfl rfl rfl) (ixL (k := 24 + k) a4)) rfl (modN (b := 3) (by omega))) rfl) rfl))) (by show 3 ≤ 16777216; omega)) rfl)) (by rw [List.length_map]; omega) (by omega)).trans ?_
    rw [show rs2.map rowD = (rs.map rowD).take pl ++ [rowD r] ++ (rs.map rowD).drop pl by
      show (rs.take pl ++ [r] ++ rs.drop pl).map rowD = _
      rw [List.map_append, List.map_append, List.map_take, List.map_drop]; rfl]
    rfl
structure Valid (many : Nat) (rows : List Row) : Prop where
  m2 : 2 ≤ many
  m5 : many ≤ 5
  r1 : 1 ≤ rows.length
  r10 : rows.length ≤ 10
  ok : ∀ r ∈ rows, RowOk many r
  gv : ∀ p, p < many → ∃ r ∈ rows, r.1 = p
  tk : ∀ p, p < many → ∃ r ∈ rows, r.2.1 = p
theorem prev_succ {g : List Nat} {j : Nat} (hj : j < g.length) : ∃ k, ∃ h : k < g.length, prev g k = g[j] := by
  by_cases e : j + 1 < g.length
  · refine ⟨j + 1, e, ?_⟩
    unfold prev
    rw [if_neg (by omega), List.getD_eq_getElem?_getD, Nat.add_sub_cancel, List.getElem?_eq_getElem hj]
    rfl
  · refine ⟨0, by omega, ?_⟩
    unfold prev
    rw [if_pos rfl, List.getD_eq_getElem?_getD, show g.length - 1 = j by omega, List.getElem?_eq_getElem hj]
    rfl
theorem cut_to (ds : List D) (k : Nat) : D.cut (.lst ds) none (some (k : Int)) = .ok (.lst (ds.take k)) := by
  show R.ok (D.lst ((ds.drop (HT.sIx ds.length 0 none)).take (HT.sIx ds.length ds.length (some (k : Int)) - HT.sIx ds.length 0 none))) = _
  rw [HT.sIx_none, HT.sIx_nat, List.drop_zero, Nat.sub_zero]
  rcases Nat.le_total k ds.length with h | h
  · rw [Nat.min_eq_left h]
  · rw [Nat.min_eq_right h, List.take_length, List.take_of_length_le h]
theorem cut_from (ds : List D) (k : Nat) : D.cut (.lst ds) (some (k : Int)) none = .ok (.lst (ds.drop k)) := by
  show R.ok (D.lst ((ds.drop (HT.sIx ds.length 0 (some (k : Int)))).take (HT.sIx ds.length ds.length none - HT.sIx ds.length 0 (some (k : Int))))) = _
  rw [HT.sIx_none, HT.sIx_nat]
  rcases Nat.le_total k ds.length with h | h
  · rw [Nat.min_eq_left h, List.take_of_length_le (by rw [List.length_drop]; omega)]
  · rw [Nat.min_eq_right h, List.drop_length, List.drop_of_length_le h, List.take_nil]
theorem callN_ok {n : Nat} {fn : List D → R D} {ms : G.Env → R (List D)} {ρ : G.Env} {ds : List D} {r : R D} (h : ms ρ = .ok ds) (hl : ds.length = n) (hf : fn ds = r) : mCallN n fn ms ρ = r := by
  unfold mCallN
  rw [h, R.bind_ok, if_pos hl]
  exact hf
theorem call0_ok {n : Nat} {fn : List D → R D} {ms : G.Env → R (List D)} {ρ : G.Env} {ds : List D} {d : D} (h : ms ρ = .ok ds) (hl : ds.length = n) (hf : fn ds = .ok d) : mCall0 n fn ms ρ = .ok d := by
  unfold mCall0
  rw [h, R.bind_ok, if_pos hl, hf]
  rfl
theorem call1_ok {f : D → R D} {a : G.Env → R D} {ρ : G.Env} {x : D} {r : R D} (h : a ρ = .ok x) (hf : f x = r) : mCall (d1 f) (mCons a mNil) ρ = r := by
  show ((mCons a mNil ρ).bind _) = _
  rw [cons_ok h rfl]
  exact hf
theorem sq_ok {f : D → R (List D)} {m : G.Env → R D} {ρ : G.Env} {x : D} {r : R (List D)} (h : m ρ = .ok x) (hf : f x = r) : mSq f m ρ = r := by
  unfold mSq
  rw [h]
  exact hf
theorem and_tf {a b : G.Env → R Bool} {ρ : G.Env} {x y : Bool} (h1 : a ρ = .ok x) (h2 : b ρ = .ok y) : mAnd a b ρ = .ok (x && y) := by
  unfold mAnd
  rw [h1]
  show (bif x then b ρ else .ok false) = _
  cases x
  · rfl
  · rw [h2]; rfl
theorem b_ok {a : G.Env → R D} {ρ : G.Env} {x : Bool} (h : a ρ = .ok (.bl x)) : mB a ρ = .ok x := by
  unfold mB
  rw [h]
  rfl
theorem f_web (cell more : Int) : ∃ (many : Nat) (rows : List Row), m__law_web.fn [.int cell, .int more] = .ok (webD many rows) ∧ Valid many rows := by
  obtain ⟨l1, e1, hl1, hb1⟩ := f_rowN cell 1 4 (by omega) (by omega) (by omega)
  have hx0 := hb1 (l1[0]'(by omega)) (List.getElem_mem _)
  let many := 2 + l1[0]'(by omega)
  have hm2 : 2 ≤ many := by show 2 ≤ 2 + l1[0]'(by omega); omega
  have hm5 : many ≤ 5 := by show 2 + l1[0]'(by omega) ≤ 5; omega
  obtain ⟨M, e2, hM, _⟩ := f_rowN (cell.fdiv 5 + 3) many 1000 (by omega) (by omega) (by omega)
  obtain ⟨dg, e3, hd, _⟩ := f_rowN more 40 30 (by omega) (by omega) (by omega)
  let pairD : Nat → D := fun k => .tup [nI (M.getD k 0), nI k]
  obtain ⟨ks, hks, es⟩ := perm_map (List.mergeSort_perm ((List.range many).map pairD) leD) (List.range many) rfl
  have hsP : D.sortP (.lst ((List.range many).map pairD)) = .ok (.lst (ks.map pairD)) := by
    unfold D.sortP
    dsimp only
    rw [if_pos (by rw [List.all_map, List.all_eq_true]; exact fun _ _ => rfl)]
    exact congrArg (fun z => R.ok (D.lst z)) es
  have hkl : ks.length = many := by rw [hks.length_eq, List.length_range]
  have hkm : ∀ x, x ∈ ks ↔ x < many := fun x => by rw [hks.mem_iff, List.mem_range]
  have hkn : ks.Nodup := hks.nodup_iff.mpr List.nodup_range
  -- the groups
  obtain ⟨gs, hIf, hgG, hgs, hgc⟩ : ∃ gs : List (List Nat), (mIf (mAnd (mB (m2 D.gt (mVar 2) (mC (.int 3)))) (mB (m2 D.lt (m2 D.ix (mVar 5) (mC (.int 0))) (mC (.int 12))))) (mSet 6 (mLst (mCons (mSl (mVar 4) mNoP (mPart (mC (.int 2)))) (mCons (mSl (mVar 4) (mPart (mC (.int 2))) mNoP) mNil)))) mNext [some (.int cell), some (.int more), some (nI many), some (.lst (M.map nI)), some (gD ks), some (.lst (dg.map nI)), some (.lst [gD ks]), none, none, none, none, none, none, none, none] = .nx [some (.int cell), some (.int more), some (nI many), some (.lst (M.map nI)), some (gD ks), some (.lst (dg.map nI)), some (.lst (gs.map gD)), none, none, none, none, none, none, none, none]) ∧ (∀ g ∈ gs, Grp many g) ∧ sumL gs = many ∧ ∀ p, p < many → ∃ g ∈ gs, p ∈ g := by
    have hc : mAnd (mB (m2 D.gt (mVar 2) (mC (.int 3)))) (mB (m2 D.lt (m2 D.ix (mVar 5) (mC (.int 0))) (mC (.int 12)))) [some (.int cell), some (.int more), some (nI many), some (.lst (M.map nI)), some (gD ks), some (.lst (dg.map nI)), some (.lst [gD ks]), none, none, none, none, none, none, none, none] = .ok (decide ((3 : Int) < (many : Int)) && decide (((dg[0]'(by omega) : Nat) : Int) < 12)) :=
      and_tf (b_ok (m2_ok rfl rfl (dgt _ _))) (b_ok (m2_ok (m2_ok rfl rfl (ixL (k := 0) (by omega))) rfl (dlt _ _)))
    cases hb : (decide ((3 : Int) < (many : Int)) && decide (((dg[0]'(by omega) : Nat) : Int) < 12)) with
    | true =>
      rw [hb] at hc
      have h3 : 3 < many := by
        have := (Bool.and_eq_true _ _).mp hb
        have := of_decide_eq_true this.1
        omega
      refine ⟨[ks.take 2, ks.drop 2], if_t hc (set_nx (mLst_ok (cons_ok ?_ (cons_ok ?_ rfl)) (by show 2 ≤ 16777216; omega))), fun g hg => ?_, ?_, fun p hp => ?_⟩
      · show D.cut (gD ks) none (some 2) = _
        rw [show gD (ks.take 2) = D.lst ((ks.map nI).take 2) by rw [← List.map_take]]
        exact cut_to (ks.map nI) 2
      · show D.cut (gD ks) (some 2) none = _
        rw [show gD (ks.drop 2) = D.lst ((ks.map nI).drop 2) by rw [← List.map_drop]]
        exact cut_from (ks.map nI) 2
      · rcases List.mem_cons.mp hg with rfl | hg
        · exact ⟨by rw [List.length_take]; omega, hkn.sublist (List.take_sublist _ _), fun x hx => (hkm x).mp (List.mem_of_mem_take hx)⟩
        · rcases List.mem_cons.mp hg with rfl | hg
          · exact ⟨by rw [List.length_drop]; omega, hkn.sublist (List.drop_sublist _ _), fun x hx => (hkm x).mp (List.mem_of_mem_drop hx)⟩
          · cases hg
      · show (ks.take 2).length + ((ks.drop 2).length + 0) = many
        rw [List.length_take, List.length_drop]; omega
      · have := (hkm p).mpr hp
        rw [← List.take_append_drop 2 ks, List.mem_append] at this
        rcases this with h | h
        · exact ⟨_, .head _, h⟩
        · exact ⟨_, .tail _ (.head _), h⟩
    | false =>
      rw [hb] at hc
      refine ⟨[ks], if_f hc rfl, fun g hg => ?_, ?_, fun p hp => ⟨ks, .head _, (hkm p).mpr hp⟩⟩
      · rcases List.mem_cons.mp hg with rfl | hg
        · exact ⟨by omega, hkn, fun x hx => (hkm x).mp hx⟩
        · cases hg
      · show ks.length + 0 = many
        omega
  obtain ⟨nr, at', w9, w10, e4, h4, h5, h6⟩ := web2L (c0 := some (.int cell)) (c1 := some (.int more)) (c2 := some (nI many)) (c3 := some (.lst (M.map nI))) (c4 := some (gD ks)) (G6 := some (.lst (gs.map gD))) (v11 := none) (v12 := none) (v13 := none) (v14 := none) hd gs [] 1 none none hgG (by rw [List.length_nil]; omega) (by omega)
  rw [List.nil_append] at e4
  have hq : dg[10]'(by omega) % 4 < 4 := Nat.mod_lt _ (by omega)
  obtain ⟨rows, y10, y11, y12, y13, e5, h7, h8, h9⟩ := web3L (c0 := some (.int cell)) (c1 := some (.int more)) (c3 := some (.lst (M.map nI))) (c4 := some (gD ks)) (G6 := some (.lst (gs.map gD))) (v8 := some (nI at')) (v9 := w9) (v14 := none) hm2 (by omega) hd (List.range (dg[10]'(by omega) % 4)) nr w10 none none none (fun k hk => by have := List.mem_range.mp hk; omega) (by rw [List.length_range]; omega) h5
  rw [List.length_range] at h7
  refine ⟨many, rows, ?_, ⟨hm2, hm5, by omega, by omega, h8, fun p hp => ?_, fun p hp => ?_⟩⟩
  · rw [fn_run rfl]
    show (b__law_web [some (.int cell), some (.int more), none, none, none, none, none, none, none, none, none, none, none, none, none]).res = _
    unfold b__law_web
    refine seq_res (set_nx (d := nI many) (m2_ok rfl (m2_ok (callN_ok (cons_ok rfl (cons_ok rfl (cons_ok rfl rfl))) rfl e1) rfl (ixL (k := 0) (by omega))) rfl)) ?_
    refine seq_res (set_nx (callN_ok (cons_ok (m2_ok (m2_ok (int_ok rfl) rfl (fdiv_ok (by omega) (by omega))) rfl rfl) (cons_ok rfl (cons_ok rfl rfl))) rfl e2)) ?_
    refine seq_res (set_nx (d := gD ks) (mLc_map (emb := pairD) (l := ks) (r := fun k => [some (.int cell), some (.int more), some (nI many), some (.lst (M.map nI)), none, none, none, none, none, none, none, none, none, none, some (pairD k)]) (f := nI) (sq_ok (call1_ok (mLc_map (emb := nI) (l := List.range many) (r := fun k => [some (.int cell), some (.int more), some (nI many), some (.lst (M.map nI)), none, none, none, none, none, none, some (nI k), none, none, none, none]) (f := pairD) (sq_ok rfl (range1_ok (by omega))) (by rw [List.length_range]; omega) fun k hk => ⟨rfl, mTup_ok (ds := [nI (M.getD k 0), nI k]) (cons_ok (m2_ok rfl rfl ?_) (cons_ok rfl rfl)) (by show 2 ≤ 16777216; omega)⟩) hsP) rfl) (by omega) fun k _ => ⟨rfl, m2_ok rfl rfl rfl⟩)) ?_
    · have hk := List.mem_range.mp hk
      rw [show M.getD k 0 = M[k]'(by omega) by rw [List.getD_eq_getElem?_getD, List.getElem?_eq_getElem (by omega)]; rfl]
      exact ixL (by omega)
    refine seq_res (set_nx (callN_ok (cons_ok rfl (cons_ok rfl (cons_ok rfl rfl))) rfl e3)) ?_
    refine seq_res (set_nx (mLst_ok (cons_ok rfl rfl) (by show 1 ≤ 16777216; omega))) ?_
    refine seq_res hIf ?_
    refine seq_res (set_nx (mLst_ok rfl (by decide))) ?_
    refine seq_res (set_nx rfl) ?_
    refine seq_res (for_nx rfl e4) ?_
    refine seq_res (for_nx (sq_ok (m2_ok (m2_ok rfl rfl (ixL (k := 10) (by omega))) rfl (modN (b := 4) (by omega))) (range1_ok (by omega))) e5) ?_
    exact ret_res (mTup_ok (cons_ok rfl (cons_ok (call1_ok rfl rfl) rfl)) (by show 2 ≤ 16777216; omega))
  · obtain ⟨g, hg, hp⟩ := hgc p hp
    obtain ⟨j, hj, rfl⟩ := List.getElem_of_mem hp
    obtain ⟨k, hk, e⟩ := prev_succ hj
    obtain ⟨r, hr, q1, q2⟩ := h6 g hg k hk
    exact ⟨r, h9 r hr, q1.trans e⟩
  · obtain ⟨g, hg, hp⟩ := hgc p hp
    obtain ⟨j, hj, rfl⟩ := List.getElem_of_mem hp
    obtain ⟨r, hr, q1, q2⟩ := h6 g hg j hj
    exact ⟨r, h9 r hr, q2⟩
/-! ### what the program asks of webs and needs -/
theorem not_ok {a : G.Env → R Bool} {ρ : G.Env} {x : Bool} (h : a ρ = .ok x) : mNot a ρ = .ok (!x) := by
  unfold mNot
  rw [h]
  rfl
theorem or_tf {a b : G.Env → R Bool} {ρ : G.Env} {x y : Bool} (h1 : a ρ = .ok x) (h2 : b ρ = .ok y) : mOr a b ρ = .ok (x || y) := by
  unfold mOr
  rw [h1]
  show (bif x then .ok true else b ρ) = _
  cases x
  · rw [h2]; rfl
  · rfl
theorem andV_t {a b : G.Env → R D} {ρ : G.Env} {r : R D} (h1 : a ρ = .ok (.bl true)) (h2 : b ρ = r) : mAndV a b ρ = r := by
  unfold mAndV
  rw [h1]
  exact h2
theorem andV_f {a b : G.Env → R D} {ρ : G.Env} (h1 : a ρ = .ok (.bl false)) : mAndV a b ρ = .ok (.bl false) := by
  unfold mAndV
  rw [h1]
  rfl
theorem chain_t {f g : D → D → R D} {a b c : G.Env → R D} {ρ : G.Env} {x y z : D} {r : R D} (ha : a ρ = .ok x) (hb : b ρ = .ok y) (hf : f x y = .ok (.bl true)) (hc : c ρ = .ok z) (hg : g y z = r) : mChain f g a b c ρ = r := by
  unfold mChain
  rw [ha, hb]
  show ((f x y).bind _) = _
  rw [hf]
  show ((c ρ).bind _) = _
  rw [hc]
  exact hg
theorem drop_nx {a : G.Env → R D} {ρ : G.Env} {d : D} (h : a ρ = .ok d) : mDrop a ρ = .nx ρ := by
  unfold mDrop
  rw [h]
  rfl
theorem f_isRow {many : Nat} {r : Row} (h : RowOk many r) : m_is_row.fn [nI many, rowD r] = .ok (.bl true) := by
  obtain ⟨h1, h2, h3, h4, h5⟩ := h
  have u1 : m_is_under.fn [nI r.1, nI many] = .ok (.bl true) := by rw [f_under, decide_eq_true (by omega), decide_eq_true (by omega)]; rfl
  have u2 : m_is_under.fn [nI r.2.1, nI many] = .ok (.bl true) := by rw [f_under, decide_eq_true (by omega), decide_eq_true (by omega)]; rfl
  have u3 : m_is_between.fn [nI r.2.2, .int 1, .int 9] = .ok (.bl true) := by rw [f_between, decide_eq_true (by omega), decide_eq_true (by omega)]; rfl
  have u4 : m_is_tuple_of.fn [rowD r, .int 3] = .ok (.bl true) := by rw [f_tupleOf]; rfl
  rw [fn_run rfl]
  show (b_is_row [some (nI many), some (rowD r)]).res = _
  unfold b_is_row
  refine seq_res (ρ' := [some (nI many), some (rowD r)]) (if_f (or_tf (not_ok (b_ok (callN_ok (cons_ok rfl (cons_ok rfl rfl)) rfl u4))) (or_tf (not_ok (b_ok (callN_ok (cons_ok rfl (cons_ok rfl rfl)) rfl u1))) (not_ok (b_ok (callN_ok (cons_ok rfl (cons_ok rfl rfl)) rfl u2))))) rfl) ?_
  refine ret_res (andV_t (m2_ok rfl rfl ?_) (callN_ok (cons_ok rfl (cons_ok rfl (cons_ok rfl rfl))) rfl u3))
  rw [dne, decide_eq_false (by omega)]
  rfl
theorem f_isWeb {many : Nat} {rows : List Row} (h : Valid many rows) : m_is_web.fn [webD many rows] = .ok (.bl true) := by
  obtain ⟨a1, a2, a3, a4, a5, a6, a7⟩ := h
  have u1 : m_is_tuple_of.fn [webD many rows, .int 2] = .ok (.bl true) := by rw [f_tupleOf]; rfl
  have u2 : m_is_between.fn [nI many, .int 2, .int 6] = .ok (.bl true) := by rw [f_between, decide_eq_true (by omega), decide_eq_true (by omega)]; rfl
  rw [fn_run rfl]
  show (b_is_web [some (webD many rows), none, none, none, none, none, none]).res = _
  unfold b_is_web
  refine seq_res (if_f (or_tf (not_ok (b_ok (callN_ok (cons_ok rfl (cons_ok rfl rfl)) rfl u1))) (not_ok (b_ok (callN_ok (cons_ok rfl (cons_ok rfl (cons_ok rfl rfl))) rfl u2)))) rfl) ?_
  refine seq_res (ρ' := [some (webD many rows), some (nI many), some (.tup (rows.map rowD)), none, none, none, none]) rfl ?_
  refine seq_res (ρ' := [some (webD many rows), some (nI many), some (.tup (rows.map rowD)), none, none, none, none]) (if_f (or_tf (x := false) (y := false) (not_ok (x := true) rfl) (not_ok (x := true) (b_ok (chain_t rfl rfl ?_ rfl ?_)))) rfl) ?_
  · rw [dle, List.length_map, decide_eq_true (by omega)]
  · rw [dle, List.length_map, decide_eq_true (by omega)]
  refine seq_res (ρ' := [some (webD many rows), some (nI many), some (.tup (rows.map rowD)), none, none, none, none]) (if_f (not_ok (x := true) (b_ok (call1_ok (mLc_map (emb := rowD) (l := rows) (r := fun r => [some (webD many rows), some (nI many), some (.tup (rows.map rowD)), none, none, some (rowD r), none]) (f := fun _ => .bl true) (sq_ok rfl rfl) (by omega) fun r hr => ⟨rfl, call0_ok (cons_ok rfl (cons_ok rfl rfl)) rfl (f_isRow (a5 r hr))⟩) ?_))) rfl) ?_
  · rw [all_ok, List.all_eq_true.mpr fun _ _ => rfl]
  refine seq_res (ρ' := [some (webD many rows), some (nI many), some (.tup (rows.map rowD)), some (.lst (rows.map fun r => nI r.1)), some (.lst (rows.map fun r => nI r.2.1)), none, none]) ?_ ?_
  · have e : mTup (mCons (mLc [5] (mSq D.seq (mVar 2)) (gnName 5) mYes (m2 D.ix (mVar 5) (mC (.int 0)))) (mCons (mLc [5] (mSq D.seq (mVar 2)) (gnName 5) mYes (m2 D.ix (mVar 5) (mC (.int 1)))) mNil)) [some (webD many rows), some (nI many), some (.tup (rows.map rowD)), none, none, none, none] = .ok (.tup [.lst (rows.map fun r => nI r.1), .lst (rows.map fun r => nI r.2.1)]) :=
      mTup_ok (cons_ok (mLc_map (emb := rowD) (l := rows) (r := fun r => [some (webD many rows), some (nI many), some (.tup (rows.map rowD)), none, none, some (rowD r), none]) (f := fun r => nI r.1) (sq_ok rfl rfl) (by omega) fun r _ => ⟨rfl, rfl⟩) (cons_ok (mLc_map (emb := rowD) (l := rows) (r := fun r => [some (webD many rows), some (nI many), some (.tup (rows.map rowD)), none, none, some (rowD r), none]) (f := fun r => nI r.2.1) (sq_ok rfl rfl) (by omega) fun r _ => ⟨rfl, rfl⟩) rfl)) (by show 2 ≤ 16777216; omega)
    unfold mTg
    rw [e]
    rfl
  refine ret_res (call1_ok (mLc_map (emb := nI) (l := List.range many) (r := fun p => [some (webD many rows), some (nI many), some (.tup (rows.map rowD)), some (.lst (rows.map fun r => nI r.1)), some (.lst (rows.map fun r => nI r.2.1)), none, some (nI p)]) (f := fun _ => .bl true) (sq_ok rfl (range1_ok (by omega))) (by rw [List.length_range]; omega) fun p hp => ⟨rfl, ?_⟩) ?_)
  · have hp := List.mem_range.mp hp
    have i1 : D.isIn (nI p) (.lst (rows.map fun r => nI r.1)) = .ok (.bl true) := by
      rw [in_lst (n := 0) (by omega) okD_int (by rw [List.all_map, List.all_eq_true]; exact fun _ _ => okD_int)]
      obtain ⟨r, hr, e⟩ := a6 p hp
      rw [dIn_iff.mpr (List.mem_map.mpr ⟨r, hr, by rw [e]⟩)]
    have i2 : D.isIn (nI p) (.lst (rows.map fun r => nI r.2.1)) = .ok (.bl true) := by
      rw [in_lst (n := 0) (by omega) okD_int (by rw [List.all_map, List.all_eq_true]; exact fun _ _ => okD_int)]
      obtain ⟨r, hr, e⟩ := a7 p hp
      rw [dIn_iff.mpr (List.mem_map.mpr ⟨r, hr, by rw [e]⟩)]
    exact andV_t (m2_ok rfl rfl i1) (m2_ok rfl rfl i2)
  · rw [all_ok, List.all_eq_true.mpr fun _ _ => rfl]
theorem f_needWeb {many : Nat} {rows : List Row} (h : Valid many rows) : m_need_web.fn [webD many rows] = .ok .non := by
  rw [fn_run rfl]
  show (b_need_web [some (webD many rows)]).res = _
  unfold b_need_web
  exact (congrArg Out.res (if_f (not_ok (x := true) (b_ok (callN_ok (cons_ok rfl rfl) rfl (f_isWeb h)))) rfl)).trans rfl
/-! needs -/
abbrev needsD (needs : List (List Nat)) : D := .tup (needs.map lotD)
structure NOk (rows : List Row) (needs : List (List Nat)) : Prop where
  len : needs.length = rows.length
  sub : ∀ k, (needs.getD k []).Sublist (getsL rows (rows.getD k (0, 0, 0)).1)
theorem getsL_lot (rows : List Row) (p : Nat) : Lot rows.length (getsL rows p) := fil_lot _ _
theorem Lot.sub {n : Nat} {l m : List Nat} (h : Lot n m) (s : l.Sublist m) : Lot n l := ⟨fun x hx => h.1 x (s.subset hx), h.2.sublist s⟩
theorem NOk.lot {rows : List Row} {needs : List (List Nat)} (h : NOk rows needs) (k : Nat) : Lot rows.length (needs.getD k []) := (getsL_lot rows _).sub (h.sub k)
theorem Lot.nodup {n : Nat} {l : List Nat} (h : Lot n l) : l.Nodup := h.2.imp fun hlt => Nat.ne_of_lt hlt
theorem lot_len : ∀ (l : List Nat) (lo n : Nat), (∀ x ∈ l, lo ≤ x ∧ x < n) → l.Pairwise (· < ·) → l.length ≤ n - lo
  | [], _, _, _, _ => Nat.zero_le _
  | x :: xs, lo, n, h, hp => by
    obtain ⟨h1, h2⟩ := List.pairwise_cons.mp hp
    have ih := lot_len xs (x + 1) n (fun y hy => ⟨h1 y hy, (h y (.tail _ hy)).2⟩) h2
    have := h x (.head _)
    rw [List.length_cons]
    omega
theorem Lot.length {n : Nat} {l : List Nat} (h : Lot n l) : l.length ≤ n := lot_len l 0 n (fun x hx => ⟨Nat.zero_le _, h.1 x hx⟩) h.2
theorem need_ix {needs : List (List Nat)} {k : Nat} (h : k < needs.length) : D.ix (needsD needs) (nI k) = .ok (lotD (needs.getD k [])) := ix_tup (by
  rw [atI_nat (n := k) rfl (by rw [List.length_map]; exact h), List.getElem_map, List.getD_eq_getElem?_getD, List.getElem?_eq_getElem h]
  rfl)
theorem row_getD {rows : List Row} {k : Nat} (h : k < rows.length) : rows.getD k (0, 0, 0) = rows[k] := by
  rw [List.getD_eq_getElem?_getD, List.getElem?_eq_getElem h]
  rfl
theorem f_isNeed {many : Nat} {rows : List Row} {needs : List (List Nat)} (hr : rows.length ≤ 10) (h : NOk rows needs) {k : Nat} (hk : k < rows.length) : m_is_need.fn [webD many rows, nI k, lotD (needs.getD k [])] = .ok (.bl true) := by
  have hl := h.lot k
  have hll := hl.length
  have u1 : m_is_lot.fn [lotD (needs.getD k []), .int (rows.map rowD).length] = .ok (.bl true) := by
    rw [List.length_map]
    exact f_isLot hl (by omega)
  rw [fn_run rfl]
  show (b_is_need [some (webD many rows), some (nI k), some (lotD (needs.getD k [])), none]).res = _
  unfold b_is_need
  refine seq_res (ρ' := [some (webD many rows), some (nI k), some (lotD (needs.getD k [])), none]) (if_f (not_ok (x := true) (b_ok (callN_ok (cons_ok rfl (cons_ok (call1_ok (m2_ok rfl rfl (web1 _ _)) (len_tup _)) rfl)) rfl u1))) rfl) ?_
  refine ret_res (call1_ok (mLc_map (emb := nI) (l := needs.getD k []) (r := fun o => [some (webD many rows), some (nI k), some (lotD (needs.getD k [])), some (nI o)]) (f := fun _ => .bl true) (sq_ok rfl rfl) (by omega) fun o ho => ⟨rfl, ?_⟩) ?_)
  · have ho2 := hl.1 o ho
    have hm := (h.sub k).subset ho
    have hq := of_decide_eq_true (List.mem_filter.mp hm).2
    rw [row_getD ho2, row_getD hk] at hq
    refine m2_ok (m2_ok (m2_ok (m2_ok rfl rfl (web1 _ _)) rfl (rows_ix ho2)) rfl (row1 _)) (m2_ok (m2_ok (m2_ok rfl rfl (web1 _ _)) rfl (rows_ix hk)) rfl (row0 _)) ?_
    rw [deqN, decide_eq_true hq]
  · rw [all_ok, List.all_eq_true.mpr fun _ _ => rfl]
theorem enum_needs (needs : List (List Nat)) : dEnum D.seq (needsD needs) = .ok ((List.range needs.length).map fun i => .tup [nI i, lotD (needs.getD i [])]) := by
  show R.ok (enumD (needs.map lotD)) = _
  unfold enumD
  refine congrArg R.ok (List.ext_getElem ?_ fun i h1 h2 => ?_)
  · simp
  · have hi : i < needs.length := by simpa using h1
    simp [List.getD_eq_getElem?_getD, List.getElem?_eq_getElem hi]
theorem f_areNeeds {many : Nat} {rows : List Row} {needs : List (List Nat)} (hr : rows.length ≤ 10) (h : NOk rows needs) : m_are_needs.fn [webD many rows, needsD needs] = .ok (.bl true) := by
  have u1 : m_is_tuple_of.fn [needsD needs, .int (rows.map rowD).length] = .ok (.bl true) := by
    rw [f_tupleOf, List.length_map, List.length_map, h.len, decide_eq_true rfl]
  have hln := h.len
  rw [fn_run rfl]
  show (b_are_needs [some (webD many rows), some (needsD needs), none, none]).res = _
  unfold b_are_needs
  refine seq_res (ρ' := [some (webD many rows), some (needsD needs), none, none]) (if_f (not_ok (x := true) (b_ok (callN_ok (cons_ok rfl (cons_ok (call1_ok (m2_ok rfl rfl (web1 _ _)) (len_tup _)) rfl)) rfl u1))) rfl) ?_
  refine ret_res (call1_ok (mLc_map (emb := fun i => .tup [nI i, lotD (needs.getD i [])]) (l := List.range needs.length) (r := fun i => [some (webD many rows), some (needsD needs), some (nI i), some (lotD (needs.getD i []))]) (f := fun _ => .bl true) (sq_ok rfl (enum_needs needs)) (by rw [List.length_range]; omega) fun i hi => ⟨rfl, ?_⟩) ?_)
  · have hi := List.mem_range.mp hi
    exact call0_ok (cons_ok rfl (cons_ok rfl (cons_ok rfl rfl))) rfl (f_isNeed hr h (by omega))
  · rw [all_ok, List.all_eq_true.mpr fun _ _ => rfl]
theorem f_needNeeds {many : Nat} {rows : List Row} {needs : List (List Nat)} (hv : Valid many rows) (h : NOk rows needs) : m_need_needs.fn [webD many rows, needsD needs] = .ok .non := by
  rw [fn_run rfl]
  show (b_need_needs [some (webD many rows), some (needsD needs)]).res = _
  unfold b_need_needs
  refine seq_res (drop_nx (callN_ok (cons_ok rfl rfl) rfl (f_needWeb hv))) ?_
  exact (congrArg Out.res (if_f (not_ok (x := true) (b_ok (callN_ok (cons_ok rfl (cons_ok rfl rfl)) rfl (f_areNeeds hv.r10 h)))) rfl)).trans rfl
/-! ### lots that keep the needs -/
def keepsB (needs : List (List Nat)) (l : List Nat) : Bool := l.all fun k => (needs.getD k []).all fun o => decide (o ∈ l)
theorem f_keeps {n : Nat} {needs : List (List Nat)} {l : List Nat} (hn : needs.length = n) (h10 : n ≤ 10) (hk : ∀ k, (needs.getD k []).length ≤ 10) (hl : ∀ x ∈ l, x < n) (hll : l.length ≤ 1000) : m__law_keeps.fn [needsD needs, lotD l] = .ok (.bl (keepsB needs l)) := by
  rw [fn_run rfl]
  show (b__law_keeps [some (needsD needs), some (lotD l), none, none]).res = _
  unfold b__law_keeps
  refine ret_res (call1_ok (mLc_map (emb := nI) (l := l) (r := fun k => [some (needsD needs), some (lotD l), some (nI k), none]) (f := fun k => .bl ((needs.getD k []).all fun o => decide (o ∈ l))) (sq_ok rfl rfl) (by omega) fun k hkl => ⟨rfl, ?_⟩) (all_ok _ _))
  refine call1_ok (mLc_map (emb := nI) (l := needs.getD k []) (r := fun o => [some (needsD needs), some (lotD l), some (nI k), some (nI o)]) (f := fun o => .bl (decide (o ∈ l))) (sq_ok (m2_ok rfl rfl (need_ix (by rw [hn]; exact hl k hkl))) rfl) (by have := hk k; omega) fun o _ => ⟨rfl, m2_ok rfl rfl ?_⟩) (all_ok _ _)
  rw [in_tup (n := 0) (by omega) okD_int (nI_ok l), dIn_nI]
theorem f_kept {n : Nat} {needs : List (List Nat)} {l : List Nat} (hn : needs.length = n) (h10 : n ≤ 10) (hk : ∀ k, (needs.getD k []).length ≤ 10) (hl : ∀ x ∈ l, x < n) (hll : l.length ≤ 1000) : m_is_kept_lot.fn [needsD needs, lotD l] = .ok (.bl (keepsB needs l)) :=
  (show m_is_kept_lot.fn [needsD needs, lotD l] = m__law_keeps.fn [needsD needs, lotD l] from rfl).trans (f_keeps hn h10 hk hl hll)
/-! ### all lots -/
def lotsL : Nat → List (List Nat)
  | 0 => [[]]
  | n + 1 => lotsL n ++ (lotsL n).map fun l => l ++ [n]
theorem lotsL_len : ∀ n, (lotsL n).length = 2 ^ n
  | 0 => rfl
  | n + 1 => by rw [lotsL, List.length_append, List.length_map, lotsL_len n, Nat.pow_succ]; omega
theorem lotsL_le {n : Nat} (h : n ≤ 10) : (lotsL n).length ≤ 1024 := by
  rw [lotsL_len]
  exact Nat.le_trans (Nat.pow_le_pow_right (by omega) h) (by decide)
theorem lotsL_head : ∀ n, ∃ t, lotsL n = [] :: t
  | 0 => ⟨[], rfl⟩
  | n + 1 => by
    obtain ⟨t, e⟩ := lotsL_head n
    exact ⟨t ++ (lotsL n).map fun l => l ++ [n], by rw [lotsL]; rw [e]; rfl⟩
theorem mem_lots : ∀ (n : Nat) (l : List Nat), l ∈ lotsL n ↔ Lot n l
  | 0, l => by
    rw [lotsL, List.mem_singleton]
    constructor
    · rintro rfl; exact ⟨(fun _ h => by cases h), List.Pairwise.nil⟩
    · rintro ⟨h, _⟩
      cases l with
      | nil => rfl
      | cons a l => exact absurd (h a (.head _)) (by omega)
  | n + 1, l => by
    rw [lotsL, List.mem_append, mem_lots n l, List.mem_map]
    constructor
    · rintro (h | ⟨m, hm, rfl⟩)
      · exact ⟨fun x hx => by have := h.1 x hx; omega, h.2⟩
      · have hm := (mem_lots n m).mp hm
        refine ⟨fun x hx => ?_, ?_⟩
        · rcases List.mem_append.mp hx with h | h
          · have := hm.1 x h; omega
          · have := List.mem_singleton.mp h; omega
        · rw [List.pairwise_append]
          exact ⟨hm.2, List.pairwise_singleton _ _, fun x hx y hy => by have := hm.1 x hx; have := List.mem_singleton.mp hy; omega⟩
    · rintro ⟨h1, h2⟩
      rcases List.eq_nil_or_concat l with rfl | ⟨m, x, rfl⟩
      · exact .inl ⟨(fun _ h => by cases h), List.Pairwise.nil⟩
      · rw [List.concat_eq_append] at h1 h2 ⊢
        rw [List.pairwise_append] at h2
        have hx := h1 x (List.mem_append_right _ (List.mem_singleton.mpr rfl))
        have hlt : ∀ y ∈ m, y < x := fun y hy => h2.2.2 y hy x (List.mem_singleton.mpr rfl)
        by_cases e : x = n
        · subst e
          exact .inr ⟨m, (mem_lots x m).mpr ⟨hlt, h2.1⟩, rfl⟩
        · refine .inl ⟨fun y hy => ?_, List.pairwise_append.mpr h2⟩
          rcases List.mem_append.mp hy with h | h
          · have := hlt y h; omega
          · have := List.mem_singleton.mp h; omega
theorem add_lst {a b : List D} (h : a.length + b.length ≤ 16777216) : D.add (.lst a) (.lst b) = .ok (.lst (a ++ b)) := by
  show (if a.length + b.length ≤ sizeLine then _ else _) = _
  rw [if_pos (by rw [sizeLine_eq]; exact h)]
theorem add_tup {a b : List D} (h : a.length + b.length ≤ 16777216) : D.add (.tup a) (.tup b) = .ok (.tup (a ++ b)) := by
  show (if a.length + b.length ≤ sizeLine then _ else _) = _
  rw [if_pos (by rw [sizeLine_eq]; exact h)]
theorem lot_snoc {l : List Nat} {k : Nat} (h : l.length ≤ 1000) : D.add (lotD l) (.tup [nI k]) = .ok (lotD (l ++ [k])) := by
  rw [add_tup (by rw [List.length_map, List.length_singleton]; omega)]
  rw [show lotD (l ++ [k]) = .tup (l.map nI ++ [nI k]) by rw [← List.map_singleton, ← List.map_append]]
theorem lots_add {n : Nat} (h : n < 10) : D.add (.lst ((lotsL n).map lotD)) (.lst ((lotsL n).map fun l => lotD (l ++ [n]))) = .ok (.lst ((lotsL (n + 1)).map lotD)) := by
  have := lotsL_le (n := n) (by omega)
  rw [add_lst (by rw [List.length_map, List.length_map]; omega), lotsL, List.map_append, List.map_map]
  rfl
theorem lots_lt {n : Nat} {l : List Nat} (h : n ≤ 10) (hl : l ∈ lotsL n) : l.length ≤ 10 := Nat.le_trans ((mem_lots n l).mp hl).length h
theorem all_loop {c : Option D} : ∀ (j m : Nat) (v w : Option D), m + j ≤ 10 → ∃ v' : Option D, loopD (stepD (gnName 2) (mSet 1 (m2 D.add (mVar 1) (mLc [3] (mSq D.seq (mVar 1)) (gnName 3) mYes (m2 D.add (mVar 3) (mTup (mCons (mVar 2) mNil))))))) ((List.range' m j).map nI) [c, some (.lst ((lotsL m).map lotD)), v, w] = .nx [c, some (.lst ((lotsL (m + j)).map lotD)), v', w]
  | 0, m, v, w, _ => ⟨v, rfl⟩
  | j + 1, m, v, w, h => by
    obtain ⟨v', e⟩ := all_loop (c := c) j (m + 1) (some (nI m)) w (by omega)
    refine ⟨v', ?_⟩
    rw [List.range'_succ, List.map_cons]
    refine loop_cons (ρ1 := [c, some (.lst ((lotsL m).map lotD)), some (nI m), w]) (ρ2 := [c, some (.lst ((lotsL (m + 1)).map lotD)), some (nI m), w]) rfl (set_nx (m2_ok rfl (mLc_map (emb := lotD) (l := lotsL m) (r := fun l => [c, some (.lst ((lotsL m).map lotD)), some (nI m), some (lotD l)]) (f := fun l => lotD (l ++ [m])) (sq_ok rfl rfl) (by have := lotsL_le (n := m) (by omega); omega) fun l hl => ⟨rfl, m2_ok rfl (mTup_ok (cons_ok rfl rfl) (by show 1 ≤ 16777216; omega)) (lot_snoc (by have := lots_lt (by omega) hl; omega))⟩) (lots_add (by omega)))) ?_
    rw [e, show m + 1 + j = m + (j + 1) by omega]
theorem f_allLots {n : Nat} (h : n ≤ 10) : m_all_lots.fn [nI n] = .ok (.lst ((lotsL n).map lotD)) := by
  obtain ⟨v', e⟩ := all_loop (c := some (nI n)) n 0 none none (by omega)
  rw [Nat.zero_add] at e
  rw [fn_run rfl]
  show (b_all_lots [some (nI n), none, none, none]).res = _
  unfold b_all_lots
  refine seq_res (set_nx (mLst_ok (cons_ok (mTup_ok rfl (by show 0 ≤ 16777216; omega)) rfl) (by show 1 ≤ 16777216; omega))) ?_
  exact seq_res (for_nx (sq_ok rfl ((range1_ok (by omega)).trans (by rw [List.range_eq_range']))) e) (ret_res rfl)
/-! ### sorted -/
theorem key_lot (l : List Nat) : (lotD l).key' = l.map fun (x : Nat) => (x : Int) := by
  show (D.ints (l.map nI)).getD [] = _
  rw [show l.map nI = (l.map fun (x : Nat) => (x : Int)).map D.int by rw [List.map_map]; rfl, ints_map]
  rfl
theorem lot_inj {l m : List Nat} (h : lotD l = lotD m) : l = m := by
  injection h with h
  exact map_nI_inj h
theorem key_inj {l m : List Nat} (h : (lotD l).key' = (lotD m).key') : l = m := by
  rw [key_lot, key_lot] at h
  have := congrArg (List.map Int.toNat) h
  rw [List.map_map, List.map_map] at this
  have e : ∀ l : List Nat, l.map (Int.toNat ∘ fun (x : Nat) => (x : Int)) = l := fun l => (List.map_congr_left fun x _ => Int.toNat_natCast x).trans (List.map_id l)
  rw [e, e] at this
  exact this
def leL (l m : List Nat) : Bool := leD (lotD l) (lotD m)
def sortL (X : List (List Nat)) : List (List Nat) := X.mergeSort leL
theorem sortL_pw (X : List (List Nat)) : (sortL X).Pairwise fun a b => leL a b = true := List.pairwise_mergeSort (le := leL) (fun a b c => leD_tr (lotD a) (lotD b) (lotD c)) (fun a b => leD_tot (lotD a) (lotD b)) X
theorem sort_fil (X : List (List Nat)) (p : List Nat → Bool) : sortD ((X.filter p).map lotD) = ((sortL X).filter p).map lotD := by
  symm
  refine sortD_eq (((List.mergeSort_perm X leL).filter p).map lotD) ?_ fun a ha b hb h => ?_
  · rw [List.pairwise_map]
    exact (sortL_pw X).filter p
  · obtain ⟨l, _, rfl⟩ := List.mem_map.mp ha
    obtain ⟨m, _, rfl⟩ := List.mem_map.mp hb
    rw [key_inj h]
theorem sort_all (X : List (List Nat)) : sortD (X.map lotD) = (sortL X).map lotD := by
  have := sort_fil X fun _ => true
  rw [List.filter_eq_self.mpr fun _ _ => rfl, List.filter_eq_self.mpr fun _ _ => rfl] at this
  exact this
theorem isTI_lot (X : List (List Nat)) : (X.map lotD).all D.isTI = true := by
  rw [List.all_map, List.all_eq_true]
  intro l _
  show allI (l.map nI) = true
  unfold allI
  rw [List.all_map, List.all_eq_true]
  exact fun _ _ => rfl
theorem sortT_lots {X t : List (List Nat)} (h : X = [] :: t) : D.sortT (.lst (X.map lotD)) = .ok (.lst (sortD (X.map lotD))) := by
  unfold D.sortT D.items
  dsimp only
  rw [if_pos]
  rw [isTI_lot, Bool.true_and, h]
  cases t with
  | nil => rfl
  | cons a t => rfl
/-! ### the loop that takes out what lacks a need -/
theorem erase_map : ∀ (l : List Nat) (k : Nat), (l.map fun (x : Nat) => (x : Int)).erase (k : Int) = (l.erase k).map fun (x : Nat) => (x : Int)
  | [], k => rfl
  | a :: l, k => by
    rw [List.map_cons, List.erase_cons, List.erase_cons]
    by_cases h : a = k
    · subst h; simp
    · have h2 : ¬ ((a : Int) = (k : Int)) := by omega
      simp only [beq_iff_eq, h, h2, if_false, List.map_cons]
      rw [erase_map l k]
theorem erase_ix : ∀ (l : List Int) (k : Int), l.eraseIdx (l.idxOf k) = l.erase k
  | [], _ => rfl
  | a :: l, k => by
    rw [List.erase_cons, List.idxOf_cons]
    by_cases h : a = k
    · subst h; simp
    · have h2 : (a == k) = false := beq_eq_false_iff_ne.mpr h
      rw [h2]
      simp [erase_ix l k]
theorem mut_remove {ms : G.Env → R (List D)} {i k : Nat} {ρ : G.Env} {l : List Nat} (h1 : ρ[i]? = some (some (.lst (l.map nI)))) (h2 : ms ρ = .ok [nI k]) (h3 : k ∈ l) : mMut "list" i dRemove ms kDrop ρ = .nx (ρ.set i (some (.lst ((l.erase k).map nI)))) := by
  have em : l.map nI = (l.map fun (x : Nat) => (x : Int)).map D.int := by rw [List.map_map]; rfl
  have em2 : (l.erase k).map nI = ((l.erase k).map fun (x : Nat) => (x : Int)).map D.int := by rw [List.map_map]; rfl
  unfold mMut
  rw [h1]
  dsimp only
  rw [if_pos (show tyOk "list" (.lst (l.map nI)) = true from rfl), h2]
  show (match dRemove (.lst (l.map nI)) [.int (k : Int)] with | .ok (d', e) => kDrop e (ρ.set i (some d')) | _ => .bad) = _
  have e : dRemove (.lst (l.map nI)) [.int (k : Int)] = .ok (.lst ((l.erase k).map nI), .non) := by
    unfold dRemove
    dsimp only
    rw [em, ints_map]
    dsimp only
    rw [if_pos (List.mem_map.mpr ⟨k, h3, rfl⟩), erase_ix, erase_map, em2]
  rw [e]
  rfl
theorem scalL_ok {m : G.Env → R D} {ρ : G.Env} {l : List Nat} (h : m ρ = .ok (.lst (l.map nI))) : mScalL m ρ = .ok (.lst (l.map nI)) := by
  unfold mScalL
  rw [h, R.bind_ok]
  dsimp only
  rw [if_pos]
  rw [List.all_map, List.all_eq_true]
  exact fun _ _ => rfl
theorem wh_step {c : G.Env → R Bool} {b : G.Env → Out} {n : Nat} {ρ ρ' : G.Env} {o : Out} (h1 : c ρ = .ok true) (h2 : b ρ = .nx ρ') (h3 : whileN c b n ρ' = o) : whileN c b (n + 1) ρ = o := by
  unfold whileN
  rw [h1]
  show (match b ρ with | .nx ρ' => whileN c b n ρ' | .ct ρ' => whileN c b n ρ' | .bk ρ' => .nx ρ' | x => x) = o
  rw [h2]
  exact h3
theorem wh_end {c : G.Env → R Bool} {b : G.Env → Out} {n : Nat} {ρ : G.Env} (h1 : c ρ = .ok false) : whileN c b (n + 1) ρ = .nx ρ := by
  unfold whileN
  rw [h1]
  rfl
def badL (needs : List (List Nat)) (left : List Nat) : List Nat := left.filter fun k => !((needs.getD k []).all fun o => decide (o ∈ left))
/-- the removal, to its end -/
def lgo (needs : List (List Nat)) : Nat → List Nat → List Nat → List Nat × List Nat
  | 0, left, found => (left, found)
  | n + 1, left, found => match badL needs left with
    | [] => (left, found)
    | b :: _ => lgo needs n (left.erase b) (found ++ [b])
theorem bad_mem {needs : List (List Nat)} {left r : List Nat} {b : Nat} (h : badL needs left = b :: r) : b ∈ left := by
  have : b ∈ badL needs left := by rw [h]; exact .head _
  exact (List.mem_filter.mp this).1
structure NdOk (n : Nat) (needs : List (List Nat)) : Prop where
  len : needs.length = n
  n10 : n ≤ 10
  each : ∀ k, (needs.getD k []).length ≤ 10
theorem bad_ok {n : Nat} {needs : List (List Nat)} (h : NdOk n needs) {left : List Nat} (hl : ∀ x ∈ left, x < n) (hll : left.length ≤ 100) {v0 v1 v3 v4 v5 v6 v7 : Option D} :
    mScalL (mLc [6] (mSq D.seq (mVar 2)) (gnName 6) (mNot (mB (mCall (d1 D.all) (mCons (mLc [7] (mSq D.seq (m2 D.ix (mVar 0) (mVar 6))) (gnName 7) mYes (m2 D.isIn (mVar 7) (mVar 2))) mNil)))) (mVar 6)) [some (needsD needs), v1, some (.lst (left.map nI)), v3, v4, v5, v6, v7] = .ok (.lst ((badL needs left).map nI)) := by
  refine scalL_ok (mLc_fil (emb := nI) (l := left) (r := fun k => [some (needsD needs), v1, some (.lst (left.map nI)), v3, v4, v5, some (nI k), v7]) (p := fun k => !((needs.getD k []).all fun o => decide (o ∈ left))) (f := nI) (sq_ok rfl rfl) (by omega) fun k hk => ⟨rfl, not_ok (b_ok (call1_ok (mLc_map (emb := nI) (l := needs.getD k []) (r := fun o => [some (needsD needs), v1, some (.lst (left.map nI)), v3, v4, v5, some (nI k), some (nI o)]) (f := fun o => .bl (decide (o ∈ left))) (sq_ok (m2_ok rfl rfl (need_ix (by rw [h.len]; exact hl k hk))) rfl) (by have := h.each k; omega) fun o _ => ⟨rfl, m2_ok rfl rfl ?_⟩) (all_ok _ _))), fun _ => rfl⟩)
  rw [in_lst (n := 0) (by omega) okD_int (nI_ok left), dIn_nI]
def ordB : G.Env → Out := (mSeq (mSet 5 (mScalL (mLc [6] (mSq D.seq (mVar 2)) (gnName 6) (mNot (mB (mCall (d1 D.all) (mCons (mLc [7] (mSq D.seq (m2 D.ix (mVar 0) (mVar 6))) (gnName 7) mYes (m2 D.isIn (mVar 7) (mVar 2))) mNil)))) (mVar 6)))) (mSeq (mSet 4 (m2 D.gt (mCall (d1 D.len) (mCons (mVar 5) mNil)) (mC (.int 0)))) (mIf (mB (mVar 4)) (mSeq (mMut "list" 3 dAppend (mCons (m2 D.ix (mVar 5) (mC (.int 0))) mNil) kDrop) (mMut "list" 2 dRemove (mCons (m2 D.ix (mVar 5) (mC (.int 0))) mNil) kDrop)) mNext)))
theorem ord_loop {n : Nat} {needs : List (List Nat)} (h : NdOk n needs) {v1 v6 v7 : Option D} : ∀ (f : Nat) (N : Nat) (left found : List Nat) (v5 : Option D), left.length ≤ f → f + 2 ≤ N → (∀ x ∈ left, x < n) → found.length + left.length ≤ 100 → ∃ w5 : Option D,
    whileN (mB (mVar 4)) ordB N [some (needsD needs), v1, some (.lst (left.map nI)), some (.lst (found.map nI)), some (.bl true), v5, v6, v7] = .nx [some (needsD needs), v1, some (.lst ((lgo needs f left found).1.map nI)), some (.lst ((lgo needs f left found).2.map nI)), some (.bl false), w5, v6, v7] := by
  intro f
  induction f with
  | zero =>
    intro N left found v5 hf hN hl hll
    have e0 : left = [] := List.length_eq_zero_iff.mp (by omega)
    subst e0
    obtain ⟨m, rfl⟩ : ∃ m, N = m + 2 := ⟨N - 2, by omega⟩
    exact ⟨_, wh_step rfl (seq_nx (set_nx (bad_ok (v0 := none) h hl (by omega))) (seq_nx (set_nx (d := .bl false) rfl) (if_f rfl rfl))) (wh_end rfl)⟩
  | succ f ih =>
    intro N left found v5 hf hN hl hll
    obtain ⟨m, rfl⟩ : ∃ m, N = m + 2 := ⟨N - 2, by omega⟩
    have hbo := bad_ok (v0 := none) (v1 := v1) (v3 := some (.lst (found.map nI))) (v4 := some (.bl true)) (v5 := v5) (v6 := v6) (v7 := v7) h hl (by omega)
    cases hb : badL needs left with
    | nil =>
      rw [hb] at hbo
      refine ⟨some (.lst []), ?_⟩
      have e : lgo needs (f + 1) left found = (left, found) := by unfold lgo; rw [hb]
      rw [e]
      exact wh_step rfl (seq_nx (set_nx hbo) (seq_nx (set_nx (d := .bl false) rfl) (if_f rfl rfl))) (wh_end rfl)
    | cons b r =>
      rw [hb] at hbo
      have hbm := bad_mem hb
      have hel := List.length_erase_of_mem hbm
      have hpos : 0 < left.length := List.length_pos_of_mem hbm
      obtain ⟨w5, e⟩ := ih (m + 1) (left.erase b) (found ++ [b]) (some (.lst ((b :: r).map nI))) (by omega) (by omega) (fun x hx => hl x (List.mem_of_mem_erase hx)) (by rw [List.length_append, List.length_singleton]; omega)
      refine ⟨w5, ?_⟩
      have e2 : lgo needs (f + 1) left found = lgo needs f (left.erase b) (found ++ [b]) := by
        rw [lgo]; rw [hb]
      rw [e2]
      refine wh_step (ρ' := [some (needsD needs), v1, some (.lst ((left.erase b).map nI)), some (.lst ((found ++ [b]).map nI)), some (.bl true), some (.lst ((b :: r).map nI)), v6, v7]) rfl (seq_nx (set_nx hbo) (seq_nx (set_nx (d := .bl true) (m2_ok rfl rfl ?_)) (if_t rfl (seq_nx (mut_append (xs := found.map nI) (y := nI b) rfl (cons_ok (m2_ok rfl rfl (ixL (l := b :: r) (k := 0) (by rw [List.length_cons]; omega))) rfl) (by rw [List.length_map]; omega)) ((mut_remove (l := left) (k := b) rfl (cons_ok (m2_ok rfl rfl (ixL (l := b :: r) (k := 0) (by rw [List.length_cons]; omega))) rfl) hbm).trans ?_))))) e
      · rw [dgt, decide_eq_true (by rw [List.length_map, List.length_cons]; omega)]
      · rw [show (found ++ [b]).map nI = found.map nI ++ [nI b] from List.map_append]; rfl
theorem f_leftOrder {n : Nat} {needs : List (List Nat)} (h : NdOk n needs) {lot : List Nat} (hl : Lot n lot) : m_left_order.fn [needsD needs, lotD lot] = .ok (.tup [lotD (lgo needs lot.length lot []).1, lotD (lgo needs lot.length lot []).2]) := by
  have hn := h.n10
  have hll := hl.length
  obtain ⟨w5, e⟩ := ord_loop h (v1 := some (lotD lot)) (v6 := none) (v7 := none) lot.length bigN lot [] none (Nat.le_refl _) (by show lot.length + 2 ≤ 1000000000; omega) hl.1 (by rw [List.length_nil]; omega)
  rw [fn_run rfl]
  show (b_left_order [some (needsD needs), some (lotD lot), none, none, none, none, none, none]).res = _
  unfold b_left_order
  refine seq_res (set_nx (call1_ok rfl rfl)) ?_
  refine seq_res (set_nx (mLst_ok rfl (by show 0 ≤ 16777216; omega))) ?_
  refine seq_res (set_nx rfl) ?_
  refine seq_res e ?_
  exact ret_res (mTup_ok (cons_ok (call1_ok rfl rfl) (cons_ok (call1_ok rfl rfl) rfl)) (by show 2 ≤ 16777216; omega))
/-! what the removal leaves -/
theorem lgo_bad (needs : List (List Nat)) : ∀ (f : Nat) (left found : List Nat), left.length ≤ f → badL needs (lgo needs f left found).1 = []
  | 0, left, found, h => by
    have : left = [] := List.length_eq_zero_iff.mp (by omega)
    subst this
    rfl
  | f + 1, left, found, h => by
    rw [lgo]
    cases hb : badL needs left with
    | nil => exact hb
    | cons b r =>
      have hbm := bad_mem hb
      have := List.length_erase_of_mem hbm
      have := List.length_pos_of_mem hbm
      exact lgo_bad needs f (left.erase b) (found ++ [b]) (by omega)
def chk (needs : List (List Nat)) : List Nat → List Nat → Bool
  | _, [] => true
  | left, b :: r => !((needs.getD b []).all fun o => decide (o ∈ left)) && chk needs (left.erase b) r
theorem lgo_spec (needs : List (List Nat)) : ∀ (f : Nat) (left found : List Nat), left.Nodup → ∃ R, (lgo needs f left found).2 = found ++ R ∧ (R ++ (lgo needs f left found).1).Perm left ∧ (lgo needs f left found).1.Sublist left ∧ chk needs left R = true ∧ ∀ here : List Nat, keepsB needs here = true → (∀ x ∈ here, x ∈ left) → ∀ x ∈ here, x ∈ (lgo needs f left found).1
  | 0, left, found, _ => ⟨[], (List.append_nil _).symm, List.Perm.refl _, List.Sublist.refl _, rfl, fun _ _ h => h⟩
  | f + 1, left, found, hn => by
    rw [lgo]
    cases hb : badL needs left with
    | nil => exact ⟨[], (List.append_nil _).symm, List.Perm.refl _, List.Sublist.refl _, rfl, fun _ _ h => h⟩
    | cons b r =>
      have hbm := bad_mem hb
      have hbad : (!((needs.getD b []).all fun o => decide (o ∈ left))) = true := by
        have : b ∈ badL needs left := by rw [hb]; exact .head _
        exact (List.mem_filter.mp this).2
      obtain ⟨R, h1, h2, h3, h4, h5⟩ := lgo_spec needs f (left.erase b) (found ++ [b]) (hn.erase b)
      refine ⟨b :: R, ?_, ?_, h3.trans List.erase_sublist, ?_, fun here hk hs x hx => ?_⟩
      · show (lgo needs f (left.erase b) (found ++ [b])).2 = _
        rw [h1, List.append_assoc]; rfl
      · exact ((h2.cons b).trans (List.perm_cons_erase hbm).symm)
      · unfold chk
        rw [hbad, h4]
        rfl
      · refine h5 here hk (fun y hy => ?_) x hx
        have hne : y ≠ b := by
          rintro rfl
          have q := List.all_eq_true.mp hk y hy
          have : ((needs.getD y []).all fun o => decide (o ∈ left)) = true := by
            rw [List.all_eq_true] at q ⊢
            exact fun o ho => decide_eq_true (hs o (of_decide_eq_true (q o ho)))
          rw [this] at hbad
          cases hbad
        exact (List.mem_erase_of_ne hne).mpr (hs y hy)
theorem bad_nil {needs : List (List Nat)} {l : List Nat} (h : badL needs l = []) : keepsB needs l = true := by
  unfold keepsB
  rw [List.all_eq_true]
  intro k hk
  cases q : ((needs.getD k []).all fun o => decide (o ∈ l)) with
  | true => rfl
  | false =>
    have : k ∈ badL needs l := List.mem_filter.mpr ⟨hk, by rw [q]; rfl⟩
    rw [h] at this
    cases this
/-! ### the program's answers -/
theorem f_isLot_lst (ds : List D) (n : Int) : m_is_lot.fn [.lst ds, .int n] = .ok (.bl false) := by
  have u : m_are_under.fn [.lst ds, .int n] = .ok (.bl false) := by
    rw [fn_run rfl]
    show (b_are_under [some (.lst ds), some (.int n), none]).res = _
    unfold b_are_under
    exact ret_res (andV_f rfl)
  rw [fn_run rfl]
  show (b_is_lot [some (.lst ds), some (.int n), none]).res = _
  unfold b_is_lot
  exact ret_res (andV_f (callN_ok (cons_ok rfl (cons_ok rfl rfl)) rfl u))
theorem f_needLot {many n : Nat} {rows : List Row} {lot : List Nat} (hn : rows.length = n) (h10 : n ≤ 10) (hl : Lot n lot) : m_need_lot_of.fn [webD many rows, lotD lot] = .ok .non := by
  have hll := hl.length
  have u1 : m_is_lot.fn [lotD lot, .int (rows.map rowD).length] = .ok (.bl true) := by
    rw [List.length_map, hn]
    exact f_isLot hl (by omega)
  rw [fn_run rfl]
  show (b_need_lot_of [some (webD many rows), some (lotD lot)]).res = _
  unfold b_need_lot_of
  exact (congrArg Out.res (if_f (not_ok (x := true) (b_ok (callN_ok (cons_ok rfl (cons_ok (call1_ok (m2_ok rfl rfl (web1 _ _)) (len_tup _)) rfl)) rfl u1))) rfl)).trans rfl
/-- a web and its needs -/
structure Sit (many n : Nat) (rows : List Row) (needs : List (List Nat)) : Prop where
  v : Valid many rows
  hn : rows.length = n
  no : NOk rows needs
  nd : NdOk n needs
theorem Sit.mk' {many : Nat} {rows : List Row} {needs : List (List Nat)} (v : Valid many rows) (no : NOk rows needs) : Sit many rows.length rows needs :=
  ⟨v, rfl, no, ⟨no.len, v.r10, fun k => Nat.le_trans (no.lot k).length v.r10⟩⟩
def keptL (n : Nat) (needs : List (List Nat)) : List (List Nat) := (sortL (lotsL n)).filter (keepsB needs)
theorem mem_kept {n : Nat} {needs : List (List Nat)} {l : List Nat} : l ∈ keptL n needs ↔ Lot n l ∧ keepsB needs l = true := by
  unfold keptL
  rw [List.mem_filter, show l ∈ sortL (lotsL n) ↔ l ∈ lotsL n from (List.mergeSort_perm (lotsL n) leL).mem_iff, mem_lots]
theorem kept_len {n : Nat} (h : n ≤ 10) (needs : List (List Nat)) : (keptL n needs).length ≤ 1024 := by
  refine Nat.le_trans (List.length_filter_le _ _) ?_
  rw [show (sortL (lotsL n)).length = (lotsL n).length from (List.mergeSort_perm _ _).length_eq]
  exact lotsL_le h
theorem f_needAll {many n : Nat} {rows : List Row} {needs : List (List Nat)} (s : Sit many n rows needs) : m_need_all.fn [webD many rows, needsD needs] = .ok (.tup ((keptL n needs).map lotD)) := by
  have h10 := s.nd.n10
  obtain ⟨t, ht⟩ := lotsL_head n
  have hf : ((lotsL n).filter (keepsB needs)) = [] :: t.filter (keepsB needs) := by rw [ht, List.filter_cons_of_pos rfl]
  have hal : m_all_lots.fn [.int (rows.map rowD).length] = .ok (.lst ((lotsL n).map lotD)) := by
    rw [List.length_map, s.hn]
    exact f_allLots h10
  rw [fn_run rfl]
  show (b_need_all [some (webD many rows), some (needsD needs), none]).res = _
  unfold b_need_all
  refine seq_res (drop_nx (callN_ok (cons_ok rfl (cons_ok rfl rfl)) rfl (f_needNeeds s.v s.no))) (ret_res (call1_ok (call1_ok (mLc_fil (emb := lotD) (l := lotsL n) (r := fun l => [some (webD many rows), some (needsD needs), some (lotD l)]) (p := keepsB needs) (f := lotD) (sq_ok (x := .lst ((lotsL n).map lotD)) (callN_ok (cons_ok (call1_ok (m2_ok rfl rfl (web1 _ _)) (len_tup _)) rfl) rfl hal) rfl) (by have := lotsL_le h10; omega) fun l hl => ⟨rfl, b_ok (call0_ok (cons_ok rfl (cons_ok rfl rfl)) rfl (f_kept s.nd.len h10 s.nd.each ((mem_lots n l).mp hl).1 (by have := lots_lt h10 hl; omega))), fun _ => rfl⟩) ((sortT_lots hf).trans (by rw [sort_fil]))) rfl))
theorem f_needGreatest {many n : Nat} {rows : List Row} {needs : List (List Nat)} (s : Sit many n rows needs) {lot : List Nat} (hl : Lot n lot) : m_need_greatest.fn [webD many rows, needsD needs, lotD lot] = .ok (.tup [lotD (lgo needs lot.length lot []).1, lotD (lgo needs lot.length lot []).2]) := by
  rw [fn_run rfl]
  show (b_need_greatest [some (webD many rows), some (needsD needs), some (lotD lot)]).res = _
  unfold b_need_greatest
  refine seq_res (drop_nx (callN_ok (cons_ok rfl (cons_ok rfl rfl)) rfl (f_needNeeds s.v s.no))) ?_
  refine seq_res (drop_nx (callN_ok (cons_ok rfl (cons_ok rfl rfl)) rfl (f_needLot s.hn s.nd.n10 hl))) ?_
  exact ret_res (callN_ok (cons_ok rfl (cons_ok rfl rfl)) rfl (f_leftOrder s.nd hl))
theorem f_isNeedKept {many n : Nat} {rows : List Row} {needs : List (List Nat)} (s : Sit many n rows needs) {lot : List Nat} (hl : Lot n lot) : m_is_need_kept.fn [webD many rows, needsD needs, lotD lot] = .ok (.bl (keepsB needs lot)) := by
  have hll := hl.length
  have h10 := s.nd.n10
  have u1 : m_is_lot.fn [lotD lot, .int (rows.map rowD).length] = .ok (.bl true) := by
    rw [List.length_map, s.hn]
    exact f_isLot hl (by omega)
  rw [fn_run rfl]
  show (b_is_need_kept [some (webD many rows), some (needsD needs), some (lotD lot)]).res = _
  unfold b_is_need_kept
  refine seq_res (drop_nx (callN_ok (cons_ok rfl (cons_ok rfl rfl)) rfl (f_needNeeds s.v s.no))) ?_
  exact ret_res (andV_t (callN_ok (cons_ok rfl (cons_ok (call1_ok (m2_ok rfl rfl (web1 _ _)) (len_tup _)) rfl)) rfl u1) (callN_ok (cons_ok rfl (cons_ok rfl rfl)) rfl (f_kept s.nd.len h10 s.nd.each hl.1 (by omega))))
theorem f_isNeedKept_lst {many n : Nat} {rows : List Row} {needs : List (List Nat)} (s : Sit many n rows needs) (ds : List D) : m_is_need_kept.fn [webD many rows, needsD needs, .lst ds] = .ok (.bl false) := by
  rw [fn_run rfl]
  show (b_is_need_kept [some (webD many rows), some (needsD needs), some (.lst ds)]).res = _
  unfold b_is_need_kept
  refine seq_res (drop_nx (callN_ok (cons_ok rfl (cons_ok rfl rfl)) rfl (f_needNeeds s.v s.no))) ?_
  exact ret_res (andV_f (callN_ok (cons_ok rfl (cons_ok (call1_ok (m2_ok rfl rfl (web1 _ _)) (len_tup _)) rfl)) rfl (f_isLot_lst _ _)))
theorem f_flag (a b : Bool) (h : a = b) : m__law_flag.fn [.bl a, .bl b] = .ok (.bl true) := by
  subst h
  cases a <;> rfl
theorem or_t {a b : G.Env → R Bool} {ρ : G.Env} (h1 : a ρ = .ok true) : mOr a b ρ = .ok true := by
  unfold mOr
  rw [h1]
  rfl
def grB : G.Env → Out := (mSeq (mIf (mB (mCall (d1 D.all) (mCons (mLc [7] (mSq D.seq (m2 D.ix (mVar 1) (mVar 5))) (gnName 7) mYes (m2 D.isIn (mVar 7) (mVar 4))) mNil))) (mRet (mC (.bl false))) mNext) (mMut "list" 4 dRemove (mCons (mVar 5) mNil) kDrop))
theorem loop_stop {mg : D → G.Env → R G.Env} {mb : G.Env → Out} {d e : D} {ds : List D} {ρ ρ1 : G.Env} (h1 : mg d ρ = .ok ρ1) (h2 : mb ρ1 = .rt e) : loopD (stepD mg mb) (d :: ds) ρ = .rt e := by
  unfold loopD stepD
  rw [h1]
  dsimp only
  rw [h2]
theorem gr_loop {n : Nat} {needs : List (List Nat)} (h : NdOk n needs) {c0 c2 c3 v6 v7 : Option D} : ∀ (R left : List Nat) (v5 : Option D), R.Nodup → (∀ x ∈ R, x ∈ left) → (∀ x ∈ R, x < n) → ∃ (left' : List Nat) (w5 : Option D),
    loopD (stepD (gnName 5) grB) (R.map nI) [c0, some (needsD needs), c2, c3, some (.lst (left.map nI)), v5, v6, v7] = if chk needs left R = true then .nx [c0, some (needsD needs), c2, c3, some (.lst (left'.map nI)), w5, v6, v7] else .rt (.bl false) := by
  intro R
  induction R with
  | nil => intro left v5 _ _ _; exact ⟨left, v5, rfl⟩
  | cons b R ih =>
    intro left v5 hnd hs hlt
    obtain ⟨hn1, hn2⟩ := List.nodup_cons.mp hnd
    have hb := hs b (.head _)
    have hall : mB (mCall (d1 D.all) (mCons (mLc [7] (mSq D.seq (m2 D.ix (mVar 1) (mVar 5))) (gnName 7) mYes (m2 D.isIn (mVar 7) (mVar 4))) mNil)) [c0, some (needsD needs), c2, c3, some (.lst (left.map nI)), some (nI b), v6, v7] = .ok ((needs.getD b []).all fun o => decide (o ∈ left)) := by
      refine b_ok (call1_ok (mLc_map (emb := nI) (l := needs.getD b []) (r := fun o => [c0, some (needsD needs), c2, c3, some (.lst (left.map nI)), some (nI b), v6, some (nI o)]) (f := fun o => .bl (decide (o ∈ left))) (sq_ok (m2_ok rfl rfl (need_ix (by rw [h.len]; exact hlt b (.head _)))) rfl) (by have := h.each b; omega) fun o _ => ⟨rfl, m2_ok rfl rfl ?_⟩) (all_ok _ _))
      rw [in_lst (n := 0) (by omega) okD_int (nI_ok left), dIn_nI]
    cases hc : ((needs.getD b []).all fun o => decide (o ∈ left)) with
    | true =>
      rw [hc] at hall
      refine ⟨left, v5, ?_⟩
      have e : chk needs left (b :: R) = false := by unfold chk; rw [hc]; rfl
      rw [e, List.map_cons]
      exact loop_stop rfl (seq_rt (if_t hall rfl))
    | false =>
      rw [hc] at hall
      obtain ⟨left', w5, e⟩ := ih (left.erase b) (some (nI b)) hn2 (fun x hx => (List.mem_erase_of_ne (show x ≠ b from fun z => by rw [z] at hx; exact hn1 hx)).mpr (hs x (.tail _ hx))) fun x hx => hlt x (.tail _ hx)
      refine ⟨left', w5, ?_⟩
      have e2 : chk needs left (b :: R) = chk needs (left.erase b) R := by rw [chk, hc]; rfl
      rw [e2, ← e, List.map_cons]
      exact loop_cons rfl (seq_nx (if_f hall rfl) (mut_remove rfl (cons_ok rfl rfl) hb)) rfl
theorem sortI_lot {l lot : List Nat} (hp : l.Perm lot) (hs : lot.Pairwise (· < ·)) : sortD (l.map nI) = lot.map nI := by
  have em : ∀ l : List Nat, l.map nI = (l.map fun (x : Nat) => (x : Int)).map D.int := fun l => by rw [List.map_map]; rfl
  rw [em, em]
  refine (sortI_ints (hp.symm.map _) ?_).symm
  rw [List.pairwise_map]
  exact hs.imp fun hlt => by omega
theorem sortI'_ok (l : List Nat) : D.sortI' (.tup (l.map nI)) = .ok (.lst (sortD (l.map nI))) := by
  unfold D.sortI' D.items
  dsimp only
  rw [if_pos]
  unfold allI
  rw [List.all_map, List.all_eq_true]
  exact fun _ _ => rfl
theorem okD_sorted (l : List Nat) : (sortD (l.map nI)).all (okD 0) = true := by
  rw [List.all_eq_true]
  intro x hx
  have := (List.mergeSort_perm (l.map nI) leD).mem_iff.mp hx
  obtain ⟨k, _, rfl⟩ := List.mem_map.mp this
  exact okD_int
theorem f_isGr {many n : Nat} {rows : List Row} {needs : List (List Nat)} (s : Sit many n rows needs) {lot L R : List Nat} (hl : Lot n lot) (hL : Lot n L) (hk : keepsB needs L = true) (hR : ∀ x ∈ R, x < n) (hRn : R.Nodup) (hRs : ∀ x ∈ R, x ∈ lot) (h : (L ++ R).Perm lot ∨ (L ++ R).length ≠ lot.length) :
    m_is_need_greatest.fn [webD many rows, needsD needs, lotD lot, .tup [lotD L, lotD R]] = .ok (.bl (decide ((L ++ R).length = lot.length) && chk needs lot R)) := by
  have h10 := s.nd.n10
  have hll := hl.length
  have hLL := hL.length
  have hRl : R.length ≤ 10 := by
    have := (List.Nodup.length_le_of_subset hRn (fun x hx => List.mem_range.mpr (hR x hx)) : R.length ≤ (List.range n).length)
    rw [List.length_range] at this
    omega
  have u1 : m_is_lot.fn [lotD L, .int (rows.map rowD).length] = .ok (.bl true) := by
    rw [List.length_map, s.hn]
    exact f_isLot hL (by omega)
  have u2 : m_is_tuple_of.fn [.tup [lotD L, lotD R], .int 2] = .ok (.bl true) := by rw [f_tupleOf]; rfl
  have u3 := f_kept s.nd.len h10 s.nd.each hL.1 (by omega)
  rw [hk] at u3
  have u4 : ∀ k ∈ R, m_is_under.fn [nI k, .int (rows.map rowD).length] = .ok (.bl true) := fun k hk => by
    have := hR k hk
    rw [f_under, List.length_map, s.hn, decide_eq_true (by omega), decide_eq_true (by omega)]; rfl
  obtain ⟨left', w5, e⟩ := gr_loop s.nd (c0 := some (webD many rows)) (c2 := some (lotD lot)) (c3 := some (.tup [lotD L, lotD R])) (v6 := none) (v7 := none) R lot none hRn hRs hR
  have hadd : D.add (lotD L) (lotD R) = .ok (lotD (L ++ R)) := by
    rw [add_tup (by rw [List.length_map, List.length_map]; omega), ← List.map_append]
  rw [fn_run rfl]
  show (b_is_need_greatest [some (webD many rows), some (needsD needs), some (lotD lot), some (.tup [lotD L, lotD R]), none, none, none, none]).res = _
  unfold b_is_need_greatest
  refine seq_res (drop_nx (callN_ok (cons_ok rfl (cons_ok rfl rfl)) rfl (f_needNeeds s.v s.no))) ?_
  refine seq_res (drop_nx (callN_ok (cons_ok rfl (cons_ok rfl rfl)) rfl (f_needLot s.hn h10 hl))) ?_
  refine seq_res (if_f (or_tf (not_ok (b_ok (callN_ok (cons_ok rfl (cons_ok rfl rfl)) rfl u2))) (or_tf (not_ok (b_ok (callN_ok (cons_ok (m2_ok rfl rfl rfl) (cons_ok (call1_ok (m2_ok rfl rfl (web1 _ _)) (len_tup _)) rfl)) rfl u1))) (not_ok (b_ok (callN_ok (cons_ok rfl (cons_ok (m2_ok rfl rfl rfl) rfl)) rfl u3))))) rfl) ?_
  refine seq_res (if_f (or_tf (x := false) (y := false) (not_ok (x := true) rfl) (not_ok (x := true) (b_ok (call1_ok (mLc_map (emb := nI) (l := R) (r := fun k => [some (webD many rows), some (needsD needs), some (lotD lot), some (.tup [lotD L, lotD R]), none, none, some (nI k), none]) (f := fun _ => .bl true) (sq_ok rfl rfl) (by omega) fun k hk => ⟨rfl, call0_ok (cons_ok rfl (cons_ok (call1_ok (m2_ok rfl rfl (web1 _ _)) (len_tup _)) rfl)) rfl (u4 k hk)⟩) ((all_ok R fun _ => true).trans (by rw [List.all_eq_true.mpr fun _ _ => rfl])))))) rfl) ?_
  have hne : mB (m2 D.ne (mCall (d1 D.sortI') (mCons (m2 D.add (m2 D.ix (mVar 3) (mC (.int 0))) (m2 D.ix (mVar 3) (mC (.int 1)))) mNil)) (mCall (d1 D.toLst) (mCons (mVar 2) mNil))) [some (webD many rows), some (needsD needs), some (lotD lot), some (.tup [lotD L, lotD R]), none, none, none, none] = .ok (!dq (.lst (sortD ((L ++ R).map nI))) (.lst (lot.map nI))) :=
    b_ok (m2_ok (call1_ok (m2_ok (m2_ok rfl rfl rfl) (m2_ok rfl rfl rfl) hadd) (sortI'_ok (L ++ R))) (call1_ok rfl rfl) (ne_ok (n := 1) (by omega) (okD_sorted _) (nI_ok _)))
  rcases h with h | h
  · have e1 : dq (.lst (sortD ((L ++ R).map nI))) (.lst (lot.map nI)) = true := dq_iff.mpr (by rw [sortI_lot h hl.2])
    rw [e1] at hne
    refine seq_res (if_f hne rfl) ?_
    refine seq_res (set_nx (call1_ok rfl rfl)) ?_
    rw [decide_eq_true h.length_eq, Bool.true_and]
    cases hc : chk needs lot R with
    | true =>
      rw [hc] at e
      exact seq_res (for_nx (sq_ok (m2_ok rfl rfl rfl) rfl) e) (ret_res rfl)
    | false =>
      rw [hc] at e
      have e2 : mFor (mSq D.seq (m2 D.ix (mVar 3) (mC (.int 1)))) (gnName 5) grB [some (webD many rows), some (needsD needs), some (lotD lot), some (.tup [lotD L, lotD R]), some (.lst (lot.map nI)), none, none, none] = .rt (.bl false) := by
        unfold mFor
        rw [sq_ok (f := D.seq) (m := m2 D.ix (mVar 3) (mC (.int 1))) (ρ := [some (webD many rows), some (needsD needs), some (lotD lot), some (.tup [lotD L, lotD R]), some (.lst (lot.map nI)), none, none, none]) (x := lotD R) (r := .ok (R.map nI)) rfl rfl]
        exact e
      exact congrArg Out.res (seq_rt e2)
  · have e1 : dq (.lst (sortD ((L ++ R).map nI))) (.lst (lot.map nI)) = false := by
      cases q : dq (.lst (sortD ((L ++ R).map nI))) (.lst (lot.map nI)) with
      | false => rfl
      | true =>
        have := dq_iff.mp q
        injection this with z
        have z := congrArg List.length z
        rw [show (sortD ((L ++ R).map nI)).length = ((L ++ R).map nI).length from (List.mergeSort_perm _ _).length_eq, List.length_map, List.length_map] at z
        exact absurd z h
    rw [e1] at hne
    rw [decide_eq_false h, Bool.false_and]
    exact congrArg Out.res (seq_rt (if_t hne rfl))
/-! ### the law's own loops -/
def lawLB : G.Env → Out := (mSet 4 (m2 D.add (mVar 4) (mLc [12] (mSq D.seq (mVar 4)) (gnName 12) mYes (m2 D.add (mVar 12) (mTup (mCons (mVar 5) mNil))))))
def lawWB : G.Env → Out := (mSeq (mSet 16 (mScalL (mLc [5] (mSq D.seq (mVar 13)) (gnName 5) (mNot (mB (mCall (d1 D.all) (mCons (mLc [22] (mSq D.seq (m2 D.ix (mVar 3) (mVar 5))) (gnName 22) mYes (m2 D.isIn (mVar 22) (mVar 13))) mNil)))) (mVar 5)))) (mSeq (mSet 15 (m2 D.gt (mCall (d1 D.len) (mCons (mVar 16) mNil)) (mC (.int 0)))) (mIf (mB (mVar 15)) (mSeq (mMut "list" 14 dAppend (mCons (m2 D.ix (mVar 16) (mC (.int 0))) mNil) kDrop) (mMut "list" 13 dRemove (mCons (m2 D.ix (mVar 16) (mC (.int 0))) mNil) kDrop)) mNext)))
def lawGB : G.Env → Out := (mSeq (mSet 21 (mAndV (mVar 21) (mNotV (mScal (mCall (d1 D.all) (mCons (mLc [22] (mSq D.seq (m2 D.ix (mVar 3) (mVar 5))) (gnName 22) mYes (m2 D.isIn (mVar 22) (mVar 20))) mNil)))))) (mMut "list" 20 dRemove (mCons (mVar 5) mNil) kDrop))
theorem law_lots {c0 c1 c2 c3 c6 c7 c8 c9 c10 c11 c12 c13 c14 c15 c16 c17 c18 c19 c20 c21 c22 : Option D} : ∀ (j m : Nat) (v : Option D), m + j ≤ 10 → ∃ v' : Option D, loopD (stepD (gnName 5) lawLB) ((List.range' m j).map nI) [c0, c1, c2, c3, some (.lst ((lotsL m).map lotD)), v, c6, c7, c8, c9, c10, c11, c12, c13, c14, c15, c16, c17, c18, c19, c20, c21, c22] = .nx [c0, c1, c2, c3, some (.lst ((lotsL (m + j)).map lotD)), v', c6, c7, c8, c9, c10, c11, c12, c13, c14, c15, c16, c17, c18, c19, c20, c21, c22]
  | 0, m, v, _ => ⟨v, rfl⟩
  | j + 1, m, v, h => by
    obtain ⟨v', e⟩ := law_lots (c0 := c0) (c1 := c1) (c2 := c2) (c3 := c3) (c6 := c6) (c7 := c7) (c8 := c8) (c9 := c9) (c10 := c10) (c11 := c11) (c12 := c12) (c13 := c13) (c14 := c14) (c15 := c15) (c16 := c16) (c17 := c17) (c18 := c18) (c19 := c19) (c20 := c20) (c21 := c21) (c22 := c22) j (m + 1) (some (nI m)) (by omega)
    refine ⟨v', ?_⟩
    rw [List.range'_succ, List.map_cons]
    refine loop_cons (ρ1 := [c0, c1, c2, c3, some (.lst ((lotsL m).map lotD)), some (nI m), c6, c7, c8, c9, c10, c11, c12, c13, c14, c15, c16, c17, c18, c19, c20, c21, c22]) (ρ2 := [c0, c1, c2, c3, some (.lst ((lotsL (m + 1)).map lotD)), some (nI m), c6, c7, c8, c9, c10, c11, c12, c13, c14, c15, c16, c17, c18, c19, c20, c21, c22]) rfl (set_nx (m2_ok rfl (mLc_map (emb := lotD) (l := lotsL m) (r := fun l => [c0, c1, c2, c3, some (.lst ((lotsL m).map lotD)), some (nI m), c6, c7, c8, c9, c10, c11, some (lotD l), c13, c14, c15, c16, c17, c18, c19, c20, c21, c22]) (f := fun l => lotD (l ++ [m])) (sq_ok rfl rfl) (by have := lotsL_le (n := m) (by omega); omega) fun l hl => ⟨rfl, m2_ok rfl (mTup_ok (cons_ok rfl rfl) (by show 1 ≤ 16777216; omega)) (lot_snoc (by have := lots_lt (by omega) hl; omega))⟩) (lots_add (by omega)))) ?_
    rw [e, show m + 1 + j = m + (j + 1) by omega]
theorem law_bad {n : Nat} {needs : List (List Nat)} (h : NdOk n needs) {left : List Nat} (hl : ∀ x ∈ left, x < n) (hll : left.length ≤ 100) {c0 c1 c2 c4 c5 c6 c7 c8 c9 c10 c11 c12 c14 c15 c16 c17 c18 c19 c20 c21 c22 : Option D} :
    (mScalL (mLc [5] (mSq D.seq (mVar 13)) (gnName 5) (mNot (mB (mCall (d1 D.all) (mCons (mLc [22] (mSq D.seq (m2 D.ix (mVar 3) (mVar 5))) (gnName 22) mYes (m2 D.isIn (mVar 22) (mVar 13))) mNil)))) (mVar 5))) [c0, c1, c2, some (needsD needs), c4, c5, c6, c7, c8, c9, c10, c11, c12, some (.lst (left.map nI)), c14, c15, c16, c17, c18, c19, c20, c21, c22] = .ok (.lst ((badL needs left).map nI)) := by
  refine scalL_ok (mLc_fil (emb := nI) (l := left) (r := fun k => [c0, c1, c2, some (needsD needs), c4, some (nI k), c6, c7, c8, c9, c10, c11, c12, some (.lst (left.map nI)), c14, c15, c16, c17, c18, c19, c20, c21, c22]) (p := fun k => !((needs.getD k []).all fun o => decide (o ∈ left))) (f := nI) (sq_ok rfl rfl) (by omega) fun k hk => ⟨rfl, not_ok (b_ok (call1_ok (mLc_map (emb := nI) (l := needs.getD k []) (r := fun o => [c0, c1, c2, some (needsD needs), c4, some (nI k), c6, c7, c8, c9, c10, c11, c12, some (.lst (left.map nI)), c14, c15, c16, c17, c18, c19, c20, c21, some (nI o)]) (f := fun o => .bl (decide (o ∈ left))) (sq_ok (m2_ok rfl rfl (need_ix (by rw [h.len]; exact hl k hk))) rfl) (by have := h.each k; omega) fun o _ => ⟨rfl, m2_ok rfl rfl ?_⟩) (all_ok _ _))), fun _ => rfl⟩)
  rw [in_lst (n := 0) (by omega) okD_int (nI_ok left), dIn_nI]
theorem law_loop {n : Nat} {needs : List (List Nat)} (h : NdOk n needs) {c0 c1 c2 c4 c5 c6 c7 c8 c9 c10 c11 c12 c17 c18 c19 c20 c21 c22 : Option D} : ∀ (f : Nat) (N : Nat) (left found : List Nat) (v16 : Option D), left.length ≤ f → f + 2 ≤ N → (∀ x ∈ left, x < n) → found.length + left.length ≤ 100 → ∃ w16 : Option D,
    whileN (mB (mVar 15)) lawWB N [c0, c1, c2, some (needsD needs), c4, c5, c6, c7, c8, c9, c10, c11, c12, some (.lst (left.map nI)), some (.lst (found.map nI)), some (.bl true), v16, c17, c18, c19, c20, c21, c22] = .nx [c0, c1, c2, some (needsD needs), c4, c5, c6, c7, c8, c9, c10, c11, c12, some (.lst ((lgo needs f left found).1.map nI)), some (.lst ((lgo needs f left found).2.map nI)), some (.bl false), w16, c17, c18, c19, c20, c21, c22] := by
  intro f
  induction f with
  | zero =>
    intro N left found v16 hf hN hl hll
    have e0 : left = [] := List.length_eq_zero_iff.mp (by omega)
    subst e0
    obtain ⟨m, rfl⟩ : ∃ m, N = m + 2 := ⟨N - 2, by omega⟩
    exact ⟨_, wh_step rfl (seq_nx (set_nx (law_bad h hl (by omega))) (seq_nx (set_nx (d := .bl false) rfl) (if_f rfl rfl))) (wh_end rfl)⟩
  | succ f ih =>
    intro N left found v16 hf hN hl hll
    obtain ⟨m, rfl⟩ : ∃ m, N = m + 2 := ⟨N - 2, by omega⟩
    have hbo := law_bad (c0 := c0) (c1 := c1) (c2 := c2) (c4 := c4) (c5 := c5) (c6 := c6) (c7 := c7) (c8 := c8) (c9 := c9) (c10 := c10) (c11 := c11) (c12 := c12) (c17 := c17) (c18 := c18) (c19 := c19) (c20 := c20) (c21 := c21) (c22 := c22) (c14 := some (.lst (found.map nI))) (c15 := some (.bl true)) (c16 := v16) h hl (by omega)
    cases hb : badL needs left with
    | nil =>
      rw [hb] at hbo
      refine ⟨some (.lst []), ?_⟩
      have e : lgo needs (f + 1) left found = (left, found) := by unfold lgo; rw [hb]
      rw [e]
      exact wh_step rfl (seq_nx (set_nx hbo) (seq_nx (set_nx (d := .bl false) rfl) (if_f rfl rfl))) (wh_end rfl)
    | cons b r =>
      rw [hb] at hbo
      have hbm := bad_mem hb
      have hel := List.length_erase_of_mem hbm
      have hpos : 0 < left.length := List.length_pos_of_mem hbm
      obtain ⟨w16, e⟩ := ih (m + 1) (left.erase b) (found ++ [b]) (some (.lst ((b :: r).map nI))) (by omega) (by omega) (fun x hx => hl x (List.mem_of_mem_erase hx)) (by rw [List.length_append, List.length_singleton]; omega)
      refine ⟨w16, ?_⟩
      have e2 : lgo needs (f + 1) left found = lgo needs f (left.erase b) (found ++ [b]) := by
        rw [lgo]; rw [hb]
      rw [e2]
      refine wh_step (ρ' := [c0, c1, c2, some (needsD needs), c4, c5, c6, c7, c8, c9, c10, c11, c12, some (.lst ((left.erase b).map nI)), some (.lst ((found ++ [b]).map nI)), some (.bl true), some (.lst ((b :: r).map nI)), c17, c18, c19, c20, c21, c22]) rfl (seq_nx (set_nx hbo) (seq_nx (set_nx (d := .bl true) (m2_ok rfl rfl ?_)) (if_t rfl (seq_nx (mut_append (xs := found.map nI) (y := nI b) rfl (cons_ok (m2_ok rfl rfl (ixL (l := b :: r) (k := 0) (by rw [List.length_cons]; omega))) rfl) (by rw [List.length_map]; omega)) ((mut_remove (l := left) (k := b) rfl (cons_ok (m2_ok rfl rfl (ixL (l := b :: r) (k := 0) (by rw [List.length_cons]; omega))) rfl) hbm).trans ?_))))) e
      · rw [dgt, decide_eq_true (by rw [List.length_map, List.length_cons]; omega)]
      · rw [show (found ++ [b]).map nI = found.map nI ++ [nI b] from List.map_append]; rfl
theorem scal_bl {m : G.Env → R D} {ρ : G.Env} {x : Bool} (h : m ρ = .ok (.bl x)) : mScal m ρ = .ok (.bl x) := by
  unfold mScal
  rw [h]
  rfl
theorem notV_ok {a : G.Env → R D} {ρ : G.Env} {x : Bool} (h : a ρ = .ok (.bl x)) : mNotV a ρ = .ok (.bl (!x)) := by
  unfold mNotV
  rw [h]
  rfl
theorem andV_tf {a b : G.Env → R D} {ρ : G.Env} {x y : Bool} (h1 : a ρ = .ok (.bl x)) (h2 : b ρ = .ok (.bl y)) : mAndV a b ρ = .ok (.bl (x && y)) := by
  cases x with
  | true => exact (andV_t h1 h2).trans rfl
  | false => exact (andV_f h1).trans rfl
theorem good_loop {n : Nat} {needs : List (List Nat)} (h : NdOk n needs) {c0 c1 c2 c4 c6 c7 c8 c9 c10 c11 c12 c13 c14 c15 c16 c17 c18 c19 c22 : Option D} : ∀ (R left : List Nat) (g : Bool) (v5 : Option D), R.Nodup → (∀ x ∈ R, x ∈ left) → (∀ x ∈ R, x < n) → ∃ (left' : List Nat) (w5 : Option D),
    loopD (stepD (gnName 5) lawGB) (R.map nI) [c0, c1, c2, some (needsD needs), c4, v5, c6, c7, c8, c9, c10, c11, c12, c13, c14, c15, c16, c17, c18, c19, some (.lst (left.map nI)), some (.bl g), c22] = .nx [c0, c1, c2, some (needsD needs), c4, w5, c6, c7, c8, c9, c10, c11, c12, c13, c14, c15, c16, c17, c18, c19, some (.lst (left'.map nI)), some (.bl (g && chk needs left R)), c22] := by
  intro R
  induction R with
  | nil => intro left g v5 _ _ _; exact ⟨left, v5, by rw [chk, Bool.and_true]; rfl⟩
  | cons b R ih =>
    intro left g v5 hnd hs hlt
    obtain ⟨hn1, hn2⟩ := List.nodup_cons.mp hnd
    have hb := hs b (.head _)
    obtain ⟨left', w5, e⟩ := ih (left.erase b) (g && !((needs.getD b []).all fun o => decide (o ∈ left))) (some (nI b)) hn2 (fun x hx => (List.mem_erase_of_ne (show x ≠ b from fun z => by rw [z] at hx; exact hn1 hx)).mpr (hs x (.tail _ hx))) fun x hx => hlt x (.tail _ hx)
    refine ⟨left', w5, ?_⟩
    rw [show chk needs left (b :: R) = (!((needs.getD b []).all fun o => decide (o ∈ left)) && chk needs (left.erase b) R) from rfl, ← Bool.and_assoc, ← e, List.map_cons]
    refine loop_cons (ρ1 := [c0, c1, c2, some (needsD needs), c4, some (nI b), c6, c7, c8, c9, c10, c11, c12, c13, c14, c15, c16, c17, c18, c19, some (.lst (left.map nI)), some (.bl g), c22]) rfl (seq_nx (set_nx (andV_tf rfl (notV_ok (scal_bl (call1_ok (mLc_map (emb := nI) (l := needs.getD b []) (r := fun o => [c0, c1, c2, some (needsD needs), c4, some (nI b), c6, c7, c8, c9, c10, c11, c12, c13, c14, c15, c16, c17, c18, c19, some (.lst (left.map nI)), some (.bl g), some (nI o)]) (f := fun o => .bl (decide (o ∈ left))) (sq_ok (m2_ok rfl rfl (need_ix (by rw [h.len]; exact hlt b (.head _)))) rfl) (by have := h.each b; omega) fun o _ => ⟨rfl, m2_ok rfl rfl ?_⟩) (all_ok _ _)))))) (mut_remove (l := left) (k := b) rfl (cons_ok rfl rfl) hb)) rfl
    rw [in_lst (n := 0) (by omega) okD_int (nI_ok left), dIn_nI]
theorem f_gr_lst {many n : Nat} {rows : List Row} {needs : List (List Nat)} (s : Sit many n rows needs) {lot : List Nat} (hl : Lot n lot) (d : D) (hd : m_is_tuple_of.fn [d, .int 2] = .ok (.bl false)) : m_is_need_greatest.fn [webD many rows, needsD needs, lotD lot, d] = .ok (.bl false) := by
  rw [fn_run rfl]
  show (b_is_need_greatest [some (webD many rows), some (needsD needs), some (lotD lot), some d, none, none, none, none]).res = _
  unfold b_is_need_greatest
  refine seq_res (drop_nx (callN_ok (cons_ok rfl (cons_ok rfl rfl)) rfl (f_needNeeds s.v s.no))) ?_
  refine seq_res (drop_nx (callN_ok (cons_ok rfl (cons_ok rfl rfl)) rfl (f_needLot s.hn s.nd.n10 hl))) ?_
  exact congrArg Out.res (seq_rt (if_t (or_t (not_ok (x := false) (b_ok (callN_ok (cons_ok rfl (cons_ok rfl rfl)) rfl hd)))) rfl))
/-! ### the law -/
theorem mLc_mapN {α : Type} {vs : List Nat} {mi : G.Env → R (List D)} {i : Nat} {me : G.Env → R D} {ρ : G.Env} {emb : α → D} {l : List α} (f : α → D) (hi : mi ρ = .ok (l.map emb)) (hl : l.length ≤ 16777216)
    (h : ∀ a ∈ l, me ((wipeD ρ vs).set i (some (emb a))) = .ok (f a)) : mLc vs mi (gnName i) mYes me ρ = .ok (.lst (l.map f)) :=
  mLc_map (fun a => (wipeD ρ vs).set i (some (emb a))) f hi hl fun a ha => ⟨rfl, h a ha⟩
theorem mLc_filN {α : Type} {vs : List Nat} {mi : G.Env → R (List D)} {i : Nat} {mt : G.Env → R Bool} {me : G.Env → R D} {ρ : G.Env} {emb : α → D} {l : List α} (p : α → Bool) (f : α → D) (hi : mi ρ = .ok (l.map emb)) (hl : l.length ≤ 16777216)
    (h : ∀ a ∈ l, mt ((wipeD ρ vs).set i (some (emb a))) = .ok (p a) ∧ me ((wipeD ρ vs).set i (some (emb a))) = .ok (f a)) : mLc vs mi (gnName i) mt me ρ = .ok (.lst ((l.filter p).map f)) :=
  mLc_fil (fun a => (wipeD ρ vs).set i (some (emb a))) p f hi hl fun a ha => ⟨rfl, (h a ha).1, fun _ => (h a ha).2⟩
def srt (l : List Nat) : List Nat := l.mergeSort fun a b => decide (a ≤ b)
theorem srt_perm (l : List Nat) : (srt l).Perm l := List.mergeSort_perm l _
theorem srt_pw {l : List Nat} (h : l.Nodup) : (srt l).Pairwise (· < ·) := by
  have h1 : (srt l).Pairwise fun a b => decide (a ≤ b) = true := List.pairwise_mergeSort (fun a b c h1 h2 => by have := of_decide_eq_true h1; have := of_decide_eq_true h2; exact decide_eq_true (by omega)) (fun a b => by
    rcases Nat.le_total a b with h | h
    · rw [decide_eq_true h]; rfl
    · rw [decide_eq_true h, Bool.or_true]) l
  have h2 : (srt l).Nodup := (srt_perm l).nodup_iff.mpr h
  exact (h1.and h2).imp fun {a b} z => by have := of_decide_eq_true z.1; have := z.2; omega
theorem sortI_srt {l : List Nat} (h : l.Nodup) : sortD (l.map nI) = (srt l).map nI := sortI_lot (srt_perm l).symm (srt_pw h)
def bothL (one other : List Nat) : List Nat := one ++ other.filter fun k => !decide (k ∈ one)
theorem both_mem {one other : List Nat} {x : Nat} : x ∈ bothL one other ↔ x ∈ one ∨ x ∈ other := by
  unfold bothL
  rw [List.mem_append, List.mem_filter]
  constructor
  · rintro (h | h)
    · exact .inl h
    · exact .inr h.1
  · rintro (h | h)
    · exact .inl h
    · by_cases q : x ∈ one
      · exact .inl q
      · exact .inr ⟨h, by rw [decide_eq_false q]; rfl⟩
theorem both_nodup {one other : List Nat} (h1 : one.Nodup) (h2 : other.Nodup) : (bothL one other).Nodup := by
  unfold bothL
  rw [List.nodup_append]
  refine ⟨h1, h2.sublist List.filter_sublist, fun a ha b hb e => ?_⟩
  subst e
  have := (List.mem_filter.mp hb).2
  rw [decide_eq_true ha] at this
  cases this
theorem both_kept {n : Nat} {needs : List (List Nat)} {one other : List Nat} (h1 : one ∈ keptL n needs) (h2 : other ∈ keptL n needs) : srt (bothL one other) ∈ keptL n needs := by
  obtain ⟨a1, a2⟩ := mem_kept.mp h1
  obtain ⟨b1, b2⟩ := mem_kept.mp h2
  have hm : ∀ x, x ∈ srt (bothL one other) ↔ x ∈ one ∨ x ∈ other := fun x => (srt_perm _).mem_iff.trans both_mem
  refine mem_kept.mpr ⟨⟨fun x hx => ?_, srt_pw (both_nodup a1.nodup b1.nodup)⟩, ?_⟩
  · rcases (hm x).mp hx with h | h
    · exact a1.1 x h
    · exact b1.1 x h
  · unfold keepsB at a2 b2 ⊢
    rw [List.all_eq_true] at a2 b2 ⊢
    intro k hk
    rw [List.all_eq_true]
    intro o ho
    refine decide_eq_true ((hm o).mpr ?_)
    rcases (hm k).mp hk with h | h
    · exact .inl (of_decide_eq_true (List.all_eq_true.mp (a2 k h) o ho))
    · exact .inr (of_decide_eq_true (List.all_eq_true.mp (b2 k h) o ho))
theorem common_kept {n : Nat} {needs : List (List Nat)} {one other : List Nat} (h1 : one ∈ keptL n needs) (h2 : other ∈ keptL n needs) : (one.filter fun k => decide (k ∈ other)) ∈ keptL n needs := by
  obtain ⟨a1, a2⟩ := mem_kept.mp h1
  obtain ⟨b1, b2⟩ := mem_kept.mp h2
  refine mem_kept.mpr ⟨a1.sub List.filter_sublist, ?_⟩
  unfold keepsB at a2 b2 ⊢
  rw [List.all_eq_true] at a2 b2 ⊢
  intro k hk
  obtain ⟨k1, k2⟩ := List.mem_filter.mp hk
  have k2 := of_decide_eq_true k2
  rw [List.all_eq_true]
  intro o ho
  exact decide_eq_true (List.mem_filter.mpr ⟨of_decide_eq_true (List.all_eq_true.mp (a2 k k1) o ho), List.all_eq_true.mp (b2 k k2) o ho⟩)
theorem lots_ok {X : List (List Nat)} : (X.map lotD).all (okD 1) = true := by
  rw [List.all_map, List.all_eq_true]
  exact fun l _ => nI_ok l
theorem dIn_lot (l : List Nat) (X : List (List Nat)) : dIn (lotD l) (X.map lotD) = decide (l ∈ X) := bool_ext (by
  rw [dIn_iff, decide_eq_true_iff, List.mem_map]
  constructor
  · rintro ⟨m, hm, e⟩
    exact (lot_inj e) ▸ hm
  · exact fun h => ⟨l, h, rfl⟩)
theorem lots_ix {X : List (List Nat)} {k : Nat} (h : k < X.length) : D.ix (.lst (X.map lotD)) (nI k) = .ok (lotD X[k]) := ix_lst (by
  rw [atI_nat (n := k) rfl (by rw [List.length_map]; exact h), List.getElem_map])
theorem lots_lenD (X : List (List Nat)) : D.len (.lst (X.map lotD)) = .ok (nI X.length) := by rw [len_lst, List.length_map]
end L
namespace L
open PySem L2 G
theorem lot_ok1 (l : List Nat) : okD 1 (lotD l) = true := nI_ok (n := 0) l
theorem m1_ok {f : D → R D} {a : G.Env → R D} {ρ : G.Env} {x : D} {r : R D} (h : a ρ = .ok x) (hf : f x = r) : m1 f a ρ = r := by
  unfold m1
  rw [h]
  exact hf
def lawT3 : G.Env → Out := (mSeq (mSet 19 (mCall (d1 D.toTup) (mCons (m1 D.revL (mVar 14)) mNil))) (mSeq (mSet 20 (mCall (d1 D.toLst) (mCons (mVar 12) mNil))) (mSeq (mSet 21 (mC (.bl true))) (mSeq (mFor (mSq D.seq (mVar 19)) (gnName 5) (mSeq (mSet 21 (mAndV (mVar 21) (mNotV (mScal (mCall (d1 D.all) (mCons (mLc [22] (mSq D.seq (m2 D.ix (mVar 3) (mVar 5))) (gnName 22) mYes (m2 D.isIn (mVar 22) (mVar 20))) mNil)))))) (mMut "list" 20 dRemove (mCons (mVar 5) mNil) kDrop))) (mSeq (mIf (mNot (mB (mCallN 2 m__law_flag.fn (mCons (mCallN 4 m_is_need_greatest.fn (mCons (mVar 1) (mCons (mVar 3) (mCons (mVar 12) (mCons (mTup (mCons (m2 D.ix (mVar 17) (mC (.int 0))) (mCons (mVar 19) mNil))) mNil))))) (mCons (mVar 21) mNil))))) (mRet (mC (.bl false))) mNext) (mSeq (mIf (mNot (mB (mCallN 2 m__law_flag.fn (mCons (mCallN 4 m_is_need_greatest.fn (mCons (mVar 1) (mCons (mVar 3) (mCons (mVar 12) (mCons (mTup (mCons (mTup mNil) (mCons (mCall (d1 D.toTup) (mCons (mVar 14) mNil)) mNil))) mNil))))) (mCons (m2 D.eq (m2 D.ix (mVar 17) (mC (.int 0))) (mTup mNil)) mNil))))) (mRet (mC (.bl false))) mNext) (mRet (mAndV (m2 D.is (mCallN 4 m_is_need_greatest.fn (mCons (mVar 1) (mCons (mVar 3) (mCons (mVar 12) (mCons (mLst (mCons (m2 D.ix (mVar 17) (mC (.int 0))) (mCons (m2 D.ix (mVar 17) (mC (.int 1))) mNil))) mNil))))) (mC (.bl false))) (m2 D.is (mCallN 4 m_is_need_greatest.fn (mCons (mVar 1) (mCons (mVar 3) (mCons (mVar 12) (mCons (mC .non) mNil))))) (mC (.bl false)))))))))))
def lawT2 : G.Env → Out := (mSeq (mSet 18 (mLc [20] (mSq D.seq (mVar 6)) (gnName 20) (mB (mCall (d1 D.all) (mCons (mLc [5] (mSq D.seq (mVar 20)) (gnName 5) mYes (m2 D.isIn (mVar 5) (mVar 12))) mNil))) (mVar 20))) (mSeq (mIf (mOr (mB (m2 D.notIn (m2 D.ix (mVar 17) (mC (.int 0))) (mVar 18))) (mNot (mB (mCall (d1 D.all) (mCons (mLc [20] (mSq D.seq (mVar 18)) (gnName 20) mYes (mCall (d1 D.all) (mCons (mLc [5] (mSq D.seq (mVar 20)) (gnName 5) mYes (m2 D.isIn (mVar 5) (m2 D.ix (mVar 17) (mC (.int 0))))) mNil))) mNil))))) (mRet (mC (.bl false))) mNext) (mSeq (mIf (mOr (mB (m2 D.ne (mCallN 3 m_need_greatest.fn (mCons (mVar 1) (mCons (mVar 3) (mCons (mVar 12) mNil)))) (mVar 17))) (mB (m2 D.isnt (mCallN 4 m_is_need_greatest.fn (mCons (mVar 1) (mCons (mVar 3) (mCons (mVar 12) (mCons (mVar 17) mNil))))) (mC (.bl true))))) (mRet (mC (.bl false))) mNext) lawT3)))
def lawT1 : G.Env → Out := (mSeq (mIf (mOr (mNot (mB (mCallN 2 m__law_flag.fn (mCons (mCallN 3 m_is_need_kept.fn (mCons (mVar 1) (mCons (mVar 3) (mCons (mVar 12) mNil)))) (mCons (m2 D.isIn (mVar 12) (mVar 6)) mNil))))) (mB (m2 D.isnt (mCallN 3 m_is_need_kept.fn (mCons (mVar 1) (mCons (mVar 3) (mCons (mCall (d1 D.toLst) (mCons (mVar 12) mNil)) mNil)))) (mC (.bl false))))) (mRet (mC (.bl false))) mNext) (mSeq (mSet 13 (mCall (d1 D.toLst) (mCons (mVar 12) mNil))) (mSeq (mSet 14 (mLst mNil)) (mSeq (mSet 15 (mC (.bl true))) (mSeq (mWhile (mB (mVar 15)) (mSeq (mSet 16 (mScalL (mLc [5] (mSq D.seq (mVar 13)) (gnName 5) (mNot (mB (mCall (d1 D.all) (mCons (mLc [22] (mSq D.seq (m2 D.ix (mVar 3) (mVar 5))) (gnName 22) mYes (m2 D.isIn (mVar 22) (mVar 13))) mNil)))) (mVar 5)))) (mSeq (mSet 15 (m2 D.gt (mCall (d1 D.len) (mCons (mVar 16) mNil)) (mC (.int 0)))) (mIf (mB (mVar 15)) (mSeq (mMut "list" 14 dAppend (mCons (m2 D.ix (mVar 16) (mC (.int 0))) mNil) kDrop) (mMut "list" 13 dRemove (mCons (m2 D.ix (mVar 16) (mC (.int 0))) mNil) kDrop)) mNext)))) (mSeq (mSet 17 (mTup (mCons (mCall (d1 D.toTup) (mCons (mVar 13) mNil)) (mCons (mCall (d1 D.toTup) (mCons (mVar 14) mNil)) mNil)))) lawT2))))))
theorem law_C {ns : List Int} {many n : Nat} {rows : List Row} {needs : List (List Nat)} {dg : List Nat} {one other lot L Rm : List Nat} {ins : List (List Nat)} (s : Sit many n rows needs) (hnn : rows.length = n) (hlot : Lot n lot) (hLl : L.length ≤ n) (hkl : (keptL n needs).length ≤ 1024) (hTn : Rm.reverse.Nodup) (hTs : ∀ x ∈ Rm.reverse, x ∈ lot) (hTlt : ∀ x ∈ Rm.reverse, x < n) (G2 : m_is_need_greatest.fn [webD many rows, needsD needs, lotD lot, .tup [lotD L, lotD Rm.reverse]] = .ok (.bl (chk needs lot Rm.reverse))) (G3 : m_is_need_greatest.fn [webD many rows, needsD needs, lotD lot, .tup [lotD [], lotD Rm]] = .ok (.bl (decide (L = [])))) (G4 : m_is_need_greatest.fn [webD many rows, needsD needs, lotD lot, .lst [lotD L, lotD Rm]] = .ok (.bl false)) (G5 : m_is_need_greatest.fn [webD many rows, needsD needs, lotD lot, .non] = .ok (.bl false)) : ∀ v5 w16 : Option D, (lawT3 [some (.scr (ns.map D.int)), some (webD many rows), some (nI n), some (needsD needs), some (.lst ((lotsL n).map lotD)), v5, some (.lst ((keptL n needs).map lotD)), some (.lst (dg.map nI)), some (lotD one), some (lotD other), some (lotD (srt (bothL one other))), some (lotD (one.filter fun k => decide (k ∈ other))), some (lotD lot), some (.lst (L.map nI)), some (.lst (Rm.map nI)), some (.bl false), w16, some (.tup [lotD L, lotD Rm]), some (.lst (ins.map lotD)), none, none, none, none]).res = .ok (.bl true) := by
  intro v5 w16
  unfold lawT3
  refine seq_res (ρ' := [some (.scr (ns.map D.int)), some (webD many rows), some (nI n), some (needsD needs), some (.lst ((lotsL n).map lotD)), v5, some (.lst ((keptL n needs).map lotD)), some (.lst (dg.map nI)), some (lotD one), some (lotD other), some (lotD (srt (bothL one other))), some (lotD (one.filter fun k => decide (k ∈ other))), some (lotD lot), some (.lst (L.map nI)), some (.lst (Rm.map nI)), some (.bl false), w16, some (.tup [lotD L, lotD Rm]), some (.lst (ins.map lotD)), some (lotD Rm.reverse), none, none, none]) (set_nx (d := lotD Rm.reverse) (call1_ok (m1_ok rfl rfl) (by rw [lotD, List.map_reverse]; rfl))) ?_
  refine seq_res (ρ' := [some (.scr (ns.map D.int)), some (webD many rows), some (nI n), some (needsD needs), some (.lst ((lotsL n).map lotD)), v5, some (.lst ((keptL n needs).map lotD)), some (.lst (dg.map nI)), some (lotD one), some (lotD other), some (lotD (srt (bothL one other))), some (lotD (one.filter fun k => decide (k ∈ other))), some (lotD lot), some (.lst (L.map nI)), some (.lst (Rm.map nI)), some (.bl false), w16, some (.tup [lotD L, lotD Rm]), some (.lst (ins.map lotD)), some (lotD Rm.reverse), some (.lst (lot.map nI)), none, none]) (set_nx (d := .lst (lot.map nI)) (call1_ok rfl rfl)) ?_
  refine seq_res (ρ' := [some (.scr (ns.map D.int)), some (webD many rows), some (nI n), some (needsD needs), some (.lst ((lotsL n).map lotD)), v5, some (.lst ((keptL n needs).map lotD)), some (.lst (dg.map nI)), some (lotD one), some (lotD other), some (lotD (srt (bothL one other))), some (lotD (one.filter fun k => decide (k ∈ other))), some (lotD lot), some (.lst (L.map nI)), some (.lst (Rm.map nI)), some (.bl false), w16, some (.tup [lotD L, lotD Rm]), some (.lst (ins.map lotD)), some (lotD Rm.reverse), some (.lst (lot.map nI)), some (.bl true), none]) (set_nx (d := .bl true) rfl) ?_
  obtain ⟨lf, u5, egood⟩ := good_loop s.nd (c0 := some (.scr (ns.map D.int))) (c1 := some (webD many rows)) (c2 := some (nI n)) (c4 := some (.lst ((lotsL n).map lotD))) (c6 := some (.lst ((keptL n needs).map lotD))) (c7 := some (.lst (dg.map nI))) (c8 := some (lotD one)) (c9 := some (lotD other)) (c10 := some (lotD (srt (bothL one other)))) (c11 := some (lotD (one.filter fun k => decide (k ∈ other)))) (c12 := some (lotD lot)) (c13 := some (.lst (L.map nI))) (c14 := some (.lst (Rm.map nI))) (c15 := some (.bl false)) (c16 := w16) (c17 := some (.tup [lotD L, lotD Rm])) (c18 := some (.lst (ins.map lotD))) (c19 := some (lotD Rm.reverse)) (c22 := none) Rm.reverse lot true v5 hTn hTs hTlt
  refine seq_res (ρ' := [some (.scr (ns.map D.int)), some (webD many rows), some (nI n), some (needsD needs), some (.lst ((lotsL n).map lotD)), u5, some (.lst ((keptL n needs).map lotD)), some (.lst (dg.map nI)), some (lotD one), some (lotD other), some (lotD (srt (bothL one other))), some (lotD (one.filter fun k => decide (k ∈ other))), some (lotD lot), some (.lst (L.map nI)), some (.lst (Rm.map nI)), some (.bl false), w16, some (.tup [lotD L, lotD Rm]), some (.lst (ins.map lotD)), some (lotD Rm.reverse), some (.lst (lf.map nI)), some (.bl (true && chk needs lot Rm.reverse)), none]) (for_nx (sq_ok rfl rfl) egood) ?_
  have hL0 : D.eq (lotD L) (.tup []) = .ok (.bl (decide (L = []))) := by
    rw [show D.tup [] = lotD [] from rfl, eq_ok (n := 1) (by omega) (lot_ok1 L) (lot_ok1 [])]
    exact congrArg (fun z => G.R.ok (D.bl z)) (bool_ext (by rw [dq_iff, decide_eq_true_iff]; exact ⟨fun q => lot_inj q, fun q => by rw [q]⟩))
  refine seq_res (ρ' := [some (.scr (ns.map D.int)), some (webD many rows), some (nI n), some (needsD needs), some (.lst ((lotsL n).map lotD)), u5, some (.lst ((keptL n needs).map lotD)), some (.lst (dg.map nI)), some (lotD one), some (lotD other), some (lotD (srt (bothL one other))), some (lotD (one.filter fun k => decide (k ∈ other))), some (lotD lot), some (.lst (L.map nI)), some (.lst (Rm.map nI)), some (.bl false), w16, some (.tup [lotD L, lotD Rm]), some (.lst (ins.map lotD)), some (lotD Rm.reverse), some (.lst (lf.map nI)), some (.bl (true && chk needs lot Rm.reverse)), none]) (if_f (not_ok (b_ok (callN_ok (cons_ok (callN_ok (cons_ok rfl (cons_ok rfl (cons_ok rfl (cons_ok (mTup_ok (cons_ok (m2_ok rfl rfl rfl) (cons_ok rfl rfl)) (by show 2 ≤ 16777216; omega)) rfl)))) rfl G2) (cons_ok rfl rfl)) rfl (f_flag _ _ (by rw [Bool.true_and]))))) rfl) ?_
  have e1 : (mCallN 4 m_is_need_greatest.fn (mCons (mVar 1) (mCons (mVar 3) (mCons (mVar 12) (mCons (mTup (mCons (mTup mNil) (mCons (mCall (d1 D.toTup) (mCons (mVar 14) mNil)) mNil))) mNil))))) [some (.scr (ns.map D.int)), some (webD many rows), some (nI n), some (needsD needs), some (.lst ((lotsL n).map lotD)), u5, some (.lst ((keptL n needs).map lotD)), some (.lst (dg.map nI)), some (lotD one), some (lotD other), some (lotD (srt (bothL one other))), some (lotD (one.filter fun k => decide (k ∈ other))), some (lotD lot), some (.lst (L.map nI)), some (.lst (Rm.map nI)), some (.bl false), w16, some (.tup [lotD L, lotD Rm]), some (.lst (ins.map lotD)), some (lotD Rm.reverse), some (.lst (lf.map nI)), some (.bl (true && chk needs lot Rm.reverse)), none] = .ok (.bl (decide (L = []))) := by
    refine callN_ok (ds := [webD many rows, needsD needs, lotD lot, .tup [lotD [], lotD Rm]]) ?_ rfl G3
    refine cons_ok rfl (cons_ok rfl (cons_ok rfl (cons_ok ?_ rfl)))
    exact mTup_ok (ds := [lotD [], lotD Rm]) (cons_ok (mTup_ok (ds := []) rfl (Nat.zero_le _)) (cons_ok (call1_ok rfl rfl) rfl)) (by show 2 ≤ 16777216; omega)
  have e2 : (m2 D.eq (m2 D.ix (mVar 17) (mC (.int 0))) (mTup mNil)) [some (.scr (ns.map D.int)), some (webD many rows), some (nI n), some (needsD needs), some (.lst ((lotsL n).map lotD)), u5, some (.lst ((keptL n needs).map lotD)), some (.lst (dg.map nI)), some (lotD one), some (lotD other), some (lotD (srt (bothL one other))), some (lotD (one.filter fun k => decide (k ∈ other))), some (lotD lot), some (.lst (L.map nI)), some (.lst (Rm.map nI)), some (.bl false), w16, some (.tup [lotD L, lotD Rm]), some (.lst (ins.map lotD)), some (lotD Rm.reverse), some (.lst (lf.map nI)), some (.bl (true && chk needs lot Rm.reverse)), none] = .ok (.bl (decide (L = []))) := m2_ok (m2_ok rfl rfl rfl) (mTup_ok (ds := []) rfl (Nat.zero_le _)) hL0
  refine seq_res (ρ' := [some (.scr (ns.map D.int)), some (webD many rows), some (nI n), some (needsD needs), some (.lst ((lotsL n).map lotD)), u5, some (.lst ((keptL n needs).map lotD)), some (.lst (dg.map nI)), some (lotD one), some (lotD other), some (lotD (srt (bothL one other))), some (lotD (one.filter fun k => decide (k ∈ other))), some (lotD lot), some (.lst (L.map nI)), some (.lst (Rm.map nI)), some (.bl false), w16, some (.tup [lotD L, lotD Rm]), some (.lst (ins.map lotD)), some (lotD Rm.reverse), some (.lst (lf.map nI)), some (.bl (true && chk needs lot Rm.reverse)), none]) (if_f (not_ok (x := true) (b_ok (callN_ok (cons_ok e1 (cons_ok e2 rfl)) rfl (f_flag _ _ rfl)))) rfl) ?_
  exact ret_res (andV_t (m2_ok (callN_ok (cons_ok rfl (cons_ok rfl (cons_ok rfl (cons_ok (mLst_ok (cons_ok (m2_ok rfl rfl rfl) (cons_ok (m2_ok rfl rfl rfl) rfl)) (by show 2 ≤ 16777216; omega)) rfl)))) rfl G4) rfl rfl) (m2_ok (callN_ok (cons_ok rfl (cons_ok rfl (cons_ok rfl (cons_ok rfl rfl)))) rfl G5) rfl rfl))
theorem law_B {ns : List Int} {many n : Nat} {rows : List Row} {needs : List (List Nat)} {dg : List Nat} {one other lot L Rm : List Nat} {ins : List (List Nat)} (s : Sit many n rows needs) (hnn : rows.length = n) (hlot : Lot n lot) (hLl : L.length ≤ n) (hkl : (keptL n needs).length ≤ 1024) (hTn : Rm.reverse.Nodup) (hTs : ∀ x ∈ Rm.reverse, x ∈ lot) (hTlt : ∀ x ∈ Rm.reverse, x < n) (G1 : m_is_need_greatest.fn [webD many rows, needsD needs, lotD lot, .tup [lotD L, lotD Rm]] = .ok (.bl true)) (G2 : m_is_need_greatest.fn [webD many rows, needsD needs, lotD lot, .tup [lotD L, lotD Rm.reverse]] = .ok (.bl (chk needs lot Rm.reverse))) (G3 : m_is_need_greatest.fn [webD many rows, needsD needs, lotD lot, .tup [lotD [], lotD Rm]] = .ok (.bl (decide (L = [])))) (G4 : m_is_need_greatest.fn [webD many rows, needsD needs, lotD lot, .lst [lotD L, lotD Rm]] = .ok (.bl false)) (G5 : m_is_need_greatest.fn [webD many rows, needsD needs, lotD lot, .non] = .ok (.bl false)) (hgr : m_need_greatest.fn [webD many rows, needsD needs, lotD lot] = .ok (.tup [lotD L, lotD Rm])) (hinl : ∀ x, D.isIn (nI x) (lotD lot) = .ok (.bl (decide (x ∈ lot)))) (hinL : ∀ x, D.isIn (nI x) (lotD L) = .ok (.bl (decide (x ∈ L)))) (eins : ins = (keptL n needs).filter fun l => l.all fun x => decide (x ∈ lot)) (hinsl : ins.length ≤ 1024) (hins : ∀ l ∈ ins, l.length ≤ 10 ∧ (l.all fun x => decide (x ∈ L)) = true) (hLi : L ∈ ins) : ∀ v5 w16 : Option D, (lawT2 [some (.scr (ns.map D.int)), some (webD many rows), some (nI n), some (needsD needs), some (.lst ((lotsL n).map lotD)), v5, some (.lst ((keptL n needs).map lotD)), some (.lst (dg.map nI)), some (lotD one), some (lotD other), some (lotD (srt (bothL one other))), some (lotD (one.filter fun k => decide (k ∈ other))), some (lotD lot), some (.lst (L.map nI)), some (.lst (Rm.map nI)), some (.bl false), w16, some (.tup [lotD L, lotD Rm]), none, none, none, none, none]).res = .ok (.bl true) := by
  intro v5 w16
  have h10 := s.nd.n10
  unfold lawT2
  refine seq_res (ρ' := [some (.scr (ns.map D.int)), some (webD many rows), some (nI n), some (needsD needs), some (.lst ((lotsL n).map lotD)), v5, some (.lst ((keptL n needs).map lotD)), some (.lst (dg.map nI)), some (lotD one), some (lotD other), some (lotD (srt (bothL one other))), some (lotD (one.filter fun k => decide (k ∈ other))), some (lotD lot), some (.lst (L.map nI)), some (.lst (Rm.map nI)), some (.bl false), w16, some (.tup [lotD L, lotD Rm]), some (.lst (ins.map lotD)), none, none, none, none]) (set_nx (d := .lst (ins.map lotD)) ((mLc_filN (emb := lotD) (l := keptL n needs) (fun l => l.all fun x => decide (x ∈ lot)) lotD (sq_ok rfl rfl) (by omega) fun l hl => ⟨b_ok (call1_ok (mLc_mapN (emb := nI) (l := l) (fun x => .bl (decide (x ∈ lot))) (sq_ok rfl rfl) (by have := (mem_kept.mp hl).1.length; omega) fun x _ => m2_ok rfl rfl (hinl x)) (all_ok _ _)), rfl⟩).trans (by rw [eins]))) ?_
  have hnLi : D.notIn (lotD L) (.lst (ins.map lotD)) = .ok (.bl false) := by
    rw [notIn_lst (n := 1) (by omega) (lot_ok1 L) lots_ok, dIn_lot, decide_eq_true hLi]; rfl
  refine seq_res (ρ' := [some (.scr (ns.map D.int)), some (webD many rows), some (nI n), some (needsD needs), some (.lst ((lotsL n).map lotD)), v5, some (.lst ((keptL n needs).map lotD)), some (.lst (dg.map nI)), some (lotD one), some (lotD other), some (lotD (srt (bothL one other))), some (lotD (one.filter fun k => decide (k ∈ other))), some (lotD lot), some (.lst (L.map nI)), some (.lst (Rm.map nI)), some (.bl false), w16, some (.tup [lotD L, lotD Rm]), some (.lst (ins.map lotD)), none, none, none, none]) (if_f (or_tf (x := false) (y := false) (b_ok (m2_ok (m2_ok rfl rfl rfl) rfl hnLi)) (not_ok (x := true) (b_ok (call1_ok (mLc_mapN (emb := lotD) (l := ins) (fun _ => .bl true) (sq_ok rfl rfl) (by omega) fun l hl => call1_ok (mLc_mapN (emb := nI) (l := l) (fun x => .bl (decide (x ∈ L))) (sq_ok rfl rfl) (by have := (hins l hl).1; omega) fun x _ => m2_ok rfl (m2_ok rfl rfl rfl) (hinL x)) ((all_ok _ _).trans (by rw [(hins l hl).2]))) ((all_ok ins fun _ => true).trans (by rw [List.all_eq_true.mpr fun _ _ => rfl])))))) rfl) ?_
  have hokd : okD 2 (.tup [lotD L, lotD Rm]) = true := by
    show ([lotD L, lotD Rm].all (okD 1)) = true
    rw [List.all_cons, List.all_cons, lot_ok1, lot_ok1]; rfl
  refine seq_res (ρ' := [some (.scr (ns.map D.int)), some (webD many rows), some (nI n), some (needsD needs), some (.lst ((lotsL n).map lotD)), v5, some (.lst ((keptL n needs).map lotD)), some (.lst (dg.map nI)), some (lotD one), some (lotD other), some (lotD (srt (bothL one other))), some (lotD (one.filter fun k => decide (k ∈ other))), some (lotD lot), some (.lst (L.map nI)), some (.lst (Rm.map nI)), some (.bl false), w16, some (.tup [lotD L, lotD Rm]), some (.lst (ins.map lotD)), none, none, none, none]) (if_f (or_tf (x := false) (y := false) (b_ok (m2_ok (callN_ok (cons_ok rfl (cons_ok rfl (cons_ok rfl rfl))) rfl hgr) rfl ((ne_ok (n := 2) (by omega) hokd hokd).trans (by rw [dq_iff.mpr rfl]; rfl)))) (b_ok (m2_ok (callN_ok (cons_ok rfl (cons_ok rfl (cons_ok rfl (cons_ok rfl rfl)))) rfl G1) rfl rfl))) rfl) ?_
  exact law_C s hnn hlot hLl hkl hTn hTs hTlt G2 G3 G4 G5 v5 w16
theorem law_A {ns : List Int} {many n : Nat} {rows : List Row} {needs : List (List Nat)} {dg : List Nat} {one other lot L Rm : List Nat} {ins : List (List Nat)} (s : Sit many n rows needs) (hnn : rows.length = n) (hlot : Lot n lot) (hLl : L.length ≤ n) (hkl : (keptL n needs).length ≤ 1024) (hTn : Rm.reverse.Nodup) (hTs : ∀ x ∈ Rm.reverse, x ∈ lot) (hTlt : ∀ x ∈ Rm.reverse, x < n) (G1 : m_is_need_greatest.fn [webD many rows, needsD needs, lotD lot, .tup [lotD L, lotD Rm]] = .ok (.bl true)) (G2 : m_is_need_greatest.fn [webD many rows, needsD needs, lotD lot, .tup [lotD L, lotD Rm.reverse]] = .ok (.bl (chk needs lot Rm.reverse))) (G3 : m_is_need_greatest.fn [webD many rows, needsD needs, lotD lot, .tup [lotD [], lotD Rm]] = .ok (.bl (decide (L = [])))) (G4 : m_is_need_greatest.fn [webD many rows, needsD needs, lotD lot, .lst [lotD L, lotD Rm]] = .ok (.bl false)) (G5 : m_is_need_greatest.fn [webD many rows, needsD needs, lotD lot, .non] = .ok (.bl false)) (hgr : m_need_greatest.fn [webD many rows, needsD needs, lotD lot] = .ok (.tup [lotD L, lotD Rm])) (hinl : ∀ x, D.isIn (nI x) (lotD lot) = .ok (.bl (decide (x ∈ lot)))) (hinL : ∀ x, D.isIn (nI x) (lotD L) = .ok (.bl (decide (x ∈ L)))) (eins : ins = (keptL n needs).filter fun l => l.all fun x => decide (x ∈ lot)) (hinsl : ins.length ≤ 1024) (hins : ∀ l ∈ ins, l.length ≤ 10 ∧ (l.all fun x => decide (x ∈ L)) = true) (hLi : L ∈ ins) (hik : D.isIn (lotD lot) (.lst ((keptL n needs).map lotD)) = .ok (.bl (keepsB needs lot))) (g1 : (lgo needs lot.length lot []).2 = Rm) (eL : L = (lgo needs lot.length lot []).1) : ∀ v5 : Option D, (lawT1 [some (.scr (ns.map D.int)), some (webD many rows), some (nI n), some (needsD needs), some (.lst ((lotsL n).map lotD)), v5, some (.lst ((keptL n needs).map lotD)), some (.lst (dg.map nI)), some (lotD one), some (lotD other), some (lotD (srt (bothL one other))), some (lotD (one.filter fun k => decide (k ∈ other))), some (lotD lot), none, none, none, none, none, none, none, none, none, none]).res = .ok (.bl true) := by
  intro v5
  have h10 := s.nd.n10
  have hlotl := hlot.length
  unfold lawT1
  refine seq_res (ρ' := [some (.scr (ns.map D.int)), some (webD many rows), some (nI n), some (needsD needs), some (.lst ((lotsL n).map lotD)), v5, some (.lst ((keptL n needs).map lotD)), some (.lst (dg.map nI)), some (lotD one), some (lotD other), some (lotD (srt (bothL one other))), some (lotD (one.filter fun k => decide (k ∈ other))), some (lotD lot), none, none, none, none, none, none, none, none, none, none]) (if_f (or_tf (x := false) (y := false) (not_ok (b_ok (callN_ok (cons_ok (callN_ok (cons_ok rfl (cons_ok rfl (cons_ok rfl rfl))) rfl (f_isNeedKept s hlot)) (cons_ok (m2_ok rfl rfl hik) rfl)) rfl (f_flag _ _ rfl)))) (b_ok (m2_ok (callN_ok (cons_ok rfl (cons_ok rfl (cons_ok (call1_ok rfl rfl) rfl))) rfl (f_isNeedKept_lst s _)) rfl rfl))) rfl) ?_
  refine seq_res (ρ' := [some (.scr (ns.map D.int)), some (webD many rows), some (nI n), some (needsD needs), some (.lst ((lotsL n).map lotD)), v5, some (.lst ((keptL n needs).map lotD)), some (.lst (dg.map nI)), some (lotD one), some (lotD other), some (lotD (srt (bothL one other))), some (lotD (one.filter fun k => decide (k ∈ other))), some (lotD lot), some (.lst (lot.map nI)), none, none, none, none, none, none, none, none, none]) (set_nx (d := .lst (lot.map nI)) (call1_ok rfl rfl)) ?_
  refine seq_res (ρ' := [some (.scr (ns.map D.int)), some (webD many rows), some (nI n), some (needsD needs), some (.lst ((lotsL n).map lotD)), v5, some (.lst ((keptL n needs).map lotD)), some (.lst (dg.map nI)), some (lotD one), some (lotD other), some (lotD (srt (bothL one other))), some (lotD (one.filter fun k => decide (k ∈ other))), some (lotD lot), some (.lst (lot.map nI)), some (.lst ([].map nI)), none, none, none, none, none, none, none, none]) (set_nx (d := .lst ([].map nI)) (mLst_ok rfl (by show 0 ≤ 16777216; omega))) ?_
  refine seq_res (ρ' := [some (.scr (ns.map D.int)), some (webD many rows), some (nI n), some (needsD needs), some (.lst ((lotsL n).map lotD)), v5, some (.lst ((keptL n needs).map lotD)), some (.lst (dg.map nI)), some (lotD one), some (lotD other), some (lotD (srt (bothL one other))), some (lotD (one.filter fun k => decide (k ∈ other))), some (lotD lot), some (.lst (lot.map nI)), some (.lst ([].map nI)), some (.bl true), none, none, none, none, none, none, none]) (set_nx (d := .bl true) rfl) ?_
  obtain ⟨w16, eloop⟩ := law_loop s.nd (c0 := some (.scr (ns.map D.int))) (c1 := some (webD many rows)) (c2 := some (nI n)) (c4 := some (.lst ((lotsL n).map lotD))) (c5 := v5) (c6 := some (.lst ((keptL n needs).map lotD))) (c7 := some (.lst (dg.map nI))) (c8 := some (lotD one)) (c9 := some (lotD other)) (c10 := some (lotD (srt (bothL one other)))) (c11 := some (lotD (one.filter fun k => decide (k ∈ other)))) (c12 := some (lotD lot)) (c17 := none) (c18 := none) (c19 := none) (c20 := none) (c21 := none) (c22 := none) lot.length bigN lot [] none (Nat.le_refl _) (by show lot.length + 2 ≤ 1000000000; omega) hlot.1 (by rw [List.length_nil]; omega)
  rw [g1, ← eL] at eloop
  refine seq_res (ρ' := [some (.scr (ns.map D.int)), some (webD many rows), some (nI n), some (needsD needs), some (.lst ((lotsL n).map lotD)), v5, some (.lst ((keptL n needs).map lotD)), some (.lst (dg.map nI)), some (lotD one), some (lotD other), some (lotD (srt (bothL one other))), some (lotD (one.filter fun k => decide (k ∈ other))), some (lotD lot), some (.lst (L.map nI)), some (.lst (Rm.map nI)), some (.bl false), w16, none, none, none, none, none, none]) eloop ?_
  refine seq_res (ρ' := [some (.scr (ns.map D.int)), some (webD many rows), some (nI n), some (needsD needs), some (.lst ((lotsL n).map lotD)), v5, some (.lst ((keptL n needs).map lotD)), some (.lst (dg.map nI)), some (lotD one), some (lotD other), some (lotD (srt (bothL one other))), some (lotD (one.filter fun k => decide (k ∈ other))), some (lotD lot), some (.lst (L.map nI)), some (.lst (Rm.map nI)), some (.bl false), w16, some (.tup [lotD L, lotD Rm]), none, none, none, none, none]) (set_nx (d := .tup [lotD L, lotD Rm]) (mTup_ok (cons_ok (call1_ok rfl rfl) (cons_ok (call1_ok rfl rfl) rfl)) (by show 2 ≤ 16777216; omega))) ?_
  exact law_B s hnn hlot hLl hkl hTn hTs hTlt G1 G2 G3 G4 G5 hgr hinl hinL eins hinsl hins hLi v5 w16
theorem law_true (ns : List Int) (h : ns.length ≤ 63) : m_law.fn [.scr (ns.map D.int)] = .ok (.bl true) := by
  obtain ⟨i0, a0⟩ := f_at ns 0 h (by omega)
  obtain ⟨i1, a1⟩ := f_at ns 1 h (by omega)
  obtain ⟨i2, a2⟩ := f_at ns 2 h (by omega)
  obtain ⟨i3, a3⟩ := f_at ns 3 h (by omega)
  obtain ⟨i4, a4⟩ := f_at ns 4 h (by omega)
  obtain ⟨many, rows, ew, hv⟩ := f_web i0 i1
  obtain ⟨needs, en, hn2, hn3⟩ := f_needs i2 many rows (by have := hv.r10; omega)
  have s : Sit many rows.length rows needs := Sit.mk' hv ⟨hn2, hn3⟩
  generalize hnn : rows.length = n at s
  have h10 := s.nd.n10
  obtain ⟨dg, ed, hd, _⟩ := f_rowN i4 8 1000 (by omega) (by omega) (by omega)
  obtain ⟨lot0, elot, hlot0⟩ := f_lot i3 n (by omega)
  have hkl := kept_len h10 needs
  have hk0 : [] ∈ keptL n needs := mem_kept.mpr ⟨⟨(fun _ h => by cases h), List.Pairwise.nil⟩, rfl⟩
  have hkp : 0 < (keptL n needs).length := List.length_pos_of_mem hk0
  obtain ⟨t, ht⟩ := lotsL_head n
  have hj0 : dg[0]'(by omega) % (keptL n needs).length < (keptL n needs).length := Nat.mod_lt _ hkp
  have hj1 : dg[1]'(by omega) % (keptL n needs).length < (keptL n needs).length := Nat.mod_lt _ hkp
  obtain ⟨one, eone⟩ : ∃ one, one = (keptL n needs)[dg[0]'(by omega) % (keptL n needs).length] := ⟨_, rfl⟩
  obtain ⟨other, eother⟩ : ∃ other, other = (keptL n needs)[dg[1]'(by omega) % (keptL n needs).length] := ⟨_, rfl⟩
  have h1k : one ∈ keptL n needs := by rw [eone]; exact List.getElem_mem _
  have h2k : other ∈ keptL n needs := by rw [eother]; exact List.getElem_mem _
  have l1 := (mem_kept.mp h1k).1
  have l2 := (mem_kept.mp h2k).1
  have l1l := l1.length
  have l2l := l2.length
  -- the lot
  obtain ⟨lot, hlot, elot2⟩ : ∃ lot, Lot n lot ∧ (lot = if dg[2]'(by omega) < 500 then List.range n else lot0) := by
    by_cases q : dg[2]'(by omega) < 500
    · exact ⟨List.range n, by have := fil_lot n fun _ => true; rwa [List.filter_eq_self.mpr fun _ _ => rfl] at this, by rw [if_pos q]⟩
    · exact ⟨lot0, hlot0, by rw [if_neg q]⟩
  have hlotl := hlot.length
  obtain ⟨Rm, g1, g2, g3, g4, g5⟩ := lgo_spec needs lot.length lot [] hlot.nodup
  rw [List.nil_append] at g1
  have gbad := bad_nil (lgo_bad needs lot.length lot [] (Nat.le_refl _))
  obtain ⟨L, eL⟩ : ∃ L, L = (lgo needs lot.length lot []).1 := ⟨_, rfl⟩
  rw [← eL] at g2 g3 gbad g5
  have hL : Lot n L := hlot.sub g3
  have hLl := hL.length
  have hLk : L ∈ keptL n needs := mem_kept.mpr ⟨hL, gbad⟩
  have hRn : (Rm ++ L).Nodup := g2.nodup_iff.mpr hlot.nodup
  have hRnd : Rm.Nodup := (List.nodup_append.mp hRn).1
  have hRs : ∀ x ∈ Rm, x ∈ lot := fun x hx => g2.mem_iff.mp (List.mem_append_left _ hx)
  have hRlt : ∀ x ∈ Rm, x < n := fun x hx => hlot.1 x (hRs x hx)
  have hRl : Rm.length + L.length = lot.length := by rw [← List.length_append]; exact g2.length_eq
  have hperm : (L ++ Rm).Perm lot := List.perm_append_comm.trans g2
  have G1 := f_isGr s hlot hL gbad hRlt hRnd hRs (.inl hperm)
  rw [g4, decide_eq_true hperm.length_eq] at G1
  have hTp : (L ++ Rm.reverse).Perm lot := ((List.reverse_perm Rm).append_left L).trans hperm
  have hTs : ∀ x ∈ Rm.reverse, x ∈ lot := fun x hx => hRs x (List.mem_reverse.mp hx)
  have hTn : Rm.reverse.Nodup := (List.reverse_perm Rm).nodup_iff.mpr hRnd
  have hTlt : ∀ x ∈ Rm.reverse, x < n := fun x hx => hRlt x (List.mem_reverse.mp hx)
  have G2 := f_isGr s hlot hL gbad hTlt hTn hTs (.inl hTp)
  rw [decide_eq_true hTp.length_eq, Bool.true_and] at G2
  have G3 : m_is_need_greatest.fn [webD many rows, needsD needs, lotD lot, .tup [lotD [], lotD Rm]] = .ok (.bl (decide (L = []))) := by
    have := f_isGr s (L := []) (R := Rm) hlot ⟨(fun _ h => by cases h), List.Pairwise.nil⟩ rfl hRlt hRnd hRs (by
      by_cases q : L = []
      · subst q; exact .inl hperm
      · right
        rw [List.nil_append]
        have := List.length_pos_iff.mpr q
        omega)
    rw [this, g4, Bool.and_true]
    refine congrArg (fun z => R.ok (D.bl z)) ?_
    refine bool_ext ?_
    rw [decide_eq_true_iff, decide_eq_true_iff, List.nil_append]
    constructor
    · intro q; exact List.length_eq_zero_iff.mp (by omega)
    · intro q; subst q; rw [List.length_nil] at hRl; omega
  have G4 := f_gr_lst s hlot (.lst [lotD L, lotD Rm]) (f_tupleOf_lst _ _)
  have G5 := f_gr_lst s hlot .non (f_tupleOf_non _)
  obtain ⟨v5, elots⟩ := law_lots (c0 := some (.scr (ns.map D.int))) (c1 := some (webD many rows)) (c2 := some (nI n)) (c3 := some (needsD needs)) (c6 := none) (c7 := none) (c8 := none) (c9 := none) (c10 := none) (c11 := none) (c12 := none) (c13 := none) (c14 := none) (c15 := none) (c16 := none) (c17 := none) (c18 := none) (c19 := none) (c20 := none) (c21 := none) (c22 := none) n 0 none (by omega)
  rw [Nat.zero_add] at elots
  have hnk : ∀ l ∈ keptL n needs, D.notIn (lotD l) (.lst ((keptL n needs).map lotD)) = .ok (.bl false) := fun l hl => by
    rw [notIn_lst (n := 1) (by omega) (lot_ok1 l) lots_ok, dIn_lot, decide_eq_true hl]; rfl
  have hik : D.isIn (lotD lot) (.lst ((keptL n needs).map lotD)) = .ok (.bl (keepsB needs lot)) := by
    rw [in_lst (n := 1) (by omega) (lot_ok1 lot) lots_ok, dIn_lot]
    exact congrArg (fun z => G.R.ok (D.bl z)) (bool_ext (by rw [decide_eq_true_iff, mem_kept]; exact ⟨fun q => q.2, fun q => ⟨hlot, q⟩⟩))
  have hinl : ∀ x, D.isIn (nI x) (lotD lot) = .ok (.bl (decide (x ∈ lot))) := fun x => by rw [in_tup (n := 0) (by omega) okD_int (nI_ok lot), dIn_nI]
  have hinL : ∀ x, D.isIn (nI x) (lotD L) = .ok (.bl (decide (x ∈ L))) := fun x => by rw [in_tup (n := 0) (by omega) okD_int (nI_ok L), dIn_nI]
  obtain ⟨ins, eins⟩ : ∃ ins, ins = (keptL n needs).filter fun l => l.all fun x => decide (x ∈ lot) := ⟨_, rfl⟩
  have hinsl : ins.length ≤ 1024 := by rw [eins]; exact Nat.le_trans (List.length_filter_le _ _) hkl
  have hins : ∀ l ∈ ins, l.length ≤ 10 ∧ (l.all fun x => decide (x ∈ L)) = true := fun l hl => by
    rw [eins] at hl
    obtain ⟨q1, q2⟩ := List.mem_filter.mp hl
    obtain ⟨q3, q4⟩ := mem_kept.mp q1
    have := q3.length
    refine ⟨by omega, List.all_eq_true.mpr fun x hx => decide_eq_true (g5 l q4 (fun y hy => of_decide_eq_true (List.all_eq_true.mp q2 y hy)) x hx)⟩
  have hLi : L ∈ ins := by
    rw [eins]
    exact List.mem_filter.mpr ⟨hLk, List.all_eq_true.mpr fun x hx => decide_eq_true (g3.subset hx)⟩
  have hgr := f_needGreatest s hlot
  rw [g1, ← eL] at hgr
  rw [fn_run rfl]
  show (b_law [some (.scr (ns.map D.int)), none, none, none, none, none, none, none, none, none, none, none, none, none, none, none, none, none, none, none, none, none, none]).res = _
  unfold b_law
  refine seq_res (ρ' := [some (.scr (ns.map D.int)), some (webD many rows), none, none, none, none, none, none, none, none, none, none, none, none, none, none, none, none, none, none, none, none, none]) (set_nx (d := webD many rows) (callN_ok (cons_ok (callN_ok (cons_ok rfl (cons_ok rfl rfl)) rfl a0) (cons_ok (callN_ok (cons_ok rfl (cons_ok rfl rfl)) rfl a1) rfl)) rfl ew)) ?_
  refine seq_res (ρ' := [some (.scr (ns.map D.int)), some (webD many rows), some (nI n), none, none, none, none, none, none, none, none, none, none, none, none, none, none, none, none, none, none, none, none]) (set_nx (d := nI n) (call1_ok (m2_ok rfl rfl (web1 _ _)) (by rw [len_tup, List.length_map, hnn]))) ?_
  refine seq_res (ρ' := [some (.scr (ns.map D.int)), some (webD many rows), some (nI n), some (needsD needs), none, none, none, none, none, none, none, none, none, none, none, none, none, none, none, none, none, none, none]) (set_nx (d := needsD needs) (callN_ok (cons_ok (callN_ok (cons_ok rfl (cons_ok rfl rfl)) rfl a2) (cons_ok rfl rfl)) rfl en)) ?_
  refine seq_res (ρ' := [some (.scr (ns.map D.int)), some (webD many rows), some (nI n), some (needsD needs), some (.lst ((lotsL 0).map lotD)), none, none, none, none, none, none, none, none, none, none, none, none, none, none, none, none, none, none]) (set_nx (d := .lst ((lotsL 0).map lotD)) (mLst_ok (cons_ok (mTup_ok rfl (by show 0 ≤ 16777216; omega)) rfl) (by show 1 ≤ 16777216; omega))) ?_
  refine seq_res (ρ' := [some (.scr (ns.map D.int)), some (webD many rows), some (nI n), some (needsD needs), some (.lst ((lotsL n).map lotD)), v5, none, none, none, none, none, none, none, none, none, none, none, none, none, none, none, none, none]) (for_nx (sq_ok rfl ((range1_ok (by omega)).trans (by rw [List.range_eq_range']))) elots) ?_
  refine seq_res (ρ' := [some (.scr (ns.map D.int)), some (webD many rows), some (nI n), some (needsD needs), some (.lst ((lotsL n).map lotD)), v5, some (.lst ((keptL n needs).map lotD)), none, none, none, none, none, none, none, none, none, none, none, none, none, none, none, none]) (set_nx (d := .lst ((keptL n needs).map lotD)) (mLc_filN (emb := lotD) (l := sortL (lotsL n)) (keepsB needs) lotD (sq_ok (call1_ok rfl ((sortT_lots ht).trans (by rw [sort_all]))) rfl) (by rw [show (sortL (lotsL n)).length = (lotsL n).length from (List.mergeSort_perm _ _).length_eq]; have := lotsL_le h10; omega) fun l hl => ⟨b_ok (call0_ok (cons_ok rfl (cons_ok rfl rfl)) rfl (f_keeps s.nd.len h10 s.nd.each ((mem_lots n l).mp ((List.mergeSort_perm (lotsL n) leL).mem_iff.mp hl)).1 (by have := lots_lt h10 ((List.mergeSort_perm (lotsL n) leL).mem_iff.mp hl); omega))), rfl⟩)) ?_
  refine seq_res (ρ' := [some (.scr (ns.map D.int)), some (webD many rows), some (nI n), some (needsD needs), some (.lst ((lotsL n).map lotD)), v5, some (.lst ((keptL n needs).map lotD)), none, none, none, none, none, none, none, none, none, none, none, none, none, none, none, none]) (if_f (b_ok (m2_ok (callN_ok (cons_ok rfl (cons_ok rfl rfl)) rfl (f_needAll s)) (call1_ok rfl rfl) ((ne_ok (n := 2) (a := D.tup ((keptL n needs).map lotD)) (b := D.tup ((keptL n needs).map lotD)) (by omega) lots_ok lots_ok).trans (by rw [dq_iff.mpr rfl]; rfl)))) rfl) ?_
  refine seq_res (ρ' := [some (.scr (ns.map D.int)), some (webD many rows), some (nI n), some (needsD needs), some (.lst ((lotsL n).map lotD)), v5, some (.lst ((keptL n needs).map lotD)), some (.lst (dg.map nI)), none, none, none, none, none, none, none, none, none, none, none, none, none, none, none]) (set_nx (d := .lst (dg.map nI)) (callN_ok (cons_ok (callN_ok (cons_ok rfl (cons_ok rfl rfl)) rfl a4) (cons_ok rfl (cons_ok rfl rfl))) rfl ed)) ?_
  refine seq_res (ρ' := [some (.scr (ns.map D.int)), some (webD many rows), some (nI n), some (needsD needs), some (.lst ((lotsL n).map lotD)), v5, some (.lst ((keptL n needs).map lotD)), some (.lst (dg.map nI)), some (lotD one), none, none, none, none, none, none, none, none, none, none, none, none, none, none]) (set_nx (d := lotD one) (m2_ok rfl (m2_ok (m2_ok rfl rfl (ixL (k := 0) (by omega))) (call1_ok rfl (lots_lenD _)) (modN (by omega))) ((lots_ix hj0).trans (by rw [eone])))) ?_
  refine seq_res (ρ' := [some (.scr (ns.map D.int)), some (webD many rows), some (nI n), some (needsD needs), some (.lst ((lotsL n).map lotD)), v5, some (.lst ((keptL n needs).map lotD)), some (.lst (dg.map nI)), some (lotD one), some (lotD other), none, none, none, none, none, none, none, none, none, none, none, none, none]) (set_nx (d := lotD other) (m2_ok rfl (m2_ok (m2_ok rfl rfl (ixL (k := 1) (by omega))) (call1_ok rfl (lots_lenD _)) (modN (by omega))) ((lots_ix hj1).trans (by rw [eother])))) ?_
  have hnot : ∀ k, D.notIn (nI k) (lotD one) = .ok (.bl (!decide (k ∈ one))) := fun k => by rw [notIn_tup (n := 0) (by omega) okD_int (nI_ok one), dIn_nI]
  have hisn : ∀ k, D.isIn (nI k) (lotD other) = .ok (.bl (decide (k ∈ other))) := fun k => by rw [in_tup (n := 0) (by omega) okD_int (nI_ok other), dIn_nI]
  have hbn := both_nodup l1.nodup l2.nodup
  have hex : (other.filter fun k => !decide (k ∈ one)).length ≤ 10 := by have := List.length_filter_le (fun k => !decide (k ∈ one)) other; omega
  refine seq_res (ρ' := [some (.scr (ns.map D.int)), some (webD many rows), some (nI n), some (needsD needs), some (.lst ((lotsL n).map lotD)), v5, some (.lst ((keptL n needs).map lotD)), some (.lst (dg.map nI)), some (lotD one), some (lotD other), some (lotD (srt (bothL one other))), none, none, none, none, none, none, none, none, none, none, none, none]) (set_nx (d := lotD (srt (bothL one other))) (call1_ok (call1_ok (m2_ok rfl (call1_ok (mLc_filN (emb := nI) (l := other) (fun k => !decide (k ∈ one)) nI (sq_ok rfl rfl) (by omega) fun k _ => ⟨b_ok (m2_ok rfl rfl (hnot k)), rfl⟩) rfl) (add_tup (by rw [List.length_map, List.length_map]; omega))) (by rw [← List.map_append]; exact (sortI'_ok (bothL one other)).trans (by rw [sortI_srt hbn]))) rfl)) ?_
  refine seq_res (ρ' := [some (.scr (ns.map D.int)), some (webD many rows), some (nI n), some (needsD needs), some (.lst ((lotsL n).map lotD)), v5, some (.lst ((keptL n needs).map lotD)), some (.lst (dg.map nI)), some (lotD one), some (lotD other), some (lotD (srt (bothL one other))), some (lotD (one.filter fun k => decide (k ∈ other))), none, none, none, none, none, none, none, none, none, none, none]) (set_nx (d := lotD (one.filter fun k => decide (k ∈ other))) (call1_ok (mLc_filN (emb := nI) (l := one) (fun k => decide (k ∈ other)) nI (sq_ok rfl rfl) (by omega) fun k _ => ⟨b_ok (m2_ok rfl rfl (hisn k)), rfl⟩) rfl)) ?_
  refine seq_res (ρ' := [some (.scr (ns.map D.int)), some (webD many rows), some (nI n), some (needsD needs), some (.lst ((lotsL n).map lotD)), v5, some (.lst ((keptL n needs).map lotD)), some (.lst (dg.map nI)), some (lotD one), some (lotD other), some (lotD (srt (bothL one other))), some (lotD (one.filter fun k => decide (k ∈ other))), none, none, none, none, none, none, none, none, none, none, none]) (if_f (or_tf (x := false) (y := false) (b_ok (m2_ok rfl rfl (hnk _ (both_kept h1k h2k)))) (b_ok (m2_ok rfl rfl (hnk _ (common_kept h1k h2k))))) rfl) ?_
  refine seq_res (ρ' := [some (.scr (ns.map D.int)), some (webD many rows), some (nI n), some (needsD needs), some (.lst ((lotsL n).map lotD)), v5, some (.lst ((keptL n needs).map lotD)), some (.lst (dg.map nI)), some (lotD one), some (lotD other), some (lotD (srt (bothL one other))), some (lotD (one.filter fun k => decide (k ∈ other))), some (lotD lot0), none, none, none, none, none, none, none, none, none, none]) (set_nx (d := lotD lot0) (callN_ok (cons_ok (callN_ok (cons_ok rfl (cons_ok rfl rfl)) rfl a3) (cons_ok rfl rfl)) rfl elot)) ?_
  have hrg : dRgT 0 (n : Int) = .ok (lotD (List.range n)) := by
    unfold dRgT
    rw [if_pos (by unfold rgC; rw [rangeOk_nat (by omega), Bool.true_and]; exact decide_eq_true (by omega)), range_nat]
  refine seq_res (ρ' := [some (.scr (ns.map D.int)), some (webD many rows), some (nI n), some (needsD needs), some (.lst ((lotsL n).map lotD)), v5, some (.lst ((keptL n needs).map lotD)), some (.lst (dg.map nI)), some (lotD one), some (lotD other), some (lotD (srt (bothL one other))), some (lotD (one.filter fun k => decide (k ∈ other))), some (lotD lot), none, none, none, none, none, none, none, none, none, none]) ?_ ?_
  · by_cases q : dg[2]'(by omega) < 500
    · refine if_t (b_ok (m2_ok (m2_ok rfl rfl (ixL (k := 2) (by omega))) rfl ((dlt _ _).trans (by rw [decide_eq_true (by omega)])))) ((set_nx (d := lotD lot) ?_).trans rfl)
      rw [elot2, if_pos q]
      exact hrg
    · refine if_f (b_ok (m2_ok (m2_ok rfl rfl (ixL (k := 2) (by omega))) rfl ((dlt _ _).trans (by rw [decide_eq_false (by omega)])))) ?_
      rw [elot2, if_neg q]
      rfl
  exact law_A s hnn hlot hLl hkl hTn hTs hTlt G1 G2 G3 G4 G5 hgr hinl hinL eins hinsl hins hLi hik g1 eL v5
end L
namespace L
open PySem PySem.Spec PyProof.Rows L2 G
def d__law_mixed : He.DefD := ⟨("_law_mixed", none), "_law_mixed", "_law_mixed", defArgs s__law_mixed, defBody s__law_mixed, defScope s__law_mixed, [], []⟩
def d__law_row : He.DefD := ⟨("_law_row", none), "_law_row", "_law_row", defArgs s__law_row, defBody s__law_row, defScope s__law_row, [], []⟩
def d__law_web : He.DefD := ⟨("_law_web", none), "_law_web", "_law_web", defArgs s__law_web, defBody s__law_web, defScope s__law_web, [], []⟩
def d__law_at : He.DefD := ⟨("_law_at", none), "_law_at", "_law_at", defArgs s__law_at, defBody s__law_at, defScope s__law_at, [], []⟩
def d__law_gets : He.DefD := ⟨("_law_gets", none), "_law_gets", "_law_gets", defArgs s__law_gets, defBody s__law_gets, defScope s__law_gets, [], []⟩
def d__law_needs : He.DefD := ⟨("_law_needs", none), "_law_needs", "_law_needs", defArgs s__law_needs, defBody s__law_needs, defScope s__law_needs, [], []⟩
def d__law_keeps : He.DefD := ⟨("_law_keeps", none), "_law_keeps", "_law_keeps", defArgs s__law_keeps, defBody s__law_keeps, defScope s__law_keeps, [], []⟩
def d_is_tuple_of : He.DefD := ⟨("is_tuple_of", none), "is_tuple_of", "is_tuple_of", defArgs s_is_tuple_of, defBody s_is_tuple_of, defScope s_is_tuple_of, [], []⟩
def d_is_integer : He.DefD := ⟨("is_integer", none), "is_integer", "is_integer", defArgs s_is_integer, defBody s_is_integer, defScope s_is_integer, [], []⟩
def d_is_between : He.DefD := ⟨("is_between", none), "is_between", "is_between", defArgs s_is_between, defBody s_is_between, defScope s_is_between, [], []⟩
def d_is_under : He.DefD := ⟨("is_under", none), "is_under", "is_under", defArgs s_is_under, defBody s_is_under, defScope s_is_under, [], []⟩
def d_is_row : He.DefD := ⟨("is_row", none), "is_row", "is_row", defArgs s_is_row, defBody s_is_row, defScope s_is_row, [], []⟩
def d_is_web : He.DefD := ⟨("is_web", none), "is_web", "is_web", defArgs s_is_web, defBody s_is_web, defScope s_is_web, [], []⟩
def d_need_web : He.DefD := ⟨("need_web", none), "need_web", "need_web", defArgs s_need_web, defBody s_need_web, defScope s_need_web, [], []⟩
def d_are_under : He.DefD := ⟨("are_under", none), "are_under", "are_under", defArgs s_are_under, defBody s_are_under, defScope s_are_under, [], []⟩
def d_is_lot : He.DefD := ⟨("is_lot", none), "is_lot", "is_lot", defArgs s_is_lot, defBody s_is_lot, defScope s_is_lot, [], []⟩
def d_is_need : He.DefD := ⟨("is_need", none), "is_need", "is_need", defArgs s_is_need, defBody s_is_need, defScope s_is_need, [], []⟩
def d_are_needs : He.DefD := ⟨("are_needs", none), "are_needs", "are_needs", defArgs s_are_needs, defBody s_are_needs, defScope s_are_needs, [], []⟩
def d_need_needs : He.DefD := ⟨("need_needs", none), "need_needs", "need_needs", defArgs s_need_needs, defBody s_need_needs, defScope s_need_needs, [], []⟩
def d_all_lots : He.DefD := ⟨("all_lots", none), "all_lots", "all_lots", defArgs s_all_lots, defBody s_all_lots, defScope s_all_lots, [], []⟩
def d_is_kept_lot : He.DefD := ⟨("is_kept_lot", none), "is_kept_lot", "is_kept_lot", defArgs s_is_kept_lot, defBody s_is_kept_lot, defScope s_is_kept_lot, [], []⟩
def d_need_all : He.DefD := ⟨("need_all", none), "need_all", "need_all", defArgs s_need_all, defBody s_need_all, defScope s_need_all, [], []⟩
def d__law_lot : He.DefD := ⟨("_law_lot", none), "_law_lot", "_law_lot", defArgs s__law_lot, defBody s__law_lot, defScope s__law_lot, [], []⟩
def d__law_flag : He.DefD := ⟨("_law_flag", none), "_law_flag", "_law_flag", defArgs s__law_flag, defBody s__law_flag, defScope s__law_flag, [], []⟩
def d_is_need_kept : He.DefD := ⟨("is_need_kept", none), "is_need_kept", "is_need_kept", defArgs s_is_need_kept, defBody s_is_need_kept, defScope s_is_need_kept, [], []⟩
def d_need_lot_of : He.DefD := ⟨("need_lot_of", none), "need_lot_of", "need_lot_of", defArgs s_need_lot_of, defBody s_need_lot_of, defScope s_need_lot_of, [], []⟩
def d_left_order : He.DefD := ⟨("left_order", none), "left_order", "left_order", defArgs s_left_order, defBody s_left_order, defScope s_left_order, [], []⟩
def d_need_greatest : He.DefD := ⟨("need_greatest", none), "need_greatest", "need_greatest", defArgs s_need_greatest, defBody s_need_greatest, defScope s_need_greatest, [], []⟩
def d_is_need_greatest : He.DefD := ⟨("is_need_greatest", none), "is_need_greatest", "is_need_greatest", defArgs s_is_need_greatest, defBody s_is_need_greatest, defScope s_is_need_greatest, [], []⟩
def d_law : He.DefD := ⟨("law", none), "law", "law", defArgs s_law, defBody s_law, defScope s_law, [], []⟩
def fnL : List He.DefD := [d__law_mixed, d__law_row, d__law_web, d__law_at, d__law_gets, d__law_needs, d__law_keeps, d_is_tuple_of, d_is_integer, d_is_between, d_is_under, d_is_row, d_is_web, d_need_web, d_are_under, d_is_lot, d_is_need, d_are_needs, d_need_needs, d_all_lots, d_is_kept_lot, d_need_all, d__law_lot, d__law_flag, d_is_need_kept, d_need_lot_of, d_left_order, d_need_greatest, d_is_need_greatest, d_law]
def faL : List He.Fa := [.glo "_law_mixed", .glo "_law_row", .glo "_law_web", .glo "_law_at", .glo "_law_gets", .glo "_law_needs", .glo "_law_keeps", .glo "is_tuple_of", .glo "is_integer", .glo "is_between", .glo "is_under", .glo "is_row", .glo "is_web", .glo "need_web", .glo "are_under", .glo "is_lot", .glo "is_need", .glo "are_needs", .glo "need_needs", .glo "all_lots", .glo "is_kept_lot", .glo "need_all", .glo "_law_lot", .glo "_law_flag", .glo "is_need_kept", .glo "need_lot_of", .glo "left_order", .glo "need_greatest", .glo "is_need_greatest", .glo "law", .free "int", .free "range", .free "sorted", .free "len", .free "tuple", .free "all", .free "isinstance", .free "bool", .free "enumerate", .free "list", .int "MOST_DELAY" (9), .int "FEWEST_PERSONS" (2), .int "MOST_PERSONS" (6), .int "MOST_TRANSFERS" (10)]
abbrev RL : PySem.W.OpenRow := PySem.W.OpenLaw.row PySem.Challenge.rw_chesthours_k71_whole_greatest_lots_of_ne
abbrev hkL : PySem.W.Hook := He.hookD 4 faL fnL
def obL (s : PySem.W.SharedT) : He.AlD := He.obsDG 4 faL fnL (HandSHeadRun.getT s)
theorem obL_eq (s : PySem.W.SharedT) : obL s = hkL.obs s.abs := He.obsDG_eq (HandSHeadRun.getT_eq s)
def looseL : List PySem.Str := (["__name__", "ChestError", "NoWeb", "NoLot", "NoNeeds", "is_integer", "is_between", "is_under", "is_tuple_of", "are_under", "is_lot", "FEWEST_PERSONS", "MOST_PERSONS", "MOST_TRANSFERS", "MOST_DELAY", "is_row", "is_web", "need_web", "all_lots", "is_need"] : List PySem.Str) ++ (["are_needs", "need_needs", "is_kept_lot", "need_lot_of", "is_need_kept", "left_order", "need_greatest", "is_need_greatest", "need_all", "_law_web", "_law_at", "_law_needs", "_law_keeps", "_law_mixed", "_law_row", "_law_gets", "_law_lot", "_law_flag"] : List PySem.Str)
theorem runL (w : World) : HandSHeadRun.RunEq RL (PySem.W.view RL.prog [43]) hkL obL 4000 looseL w := by
  intro os
  kernel_rfl
theorem factsL {P : Program} {w : World} {K : PySem.W.Frag} {h : Heap} {mg : Str → Option Value} {f : Addr} (X : K.In h) (G : h.Ns mainGlobals mg) (hfa : mg ("law" : Str) = some (.ref f)) (c : He.SaysD faL fnL K) :
    ∃ fd : FuncData, (∀ (s : Shared) (v : Value), BindsTo s fd ⟨[v], []⟩ [("script", v)]) ∧ ∀ base : Heap, Fd P w K mg base 9 "law" ["script"] f fd m_law.fn := by
  obtain ⟨fd__law_mixed, F__law_mixed⟩ := c.def_ 0 (d := d__law_mixed) rfl
  obtain ⟨fd__law_row, F__law_row⟩ := c.def_ 1 (d := d__law_row) rfl
  obtain ⟨fd__law_web, F__law_web⟩ := c.def_ 2 (d := d__law_web) rfl
  obtain ⟨fd__law_at, F__law_at⟩ := c.def_ 3 (d := d__law_at) rfl
  obtain ⟨fd__law_gets, F__law_gets⟩ := c.def_ 4 (d := d__law_gets) rfl
  obtain ⟨fd__law_needs, F__law_needs⟩ := c.def_ 5 (d := d__law_needs) rfl
  obtain ⟨fd__law_keeps, F__law_keeps⟩ := c.def_ 6 (d := d__law_keeps) rfl
  obtain ⟨fd_is_tuple_of, F_is_tuple_of⟩ := c.def_ 7 (d := d_is_tuple_of) rfl
  obtain ⟨fd_is_integer, F_is_integer⟩ := c.def_ 8 (d := d_is_integer) rfl
  obtain ⟨fd_is_between, F_is_between⟩ := c.def_ 9 (d := d_is_between) rfl
  obtain ⟨fd_is_under, F_is_under⟩ := c.def_ 10 (d := d_is_under) rfl
  obtain ⟨fd_is_row, F_is_row⟩ := c.def_ 11 (d := d_is_row) rfl
  obtain ⟨fd_is_web, F_is_web⟩ := c.def_ 12 (d := d_is_web) rfl
  obtain ⟨fd_need_web, F_need_web⟩ := c.def_ 13 (d := d_need_web) rfl
  obtain ⟨fd_are_under, F_are_under⟩ := c.def_ 14 (d := d_are_under) rfl
  obtain ⟨fd_is_lot, F_is_lot⟩ := c.def_ 15 (d := d_is_lot) rfl
  obtain ⟨fd_is_need, F_is_need⟩ := c.def_ 16 (d := d_is_need) rfl
  obtain ⟨fd_are_needs, F_are_needs⟩ := c.def_ 17 (d := d_are_needs) rfl
  obtain ⟨fd_need_needs, F_need_needs⟩ := c.def_ 18 (d := d_need_needs) rfl
  obtain ⟨fd_all_lots, F_all_lots⟩ := c.def_ 19 (d := d_all_lots) rfl
  obtain ⟨fd_is_kept_lot, F_is_kept_lot⟩ := c.def_ 20 (d := d_is_kept_lot) rfl
  obtain ⟨fd_need_all, F_need_all⟩ := c.def_ 21 (d := d_need_all) rfl
  obtain ⟨fd__law_lot, F__law_lot⟩ := c.def_ 22 (d := d__law_lot) rfl
  obtain ⟨fd__law_flag, F__law_flag⟩ := c.def_ 23 (d := d__law_flag) rfl
  obtain ⟨fd_is_need_kept, F_is_need_kept⟩ := c.def_ 24 (d := d_is_need_kept) rfl
  obtain ⟨fd_need_lot_of, F_need_lot_of⟩ := c.def_ 25 (d := d_need_lot_of) rfl
  obtain ⟨fd_left_order, F_left_order⟩ := c.def_ 26 (d := d_left_order) rfl
  obtain ⟨fd_need_greatest, F_need_greatest⟩ := c.def_ 27 (d := d_need_greatest) rfl
  obtain ⟨fd_is_need_greatest, F_is_need_greatest⟩ := c.def_ 28 (d := d_is_need_greatest) rfl
  obtain ⟨fd_law, F_law⟩ := c.def_ 29 (d := d_law) rfl
  have g__law_mixed := He.glo_ok X G (c.fact 0 (f := .glo "_law_mixed") rfl)
  have g__law_row := He.glo_ok X G (c.fact 1 (f := .glo "_law_row") rfl)
  have g__law_web := He.glo_ok X G (c.fact 2 (f := .glo "_law_web") rfl)
  have g__law_at := He.glo_ok X G (c.fact 3 (f := .glo "_law_at") rfl)
  have g__law_gets := He.glo_ok X G (c.fact 4 (f := .glo "_law_gets") rfl)
  have g__law_needs := He.glo_ok X G (c.fact 5 (f := .glo "_law_needs") rfl)
  have g__law_keeps := He.glo_ok X G (c.fact 6 (f := .glo "_law_keeps") rfl)
  have g_is_tuple_of := He.glo_ok X G (c.fact 7 (f := .glo "is_tuple_of") rfl)
  have g_is_integer := He.glo_ok X G (c.fact 8 (f := .glo "is_integer") rfl)
  have g_is_between := He.glo_ok X G (c.fact 9 (f := .glo "is_between") rfl)
  have g_is_under := He.glo_ok X G (c.fact 10 (f := .glo "is_under") rfl)
  have g_is_row := He.glo_ok X G (c.fact 11 (f := .glo "is_row") rfl)
  have g_is_web := He.glo_ok X G (c.fact 12 (f := .glo "is_web") rfl)
  have g_need_web := He.glo_ok X G (c.fact 13 (f := .glo "need_web") rfl)
  have g_are_under := He.glo_ok X G (c.fact 14 (f := .glo "are_under") rfl)
  have g_is_lot := He.glo_ok X G (c.fact 15 (f := .glo "is_lot") rfl)
  have g_is_need := He.glo_ok X G (c.fact 16 (f := .glo "is_need") rfl)
  have g_are_needs := He.glo_ok X G (c.fact 17 (f := .glo "are_needs") rfl)
  have g_need_needs := He.glo_ok X G (c.fact 18 (f := .glo "need_needs") rfl)
  have g_all_lots := He.glo_ok X G (c.fact 19 (f := .glo "all_lots") rfl)
  have g_is_kept_lot := He.glo_ok X G (c.fact 20 (f := .glo "is_kept_lot") rfl)
  have g_need_all := He.glo_ok X G (c.fact 21 (f := .glo "need_all") rfl)
  have g__law_lot := He.glo_ok X G (c.fact 22 (f := .glo "_law_lot") rfl)
  have g__law_flag := He.glo_ok X G (c.fact 23 (f := .glo "_law_flag") rfl)
  have g_is_need_kept := He.glo_ok X G (c.fact 24 (f := .glo "is_need_kept") rfl)
  have g_need_lot_of := He.glo_ok X G (c.fact 25 (f := .glo "need_lot_of") rfl)
  have g_left_order := He.glo_ok X G (c.fact 26 (f := .glo "left_order") rfl)
  have g_need_greatest := He.glo_ok X G (c.fact 27 (f := .glo "need_greatest") rfl)
  have g_is_need_greatest := He.glo_ok X G (c.fact 28 (f := .glo "is_need_greatest") rfl)
  have g_law := He.glo_ok X G (c.fact 29 (f := .glo "law") rfl)
  have n_int : mg "int" = none := He.free_ok X G (c.fact 30 (f := .free "int") rfl)
  have n_range : mg "range" = none := He.free_ok X G (c.fact 31 (f := .free "range") rfl)
  have n_sorted : mg "sorted" = none := He.free_ok X G (c.fact 32 (f := .free "sorted") rfl)
  have n_len : mg "len" = none := He.free_ok X G (c.fact 33 (f := .free "len") rfl)
  have n_tuple : mg "tuple" = none := He.free_ok X G (c.fact 34 (f := .free "tuple") rfl)
  have n_all : mg "all" = none := He.free_ok X G (c.fact 35 (f := .free "all") rfl)
  have n_isinstance : mg "isinstance" = none := He.free_ok X G (c.fact 36 (f := .free "isinstance") rfl)
  have n_bool : mg "bool" = none := He.free_ok X G (c.fact 37 (f := .free "bool") rfl)
  have n_enumerate : mg "enumerate" = none := He.free_ok X G (c.fact 38 (f := .free "enumerate") rfl)
  have n_list : mg "list" = none := He.free_ok X G (c.fact 39 (f := .free "list") rfl)
  have c_MOST_DELAY : ∃ t, mg "MOST_DELAY" = some (.int (9) t) := He.int_ok X G (c.fact 40 (f := .int "MOST_DELAY" (9)) rfl)
  have c_FEWEST_PERSONS : ∃ t, mg "FEWEST_PERSONS" = some (.int (2) t) := He.int_ok X G (c.fact 41 (f := .int "FEWEST_PERSONS" (2)) rfl)
  have c_MOST_PERSONS : ∃ t, mg "MOST_PERSONS" = some (.int (6) t) := He.int_ok X G (c.fact 42 (f := .int "MOST_PERSONS" (6)) rfl)
  have c_MOST_TRANSFERS : ∃ t, mg "MOST_TRANSFERS" = some (.int (10) t) := He.int_ok X G (c.fact 43 (f := .int "MOST_TRANSFERS" (10)) rfl)
  have e := hfa.symm.trans g_law
  cases e
  have b := FunD.bindsA (ps := ["script"]) F_law fun _ _ _ _ _ _ us hl => match us, hl with | [_], _ => rfl
  refine ⟨fd_law, fun s v => b s [v] rfl, fun base => ?_⟩
  have h__law_mixed := k__law_mixed (P := P) (w := w) (base := base) F__law_mixed g__law_mixed n_int
  have h__law_row := k__law_row (P := P) (w := w) (base := base) F__law_row g__law_row h__law_mixed n_int n_range
  have h__law_web := k__law_web (P := P) (w := w) (base := base) F__law_web g__law_web h__law_row n_int n_sorted n_range n_len n_tuple
  have h__law_at := k__law_at (P := P) (w := w) (base := base) F__law_at g__law_at n_len n_int
  have h__law_gets := k__law_gets (P := P) (w := w) (base := base) F__law_gets g__law_gets n_range n_len
  have h__law_needs := k__law_needs (P := P) (w := w) (base := base) F__law_needs g__law_needs h__law_row h__law_gets n_tuple
  have h__law_keeps := k__law_keeps (P := P) (w := w) (base := base) F__law_keeps g__law_keeps n_all
  have h_is_tuple_of := k_is_tuple_of (P := P) (w := w) (base := base) F_is_tuple_of g_is_tuple_of n_isinstance n_tuple n_len
  have h_is_integer := k_is_integer (P := P) (w := w) (base := base) F_is_integer g_is_integer n_isinstance n_int n_bool
  have h_is_between := k_is_between (P := P) (w := w) (base := base) F_is_between g_is_between h_is_integer
  have h_is_under := k_is_under (P := P) (w := w) (base := base) F_is_under g_is_under h_is_integer
  have h_is_row := k_is_row (P := P) (w := w) (base := base) F_is_row g_is_row h_is_tuple_of h_is_under h_is_between c_MOST_DELAY
  have h_is_web := k_is_web (P := P) (w := w) (base := base) F_is_web g_is_web h_is_tuple_of h_is_between h_is_row n_isinstance n_tuple n_len n_all n_range c_FEWEST_PERSONS c_MOST_PERSONS c_MOST_TRANSFERS
  have h_need_web := k_need_web (P := P) (w := w) (base := base) F_need_web g_need_web h_is_web
  have h_are_under := k_are_under (P := P) (w := w) (base := base) F_are_under g_are_under h_is_under n_isinstance n_tuple n_all
  have h_is_lot := k_is_lot (P := P) (w := w) (base := base) F_is_lot g_is_lot h_are_under n_all n_range n_len
  have h_is_need := k_is_need (P := P) (w := w) (base := base) F_is_need g_is_need h_is_lot n_len n_all
  have h_are_needs := k_are_needs (P := P) (w := w) (base := base) F_are_needs g_are_needs h_is_tuple_of h_is_need n_len n_all n_enumerate
  have h_need_needs := k_need_needs (P := P) (w := w) (base := base) F_need_needs g_need_needs h_need_web h_are_needs
  have h_all_lots := k_all_lots (P := P) (w := w) (base := base) F_all_lots g_all_lots n_range
  have h_is_kept_lot := k_is_kept_lot (P := P) (w := w) (base := base) F_is_kept_lot g_is_kept_lot n_all
  have h_need_all := k_need_all (P := P) (w := w) (base := base) F_need_all g_need_all h_need_needs h_all_lots h_is_kept_lot n_tuple n_sorted n_len
  have h__law_lot := k__law_lot (P := P) (w := w) (base := base) F__law_lot g__law_lot h__law_row n_tuple n_range
  have h__law_flag := k__law_flag (P := P) (w := w) (base := base) F__law_flag g__law_flag 
  have h_is_need_kept := k_is_need_kept (P := P) (w := w) (base := base) F_is_need_kept g_is_need_kept h_need_needs h_is_lot h_is_kept_lot n_len
  have h_need_lot_of := k_need_lot_of (P := P) (w := w) (base := base) F_need_lot_of g_need_lot_of h_is_lot n_len
  have h_left_order := k_left_order (P := P) (w := w) (base := base) F_left_order g_left_order n_list n_all n_len n_tuple
  have h_need_greatest := k_need_greatest (P := P) (w := w) (base := base) F_need_greatest g_need_greatest h_need_needs h_need_lot_of h_left_order
  have h_is_need_greatest := k_is_need_greatest (P := P) (w := w) (base := base) F_is_need_greatest g_is_need_greatest h_need_needs h_need_lot_of h_is_tuple_of h_is_lot h_is_kept_lot h_is_under n_len n_isinstance n_tuple n_all n_sorted n_list
  have h_law := k_law (P := P) (w := w) (base := base) F_law g_law h__law_web h__law_at h__law_needs h__law_keeps h_need_all h__law_row h__law_lot h__law_flag h_is_need_kept h_need_greatest h_is_need_greatest n_len n_range n_sorted n_tuple n_list n_all
  exact h_law
end L
open PySem PySem.W PySem.Calls PyProof.Rows
theorem PySem.Challenge.cw_chesthours_k71_whole_greatest_lots_of_ne_holds : PySem.Challenge.rw_chesthours_k71_whole_greatest_lots_of_ne.Holds := by
  w_on; o_law
  refine HandSHeadRun.head_any (r := OpenLaw.row PySem.Challenge.rw_chesthours_k71_whole_greatest_lots_of_ne) (q := view (OpenLaw.row PySem.Challenge.rw_chesthours_k71_whole_greatest_lots_of_ne).prog [43]) (H := L.hkL) (ob := L.obL) (M := 4000) (loose := L.looseL) (d := HandSHeadRun.topDef (OpenLaw.row PySem.Challenge.rw_chesthours_k71_whole_greatest_lots_of_ne).prog 43) (kwd := []) L.obL_eq
    (by kernel_rfl) (fun s => by kernel_rfl) L.runL (by kernel_rfl) (by kernel_rfl) (by kernel_rfl) (by rfl) (by first | assumption | decide +kernel) (by decide +kernel) ⟨rfl, rfl, rfl, rfl, rfl, by decide +kernel⟩ ?hw ?hc
  case hw => w_witness2
  case hc =>
    refine L2.walk_ofE (l := PySem.Challenge.rw_chesthours_k71_whole_greatest_lots_of_ne) (n := 63) (k := 9) (x := "script") (CX := L2.CX0) rfl (G.sl_le (by omega)) (by kernel_rfl) ⟨rfl, by decide, by decide⟩ ?F (fun _ _ _ _ z => z)
    intro w mg fa h Y GN hmg0
    obtain ⟨K, KX, c⟩ := Y
    have hmg : mg ("law" : PySem.Str) = some (.ref fa) := by
      have e : (HandSHeadRun.topDef (OpenLaw.row PySem.Challenge.rw_chesthours_k71_whole_greatest_lots_of_ne).prog 43).name = ("law" : PySem.Str) := by kernel_rfl
      rw [← e]
      exact hmg0
    obtain ⟨fd, hb, hF⟩ := L.factsL (P := (PySem.Challenge.rw_chesthours_k71_whole_greatest_lots_of_ne).prog) (w := w) KX GN hmg c
    exact ⟨K, fd, fun vs H Q _ => G.spM ⟨K, mg⟩ 1 L.m_law.fn vs H Q fun _ _ _ => False, KX, hb, fun H a ns hl _ hS => G.law_end hS (L.law_true ns hl), fun base _ _ => G.FnOk.quiet (hF base).ok⟩
