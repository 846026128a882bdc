import PyProof.Rows.All
import Wide.All
import OpenK.AllK
import Wide.FinOn
import HandS.ForMost
import HandS.ForExc
import HandS.IsInst
import HandS.Small
import HandS.ExcCtx
import HandS.CallSlots
import HandS.Walk
import HandS.Zip
import HandS.TupAny
import HandS.TupMul
import HandS.Flow
import HandS.Deep
import HandS.TupLe
import HandS.Sort
import HandS.SortInts
import HandS.Conv
import HandS.More
import HandS.SetFor
import HandS.Rev
import KE.GoesEnum
import HandS.Defaults
import HandS.Words
import HandS.SortRule
import HandS.NamedTupSort
import PyProof.TupleOfSeq
import HandS.ExcValue
import KE.KSortTup
import HandS.Style
import HandS.Head0
import HandS.Head1
import HandS.Head2
import HandS.HeadEnd
import HandS.HeadHook1
import HandS.HeadHook2
import HandS.DictComp
import HandS.ExcIs
import HandS.Lambda
import PySem.Challenge.RW_chesthours_k96_two_way_deals
set_option Elab.async false
set_option linter.all false
set_option maxRecDepth 100000
set_option maxHeartbeats 0
noncomputable section
/-! S1: plain data D, how it lies in the abstract heap (Rp), plain results (R), the relation of slots to plain data (Rel), and the plain judgements Pu.. over the hand layer's readings. -/
namespace G
open PySem L2
/-- sizes are told by no reckoning (so that the kernel never counts up to the line) -/
instance fitsLe (n : Nat) : Decidable (n ≤ sizeLine) := Classical.propDecidable _
instance fitsLt (n : Nat) : Decidable (n < sizeLine) := Classical.propDecidable _
instance bigI1 (a : Int) (n : Nat) : Decidable (a < 2 ^ n) := Classical.propDecidable _
instance bigI2 (a : Int) (n : Nat) : Decidable (-(2 ^ n) ≤ a) := Classical.propDecidable _
instance bigI3 (a : Int) (n : Nat) : Decidable (-(2 ^ n) < a) := Classical.propDecidable _
instance bigN1 (a n : Nat) : Decidable (a < 2 ^ n) := Classical.propDecidable _
instance bigN2 (a n : Nat) : Decidable (a ≤ 2 ^ n) := Classical.propDecidable _
instance bigN3 (a : Nat) : Decidable (a < 1073741824) := Classical.propDecidable _

/-- a dict's key -/
inductive DK where
  | i (k : Int) | s (x : Str) | t (ks : List Key)
  deriving DecidableEq
/-- plain data -/
inductive D where
  | non | bl (b : Bool) | int (i : Int) | str (x : Str) | tup (ds : List D) | lst (ds : List D)
  | dic (tk : Bool) (ks : List DK) (ds : List D) | iset (xs : List Int) | fn (n : Str)
  /-- a list that is only read (the script), a tuple of the module -/
  | scr (ds : List D) | ktup (ds : List D)
  /-- a built-in type -/
  | ty (n : String)
def dkK : Key → DK
  | .inl i => .i i
  | .inr x => .s x
structure Gc where
  K : PySem.W.Frag
  mg : Str → Option Value

mutual
inductive Rp (G : Gc) (F : Hp) : D → V → Prop
  | non : Rp G F .non .non
  | bl (b : Bool) : Rp G F (.bl b) (.bl b)
  | int (i : Int) : Rp G F (.int i) (.int i)
  | str (x : Str) : Rp G F (.str x) (.str x)
  | tup {a : Addr} {vs : List V} {ds : List D} : F a = some (.tup vs) → RpL G F ds vs → Rp G F (.tup ds) (.ref a)
  | lst {a : Addr} {vs : List V} {ds : List D} : F a = some (.lst vs) → RpL G F ds vs → Rp G F (.lst ds) (.ref a)
  | scr {a : Addr} {vs : List V} {ds : List D} : SqL G.K F a vs → RpL G F ds vs → Rp G F (.scr ds) (.ref a)
  | ktup {a : Addr} {vs : List V} {ds : List D} : SqT G.K F a vs → RpL G F ds vs → Rp G F (.ktup ds) (.ref a)
  | dicK {a : Addr} {ks : List Key} {vs : List V} {ds : List D} : Rd F a (.dK (ks.zip vs)) → ks.length = vs.length → RpL G F ds vs → Rp G F (.dic false (ks.map dkK) ds) (.ref a)
  | dicT {a : Addr} {ks : List (List Key)} {vs : List V} {ds : List D} : Rd F a (.dT (ks.zip vs)) → ks.length = vs.length → RpL G F ds vs → Rp G F (.dic true (ks.map DK.t) ds) (.ref a)
  | iset {a : Addr} {xs : List Int} : F a = some (.set (fun i => decide (i ∈ xs)) xs.length) → xs.Nodup → Rp G F (.iset xs) (.ref a)
  | fn {n : Str} {a : Addr} : G.mg n = some (.ref a) → Rp G F (.fn n) (.ref a)
  | ty (n : String) : Rp G F (.ty n) (.ty n)
inductive RpL (G : Gc) (F : Hp) : List D → List V → Prop
  | nil : RpL G F [] []
  | cons {d : D} {v : V} {ds : List D} {vs : List V} : Rp G F d v → RpL G F ds vs → RpL G F (d :: ds) (v :: vs)
end

/-- what never is locked -/
def plainO : HO → Bool
  | .lst _ => true
  | .tup _ => true
  | .set _ _ => true
  | _ => false
def isFrz : HO → Bool
  | .frz _ _ => true
  | _ => false
/-- what F knows to be read, F' knows too -/
structure Le0 (F F' : Hp) : Prop where
  rd : ∀ a u, isFrz u = false → Rd F a u → Rd F' a u
  ex : ∀ a u, plainO u = true → F a = some u → F' a = some u
/-- moreover what is locked stays so -/
structure Le (F F' : Hp) : Prop extends Le0 F F' where
  fz : ∀ a o u, F a = some (.frz o u) → F' a = some (.frz o u)
theorem Le.refl (F : Hp) : Le F F := ⟨⟨fun _ _ _ h => h, fun _ _ _ h => h⟩, fun _ _ _ h => h⟩
theorem Le.trans {F F1 F2 : Hp} (a : Le F F1) (b : Le F1 F2) : Le F F2 := ⟨⟨fun x u p h => b.rd x u p (a.rd x u p h), fun x u p h => b.ex x u p (a.ex x u p h)⟩, fun x o u h => b.fz x o u (a.fz x o u h)⟩
theorem Le.of {F F' : Hp} (h : ∀ a u, F a = some u → F' a = some u) : Le F F' := ⟨⟨fun a u _ r => by
  rcases r with r | ⟨o, r⟩
  · exact .inl (h a u r)
  · exact .inr ⟨o, h a _ r⟩, fun a u _ r => h a u r⟩, fun a _ _ r => h a _ r⟩
theorem Le.upd {F : Hp} {a : Addr} {u : HO} (h : F a = none) : Le F (upd F a u) := .of fun b w e => by
  rw [upd_ne (ne_of_none e h)]
  exact e
theorem Le0.l {G : Gc} {F F' : Hp} {a : Addr} {vs : List V} (e : Le0 F F') (h : SqL G.K F a vs) : SqL G.K F' a vs := h.elim (fun q => .inl (e.rd _ _ rfl q)) .inr
theorem Le0.t {G : Gc} {F F' : Hp} {a : Addr} {vs : List V} (e : Le0 F F') (h : SqT G.K F a vs) : SqT G.K F' a vs := h.elim (fun q => .inl (e.rd _ _ rfl q)) .inr
section
variable {G : Gc} {F F' : Hp}
mutual
theorem Rp.mono0 (e : Le0 F F') : ∀ {d : D} {v : V}, Rp G F d v → Rp G F' d v
  | _, _, .non => .non
  | _, _, .bl b => .bl b
  | _, _, .int i => .int i
  | _, _, .str x => .str x
  | _, _, .tup h r => .tup (e.ex _ _ rfl h) (RpL.mono0 e r)
  | _, _, .lst h r => .lst (e.ex _ _ rfl h) (RpL.mono0 e r)
  | _, _, .scr h r => .scr (e.l h) (RpL.mono0 e r)
  | _, _, .ktup h r => .ktup (e.t h) (RpL.mono0 e r)
  | _, _, .dicK h l r => .dicK (e.rd _ _ rfl h) l (RpL.mono0 e r)
  | _, _, .dicT h l r => .dicT (e.rd _ _ rfl h) l (RpL.mono0 e r)
  | _, _, .iset h n => .iset (e.ex _ _ rfl h) n
  | _, _, .fn h => .fn h
  | _, _, .ty n => .ty n
theorem RpL.mono0 (e : Le0 F F') : ∀ {ds : List D} {vs : List V}, RpL G F ds vs → RpL G F' ds vs
  | _, _, .nil => .nil
  | _, _, .cons h r => .cons (Rp.mono0 e h) (RpL.mono0 e r)
end
theorem Rp.mono (e : Le F F') {d : D} {v : V} (h : Rp G F d v) : Rp G F' d v := h.mono0 e.toLe0
theorem RpL.mono (e : Le F F') {ds : List D} {vs : List V} (h : RpL G F ds vs) : RpL G F' ds vs := h.mono0 e.toLe0
theorem RpL.length : ∀ {ds : List D} {vs : List V}, RpL G F ds vs → ds.length = vs.length
  | _, _, .nil => rfl
  | _, _, .cons _ r => congrArg Nat.succ (RpL.length r)
theorem RpL.get : ∀ {ds : List D} {vs : List V} {i : Nat} {d : D}, RpL G F ds vs → ds[i]? = some d → ∃ v, vs[i]? = some v ∧ Rp G F d v
  | _, _, _, _, .nil, e => by simp at e
  | _, _, 0, _, .cons h _, e => by simp at e; subst e; exact ⟨_, rfl, h⟩
  | _, _, i + 1, _, .cons _ r, e => by
    obtain ⟨v, h1, h2⟩ := RpL.get (i := i) r (by simpa using e)
    exact ⟨v, by simpa using h1, h2⟩
theorem RpL.getV : ∀ {ds : List D} {vs : List V} {i : Nat} {v : V}, RpL G F ds vs → vs[i]? = some v → ∃ d, ds[i]? = some d ∧ Rp G F d v
  | _, _, _, _, .nil, e => by simp at e
  | _, _, 0, _, .cons h _, e => by simp at e; subst e; exact ⟨_, rfl, h⟩
  | _, _, i + 1, _, .cons _ r, e => by
    obtain ⟨d, h1, h2⟩ := RpL.getV (i := i) r (by simpa using e)
    exact ⟨d, by simpa using h1, h2⟩
theorem RpL.append : ∀ {ds es : List D} {vs ws : List V}, RpL G F ds vs → RpL G F es ws → RpL G F (ds ++ es) (vs ++ ws)
  | _, _, _, _, .nil, s => s
  | _, _, _, _, .cons h r, s => .cons h (RpL.append r s)
theorem RpL.drop : ∀ {ds : List D} {vs : List V} (n : Nat), RpL G F ds vs → RpL G F (ds.drop n) (vs.drop n)
  | _, _, 0, h => h
  | _, _, _ + 1, .nil => .nil
  | _, _, n + 1, .cons _ r => RpL.drop n r
theorem RpL.take : ∀ {ds : List D} {vs : List V} (n : Nat), RpL G F ds vs → RpL G F (ds.take n) (vs.take n)
  | _, _, 0, _ => .nil
  | _, _, _ + 1, .nil => .nil
  | _, _, n + 1, .cons h r => .cons h (RpL.take n r)
theorem RpL.set : ∀ {ds : List D} {vs : List V} {d : D} {v : V} (i : Nat), RpL G F ds vs → Rp G F d v → RpL G F (ds.set i d) (vs.set i v)
  | _, _, _, _, _, .nil, _ => .nil
  | _, _, _, _, 0, .cons _ r, q => .cons q r
  | _, _, _, _, i + 1, .cons h r, q => .cons h (RpL.set i r q)
theorem RpL.reverse : ∀ {ds : List D} {vs : List V}, RpL G F ds vs → RpL G F ds.reverse vs.reverse
  | _, _, .nil => .nil
  | _, _, .cons h r => by rw [List.reverse_cons, List.reverse_cons]; exact RpL.append (RpL.reverse r) (.cons h .nil)
theorem RpL.ints : ∀ (xs : List Int), RpL G F (xs.map D.int) (xs.map V.int)
  | [] => .nil
  | x :: xs => .cons (.int x) (RpL.ints xs)
theorem RpL.eraseIdx : ∀ {ds : List D} {vs : List V} (i : Nat), RpL G F ds vs → RpL G F (ds.eraseIdx i) (vs.eraseIdx i)
  | _, _, _, .nil => .nil
  | _, _, 0, .cons _ r => r
  | _, _, i + 1, .cons h r => .cons h (RpL.eraseIdx i r)
theorem RpL.insert {ds : List D} {vs : List V} {d : D} {v : V} (i : Nat) (h : RpL G F ds vs) (q : Rp G F d v) : RpL G F (ds.take i ++ d :: ds.drop i) (vs.take i ++ v :: vs.drop i) :=
  RpL.append (RpL.take i h) (.cons q (RpL.drop i h))
end

/-! ### plain results -/
inductive R (α : Type) where
  | ok (a : α) | exc (c : Str) (p : Option (Str × D)) | bad
def R.bind {α β : Type} (r : R α) (f : α → R β) : R β := match r with
  | .ok a => f a
  | .exc c p => .exc c p
  | .bad => .bad
@[simp] theorem R.bind_ok {α β : Type} (a : α) (f : α → R β) : (R.ok a).bind f = f a := rfl
@[simp] theorem R.bind_bad {α β : Type} (f : α → R β) : (R.bad : R α).bind f = .bad := rfl
@[simp] theorem R.bind_exc {α β : Type} (c : Str) (p : Option (Str × D)) (f : α → R β) : (R.exc c p : R α).bind f = .exc c p := rfl
abbrev Env := List (Option D)
/-- how a statement ends -/
inductive Out where
  | nx (ρ : Env) | rt (d : D) | bk (ρ : Env) | ct (ρ : Env) | exc (c : Str) (p : Option (Str × D)) (ρ : Env) | bad

/-! ### slots and plain data -/
/-- an object that this frame alone holds: a list, a dict, a set at a -/
inductive Own (G : Gc) (F H : Hp) : D → Addr → Prop
  | lst {a : Addr} {vs : List V} {ds : List D} : H a = some (.lst vs) → RpL G F ds vs → Own G F H (.lst ds) a
  | dicK {a : Addr} {ks : List Key} {vs : List V} {ds : List D} : H a = some (.dK (ks.zip vs)) → ks.length = vs.length → RpL G F ds vs → Own G F H (.dic false (ks.map dkK) ds) a
  | dicT {a : Addr} {ks : List (List Key)} {vs : List V} {ds : List D} : H a = some (.dT (ks.zip vs)) → ks.length = vs.length → RpL G F ds vs → Own G F H (.dic true (ks.map DK.t) ds) a
  | iset {a : Addr} {xs : List Int} : H a = some (.set (fun i => decide (i ∈ xs)) xs.length) → xs.Nodup → Own G F H (.iset xs) a
theorem Own.there {G : Gc} {F H : Hp} {d : D} {a : Addr} (h : Own G F H d a) : ∃ u, H a = some u := by
  cases h with
  | lst e _ => exact ⟨_, e⟩
  | dicK e _ _ => exact ⟨_, e⟩
  | dicT e _ _ => exact ⟨_, e⟩
  | iset e _ => exact ⟨_, e⟩
theorem Own.mono {G : Gc} {F F' H H' : Hp} {d : D} {a : Addr} (h : Own G F H d a) (e : Le F F') (k : ∀ u, H a = some u → H' a = some u) : Own G F' H' d a := by
  cases h with
  | lst h r => exact .lst (k _ h) (r.mono e)
  | dicK h l r => exact .dicK (k _ h) l (r.mono e)
  | dicT h l r => exact .dicT (k _ h) l (r.mono e)
  | iset h n => exact .iset (k _ h) n
/-- the same object, now one that everybody may read -/
theorem Own.rp {G : Gc} {F H : Hp} {d : D} {a : Addr} {u : HO} (h : Own G F H d a) (hu : H a = some u) (hf : F a = none) : Rp G (upd F a u) d (.ref a) := by
  have e : Le F (upd F a u) := Le.upd hf
  cases h with
  | lst h r => rw [hu] at h; cases h; exact .lst upd_same (r.mono e)
  | dicK h l r => rw [hu] at h; cases h; exact .dicK (.inl upd_same) l (r.mono e)
  | dicT h l r => rw [hu] at h; cases h; exact .dicT (.inl upd_same) l (r.mono e)
  | iset h n => rw [hu] at h; cases h; exact .iset upd_same n

/-- nothing stands there, or a tuple -/
def Gn (H : Hp) (a : Addr) : Prop := H a = none ∨ ∃ xs, H a = some (.tup xs)
theorem Gn.anti {B H : Hp} {a : Addr} (h : ∀ a u, B a = some u → H a = some u) (z : Gn H a) : Gn B a := by
  cases w : B a with
  | none => exact .inl w
  | some u =>
    have e := h a u w
    rcases z with z | ⟨xs, z⟩
    · rw [e] at z; cases z
    · rw [e] at z; cases z; exact .inr ⟨xs, w⟩
theorem Own.gn {G : Gc} {F H : Hp} {d : D} {a : Addr} (h : Own G F H d a) (z : Gn H a) : False := by
  rcases z with z | ⟨xs, z⟩
  · obtain ⟨u, e⟩ := h.there
    rw [e] at z; cases z
  · cases h with
    | lst e _ => rw [e] at z; cases z
    | dicK e _ _ => rw [e] at z; cases z
    | dicT e _ _ => rw [e] at z; cases z
    | iset e _ => rw [e] at z; cases z
/-- B: what the caller's heap held, F0: what was known at the entry, F: what may be read now, H: the heap -/
structure Core (B F0 F H : Hp) : Prop where
  fh : ∀ a u, F a = some u → H a = some u
  bh : ∀ a u, B a = some u → H a = some u
  nf : ∀ a, F a ≠ none → F0 a ≠ none ∨ Gn B a
  f0 : ∀ a, F0 a ≠ none → B a ≠ none
/-- slots σ hold the plain data ρ; those of o are held by this frame alone -/
structure Rel (G : Gc) (B F0 F H : Hp) (o : List Nat) (σ : St) (ρ : Env) : Prop where
  core : Core B F0 F H
  len : σ.length = ρ.length
  sh : ∀ i d, ρ[i]? = some (some d) → i ∉ o → ∃ v, σ[i]? = some (some v) ∧ Rp G F d v
  ow : ∀ i d, ρ[i]? = some (some d) → i ∈ o → ∃ a, σ[i]? = some (some (.ref a)) ∧ Own G F H d a ∧ F a = none ∧ B a = none
  dj : ∀ i j d e a, i ≠ j → i ∈ o → j ∈ o → ρ[i]? = some (some d) → ρ[j]? = some (some e) → σ[i]? = some (some (.ref a)) → σ[j]? = some (some (.ref a)) → False
section
variable {G : Gc} {B F0 F H : Hp} {o : List Nat} {σ : St} {ρ : Env}
/-- a is none of the objects held alone -/
def Apart (o : List Nat) (σ : St) (ρ : Env) (a : Addr) : Prop := ∀ i d, i ∈ o → ρ[i]? = some (some d) → σ[i]? = some (some (.ref a)) → False
/-- the heap and what may be read grow -/
theorem Rel.grow {F' H' : Hp} (r : Rel G B F0 F H o σ ρ) (e : Le F F') (fh : ∀ a u, F' a = some u → H' a = some u) (k : ∀ a u, H a = some u → H' a = some u) (nf : ∀ a, F' a ≠ none → F a ≠ none ∨ Gn H a) : Rel G B F0 F' H' o σ ρ where
  core := ⟨fh, fun a u q => k a u (r.core.bh a u q), fun a q => (nf a q).elim (r.core.nf a) fun z => .inr (z.anti r.core.bh), r.core.f0⟩
  len := r.len
  sh := fun i d h1 h2 => let ⟨v, a, b⟩ := r.sh i d h1 h2; ⟨v, a, b.mono e⟩
  ow := fun i d h1 h2 => by
    obtain ⟨a, q1, q2, q3, q4⟩ := r.ow i d h1 h2
    refine ⟨a, q1, q2.mono e (k a), ?_, q4⟩
    obtain ⟨u, hu⟩ := q2.there
    cases w : F' a with
    | none => rfl
    | some y =>
      rcases nf a (by rw [w]; simp) with z | z
      · exact absurd q3 z
      · exact (q2.gn z).elim
  dj := r.dj
/-- something new is laid, for everybody to read -/
theorem Rel.laid {a : Addr} {u : HO} (r : Rel G B F0 F H o σ ρ) (ha : H a = none) : Le F (upd F a u) ∧ Rel G B F0 (upd F a u) (upd H a u) o σ ρ := by
  have fa : F a = none := by
    cases w : F a with
    | none => rfl
    | some y => rw [r.core.fh a y w] at ha; cases ha
  refine ⟨Le.upd fa, r.grow (Le.upd fa) (fun b w e => ?_) (fun b w e => ?_) fun b e => ?_⟩
  · by_cases hb : b = a
    · subst hb; rw [upd_same] at e ⊢; exact e
    · rw [upd_ne hb] at e ⊢; exact r.core.fh b w e
  · rw [upd_ne (ne_of_none e ha)]; exact e
  · by_cases hb : b = a
    · subst hb; exact .inr (.inl ha)
    · rw [upd_ne hb] at e; exact .inl e
/-- something new is laid that nobody else knows -/
theorem Rel.laidOwn {a : Addr} {u : HO} (r : Rel G B F0 F H o σ ρ) (ha : H a = none) : Rel G B F0 F (upd H a u) o σ ρ ∧ F a = none ∧ B a = none ∧ Apart o σ ρ a := by
  have fa : F a = none := by
    cases w : F a with
    | none => rfl
    | some y => rw [r.core.fh a y w] at ha; cases ha
  have ba : B a = none := by
    cases w : B a with
    | none => rfl
    | some y => rw [r.core.bh a y w] at ha; cases ha
  refine ⟨r.grow (Le.refl F) (fun b w e => ?_) (fun b w e => ?_) fun b e => .inl e, fa, ba, fun i d hi hd hs => ?_⟩
  · have h1 := r.core.fh b w e
    rw [upd_ne (ne_of_none h1 ha)]; exact h1
  · rw [upd_ne (ne_of_none e ha)]; exact e
  · obtain ⟨b, q1, q2, _, _⟩ := r.ow i d hd hi
    rw [hs] at q1; cases q1
    obtain ⟨w, hw⟩ := q2.there
    rw [ha] at hw; cases hw
/-- an object that was held alone (by no slot) may be read by everybody -/
theorem Rel.share {a : Addr} {u : HO} (r : Rel G B F0 F H o σ ρ) (hu : H a = some u) (fa : F a = none) (ba : B a = none) (ap : Apart o σ ρ a) : Le F (upd F a u) ∧ Rel G B F0 (upd F a u) H o σ ρ := by
  have e := Le.upd (u := u) fa
  refine ⟨e, ⟨⟨fun b w q => ?_, r.core.bh, fun b q => ?_, r.core.f0⟩, r.len, fun i d h1 h2 => let ⟨v, x, y⟩ := r.sh i d h1 h2; ⟨v, x, y.mono e⟩, fun i d h1 h2 => ?_, r.dj⟩⟩
  · by_cases hb : b = a
    · subst hb; rw [upd_same] at q; cases q; exact hu
    · rw [upd_ne hb] at q; exact r.core.fh b w q
  · by_cases hb : b = a
    · subst hb; exact .inr (.inl ba)
    · rw [upd_ne hb] at q; exact r.core.nf b q
  · obtain ⟨b, q1, q2, q3, q4⟩ := r.ow i d h1 h2
    have hb : b ≠ a := fun z => ap i d h2 h1 (by rw [← z]; exact q1)
    exact ⟨b, q1, q2.mono e fun _ z => z, by rw [upd_ne hb]; exact q3, q4⟩
/-- a slot's object that was held alone is given to everybody -/
theorem Rel.give {i : Nat} {d : D} (r : Rel G B F0 F H o σ ρ) (hd : ρ[i]? = some (some d)) (hi : i ∈ o) : ∃ F' v, Le F F' ∧ Rel G B F0 F' H (o.filter (· != i)) σ ρ ∧ σ[i]? = some (some v) ∧ Rp G F' d v := by
  obtain ⟨a, q1, q2, q3, q4⟩ := r.ow i d hd hi
  obtain ⟨u, hu⟩ := q2.there
  have mem : ∀ {j}, j ∈ o.filter (· != i) → j ∈ o ∧ j ≠ i := fun {j} h => by
    rw [List.mem_filter] at h; exact ⟨h.1, by simpa using h.2⟩
  have r1 : Rel G B F0 F H (o.filter (· != i)) σ ρ → Apart (o.filter (· != i)) σ ρ a := fun _ j e hj he hs => r.dj j i e d a (mem hj).2 (mem hj).1 hi he hd hs q1
  have e := Le.upd (u := u) q3
  refine ⟨upd F a u, .ref a, e, ⟨⟨fun b w q => ?_, r.core.bh, fun b q => ?_, r.core.f0⟩, r.len, fun j f h1 h2 => ?_, fun j f h1 h2 => ?_, fun j k f g b h1 h2 h3 => r.dj j k f g b h1 (mem h2).1 (mem h3).1⟩, q1, q2.rp hu q3⟩
  · by_cases hb : b = a
    · subst hb; rw [upd_same] at q; cases q; exact hu
    · rw [upd_ne hb] at q; exact r.core.fh b w q
  · by_cases hb : b = a
    · subst hb; exact .inr (.inl q4)
    · rw [upd_ne hb] at q; exact r.core.nf b q
  · by_cases hj : j = i
    · subst hj
      rw [hd] at h1; cases h1
      exact ⟨_, q1, q2.rp hu q3⟩
    · have h3 : j ∉ o := fun z => h2 (List.mem_filter.mpr ⟨z, by simpa using hj⟩)
      obtain ⟨v, x, y⟩ := r.sh j f h1 h3
      exact ⟨v, x, y.mono e⟩
  · obtain ⟨b, x1, x2, x3, x4⟩ := r.ow j f h1 (mem h2).1
    have hb : b ≠ a := fun z => r.dj j i f d a (mem h2).2 (mem h2).1 hi h1 hd (by rw [← z]; exact x1) q1
    exact ⟨b, x1, x2.mono e fun _ z => z, by rw [upd_ne hb]; exact x3, x4⟩
/-- o may shrink to any part (the others are given to everybody) -/
theorem Rel.giveAll : ∀ (l : List Nat) {F : Hp} {o : List Nat}, Rel G B F0 F H o σ ρ → ∃ F', Le F F' ∧ Rel G B F0 F' H (o.filter fun j => !l.contains j) σ ρ
  | [], F, o, r => by
    have e : (o.filter fun j => !([] : List Nat).contains j) = o := by rw [List.filter_eq_self]; intro j _; rfl
    exact ⟨F, Le.refl F, by rw [e]; exact r⟩
  | i :: l, F, o, r => by
    have e : (o.filter fun j => !(i :: l).contains j) = ((o.filter (· != i)).filter fun j => !l.contains j) := by
      rw [List.filter_filter]
      congr 1
      funext j
      simp only [List.contains_cons]
      cases h1 : (j == i) <;> cases h2 : l.contains j <;> simp [bne, h1]
    rw [e]
    have key : ∃ F1, Le F F1 ∧ Rel G B F0 F1 H (o.filter (· != i)) σ ρ := by
      by_cases hi : i ∈ o
      · cases hρ : ρ[i]? with
        | some q =>
          cases q with
          | some d =>
            obtain ⟨F1, v, e1, r1, _, _⟩ := r.give hρ hi
            exact ⟨F1, e1, r1⟩
          | none =>
            have mem : ∀ {j}, j ∈ o.filter (· != i) → j ∈ o := fun {j} h => (List.mem_filter.mp h).1
            refine ⟨F, Le.refl F, ⟨r.core, r.len, fun j f h1 h2 => r.sh j f h1 fun z => h2 (List.mem_filter.mpr ⟨z, ?_⟩), fun j f h1 h2 => r.ow j f h1 (mem h2), fun j k f g b h1 h2 h3 => r.dj j k f g b h1 (mem h2) (mem h3)⟩⟩
            have : j ≠ i := fun q => by rw [q, hρ] at h1; cases h1
            simpa using this
        | none =>
          have mem : ∀ {j}, j ∈ o.filter (· != i) → j ∈ o := fun {j} h => (List.mem_filter.mp h).1
          refine ⟨F, Le.refl F, ⟨r.core, r.len, fun j f h1 h2 => r.sh j f h1 fun z => h2 (List.mem_filter.mpr ⟨z, ?_⟩), fun j f h1 h2 => r.ow j f h1 (mem h2), fun j k f g b h1 h2 h3 => r.dj j k f g b h1 (mem h2) (mem h3)⟩⟩
          have : j ≠ i := fun q => by rw [q, hρ] at h1; cases h1
          simpa using this
      · have e2 : o.filter (· != i) = o := by rw [List.filter_eq_self]; intro j hj; have : j ≠ i := fun q => hi (q ▸ hj); simpa using this
        exact ⟨F, Le.refl F, by rw [e2]; exact r⟩
    obtain ⟨F1, e1, r1⟩ := key
    obtain ⟨F2, e2, r2⟩ := Rel.giveAll l r1
    exact ⟨F2, e1.trans e2, r2⟩
theorem Rel.bare (r : Rel G B F0 F H o σ ρ) : ∃ F', Le F F' ∧ Rel G B F0 F' H [] σ ρ := by
  obtain ⟨F', e, r'⟩ := Rel.giveAll o r
  have z : (o.filter fun j => !o.contains j) = [] := by
    rw [List.filter_eq_nil_iff]
    intro j hj
    simp [hj]
  rw [z] at r'
  exact ⟨F', e, r'⟩
/-- a slot takes a value -/
theorem Rel.set {i : Nat} {d : D} {v : V} (r : Rel G B F0 F H o σ ρ) (h : Rp G F d v) : Rel G B F0 F H (o.filter (· != i)) (σ.set i (some v)) (ρ.set i (some d)) := by
  have mem : ∀ {j}, j ∈ o.filter (· != i) → j ∈ o ∧ j ≠ i := fun {j} h => by
    rw [List.mem_filter] at h; exact ⟨h.1, by simpa using h.2⟩
  refine ⟨r.core, by rw [List.length_set, List.length_set]; exact r.len, fun j f h1 h2 => ?_, fun j f h1 h2 => ?_, fun j k f g b h1 h2 h3 h4 h5 h6 h7 => ?_⟩
  · by_cases hj : i = j
    · subst hj
      have hl : i < ρ.length := by
        rcases Nat.lt_or_ge i ρ.length with q | q
        · exact q
        · rw [List.getElem?_eq_none (by rw [List.length_set]; exact q)] at h1; cases h1
      rw [List.getElem?_set_self hl] at h1
      cases h1
      exact ⟨v, List.getElem?_set_self (by rw [r.len]; exact hl), h⟩
    · rw [List.getElem?_set_ne hj] at h1
      have h3 : j ∉ o := fun z => h2 (List.mem_filter.mpr ⟨z, by simpa using fun q : j = i => hj q.symm⟩)
      rw [List.getElem?_set_ne hj]
      exact r.sh j f h1 h3
  · have hj : i ≠ j := fun q => (mem h2).2 q.symm
    rw [List.getElem?_set_ne hj] at h1 ⊢
    exact r.ow j f h1 (mem h2).1
  · have hj : i ≠ j := fun q => (mem h2).2 q.symm
    have hk : i ≠ k := fun q => (mem h3).2 q.symm
    rw [List.getElem?_set_ne hj] at h4 h6
    rw [List.getElem?_set_ne hk] at h5 h7
    exact r.dj j k f g b h1 (mem h2).1 (mem h3).1 h4 h5 h6 h7
/-- a slot takes an object that nobody else holds -/
theorem Rel.setOwn {i : Nat} {d : D} {a : Addr} (r : Rel G B F0 F H o σ ρ) (h : Own G F H d a) (fa : F a = none) (ba : B a = none) (ap : Apart o σ ρ a) : Rel G B F0 F H (i :: o.filter (· != i)) (σ.set i (some (.ref a))) (ρ.set i (some d)) := by
  have mem : ∀ {j}, j ∈ o.filter (· != i) → j ∈ o ∧ j ≠ i := fun {j} h => by
    rw [List.mem_filter] at h; exact ⟨h.1, by simpa using h.2⟩
  have mem2 : ∀ {j}, j ∈ i :: o.filter (· != i) → j ≠ i → j ∈ o := fun {j} h hn => by
    rcases List.mem_cons.mp h with q | q
    · exact absurd q hn
    · exact (mem q).1
  have lt : ∀ {f : D}, (ρ.set i (some d))[i]? = some (some f) → i < ρ.length ∧ f = d := fun {f} h1 => by
    have hl : i < ρ.length := by
      rcases Nat.lt_or_ge i ρ.length with q | q
      · exact q
      · rw [List.getElem?_eq_none (by rw [List.length_set]; exact q)] at h1; cases h1
    rw [List.getElem?_set_self hl] at h1
    cases h1
    exact ⟨hl, rfl⟩
  have at_ : i < ρ.length → (σ.set i (some (V.ref a)))[i]? = some (some (.ref a)) := fun hl => List.getElem?_set_self (by rw [r.len]; exact hl)
  refine ⟨r.core, by rw [List.length_set, List.length_set]; exact r.len, fun j f h1 h2 => ?_, fun j f h1 h2 => ?_, fun j k f g b h1 h2 h3 h4 h5 h6 h7 => ?_⟩
  · have hj : i ≠ j := fun q => h2 (by rw [q]; exact List.mem_cons_self)
    rw [List.getElem?_set_ne hj] at h1 ⊢
    exact r.sh j f h1 fun z => h2 (List.mem_cons_of_mem _ (List.mem_filter.mpr ⟨z, by simpa using fun q : j = i => hj q.symm⟩))
  · by_cases hj : j = i
    · subst hj
      obtain ⟨hl, rfl⟩ := lt h1
      exact ⟨a, at_ hl, h, fa, ba⟩
    · rw [List.getElem?_set_ne (Ne.symm hj)] at h1 ⊢
      exact r.ow j f h1 (mem2 h2 hj)
  · by_cases hj : j = i
    · subst hj
      have hk : k ≠ j := fun q => h1 q.symm
      rw [List.getElem?_set_ne (Ne.symm hk)] at h5 h7
      rw [at_ (lt h4).1] at h6
      cases h6
      exact ap k g (mem2 h3 hk) h5 h7
    · rw [List.getElem?_set_ne (Ne.symm hj)] at h4 h6
      by_cases hk : k = i
      · subst hk
        rw [at_ (lt h5).1] at h7
        cases h7
        exact ap j f (mem2 h2 hj) h4 h6
      · rw [List.getElem?_set_ne (Ne.symm hk)] at h5 h7
        exact r.dj j k f g b h1 (mem2 h2 hj) (mem2 h3 hk) h4 h5 h6 h7
/-- a slot's own object changes -/
theorem Rel.mut {i : Nat} {d e : D} {a : Addr} {u : HO} (r : Rel G B F0 F H o σ ρ) (hi : i ∈ o) (hd : ρ[i]? = some (some d)) (hs : σ[i]? = some (some (.ref a))) (h : Own G F (upd H a u) e a) : Rel G B F0 F (upd H a u) o σ (ρ.set i (some e)) := by
  obtain ⟨b, q1, q2, q3, q4⟩ := r.ow i d hd hi
  rw [hs] at q1; cases q1
  have hl : i < ρ.length := by
    rcases Nat.lt_or_ge i ρ.length with q | q
    · exact q
    · rw [List.getElem?_eq_none q] at hd; cases hd
  refine ⟨⟨fun c w q => ?_, fun c w q => ?_, r.core.nf, r.core.f0⟩, by rw [List.length_set]; exact r.len, fun j f h1 h2 => ?_, fun j f h1 h2 => ?_, fun j k f g c h1 h2 h3 h4 h5 h6 h7 => ?_⟩
  · rw [upd_ne (ne_of_none q q3)]; exact r.core.fh c w q
  · rw [upd_ne (ne_of_none q q4)]; exact r.core.bh c w q
  · have hj : i ≠ j := fun q => h2 (q ▸ hi)
    rw [List.getElem?_set_ne hj] at h1
    exact r.sh j f h1 h2
  · by_cases hj : j = i
    · subst hj
      rw [List.getElem?_set_self hl] at h1
      cases h1
      exact ⟨a, hs, h, q3, q4⟩
    · rw [List.getElem?_set_ne (Ne.symm hj)] at h1
      obtain ⟨c, x1, x2, x3, x4⟩ := r.ow j f h1 h2
      have hc : c ≠ a := fun z => r.dj j i f d a hj h2 hi h1 hd (by rw [← z]; exact x1) hs
      exact ⟨c, x1, x2.mono (Le.refl F) fun w q => by rw [upd_ne hc]; exact q, x3, x4⟩
  · have old : ∀ {m : Nat} {x : D}, m ∈ o → (ρ.set i (some e))[m]? = some (some x) → ∃ y, ρ[m]? = some (some y) := fun {m x} hm hx => by
      by_cases q : m = i
      · subst q; exact ⟨d, hd⟩
      · rw [List.getElem?_set_ne (Ne.symm q)] at hx; exact ⟨x, hx⟩
    obtain ⟨f', h4'⟩ := old h2 h4
    obtain ⟨g', h5'⟩ := old h3 h5
    exact r.dj j k f' g' c h1 h2 h3 h4' h5' h6 h7
/-- a slot is forgotten -/
theorem Rel.forget {i : Nat} (r : Rel G B F0 F H o σ ρ) (x : Option V) : Rel G B F0 F H o (σ.set i x) (ρ.set i none) := by
  have lt : ∀ {j : Nat} {f : D}, (ρ.set i none)[j]? = some (some f) → i ≠ j ∧ ρ[j]? = some (some f) := fun {j f} h => by
    by_cases q : i = j
    · subst q
      rcases Nat.lt_or_ge i ρ.length with l | l
      · rw [List.getElem?_set_self l] at h; cases h
      · rw [List.getElem?_eq_none (by rw [List.length_set]; exact l)] at h; cases h
    · rw [List.getElem?_set_ne q] at h; exact ⟨q, h⟩
  refine ⟨r.core, by rw [List.length_set, List.length_set]; exact r.len, fun j f h1 h2 => ?_, fun j f h1 h2 => ?_, fun j k f g c h1 h2 h3 h4 h5 h6 h7 => ?_⟩
  · obtain ⟨q, h⟩ := lt h1
    rw [List.getElem?_set_ne q]
    exact r.sh j f h h2
  · obtain ⟨q, h⟩ := lt h1
    rw [List.getElem?_set_ne q]
    exact r.ow j f h h2
  · obtain ⟨q4, e4⟩ := lt h4
    obtain ⟨q5, e5⟩ := lt h5
    rw [List.getElem?_set_ne q4] at h6
    rw [List.getElem?_set_ne q5] at h7
    exact r.dj j k f g c h1 h2 h3 e4 e5 h6 h7
/-- less is known -/
theorem Rel.less {ρ' : Env} (r : Rel G B F0 F H o σ ρ) (hl : ρ'.length = ρ.length) (h : ∀ (i : Nat) (d : D), ρ'[i]? = some (some d) → ρ[i]? = some (some d)) : Rel G B F0 F H o σ ρ' :=
  ⟨r.core, r.len.trans hl.symm, fun i d q => r.sh i d (h i d q), fun i d q => r.ow i d (h i d q), fun i j d e a n h1 h2 h3 h4 => r.dj i j d e a n h1 h2 (h i d h3) (h j e h4)⟩
end
end G
/-! S2: the plain judgements (ME, MT, MA, MS): a piece of syntax, its reading, and the plain function that it computes. -/
namespace G
open PySem L2

/-- an exception of the own class c, with at most one field -/
def ExcRep (G : Gc) (F H : Hp) (c : Str) (p : Option (Str × D)) (cls : Value) (dd : Option Addr) : Prop :=
  ∃ C, G.mg c = some (.ref C) ∧ cls = .ref C ∧ match p with
    | none => dd = none
    | some (f, d) => ∃ a v, dd = some a ∧ H a = some (.xd [(f, v)]) ∧ Rp G F d v
/-- an expression only lays new things -/
structure Gr (F H F' H' : Hp) : Prop where
  le : Le F F'
  same : Same H H'
theorem Gr.refl (F H : Hp) : Gr F H F H := ⟨Le.refl F, Same.refl H⟩
theorem Gr.trans {F H F1 H1 F2 H2 : Hp} (a : Gr F H F1 H1) (b : Gr F1 H1 F2 H2) : Gr F H F2 H2 := ⟨a.le.trans b.le, a.same.trans b.same⟩
def ExcEnd (G : Gc) (W : WX) (B F0 F : Hp) (σ : L2.St) (ρ : Env) (c : Str) (p : Option (Str × D)) : Prop :=
  ∀ F' H' cls dd, Le F F' → Rel G B F0 F' H' [] σ ρ → ExcRep G F' H' c p cls dd → W cls dd σ H'
/-- what a plain result asks of the end: k where it is a value -/
def Res (G : Gc) (W : WX) (B F0 F H : Hp) (o : List Nat) (σ : L2.St) (ρ : Env) {α : Type} (k : α → Hp → Hp → Prop) : R α → Prop
  | .ok a => ∀ F' H', Gr F H F' H' → Rel G B F0 F' H' o σ ρ → k a F' H'
  | .exc c p => ExcEnd G W B F0 F σ ρ c p
  | .bad => False
section
variable {G : Gc} {W : WX} {B F0 F F1 H H1 : Hp} {o o1 o2 : List Nat} {σ : L2.St} {ρ : Env} {α β : Type} {k k' : α → Hp → Hp → Prop}
theorem Res.mono {r : R α} (e : Gr F H F1 H1) (h : Res G W B F0 F H o σ ρ k r) : Res G W B F0 F1 H1 o σ ρ k r := by
  cases r with
  | ok a => exact fun F' H' le rel => h F' H' (e.trans le) rel
  | exc c p => exact fun F' H' cls dd le rel x => h F' H' cls dd (e.le.trans le) rel x
  | bad => exact h
theorem Res.imp {r : R α} (h : Res G W B F0 F H o σ ρ k r) (hk : ∀ a F' H', Gr F H F' H' → Rel G B F0 F' H' o σ ρ → k a F' H' → k' a F' H') : Res G W B F0 F H o σ ρ k' r := by
  cases r with
  | ok a => exact fun F' H' le rel => hk a F' H' le rel (h F' H' le rel)
  | exc c p => exact h
  | bad => exact h
theorem Res.bnd {r : R α} {f : α → R β} {k2 : β → Hp → Hp → Prop} (h : Res G W B F0 F H o2 σ ρ k2 (r.bind f)) : Res G W B F0 F H o1 σ ρ (fun a F' H' => Res G W B F0 F' H' o2 σ ρ k2 (f a)) r := by
  cases r with
  | ok a => exact fun F' H' le _ => Res.mono le h
  | exc c p => exact h
  | bad => exact h
end
abbrev kE (G : Gc) (Q : VK) : D → Hp → Hp → Prop := fun d F' H' => ∀ v, Rp G F' d v → Q v H'
abbrev kT (Q : Bool → Hp → Prop) : Bool → Hp → Hp → Prop := fun b _ H' => Q b H'
abbrev kA (G : Gc) (Q : List V → Hp → Prop) : List D → Hp → Hp → Prop := fun ds F' H' => ∀ vs, RpL G F' ds vs → Q vs H'
abbrev kO (G : Gc) (B : Hp) (o : List Nat) (σ : L2.St) (ρ : Env) (Q : VK) : D → Hp → Hp → Prop := fun d F' H' => ∀ a, Own G F' H' d a → F' a = none → B a = none → Apart o σ ρ a → Q (.ref a) H'
def PuE (G : Gc) (W : WX) (o : List Nat) (t : TE) (o' : List Nat) (m : Env → R D) : Prop :=
  ∀ {B F0 F H : Hp} {σ : L2.St} {ρ : Env} {Q : VK}, Rel G B F0 F H o σ ρ → Res G W B F0 F H o' σ ρ (kE G Q) (m ρ) → t σ H Q
/-- a new object that nobody else holds -/
def PuO (G : Gc) (W : WX) (o : List Nat) (t : TE) (o' : List Nat) (m : Env → R D) : Prop :=
  ∀ {B F0 F H : Hp} {σ : L2.St} {ρ : Env} {Q : VK}, Rel G B F0 F H o σ ρ → Res G W B F0 F H o' σ ρ (kO G B o' σ ρ Q) (m ρ) → t σ H Q
def PuT (G : Gc) (W : WX) (o : List Nat) (t : TT) (o' : List Nat) (m : Env → R Bool) : Prop :=
  ∀ {B F0 F H : Hp} {σ : L2.St} {ρ : Env} {Q : Bool → Hp → Prop}, Rel G B F0 F H o σ ρ → Res G W B F0 F H o' σ ρ (kT Q) (m ρ) → t σ H Q
def PuA (G : Gc) (W : WX) (o : List Nat) (t : TA) (o' : List Nat) (m : Env → R (List D)) : Prop :=
  ∀ {B F0 F H : Hp} {σ : L2.St} {ρ : Env} {Q : List V → Hp → Prop}, Rel G B F0 F H o σ ρ → Res G W B F0 F H o' σ ρ (kA G Q) (m ρ) → t σ H Q
/-- what a statement's plain end asks -/
def Post (G : Gc) (W : WX) (B F0 F : Hp) (oL o' : List Nat) (X : Ends) : Out → Prop
  | .nx ρ' => ∀ F' H' σ', Le F F' → Rel G B F0 F' H' o' σ' ρ' → X.nx σ' H'
  | .rt d => ∀ F' H' v, Le F F' → Core B F0 F' H' → Rp G F' d v → X.rt v H'
  | .bk ρ' => ∀ F' H' σ', Le F F' → Rel G B F0 F' H' oL σ' ρ' → X.bk σ' H'
  | .ct ρ' => ∀ F' H' σ', Le F F' → Rel G B F0 F' H' oL σ' ρ' → X.ct σ' H'
  | .exc c p ρ' => ∀ F' H' σ' cls dd, Le F F' → Rel G B F0 F' H' [] σ' ρ' → ExcRep G F' H' c p cls dd → W cls dd σ' H'
  | .bad => False
def PuS (G : Gc) (W : WX) (oL o : List Nat) (t : TS) (o' : List Nat) (m : Env → Out) : Prop :=
  ∀ {B F0 F H : Hp} {σ : L2.St} {ρ : Env} {X : Ends}, Rel G B F0 F H o σ ρ → Post G W B F0 F oL o' X (m ρ) → t X σ H
/-- a two-place operation, a one-place one, a call on values -/
def PuR2 (G : Gc) (W : WX) (r : R2) (f : D → D → R D) : Prop :=
  ∀ {B F0 F H : Hp} {o : List Nat} {σ : L2.St} {ρ : Env} {Q : VK} {v w : V} {a b : D}, Rel G B F0 F H o σ ρ → Rp G F a v → Rp G F b w → Res G W B F0 F H o σ ρ (kE G Q) (f a b) → r v w H Q
def PuR1 (G : Gc) (W : WX) (r : V → Hp → VK → Prop) (f : D → R D) : Prop :=
  ∀ {B F0 F H : Hp} {o : List Nat} {σ : L2.St} {ρ : Env} {Q : VK} {v : V} {a : D}, Rel G B F0 F H o σ ρ → Rp G F a v → Res G W B F0 F H o σ ρ (kE G Q) (f a) → r v H Q
def PuC (G : Gc) (W : WX) (r : List V → Hp → VK → Prop) (f : List D → R D) : Prop :=
  ∀ {B F0 F H : Hp} {o : List Nat} {σ : L2.St} {ρ : Env} {Q : VK} {vs : List V} {ds : List D}, Rel G B F0 F H o σ ρ → RpL G F ds vs → Res G W B F0 F H o σ ρ (kE G Q) (f ds) → r vs H Q
/-- a call on values that gives a new object -/
def PuCO (G : Gc) (W : WX) (r : List V → Hp → VK → Prop) (f : List D → R D) : Prop :=
  ∀ {B F0 F H : Hp} {o : List Nat} {σ : L2.St} {ρ : Env} {Q : VK} {vs : List V} {ds : List D}, Rel G B F0 F H o σ ρ → RpL G F ds vs → Res G W B F0 F H o σ ρ (kO G B o σ ρ Q) (f ds) → r vs H Q

/-! ### the plain functions -/
def mVar (i : Nat) : Env → R D := fun ρ => match ρ[i]? with
  | some (some d) => .ok d
  | _ => .bad
def mC (d : D) : Env → R D := fun _ => .ok d
def m2 (f : D → D → R D) (a b : Env → R D) : Env → R D := fun ρ => (a ρ).bind fun x => (b ρ).bind fun y => f x y
def m1 (f : D → R D) (a : Env → R D) : Env → R D := fun ρ => (a ρ).bind f
def mNil : Env → R (List D) := fun _ => .ok []
def mCons (a : Env → R D) (r : Env → R (List D)) : Env → R (List D) := fun ρ => (a ρ).bind fun x => (r ρ).bind fun xs => .ok (x :: xs)
def mCall (f : List D → R D) (a : Env → R (List D)) : Env → R D := fun ρ => (a ρ).bind f
def D.toB : D → R Bool
  | .bl b => .ok b
  | _ => .bad
def mB (a : Env → R D) : Env → R Bool := fun ρ => (a ρ).bind D.toB
def mOfB (a : Env → R Bool) : Env → R D := fun ρ => (a ρ).bind fun b => .ok (.bl b)
def mAnd (a b : Env → R Bool) : Env → R Bool := fun ρ => (a ρ).bind fun x => bif x then b ρ else .ok false
def mOr (a b : Env → R Bool) : Env → R Bool := fun ρ => (a ρ).bind fun x => bif x then .ok true else b ρ
def mNot (a : Env → R Bool) : Env → R Bool := fun ρ => (a ρ).bind fun x => .ok (!x)
def mAndV (a b : Env → R D) : Env → R D := fun ρ => (a ρ).bind fun x => x.toB.bind fun c => bif c then b ρ else .ok (.bl false)
def mOrV (a b : Env → R D) : Env → R D := fun ρ => (a ρ).bind fun x => x.toB.bind fun c => bif c then .ok (.bl true) else b ρ
def mNotV (a : Env → R D) : Env → R D := fun ρ => (a ρ).bind fun x => x.toB.bind fun c => .ok (.bl (!c))
def mIte (c : Env → R Bool) (a b : Env → R D) : Env → R D := fun ρ => (c ρ).bind fun x => bif x then a ρ else b ρ
def mChain (f g : D → D → R D) (a b c : Env → R D) : Env → R D := fun ρ => (a ρ).bind fun x => (b ρ).bind fun y => (f x y).bind fun z => z.toB.bind fun k => bif k then (c ρ).bind fun w => g y w else .ok (.bl false)
/-- a statement's function that starts with an expression -/
def oBind {α : Type} (r : R α) (ρ : Env) (f : α → Out) : Out := match r with
  | .ok a => f a
  | .exc c p => .exc c p ρ
  | .bad => .bad
@[simp] theorem oBind_ok {α : Type} (a : α) (ρ : Env) (f : α → Out) : oBind (.ok a) ρ f = f a := rfl
@[simp] theorem oBind_bad {α : Type} (ρ : Env) (f : α → Out) : oBind (.bad : R α) ρ f = .bad := rfl
@[simp] theorem oBind_exc {α : Type} (c : Str) (p : Option (Str × D)) (ρ : Env) (f : α → Out) : oBind (.exc c p : R α) ρ f = .exc c p ρ := rfl
def mNext : Env → Out := fun ρ => .nx ρ
def Out.seq (r : Out) (f : Env → Out) : Out := match r with
  | .nx ρ => f ρ
  | x => x
@[simp] theorem Out.seq_nx (ρ : Env) (f : Env → Out) : (Out.nx ρ).seq f = f ρ := rfl
@[simp] theorem Out.seq_rt (d : D) (f : Env → Out) : (Out.rt d).seq f = .rt d := rfl
@[simp] theorem Out.seq_bk (ρ : Env) (f : Env → Out) : (Out.bk ρ).seq f = .bk ρ := rfl
@[simp] theorem Out.seq_ct (ρ : Env) (f : Env → Out) : (Out.ct ρ).seq f = .ct ρ := rfl
@[simp] theorem Out.seq_exc (c : Str) (p : Option (Str × D)) (ρ : Env) (f : Env → Out) : (Out.exc c p ρ).seq f = .exc c p ρ := rfl
@[simp] theorem Out.seq_bad (f : Env → Out) : Out.bad.seq f = .bad := rfl
def mSeq (a b : Env → Out) : Env → Out := fun ρ => (a ρ).seq b
def mSet (i : Nat) (a : Env → R D) : Env → Out := fun ρ => oBind (a ρ) ρ fun d => .nx (ρ.set i (some d))
def mDrop (a : Env → R D) : Env → Out := fun ρ => oBind (a ρ) ρ fun _ => .nx ρ
def mRet (a : Env → R D) : Env → Out := fun ρ => oBind (a ρ) ρ fun d => .rt d
def mRetN : Env → Out := fun _ => .rt .non
def mIf (c : Env → R Bool) (a b : Env → Out) : Env → Out := fun ρ => oBind (c ρ) ρ fun x => bif x then a ρ else b ρ
def mBrk : Env → Out := fun ρ => .bk ρ
def mCnt : Env → Out := fun ρ => .ct ρ
def mBad : Env → Out := fun _ => .bad

section
variable {G : Gc} {W : WX} {o o1 o2 o3 oL : List Nat} {ta tb tc : TE} {ma mb mc : Env → R D} {t u : TT} {mt mu : Env → R Bool} {ts : TA} {ms : Env → R (List D)}
theorem Rel.at {B F0 F H : Hp} {σ : L2.St} {ρ : Env} {i : Nat} {d : D} (r : Rel G B F0 F H o σ ρ) (hd : ρ[i]? = some (some d)) (hi : i ∉ o) : ∃ v, σ[i]? = some (some v) ∧ Rp G F d v := r.sh i d hd hi
theorem PuE.var {i : Nat} (hi : i ∉ o) : PuE G W o (tVar i) o (mVar i) := by
  intro B F0 F H σ ρ Q r h
  unfold mVar at h
  split at h
  · rename_i d hd
    obtain ⟨v, h1, h2⟩ := r.at hd hi
    exact ⟨v, h1, h F H (Gr.refl F H) r v h2⟩
  · exact h.elim
/-- the object of a slot of its own is read as a value: from then on everybody holds it -/
theorem PuE.give {i : Nat} (hi : i ∈ o) : PuE G W o (tVar i) (o.filter (· != i)) (mVar i) := by
  intro B F0 F H σ ρ Q r h
  unfold mVar at h
  split at h
  · rename_i d hd
    obtain ⟨F', v, e, r', h1, h2⟩ := r.give hd hi
    exact ⟨v, h1, h F' H ⟨e, Same.refl H⟩ r' v h2⟩
  · exact h.elim
theorem PuE.c {d : D} {v : V} (h : ∀ F, Rp G F d v) : PuE G W o (tC v) o (mC d) := fun {_ _ F H _ _ _} r q => q F H (Gr.refl F H) r v (h F)
theorem PuE.op2 {r : R2} {f : D → D → R D} (hr : PuR2 G W r f) (ha : PuE G W o ta o1 ma) (hb : PuE G W o1 tb o2 mb) : PuE G W o (tOp r ta tb) o2 (m2 f ma mb) := by
  intro B F0 F H σ ρ Q rel h
  refine ha rel ((Res.bnd h).imp fun a F1 H1 e1 r1 h1 v rv => ?_)
  refine hb r1 ((Res.bnd h1).imp fun b F2 H2 e2 r2 h2 w rw => ?_)
  exact hr r2 (rv.mono e2.le) rw h2
theorem PuE.op1 {r : V → Hp → VK → Prop} {f : D → R D} (hr : PuR1 G W r f) (ha : PuE G W o ta o1 ma) : PuE G W o (tUn r ta) o1 (m1 f ma) := by
  intro B F0 F H σ ρ Q rel h
  exact ha rel ((Res.bnd h).imp fun a F1 H1 e1 r1 h1 v rv => hr r1 rv h1)
theorem PuA.nil : PuA G W o tNil o mNil := fun {_ _ F H _ _ _} r q => q F H (Gr.refl F H) r [] .nil
theorem PuA.cons (ha : PuE G W o ta o1 ma) (hs : PuA G W o1 ts o2 ms) : PuA G W o (tCons ta ts) o2 (mCons ma ms) := by
  intro B F0 F H σ ρ Q rel h
  refine ha rel ((Res.bnd h).imp fun a F1 H1 e1 r1 h1 v rv => ?_)
  refine hs r1 ((Res.bnd h1).imp fun as F2 H2 e2 r2 h2 vs rvs => ?_)
  exact h2 F2 H2 (Gr.refl F2 H2) r2 (v :: vs) (.cons (rv.mono e2.le) rvs)
theorem PuE.cb {r : List V → Hp → VK → Prop} {f : List D → R D} (hr : PuC G W r f) (hs : PuA G W o ts o1 ms) : PuE G W o (tCB r ts) o1 (mCall f ms) := by
  intro B F0 F H σ ρ Q rel h
  exact hs rel ((Res.bnd h).imp fun a F1 H1 e1 r1 h1 v rv => hr r1 rv h1)
theorem PuO.cb {r : List V → Hp → VK → Prop} {f : List D → R D} (hr : PuCO G W r f) (hs : PuA G W o ts o1 ms) : PuO G W o (tCB r ts) o1 (mCall f ms) := by
  intro B F0 F H σ ρ Q rel h
  exact hs rel ((Res.bnd h).imp fun a F1 H1 e1 r1 h1 v rv => hr r1 rv h1)
/-- a new object as a plain value -/
theorem PuO.e (ha : PuO G W o ta o1 ma) : PuE G W o ta o1 ma := by
  intro B F0 F H σ ρ Q rel h
  refine ha rel ?_
  cases hm : ma ρ with
  | ok d =>
    rw [hm] at h
    intro F1 H1 e1 r1 a ow fa ba ap
    obtain ⟨x, hx⟩ := ow.there
    obtain ⟨e2, r2⟩ := r1.share hx fa ba ap
    exact h _ _ (e1.trans ⟨e2, Same.refl _⟩) r2 _ (ow.rp hx fa)
  | exc c p => rw [hm] at h; exact h
  | bad => rw [hm] at h; exact h
/-! ### tests -/
theorem PuT.val (ha : PuE G W o ta o1 ma) : PuT G W o (tTest ta) o1 (mB ma) := by
  intro B F0 F H σ ρ Q rel h
  refine ha rel ((Res.bnd h).imp fun a F1 H1 e1 r1 h1 v rv => ?_)
  cases rv with
  | bl b => exact ⟨b, rfl, h1 F1 H1 (Gr.refl F1 H1) r1⟩
  | _ => exact h1.elim
theorem PuT.and (h1 : PuT G W o t o1 mt) (h2 : PuT G W o1 u o1 mu) : PuT G W o (tAnd t u) o1 (mAnd mt mu) := by
  intro B F0 F H σ ρ Q rel h
  refine h1 rel ((Res.bnd h).imp fun a F1 H1 e1 r1 q => ?_)
  cases a with
  | true => exact h2 r1 q
  | false => exact q F1 H1 (Gr.refl F1 H1) r1
theorem PuT.or (h1 : PuT G W o t o1 mt) (h2 : PuT G W o1 u o1 mu) : PuT G W o (tOr t u) o1 (mOr mt mu) := by
  intro B F0 F H σ ρ Q rel h
  refine h1 rel ((Res.bnd h).imp fun a F1 H1 e1 r1 q => ?_)
  cases a with
  | true => exact q F1 H1 (Gr.refl F1 H1) r1
  | false => exact h2 r1 q
theorem PuT.not (h1 : PuT G W o t o1 mt) : PuT G W o (tNot t) o1 (mNot mt) := by
  intro B F0 F H σ ρ Q rel h
  exact h1 rel ((Res.bnd h).imp fun a F1 H1 e1 r1 q => q F1 H1 (Gr.refl F1 H1) r1)
theorem PuE.ite (h1 : PuT G W o t o1 mt) (ha : PuE G W o1 ta o2 ma) (hb : PuE G W o1 tb o2 mb) : PuE G W o (tIf t ta tb) o2 (mIte mt ma mb) := by
  intro B F0 F H σ ρ Q rel h
  refine h1 rel ((Res.bnd h).imp fun a F1 H1 e1 r1 q => ?_)
  cases a with
  | true => exact ha r1 q
  | false => exact hb r1 q
/-- and, or of truth values, as a value -/
theorem PuE.andV (ha : PuE G W o ta o1 ma) (hb : PuE G W o1 tb o1 mb) : PuE G W o (tAndV ta tb) o1 (mAndV ma mb) := by
  intro B F0 F H σ ρ Q rel h
  refine ha rel ((Res.bnd h).imp fun a F1 H1 e1 r1 q v rv => ?_)
  cases rv with
  | bl c =>
    refine ⟨c, rfl, ?_⟩
    cases c with
    | true => exact hb r1 q
    | false => exact q F1 H1 (Gr.refl F1 H1) r1 _ (.bl false)
  | _ => exact q.elim
theorem PuE.orV (ha : PuE G W o ta o1 ma) (hb : PuE G W o1 tb o1 mb) : PuE G W o (tOrV ta tb) o1 (mOrV ma mb) := by
  intro B F0 F H σ ρ Q rel h
  refine ha rel ((Res.bnd h).imp fun a F1 H1 e1 r1 q v rv => ?_)
  cases rv with
  | bl c =>
    refine ⟨c, rfl, ?_⟩
    cases c with
    | true => exact q F1 H1 (Gr.refl F1 H1) r1 _ (.bl true)
    | false => exact hb r1 q
  | _ => exact q.elim
theorem PuE.notV (ha : PuE G W o ta o1 ma) : PuE G W o (tNotV ta) o1 (mNotV ma) := by
  intro B F0 F H σ ρ Q rel h
  refine ha rel ((Res.bnd h).imp fun a F1 H1 e1 r1 q v rv => ?_)
  cases rv with
  | bl c => exact ⟨c, rfl, q F1 H1 (Gr.refl F1 H1) r1 _ (.bl (!c))⟩
  | _ => exact q.elim
/-- a op b op' c -/
theorem PuE.chain {r r' : R2} {f g : D → D → R D} (hr : PuR2 G W r f) (hr' : PuR2 G W r' g) (ha : PuE G W o ta o1 ma) (hb : PuE G W o1 tb o2 mb) (hc : PuE G W o2 tc o2 mc) : PuE G W o (tChain r r' ta tb tc) o2 (mChain f g ma mb mc) := by
  intro B F0 F H σ ρ Q rel h
  refine ha rel ((Res.bnd h).imp fun a F1 H1 e1 r1 h1 v rv => ?_)
  refine hb r1 ((Res.bnd h1).imp fun b F2 H2 e2 r2 h2 w rw => ?_)
  refine hr r2 (rv.mono e2.le) rw ((Res.bnd h2).imp fun z F3 H3 e3 r3 h3 zv rz => ?_)
  cases rz with
  | bl k =>
    refine ⟨k, rfl, ?_⟩
    cases k with
    | true => exact hc r3 ((Res.bnd (r := mc ρ) (f := fun w => g b w) h3).imp fun y F4 H4 e4 r4 h4 yv ry => hr' r4 ((rw.mono e3.le).mono e4.le) ry h4)
    | false => exact h3 F3 H3 (Gr.refl F3 H3) r3 _ (.bl false)
  | _ => exact h3.elim
/-- a value's truth -/
theorem PuT.tru {r : V → Hp → (Bool → Hp → Prop) → Prop} {f : D → R Bool} (hr : ∀ {B F0 F H : Hp} {o : List Nat} {σ : L2.St} {ρ : Env} {Q : Bool → Hp → Prop} {v : V} {a : D}, Rel G B F0 F H o σ ρ → Rp G F a v → Res G W B F0 F H o σ ρ (kT Q) (f a) → r v H Q)
    (ha : PuE G W o ta o1 ma) : PuT G W o (fun σ H Q => ta σ H fun x H' => r x H' Q) o1 (fun ρ => (ma ρ).bind f) := by
  intro B F0 F H σ ρ Q rel h
  exact ha rel ((Res.bnd h).imp fun a F1 H1 e1 r1 h1 v rv => hr r1 rv h1)
end

/-! ### statements -/
section
variable {G : Gc} {W : WX} {B F0 F F1 : Hp} {oL o o1 o2 o3 : List Nat} {X : Ends}
theorem Post.mono {m : Out} (e : Le F F1) (h : Post G W B F0 F oL o X m) : Post G W B F0 F1 oL o X m := by
  cases m with
  | nx ρ => exact fun F' H' σ' le => h F' H' σ' (e.trans le)
  | rt d => exact fun F' H' v le => h F' H' v (e.trans le)
  | bk ρ => exact fun F' H' σ' le => h F' H' σ' (e.trans le)
  | ct ρ => exact fun F' H' σ' le => h F' H' σ' (e.trans le)
  | exc c p ρ => exact fun F' H' σ' cls dd le => h F' H' σ' cls dd (e.trans le)
  | bad => exact h
/-- from a statement's end to the end of the expression that it starts with -/
theorem Post.res {α : Type} {H : Hp} {r : R α} {f : α → Out} {σ : L2.St} {ρ : Env} (h : Post G W B F0 F oL o X (oBind r ρ f)) : Res G W B F0 F H o1 σ ρ (fun a F' _ => Post G W B F0 F' oL o X (f a)) r := by
  cases r with
  | ok a => exact fun F' H' le _ => Post.mono le.le h
  | exc c p => exact fun F' H' cls dd le rel x => h F' H' σ cls dd le rel x
  | bad => exact h
variable {t u : TS} {m n : Env → Out} {ta : TE} {ma : Env → R D} {tt : TT} {mt : Env → R Bool}
theorem PuS.next : PuS G W oL o tNext o mNext := fun {_ _ F H σ _ _} r h => h F H σ (Le.refl F) r
theorem PuS.seq (h1 : PuS G W oL o t o1 m) (h2 : PuS G W oL o1 u o2 n) : PuS G W oL o (tSeq t u) o2 (mSeq m n) := by
  intro B F0 F H σ ρ X rel h
  refine h1 rel ?_
  unfold mSeq at h
  cases hm : m ρ with
  | nx ρ' =>
    rw [hm] at h
    exact fun F' H' σ' le r' => h2 r' (Post.mono le h)
  | rt d => rw [hm] at h; exact h
  | bk ρ' => rw [hm] at h; exact h
  | ct ρ' => rw [hm] at h; exact h
  | exc c p ρ' => rw [hm] at h; exact h
  | bad => rw [hm] at h; exact h
/-- some own objects are given to everybody behind a statement -/
theorem PuS.weak (l : List Nat) (h1 : PuS G W oL o t o1 m) : PuS G W oL o t (o1.filter fun j => !l.contains j) m := by
  intro B F0 F H σ ρ X rel h
  refine h1 rel ?_
  cases hm : m ρ with
  | nx ρ' =>
    rw [hm] at h
    exact fun F' H' σ' le r' => by
      obtain ⟨F2, e2, r2⟩ := Rel.giveAll l r'
      exact h F2 H' σ' (le.trans e2) r2
  | rt d => rw [hm] at h; exact h
  | bk ρ' => rw [hm] at h; exact h
  | ct ρ' => rw [hm] at h; exact h
  | exc c p ρ' => rw [hm] at h; exact h
  | bad => rw [hm] at h; exact h
/-- .. ahead of it -/
theorem PuS.weak0 (l : List Nat) (h1 : PuS G W oL (o.filter fun j => !l.contains j) t o1 m) : PuS G W oL o t o1 m := by
  intro B F0 F H σ ρ X rel h
  obtain ⟨F2, e2, r2⟩ := Rel.giveAll l rel
  exact h1 r2 (Post.mono e2 h)
theorem PuS.set {i : Nat} (ha : PuE G W o ta o1 ma) : PuS G W oL o (tAsg ta (gName i)) (o1.filter (· != i)) (mSet i ma) := by
  intro B F0 F H σ ρ X rel h
  exact ha rel ((Post.res h).imp fun d F1 H1 e1 r1 q v rv => q F1 H1 _ (Le.refl F1) (r1.set rv))
theorem PuS.setO {i : Nat} (ha : PuO G W o ta o1 ma) : PuS G W oL o (tAsg ta (gName i)) (i :: o1.filter (· != i)) (mSet i ma) := by
  intro B F0 F H σ ρ X rel h
  exact ha rel ((Post.res h).imp fun d F1 H1 e1 r1 q a ow fa ba ap => q F1 H1 _ (Le.refl F1) (r1.setOwn ow fa ba ap))
theorem PuS.drop (ha : PuE G W o ta o1 ma) : PuS G W oL o (tDrop ta) o1 (mDrop ma) := by
  intro B F0 F H σ ρ X rel h
  exact ha rel ((Post.res h).imp fun d F1 H1 e1 r1 q v rv => q F1 H1 _ (Le.refl F1) r1)
theorem PuS.ret (ha : PuE G W o ta o1 ma) : PuS G W oL o (tRet ta) o2 (mRet ma) := by
  intro B F0 F H σ ρ X rel h
  exact ha rel ((Post.res h).imp fun d F1 H1 e1 r1 q v rv => q F1 H1 v (Le.refl F1) r1.core rv)
theorem PuS.retN : PuS G W oL o tRetN o2 mRetN := fun {_ _ F H _ _ _} r h => h F H .non (Le.refl F) r.core .non
theorem PuS.ifS (hc : PuT G W o tt o1 mt) (h1 : PuS G W oL o1 t o2 m) (h2 : PuS G W oL o1 u o2 n) : PuS G W oL o (tIfS tt t u) o2 (mIf mt m n) := by
  intro B F0 F H σ ρ X rel h
  refine hc rel ((Post.res h).imp fun b F1 H1 e1 r1 q => ?_)
  cases b with
  | true => exact h1 r1 q
  | false => exact h2 r1 q
theorem PuS.bad : PuS G W oL o tNever o2 mBad := fun _ h => h
theorem PuS.brk (hs : oL = o) : PuS G W oL o tBreak o2 mBrk := fun {_ _ F H σ _ _} r h => h F H σ (Le.refl F) (by rw [hs]; exact r)
theorem PuS.cnt (hs : oL = o) : PuS G W oL o tCont o2 mCnt := fun {_ _ F H σ _ _} r h => h F H σ (Le.refl F) (by rw [hs]; exact r)
end

/-! ### targets -/
def PuG (G : Gc) (o : List Nat) (g : TG) (o' : List Nat) (mg : D → Env → R Env) : Prop :=
  ∀ {B F0 F H : Hp} {σ : L2.St} {ρ : Env} {K : L2.St → Hp → Prop} {v : V} {d : D}, Rel G B F0 F H o σ ρ → Rp G F d v → (∃ ρ', mg d ρ = .ok ρ' ∧ ∀ σ', Rel G B F0 F H o' σ' ρ' → K σ' H) → g v σ H K
def PuGs (G : Gc) (o : List Nat) (g : TGs) (o' : List Nat) (mg : List D → Env → R Env) : Prop :=
  ∀ {B F0 F H : Hp} {σ : L2.St} {ρ : Env} {K : L2.St → Hp → Prop} {vs : List V} {ds : List D}, Rel G B F0 F H o σ ρ → RpL G F ds vs → (∃ ρ', mg ds ρ = .ok ρ' ∧ ∀ σ', Rel G B F0 F H o' σ' ρ' → K σ' H) → g vs σ H K
def gnName (i : Nat) : D → Env → R Env := fun d ρ => .ok (ρ.set i (some d))
def gnNil : List D → Env → R Env := fun ds ρ => match ds with
  | [] => .ok ρ
  | _ => .bad
def gnCons (g : D → Env → R Env) (r : List D → Env → R Env) : List D → Env → R Env := fun ds ρ => match ds with
  | d :: ds => (g d ρ).bind fun ρ' => r ds ρ'
  | [] => .bad
def gnTup (n : Nat) (g : List D → Env → R Env) : D → Env → R Env := fun d ρ => match d with
  | .tup ds => if ds.length = n then g ds ρ else .bad
  | .ktup ds => if ds.length = n then g ds ρ else .bad
  | _ => .bad
section
variable {G : Gc} {o o1 o2 : List Nat} {g : TG} {gs : TGs} {mg : D → Env → R Env} {mgs : List D → Env → R Env}
theorem PuG.name {i : Nat} : PuG G o (gName i) (o.filter (· != i)) (gnName i) := by
  intro B F0 F H σ ρ K v d rel rv h
  obtain ⟨ρ', e, k⟩ := h
  cases e
  exact k _ (rel.set rv)
theorem PuGs.nil : PuGs G o gNil o gnNil := by
  intro B F0 F H σ ρ K vs ds rel rv h
  obtain ⟨ρ', e, k⟩ := h
  cases rv with
  | nil => cases e; exact ⟨rfl, k _ rel⟩
  | cons _ _ => cases e
theorem PuGs.cons (h1 : PuG G o g o1 mg) (h2 : PuGs G o1 gs o2 mgs) : PuGs G o (gCons g gs) o2 (gnCons mg mgs) := by
  intro B F0 F H σ ρ K vs ds rel rv h
  obtain ⟨ρ', e, k⟩ := h
  cases rv with
  | nil => cases e
  | @cons d v ds vs h3 h4 =>
    refine ⟨v, vs, rfl, h1 rel h3 ?_⟩
    show ∃ ρ1, mg d ρ = .ok ρ1 ∧ _
    have e' : (mg d ρ).bind (fun ρ' => mgs ds ρ') = .ok ρ' := e
    cases q : mg d ρ with
    | ok ρ1 =>
      rw [q] at e'
      exact ⟨ρ1, rfl, fun σ1 r1 => h2 r1 h4 ⟨ρ', e', k⟩⟩
    | exc c p => rw [q] at e'; cases e'
    | bad => rw [q] at e'; cases e'
theorem PuG.tup {K : PySem.W.Frag} {n : Nat} (hK : G.K = K) (h : PuGs G o gs o1 mgs) : PuG G o (gTup K n gs) o1 (gnTup n mgs) := by
  subst hK
  intro B F0 F H σ ρ K v d rel rv hh
  obtain ⟨ρ', e, k⟩ := hh
  cases rv with
  | @tup a vs ds h1 h2 =>
    have e' : (if ds.length = n then mgs ds ρ else .bad) = .ok ρ' := e
    split at e'
    · rename_i hl
      exact ⟨a, vs, rfl, .inl (.inl (rel.core.fh _ _ h1)), by rw [← h2.length]; exact hl, h rel h2 ⟨ρ', e', k⟩⟩
    · cases e'
  | @ktup a vs ds h1 h2 =>
    have e' : (if ds.length = n then mgs ds ρ else .bad) = .ok ρ' := e
    split at e'
    · rename_i hl
      have hq : SqT G.K H a vs := h1.elim (fun q => .inl (q.elim (fun q => .inl (rel.core.fh _ _ q)) fun ⟨o, q⟩ => .inr ⟨o, rel.core.fh _ _ q⟩)) .inr
      exact ⟨a, vs, rfl, hq, by rw [← h2.length]; exact hl, h rel h2 ⟨ρ', e', k⟩⟩
    · cases e'
  | _ => cases e
end
end G
/-! S3: borrowing, loops, comprehensions, calls. -/
namespace G
open PySem L2

/-! ### borrowing: an own object is read, the answer holds nothing of it -/
def D.scal : D → Bool
  | .non => true
  | .bl _ => true
  | .int _ => true
  | .str _ => true
  | .fn _ => true
  | _ => false
theorem Rp.scal {G : Gc} {F F' : Hp} {d : D} {v : V} (h : Rp G F d v) (hs : d.scal = true) : Rp G F' d v := by
  cases h with
  | non => exact .non
  | bl b => exact .bl b
  | int i => exact .int i
  | str x => exact .str x
  | fn e => exact .fn e
  | _ => cases hs
theorem RpL.scal {G : Gc} {F F' : Hp} : ∀ {ds : List D} {vs : List V}, RpL G F ds vs → ds.all D.scal = true → RpL G F' ds vs
  | _, _, .nil, _ => .nil
  | _, _, .cons h r, e => by
    rw [List.all_cons, Bool.and_eq_true] at e
    exact .cons (h.scal e.1) (RpL.scal r e.2)
def mScal (m : Env → R D) : Env → R D := fun ρ => (m ρ).bind fun d => if d.scal = true then .ok d else .bad
def mScalL (m : Env → R D) : Env → R D := fun ρ => (m ρ).bind fun d => match d with
  | .lst ds => if ds.all D.scal = true then .ok d else .bad
  | .iset xs => .ok d
  | _ => .bad
section
variable {G : Gc} {W : WX} {B F0 F F' H H' : Hp} {o o1 o2 oL oI : List Nat} {σ : L2.St} {ρ : Env} {i : Nat}
/-- F without a -/
def cutA (F : Hp) (a : Addr) : Hp := fun b => if b = a then none else F b
theorem cutA_ne {F : Hp} {a b : Addr} (h : b ≠ a) : cutA F a b = F b := if_neg h
theorem cutA_same {F : Hp} {a : Addr} : cutA F a a = none := if_pos rfl
theorem cutA_some {F : Hp} {a b : Addr} {u : HO} (h : cutA F a b = some u) : b ≠ a ∧ F b = some u := by
  unfold cutA at h
  split at h
  · cases h
  · rename_i hb; exact ⟨hb, h⟩
/-- what holds again behind the borrowing -/
theorem Rel.back {a : Addr} {d : D} {u : HO} (r : Rel G B F0 F H o σ ρ) (hi : i ∈ o) (hd : ρ[i]? = some (some d)) (hs : σ[i]? = some (some (.ref a))) (e : Gr (upd F a u) H F' H') (r' : Rel G B F0 F' H' (o.filter (· != i)) σ ρ) :
    Gr F H (cutA F' a) H' ∧ Rel G B F0 (cutA F' a) H' o σ ρ := by
  obtain ⟨b, q1, q2, q3, q4⟩ := r.ow i d hd hi
  rw [hs] at q1; cases q1
  have ne : ∀ {b u}, F b = some u → b ≠ a := fun {b u} q => ne_of_none q q3
  have le : Le F (cutA F' a) := by
    refine ⟨⟨fun b u p q => ?_, fun b u p q => ?_⟩, fun b x u q => ?_⟩
    · have hb : b ≠ a := by rcases q with q | ⟨x, q⟩ <;> exact ne q
      have q' := e.le.rd b u p (by
        rcases q with q | ⟨x, q⟩
        · exact .inl (by rw [upd_ne hb]; exact q)
        · exact .inr ⟨x, by rw [upd_ne hb]; exact q⟩)
      rcases q' with z | ⟨x, z⟩
      · exact .inl (by rw [cutA_ne hb]; exact z)
      · exact .inr ⟨x, by rw [cutA_ne hb]; exact z⟩
    · rw [cutA_ne (ne q)]
      exact e.le.ex b u p (by rw [upd_ne (ne q)]; exact q)
    · rw [cutA_ne (ne q)]
      exact e.le.fz b x u (by rw [upd_ne (ne q)]; exact q)
  refine ⟨⟨le, e.same⟩, ⟨⟨fun b w q => r'.core.fh b w (cutA_some q).2, r'.core.bh, fun b q => r'.core.nf b fun z => q ?_, r'.core.f0⟩, r.len, fun j f h1 h2 => let ⟨v, x, y⟩ := r.sh j f h1 h2; ⟨v, x, y.mono le⟩, fun j f h1 h2 => ?_, r.dj⟩⟩
  · unfold cutA; split
    · rfl
    · exact z
  · obtain ⟨b, x1, x2, x3, x4⟩ := r.ow j f h1 h2
    refine ⟨b, x1, x2.mono le (e.same b), ?_, x4⟩
    by_cases hj : j = i
    · subst hj
      rw [hs] at x1; cases x1
      exact cutA_same
    · have hb : b ≠ a := fun z => r.dj j i f d a hj h2 hi h1 hd (by rw [← z]; exact x1) hs
      obtain ⟨b', y1, y2, y3, y4⟩ := r'.ow j f h1 (List.mem_filter.mpr ⟨h2, by simpa using hj⟩)
      rw [x1] at y1; cases y1
      rw [cutA_ne hb]
      exact y3
/-- what is lent: the slot's object may be read by everybody -/
theorem Rel.lend {d : D} (r : Rel G B F0 F H o σ ρ) (hi : i ∈ o) (hd : ρ[i]? = some (some d)) : ∃ a u, σ[i]? = some (some (.ref a)) ∧ F a = none ∧ H a = some u ∧ Le F (upd F a u) ∧ Rel G B F0 (upd F a u) H (o.filter (· != i)) σ ρ := by
  obtain ⟨a, q1, q2, q3, q4⟩ := r.ow i d hd hi
  obtain ⟨u, hu⟩ := q2.there
  have mem : ∀ {j}, j ∈ o.filter (· != i) → j ∈ o ∧ j ≠ i := fun {j} h => by
    rw [List.mem_filter] at h; exact ⟨h.1, by simpa using h.2⟩
  have e := Le.upd (u := u) q3
  refine ⟨a, u, q1, q3, hu, e, ⟨⟨fun b w q => ?_, r.core.bh, fun b q => ?_, r.core.f0⟩, r.len, fun j f h1 h2 => ?_, fun j f h1 h2 => ?_, fun j k f g b h1 h2 h3 => r.dj j k f g b h1 (mem h2).1 (mem h3).1⟩⟩
  · by_cases hb : b = a
    · subst hb; rw [upd_same] at q; cases q; exact hu
    · rw [upd_ne hb] at q; exact r.core.fh b w q
  · by_cases hb : b = a
    · subst hb; exact .inr (.inl q4)
    · rw [upd_ne hb] at q; exact r.core.nf b q
  · by_cases hj : j = i
    · subst hj
      rw [hd] at h1; cases h1
      exact ⟨_, q1, q2.rp hu q3⟩
    · have h3 : j ∉ o := fun z => h2 (List.mem_filter.mpr ⟨z, by simpa using hj⟩)
      obtain ⟨v, x, y⟩ := r.sh j f h1 h3
      exact ⟨v, x, y.mono e⟩
  · obtain ⟨b, x1, x2, x3, x4⟩ := r.ow j f h1 (mem h2).1
    have hb : b ≠ a := fun z => r.dj j i f d a (mem h2).2 (mem h2).1 hi h1 hd (by rw [← z]; exact x1) q1
    exact ⟨b, x1, x2.mono e fun _ z => z, by rw [upd_ne hb]; exact x3, x4⟩
variable {t : TE} {m : Env → R D} {tt : TT} {mt : Env → R Bool}
theorem ExcEnd.back {u : HO} {a : Addr} {c : Str} {p : Option (Str × D)} (e : Le F (upd F a u)) (h : ExcEnd G W B F0 F σ ρ c p) : ExcEnd G W B F0 (upd F a u) σ ρ c p := fun F' H' cls dd le rel x => h F' H' cls dd (e.trans le) rel x
theorem mScal_res {r : R D} {f : D → R D} {G W} {B F0 F H : Hp} {o σ ρ} {k : D → Hp → Hp → Prop} (h : Res G W B F0 F H o σ ρ k (r.bind f)) : (∃ d, r = .ok d) ∨ ∃ c p, r = .exc c p ∧ ExcEnd G W B F0 F σ ρ c p := by
  cases r with
  | ok d => exact .inl ⟨d, rfl⟩
  | exc c p => exact .inr ⟨c, p, rfl, h⟩
  | bad => exact h.elim
theorem Rel.unk (r : Rel G B F0 F H o σ ρ) (h : ∀ d, ρ[i]? ≠ some (some d)) : Rel G B F0 F H (o.filter (· != i)) σ ρ := by
  have mem : ∀ {j}, j ∈ o.filter (· != i) → j ∈ o := fun {j} h => (List.mem_filter.mp h).1
  refine ⟨r.core, r.len, fun j f h1 h2 => r.sh j f h1 fun z => h2 (List.mem_filter.mpr ⟨z, ?_⟩), fun j f h1 h2 => r.ow j f h1 (mem h2), fun j k f g b h1 h2 h3 => r.dj j k f g b h1 (mem h2) (mem h3)⟩
  have : j ≠ i := fun q => h f (q ▸ h1)
  simpa using this
theorem Rel.unk' (r : Rel G B F0 F H (o.filter (· != i)) σ ρ) (h : ∀ d, ρ[i]? ≠ some (some d)) : Rel G B F0 F H o σ ρ := by
  have mem : ∀ {j f}, ρ[j]? = some (some f) → j ∈ o → j ∈ o.filter (· != i) := fun {j f} h1 h2 => List.mem_filter.mpr ⟨h2, by have : j ≠ i := fun q => h f (q ▸ h1); simpa using this⟩
  exact ⟨r.core, r.len, fun j f h1 h2 => r.sh j f h1 fun z => h2 (List.mem_filter.mp z).1, fun j f h1 h2 => r.ow j f h1 (mem h1 h2), fun j k f g b h1 h2 h3 h4 h5 => r.dj j k f g b h1 (mem h4 h2) (mem h5 h3) h4 h5⟩
theorem known_or (ρ : Env) (i : Nat) : (∃ d, ρ[i]? = some (some d)) ∨ ∀ d, ρ[i]? ≠ some (some d) := by
  cases h : ρ[i]? with
  | none => exact .inr fun d q => by cases q
  | some z =>
    cases z with
    | none => exact .inr fun d q => by cases q
    | some d => exact .inl ⟨d, rfl⟩
/-- an own slot is only read on the way to a scalar -/
theorem PuE.borrow (i : Nat) (hi : i ∈ o) (h : PuE G W (o.filter (· != i)) t (o.filter (· != i)) m) : PuE G W o t o (mScal m) := by
  intro B F0 F H σ ρ Q rel q
  unfold mScal at q
  rcases known_or ρ i with ⟨e, hρ⟩ | hρ
  · obtain ⟨a, u, h1, h2, h3, h4, h5⟩ := rel.lend hi hρ
    refine h h5 ?_
    cases hm : m ρ with
    | ok d =>
      rw [hm] at q
      have q' : Res G W B F0 F H o σ ρ (kE G Q) (if d.scal = true then .ok d else .bad) := q
      split at q'
      · rename_i hs
        intro F' H' gr r' v rv
        obtain ⟨g2, r2⟩ := rel.back hi hρ h1 gr r'
        exact q' _ H' g2 r2 v (rv.scal hs)
      · exact q'.elim
    | exc c p => rw [hm] at q; exact ExcEnd.back h4 q
    | bad => rw [hm] at q; exact q
  · refine h (rel.unk hρ) ?_
    cases hm : m ρ with
    | ok d =>
      rw [hm] at q
      have q' : Res G W B F0 F H o σ ρ (kE G Q) (if d.scal = true then .ok d else .bad) := q
      split at q'
      · exact fun F' H' gr r' v rv => q' F' H' gr (r'.unk' hρ) v rv
      · exact q'.elim
    | exc c p => rw [hm] at q; exact q
    | bad => rw [hm] at q; exact q
theorem PuT.borrow (i : Nat) (hi : i ∈ o) (h : PuT G W (o.filter (· != i)) tt (o.filter (· != i)) mt) : PuT G W o tt o mt := by
  intro B F0 F H σ ρ Q rel q
  rcases known_or ρ i with ⟨e, hρ⟩ | hρ
  · obtain ⟨a, u, h1, h2, h3, h4, h5⟩ := rel.lend hi hρ
    refine h h5 ?_
    cases hm : mt ρ with
    | ok d =>
      rw [hm] at q
      intro F' H' gr r'
      obtain ⟨g2, r2⟩ := rel.back hi hρ h1 gr r'
      exact q (cutA F' a) H' g2 r2
    | exc c p => rw [hm] at q; exact ExcEnd.back h4 q
    | bad => rw [hm] at q; exact q
  · refine h (rel.unk hρ) ?_
    cases hm : mt ρ with
    | ok d => rw [hm] at q; exact fun F' H' gr r' => q F' H' gr (r'.unk' hρ)
    | exc c p => rw [hm] at q; exact q
    | bad => rw [hm] at q; exact q
/-- .. on the way to a new list of scalars -/
theorem PuO.borrow (i : Nat) (hi : i ∈ o) (h : PuO G W (o.filter (· != i)) t (o.filter (· != i)) m) : PuO G W o t o (mScalL m) := by
  intro B F0 F H σ ρ Q rel q
  unfold mScalL at q
  have own : ∀ {d : D} {F' F2 H' : Hp} {a : Addr}, (∀ ds, d = .lst ds → ds.all D.scal = true) → (∀ tk ks ds, d ≠ .dic tk ks ds) → Own G F' H' d a → Own G F2 H' d a := fun {d F' F2 H' a} h1 h2 ow => by
    cases ow with
    | lst e r => exact .lst e (r.scal (h1 _ rfl))
    | iset e n => exact .iset e n
    | dicK _ _ _ => exact absurd rfl (h2 _ _ _)
    | dicT _ _ _ => exact absurd rfl (h2 _ _ _)
  have cond : ∀ {d : D}, Res G W B F0 F H o σ ρ (kO G B o σ ρ Q) (match d with
      | .lst ds => if ds.all D.scal = true then .ok d else .bad
      | .iset xs => .ok d
      | _ => .bad) → (∀ ds, d = .lst ds → ds.all D.scal = true) ∧ (∀ tk ks ds, d ≠ .dic tk ks ds) ∧ Res G W B F0 F H o σ ρ (kO G B o σ ρ Q) (.ok d) := fun {d} q => by
    cases d with
    | lst ds =>
      have q' : Res G W B F0 F H o σ ρ (kO G B o σ ρ Q) (if ds.all D.scal = true then .ok (.lst ds) else .bad) := q
      split at q'
      · rename_i hs
        exact ⟨fun _ e => (by cases e; exact hs), fun _ _ _ e => (by cases e), q'⟩
      · exact q'.elim
    | iset xs => exact ⟨fun _ e => (by cases e), fun _ _ _ e => (by cases e), q⟩
    | _ => exact q.elim
  rcases known_or ρ i with ⟨e, hρ⟩ | hρ
  · obtain ⟨a, u, h1, h2, h3, h4, h5⟩ := rel.lend hi hρ
    refine h h5 ?_
    cases hm : m ρ with
    | ok d =>
      rw [hm] at q
      obtain ⟨c1, c2, q'⟩ := cond q
      intro F' H' gr r' b ow fb bb ap
      obtain ⟨g2, r2⟩ := rel.back hi hρ h1 gr r'
      have hb : b ≠ a := fun z => by
        have y := gr.le.rd a u
        subst z
        have k1 : F' b = none := fb
        have k2 : (upd F b u) b = some u := upd_same
        cases u with
        | frz o' u' => rw [gr.le.fz b o' u' k2] at k1; cases k1
        | _ =>
          rcases y rfl (.inl k2) with z | ⟨o', z⟩
          · rw [z] at k1; cases k1
          · rw [z] at k1; cases k1
      refine q' _ H' g2 r2 b (own c1 c2 ow) (by rw [cutA_ne hb]; exact fb) bb fun j f hj hf hs => ?_
      by_cases hij : j = i
      · subst hij
        rw [h1] at hs; cases hs
        exact hb rfl
      · exact ap j f (List.mem_filter.mpr ⟨hj, by simpa using hij⟩) hf hs
    | exc c p => rw [hm] at q; exact ExcEnd.back h4 q
    | bad => rw [hm] at q; exact q
  · refine h (rel.unk hρ) ?_
    cases hm : m ρ with
    | ok d =>
      rw [hm] at q
      obtain ⟨c1, c2, q'⟩ := cond q
      intro F' H' gr r' b ow fb bb ap
      refine q' F' H' gr (r'.unk' hρ) b ow fb bb fun j f hj hf hs => ?_
      by_cases hij : j = i
      · subst hij; exact hρ f hf
      · exact ap j f (List.mem_filter.mpr ⟨hj, by simpa using hij⟩) hf hs
    | exc c p => rw [hm] at q; exact q
    | bad => rw [hm] at q; exact q
/-- own objects are given away ahead of an expression -/
theorem PuE.weak0 (l : List Nat) (h : PuE G W (o.filter fun j => !l.contains j) t o1 m) : PuE G W o t o1 m := by
  intro B F0 F H σ ρ Q rel q
  obtain ⟨F2, e2, r2⟩ := Rel.giveAll l rel
  exact h r2 (q.mono ⟨e2, Same.refl H⟩)
theorem PuT.weak0 (l : List Nat) (h : PuT G W (o.filter fun j => !l.contains j) tt o1 mt) : PuT G W o tt o1 mt := by
  intro B F0 F H σ ρ Q rel q
  obtain ⟨F2, e2, r2⟩ := Rel.giveAll l rel
  exact h r2 (q.mono ⟨e2, Same.refl H⟩)
theorem PuO.weak0 (l : List Nat) (h : PuO G W (o.filter fun j => !l.contains j) t o1 m) : PuO G W o t o1 m := by
  intro B F0 F H σ ρ Q rel q
  obtain ⟨F2, e2, r2⟩ := Rel.giveAll l rel
  exact h r2 (q.mono ⟨e2, Same.refl H⟩)
end

/-! ### what is walked -/
/-- the iterator J gives the plain values ds, one behind another, whatever is laid meanwhile -/
def Yields (G : Gc) (F1 : Hp) (J : It) (ds : List D) : Prop := ∀ F2 H2, Le F1 F2 → (∀ a u, F2 a = some u → H2 a = some u) →
  (∀ i, i < ds.length → J.go i H2) ∧ J.stop ds.length H2 ∧ ∀ (i : Nat) d x H3, ds[i]? = some d → J.yld i H2 x H3 →
    ∃ F3, Gr F2 H2 F3 H3 ∧ (∀ a u, F3 a = some u → H3 a = some u) ∧ (∀ a, F3 a ≠ none → F2 a ≠ none ∨ Gn H2 a) ∧ Rp G F3 d x
def PuI (G : Gc) (W : WX) (o : List Nat) (wi : TI) (o' : List Nat) (mi : Env → R (List D)) : Prop :=
  ∀ {B F0 F H : Hp} {σ : L2.St} {ρ : Env} {K : It → Hp → Prop}, Rel G B F0 F H o σ ρ → Res G W B F0 F H o' σ ρ (fun ds F' H' => ∀ J, Yields G F' J ds → K J H') (mi ρ) → wi σ H K
def loopD (f : D → Env → Out) : List D → Env → Out
  | [], ρ => .nx ρ
  | d :: ds, ρ => match f d ρ with
    | .nx ρ' => loopD f ds ρ'
    | .ct ρ' => loopD f ds ρ'
    | .bk ρ' => .nx ρ'
    | x => x
def stepD (mg : D → Env → R Env) (mb : Env → Out) : D → Env → Out := fun d ρ => match mg d ρ with
  | .ok ρ' => mb ρ'
  | _ => .bad
def mFor (mi : Env → R (List D)) (mg : D → Env → R Env) (mb : Env → Out) : Env → Out := fun ρ => oBind (mi ρ) ρ fun ds => loopD (stepD mg mb) ds ρ
def whileN (c : Env → R Bool) (b : Env → Out) : Nat → Env → Out
  | 0, _ => .bad
  | n + 1, ρ => oBind (c ρ) ρ fun x => bif x then (match b ρ with
    | .nx ρ' => whileN c b n ρ'
    | .ct ρ' => whileN c b n ρ'
    | .bk ρ' => .nx ρ'
    | x => x) else .nx ρ
def bigN : Nat := 1000000000
def mWhile (c : Env → R Bool) (b : Env → Out) : Env → Out := whileN c b bigN
section
variable {G : Gc} {W : WX} {o o1 oL oI : List Nat} {wi : TI} {g : TG} {tb : TS} {tc : TT} {mi : Env → R (List D)} {mg : D → Env → R Env} {mb : Env → Out} {mc : Env → R Bool}
theorem PuS.forS (hi : PuI G W o wi oI mi) (hg : PuG G oI g oI mg) (hb : PuS G W oI oI tb oI mb) : PuS G W oL o (tFor wi g tb) oI (mFor mi mg mb) := by
  intro B F0 F H σ ρ X rel h
  refine hi rel ((Post.res h).imp fun ds F1 H1 e1 r1 q J Y => ?_)
  let Inv : Nat → L2.St → Hp → Prop := fun i σ' H' => ∃ F' ρ', Le F1 F' ∧ Rel G B F0 F' H' oI σ' ρ' ∧ Post G W B F0 F' oL oI X (loopD (stepD mg mb) (ds.drop i) ρ')
  refine ⟨fun i m σ' H' => m = ds.length - i ∧ i ≤ ds.length ∧ Inv i σ' H', ⟨ds.length, by simp, Nat.zero_le _, F1, ρ, Le.refl F1, r1, by simpa using q⟩, ?_⟩
  rintro i m σ' H' ⟨rfl, hle, F', ρ', le, r', p⟩
  obtain ⟨y1, y2, y3⟩ := Y F' H' le r'.core.fh
  by_cases hlt : i < ds.length
  · have hd : ds[i]? = some ds[i] := List.getElem?_eq_getElem hlt
    rw [List.drop_eq_getElem_cons hlt] at p
    refine .inr ⟨y1 i hlt, Inv (i + 1), fun σ2 H2 I2 => ⟨ds.length - (i + 1), by omega, rfl, hlt, I2⟩, fun x H3 hy => ?_⟩
    obtain ⟨F3, g3, f3, n3, rv⟩ := y3 i ds[i] x H3 hd hy
    have r3 := r'.grow g3.le f3 g3.same n3
    have p3 := Post.mono g3.le p
    have p4 : Post G W B F0 F3 oL oI X (match stepD mg mb ds[i] ρ' with
      | .nx ρ' => loopD (stepD mg mb) (ds.drop (i + 1)) ρ'
      | .ct ρ' => loopD (stepD mg mb) (ds.drop (i + 1)) ρ'
      | .bk ρ' => .nx ρ'
      | x => x) := p3
    unfold stepD at p4
    cases hm : mg ds[i] ρ' with
    | ok ρ2 =>
      rw [hm] at p4
      refine hg r3 rv ⟨ρ2, hm, fun σ2 r2 => hb r2 ?_⟩
      change Post G W B F0 F3 oL oI X (match mb ρ2 with
        | .nx ρ' => loopD (stepD mg mb) (ds.drop (i + 1)) ρ'
        | .ct ρ' => loopD (stepD mg mb) (ds.drop (i + 1)) ρ'
        | .bk ρ' => .nx ρ'
        | x => x) at p4
      cases hb2 : mb ρ2 with
      | nx ρ5 => rw [hb2] at p4; exact fun F5 H5 σ5 l5 r5 => ⟨F5, ρ5, (le.trans g3.le).trans l5, r5, Post.mono l5 p4⟩
      | ct ρ5 => rw [hb2] at p4; exact fun F5 H5 σ5 l5 r5 => ⟨F5, ρ5, (le.trans g3.le).trans l5, r5, Post.mono l5 p4⟩
      | bk ρ5 => rw [hb2] at p4; exact fun F5 H5 σ5 l5 r5 => p4 F5 H5 σ5 l5 r5
      | rt d => rw [hb2] at p4; exact p4
      | exc c q ρ5 => rw [hb2] at p4; exact p4
      | bad => rw [hb2] at p4; exact p4.elim
    | exc c q => rw [hm] at p4; exact p4.elim
    | bad => rw [hm] at p4; exact p4.elim
  · have e : i = ds.length := by omega
    subst e
    rw [List.drop_length] at p
    exact .inl ⟨y2, p F' H' σ' (Le.refl F') r'⟩
theorem PuS.whileS (hc : PuT G W o tc o mc) (hb : PuS G W o o tb o mb) : PuS G W oL o (tWhile tc tb) o (mWhile mc mb) := by
  intro B F0 F H σ ρ X rel h
  let Inv : Nat → L2.St → Hp → Prop := fun n σ' H' => ∃ F' ρ', Le F F' ∧ Rel G B F0 F' H' o σ' ρ' ∧ Post G W B F0 F' oL o X (whileN mc mb n ρ')
  refine ⟨Inv, ⟨bigN, F, ρ, Le.refl F, rel, h⟩, ?_⟩
  rintro n σ' H' ⟨F', ρ', le, r', p⟩
  cases n with
  | zero => exact p.elim
  | succ n =>
    have p' : Post G W B F0 F' oL o X (oBind (mc ρ') ρ' fun x => bif x then (match mb ρ' with
      | .nx ρ' => whileN mc mb n ρ'
      | .ct ρ' => whileN mc mb n ρ'
      | .bk ρ' => .nx ρ'
      | x => x) else .nx ρ') := p
    refine hc r' ((Post.res p').imp fun b F1 H1 e1 r1 q => ?_)
    cases b with
    | false => exact q F1 H1 σ' (Le.refl F1) r1
    | true =>
      refine ⟨Inv n, fun σ2 H2 I2 => ⟨n, Nat.lt_succ_self n, I2⟩, hb r1 ?_⟩
      have q' : Post G W B F0 F1 oL o X (match mb ρ' with
        | .nx ρ' => whileN mc mb n ρ'
        | .ct ρ' => whileN mc mb n ρ'
        | .bk ρ' => .nx ρ'
        | x => x) := q
      cases hb2 : mb ρ' with
      | nx ρ5 => rw [hb2] at q'; exact fun F5 H5 σ5 l5 r5 => ⟨F5, ρ5, (le.trans e1.le).trans l5, r5, Post.mono l5 q'⟩
      | ct ρ5 => rw [hb2] at q'; exact fun F5 H5 σ5 l5 r5 => ⟨F5, ρ5, (le.trans e1.le).trans l5, r5, Post.mono l5 q'⟩
      | bk ρ5 => rw [hb2] at q'; exact q'
      | rt d => rw [hb2] at q'; exact q'
      | exc c z ρ5 => rw [hb2] at q'; exact q'
      | bad => rw [hb2] at q'; exact q'.elim
end
end G
/-! S4: comprehensions, defs and their calls. -/
namespace G
open PySem L2

/-! ### slots forgotten -/
def wipeD (ρ : Env) : List Nat → Env
  | [] => ρ
  | v :: vs => (wipeD ρ vs).set v none
section
variable {G : Gc} {W W1 : WX} {B F0 F F' H H' : Hp} {o o1 o2 oL oI : List Nat} {σ σ2 : L2.St} {ρ ρ2 : Env}
theorem wipe_get (σ : L2.St) (j : Nat) : ∀ vs : List Nat, (wipe σ vs)[j]? = if j ∈ vs ∧ j < σ.length then some none else σ[j]?
  | [] => by simp [wipe]
  | v :: vs => by
    have ih := wipe_get σ j vs
    unfold wipe
    by_cases hj : v = j
    · subst hj
      by_cases hl : v < σ.length
      · rw [List.getElem?_set_self (by rw [wipe_length]; exact hl)]
        simp [hl]
      · rw [List.getElem?_eq_none (by rw [List.length_set, wipe_length]; omega)]
        simp [hl]
    · rw [List.getElem?_set_ne hj, ih]
      have : j ≠ v := fun q => hj q.symm
      simp [this]
theorem wipe_ext {σ σ2 : L2.St} (h : ∀ j : Nat, σ[j]? = σ2[j]?) : σ = σ2 := List.ext_getElem? h
theorem wipe_wipe (σ : L2.St) (vs : List Nat) : wipe (wipe σ vs) vs = wipe σ vs := wipe_ext fun j => by
  rw [wipe_get, wipe_get, wipe_length]
  split
  · rfl
  · rfl
theorem wipe_set {σ : L2.St} {i : Nat} {x : Option V} {vs : List Nat} (h : i ∈ vs) : wipe (σ.set i x) vs = wipe σ vs := wipe_ext fun j => by
  rw [wipe_get, wipe_get, List.length_set]
  by_cases hj : i = j
  · subst hj
    by_cases hl : i < σ.length
    · simp [h, hl]
    · simp [hl]
  · rw [List.getElem?_set_ne hj]
theorem wipeD_length (ρ : Env) : ∀ vs : List Nat, (wipeD ρ vs).length = ρ.length
  | [] => rfl
  | v :: vs => by unfold wipeD; rw [List.length_set, wipeD_length ρ vs]
theorem wipeD_get (σ : Env) (j : Nat) : ∀ vs : List Nat, (wipeD σ vs)[j]? = if j ∈ vs ∧ j < σ.length then some none else σ[j]?
  | [] => by simp [wipeD]
  | v :: vs => by
    have ih := wipeD_get σ j vs
    unfold wipeD
    by_cases hj : v = j
    · subst hj
      by_cases hl : v < σ.length
      · rw [List.getElem?_set_self (by rw [wipeD_length]; exact hl)]
        simp [hl]
      · rw [List.getElem?_eq_none (by rw [List.length_set, wipeD_length]; omega)]
        simp [hl]
    · rw [List.getElem?_set_ne hj, ih]
      have : j ≠ v := fun q => hj q.symm
      simp [this]
theorem wipeD_set {σ : Env} {i : Nat} {x : Option D} {vs : List Nat} (h : i ∈ vs) : wipeD (σ.set i x) vs = wipeD σ vs := List.ext_getElem? fun j => by
  rw [wipeD_get, wipeD_get, List.length_set]
  by_cases hj : i = j
  · subst hj
    by_cases hl : i < σ.length
    · simp [h, hl]
    · simp [hl]
  · rw [List.getElem?_set_ne hj]
theorem wipeD_wipeD (ρ : Env) (vs : List Nat) : wipeD (wipeD ρ vs) vs = wipeD ρ vs := List.ext_getElem? fun j => by
  rw [wipeD_get, wipeD_get, wipeD_length]
  split
  · rfl
  · rfl
theorem Rel.wiped (r : Rel G B F0 F H o σ ρ) : ∀ vs : List Nat, Rel G B F0 F H o (wipe σ vs) (wipeD ρ vs)
  | [] => r
  | v :: vs => (Rel.wiped r vs).forget none
/-- a target keeps to the block's own names -/
def GW (g : TG) (mg : D → Env → R Env) (vs : List Nat) : Prop := (∀ v σ H (K : L2.St → Hp → Prop), g v σ H (fun σ2 H2 => wipe σ2 vs = wipe σ vs → K σ2 H2) → g v σ H fun σ2 H2 => wipe σ2 vs = wipe σ vs ∧ K σ2 H2) ∧ ∀ d ρ ρ', mg d ρ = .ok ρ' → wipeD ρ' vs = wipeD ρ vs
def GWs (g : TGs) (mg : List D → Env → R Env) (vs : List Nat) : Prop := (∀ v σ H (K : L2.St → Hp → Prop), g v σ H (fun σ2 H2 => wipe σ2 vs = wipe σ vs → K σ2 H2) → g v σ H fun σ2 H2 => wipe σ2 vs = wipe σ vs ∧ K σ2 H2) ∧ ∀ d ρ ρ', mg d ρ = .ok ρ' → wipeD ρ' vs = wipeD ρ vs
theorem GW.name {i : Nat} {vs : List Nat} (h : i ∈ vs) : GW (gName i) (gnName i) vs := ⟨fun _ _ _ _ k => ⟨wipe_set h, k (wipe_set h)⟩, fun _ _ _ e => by cases e; exact wipeD_set h⟩
theorem GWs.nil {vs : List Nat} : GWs gNil gnNil vs := ⟨fun _ _ _ _ ⟨e, k⟩ => ⟨e, rfl, k rfl⟩, fun d ρ ρ' e => by
  cases d with
  | nil => cases e; rfl
  | cons _ _ => cases e⟩
theorem GWs.cons {vs : List Nat} {g : TG} {gs : TGs} {mg : D → Env → R Env} {mgs : List D → Env → R Env} (h1 : GW g mg vs) (h2 : GWs gs mgs vs) (hm : ∀ v σ H (K K' : L2.St → Hp → Prop), (∀ σ' H', K σ' H' → K' σ' H') → g v σ H K → g v σ H K') : GWs (gCons g gs) (gnCons mg mgs) vs := by
  refine ⟨fun v σ H K ⟨x, r, e, k⟩ => ⟨x, r, e, ?_⟩, fun d ρ ρ' e => ?_⟩
  · refine hm _ _ _ _ _ (fun σ' H' q => q.2) (h1.1 _ _ _ (fun σ' H' => gs r σ' H' fun σ2 H2 => wipe σ2 vs = wipe σ vs ∧ K σ2 H2) (hm _ _ _ _ _ (fun σ' H' q eq => ?_) k))
    have q' : gs r σ' H' fun σ2 H2 => wipe σ2 vs = wipe σ' vs → K σ2 H2 := by rw [eq]; exact q
    have z := h2.1 _ _ _ _ q'
    rw [eq] at z
    exact z
  · cases d with
    | nil => cases e
    | cons d ds =>
      have e' : (mg d ρ).bind (fun ρ' => mgs ds ρ') = .ok ρ' := e
      cases q : mg d ρ with
      | ok ρ1 => rw [q] at e'; exact (h2.2 _ _ _ e').trans (h1.2 _ _ _ q)
      | exc c p => rw [q] at e'; cases e'
      | bad => rw [q] at e'; cases e'
theorem gName_mono {i : Nat} : ∀ (v : V) (σ : L2.St) (H : Hp) (K K' : L2.St → Hp → Prop), (∀ σ' H', K σ' H' → K' σ' H') → gName i v σ H K → gName i v σ H K' := fun _ _ _ _ _ h k => h _ _ k
theorem GW.tup {vs : List Nat} {K : PySem.W.Frag} {n : Nat} {gs : TGs} {mgs : List D → Env → R Env} (h : GWs gs mgs vs) : GW (gTup K n gs) (gnTup n mgs) vs := by
  refine ⟨fun v σ H K ⟨a, xs, e, s, l, k⟩ => ⟨a, xs, e, s, l, h.1 _ _ _ _ k⟩, fun d ρ ρ' e => ?_⟩
  cases d with
  | tup ds =>
    have e' : (if ds.length = n then mgs ds ρ else .bad) = .ok ρ' := e
    split at e'
    · exact h.2 _ _ _ e'
    · cases e'
  | ktup ds =>
    have e' : (if ds.length = n then mgs ds ρ else .bad) = .ok ρ' := e
    split at e'
    · exact h.2 _ _ _ e'
    · cases e'
  | _ => cases e
/-! ### an object that the construct itself holds -/
theorem Rel.guard {a : Addr} {u : HO} (r : Rel G B F0 F H o σ ρ) (hu : H a = some u) (hf : F a = none) (ap : Apart o σ ρ a) : Rel G (upd B a u) F0 F H o σ ρ := by
  refine ⟨⟨r.core.fh, fun b w q => ?_, fun b q => ?_, fun b q => ?_⟩, r.len, r.sh, fun i d h1 h2 => ?_, r.dj⟩
  · by_cases hb : b = a
    · subst hb; rw [upd_same] at q; cases q; exact hu
    · rw [upd_ne hb] at q; exact r.core.bh b w q
  · have hb : b ≠ a := fun z => q (by rw [z]; exact hf)
    unfold Gn
    rw [upd_ne hb]
    exact r.core.nf b q
  · by_cases hb : b = a
    · subst hb; rw [upd_same]; simp
    · rw [upd_ne hb]; exact r.core.f0 b q
  · obtain ⟨b, q1, q2, q3, q4⟩ := r.ow i d h1 h2
    have hb : b ≠ a := fun z => ap i d h2 h1 (by rw [← z]; exact q1)
    exact ⟨b, q1, q2, q3, by rw [upd_ne hb]; exact q4⟩
theorem Rel.unguard {a : Addr} {u : HO} (r : Rel G (upd B a u) F0 F H o σ ρ) (hb : B a = none) (h0 : F0 a = none) (hB : ∀ b, F0 b ≠ none → B b ≠ none) (hu : ∀ xs, u ≠ HO.tup xs) : Rel G B F0 F H o σ ρ ∧ H a = some u ∧ F a = none ∧ Apart o σ ρ a := by
  have fa : F a = none := by
    cases q : F a with
    | none => rfl
    | some w =>
      rcases r.core.nf a (by rw [q]; simp) with z | z | ⟨xs, z⟩
      · exact absurd h0 z
      · rw [upd_same] at z; cases z
      · rw [upd_same] at z; cases z; exact absurd rfl (hu xs)
  refine ⟨⟨⟨r.core.fh, fun b w q => r.core.bh b w (by rw [upd_ne (ne_of_none q hb)]; exact q), fun b q => ?_, hB⟩, r.len, r.sh, fun i d h1 h2 => ?_, r.dj⟩, r.core.bh a u upd_same, fa, fun i d h1 h2 h3 => ?_⟩
  · rcases r.core.nf b q with z | z
    · exact .inl z
    · by_cases hba : b = a
      · subst hba; exact .inr (.inl hb)
      · unfold Gn at z; rw [upd_ne hba] at z; exact .inr z
  · obtain ⟨b, q1, q2, q3, q4⟩ := r.ow i d h1 h2
    refine ⟨b, q1, q2, q3, ?_⟩
    by_cases hba : b = a
    · subst hba; exact hb
    · rw [upd_ne hba] at q4; exact q4
  · obtain ⟨b, q1, q2, q3, q4⟩ := r.ow i d h2 h1
    rw [h3] at q1; cases q1
    rw [upd_same] at q4; cases q4
theorem Rel.chg {a : Addr} {u : HO} (r : Rel G B F0 F H o σ ρ) (hf : F a = none) (hb : B a = none) (ap : Apart o σ ρ a) : Rel G B F0 F (upd H a u) o σ ρ := by
  refine ⟨⟨fun b w q => ?_, fun b w q => ?_, r.core.nf, r.core.f0⟩, r.len, r.sh, fun i d h1 h2 => ?_, r.dj⟩
  · rw [upd_ne (ne_of_none q hf)]; exact r.core.fh b w q
  · rw [upd_ne (ne_of_none q hb)]; exact r.core.bh b w q
  · obtain ⟨b, q1, q2, q3, q4⟩ := r.ow i d h1 h2
    have hba : b ≠ a := fun z => ap i d h2 h1 (by rw [← z]; exact q1)
    exact ⟨b, q1, q2.mono (Le.refl F) fun w q => by rw [upd_ne hba]; exact q, q3, q4⟩
theorem Rel.unwipe {vs : List Nat} (r : Rel G B F0 F H o σ ρ) (r' : Rel G B F0 F' H' o (wipe σ vs) (wipeD ρ vs)) (le : Le F F') (hv : ∀ i, i ∈ vs → i ∉ o) : Rel G B F0 F' H' o σ ρ := by
  refine ⟨r'.core, r.len, fun i d h1 h2 => let ⟨v, x, y⟩ := r.sh i d h1 h2; ⟨v, x, y.mono le⟩, fun i d h1 h2 => ?_, r.dj⟩
  have hi : i ∉ vs := fun z => hv i z h2
  obtain ⟨a, q1, q2, q3, q4⟩ := r'.ow i d (by rw [wipeD_get, if_neg fun z => hi z.1]; exact h1) h2
  rw [wipe_get, if_neg fun z => hi z.1] at q1
  exact ⟨a, q1, q2, q3, q4⟩
/-! ### a list comprehension -/
def R.val {α : Type} (r : R α) : R α := match r with
  | .ok a => .ok a
  | _ => .bad
def lcD (mg : D → Env → R Env) (mt : Env → R Bool) (me : Env → R D) : List D → Env → R (List D)
  | [], _ => .ok []
  | d :: ds, ρ => (mg d ρ).val.bind fun ρ' => (mt ρ').val.bind fun b => bif b then (me ρ').val.bind fun x => (lcD mg mt me ds ρ).bind fun xs => .ok (x :: xs) else lcD mg mt me ds ρ
def mLc (vs : List Nat) (mi : Env → R (List D)) (mg : D → Env → R Env) (mt : Env → R Bool) (me : Env → R D) : Env → R D := fun ρ =>
  (mi ρ).bind fun ds => (lcD mg mt me ds (wipeD ρ vs)).val.bind fun xs => if xs.length ≤ sizeLine then .ok (.lst xs) else .bad
def mYes : Env → R Bool := fun _ => .ok true
theorem PuT.yes : PuT G W o tYes o mYes := fun {_ _ F H _ _ _} r h => h F H (Gr.refl F H) r
theorem R.val_ok {α : Type} {r : R α} {a : α} (h : r.val = .ok a) : r = .ok a := by
  cases r with
  | ok b => exact h
  | exc c p => cases h
  | bad => cases h
theorem R.bind_eq {α β : Type} {r : R α} {f : α → R β} {b : β} (h : r.bind f = .ok b) : ∃ a, r = .ok a ∧ f a = .ok b := by
  cases r with
  | ok a => exact ⟨a, rfl, h⟩
  | exc c p => cases h
  | bad => cases h
variable {wi : TI} {g : TG} {tt : TT} {te : TE} {mi : Env → R (List D)} {mg : D → Env → R Env} {mt : Env → R Bool} {me : Env → R D}
theorem PuO.lc {vs : List Nat} (hi : PuI G W o wi o mi) (hv : ∀ i, i ∈ vs → i ∉ o) (hw : GW g mg vs) (hg : PuG G o g o mg) (ht : PuT G W1 o tt o mt) (he : PuE G W1 o te o me) : PuO G W o (tLc wi g tt te vs) o (mLc vs mi mg mt me) := by
  intro B F0 F H σ ρ Q rel h
  refine hi rel ((Res.bnd h).imp fun ds F1 H1 e1 r1 q J Y D hD => ?_)
  -- the whole list
  obtain ⟨xs, hxs, hlen, q⟩ : ∃ xs, lcD mg mt me ds (wipeD ρ vs) = .ok xs ∧ xs.length ≤ sizeLine ∧ Res G W B F0 F1 H1 o σ ρ (kO G B o σ ρ Q) (.ok (.lst xs)) := by
    cases hl : lcD mg mt me ds (wipeD ρ vs) with
    | ok xs =>
      rw [hl] at q
      have q' : Res G W B F0 F1 H1 o σ ρ (kO G B o σ ρ Q) (if xs.length ≤ sizeLine then .ok (.lst xs) else .bad) := q
      split at q'
      · rename_i hz; exact ⟨xs, rfl, hz, q'⟩
      · exact q'.elim
    | exc c p => rw [hl] at q; exact q.elim
    | bad => rw [hl] at q; exact q.elim
  obtain ⟨r1D, fD, bD, apD⟩ := r1.laidOwn (u := .lst []) hD
  have f0D : F0 D = none := by
    cases z : F0 D with
    | none => rfl
    | some w => exact absurd bD (r1.core.f0 D (by rw [z]; simp))
  have sD : Same H1 (upd H1 D (.lst [])) := fun b u z => by rw [upd_ne (ne_of_none z hD)]; exact z
  let Inv : Nat → Hp → Prop := fun i H' => ∃ F' acc accD rest, Le F1 F' ∧ Same H1 H' ∧ Rel G B F0 F' H' o (wipe σ vs) (wipeD ρ vs) ∧ H' D = some (.lst acc) ∧ RpL G F' accD acc ∧ F' D = none ∧ Apart o (wipe σ vs) (wipeD ρ vs) D ∧
    lcD mg mt me (ds.drop i) (wipeD ρ vs) = .ok rest ∧ accD ++ rest = xs
  have apW : Apart o (wipe σ vs) (wipeD ρ vs) D := fun i d h1 h2 h3 => by
    have hi : i ∉ vs := fun z => hv i z h1
    rw [wipeD_get, if_neg fun z => hi z.1] at h2
    rw [wipe_get, if_neg fun z => hi z.1] at h3
    exact apD i d h1 h2 h3
  refine ⟨fun i m H' => m = ds.length - i ∧ i ≤ ds.length ∧ Inv i H', ⟨ds.length, by simp, Nat.zero_le _, F1, [], [], xs, Le.refl F1, sD, r1D.wiped vs, upd_same, .nil, fD, apW, by simpa using hxs, rfl⟩, ?_⟩
  rintro i m H' ⟨rfl, hle, F', acc, accD, rest, le, sm, r', hacc, racc, fD', ap', hrest, happ⟩
  obtain ⟨y1, y2, y3⟩ := Y F' H' le r'.core.fh
  by_cases hlt : i < ds.length
  · have hd : ds[i]? = some ds[i] := List.getElem?_eq_getElem hlt
    rw [List.drop_eq_getElem_cons hlt] at hrest
    have hrest' : (mg ds[i] (wipeD ρ vs)).val.bind (fun ρ' => (mt ρ').val.bind fun b => bif b then (me ρ').val.bind fun x => (lcD mg mt me (ds.drop (i + 1)) (wipeD ρ vs)).bind fun xs => .ok (x :: xs) else lcD mg mt me (ds.drop (i + 1)) (wipeD ρ vs)) = .ok rest := hrest
    obtain ⟨ρ2, hm1, hm2⟩ := R.bind_eq hrest'
    obtain ⟨b, hb1, hb2⟩ := R.bind_eq hm2
    have hm1 := R.val_ok hm1
    have hb1 := R.val_ok hb1
    have hwd : wipeD ρ2 vs = wipeD ρ vs := (hw.2 _ _ _ hm1).trans (wipeD_wipeD ρ vs)
    refine .inr ⟨y1 i hlt, Inv (i + 1), fun H2 I2 => ⟨ds.length - (i + 1), by omega, rfl, hlt, I2⟩, fun x H3 hy => ?_⟩
    obtain ⟨F3, g3, f3, n3, rv⟩ := y3 i ds[i] x H3 hd hy
    have r3 := r'.grow g3.le f3 g3.same n3
    have h3D := g3.same D _ hacc
    have fD3 : F3 D = none := by
      cases z : F3 D with
      | none => rfl
      | some w =>
        rcases n3 D (by rw [z]; simp) with z | z | ⟨xs, z⟩
        · exact absurd fD' z
        · rw [hacc] at z; cases z
        · rw [hacc] at z; cases z
    have r3g := r3.guard h3D fD3 ap'
    have rw1 : wipe (wipe σ vs) vs = wipe σ vs := wipe_wipe σ vs
    have key := hw.1 x (wipe σ vs) H3 (fun σ2 H2 => tt σ2 H2 fun b H3 => if b = true then te σ2 H3 fun y H4 => ∃ acc, H4 D = some (.lst acc) ∧ acc.length < sizeLine ∧ Inv (i + 1) (upd H4 D (.lst (acc ++ [y]))) else Inv (i + 1) H3)
    rw [rw1] at key
    refine key (hg r3g rv ⟨ρ2, hm1, fun σ2 r2 hwip => ht r2 ?_⟩)
    rw [hb1]
    intro F4 H4 g4 r4
    -- what the invariant wants behind the turn, acc or one more
    have back : ∀ {F5 H5 : Hp}, Gr F3 H3 F5 H5 → Rel G (upd B D (.lst acc)) F0 F5 H5 o σ2 ρ2 → Le F1 F5 ∧ Same H1 H5 ∧ Rel G B F0 F5 H5 o (wipe σ vs) (wipeD ρ vs) ∧ H5 D = some (.lst acc) ∧ F5 D = none ∧ Apart o (wipe σ vs) (wipeD ρ vs) D := fun {F5 H5} g5 r5 => by
      obtain ⟨x1, x2, x3, x4⟩ := r5.unguard bD f0D r3.core.f0 (fun _ z => by cases z)
      have w1 := x1.wiped vs
      rw [hwip, hwd] at w1
      refine ⟨(le.trans g3.le).trans g5.le, (sm.trans g3.same).trans g5.same, w1, x2, x3, fun j f z1 z2 z3 => ?_⟩
      exact ap' j f z1 z2 z3
    cases b with
    | false =>
      obtain ⟨z1, z2, z3, z4, z5, z6⟩ := back g4 r4
      exact ⟨F4, acc, accD, rest, z1, z2, z3, z4, (racc.mono g3.le).mono g4.le, z5, z6, hb2, happ⟩
    | true =>
      have hb2' : (me ρ2).val.bind (fun x => (lcD mg mt me (ds.drop (i + 1)) (wipeD ρ vs)).bind fun xs => .ok (x :: xs)) = .ok rest := hb2
      obtain ⟨y, hy1, hy2⟩ := R.bind_eq hb2'
      obtain ⟨rest', hr1, hr2⟩ := R.bind_eq hy2
      cases hr2
      have hy1 := R.val_ok hy1
      refine he r4 ?_
      rw [hy1]
      intro F5 H5 g5 r5 yv ry
      obtain ⟨z1, z2, z3, z4, z5, z6⟩ := back (g4.trans g5) r5
      have hl : acc.length < sizeLine := by
        have h1 := racc.length
        have h2 : accD.length + (rest'.length + 1) ≤ sizeLine := by
          rw [← happ] at hlen
          simpa using hlen
        omega
      refine ⟨acc, z4, hl, F5, acc ++ [yv], accD ++ [y], rest', z1, fun c u q => ?_, z3.chg z5 bD z6, upd_same, RpL.append (((racc.mono g3.le).mono g4.le).mono g5.le) (.cons ry .nil), z5, z6, hr1, by rw [List.append_assoc]; exact happ⟩
      have hc : c ≠ D := ne_of_none q hD
      rw [upd_ne hc]
      exact z2 c u q
  · have e : i = ds.length := by omega
    subst e
    rw [List.drop_length] at hrest
    cases hrest
    rw [List.append_nil] at happ
    subst happ
    refine .inl ⟨y2, q F' H' ⟨le, sm⟩ (r1.unwipe r' le hv) D (.lst hacc racc) fD' bD apD⟩
end
end G
/-! S5: defs, their plain functions, their calls. -/
namespace G
open PySem L2

/-- a def as plain data: n parameters, k further slots, its body's function -/
structure DefM where
  n : Nat
  k : Nat
  body : Env → Out
def Out.res : Out → R D
  | .nx _ => .ok .non
  | .rt d => .ok d
  | .exc c p _ => .exc c p
  | _ => .bad
def DefM.fn (d : DefM) : List D → R D := fun ds => if ds.length = d.n then (d.body (ds.map some ++ List.replicate d.k none)).res else .bad
/-- what a call's plain result asks -/
def FEnd (G : Gc) (F H : Hp) (Q : VK) (E : XK) : R D → Prop
  | .ok d => ∀ F' H' v, Le F F' → Same H H' → (∀ a u, F' a = some u → H' a = some u) → (∀ a, F' a ≠ none → F a ≠ none ∨ Gn H a) → Rp G F' d v → Q v H'
  | .exc c p => ∀ F' H' cls dd, Le F F' → Same H H' → (∀ a u, F' a = some u → H' a = some u) → (∀ a, F' a ≠ none → F a ≠ none ∨ Gn H a) → ExcRep G F' H' c p cls dd → E cls dd H'
  | .bad => False
/-- the promise of a def: it computes fn -/
def spM (G : Gc) (n : Nat) (fn : List D → R D) : Sp := fun vs H Q E => ∃ F ds, (∀ a u, F a = some u → H a = some u) ∧ RpL G F ds vs ∧ ds.length = n ∧ FEnd G F H Q E (fn ds)
theorem spM_len {G : Gc} {n : Nat} {fn : List D → R D} {ps : List Str} (hn : ps.length = n) : ∀ vs H Q E, spM G n fn vs H Q E → vs.length = ps.length := fun vs H Q E ⟨F, ds, _, r, l, _⟩ => by rw [hn, ← l, r.length]
section
variable {G : Gc} {W : WX} {o o1 o2 : List Nat}
theorem rel_start {F H : Hp} {N : List Str} {vs : List V} {ds : List D} {k : Nat} (hf : ∀ a u, F a = some u → H a = some u) (r : RpL G F ds vs) (hk : N.length - vs.length = k) : Rel G H F F H [] (L2.start N vs) (ds.map some ++ List.replicate k none) := by
  refine ⟨⟨hf, fun _ _ q => q, fun _ q => .inl q, fun a q => ?_⟩, ?_, fun i d h1 _ => ?_, fun i d _ h => (by cases h), fun i j d e a _ h => (by cases h)⟩
  · cases z : F a with
    | none => exact absurd z q
    | some u => rw [hf a u z]; simp
  · unfold L2.start
    rw [List.length_append, List.length_append, List.length_map, List.length_map, List.length_replicate, List.length_replicate, hk, r.length]
  · have hl := r.length
    rcases Nat.lt_or_ge i ds.length with q | q
    · rw [List.getElem?_append_left (by rw [List.length_map]; exact q), List.getElem?_map] at h1
      cases z : ds[i]? with
      | none => rw [z] at h1; cases h1
      | some e =>
        rw [z] at h1; cases h1
        obtain ⟨v, h3, h4⟩ := r.get z
        refine ⟨v, ?_, h4⟩
        unfold L2.start
        rw [List.getElem?_append_left (by rw [List.length_map, ← hl]; exact q), List.getElem?_map, h3]
        rfl
    · rw [List.getElem?_append_right (by rw [List.length_map]; exact q)] at h1
      rw [List.getElem?_replicate] at h1
      split at h1 <;> cases h1
/-- a body's reading at the entry -/
theorem body_start {F H : Hp} {N : List Str} {vs : List V} {Q : VK} {E : XK} {t : TS} {o' : List Nat} {d : DefM} {ps : List Str} (hN : N.length - ps.length = d.k) (hp : ps.length = d.n) (hb : PuS G (fun cls dd _ H => E cls dd H) [] [] t o' d.body) (h : spM G d.n d.fn vs H Q E) :
    t { nx := fun _ H' => Q .non H', rt := Q } (L2.start N vs) H := by
  obtain ⟨F, ds, hf, r, hl, h⟩ := h
  have hv : vs.length = ps.length := by rw [← r.length, hl, hp]
  refine hb (rel_start (k := d.k) hf r (by rw [hv]; exact hN)) ?_
  have h' : FEnd G F H Q E (d.body (ds.map some ++ List.replicate d.k none)).res := by
    unfold DefM.fn at h
    rw [if_pos hl] at h
    exact h
  have nf : ∀ {F' H' : Hp}, Core H F F' H' → ∀ a, F' a ≠ none → F a ≠ none ∨ Gn H a := fun {F' H'} c a q => c.nf a q
  cases hm : d.body (ds.map some ++ List.replicate d.k none) with
  | nx ρ' => rw [hm] at h'; exact fun F' H' σ' le r' => h' F' H' .non le r'.core.bh r'.core.fh (nf r'.core) .non
  | rt e => rw [hm] at h'; exact fun F' H' v le c rv => h' F' H' v le c.bh c.fh (nf c) rv
  | exc c p ρ' => rw [hm] at h'; exact fun F' H' σ' cls dd le r' x => h' F' H' cls dd le r'.core.bh r'.core.fh (nf r'.core) x
  | bk ρ' => rw [hm] at h'; exact h'.elim
  | ct ρ' => rw [hm] at h'; exact h'.elim
  | bad => rw [hm] at h'; exact h'.elim
/-- what is asked of a def behind the top -/
structure Fd (P : Program) (w : World) (K : PySem.W.Frag) (mg : Str → Option Value) (base : Heap) (k : Nat) (x : Str) (ps : List Str) (f : Addr) (fd : FuncData) (fn : List D → R D) : Prop where
  ok : FnOk P w K mg base (L2N.CX P w) k f fd ps (spM ⟨K, mg⟩ ps.length fn)
  g : mg x = some (.ref f)
  kp : PySem.W.keepIn K (.ref f) = true
  b : Binds K fd ps []
/-- nothing is let out where nothing is wished -/
theorem FnOk.quiet {P : Program} {w : World} {K : PySem.W.Frag} {mg : Str → Option Value} {base : Heap} {k : Nat} {f : Addr} {fd : FuncData} {ps : List Str} {sp : Sp} (F : FnOk P w K mg base (L2N.CX P w) k f fd ps sp) :
    FnOk P w K mg base CX0 k f fd ps (fun vs H Q _ => sp vs H Q fun _ _ _ => False) := by
  refine ⟨fun vs H Q E h => F.len vs H Q _ h, fun A outer s H args us vs Q E hr e0 hb r h => ?_⟩
  refine codeAny_mono (F.run A outer s H args us vs Q (fun _ _ _ => False) hr e0 hb r h) fun r s' hq => ?_
  cases r with
  | ok fl => cases fl <;> exact hq
  | error e =>
    obtain ⟨_, _, _, _, _, _, _, _, _, _, _, _, z⟩ := hq
    exact z.elim
theorem FEnd.of_res {B F0 F H : Hp} {σ : L2.St} {ρ : Env} {Q : VK} {r : R D} (rel : Rel G B F0 F H o σ ρ) (h : Res G W B F0 F H o σ ρ (kE G Q) r) : FEnd G F H Q (fun cls dd H' => W cls dd σ H') r := by
  cases r with
  | ok d => exact fun F' H' v le sm fh nf rv => h F' H' ⟨le, sm⟩ (rel.grow le fh sm nf) v rv
  | exc c p =>
    exact fun F' H' cls dd le sm fh nf x => by
      obtain ⟨F2, e2, r2⟩ := (rel.grow le fh sm nf).bare
      refine h F2 H' cls dd (le.trans e2) r2 ?_
      obtain ⟨C, h1, h2, h3⟩ := x
      refine ⟨C, h1, h2, ?_⟩
      cases p with
      | none => exact h3
      | some q =>
        obtain ⟨a, v, y1, y2, y3⟩ := h3
        exact ⟨a, v, y1, y2, y3.mono e2⟩
  | bad => exact h.elim
variable {ts : TA} {ms : Env → R (List D)} {n : Nat} {fn : List D → R D}
/-- the callee wants just n values -/
def mCallN (n : Nat) (fn : List D → R D) (ms : Env → R (List D)) : Env → R D := fun ρ => (ms ρ).bind fun ds => if ds.length = n then fn ds else .bad
theorem PuE.call (hs : PuA G W o ts o1 ms) : PuE G W o (tCallS (spM G n fn) (WE W) ts) o1 (mCallN n fn ms) := by
  intro B F0 F H σ ρ Q rel h
  refine hs rel ((Res.bnd h).imp fun ds F1 H1 e1 r1 q vs rv => ?_)
  split at q
  · rename_i hl
    exact ⟨F1, ds, r1.core.fh, rv, hl, FEnd.of_res r1 q⟩
  · exact q.elim
/-- .. where nothing may be let out (a comprehension's block) -/
theorem PuE.call0 (hs : PuA G W o ts o1 ms) : PuE G W o (tCall (fun vs H Q _ => spM G n fn vs H Q fun _ _ _ => False) [] E0 ts) o1 (fun ρ => (ms ρ).bind fun ds => if ds.length = n then (fn ds).val else .bad) := by
  intro B F0 F H σ ρ Q rel h
  refine hs rel ((Res.bnd h).imp fun ds F1 H1 e1 r1 q vs rv => ?_)
  split at q
  · rename_i hl
    refine ⟨F1, ds, r1.core.fh, by rw [List.append_nil]; exact rv, hl, ?_⟩
    cases hf : fn ds with
    | ok d => rw [hf] at q; exact fun F' H' v le sm fh nf rv => q F' H' ⟨le, sm⟩ (r1.grow le fh sm nf) v rv
    | exc c p => rw [hf] at q; exact q.elim
    | bad => rw [hf] at q; exact q.elim
  · exact q.elim
end
end G
/-! E3: a tuple, once or not at all (tuple * 1, tuple * 0). -/
namespace TpM
open PySem PySem.Spec PyProof.Rows L2
abbrev Tob (xs : Array Value) (k : Nat) (e : Option Addr) (z : Array (Option Value)) : Obj := { cls := .type "tuple", dict := e, data := .seq xs k, slots := z }
theorem once (l : Addr) (xs : Array Value) (k : Nat) (e : Option Addr) (z : Array (Option Value)) (u : Tok) :
    Meets (Builtin.«tuple.__mul__» ⟨[.ref l, .int 1 u], []⟩) (fun _ R s => s.heap.get? l = some (Tob xs k e z) ∧ R (.ok (.ret (.ref l))) s) :=
  .of_wp fun prog w A R s h => by
    obtain ⟨hp, g, d, tk, os⟩ := s
    obtain ⟨hl, h⟩ := h
    have f1 := AutoSeq1.idx_int
    wp_walk using wpAny_loadPart' hl
    exact ⟨_, rfl, h⟩
theorem naught (l : Addr) (xs : Array Value) (hx : xs.isEmpty = false) (k : Nat) (e : Option Addr) (z : Array (Option Value)) (u : Tok) :
    Meets (Builtin.«tuple.__mul__» ⟨[.ref l, .int 0 u], []⟩) (fun _ R s => s.heap.get? l = some (Tob xs k e z) ∧ R (.ok (.ret (Value.ref s.heap.objs.size))) { s with heap := s.heap.push { cls := Value.type "tuple", data := Data.seq #[] }, toks := s.toks }) :=
  .of_wp fun prog w A R s h => by
    obtain ⟨hp, g, d, tk, os⟩ := s
    obtain ⟨hl, h⟩ := h
    have f1 := AutoSeq1.idx_int
    wp_walk using wpAny_loadPart' hl
    exact ⟨_, rfl, h⟩
def rTimes (K : PySem.W.Frag) : R2 := fun x y H Q => ∃ l k vs, x = .ref l ∧ y = .int k ∧ SqT K H l vs ∧ vs ≠ [] ∧ ((k = 1 ∧ Q (.ref l) H) ∨ (k = 0 ∧ ∀ p, H p = none → Q (.ref p) (upd H p (.tup []))))
theorem op_times {X : Cx} : OpR X (binaryOp .Mult) (rTimes X.K) := by
  intro pins s σ H x y v u Q I rx ry h
  obtain ⟨l, k, vs, rfl, rfl, hT, hne, hk⟩ := h
  cases rx
  obtain ⟨t, rfl⟩ := ry
  obtain ⟨its, r, ⟨⟨cls, dd, data, sl⟩, ho, hc, n, hd⟩, hs⟩ := I.tuple hT
  simp only at hc hd
  subst hc hd
  have hi : its.toArray.isEmpty = false := by
    cases its with
    | nil =>
      cases vs with
      | nil => exact absurd rfl hne
      | cons _ _ => cases r
    | cons a b => rfl
  rcases hk with ⟨rfl, q⟩ | ⟨rfl, q⟩
  · refine wpAny_binaryOp_repeat_ref (T := "tuple") (U := "int") (by decide) ⟨_, ho, rfl⟩ (fun s' => typeIs_int s' 1 t) noFill_tuple_mul F.fills_int_mul F.slot_int_rmul repeat_tuple F.slot_int_index.lookup ?_
    refine call_meets F.slot_int_rmul (typeIs_int s 1 t) F.entry_int_rmul (F.args_int_rmul_2 _ _) (int_rmul_tuple 1 t l its.toArray n dd sl) ⟨ho, rfl, ⟨_, ho, rfl⟩, ?_⟩
    refine call_meets F.slot_tuple_mul ⟨_, ho, rfl⟩ F.entry_tuple_mul (F.args_tuple_mul_2 _ _) (once l its.toArray n dd sl t) ⟨ho, ?_⟩
    exact ⟨.ref l, _, I, rfl, q⟩
  · refine wpAny_binaryOp_repeat_ref (T := "tuple") (U := "int") (by decide) ⟨_, ho, rfl⟩ (fun s' => typeIs_int s' 0 t) noFill_tuple_mul F.fills_int_mul F.slot_int_rmul repeat_tuple F.slot_int_index.lookup ?_
    refine call_meets F.slot_int_rmul (typeIs_int s 0 t) F.entry_int_rmul (F.args_int_rmul_2 _ _) (int_rmul_tuple 0 t l its.toArray n dd sl) ⟨ho, rfl, ⟨_, ho, rfl⟩, ?_⟩
    refine call_meets F.slot_tuple_mul ⟨_, ho, rfl⟩ F.entry_tuple_mul (F.args_tuple_mul_2 _ _) (naught l its.toArray hi n dd sl t) ⟨ho, ?_⟩
    refine ⟨.ref s.heap.objs.size, _, I.laid (t' := s.toks) (o := .tup []) (fun b ob w => Heap.get?_push_of_some _ w) (Nat.le_refl _) ?_, rfl, q _ (I.hok.fresh (Nat.le_refl _))⟩
    exact ⟨Nat.zero_le _, [], .nil, IsTup.new _ _⟩
end TpM
/-! S6: the operations on plain data, and the hand layer's rules for them. -/
namespace G
open PySem L2

section
variable {G : Gc} {W : WX} {B F0 F H : Hp} {o : List Nat} {σ : L2.St} {ρ : Env} {Q : VK}
theorem Res.here {d : D} {v : V} (h : Res G W B F0 F H o σ ρ (kE G Q) (.ok d)) (rel : Rel G B F0 F H o σ ρ) (rv : Rp G F d v) : Q v H := h F H (Gr.refl F H) rel v rv
theorem Res.new {d : D} {p : Addr} {u : HO} (h : Res G W B F0 F H o σ ρ (kE G Q) (.ok d)) (rel : Rel G B F0 F H o σ ρ) (hp : H p = none) (rv : ∀ F', Le F F' → F' p = some u → Rp G F' d (.ref p)) : Q (.ref p) (upd H p u) := by
  obtain ⟨e, r⟩ := rel.laid (u := u) hp
  exact h _ _ ⟨e, fun b w q => by rw [upd_ne (ne_of_none q hp)]; exact q⟩ r _ (rv _ e upd_same)
theorem Res.newO {d : D} {p : Addr} {u : HO} (h : Res G W B F0 F H o σ ρ (kO G B o σ ρ Q) (.ok d)) (rel : Rel G B F0 F H o σ ρ) (hp : H p = none) (rv : Own G F (upd H p u) d p) : Q (.ref p) (upd H p u) := by
  obtain ⟨r, f, b, ap⟩ := rel.laidOwn (u := u) hp
  exact h _ _ ⟨Le.refl F, fun c w q => by rw [upd_ne (ne_of_none q hp)]; exact q⟩ r p rv f b ap
/-- where a plain list, tuple stands -/
theorem Rel.lst {a : Addr} {vs : List V} (rel : Rel G B F0 F H o σ ρ) (h : F a = some (.lst vs)) : H a = some (.lst vs) := rel.core.fh _ _ h
theorem Rel.sqL {a : Addr} {vs : List V} (rel : Rel G B F0 F H o σ ρ) (h : SqL G.K F a vs) : SqL G.K H a vs := h.elim (fun q => .inl (q.elim (fun q => .inl (rel.core.fh _ _ q)) fun ⟨x, q⟩ => .inr ⟨x, rel.core.fh _ _ q⟩)) .inr
theorem Rel.sqT {a : Addr} {vs : List V} (rel : Rel G B F0 F H o σ ρ) (h : SqT G.K F a vs) : SqT G.K H a vs := h.elim (fun q => .inl (q.elim (fun q => .inl (rel.core.fh _ _ q)) fun ⟨x, q⟩ => .inr ⟨x, rel.core.fh _ _ q⟩)) .inr
theorem Rel.rd {a : Addr} {u : HO} (rel : Rel G B F0 F H o σ ρ) (h : Rd F a u) : Rd H a u := h.elim (fun q => .inl (rel.core.fh _ _ q)) fun ⟨x, q⟩ => .inr ⟨x, rel.core.fh _ _ q⟩
end

/-! ### numbers, texts, sequences put together -/
def D.add : D → D → R D
  | .int i, .int j => .ok (.int (i + j))
  | .str a, .str b => if a.length + b.length ≤ sizeLine then .ok (.str (a ++ b)) else .bad
  | .tup a, .tup b => if a.length + b.length ≤ sizeLine then .ok (.tup (a ++ b)) else .bad
  | .lst a, .lst b => if a.length + b.length ≤ sizeLine then .ok (.lst (a ++ b)) else .bad
  | _, _ => .bad
abbrev rAddAll (K : PySem.W.Frag) : R2 := fun x y H Q => (rI0 fun i j => V.int (i + j)) x y H Q ∨ ((∃ i j, x = V.str i ∧ y = V.str j ∧ i.length + j.length ≤ sizeLine ∧ Q (.str (i ++ j)) H) ∨ (rCatA K x y H Q ∨ rCat x y H Q))
theorem R.ifOk {α : Type} {c : Prop} [Decidable c] {r : R α} {a : α} (h : (if c then r else .bad) = .ok a) : c ∧ r = .ok a := by
  split at h
  · rename_i hc; exact ⟨hc, h⟩
  · cases h
theorem Res.ifP {G : Gc} {W : WX} {B F0 F H : Hp} {o : List Nat} {σ : L2.St} {ρ : Env} {α : Type} {k : α → Hp → Hp → Prop} {c : Prop} [Decidable c] {r : R α} (h : Res G W B F0 F H o σ ρ k (if c then r else .bad)) : c ∧ Res G W B F0 F H o σ ρ k r := by
  split at h
  · rename_i hc; exact ⟨hc, h⟩
  · exact h.elim
section
variable {X : Cx} {G : Gc} {W : WX}
theorem op_addAll : OpR X (binaryOp .Add) (rAddAll X.K) := OpR.or op_add (OpR.or op_add_str (OpR.or op_catA op_cat))
theorem pu_add : PuR2 G W (rAddAll G.K) D.add := by
  intro B F0 F H o σ ρ Q v w a b rel ra rb h
  cases ra with
  | int i =>
    cases rb with
    | int j => exact .inl ⟨i, j, rfl, rfl, h.here rel (.int _)⟩
    | _ => exact h.elim
  | str x =>
    cases rb with
    | str y => exact .inr (.inl ⟨x, y, rfl, rfl, (Res.ifP h).1, (Res.ifP h).2.here rel (.str _)⟩)
    | _ => exact h.elim
  | @tup p vs ds h1 r1 =>
    cases rb with
    | @tup q ws es h2 r2 =>
      obtain ⟨hl, h⟩ := Res.ifP h
      have nilD : vs = [] → ds = [] := fun e => by subst e; cases r1; rfl
      have nilE : ws = [] → es = [] := fun e => by subst e; cases r2; rfl
      refine .inr (.inr (.inl ⟨p, q, vs, ws, rfl, rfl, .inl (.inl (rel.core.fh _ _ h1)), .inl (.inl (rel.core.fh _ _ h2)), by rw [← r1.length, ← r2.length]; exact hl, fun e => ?_, fun _ e => ?_, fun _ _ z hz => h.new rel hz fun F' le e => .tup e ((r1.mono le).append (r2.mono le))⟩))
      · rw [nilD e] at h; exact h.here rel (.tup h2 r2)
      · rw [nilE e, List.append_nil] at h; exact h.here rel (.tup h1 r1)
    | _ => exact h.elim
  | @lst p vs ds h1 r1 =>
    cases rb with
    | @lst q ws es h2 r2 =>
      obtain ⟨hl, h⟩ := Res.ifP h
      exact .inr (.inr (.inr ⟨p, q, vs, ws, rfl, rfl, rel.core.fh _ _ h1, rel.core.fh _ _ h2, by rw [← r1.length, ← r2.length]; exact hl, fun z hz => h.new rel hz fun F' le e => .lst e ((r1.mono le).append (r2.mono le))⟩))
    | _ => exact h.elim
  | _ => cases rb <;> exact h.elim
/-- an operation on two ints that gives an int under a condition -/
def dI (c : Int → Int → Bool) (f : Int → Int → Int) : D → D → R D
  | .int i, .int j => if c i j = true then .ok (.int (f i j)) else .bad
  | _, _ => .bad
theorem pu_I {C : Int → Int → Prop} {c : Int → Int → Bool} {f : Int → Int → Int} (hc : ∀ i j, c i j = true → C i j) : PuR2 G W (rI C fun i j => .int (f i j)) (dI c f) := by
  intro B F0 F H o σ ρ Q v w a b rel ra rb h
  cases ra with
  | int i =>
    cases rb with
    | int j => exact ⟨i, j, rfl, rfl, hc i j (Res.ifP h).1, (Res.ifP h).2.here rel (.int _)⟩
    | _ => exact h.elim
  | _ => cases rb <;> exact h.elim
def dI0 (f : Int → Int → Int) : D → D → R D
  | .int i, .int j => .ok (.int (f i j))
  | _, _ => .bad
theorem pu_I0 {f : Int → Int → Int} : PuR2 G W (rI0 fun i j => .int (f i j)) (dI0 f) := by
  intro B F0 F H o σ ρ Q v w a b rel ra rb h
  cases ra with
  | int i =>
    cases rb with
    | int j => exact ⟨i, j, rfl, rfl, h.here rel (.int _)⟩
    | _ => exact h.elim
  | _ => cases rb <;> exact h.elim
def dB0 (f : Int → Int → Bool) : D → D → R D
  | .int i, .int j => .ok (.bl (f i j))
  | _, _ => .bad
theorem pu_B0 {f : Int → Int → Bool} : PuR2 G W (rI0 fun i j => .bl (f i j)) (dB0 f) := by
  intro B F0 F H o σ ρ Q v w a b rel ra rb h
  cases ra with
  | int i =>
    cases rb with
    | int j => exact ⟨i, j, rfl, rfl, h.here rel (.bl _)⟩
    | _ => exact h.elim
  | _ => cases rb <;> exact h.elim
def D.sub : D → D → R D := dI0 fun i j => i - j
def mulC (i j : Int) : Bool := (decide (-(2 ^ 64) < i) && decide (i < 2 ^ 64)) || (decide (-(2 ^ 64) < j) && decide (j < 2 ^ 64))
theorem mulC_ok (i j : Int) (h : mulC i j = true) : CMul i j := by
  unfold mulC at h
  rw [Bool.or_eq_true, Bool.and_eq_true, Bool.and_eq_true] at h
  rcases h with ⟨a, b⟩ | ⟨a, b⟩
  · exact .inl ⟨of_decide_eq_true a, of_decide_eq_true b⟩
  · exact .inr ⟨of_decide_eq_true a, of_decide_eq_true b⟩
/-- a list or tuple, so many times -/
def repD (ds : List D) (k : Int) : List D := (List.replicate k.toNat ds).flatten
def D.mul : D → D → R D
  | .int i, .int j => if mulC i j = true then .ok (.int (i * j)) else .bad
  | .lst ds, .int k => if -(2 ^ 63) ≤ k ∧ k < 2 ^ 63 ∧ ds.length * k.toNat ≤ sizeLine then .ok (.lst (repD ds k)) else .bad
  | .tup ds, .int k => if ds ≠ [] ∧ 2 ≤ k ∧ k ≤ 1000 ∧ ds.length ≤ 1000 then .ok (.tup (repD ds k)) else if ds ≠ [] ∧ k = 1 then .ok (.tup ds) else if ds ≠ [] ∧ k = 0 then .ok (.tup []) else .bad
  | _, _ => .bad
abbrev rMulAll (K : PySem.W.Frag) : R2 := fun x y H Q => (rI CMul fun i j => V.int (i * j)) x y H Q ∨ (rRep x y H Q ∨ (rRepT K x y H Q ∨ TpM.rTimes K x y H Q))
theorem op_mulAll : OpR X (binaryOp .Mult) (rMulAll X.K) := OpR.or op_mul (OpR.or op_rep (OpR.or op_repT TpM.op_times))
theorem RpL.rep {F : Hp} {ds : List D} {vs : List V} (h : RpL G F ds vs) : ∀ n : Nat, RpL G F (List.replicate n ds).flatten (List.replicate n vs).flatten
  | 0 => .nil
  | n + 1 => by rw [List.replicate_succ, List.replicate_succ, List.flatten_cons, List.flatten_cons]; exact h.append (RpL.rep h n)
theorem pu_mul : PuR2 G W (rMulAll G.K) D.mul := by
  intro B F0 F H o σ ρ Q v w a b rel ra rb h
  cases ra with
  | int i =>
    cases rb with
    | int j => exact .inl ⟨i, j, rfl, rfl, mulC_ok _ _ (Res.ifP h).1, (Res.ifP h).2.here rel (.int _)⟩
    | _ => exact h.elim
  | @lst p vs ds h1 r1 =>
    cases rb with
    | int k =>
      obtain ⟨⟨c1, c2, c3⟩, h⟩ := Res.ifP h
      exact .inr (.inl ⟨p, k, vs, rfl, rfl, rel.core.fh _ _ h1, c1, c2, by rw [← r1.length]; exact c3, fun z hz => h.new rel hz fun F' le e => .lst e ((r1.mono le).rep k.toNat)⟩)
    | _ => exact h.elim
  | @tup p vs ds h1 r1 =>
    cases rb with
    | int k =>
      have hne : ds ≠ [] → vs ≠ [] := fun c e => c (by subst e; cases r1; rfl)
      have hT : SqT G.K H p vs := .inl (.inl (rel.core.fh _ _ h1))
      unfold D.mul at h
      dsimp only at h
      by_cases q1 : ds ≠ [] ∧ 2 ≤ k ∧ k ≤ 1000 ∧ ds.length ≤ 1000
      · rw [if_pos q1] at h
        exact .inr (.inr (.inl ⟨p, k, vs, rfl, rfl, hT, hne q1.1, q1.2.1, q1.2.2.1, by rw [← r1.length]; exact q1.2.2.2, fun z hz => h.new rel hz fun F' le e => .tup e ((r1.mono le).rep k.toNat)⟩))
      · rw [if_neg q1] at h
        by_cases q2 : ds ≠ [] ∧ k = 1
        · rw [if_pos q2] at h
          exact .inr (.inr (.inr ⟨p, k, vs, rfl, rfl, hT, hne q2.1, .inl ⟨q2.2, h.here rel (.tup h1 r1)⟩⟩))
        · rw [if_neg q2] at h
          by_cases q3 : ds ≠ [] ∧ k = 0
          · rw [if_pos q3] at h
            exact .inr (.inr (.inr ⟨p, k, vs, rfl, rfl, hT, hne q3.1, .inr ⟨q3.2, fun z hz => h.new rel hz fun F' le e => .tup e .nil⟩⟩))
          · rw [if_neg q3] at h
            exact h.elim
    | _ => exact h.elim
  | _ => cases rb <;> exact h.elim
def divC (i j : Int) : Bool := decide (j ≠ 0) && decide (j.natAbs < 1073741824)
theorem divC_ok (i j : Int) (h : divC i j = true) : CDivN i j := by
  unfold divC at h
  rw [Bool.and_eq_true] at h
  exact ⟨of_decide_eq_true h.1, of_decide_eq_true h.2⟩
def D.fdiv : D → D → R D := dI divC fun i j => i.fdiv j
def modC (i j : Int) : Bool := decide (j ≠ 0)
def D.mod : D → D → R D := dI modC fun i j => i.fmod j
theorem pu_sub : PuR2 G W (rI0 fun i j => .int (i - j)) D.sub := pu_I0
theorem pu_fdiv : PuR2 G W (rI CDivN fun i j => .int (i.fdiv j)) D.fdiv := pu_I divC_ok
theorem pu_mod : PuR2 G W (rI (fun _ j => j ≠ 0) fun i j => .int (i.fmod j)) D.mod := pu_I fun _ _ h => of_decide_eq_true h
def powC (i j : Int) : Bool := decide (0 ≤ j) && (decide (j ≤ 1000000) && decide (i.natAbs < 2 ^ 64))
def D.pow : D → D → R D := dI powC fun i j => i ^ j.toNat
theorem pu_pow : PuR2 G W (rI CPow fun i j => .int (i ^ j.toNat)) D.pow := pu_I fun i j h => by
  unfold powC at h
  rw [Bool.and_eq_true, Bool.and_eq_true] at h
  exact ⟨of_decide_eq_true h.1, of_decide_eq_true h.2.1, of_decide_eq_true h.2.2⟩
def D.neg : D → R D
  | .int i => .ok (.int (-i))
  | _ => .bad
theorem pu_neg : PuR1 G W (rU fun i => .int (-i)) D.neg := by
  intro B F0 F H o σ ρ Q v a rel ra h
  cases ra with
  | int i => exact ⟨i, rfl, h.here rel (.int _)⟩
  | _ => exact h.elim
/-! ### comparisons -/
def D.ge : D → D → R D := dB0 fun i j => decide (j ≤ i)
def D.gt : D → D → R D := dB0 fun i j => decide (j < i)
def D.le : D → D → R D := dB0 fun i j => decide (i ≤ j)
def D.lt : D → D → R D := dB0 fun i j => decide (i < j)
theorem pu_ge : PuR2 G W (rI0 fun i j => .bl (decide (j ≤ i))) D.ge := pu_B0
theorem pu_gt : PuR2 G W (rI0 fun i j => .bl (decide (j < i))) D.gt := pu_B0
theorem pu_le : PuR2 G W (rI0 fun i j => .bl (decide (i ≤ j))) D.le := pu_B0
theorem pu_lt : PuR2 G W (rI0 fun i j => .bl (decide (i < j))) D.lt := pu_B0
/-! data that == takes -/
mutual
def D.py : D → Option PyData
  | .non => some .none
  | .bl b => some (.bool b)
  | .int i => some (.int i)
  | .str x => some (.str x)
  | .tup ds => (D.pyL ds).map .tuple
  | .lst ds => (D.pyL ds).map .list
  | _ => none
def D.pyL : List D → Option (List PyData)
  | [] => some []
  | d :: ds => match d.py, D.pyL ds with
    | some x, some xs => some (x :: xs)
    | _, _ => none
end
mutual
theorem dp_of {B F0 F H : Hp} {o : List Nat} {σ : L2.St} {ρ : Env} (rel : Rel G B F0 F H o σ ρ) : ∀ (d : D) (v : V) (p : PyData), Rp G F d v → d.py = some p → Dp G.K H v p
  | .non, v, p, h, e => by cases h; cases e; exact .non
  | .bl b, v, p, h, e => by cases h; cases e; exact .bl b
  | .int i, v, p, h, e => by cases h; cases e; exact .int i
  | .str x, v, p, h, e => by cases h; cases e; exact .str x
  | .tup ds, v, p, h, e => by
    cases h with
    | tup hh r =>
      unfold D.py at e
      cases q : D.pyL ds with
      | none => rw [q] at e; cases e
      | some ps => rw [q] at e; cases e; exact .tup (.inl (.inl (rel.core.fh _ _ hh))) (dpL_of rel ds _ ps r q)
  | .lst ds, v, p, h, e => by
    cases h with
    | lst hh r =>
      unfold D.py at e
      cases q : D.pyL ds with
      | none => rw [q] at e; cases e
      | some ps => rw [q] at e; cases e; exact .lst (.inl (.inl (rel.core.fh _ _ hh))) (dpL_of rel ds _ ps r q)
  | .dic _ _ _, v, p, h, e => by unfold D.py at e; cases e
  | .iset _, v, p, h, e => by unfold D.py at e; cases e
  | .fn _, v, p, h, e => by unfold D.py at e; cases e
  | .scr _, v, p, h, e => by unfold D.py at e; cases e
  | .ktup _, v, p, h, e => by unfold D.py at e; cases e
  | .ty _, v, p, h, e => by unfold D.py at e; cases e
theorem dpL_of {B F0 F H : Hp} {o : List Nat} {σ : L2.St} {ρ : Env} (rel : Rel G B F0 F H o σ ρ) : ∀ (ds : List D) (vs : List V) (ps : List PyData), RpL G F ds vs → D.pyL ds = some ps → DpAll G.K H vs ps
  | [], vs, ps, h, e => by cases h; unfold D.pyL at e; cases e; exact .nil
  | d :: ds, vs, ps, h, e => by
    cases h with
    | cons hh r =>
      unfold D.pyL at e
      cases q1 : d.py with
      | none => rw [q1] at e; cases e
      | some x =>
        cases q2 : D.pyL ds with
        | none => rw [q1, q2] at e; cases e
        | some xs => rw [q1, q2] at e; cases e; exact .cons (dp_of rel d _ x hh q1) (dpL_of rel ds _ xs r q2)
end
def D.eq2 (a b : D) (f : Bool → Bool) : R D := match a.py, b.py with
  | some x, some y => if SeqAt.shaped x = true ∧ SeqAt.shaped y = true then .ok (.bl (f (PyData.eqv x y))) else .bad
  | _, _ => .bad
def D.eq : D → D → R D := fun a b => D.eq2 a b id
def D.ne : D → D → R D := fun a b => D.eq2 a b not
theorem eq2_of {B F0 F H : Hp} {o : List Nat} {σ : L2.St} {ρ : Env} {Q : VK} {f : Bool → Bool} {v w : V} {a b : D} (rel : Rel G B F0 F H o σ ρ) (ra : Rp G F a v) (rb : Rp G F b w) (h : Res G W B F0 F H o σ ρ (kE G Q) (D.eq2 a b f)) :
    ∃ d e, Dp G.K H v d ∧ Dp G.K H w e ∧ SeqAt.shaped d = true ∧ SeqAt.shaped e = true ∧ Q (.bl (f (PyData.eqv d e))) H := by
  unfold D.eq2 at h
  cases q1 : a.py with
  | none => rw [q1] at h; exact h.elim
  | some x =>
    cases q2 : b.py with
    | none => rw [q1, q2] at h; exact h.elim
    | some y =>
      rw [q1, q2] at h
      obtain ⟨⟨s1, s2⟩, h⟩ := Res.ifP h
      exact ⟨x, y, dp_of rel _ _ _ ra q1, dp_of rel _ _ _ rb q2, s1, s2, h.here rel (.bl _)⟩
theorem pu_eq : PuR2 G W (rEqD G.K) D.eq := fun rel ra rb h => eq2_of rel ra rb h
theorem pu_ne : PuR2 G W (rNeD G.K) D.ne := fun rel ra rb h => eq2_of rel ra rb h
end
end G
/-! S7: in, is, subscripts, calls of builtins, truth. -/
namespace G
open PySem L2
section
variable {X : Cx} {G : Gc} {W : WX}
/-! ### in -/
def rInDT (K : PySem.W.Frag) : R2 := fun x y H Q => ∃ d ds, Dp K H x d ∧ Dp K H y (.tuple ds) ∧ SeqAt.shaped d = true ∧ SeqAt.shaped (.tuple ds) = true ∧ Q (.bl (ds.any fun z => PyData.eqv z d)) H
def rNotInDT (K : PySem.W.Frag) : R2 := fun x y H Q => ∃ d ds, Dp K H x d ∧ Dp K H y (.tuple ds) ∧ SeqAt.shaped d = true ∧ SeqAt.shaped (.tuple ds) = true ∧ Q (.bl (!ds.any fun z => PyData.eqv z d)) H
theorem roomT {A : Around} {d : PyData} {ds : List PyData} (sd : SeqAt.shaped d = true) (hu : A.units + 65 < cLine) : A.units + 1 + min (PyData.depthAll ds) d.depth < cLine := by
  have h1 := SeqAt.depth_of_shaped sd
  have h2 : min (PyData.depthAll ds) d.depth ≤ d.depth := Nat.min_le_right _ _
  omega
theorem op_inDT (hu : X.A.units + 65 < cLine) : OpR X (compareOp .In) (rInDT X.K) := by
  intro pins s σ H x y v u Q I rx ry h
  obtain ⟨d, ds, hd, he, sd, se, q⟩ := h
  obtain ⟨as, r1⟩ := Dp.reads I d x v hd rx
  obtain ⟨bs, r2⟩ := Dp.reads I (.tuple ds) y u he ry
  have c1 := SeqAt.canLay_of_shaped se
  exact SeqAt.in_tuple_reads r2 r1 c1 (SeqAt.canLay_of_shaped sd) (roomT sd hu) ⟨.bl _, H, I, rfl, q⟩
theorem op_notInDT (hu : X.A.units + 65 < cLine) : OpR X (compareOp .NotIn) (rNotInDT X.K) := by
  intro pins s σ H x y v u Q I rx ry h
  obtain ⟨d, ds, hd, he, sd, se, q⟩ := h
  obtain ⟨as, r1⟩ := Dp.reads I d x v hd rx
  obtain ⟨bs, r2⟩ := Dp.reads I (.tuple ds) y u he ry
  have c1 := SeqAt.canLay_of_shaped se
  exact SeqAt.notIn_tuple_reads r2 r1 c1 (SeqAt.canLay_of_shaped sd) (roomT sd hu) ⟨.bl _, H, I, rfl, q⟩
def rInDic : R2 := fun x y H Q => ∃ a r, y = .ref a ∧ DGet H a x r ∧ Q (.bl r.isSome) H
def rNotInDic : R2 := fun x y H Q => ∃ a r, y = .ref a ∧ DGet H a x r ∧ Q (.bl (!r.isSome)) H
theorem op_inDic (hu : X.A.units + 1 < cLine) : OpR X (compareOp .In) rInDic := by
  intro pins s σ H x y v u Q I rx ry h
  obtain ⟨a, r, rfl, g, q⟩ := h
  cases (show u = Value.ref a from ry)
  exact d_in hu I g rx fun s' I' => ⟨.bl _, H, I', rfl, q⟩
theorem op_notInDic (hu : X.A.units + 1 < cLine) : OpR X (compareOp .NotIn) rNotInDic := by
  intro pins s σ H x y v u Q I rx ry h
  obtain ⟨a, r, rfl, g, q⟩ := h
  cases (show u = Value.ref a from ry)
  exact d_notIn hu I g rx fun s' I' => ⟨.bl _, H, I', rfl, q⟩
def D.keyL : List D → Option (List Key)
  | [] => some []
  | .int i :: ds => (D.keyL ds).map (Sum.inl i :: ·)
  | .str x :: ds => (D.keyL ds).map (Sum.inr x :: ·)
  | _ :: _ => none
/-- a value as a dict's key -/
def D.key : D → Option DK
  | .int i => some (.i i)
  | .str x => some (.s x)
  | .tup ds => (D.keyL ds).map .t
  | _ => none
/-- what a dict's pairs hold at a key -/
def dget : List DK → List D → DK → Option D
  | k :: ks, d :: ds, j => if k = j then some d else dget ks ds j
  | _, _, _ => none
/-- flat things, told apart as Python does -/
def D.flatB : D → Bool
  | .non => true
  | .bl _ => true
  | .int _ => true
  | .str _ => true
  | _ => false
def D.eqF : D → D → Bool
  | .non, .non => true
  | .bl a, .bl b => a == b
  | .bl a, .int b => (if a then 1 else 0) == b
  | .int a, .bl b => a == (if b then 1 else 0)
  | .int a, .int b => a == b
  | .str a, .str b => a == b
  | _, _ => false
def isKind (t : Bool) : DK → Bool
  | .t _ => t
  | _ => !t
def D.in2 (a b : D) (f : Bool → Bool) : R D := match b with
  | .lst ds => (match a.py, D.pyL ds with
    | some x, some ys => if SeqAt.shaped x = true ∧ SeqAt.shaped (.list ys) = true then .ok (.bl (f (ys.any fun z => PyData.eqv z x))) else .bad
    | _, _ => .bad)
  | .tup ds => (match a.py, D.pyL ds with
    | some x, some ys => if SeqAt.shaped x = true ∧ SeqAt.shaped (.tuple ys) = true then .ok (.bl (f (ys.any fun z => PyData.eqv z x))) else .bad
    | _, _ => .bad)
  | .ktup ds => if a.flatB = true ∧ ds.all D.flatB = true then .ok (.bl (f (ds.any fun z => D.eqF z a))) else .bad
  | .dic t ks ds => (match a.key with
    | some k => if isKind t k = true then .ok (.bl (f (dget ks ds k).isSome)) else .bad
    | none => .bad)
  | _ => .bad
def D.isIn (a b : D) : R D := D.in2 a b id
def D.notIn (a b : D) : R D := D.in2 a b not
theorem flat_of {F : Hp} {d : D} {v : V} (r : Rp G F d v) (h : d.flatB = true) : flatV v = true := by
  cases r with
  | non => rfl
  | bl b => rfl
  | int i => rfl
  | str x => rfl
  | _ => cases h
theorem eqF_of {F : Hp} {d e : D} {v w : V} (r : Rp G F d v) (q : Rp G F e w) (h1 : d.flatB = true) (h2 : e.flatB = true) : eqV v w = D.eqF d e := by
  cases r <;> first | (cases h1; done) | (cases q <;> first | (cases h2; done) | rfl)
theorem flatL_of {F : Hp} : ∀ {ds : List D} {vs : List V}, RpL G F ds vs → ds.all D.flatB = true → vs.all flatV = true
  | _, _, .nil, _ => rfl
  | _, _, .cons h r, e => by
    rw [List.all_cons, Bool.and_eq_true] at e
    rw [List.all_cons, Bool.and_eq_true]
    exact ⟨flat_of h e.1, flatL_of r e.2⟩
theorem inV_of {F : Hp} {d : D} {v : V} (r : Rp G F d v) (h1 : d.flatB = true) : ∀ {ds : List D} {vs : List V}, RpL G F ds vs → ds.all D.flatB = true → inV v vs = ds.any fun z => D.eqF z d
  | _, _, .nil, _ => rfl
  | _, _, .cons h q, e => by
    rw [List.all_cons, Bool.and_eq_true] at e
    have ih := inV_of r h1 q e.2
    unfold inV at ih ⊢
    rw [List.any_cons, List.any_cons, ih, eqF_of h r e.1 h1]
theorem key_rel {F : Hp} : ∀ {ds : List D} {vs : List V} {ks : List Key}, RpL G F ds vs → D.keyL ds = some ks → vs = ks.map kV
  | [], _, ks, .nil, e => by unfold D.keyL at e; cases e; rfl
  | .int i :: ds, _, ks, .cons (.int _) r, e => by
    unfold D.keyL at e
    cases q : D.keyL ds with
    | none => rw [q] at e; cases e
    | some ks' => rw [q] at e; cases e; rw [key_rel r q]; rfl
  | .str x :: ds, _, ks, .cons (.str _) r, e => by
    unfold D.keyL at e
    cases q : D.keyL ds with
    | none => rw [q] at e; cases e
    | some ks' => rw [q] at e; cases e; rw [key_rel r q]; rfl
  | .non :: _, _, _, _, e => by unfold D.keyL at e; cases e
  | .bl _ :: _, _, _, _, e => by unfold D.keyL at e; cases e
  | .tup _ :: _, _, _, _, e => by unfold D.keyL at e; cases e
  | .lst _ :: _, _, _, _, e => by unfold D.keyL at e; cases e
  | .dic _ _ _ :: _, _, _, _, e => by unfold D.keyL at e; cases e
  | .iset _ :: _, _, _, _, e => by unfold D.keyL at e; cases e
  | .fn _ :: _, _, _, _, e => by unfold D.keyL at e; cases e
  | .scr _ :: _, _, _, _, e => by unfold D.keyL at e; cases e
  | .ktup _ :: _, _, _, _, e => by unfold D.keyL at e; cases e
  | .ty _ :: _, _, _, _, e => by unfold D.keyL at e; cases e

theorem dk_get {F : Hp} {k : Key} : ∀ {ks : List Key} {vs : List V} {ds : List D}, ks.length = vs.length → RpL G F ds vs → valV (ks.zip vs) k = none ∧ dget (ks.map dkK) ds (dkK k) = none ∨ ∃ v d, valV (ks.zip vs) k = some v ∧ dget (ks.map dkK) ds (dkK k) = some d ∧ Rp G F d v
  | [], [], [], _, _ => .inl ⟨rfl, rfl⟩
  | j :: ks, v :: vs, d :: ds, hl, .cons h r => by
    by_cases e : j = k
    · subst e
      refine .inr ⟨v, d, ?_, ?_, h⟩
      · rw [List.zip_cons_cons]; exact valV_pos (p := (j, v)) rfl
      · show (if dkK j = dkK j then some d else _) = some d
        rw [if_pos rfl]
    · have e2 : dkK j ≠ dkK k := fun q => e (by cases j <;> cases k <;> simp [dkK] at q <;> simp [q])
      have hl' : ks.length = vs.length := by simpa using hl
      rw [List.zip_cons_cons, valV_neg (p := (j, v)) e]
      show valV (ks.zip vs) k = none ∧ (if dkK j = dkK k then some d else dget (ks.map dkK) ds (dkK k)) = none ∨ ∃ v' d', valV (ks.zip vs) k = some v' ∧ (if dkK j = dkK k then some d else dget (ks.map dkK) ds (dkK k)) = some d' ∧ Rp G F d' v'
      rw [if_neg e2]
      exact dk_get hl' r
theorem dt_get {F : Hp} {k : List Key} : ∀ {ks : List (List Key)} {vs : List V} {ds : List D}, ks.length = vs.length → RpL G F ds vs → valV (ks.zip vs) k = none ∧ dget (ks.map DK.t) ds (.t k) = none ∨ ∃ v d, valV (ks.zip vs) k = some v ∧ dget (ks.map DK.t) ds (.t k) = some d ∧ Rp G F d v
  | [], [], [], _, _ => .inl ⟨rfl, rfl⟩
  | j :: ks, v :: vs, d :: ds, hl, .cons h r => by
    by_cases e : j = k
    · subst e
      refine .inr ⟨v, d, ?_, ?_, h⟩
      · rw [List.zip_cons_cons]; exact valV_pos (p := (j, v)) rfl
      · show (if DK.t j = DK.t j then some d else _) = some d
        rw [if_pos rfl]
    · have e2 : DK.t j ≠ DK.t k := fun q => e (by injection q)
      have hl' : ks.length = vs.length := by simpa using hl
      rw [List.zip_cons_cons, valV_neg (p := (j, v)) e]
      show valV (ks.zip vs) k = none ∧ (if DK.t j = DK.t k then some d else dget (ks.map DK.t) ds (.t k)) = none ∨ ∃ v' d', valV (ks.zip vs) k = some v' ∧ (if DK.t j = DK.t k then some d else dget (ks.map DK.t) ds (.t k)) = some d' ∧ Rp G F d' v'
      rw [if_neg e2]
      exact dt_get hl' r
/-- the key's own value -/
theorem key_of {F H : Hp} {d : D} {v : V} {k : DK} (hf : ∀ a u, F a = some u → H a = some u) (r : Rp G F d v) (h : d.key = some k) : (∃ j, k = dkK j ∧ v = kV j) ∨ ∃ ks b, k = .t ks ∧ v = .ref b ∧ H b = some (.tup (ks.map kV)) := by
  cases r with
  | int i => cases h; exact .inl ⟨.inl i, rfl, rfl⟩
  | str x => cases h; exact .inl ⟨.inr x, rfl, rfl⟩
  | @tup a vs ds h1 r1 =>
    unfold D.key at h
    dsimp only at h
    cases q : D.keyL ds with
    | none => rw [q] at h; cases h
    | some ks =>
      rw [q] at h; cases h
      rw [key_rel r1 q] at h1
      exact .inr ⟨ks, a, rfl, rfl, hf _ _ h1⟩
  | _ => cases h
/-- what the dict holds at a value -/
theorem dget_of {B F0 F H : Hp} {o : List Nat} {σ : L2.St} {ρ : Env} {t : Bool} {ks : List DK} {ds : List D} {p w : V} {e : D} {k : DK} (rel : Rel G B F0 F H o σ ρ) (rd : Rp G F (.dic t ks ds) p) (re : Rp G F e w) (hk : e.key = some k) (ht : isKind t k = true) :
    ∃ a, p = .ref a ∧ ((DGet H a w none ∧ dget ks ds k = none) ∨ ∃ v d, DGet H a w (some v) ∧ dget ks ds k = some d ∧ Rp G F d v) := by
  cases rd with
  | @dicK a js vs _ h1 hl r1 =>
    rcases key_of rel.core.fh re hk with ⟨j, rfl, rfl⟩ | ⟨js', b, rfl, _⟩
    · refine ⟨a, rfl, ?_⟩
      rcases dk_get (k := j) hl r1 with ⟨x1, x2⟩ | ⟨v, d, x1, x2, x3⟩
      · exact .inl ⟨.inl ⟨_, j, rel.rd h1, rfl, x1.symm⟩, x2⟩
      · exact .inr ⟨v, d, .inl ⟨_, j, rel.rd h1, rfl, x1.symm⟩, x2, x3⟩
    · cases ht
  | @dicT a js vs _ h1 hl r1 =>
    rcases key_of rel.core.fh re hk with ⟨j, rfl, rfl⟩ | ⟨js', b, rfl, rfl, hb⟩
    · cases j <;> cases ht
    · refine ⟨a, rfl, ?_⟩
      rcases dt_get (k := js') hl r1 with ⟨x1, x2⟩ | ⟨v, d, x1, x2, x3⟩
      · exact .inl ⟨.inr ⟨_, js', b, rel.rd h1, rfl, hb, x1.symm⟩, x2⟩
      · exact .inr ⟨v, d, .inr ⟨_, js', b, rel.rd h1, rfl, hb, x1.symm⟩, x2, x3⟩
abbrev rInAll (K : PySem.W.Frag) : R2 := fun x y H Q => rInD K x y H Q ∨ (rInDT K x y H Q ∨ (rInDic x y H Q ∨ rIn K false x y H Q))
abbrev rNotInAll (K : PySem.W.Frag) : R2 := fun x y H Q => rNotInD K x y H Q ∨ (rNotInDT K x y H Q ∨ (rNotInDic x y H Q ∨ rIn K true x y H Q))
theorem op_inAll (hu : X.A.units + 65 < cLine) : OpR X (compareOp .In) (rInAll X.K) := OpR.or (op_inD hu) (OpR.or (op_inDT hu) (OpR.or (op_inDic (by omega)) op_in_seq))
theorem op_notInAll (hu : X.A.units + 65 < cLine) : OpR X (compareOp .NotIn) (rNotInAll X.K) := OpR.or (op_notInD hu) (OpR.or (op_notInDT hu) (OpR.or (op_notInDic (by omega)) op_notIn_seq))
theorem in2_of {B F0 F H : Hp} {o : List Nat} {σ : L2.St} {ρ : Env} {Q : VK} {f : Bool → Bool} {v w : V} {a b : D} (rel : Rel G B F0 F H o σ ρ) (ra : Rp G F a v) (rb : Rp G F b w) (h : Res G W B F0 F H o σ ρ (kE G Q) (D.in2 a b f)) :
    (∃ d ds, Dp G.K H v d ∧ Dp G.K H w (.list ds) ∧ SeqAt.shaped d = true ∧ SeqAt.shaped (.list ds) = true ∧ Q (.bl (f (ds.any fun z => PyData.eqv z d))) H) ∨
    (∃ d ds, Dp G.K H v d ∧ Dp G.K H w (.tuple ds) ∧ SeqAt.shaped d = true ∧ SeqAt.shaped (.tuple ds) = true ∧ Q (.bl (f (ds.any fun z => PyData.eqv z d))) H) ∨
    (∃ a r, w = .ref a ∧ DGet H a v r ∧ Q (.bl (f r.isSome)) H) ∨ ∃ p xs, w = .ref p ∧ (SqL G.K H p xs ∨ SqT G.K H p xs) ∧ flatV v = true ∧ xs.all flatV = true ∧ Q (.bl (f (inV v xs))) H := by
  unfold D.in2 at h
  cases rb with
  | @lst p vs ds h1 r1 =>
    cases q1 : a.py with
    | none => rw [q1] at h; exact h.elim
    | some x =>
      cases q2 : D.pyL ds with
      | none => rw [q1] at h; dsimp only at h; rw [q2] at h; exact h.elim
      | some ys =>
        rw [q1] at h; dsimp only at h; rw [q2] at h
        obtain ⟨⟨s1, s2⟩, h⟩ := Res.ifP h
        exact .inl ⟨x, ys, dp_of rel _ _ _ ra q1, .lst (.inl (.inl (rel.core.fh _ _ h1))) (dpL_of rel _ _ _ r1 q2), s1, s2, h.here rel (.bl _)⟩
  | @tup p vs ds h1 r1 =>
    cases q1 : a.py with
    | none => rw [q1] at h; exact h.elim
    | some x =>
      cases q2 : D.pyL ds with
      | none => rw [q1] at h; dsimp only at h; rw [q2] at h; exact h.elim
      | some ys =>
        rw [q1] at h; dsimp only at h; rw [q2] at h
        obtain ⟨⟨s1, s2⟩, h⟩ := Res.ifP h
        exact .inr (.inl ⟨x, ys, dp_of rel _ _ _ ra q1, .tup (.inl (.inl (rel.core.fh _ _ h1))) (dpL_of rel _ _ _ r1 q2), s1, s2, h.here rel (.bl _)⟩)
  | @ktup p vs ds h1 r1 =>
    obtain ⟨⟨s1, s2⟩, h⟩ := Res.ifP h
    refine .inr (.inr (.inr ⟨p, vs, rfl, .inr (rel.sqT h1), flat_of ra s1, flatL_of r1 s2, ?_⟩))
    rw [inV_of ra s1 r1 s2]
    exact h.here rel (.bl _)
  | dicK h1 hl r1 =>
    cases q1 : a.key with
    | none => rw [q1] at h; exact h.elim
    | some k =>
      rw [q1] at h
      obtain ⟨s1, h⟩ := Res.ifP h
      obtain ⟨p, e, z⟩ := dget_of rel (.dicK h1 hl r1) ra q1 s1
      cases e
      rcases z with ⟨z1, z2⟩ | ⟨v', d', z1, z2, z3⟩
      · rw [z2] at h; exact .inr (.inr (.inl ⟨_, none, rfl, z1, h.here rel (.bl _)⟩))
      · rw [z2] at h; exact .inr (.inr (.inl ⟨_, some v', rfl, z1, h.here rel (.bl _)⟩))
  | dicT h1 hl r1 =>
    cases q1 : a.key with
    | none => rw [q1] at h; exact h.elim
    | some k =>
      rw [q1] at h
      obtain ⟨s1, h⟩ := Res.ifP h
      obtain ⟨p, e, z⟩ := dget_of rel (.dicT h1 hl r1) ra q1 s1
      cases e
      rcases z with ⟨z1, z2⟩ | ⟨v', d', z1, z2, z3⟩
      · rw [z2] at h; exact .inr (.inr (.inl ⟨_, none, rfl, z1, h.here rel (.bl _)⟩))
      · rw [z2] at h; exact .inr (.inr (.inl ⟨_, some v', rfl, z1, h.here rel (.bl _)⟩))
  | _ => exact h.elim
theorem pu_in : PuR2 G W (rInAll G.K) D.isIn := fun rel ra rb h => by
  rcases in2_of rel ra rb h with z | z | z | z
  · exact .inl z
  · exact .inr (.inl z)
  · exact .inr (.inr (.inl z))
  · exact .inr (.inr (.inr z))
theorem pu_notIn : PuR2 G W (rNotInAll G.K) D.notIn := fun rel ra rb h => by
  rcases in2_of rel ra rb h with z | z | z | z
  · exact .inl z
  · exact .inr (.inl z)
  · exact .inr (.inr (.inl z))
  · exact .inr (.inr (.inr z))
/-! ### is -/
def D.isN : D → Bool
  | .non => true
  | _ => false
def D.is2 (a b : D) (f : Bool → Bool) : R D := match b with
  | .non => .ok (.bl (f a.isN))
  | .bl c => (match a with
    | .bl d => .ok (.bl (f (decide (d = c))))
    | _ => .bad)
  | _ => .bad
def D.is (a b : D) : R D := D.is2 a b id
def D.isnt (a b : D) : R D := D.is2 a b not
theorem isN_of {F : Hp} {d : D} {v : V} (r : Rp G F d v) : decide (v = .non) = d.isN := by
  cases r <;> simp [D.isN]
abbrev rIsAll : R2 := fun x y H Q => (y = .non ∧ Q (.bl (decide (x = .non))) H) ∨ ∃ a b, x = .bl a ∧ y = .bl b ∧ Q (.bl (decide (a = b))) H
abbrev rIsntAll : R2 := fun x y H Q => (y = .non ∧ Q (.bl (!decide (x = .non))) H) ∨ ∃ a b, x = .bl a ∧ y = .bl b ∧ Q (.bl (!decide (a = b))) H
theorem op_isAll : OpR X (compareOp .Is) rIsAll := OpR.or op_isN op_is_bl
theorem op_isntAll : OpR X (compareOp .IsNot) rIsntAll := OpR.or op_notN op_isnot_bl
theorem is2_of {B F0 F H : Hp} {o : List Nat} {σ : L2.St} {ρ : Env} {Q : VK} {f : Bool → Bool} {v w : V} {a b : D} (rel : Rel G B F0 F H o σ ρ) (ra : Rp G F a v) (rb : Rp G F b w) (h : Res G W B F0 F H o σ ρ (kE G Q) (D.is2 a b f)) :
    (w = .non ∧ Q (.bl (f (decide (v = .non)))) H) ∨ ∃ c d, v = .bl c ∧ w = .bl d ∧ Q (.bl (f (decide (c = d)))) H := by
  unfold D.is2 at h
  cases rb with
  | non => exact .inl ⟨rfl, by rw [isN_of ra]; exact h.here rel (.bl _)⟩
  | bl c =>
    cases ra with
    | bl d => exact .inr ⟨d, c, rfl, rfl, h.here rel (.bl _)⟩
    | _ => exact h.elim
  | _ => exact h.elim
theorem pu_is : PuR2 G W rIsAll D.is := fun rel ra rb h => is2_of rel ra rb h
theorem pu_isnt : PuR2 G W rIsntAll D.isnt := fun rel ra rb h => is2_of rel ra rb h
/-! ### subscripts -/
/-- the item at an index of any sign -/
def D.ix (a b : D) : R D := match a, b with
  | .lst ds, .int i => (match atI ds i with
    | some d => .ok d
    | none => .bad)
  | .scr ds, .int i => (match atI ds i with
    | some d => .ok d
    | none => .bad)
  | .tup ds, .int i => (match atI ds i with
    | some d => .ok d
    | none => .bad)
  | .ktup ds, .int i => (match atI ds i with
    | some d => .ok d
    | none => .bad)
  | _, _ => .bad
theorem RpL.atI {F : Hp} {ds : List D} {vs : List V} {i : Int} {d : D} (r : RpL G F ds vs) (h : L2.atI ds i = some d) : ∃ v, L2.atI vs i = some v ∧ Rp G F d v := by
  unfold L2.atI at h ⊢
  rw [r.length] at h
  cases q : ixN vs.length i with
  | none => rw [q] at h; cases h
  | some j =>
    rw [q] at h
    obtain ⟨v, h1, h2⟩ := r.get (i := j) h
    exact ⟨v, h1, h2⟩
abbrev rIxLT (K : PySem.W.Frag) : R2 := fun x y H Q => rIxL K x y H Q ∨ rIxT K x y H Q
theorem ix_LT : IxR X (rIxLT X.K) := IxR.or ix_list ix_tup
theorem pu_ix : PuR2 G W (rIxLT G.K) D.ix := by
  intro B F0 F H o σ ρ Q v w a b rel ra rb h
  unfold D.ix at h
  cases ra with
  | @lst p vs ds h1 r1 =>
    cases rb with
    | int i =>
      cases q : atI ds i with
      | none => dsimp only at h; rw [q] at h; exact h.elim
      | some d =>
        dsimp only at h; rw [q] at h
        obtain ⟨x, x1, x2⟩ := r1.atI q
        exact .inl ⟨p, vs, i, x, rfl, rfl, .inl (.inl (rel.core.fh _ _ h1)), x1, h.here rel x2⟩
    | _ => exact h.elim
  | @scr p vs ds h1 r1 =>
    cases rb with
    | int i =>
      cases q : atI ds i with
      | none => dsimp only at h; rw [q] at h; exact h.elim
      | some d =>
        dsimp only at h; rw [q] at h
        obtain ⟨x, x1, x2⟩ := r1.atI q
        exact .inl ⟨p, vs, i, x, rfl, rfl, rel.sqL h1, x1, h.here rel x2⟩
    | _ => exact h.elim
  | @tup p vs ds h1 r1 =>
    cases rb with
    | int i =>
      cases q : atI ds i with
      | none => dsimp only at h; rw [q] at h; exact h.elim
      | some d =>
        dsimp only at h; rw [q] at h
        obtain ⟨x, x1, x2⟩ := r1.atI q
        exact .inr ⟨p, vs, i, x, rfl, rfl, .inl (.inl (rel.core.fh _ _ h1)), x1, h.here rel x2⟩
    | _ => exact h.elim
  | @ktup p vs ds h1 r1 =>
    cases rb with
    | int i =>
      cases q : atI ds i with
      | none => dsimp only at h; rw [q] at h; exact h.elim
      | some d =>
        dsimp only at h; rw [q] at h
        obtain ⟨x, x1, x2⟩ := r1.atI q
        exact .inr ⟨p, vs, i, x, rfl, rfl, rel.sqT h1, x1, h.here rel x2⟩
    | _ => exact h.elim
  | _ => cases rb <;> exact h.elim
/-- d[k] -/
def D.dgetE (a b : D) : R D := match a with
  | .dic t ks ds => (match b.key with
    | some k => if isKind t k = true then (match dget ks ds k with
      | some d => .ok d
      | none => .bad) else .bad
    | none => .bad)
  | _ => .bad
theorem PuE.dget {o o1 o2 : List Nat} {ta tb : TE} {ma mb : Env → R D} (ha : PuE G W o ta o1 ma) (hb : PuE G W o1 tb o2 mb) : PuE G W o (tDGet ta tb) o2 (m2 D.dgetE ma mb) := by
  intro B F0 F H σ ρ Q rel h
  refine ha rel ((Res.bnd h).imp fun a F1 H1 e1 r1 h1 v rv => ?_)
  refine hb r1 ((Res.bnd h1).imp fun b F2 H2 e2 r2 h2 w rw => ?_)
  have rv' := rv.mono e2.le
  unfold D.dgetE at h2
  cases a with
  | dic t ks ds =>
    cases q1 : b.key with
    | none => dsimp only at h2; rw [q1] at h2; exact h2.elim
    | some k =>
      dsimp only at h2; rw [q1] at h2
      obtain ⟨s1, h2⟩ := Res.ifP h2
      obtain ⟨p, e, z⟩ := dget_of r2 rv' rw q1 s1
      rcases z with ⟨z1, z2⟩ | ⟨v', d', z1, z2, z3⟩
      · rw [z2] at h2; exact h2.elim
      · rw [z2] at h2; exact ⟨p, v', e, z1, h2.here r2 z3⟩
  | _ => exact h2.elim
end
end G
/-! S8: calls of builtins, slices, displays, truth. -/
namespace G
open PySem L2
section
variable {X : Cx} {G : Gc} {W : WX}
def rToInt : List V → Hp → VK → Prop := fun xs H Q => (∃ i, xs = [V.int i] ∧ Q (V.int i) H) ∨ ∃ k, xs = [V.bl k] ∧ Q (V.int (if k then 1 else 0)) H
def rAbs : List V → Hp → VK → Prop := fun xs H Q => ∃ i, xs = [V.int i] ∧ Q (V.int (if i < 0 then -i else i)) H
def rI2 (f : Int → Int → Int) : List V → Hp → VK → Prop := fun xs H Q => ∃ i j, xs = [V.int i, V.int j] ∧ Q (V.int (f i j)) H
def rToTup (K : PySem.W.Frag) : List V → Hp → VK → Prop := fun xs H Q => ∃ p ys, xs = [V.ref p] ∧ ((SqL K H p ys ∧ ∀ l, H l = none → Q (.ref l) (upd H l (.tup ys))) ∨ (SqT K H p ys ∧ Q (.ref p) H))
def rToLst (K : PySem.W.Frag) : List V → Hp → VK → Prop := fun xs H Q => ∃ p ys, xs = [V.ref p] ∧ (SqL K H p ys ∨ SqT K H p ys) ∧ ∀ l, H l = none → Q (.ref l) (upd H l (.lst ys))
/-! ### one value in -/
def d1 (f : D → R D) : List D → R D
  | [d] => f d
  | _ => .bad
theorem pu_c1 {r : List V → Hp → VK → Prop} {f : D → R D} (h : ∀ {B F0 F H : Hp} {o : List Nat} {σ : L2.St} {ρ : Env} {Q : VK} {v : V} {d : D}, Rel G B F0 F H o σ ρ → Rp G F d v → Res G W B F0 F H o σ ρ (kE G Q) (f d) → r [v] H Q) : PuC G W r (d1 f) := by
  intro B F0 F H o σ ρ Q vs ds rel rv q
  cases rv with
  | nil => exact q.elim
  | cons h1 r1 =>
    cases r1 with
    | nil => exact h rel h1 q
    | cons _ _ => exact q.elim
theorem pu_c1O {r : List V → Hp → VK → Prop} {f : D → R D} (h : ∀ {B F0 F H : Hp} {o : List Nat} {σ : L2.St} {ρ : Env} {Q : VK} {v : V} {d : D}, Rel G B F0 F H o σ ρ → Rp G F d v → Res G W B F0 F H o σ ρ (kO G B o σ ρ Q) (f d) → r [v] H Q) : PuCO G W r (d1 f) := by
  intro B F0 F H o σ ρ Q vs ds rel rv q
  cases rv with
  | nil => exact q.elim
  | cons h1 r1 =>
    cases r1 with
    | nil => exact h rel h1 q
    | cons _ _ => exact q.elim
def d2 (f : D → D → R D) : List D → R D
  | [d, e] => f d e
  | _ => .bad
theorem pu_c2 {r : List V → Hp → VK → Prop} {f : D → D → R D} (h : ∀ {B F0 F H : Hp} {o : List Nat} {σ : L2.St} {ρ : Env} {Q : VK} {v w : V} {d e : D}, Rel G B F0 F H o σ ρ → Rp G F d v → Rp G F e w → Res G W B F0 F H o σ ρ (kE G Q) (f d e) → r [v, w] H Q) : PuC G W r (d2 f) := by
  intro B F0 F H o σ ρ Q vs ds rel rv q
  cases rv with
  | nil => exact q.elim
  | cons h1 r1 =>
    cases r1 with
    | nil => exact q.elim
    | cons h2 r2 =>
      cases r2 with
      | nil => exact h rel h1 h2 q
      | cons _ _ => exact q.elim
/-! ### len -/
def D.len : D → R D
  | .str x => if x.length ≤ sizeLine then .ok (.int x.length) else .bad
  | .lst ds => .ok (.int ds.length)
  | .scr ds => .ok (.int ds.length)
  | .tup ds => .ok (.int ds.length)
  | .ktup ds => .ok (.int ds.length)
  | .dic false ks _ => .ok (.int ks.length)
  | _ => .bad
abbrev rLenAll (K : PySem.W.Frag) : List V → Hp → VK → Prop := fun xs H Q => (∃ x n, xs = [x] ∧ LenV K x H n ∧ Q (.int n) H) ∨ ∃ a kvs, xs = [V.ref a] ∧ Rd H a (.dK kvs) ∧ Q (.int kvs.length) H
theorem call_lenD' : CallR X (.builtin "len") (fun xs H Q => ∃ a kvs, xs = [V.ref a] ∧ Rd H a (.dK kvs) ∧ Q (.int kvs.length) H) := by
  intro pins s σ H xs us Q I r h
  obtain ⟨a, kvs, rfl, e, q⟩ := h
  rw [Vals.ref1 r]
  exact d_len I e fun t s' I' => ⟨.int kvs.length, H, I', ⟨t, rfl⟩, q⟩
theorem call_lenAll : CallR X (.builtin "len") (rLenAll X.K) := CallR.or call_len call_lenD'
theorem pu_len : PuC G W (rLenAll G.K) (d1 D.len) := by
  refine pu_c1 (fun {B F0 F H o σ ρ Q v d} rel rv h => ?_)
  cases rv with
  | str x => exact .inl ⟨_, _, rfl, ⟨(Res.ifP h).1, rfl⟩, (Res.ifP h).2.here rel (.int _)⟩
  | @lst a vs ds h1 r1 => exact .inl ⟨_, vs.length, rfl, .inl ⟨vs, .inl (.inl (rel.core.fh _ _ h1)), rfl⟩, by rw [← r1.length]; exact h.here rel (.int _)⟩
  | @scr a vs ds h1 r1 => exact .inl ⟨_, vs.length, rfl, .inl ⟨vs, rel.sqL h1, rfl⟩, by rw [← r1.length]; exact h.here rel (.int _)⟩
  | @tup a vs ds h1 r1 => exact .inl ⟨_, vs.length, rfl, .inr ⟨vs, .inl (.inl (rel.core.fh _ _ h1)), rfl⟩, by rw [← r1.length]; exact h.here rel (.int _)⟩
  | @ktup a vs ds h1 r1 => exact .inl ⟨_, vs.length, rfl, .inr ⟨vs, rel.sqT h1, rfl⟩, by rw [← r1.length]; exact h.here rel (.int _)⟩
  | @dicK a ks vs ds h1 hl r1 =>
    refine .inr ⟨a, _, rfl, rel.rd h1, ?_⟩
    have e : (ks.zip vs).length = (ks.map dkK).length := by rw [List.length_zip, List.length_map, ← hl]; simp
    rw [e]
    exact h.here rel (.int _)
  | _ => exact h.elim
/-! ### int, abs, max, min -/
def D.toInt : D → R D
  | .int i => .ok (.int i)
  | .bl b => .ok (.int (if b then 1 else 0))
  | _ => .bad
theorem pu_int : PuC G W rToInt (d1 D.toInt) := by
  refine pu_c1 (fun {B F0 F H o σ ρ Q v d} rel rv h => ?_)
  cases rv with
  | int i => exact .inl ⟨i, rfl, h.here rel (.int _)⟩
  | bl b => exact .inr ⟨b, rfl, h.here rel (.int _)⟩
  | _ => exact h.elim
def D.abs : D → R D
  | .int i => .ok (.int (if i < 0 then -i else i))
  | _ => .bad
theorem pu_abs : PuC G W rAbs (d1 D.abs) := by
  refine pu_c1 (fun {B F0 F H o σ ρ Q v d} rel rv h => ?_)
  cases rv with
  | int i => exact ⟨i, rfl, h.here rel (.int _)⟩
  | _ => exact h.elim
theorem pu_I2 {f : Int → Int → Int} : PuC G W (rI2 f) (d2 (dI0 f)) := by
  refine pu_c2 (fun {B F0 F H o σ ρ Q v w d e} rel rv rw h => ?_)
  cases rv with
  | int i =>
    cases rw with
    | int j => exact ⟨i, j, rfl, h.here rel (.int _)⟩
    | _ => exact h.elim
  | _ => cases rw <;> exact h.elim
def D.max2 : D → D → R D := dI0 fun i j => if j > i then j else i
def D.min2 : D → D → R D := dI0 fun i j => if j < i then j else i
theorem pu_max2 : PuC G W (rI2 fun i j => if j > i then j else i) (d2 D.max2) := pu_I2
theorem pu_min2 : PuC G W (rI2 fun i j => if j < i then j else i) (d2 D.min2) := pu_I2
/-! ### tuple(..), list(..) -/
def D.toTup : D → R D
  | .lst ds => .ok (.tup ds)
  | .scr ds => .ok (.tup ds)
  | .tup ds => .ok (.tup ds)
  | _ => .bad
theorem pu_tuple : PuC G W (rToTup G.K) (d1 D.toTup) := by
  refine pu_c1 (fun {B F0 F H o σ ρ Q v d} rel rv h => ?_)
  cases rv with
  | @lst a vs ds h1 r1 => exact ⟨a, vs, rfl, .inl ⟨.inl (.inl (rel.core.fh _ _ h1)), fun l hl => h.new rel hl fun F' le e => .tup e (r1.mono le)⟩⟩
  | @scr a vs ds h1 r1 => exact ⟨a, vs, rfl, .inl ⟨rel.sqL h1, fun l hl => h.new rel hl fun F' le e => .tup e (r1.mono le)⟩⟩
  | @tup a vs ds h1 r1 => exact ⟨a, vs, rfl, .inr ⟨.inl (.inl (rel.core.fh _ _ h1)), h.here rel (.tup h1 r1)⟩⟩
  | _ => exact h.elim
def D.toLst : D → R D
  | .lst ds => .ok (.lst ds)
  | .scr ds => .ok (.lst ds)
  | .tup ds => .ok (.lst ds)
  | .ktup ds => .ok (.lst ds)
  | _ => .bad
theorem pu_list : PuCO G W (rToLst G.K) (d1 D.toLst) := by
  refine pu_c1O (fun {B F0 F H o σ ρ Q v d} rel rv h => ?_)
  cases rv with
  | @lst a vs ds h1 r1 => exact ⟨a, vs, rfl, .inl (.inl (.inl (rel.core.fh _ _ h1))), fun l hl => h.newO rel hl (.lst upd_same r1)⟩
  | @scr a vs ds h1 r1 => exact ⟨a, vs, rfl, .inl (rel.sqL h1), fun l hl => h.newO rel hl (.lst upd_same r1)⟩
  | @tup a vs ds h1 r1 => exact ⟨a, vs, rfl, .inr (.inl (.inl (rel.core.fh _ _ h1))), fun l hl => h.newO rel hl (.lst upd_same r1)⟩
  | @ktup a vs ds h1 r1 => exact ⟨a, vs, rfl, .inr (rel.sqT h1), fun l hl => h.newO rel hl (.lst upd_same r1)⟩
  | _ => exact h.elim
/-! ### lists of ints, of truth values -/
def D.ints : List D → Option (List Int)
  | [] => some []
  | .int i :: ds => (D.ints ds).map (i :: ·)
  | _ :: _ => none
def D.bls : List D → Option (List Bool)
  | [] => some []
  | .bl b :: ds => (D.bls ds).map (b :: ·)
  | _ :: _ => none
theorem ints_eq : ∀ {ds : List D} {xs : List Int}, D.ints ds = some xs → ds = xs.map D.int
  | [], xs, e => by unfold D.ints at e; cases e; rfl
  | .int i :: ds, xs, e => by
    unfold D.ints at e
    cases q : D.ints ds with
    | none => rw [q] at e; cases e
    | some ys => rw [q] at e; cases e; rw [ints_eq q]; rfl
  | .non :: _, _, e => by unfold D.ints at e; cases e
  | .bl _ :: _, _, e => by unfold D.ints at e; cases e
  | .str _ :: _, _, e => by unfold D.ints at e; cases e
  | .tup _ :: _, _, e => by unfold D.ints at e; cases e
  | .lst _ :: _, _, e => by unfold D.ints at e; cases e
  | .dic _ _ _ :: _, _, e => by unfold D.ints at e; cases e
  | .iset _ :: _, _, e => by unfold D.ints at e; cases e
  | .fn _ :: _, _, e => by unfold D.ints at e; cases e
  | .scr _ :: _, _, e => by unfold D.ints at e; cases e
  | .ktup _ :: _, _, e => by unfold D.ints at e; cases e
  | .ty _ :: _, _, e => by unfold D.ints at e; cases e
theorem bls_eq : ∀ {ds : List D} {xs : List Bool}, D.bls ds = some xs → ds = xs.map D.bl
  | [], xs, e => by unfold D.bls at e; cases e; rfl
  | .bl i :: ds, xs, e => by
    unfold D.bls at e
    cases q : D.bls ds with
    | none => rw [q] at e; cases e
    | some ys => rw [q] at e; cases e; rw [bls_eq q]; rfl
  | .non :: _, _, e => by unfold D.bls at e; cases e
  | .int _ :: _, _, e => by unfold D.bls at e; cases e
  | .str _ :: _, _, e => by unfold D.bls at e; cases e
  | .tup _ :: _, _, e => by unfold D.bls at e; cases e
  | .lst _ :: _, _, e => by unfold D.bls at e; cases e
  | .dic _ _ _ :: _, _, e => by unfold D.bls at e; cases e
  | .iset _ :: _, _, e => by unfold D.bls at e; cases e
  | .fn _ :: _, _, e => by unfold D.bls at e; cases e
  | .scr _ :: _, _, e => by unfold D.bls at e; cases e
  | .ktup _ :: _, _, e => by unfold D.bls at e; cases e
  | .ty _ :: _, _, e => by unfold D.bls at e; cases e
@[simp] theorem ints_map (xs : List Int) : D.ints (xs.map D.int) = some xs := by
  induction xs with
  | nil => rfl
  | cons x xs ih => rw [List.map_cons]; unfold D.ints; rw [ih]; rfl
@[simp] theorem bls_map (xs : List Bool) : D.bls (xs.map D.bl) = some xs := by
  induction xs with
  | nil => rfl
  | cons x xs ih => rw [List.map_cons]; unfold D.bls; rw [ih]; rfl
theorem RpL.intsV {F : Hp} : ∀ {xs : List Int} {vs : List V}, RpL G F (xs.map D.int) vs → vs = xs.map V.int
  | [], _, .nil => rfl
  | _ :: xs, _, .cons (.int _) r => by rw [RpL.intsV r]; rfl
theorem RpL.blsV {F : Hp} : ∀ {xs : List Bool} {vs : List V}, RpL G F (xs.map D.bl) vs → vs = xs.map V.bl
  | [], _, .nil => rfl
  | _ :: xs, _, .cons (.bl _) r => by rw [RpL.blsV r]; rfl
def dInts (f : List Int → R D) : D → R D
  | .lst ds => (match D.ints ds with
    | some xs => f xs
    | none => .bad)
  | _ => .bad
def dBls (f : List Bool → R D) : D → R D
  | .lst ds => (match D.bls ds with
    | some xs => f xs
    | none => .bad)
  | _ => .bad
theorem dInts_of {B F0 F H : Hp} {o : List Nat} {σ : L2.St} {ρ : Env} {k : D → Hp → Hp → Prop} {v : V} {d : D} {f : List Int → R D} (rel : Rel G B F0 F H o σ ρ) (rv : Rp G F d v) (h : Res G W B F0 F H o σ ρ k (dInts f d)) : ∃ a xs, v = .ref a ∧ H a = some (.lst (xs.map V.int)) ∧ Res G W B F0 F H o σ ρ k (f xs) := by
  unfold dInts at h
  cases rv with
  | @lst a vs ds h1 r1 =>
    cases q : D.ints ds with
    | none => dsimp only at h; rw [q] at h; exact h.elim
    | some xs =>
      dsimp only at h; rw [q] at h
      rw [ints_eq q] at r1
      exact ⟨a, xs, rfl, by rw [← r1.intsV]; exact rel.core.fh _ _ h1, h⟩
  | _ => exact h.elim
theorem dBls_of {B F0 F H : Hp} {o : List Nat} {σ : L2.St} {ρ : Env} {k : D → Hp → Hp → Prop} {v : V} {d : D} {f : List Bool → R D} (rel : Rel G B F0 F H o σ ρ) (rv : Rp G F d v) (h : Res G W B F0 F H o σ ρ k (dBls f d)) : ∃ a xs, v = .ref a ∧ H a = some (.lst (xs.map V.bl)) ∧ Res G W B F0 F H o σ ρ k (f xs) := by
  unfold dBls at h
  cases rv with
  | @lst a vs ds h1 r1 =>
    cases q : D.bls ds with
    | none => dsimp only at h; rw [q] at h; exact h.elim
    | some xs =>
      dsimp only at h; rw [q] at h
      rw [bls_eq q] at r1
      exact ⟨a, xs, rfl, by rw [← r1.blsV]; exact rel.core.fh _ _ h1, h⟩
  | _ => exact h.elim
def D.sum : D → R D := dInts fun xs => .ok (.int xs.sum)
theorem pu_sum : PuC G W (rSum G.K) (d1 D.sum) := by
  refine pu_c1 (fun rel rv h => ?_)
  obtain ⟨a, xs, rfl, h1, h⟩ := dInts_of rel rv h
  exact ⟨a, xs, rfl, .inl (.inl h1), h.here rel (.int _)⟩
/-- the greatest, the least of some ints -/
def gtI : Int → List Int → Int
  | m, [] => m
  | m, x :: xs => gtI (if m < x then x else m) xs
def ltI : Int → List Int → Int
  | m, [] => m
  | m, x :: xs => ltI (if x < m then x else m) xs
theorem gtI_spec : ∀ (xs : List Int) (m : Int), (gtI m xs = m ∨ gtI m xs ∈ xs) ∧ m ≤ gtI m xs ∧ ∀ y ∈ xs, y ≤ gtI m xs
  | [], m => ⟨.inl rfl, Int.le_refl m, fun y h => by cases h⟩
  | x :: xs, m => by
    obtain ⟨h1, h2, h3⟩ := gtI_spec xs (if m < x then x else m)
    show (gtI (if m < x then x else m) xs = m ∨ gtI (if m < x then x else m) xs ∈ x :: xs) ∧ m ≤ gtI (if m < x then x else m) xs ∧ ∀ y ∈ x :: xs, y ≤ gtI (if m < x then x else m) xs
    generalize gtI (if m < x then x else m) xs = z at *
    refine ⟨?_, ?_, fun y hy => ?_⟩
    · rcases h1 with h1 | h1
      · split at h1
        · exact .inr (by rw [h1]; exact List.mem_cons_self)
        · exact .inl h1
      · exact .inr (List.mem_cons_of_mem _ h1)
    · split at h2 <;> omega
    · rcases List.mem_cons.mp hy with e | e
      · subst e; split at h2 <;> omega
      · exact h3 y e
theorem ltI_spec : ∀ (xs : List Int) (m : Int), (ltI m xs = m ∨ ltI m xs ∈ xs) ∧ ltI m xs ≤ m ∧ ∀ y ∈ xs, ltI m xs ≤ y
  | [], m => ⟨.inl rfl, Int.le_refl m, fun y h => by cases h⟩
  | x :: xs, m => by
    obtain ⟨h1, h2, h3⟩ := ltI_spec xs (if x < m then x else m)
    show (ltI (if x < m then x else m) xs = m ∨ ltI (if x < m then x else m) xs ∈ x :: xs) ∧ ltI (if x < m then x else m) xs ≤ m ∧ ∀ y ∈ x :: xs, ltI (if x < m then x else m) xs ≤ y
    generalize ltI (if x < m then x else m) xs = z at *
    refine ⟨?_, ?_, fun y hy => ?_⟩
    · rcases h1 with h1 | h1
      · split at h1
        · exact .inr (by rw [h1]; exact List.mem_cons_self)
        · exact .inl h1
      · exact .inr (List.mem_cons_of_mem _ h1)
    · split at h2 <;> omega
    · rcases List.mem_cons.mp hy with e | e
      · subst e; split at h2 <;> omega
      · exact h3 y e
def maxI : List Int → Option Int
  | [] => none
  | x :: xs => some (gtI x xs)
def minI : List Int → Option Int
  | [] => none
  | x :: xs => some (ltI x xs)
def D.max : D → R D := dInts fun xs => match maxI xs with
  | some m => .ok (.int m)
  | none => .bad
def D.min : D → R D := dInts fun xs => match minI xs with
  | some m => .ok (.int m)
  | none => .bad
theorem pu_max : PuC G W (rMax G.K) (d1 D.max) := by
  refine pu_c1 (fun rel rv h => ?_)
  obtain ⟨a, xs, rfl, h1, h⟩ := dInts_of rel rv h
  cases xs with
  | nil => exact h.elim
  | cons x xs =>
    refine ⟨a, x :: xs, rfl, .inl (.inl h1), Nat.succ_pos _, fun m hm hle => ?_⟩
    obtain ⟨z1, z2, z3⟩ := gtI_spec xs x
    have e : m = gtI x xs := by
      have i1 : gtI x xs ∈ x :: xs := z1.elim (fun z => by rw [z]; exact List.mem_cons_self) fun z => List.mem_cons_of_mem _ z
      have i2 := hle _ i1
      rcases List.mem_cons.mp hm with e | e
      · subst e; omega
      · have := z3 m e; omega
    rw [e]
    exact h.here rel (.int _)
theorem pu_min : PuC G W (rMin G.K) (d1 D.min) := by
  refine pu_c1 (fun rel rv h => ?_)
  obtain ⟨a, xs, rfl, h1, h⟩ := dInts_of rel rv h
  cases xs with
  | nil => exact h.elim
  | cons x xs =>
    refine ⟨a, x :: xs, rfl, .inl (.inl h1), Nat.succ_pos _, fun m hm hle => ?_⟩
    obtain ⟨z1, z2, z3⟩ := ltI_spec xs x
    have e : m = ltI x xs := by
      have i1 : ltI x xs ∈ x :: xs := z1.elim (fun z => by rw [z]; exact List.mem_cons_self) fun z => List.mem_cons_of_mem _ z
      have i2 := hle _ i1
      rcases List.mem_cons.mp hm with e | e
      · subst e; omega
      · have := z3 m e; omega
    rw [e]
    exact h.here rel (.int _)
def D.all : D → R D := dBls fun xs => .ok (.bl (xs.all id))
def D.any : D → R D := dBls fun xs => .ok (.bl (xs.any id))
theorem pu_all : PuC G W (rAll G.K) (d1 D.all) := by
  refine pu_c1 (fun rel rv h => ?_)
  obtain ⟨a, xs, rfl, h1, h⟩ := dBls_of rel rv h
  exact ⟨a, xs, rfl, .inl (.inl h1), h.here rel (.bl _)⟩
theorem pu_any : PuC G W (rAny G.K) (d1 D.any) := by
  refine pu_c1 (fun rel rv h => ?_)
  obtain ⟨a, xs, rfl, h1, h⟩ := dBls_of rel rv h
  exact ⟨a, xs, rfl, .inl (.inl h1), h.here rel (.bl _)⟩
/-! ### slices -/
def optI : Option D → Option (Option Int)
  | none => some none
  | some (.int i) => some (some i)
  | _ => none
def cutD (ds : List D) (lo hi : Option Int) : List D := (ds.drop (HT.sIx ds.length 0 lo)).take (HT.sIx ds.length ds.length hi - HT.sIx ds.length 0 lo)
theorem cutD_of {F : Hp} {ds : List D} {vs : List V} (r : RpL G F ds vs) (lo hi : Option Int) : RpL G F (cutD ds lo hi) (cutV vs lo hi) := by
  unfold cutD cutV
  rw [r.length]
  exact (r.drop _).take _
def D.cut (a : D) (lo hi : Option Int) : R D := match a with
  | .lst ds => .ok (.lst (cutD ds lo hi))
  | .scr ds => .ok (.lst (cutD ds lo hi))
  | .tup ds => .ok (.tup (cutD ds lo hi))
  | _ => .bad
abbrev rSlAll (K : PySem.W.Frag) : V → Option Int → Option Int → Hp → VK → Prop := fun x lo hi H Q => rSlL K x lo hi H Q ∨ rSlA K x lo hi H Q
theorem sl_all : SlR X (rSlAll X.K) := SlR.or sl_list sl_tupA
def PuP (G : Gc) (W : WX) (o : List Nat) (t : TO) (o' : List Nat) (m : Env → R (Option Int)) : Prop :=
  ∀ {B F0 F H : Hp} {σ : L2.St} {ρ : Env} {Q : Option Int → Hp → Prop}, Rel G B F0 F H o σ ρ → Res G W B F0 F H o' σ ρ (fun a _ H' => Q a H') (m ρ) → t σ H Q
def mNoP : Env → R (Option Int) := fun _ => .ok none
def mPart (m : Env → R D) : Env → R (Option Int) := fun ρ => (m ρ).bind fun d => match d with
  | .int i => .ok (some i)
  | _ => .bad
theorem PuP.no {o : List Nat} : PuP G W o tNoPart o mNoP := fun {_ _ F H _ _ _} r h => h F H (Gr.refl F H) r
theorem PuP.part {o o1 : List Nat} {t : TE} {m : Env → R D} (h : PuE G W o t o1 m) : PuP G W o (tPart t) o1 (mPart m) := by
  intro B F0 F H σ ρ Q rel q
  refine h rel ((Res.bnd q).imp fun d F1 H1 e1 r1 q v rv => ?_)
  cases rv with
  | int i => exact ⟨i, rfl, q F1 H1 (Gr.refl F1 H1) r1⟩
  | _ => exact q.elim
def mSl (a : Env → R D) (lo hi : Env → R (Option Int)) : Env → R D := fun ρ => (a ρ).bind fun x => (lo ρ).bind fun l => (hi ρ).bind fun h => x.cut l h
theorem PuE.slice {o o1 o2 o3 : List Nat} {t : TE} {tl th : TO} {m : Env → R D} {ml mh : Env → R (Option Int)} (ha : PuE G W o t o1 m) (hl : PuP G W o1 tl o2 ml) (hh : PuP G W o2 th o3 mh) : PuE G W o (tSl (rSlAll G.K) t tl th) o3 (mSl m ml mh) := by
  intro B F0 F H σ ρ Q rel h
  refine ha rel ((Res.bnd h).imp fun a F1 H1 e1 r1 h1 v rv => ?_)
  refine hl r1 ((Res.bnd h1).imp fun l F2 H2 e2 r2 h2 => ?_)
  refine hh r2 ((Res.bnd h2).imp fun u F3 H3 e3 r3 h3 => ?_)
  have rv' := (rv.mono e2.le).mono e3.le
  cases rv' with
  | @lst p vs ds h4 r4 => exact .inl ⟨p, vs, rfl, .inl (.inl (r3.core.fh _ _ h4)), fun z hz => h3.new r3 hz fun F' le e => .lst e (cutD_of (r4.mono le) l u)⟩
  | @scr p vs ds h4 r4 => exact .inl ⟨p, vs, rfl, r3.sqL h4, fun z hz => h3.new r3 hz fun F' le e => .lst e (cutD_of (r4.mono le) l u)⟩
  | @tup p vs ds h4 r4 =>
    refine .inr ⟨p, vs, rfl, .inl (.inl (r3.core.fh _ _ h4)), fun w => ?_, fun _ z hz => h3.new r3 hz fun F' le e => .tup e (cutD_of (r4.mono le) l u)⟩
    have e : cutD ds l u = ds := by
      unfold cutD
      rw [r4.length, w.1, w.2, Nat.sub_zero, List.drop_zero, ← r4.length]
      exact List.take_length
    have h3' : Res G W B F0 F3 H3 o3 σ ρ (kE G Q) (.ok (.tup (cutD ds l u))) := h3
    rw [e] at h3'
    exact h3'.here r3 (.tup h4 r4)
  | _ => exact h3.elim
/-! ### written tuples, lists, dicts -/
def mTup (m : Env → R (List D)) : Env → R D := fun ρ => (m ρ).bind fun ds => if ds.length ≤ sizeLine then .ok (.tup ds) else .bad
def mLst (m : Env → R (List D)) : Env → R D := fun ρ => (m ρ).bind fun ds => if ds.length ≤ sizeLine then .ok (.lst ds) else .bad
theorem PuE.tupE {o o1 : List Nat} {t : TA} {m : Env → R (List D)} (h : PuA G W o t o1 m) : PuE G W o (tTup t) o1 (mTup m) := by
  intro B F0 F H σ ρ Q rel q
  refine h rel ((Res.bnd q).imp fun ds F1 H1 e1 r1 q vs rv => ?_)
  obtain ⟨hl, q⟩ := Res.ifP q
  exact ⟨by rw [← rv.length]; exact hl, fun p hp => q.new r1 hp fun F' le e => .tup e (rv.mono le)⟩
theorem PuO.lstE {o o1 : List Nat} {t : TA} {m : Env → R (List D)} (h : PuA G W o t o1 m) : PuO G W o (tLst t) o1 (mLst m) := by
  intro B F0 F H σ ρ Q rel q
  refine h rel ((Res.bnd q).imp fun ds F1 H1 e1 r1 q vs rv => ?_)
  obtain ⟨hl, q⟩ := Res.ifP q
  exact ⟨by rw [← rv.length]; exact hl, fun p hp => q.newO r1 hp (.lst upd_same rv)⟩
/-! ### isinstance -/
def D.tyN : D → Option String
  | .non => some "NoneType"
  | .bl _ => some "bool"
  | .int _ => some "int"
  | .str _ => some "str"
  | .tup _ => some "tuple"
  | .lst _ => some "list"
  | .dic false _ _ => some "dict"
  | .ktup _ => some "tuple"
  | .scr _ => some "list"
  | _ => none
def isiT : String → String → Option Bool
  | "NoneType", "int" => some false | "NoneType", "bool" => some false | "NoneType", "str" => some false | "NoneType", "tuple" => some false | "NoneType", "list" => some false | "NoneType", "dict" => some false
  | "bool", "int" => some true | "bool", "bool" => some true | "bool", "str" => some false | "bool", "tuple" => some false | "bool", "list" => some false | "bool", "dict" => some false
  | "int", "int" => some true | "int", "bool" => some false | "int", "str" => some false | "int", "tuple" => some false | "int", "list" => some false | "int", "dict" => some false
  | "str", "int" => some false | "str", "bool" => some false | "str", "str" => some true | "str", "tuple" => some false | "str", "list" => some false | "str", "dict" => some false
  | "tuple", "int" => some false | "tuple", "bool" => some false | "tuple", "str" => some false | "tuple", "tuple" => some true | "tuple", "list" => some false | "tuple", "dict" => some false
  | "list", "int" => some false | "list", "bool" => some false | "list", "str" => some false | "list", "tuple" => some false | "list", "list" => some true | "list", "dict" => some false
  | "dict", "int" => some false | "dict", "bool" => some false | "dict", "str" => some false | "dict", "tuple" => some false | "dict", "list" => some false | "dict", "dict" => some true
  | _, _ => none
end
end G
/-! S9: isinstance, truth, methods that change an own object, stores, what is walked. -/
namespace G
open PySem L2
theorem isiT_ok : ∀ {a b : String} {r : Bool}, isiT a b = some r → kitB a b = some r := by
  intro a b r h
  unfold isiT at h
  split at h <;> first | (cases h; decide +kernel) | cases h
section
variable {X : Cx} {G : Gc} {W : WX} {oL o o1 o2 oI : List Nat}
def D.isi (a b : D) : R D := match b with
  | .ty T => (match a.tyN with
    | some t => (match isiT t T with
      | some r => .ok (.bl r)
      | none => .bad)
    | none => .bad)
  | _ => .bad
theorem tyX_of {B F0 F H : Hp} {σ : L2.St} {ρ : Env} {d : D} {v : V} {t : String} (rel : Rel G B F0 F H o σ ρ) (rv : Rp G F d v) (h : d.tyN = some t) : TyX G.K H v (.type t) := by
  cases rv with
  | non => cases h; exact .base .non
  | bl b => cases h; exact .base (.bl b)
  | int i => cases h; exact .base (.int i)
  | str x => cases h; exact .base (.str x)
  | tup h1 r1 => cases h; exact .base (.tup (rel.core.fh _ _ h1))
  | lst h1 r1 => cases h; exact .base (.lst (rel.core.fh _ _ h1))
  | scr h1 r1 =>
    cases h
    rcases rel.sqL h1 with (z | ⟨x, z⟩) | ⟨x, _, _, z, c, _⟩
    · exact .base (.lst z)
    · exact .base (.frz z)
    · exact .kList z c
  | ktup h1 r1 =>
    cases h
    rcases rel.sqT h1 with (z | ⟨x, z⟩) | ⟨x, _, _, z, c, _⟩
    · exact .base (.tup z)
    · exact .fTuple z
    · exact .kTuple z c
  | dicK h1 hl r1 =>
    cases h
    rcases rel.rd h1 with z | ⟨x, z⟩
    · exact .base (.dK z)
    · exact .fDict z
  | _ => cases h
theorem pu_isi : PuC G W (rIsi G.K) (d2 D.isi) := by
  refine pu_c2 (fun {B F0 F H o σ ρ Q v w d e} rel rv rw h => ?_)
  unfold D.isi at h
  cases rw with
  | ty T =>
    cases q1 : d.tyN with
    | none => dsimp only at h; rw [q1] at h; exact h.elim
    | some t =>
      dsimp only at h; rw [q1] at h
      cases q2 : isiT t T with
      | none => dsimp only at h; rw [q2] at h; exact h.elim
      | some r =>
        dsimp only at h; rw [q2] at h
        exact ⟨v, .ty T, .type t, .type T, r, rfl, .ty T, tyX_of rel rv q1, kit_ty (isiT_ok q2), h.here rel (.bl _)⟩
  | _ => exact h.elim
/-! ### truth -/
def D.truth : D → R Bool
  | .non => .ok false
  | .bl b => .ok b
  | .int i => .ok (i != 0)
  | .str x => if x.length ≤ sizeLine then .ok ((x.length : Int) != 0) else .bad
  | .lst ds => .ok (!ds.isEmpty)
  | .scr ds => .ok (!ds.isEmpty)
  | .tup ds => .ok (!ds.isEmpty)
  | .ktup ds => .ok (!ds.isEmpty)
  | _ => .bad
theorem RpL.isEmpty {F : Hp} {ds : List D} {vs : List V} (r : RpL G F ds vs) : ds.isEmpty = vs.isEmpty := by
  cases r <;> rfl
def mTru (m : Env → R D) : Env → R Bool := fun ρ => (m ρ).bind D.truth
theorem PuT.truth {ta : TE} {ma : Env → R D} (ha : PuE G W o ta o1 ma) : PuT G W o (fun σ H Q => ta σ H fun x H' => ∃ k, TruV G.K x H' k ∧ Q k H') o1 (mTru ma) := by
  intro B F0 F H σ ρ Q rel h
  refine ha rel ((Res.bnd h).imp fun d F1 H1 e1 r1 h1 v rv => ?_)
  cases rv with
  | non => exact ⟨_, rfl, h1 F1 H1 (Gr.refl F1 H1) r1⟩
  | bl b => exact ⟨_, rfl, h1 F1 H1 (Gr.refl F1 H1) r1⟩
  | int i => exact ⟨_, rfl, h1 F1 H1 (Gr.refl F1 H1) r1⟩
  | str x => exact ⟨_, ⟨(Res.ifP h1).1, rfl⟩, (Res.ifP h1).2 F1 H1 (Gr.refl F1 H1) r1⟩
  | @lst a vs ds h2 r2 => exact ⟨_, .inl ⟨vs, .inl (.inl (r1.core.fh _ _ h2)), rfl⟩, by rw [← r2.isEmpty]; exact h1 F1 H1 (Gr.refl F1 H1) r1⟩
  | @scr a vs ds h2 r2 => exact ⟨_, .inl ⟨vs, r1.sqL h2, rfl⟩, by rw [← r2.isEmpty]; exact h1 F1 H1 (Gr.refl F1 H1) r1⟩
  | @tup a vs ds h2 r2 => exact ⟨_, .inr (.inl ⟨vs, .inl (.inl (r1.core.fh _ _ h2)), rfl⟩), by rw [← r2.isEmpty]; exact h1 F1 H1 (Gr.refl F1 H1) r1⟩
  | @ktup a vs ds h2 r2 => exact ⟨_, .inr (.inl ⟨vs, r1.sqT h2, rfl⟩), by rw [← r2.isEmpty]; exact h1 F1 H1 (Gr.refl F1 H1) r1⟩
  | _ => exact h1.elim
/-! ### methods that change an own object -/
def PuM (G : Gc) (r : V → List V → Hp → VK → Prop) (f : D → List D → R (D × D)) : Prop :=
  ∀ {F H : Hp} {a : Addr} {vs : List V} {ds : List D} {d d' e : D} {Q : VK}, Own G F H d a → RpL G F ds vs → (∀ b u, F b = some u → H b = some u) → F a = none → f d ds = .ok (d', e) → (∀ u v, Own G F (upd H a u) d' a → Rp G F e v → Q v (upd H a u)) → r (.ref a) vs H Q
def tyOk (T : String) : D → Bool
  | .lst _ => T == "list"
  | .dic _ _ _ => T == "dict"
  | _ => false
theorem tyV_own {F H : Hp} {d : D} {a : Addr} {T : String} (ow : Own G F H d a) (h : tyOk T d = true) : tyV G.K T (.ref a) H := by
  cases ow with
  | lst h1 r1 => exact .inl ⟨by simpa [tyOk] using h, _, .inl (.inl h1)⟩
  | dicK h1 hl r1 => exact .inr (.inr (.inl ⟨by simpa [tyOk] using h, .inl ⟨_, h1⟩⟩))
  | dicT h1 hl r1 => exact .inr (.inr (.inl ⟨by simpa [tyOk] using h, .inr ⟨_, h1⟩⟩))
  | iset _ _ => cases h
def mMut (T : String) (i : Nat) (f : D → List D → R (D × D)) (ms : Env → R (List D)) (k : D → Env → Out) : Env → Out := fun ρ => match ρ[i]? with
  | some (some d) => if tyOk T d = true then oBind (ms ρ) ρ fun ds => (match f d ds with
    | .ok (d', e) => k e (ρ.set i (some d'))
    | _ => .bad) else .bad
  | _ => .bad
def kDrop : D → Env → Out := fun _ ρ => .nx ρ
def kSet (j : Nat) : D → Env → Out := fun e ρ => .nx (ρ.set j (some e))
def kTg (mg : D → Env → R Env) : D → Env → Out := fun e ρ => match mg e ρ with
  | .ok ρ' => .nx ρ'
  | _ => .bad
/-- how a statement goes on with a method's value -/
def PuK (G : Gc) (W : WX) (oL o : List Nat) (t : Ends → V → L2.St → Hp → Prop) (o' : List Nat) (k : D → Env → Out) : Prop :=
  ∀ {B F0 F H : Hp} {σ : L2.St} {ρ : Env} {X : Ends} {v : V} {d : D}, Rel G B F0 F H o σ ρ → Rp G F d v → Post G W B F0 F oL o' X (k d ρ) → t X v σ H
theorem PuK.drop : PuK G W oL o (fun X _ σ H => X.nx σ H) o kDrop := fun {_ _ F H σ _ _ _ _} rel _ h => h F H σ (Le.refl F) rel
theorem PuK.set {j : Nat} : PuK G W oL o (fun X v σ H => X.nx (σ.set j (some v)) H) (o.filter (· != j)) (kSet j) := fun {_ _ F H σ _ _ _ _} rel rv h => h F H _ (Le.refl F) (rel.set rv)
theorem PuK.ret : PuK G W oL o (fun X v _ H => X.rt v H) o2 (fun e _ => .rt e) := fun {_ _ F H σ _ _ _ _} rel rv h => h F H _ (Le.refl F) rel.core rv
theorem PuK.tg {g : TG} {mg : D → Env → R Env} (hg : PuG G o g o1 mg) : PuK G W oL o (fun X v σ H => g v σ H X.nx) o1 (kTg mg) := by
  intro B F0 F H σ ρ X v d rel rv h
  unfold kTg at h
  cases q : mg d ρ with
  | ok ρ' => rw [q] at h; exact hg rel rv ⟨ρ', q, fun σ' r' => h F H σ' (Le.refl F) r'⟩
  | exc c p => rw [q] at h; exact h.elim
  | bad => rw [q] at h; exact h.elim
theorem Post.ifP {B F0 F : Hp} {oL o' : List Nat} {X : Ends} {c : Prop} [Decidable c] {m : Out} (h : Post G W B F0 F oL o' X (if c then m else .bad)) : c ∧ Post G W B F0 F oL o' X m := by
  split at h
  · rename_i hc; exact ⟨hc, h⟩
  · exact h.elim
theorem mut_end {r : V → List V → Hp → VK → Prop} {f : D → List D → R (D × D)} {t : Ends → V → L2.St → Hp → Prop} {k : D → Env → Out} {i : Nat} {B F0 F H : Hp} {σ : L2.St} {ρ : Env} {X : Ends} {vs : List V} {ds : List D} {d : D} {a : Addr} (hm : PuM G r f) (hk : PuK G W oL o t o1 k) (hi : i ∈ o)
    (rel : Rel G B F0 F H o σ ρ) (rv : RpL G F ds vs) (hρ : ρ[i]? = some (some d)) (ha : σ[i]? = some (some (.ref a))) (h : Post G W B F0 F oL o1 X (match f d ds with
        | .ok (d', e) => k e (ρ.set i (some d'))
        | _ => .bad)) : r (.ref a) vs H (fun v H' => t X v σ H') := by
  obtain ⟨b, q1, q2, q3, q4⟩ := rel.ow i d hρ hi
  rw [ha] at q1; cases q1
  cases q : f d ds with
  | ok z =>
    obtain ⟨d', e⟩ := z
    rw [q] at h
    exact hm q2 rv rel.core.fh q3 q (Q := fun v H' => t X v σ H') fun u v ow re => hk (rel.mut hi hρ ha ow) re h
  | exc c p => rw [q] at h; exact h.elim
  | bad => rw [q] at h; exact h.elim
theorem PuS.mutA {T : String} {r : V → List V → Hp → VK → Prop} {f : D → List D → R (D × D)} {t : Ends → V → L2.St → Hp → Prop} {k : D → Env → Out} {i : Nat} {ts : TA} {ms : Env → R (List D)} (hm : PuM G r f) (hi : i ∈ o1) (hi0 : i ∈ o) (hs : PuA G W o ts o1 ms) (hk : PuK G W oL o1 t o2 k) :
    PuS G W oL o (fun X σ H => tBM G.K T r (tVar i) ts σ H fun v H' => t X v σ H') o2 (mMut T i f ms k) := by
  intro B F0 F H σ ρ X rel h
  unfold mMut at h
  cases hρ : ρ[i]? with
  | none => rw [hρ] at h; exact h.elim
  | some z =>
    cases z with
    | none => rw [hρ] at h; exact h.elim
    | some d =>
      rw [hρ] at h
      obtain ⟨hT, h⟩ := Post.ifP h
      obtain ⟨a, q1, q2, q3, q4⟩ := rel.ow i d hρ hi0
      exact ⟨.ref a, q1, tyV_own q2 hT, hs rel ((Post.res h).imp fun ds F1 H1 e1 r1 q vs rv => mut_end hm hk hi r1 rv hρ q1 q)⟩
theorem PuS.mut0 {T : String} {r : V → List V → Hp → VK → Prop} {f : D → List D → R (D × D)} {t : Ends → V → L2.St → Hp → Prop} {k : D → Env → Out} {i : Nat} (hm : PuM G r f) (hi : i ∈ o) (hk : PuK G W oL o t o2 k) :
    PuS G W oL o (fun X σ H => tBM0 G.K T r (tVar i) σ H fun v H' => t X v σ H') o2 (mMut T i f mNil k) := by
  intro B F0 F H σ ρ X rel h
  unfold mMut at h
  cases hρ : ρ[i]? with
  | none => rw [hρ] at h; exact h.elim
  | some z =>
    cases z with
    | none => rw [hρ] at h; exact h.elim
    | some d =>
      rw [hρ] at h
      obtain ⟨hT, h⟩ := Post.ifP h
      obtain ⟨a, q1, q2, q3, q4⟩ := rel.ow i d hρ hi
      exact ⟨.ref a, q1, tyV_own q2 hT, mut_end hm hk hi rel .nil hρ q1 h⟩
/-! the methods -/
def dAppend : D → List D → R (D × D)
  | .lst xs, [y] => if xs.length < sizeLine then .ok (.lst (xs ++ [y]), .non) else .bad
  | _, _ => .bad
theorem pm_append : PuM G rAppend dAppend := by
  intro F H a vs ds d d' e Q ow rv fh fa hf hq
  cases ow with
  | @lst _ xs es h1 r1 =>
    cases rv with
    | nil => cases hf
    | cons h2 r2 =>
      cases r2 with
      | nil =>
        obtain ⟨hl, hf⟩ := R.ifOk hf
        cases hf
        exact ⟨a, xs, _, rfl, rfl, h1, by rw [← r1.length]; exact hl, hq _ _ (.lst upd_same (r1.append (.cons h2 .nil))) .non⟩
      | cons _ _ => cases hf
  | _ => cases rv <;> cases hf
def dExtend : D → List D → R (D × D)
  | .lst xs, [.lst ys] => if xs.length + ys.length ≤ sizeLine then .ok (.lst (xs ++ ys), .non) else .bad
  | _, _ => .bad
theorem pm_extend : PuM G rExtend dExtend := by
  intro F H a vs ds d d' e Q ow rv fh fa hf hq
  cases ow with
  | @lst _ xs es h1 r1 =>
    cases rv with
    | nil => cases hf
    | cons h2 r2 =>
      cases r2 with
      | nil =>
        cases h2 with
        | @lst b zs fs h3 r3 =>
          obtain ⟨hl, hf⟩ := R.ifOk hf
          cases hf
          exact ⟨a, b, xs, zs, rfl, rfl, h1, fh _ _ h3, by rw [← r1.length, ← r3.length]; exact hl, hq _ _ (.lst upd_same (r1.append r3)) .non⟩
        | _ => cases hf
      | cons _ _ => cases h2 <;> cases hf
  | _ => cases rv <;> cases hf
def rInsert : V → List V → Hp → VK → Prop := fun x vs H Q => ∃ (l : Addr) (xs : List V) (i : Int) (y : V), x = .ref l ∧ vs = [.int i, y] ∧ H l = some (.lst xs) ∧ xs.length < sizeLine ∧ 0 ≤ i ∧ i < 2 ^ 63 ∧
    Q .non (upd H l (.lst (xs.take i.toNat ++ [y] ++ xs.drop i.toNat)))
def dInsert : D → List D → R (D × D)
  | .lst xs, [.int i, y] => if xs.length < sizeLine ∧ 0 ≤ i ∧ i < 2 ^ 63 then .ok (.lst (xs.take i.toNat ++ [y] ++ xs.drop i.toNat), .non) else .bad
  | _, _ => .bad
theorem pm_insert : PuM G rInsert dInsert := by
  intro F H a vs ds d d' e Q ow rv fh fa hf hq
  cases ow with
  | @lst _ xs es h1 r1 =>
    cases rv with
    | nil => cases hf
    | cons h2 r2 =>
      cases r2 with
      | nil => cases h2 <;> cases hf
      | cons h3 r3 =>
        cases r3 with
        | nil =>
          cases h2 with
          | int i =>
            obtain ⟨⟨c1, c2, c3⟩, hf⟩ := R.ifOk hf
            cases hf
            exact ⟨a, xs, i, _, rfl, rfl, h1, by rw [← r1.length]; exact c1, c2, c3, hq _ _ (.lst upd_same (((r1.take _).append (.cons h3 .nil)).append (r1.drop _))) .non⟩
          | _ => cases hf
        | cons _ _ => cases h2 <;> cases hf
  | _ => cases rv <;> cases hf
def dPop : D → List D → R (D × D)
  | .lst xs, [] => (match xs[xs.length - 1]? with
    | some y => .ok (.lst xs.dropLast, y)
    | none => .bad)
  | _, _ => .bad
theorem RpL.dropLast {F : Hp} : ∀ {ds : List D} {vs : List V}, RpL G F ds vs → RpL G F ds.dropLast vs.dropLast := by
  intro ds vs r
  rw [List.dropLast_eq_take, List.dropLast_eq_take, r.length]
  exact r.take _
theorem pm_pop : PuM G rPop dPop := by
  intro F H a vs ds d d' e Q ow rv fh fa hf hq
  cases ow with
  | @lst _ xs es h1 r1 =>
    cases rv with
    | nil =>
      unfold dPop at hf
      cases q : es[es.length - 1]? with
      | none => dsimp only at hf; rw [q] at hf; cases hf
      | some y =>
        dsimp only at hf; rw [q] at hf; cases hf
        obtain ⟨v, h3, h4⟩ := r1.get q
        exact ⟨a, xs, v, rfl, rfl, h1, by rw [← r1.length]; exact h3, hq _ _ (.lst upd_same r1.dropLast) h4⟩
    | cons _ _ => cases hf
  | _ => cases rv <;> cases hf
def dPopAt : D → List D → R (D × D)
  | .lst xs, [.int i] => (match ixN xs.length i with
    | some k => (match xs[k]? with
      | some y => if -(2 ^ 63) ≤ i ∧ i < 2 ^ 63 then .ok (.lst (xs.eraseIdx k), y) else .bad
      | none => .bad)
    | none => .bad)
  | _, _ => .bad
theorem pm_popAt : PuM G rPopAt dPopAt := by
  intro F H a vs ds d d' e Q ow rv fh fa hf hq
  cases ow with
  | @lst _ xs es h1 r1 =>
    cases rv with
    | nil => cases hf
    | cons h2 r2 =>
      cases r2 with
      | nil =>
        cases h2 with
        | int i =>
          unfold dPopAt at hf
          dsimp only at hf
          cases q1 : ixN es.length i with
          | none => rw [q1] at hf; cases hf
          | some k =>
            rw [q1] at hf
            dsimp only at hf
            cases q : es[k]? with
            | none => rw [q] at hf; cases hf
            | some y =>
              rw [q] at hf
              obtain ⟨⟨c1, c2⟩, hf⟩ := R.ifOk hf
              cases hf
              obtain ⟨v, h3, h4⟩ := r1.get q
              exact ⟨a, xs, i, k, v, rfl, rfl, h1, c1, c2, by rw [← r1.length]; exact (ixN_seq q1).1, h3, hq _ _ (.lst upd_same (r1.eraseIdx k)) h4⟩
        | _ => cases hf
      | cons _ _ => cases h2 <;> cases hf
  | _ => cases rv <;> cases hf
/-- the first place of an int among ints -/
def dRemove : D → List D → R (D × D)
  | .lst xs, [.int k] => (match D.ints xs with
    | some ns => if k ∈ ns then .ok (.lst ((ns.eraseIdx (ns.idxOf k)).map D.int), .non) else .bad
    | none => .bad)
  | _, _ => .bad
end
end G
/-! S10: remove, dicts, stores, what is walked. -/
namespace G
open PySem L2
section
variable {X : Cx} {G : Gc} {W : WX} {oL o o1 o2 o3 oI : List Nat}
theorem idx_first : ∀ {ns : List Int} {k : Int}, k ∈ ns → ns[ns.idxOf k]? = some k ∧ ∀ m : Nat, m < ns.idxOf k → ns[m]? ≠ some k
  | [], k, h => by cases h
  | x :: ns, k, h => by
    by_cases e : x = k
    · subst e
      rw [List.idxOf_cons_self]
      exact ⟨rfl, fun m hm => absurd hm (Nat.not_lt_zero m)⟩
    · have hk : k ∈ ns := (List.mem_cons.mp h).elim (fun q => absurd q.symm e) id
      obtain ⟨h1, h2⟩ := idx_first hk
      have ei : (x :: ns).idxOf k = ns.idxOf k + 1 := by
        rw [List.idxOf_cons]
        have : (x == k) = false := by simpa using e
        rw [this]
        rfl
      rw [ei]
      refine ⟨by simpa using h1, fun m hm => ?_⟩
      cases m with
      | zero => simpa using e
      | succ m => simpa using h2 m (by omega)
theorem pm_remove : PuM G rRemI dRemove := by
  intro F H a vs ds d d' e Q ow rv fh fa hf hq
  cases ow with
  | @lst _ xs es h1 r1 =>
    cases rv with
    | nil => cases hf
    | cons h2 r2 =>
      cases r2 with
      | nil =>
        cases h2 with
        | int k =>
          unfold dRemove at hf
          dsimp only at hf
          cases q1 : D.ints es with
          | none => rw [q1] at hf; cases hf
          | some ns =>
            rw [q1] at hf
            obtain ⟨hk, hf⟩ := R.ifOk hf
            cases hf
            have e1 := ints_eq q1
            subst e1
            rw [r1.intsV] at h1
            obtain ⟨i1, i2⟩ := idx_first hk
            exact ⟨a, ns, k, _, rfl, rfl, h1, i1, i2, hq _ _ (.lst upd_same (RpL.ints _)) .non⟩
        | _ => cases hf
      | cons _ _ => cases h2 <;> cases hf
  | _ => cases rv <;> cases hf
/-! ### dicts -/
def mDic (t : Bool) : Env → R D := fun _ => .ok (.dic t [] [])
theorem PuO.dnewK : PuO G W o tDNewK o (mDic false) := fun {_ _ F H σ ρ Q} rel h p hp => Res.newO h rel hp (.dicK (ks := []) (vs := []) upd_same rfl .nil)
theorem PuO.dnewT : PuO G W o tDNewT o (mDic true) := fun {_ _ F H σ ρ Q} rel h p hp => Res.newO h rel hp (.dicT (ks := []) (vs := []) upd_same rfl .nil)
/-- values with those at the key j changed -/
def dputV : List DK → List D → DK → D → List D
  | k :: ks, d :: ds, j, e => (if k = j then e else d) :: dputV ks ds j e
  | _, ds, _, _ => ds
def dhas (ks : List DK) (j : DK) : Bool := ks.any fun k => decide (k = j)
/-- in its place, or at the end -/
def dput (ks : List DK) (ds : List D) (j : DK) (e : D) : List DK × List D := if dhas ks j = true then (ks, dputV ks ds j e) else (ks ++ [j], ds ++ [e])
theorem dkK_inj {a b : Key} (h : dkK a = dkK b) : a = b := by
  cases a <;> cases b <;> simp [dkK] at h <;> simp [h]
theorem any_map {κ : Type} [DecidableEq κ] (f : κ → DK) (hf : ∀ a b, f a = f b → a = b) (j : κ) : ∀ (ks : List κ) (vs : List V), ks.length = vs.length → ((ks.zip vs).any fun kv => decide (kv.1 = j)) = dhas (ks.map f) (f j)
  | [], [], _ => rfl
  | k :: ks, v :: vs, hl => by
    have ih := any_map f hf j ks vs (by simpa using hl)
    unfold dhas at ih ⊢
    rw [List.zip_cons_cons, List.any_cons, List.map_cons, List.any_cons, ih]
    congr 1
    by_cases e : k = j
    · subst e; simp
    · have : f k ≠ f j := fun q => e (hf _ _ q)
      simp [e, this]
theorem repl_map {κ : Type} [DecidableEq κ] {F : Hp} {e : D} {w : V} (f : κ → DK) (hf : ∀ a b, f a = f b → a = b) (j : κ) (re : Rp G F e w) : ∀ (ks : List κ) (vs : List V) (ds : List D), ks.length = vs.length → RpL G F ds vs → ∃ ws, (ks.zip vs).map (fun kv => if kv.1 = j then (kv.1, w) else kv) = ks.zip ws ∧ ks.length = ws.length ∧ RpL G F (dputV (ks.map f) ds (f j) e) ws
  | [], [], [], _, _ => ⟨[], rfl, rfl, .nil⟩
  | k :: ks, v :: vs, d :: ds, hl, .cons h r => by
    obtain ⟨ws, h1, h2, h3⟩ := repl_map f hf j re ks vs ds (by simpa using hl) r
    by_cases q : k = j
    · subst q
      refine ⟨w :: ws, ?_, by simp [h2], ?_⟩
      · rw [List.zip_cons_cons, List.map_cons, h1]; simp
      · show RpL G F ((if f k = f k then e else d) :: dputV (ks.map f) ds (f k) e) (w :: ws)
        rw [if_pos rfl]; exact .cons re h3
    · have q2 : f k ≠ f j := fun z => q (hf _ _ z)
      refine ⟨v :: ws, ?_, by simp [h2], ?_⟩
      · rw [List.zip_cons_cons, List.map_cons, h1]; simp [q]
      · show RpL G F ((if f k = f j then e else d) :: dputV (ks.map f) ds (f j) e) (v :: ws)
        rw [if_neg q2]; exact .cons h h3
theorem put_map {κ : Type} [DecidableEq κ] {F : Hp} {e : D} {w : V} (f : κ → DK) (hf : ∀ a b, f a = f b → a = b) (j : κ) (re : Rp G F e w) (ks : List κ) (vs : List V) (ds : List D) (hl : ks.length = vs.length) (r : RpL G F ds vs) :
    ∃ (ks' : List κ) (ws : List V), putK (ks.zip vs) j w = ks'.zip ws ∧ ks'.length = ws.length ∧ RpL G F (dput (ks.map f) ds (f j) e).2 ws ∧ (dput (ks.map f) ds (f j) e).1 = ks'.map f := by
  unfold putK dput
  rw [any_map f hf j ks vs hl]
  by_cases h : dhas (ks.map f) (f j) = true
  · rw [if_pos h, if_pos h]
    obtain ⟨ws, h1, h2, h3⟩ := repl_map f hf j re ks vs ds hl r
    exact ⟨ks, ws, h1, h2, h3, rfl⟩
  · rw [if_neg h, if_neg h]
    refine ⟨ks ++ [j], vs ++ [w], ?_, by simp [hl], r.append (.cons re .nil), by simp⟩
    rw [List.zip_append hl]
    rfl
def mDPut (i : Nat) (mk mv : Env → R D) : Env → Out := fun ρ => oBind (mv ρ) ρ fun e => match ρ[i]? with
  | some (some (.dic t ks ds)) => oBind (mk ρ) ρ fun j => (match j.key with
    | some k => if isKind t k = true ∧ ks.length < sizeLine then .nx (ρ.set i (some (.dic t (dput ks ds k e).1 (dput ks ds k e).2))) else .bad
    | none => .bad)
  | _ => .bad
theorem dput_end {B F0 F H : Hp} {σ : L2.St} {ρ : Env} {t : Bool} {ks : List DK} {ds : List D} {a : Addr} {y w : V} {j e : D} {k : DK} {i : Nat} {N : L2.St → Hp → Prop} (rel : Rel G B F0 F H o σ ρ) (hi : i ∈ o) (hρ : ρ[i]? = some (some (.dic t ks ds))) (ha : σ[i]? = some (some (.ref a))) (rj : Rp G F j y) (re : Rp G F e w) (hk : j.key = some k) (ht : isKind t k = true) (hl : ks.length < sizeLine)
    (h : ∀ H', Rel G B F0 F H' o σ (ρ.set i (some (.dic t (dput ks ds k e).1 (dput ks ds k e).2))) → N σ H') : ∃ H4, DPut H a y w H4 ∧ N σ H4 := by
  obtain ⟨b, q1, q2, q3, q4⟩ := rel.ow i _ hρ hi
  rw [ha] at q1; cases q1
  cases q2 with
  | @dicK _ js vs _ h1 hz r1 =>
    rcases key_of rel.core.fh rj hk with ⟨j', rfl, rfl⟩ | ⟨_, _, rfl, _⟩
    · obtain ⟨ks', ws, p1, p2, p3, p4⟩ := put_map dkK (fun _ _ => dkK_inj) j' re js vs ds hz r1
      refine ⟨upd H a (.dK (putK (js.zip vs) j' w)), .inl ⟨_, j', h1, rfl, ?_, rfl⟩, h _ (rel.mut hi hρ ha ?_)⟩
      · rw [List.length_zip, ← hz, Nat.min_self]; simpa using hl
      · rw [p1, p4]; exact .dicK upd_same p2 p3
    · cases ht
  | @dicT _ js vs _ h1 hz r1 =>
    rcases key_of rel.core.fh rj hk with ⟨j', rfl, rfl⟩ | ⟨js', b, rfl, rfl, hb⟩
    · cases j' <;> cases ht
    · obtain ⟨ks', ws, p1, p2, p3, p4⟩ := put_map DK.t (fun _ _ z => by injection z) js' re js vs ds hz r1
      refine ⟨upd H a (.dT (putK (js.zip vs) js' w)), .inr ⟨_, js', b, h1, rfl, hb, ?_, rfl⟩, h _ (rel.mut hi hρ ha ?_)⟩
      · rw [List.length_zip, ← hz, Nat.min_self]; simpa using hl
      · rw [p1, p4]; exact .dicT upd_same p2 p3
theorem PuS.dput {i : Nat} {tk tv : TE} {mk mv : Env → R D} (hi1 : i ∈ o1) (hi2 : i ∈ o2) (hv : PuE G W o tv o1 mv) (hk : PuE G W o1 tk o2 mk) : PuS G W oL o (sDPut (tVar i) tk tv) o2 (mDPut i mk mv) := by
  intro B F0 F H σ ρ X rel h
  refine hv rel ((Post.res h).imp fun e F1 H1 e1 r1 q w re => ?_)
  cases hρ : ρ[i]? with
  | none => rw [hρ] at q; exact q.elim
  | some z =>
    cases z with
    | none => rw [hρ] at q; exact q.elim
    | some d =>
      cases d with
      | dic t ks ds =>
        rw [hρ] at q
        dsimp only at q
        obtain ⟨a, q1, q2, q3, q4⟩ := r1.ow i _ hρ hi1
        refine ⟨.ref a, q1, hk r1 ((Post.res q).imp fun j F2 H2 e2 r2 p y rj => ?_)⟩
        cases hj : j.key with
        | none => rw [hj] at p; exact p.elim
        | some k =>
          rw [hj] at p
          obtain ⟨⟨c1, c2⟩, p⟩ := Post.ifP p
          obtain ⟨H4, x1, x2⟩ := dput_end (N := X.nx) r2 hi2 hρ q1 rj (re.mono e2.le) hj c1 c2 fun H' r' => p F2 H' σ (Le.refl F2) r'
          exact ⟨a, H4, rfl, x1, x2⟩
      | _ => rw [hρ] at q; exact q.elim
/-- d.get(k), d.get(k, x) -/
theorem isD_of {B F0 F H : Hp} {σ : L2.St} {ρ : Env} {t : Bool} {ks : List DK} {ds : List D} {v : V} (rel : Rel G B F0 F H o σ ρ) (rd : Rp G F (.dic t ks ds) v) : ∃ a, v = .ref a ∧ IsD H a := by
  cases rd with
  | @dicK a js vs _ h1 hl r1 => exact ⟨a, rfl, .inl ⟨_, rel.rd h1⟩⟩
  | @dicT a js vs _ h1 hl r1 => exact ⟨a, rfl, .inr ⟨_, rel.rd h1⟩⟩
def D.getD3 (a b c : D) : R D := match a with
  | .dic t ks ds => (match b.key with
    | some k => if isKind t k = true then (match dget ks ds k with
      | some d => .ok d
      | none => .ok c) else .bad
    | none => .bad)
  | _ => .bad
def D.isDic : D → Bool
  | .dic _ _ _ => true
  | _ => false
def mGet1 (a b : Env → R D) : Env → R D := fun ρ => (a ρ).bind fun x => if x.isDic = true then (b ρ).bind fun y => x.getD3 y .non else .bad
def mGet2 (a b c : Env → R D) : Env → R D := fun ρ => (a ρ).bind fun x => if x.isDic = true then (b ρ).bind fun y => (c ρ).bind fun z => x.getD3 y z else .bad
theorem getD_of {B F0 F H : Hp} {σ : L2.St} {ρ : Env} {x y z : D} {v w u : V} {Q : VK} (rel : Rel G B F0 F H o σ ρ) (rx : Rp G F x v) (ry : Rp G F y w) (rz : Rp G F z u) (h : Res G W B F0 F H o σ ρ (kE G Q) (x.getD3 y z)) : ∃ a r, v = .ref a ∧ DGet H a w r ∧ Q (r.getD u) H := by
  unfold D.getD3 at h
  cases x with
  | dic t ks ds =>
    cases q1 : y.key with
    | none => dsimp only at h; rw [q1] at h; exact h.elim
    | some k =>
      dsimp only at h; rw [q1] at h
      obtain ⟨s1, h⟩ := Res.ifP h
      obtain ⟨p, e, m⟩ := dget_of rel rx ry q1 s1
      rcases m with ⟨z1, z2⟩ | ⟨v', d', z1, z2, z3⟩
      · rw [z2] at h; exact ⟨p, none, e, z1, h.here rel rz⟩
      · rw [z2] at h; exact ⟨p, some v', e, z1, h.here rel z3⟩
  | _ => exact h.elim
theorem PuE.get1 {ta tb : TE} {ma mb : Env → R D} (ha : PuE G W o ta o1 ma) (hb : PuE G W o1 tb o2 mb) : PuE G W o (tDGet1 ta tb) o2 (mGet1 ma mb) := by
  intro B F0 F H σ ρ Q rel h
  refine ha rel ((Res.bnd h).imp fun a F1 H1 e1 r1 h1 v rv => ?_)
  obtain ⟨hd, h1⟩ := Res.ifP h1
  cases a with
  | dic t ks ds =>
    obtain ⟨p, ep, ip⟩ := isD_of r1 rv
    refine ⟨p, ep, ip, hb r1 ((Res.bnd h1).imp fun b F2 H2 e2 r2 h2 w rw => ?_)⟩
    obtain ⟨p', r, e', g, q⟩ := getD_of r2 (rv.mono e2.le) rw .non h2
    rw [ep] at e'; cases e'
    exact ⟨r, g, q⟩
  | _ => cases hd
theorem PuE.get2 {ta tb tc : TE} {ma mb mc : Env → R D} (ha : PuE G W o ta o1 ma) (hb : PuE G W o1 tb o2 mb) (hc : PuE G W o2 tc o3 mc) : PuE G W o (tDGet2 ta tb tc) o3 (mGet2 ma mb mc) := by
  intro B F0 F H σ ρ Q rel h
  refine ha rel ((Res.bnd h).imp fun a F1 H1 e1 r1 h1 v rv => ?_)
  obtain ⟨hd, h1⟩ := Res.ifP h1
  cases a with
  | dic t ks ds =>
    obtain ⟨p, ep, ip⟩ := isD_of r1 rv
    refine ⟨p, ep, ip, hb r1 ((Res.bnd h1).imp fun b F2 H2 e2 r2 h2 w rw => ?_)⟩
    refine hc r2 ((Res.bnd h2).imp fun c F3 H3 e3 r3 h3 u ru => ?_)
    obtain ⟨p', r, e', g, q⟩ := getD_of r3 ((rv.mono e2.le).mono e3.le) (rw.mono e3.le) ru h3
    rw [ep] at e'; cases e'
    exact ⟨r, g, q⟩
  | _ => cases hd
/-! ### stores into an own list; x += e -/
def mLPut (i : Nat) (mk mv : Env → R D) : Env → Out := fun ρ => oBind (mv ρ) ρ fun e => match ρ[i]? with
  | some (some (.lst ds)) => oBind (mk ρ) ρ fun j => (match j with
    | .int k => (match ixN ds.length k with
      | some n => .nx (ρ.set i (some (.lst (ds.set n e))))
      | none => .bad)
    | _ => .bad)
  | _ => .bad
theorem PuS.lput {i : Nat} {tk tv : TE} {mk mv : Env → R D} (hi1 : i ∈ o1) (hi2 : i ∈ o2) (hv : PuE G W o tv o1 mv) (hk : PuE G W o1 tk o2 mk) : PuS G W oL o (tAsg tv (gSub (tVar i) tk rSetL)) o2 (mLPut i mk mv) := by
  intro B F0 F H σ ρ X rel h
  refine hv rel ((Post.res h).imp fun e F1 H1 e1 r1 q w re => ?_)
  cases hρ : ρ[i]? with
  | none => rw [hρ] at q; exact q.elim
  | some z =>
    cases z with
    | none => rw [hρ] at q; exact q.elim
    | some d =>
      cases d with
      | lst ds =>
        rw [hρ] at q
        dsimp only at q
        obtain ⟨a, q1, q2, q3, q4⟩ := r1.ow i _ hρ hi1
        refine ⟨.ref a, q1, hk r1 ((Post.res q).imp fun j F2 H2 e2 r2 p y rj => ?_)⟩
        obtain ⟨b, y1, y2, y3, y4⟩ := r2.ow i _ hρ hi2
        rw [q1] at y1; cases y1
        cases rj with
        | int k =>
          dsimp only at p
          cases y2 with
          | @lst _ vs _ h1 r3 =>
            cases hn : ixN ds.length k with
            | none => rw [hn] at p; exact p.elim
            | some n =>
              rw [hn] at p
              refine ⟨a, vs, k, n, rfl, rfl, h1, by rw [← r3.length]; exact hn, ?_⟩
              exact p F2 _ σ (Le.refl F2) (r2.mut hi2 hρ q1 (.lst upd_same (r3.set n (re.mono e2.le))))
        | _ => exact p.elim
      | _ => rw [hρ] at q; exact q.elim
def mAug (i : Nat) (f : Int → Int → Int) (m : Env → R D) : Env → Out := fun ρ => match ρ[i]? with
  | some (some (.int x)) => oBind (m ρ) ρ fun d => (match d with
    | .int y => .nx (ρ.set i (some (.int (f x y))))
    | _ => .bad)
  | _ => .bad
theorem PuS.aug {i : Nat} {f : Int → Int → Int} {t : TE} {m : Env → R D} (hi : i ∉ o) (h : PuE G W o t o1 m) : PuS G W oL o (tAug i t (ipI f)) (o1.filter (· != i)) (mAug i f m) := by
  intro B F0 F H σ ρ X rel q
  unfold mAug at q
  cases hρ : ρ[i]? with
  | none => rw [hρ] at q; exact q.elim
  | some z =>
    cases z with
    | none => rw [hρ] at q; exact q.elim
    | some d =>
      cases d with
      | int x =>
        rw [hρ] at q
        dsimp only at q
        obtain ⟨v, q1, q2⟩ := rel.sh i _ hρ hi
        cases q2
        refine ⟨.int x, q1, h rel ((Post.res q).imp fun e F1 H1 e1 r1 p y ry => ?_)⟩
        cases ry with
        | int y => exact ⟨x, y, rfl, rfl, p F1 H1 _ (Le.refl F1) (r1.set (.int _))⟩
        | _ => exact p.elim
      | _ => rw [hρ] at q; exact q.elim
/-! ### what is walked -/
def D.seq : D → R (List D)
  | .lst ds => .ok ds
  | .scr ds => .ok ds
  | .tup ds => .ok ds
  | .ktup ds => .ok ds
  | _ => .bad
def D.seqL : D → R (List D)
  | .lst ds => .ok ds
  | .scr ds => .ok ds
  | _ => .bad
def D.seqT : D → R (List D)
  | .tup ds => .ok ds
  | .ktup ds => .ok ds
  | _ => .bad
def mSq (f : D → R (List D)) (m : Env → R D) : Env → R (List D) := fun ρ => (m ρ).bind f
/-- where a walked list, tuple stands for good -/
theorem yields_of {F : Hp} {J : It} {ds : List D} (h : ∀ F2 H2, Le F F2 → (∀ a u, F2 a = some u → H2 a = some u) → (∀ i, i < ds.length → J.go i H2) ∧ J.stop ds.length H2 ∧ ∀ (i : Nat) d x H3, ds[i]? = some d → J.yld i H2 x H3 → H3 = H2 ∧ Rp G F2 d x) : Yields G F J ds := fun F2 H2 le fh => by
  obtain ⟨h1, h2, h3⟩ := h F2 H2 le fh
  refine ⟨h1, h2, fun i d x H3 hd hy => ?_⟩
  obtain ⟨rfl, r⟩ := h3 i d x H3 hd hy
  exact ⟨F2, Gr.refl F2 _, fh, fun _ q => .inl q, r⟩
theorem sqL_up {F F2 H2 : Hp} {a : Addr} {vs : List V} (le : Le F F2) (fh : ∀ a u, F2 a = some u → H2 a = some u) (h : SqL G.K F a vs) : SqL G.K H2 a vs := (le.toLe0.l (G := G) h).elim (fun q => .inl (q.elim (fun q => .inl (fh _ _ q)) fun ⟨x, q⟩ => .inr ⟨x, fh _ _ q⟩)) .inr
theorem sqT_up {F F2 H2 : Hp} {a : Addr} {vs : List V} (le : Le F F2) (fh : ∀ a u, F2 a = some u → H2 a = some u) (h : SqT G.K F a vs) : SqT G.K H2 a vs := (le.toLe0.t (G := G) h).elim (fun q => .inl (q.elim (fun q => .inl (fh _ _ q)) fun ⟨x, q⟩ => .inr ⟨x, fh _ _ q⟩)) .inr
theorem yl_list {F : Hp} {a : Addr} {vs : List V} {ds : List D} (h : SqL G.K F a vs) (r : RpL G F ds vs) : Yields G F (Itl G.K a) ds := yields_of fun F2 H2 le fh => by
  have q := sqL_up le fh h
  refine ⟨fun i hi => ?_, ⟨vs, q, by rw [r.length]; exact Nat.le_refl _⟩, fun i d x H3 hd hy => ?_⟩
  · have hi' : i < vs.length := by rw [← r.length]; exact hi
    exact ⟨vs, vs[i], q, by simp [hi']⟩
  · obtain ⟨v, h1, h2⟩ := r.get hd
    have e := hy.2 vs q
    rw [h1] at e; cases e
    exact ⟨hy.1, h2.mono le⟩
theorem yl_tup {F : Hp} {a : Addr} {vs : List V} {ds : List D} (h : SqT G.K F a vs) (r : RpL G F ds vs) : Yields G F (Itt G.K a) ds := yields_of fun F2 H2 le fh => by
  have q := sqT_up le fh h
  refine ⟨fun i hi => ?_, ⟨vs, q, by rw [r.length]; exact Nat.le_refl _⟩, fun i d x H3 hd hy => ?_⟩
  · have hi' : i < vs.length := by rw [← r.length]; exact hi
    exact ⟨vs, vs[i], q, by simp [hi']⟩
  · obtain ⟨v, h1, h2⟩ := r.get hd
    have e := hy.2 vs q
    rw [h1] at e; cases e
    exact ⟨hy.1, h2.mono le⟩
theorem PuI.list {t : TE} {m : Env → R D} (h : PuE G W o t o1 m) : PuI G W o (iList G.K t) o1 (mSq D.seqL m) := by
  intro B F0 F H σ ρ K rel q
  refine h rel ((Res.bnd q).imp fun d F1 H1 e1 r1 p v rv => ?_)
  cases rv with
  | @lst a vs ds h1 r2 => exact ⟨a, rfl, ⟨vs, .inl (.inl (r1.core.fh _ _ h1))⟩, p F1 H1 (Gr.refl F1 H1) r1 _ (yl_list (.inl (.inl h1)) r2)⟩
  | @scr a vs ds h1 r2 => exact ⟨a, rfl, ⟨vs, r1.sqL h1⟩, p F1 H1 (Gr.refl F1 H1) r1 _ (yl_list h1 r2)⟩
  | _ => exact p.elim
theorem PuI.tup {t : TE} {m : Env → R D} (h : PuE G W o t o1 m) : PuI G W o (iTup G.K t) o1 (mSq D.seqT m) := by
  intro B F0 F H σ ρ K rel q
  refine h rel ((Res.bnd q).imp fun d F1 H1 e1 r1 p v rv => ?_)
  cases rv with
  | @tup a vs ds h1 r2 => exact ⟨a, rfl, ⟨vs, .inl (.inl (r1.core.fh _ _ h1))⟩, p F1 H1 (Gr.refl F1 H1) r1 _ (yl_tup (.inl (.inl h1)) r2)⟩
  | @ktup a vs ds h1 r2 => exact ⟨a, rfl, ⟨vs, r1.sqT h1⟩, p F1 H1 (Gr.refl F1 H1) r1 _ (yl_tup h1 r2)⟩
  | _ => exact p.elim
def rangeD (a b : Int) : List D := (List.range (b - a).toNat).map fun i => D.int (a + (i : Nat))
theorem yl_range {F : Hp} {lo : Int} {n : Nat} : Yields G F (Itr lo n) ((List.range n).map fun i => D.int (lo + (i : Nat))) := yields_of fun F2 H2 le fh => by
  refine ⟨fun i hi => by show i < n; simpa using hi, by show n ≤ _; simp, fun i d x H3 hd hy => ⟨hy.1, ?_⟩⟩
  rw [List.getElem?_map] at hd
  have e2 : x = V.int (lo + (i : Nat)) := hy.2
  cases q : (List.range n)[i]? with
  | none => rw [q] at hd; cases hd
  | some j =>
    rw [q] at hd; cases hd
    have : j = i := by
      have := List.getElem?_eq_some_iff.mp q
      obtain ⟨h1, h2⟩ := this
      simpa using h2.symm
    subst this
    rw [e2]
    exact .int _
def rangeOk (a b : Int) : Bool := decide (-(2 ^ 62) ≤ a) && (decide (a < 2 ^ 62) && (decide (-(2 ^ 62) ≤ b) && decide (b < 2 ^ 62)))
theorem rangeOk_of {a b : Int} (h : rangeOk a b = true) : -(2 ^ 62) ≤ a ∧ a < 2 ^ 62 ∧ -(2 ^ 62) ≤ b ∧ b < 2 ^ 62 := by
  unfold rangeOk at h
  rw [Bool.and_eq_true, Bool.and_eq_true, Bool.and_eq_true] at h
  exact ⟨of_decide_eq_true h.1, of_decide_eq_true h.2.1, of_decide_eq_true h.2.2.1, of_decide_eq_true h.2.2.2⟩
def dRange1 : D → R (List D)
  | .int j => if rangeOk 0 j = true then .ok (rangeD 0 j) else .bad
  | _ => .bad
def dRange2 : D → D → R (List D)
  | .int i, .int j => if rangeOk i j = true then .ok (rangeD i j) else .bad
  | _, _ => .bad
def mRange2 (a b : Env → R D) : Env → R (List D) := fun ρ => (a ρ).bind fun x => (b ρ).bind fun y => dRange2 x y
theorem PuI.range1 {t : TE} {m : Env → R D} (h : PuE G W o t o1 m) : PuI G W o (iRng1 (tCons t tNil)) o1 (mSq dRange1 m) := by
  intro B F0 F H σ ρ K rel q
  refine h rel ((Res.bnd q).imp fun d F1 H1 e1 r1 p v rv => ?_)
  cases rv with
  | int j =>
    obtain ⟨c, p⟩ := Res.ifP p
    obtain ⟨_, _, c3, c4⟩ := rangeOk_of c
    refine ⟨j, rfl, c3, c4, p F1 H1 (Gr.refl F1 H1) r1 _ ?_⟩
    have := yl_range (G := G) (F := F1) (lo := 0) (n := j.toNat)
    unfold rangeD
    rw [Int.sub_zero]
    exact this
  | _ => exact p.elim
theorem PuI.range2 {t u : TE} {m n : Env → R D} (h : PuE G W o t o1 m) (h2 : PuE G W o1 u o2 n) : PuI G W o (iRng2 (tCons t (tCons u tNil))) o2 (mRange2 m n) := by
  intro B F0 F H σ ρ K rel q
  refine h rel ((Res.bnd q).imp fun d F1 H1 e1 r1 p v rv => ?_)
  refine h2 r1 ((Res.bnd p).imp fun e F2 H2 e2 r2 p w rw => ?_)
  cases rv with
  | int i =>
    cases rw with
    | int j =>
      obtain ⟨c, p⟩ := Res.ifP p
      obtain ⟨c1, c2, c3, c4⟩ := rangeOk_of c
      exact ⟨i, j, rfl, ⟨c1, c2, c3, c4⟩, p F2 H2 (Gr.refl F2 H2) r2 _ yl_range⟩
    | _ => exact p.elim
  | _ => cases rw <;> exact p.elim
/-- new pairs of what f and g tell -/
theorem yl_pair {F : Hp} {J : It} {ds : List D} {xs ys : Nat → Option V} {fs gs : Nat → Option D} {G0 : Hp → Prop} {n : Nat} (w : Walk J n G0 (YPair xs ys)) (hn : ds.length = n) (hG : ∀ F2 H2, Le F F2 → (∀ a u, F2 a = some u → H2 a = some u) → G0 H2)
    (hd : ∀ (i : Nat) d, ds[i]? = some d → ∃ a b, d = .tup [a, b] ∧ fs i = some a ∧ gs i = some b) (hf : ∀ i a, fs i = some a → ∃ v, xs i = some v ∧ Rp G F a v) (hg : ∀ i b, gs i = some b → ∃ v, ys i = some v ∧ Rp G F b v) : Yields G F J ds := fun F2 H2 le fh => by
  subst hn
  have q := hG F2 H2 le fh
  refine ⟨fun i hi => w.goes i H2 hi q, w.stops H2 q, fun i d x H3 hdi hy => ?_⟩
  obtain ⟨a, b, rfl, ha, hb⟩ := hd i d hdi
  obtain ⟨va, xa, ra⟩ := hf i a ha
  obtain ⟨vb, xb, rb⟩ := hg i b hb
  have hi : i < ds.length := (List.getElem?_eq_some_iff.mp hdi).1
  obtain ⟨T, x1, y1, e1, e2, e3, e4, e5⟩ := w.yields i H2 x H3 hi q hy
  rw [xa] at e4; cases e4
  rw [xb] at e5; cases e5
  subst e1 e3
  have fT : F2 T = none := by
    cases z : F2 T with
    | none => rfl
    | some u => rw [fh _ _ z] at e2; cases e2
  refine ⟨upd F2 T (.tup [va, vb]), ⟨Le.upd fT, fun c u z => by rw [upd_ne (ne_of_none z e2)]; exact z⟩, fun c u z => ?_, fun c z => ?_, .tup upd_same (.cons ((ra.mono le).mono (Le.upd fT)) (.cons ((rb.mono le).mono (Le.upd fT)) .nil))⟩
  · by_cases hc : c = T
    · subst hc; rw [upd_same] at z ⊢; exact z
    · rw [upd_ne hc] at z ⊢; exact fh c u z
  · by_cases hc : c = T
    · subst hc; exact .inr (.inl e2)
    · rw [upd_ne hc] at z; exact .inl z
def enumD (ds : List D) : List D := ds.zipIdx.map fun p => .tup [.int (p.2 : Nat), p.1]
theorem enumD_len (ds : List D) : (enumD ds).length = ds.length := by unfold enumD; simp
theorem enumD_get {ds : List D} {i : Nat} {d : D} (h : (enumD ds)[i]? = some d) : ∃ a b, d = .tup [a, b] ∧ some (D.int (i : Nat)) = some a ∧ ds[i]? = some b := by
  unfold enumD at h
  rw [List.getElem?_map, List.getElem?_zipIdx] at h
  cases q : ds[i]? with
  | none => rw [q] at h; cases h
  | some b => rw [q] at h; cases h; exact ⟨.int (i : Nat), b, by simp, rfl, rfl⟩
def dEnum (f : D → R (List D)) : D → R (List D) := fun d => (f d).bind fun ds => .ok (enumD ds)
theorem PuI.enumL {t : TE} {m : Env → R D} (h : PuE G W o t o1 m) : PuI G W o (iEnum G.K (tCons t tNil)) o1 (mSq (dEnum D.seqL) m) := by
  intro B F0 F H σ ρ K rel q
  refine h rel ((Res.bnd q).imp fun d F1 H1 e1 r1 p v rv => ?_)
  have go : ∀ {a : Addr} {vs : List V} {ds : List D}, SqL G.K F1 a vs → RpL G F1 ds vs → Yields G F1 (Ite G.K a) (enumD ds) := fun {a vs ds} h1 r => by
    refine yl_pair (fs := fun i => some (.int (i : Nat))) (gs := fun i => ds[i]?) (walk_enum (xs := vs)) (by rw [enumD_len, r.length]) (fun F2 H2 le fh => sqL_up le fh h1) (fun i d hd => enumD_get hd) (fun i a e => by cases e; exact ⟨_, rfl, .int _⟩) fun i b e => r.get e
  cases rv with
  | @lst a vs ds h1 r2 => exact ⟨a, vs, rfl, .inl (.inl (r1.core.fh _ _ h1)), p F1 H1 (Gr.refl F1 H1) r1 _ (go (.inl (.inl h1)) r2)⟩
  | @scr a vs ds h1 r2 => exact ⟨a, vs, rfl, r1.sqL h1, p F1 H1 (Gr.refl F1 H1) r1 _ (go h1 r2)⟩
  | _ => exact p.elim
def zipD : List D → List D → List D
  | a :: as, b :: bs => .tup [a, b] :: zipD as bs
  | _, _ => []
theorem zipD_len : ∀ (as bs : List D), (zipD as bs).length = min as.length bs.length
  | [], bs => by simp [zipD]
  | a :: as, [] => by simp [zipD]
  | a :: as, b :: bs => by simp [zipD, zipD_len as bs]
theorem zipD_get : ∀ {as bs : List D} {i : Nat} {d : D}, (zipD as bs)[i]? = some d → ∃ a b, d = .tup [a, b] ∧ as[i]? = some a ∧ bs[i]? = some b
  | [], bs, i, d, h => by simp [zipD] at h
  | a :: as, [], i, d, h => by simp [zipD] at h
  | a :: as, b :: bs, 0, d, h => by simp [zipD] at h; exact ⟨a, b, h.symm, rfl, rfl⟩
  | a :: as, b :: bs, i + 1, d, h => by
    have h' : (zipD as bs)[i]? = some d := by simpa [zipD] using h
    obtain ⟨x, y, e, h1, h2⟩ := zipD_get h'
    exact ⟨x, y, e, by simpa using h1, by simpa using h2⟩
def dZip (x y : D) : R (List D) := match x, y with
  | .lst a, .lst b => .ok (zipD a b)
  | .tup a, .tup b => .ok (zipD a b)
  | _, _ => .bad
def mZip (a b : Env → R D) : Env → R (List D) := fun ρ => (a ρ).bind fun x => (b ρ).bind fun y => dZip x y
theorem walk_zipT {K : PySem.W.Frag} {a b : Addr} {xs ys : List V} {n : Nat} (hn : n = min xs.length ys.length) : Walk (RZ.ItzT K a b) n (fun H => SqT K H a xs ∧ SqT K H b ys) (YPair (fun i => xs[i]?) (fun i => ys[i]?)) := by
  subst hn
  refine ⟨fun i _ hi q => ?_, fun _ q => ⟨xs, ys, q.1, q.2, by omega⟩, fun i H v H' _ q y => ?_⟩
  · have h1 : i < xs.length := by omega
    have h2 : i < ys.length := by omega
    exact ⟨xs, ys, xs[i], ys[i], q.1, q.2, by simp [h1], by simp [h2]⟩
  · obtain ⟨T, x, z, h1, h2, h3, h4, h5⟩ := y
    exact ⟨T, x, z, h1, h2, h3, h4 xs q.1, h5 ys q.2⟩
theorem PuI.zip {t u : TE} {m n : Env → R D} (h : PuE G W o t o1 m) (h2 : PuE G W o1 u o2 n) : PuI G W o (RZ.iZipA G.K (tCons t (tCons u tNil))) o2 (mZip m n) := by
  intro B F0 F H σ ρ K rel q
  refine h rel ((Res.bnd q).imp fun d F1 H1 e1 r1 p v rv => ?_)
  refine h2 r1 ((Res.bnd p).imp fun e F2 H2 e2 r2 p w rw => ?_)
  have rv := rv.mono e2.le
  cases rv with
  | @lst a vs ds h3 r3 =>
    cases rw with
    | @lst b ws es h4 r4 =>
      refine ⟨a, b, vs, ws, rfl, .inl ⟨.inl (.inl (r2.core.fh _ _ h3)), .inl (.inl (r2.core.fh _ _ h4)), p F2 H2 (Gr.refl F2 H2) r2 _ ?_⟩⟩
      exact yl_pair (fs := fun i => ds[i]?) (gs := fun i => es[i]?) (walk_zip (xs := vs) (ys := ws) rfl) (by rw [zipD_len, r3.length, r4.length]) (fun F3 H3 le fh => ⟨sqL_up le fh (.inl (.inl h3)), sqL_up le fh (.inl (.inl h4))⟩) (fun i d hd => zipD_get hd) (fun i a e => r3.get e) fun i b e => r4.get e
    | _ => exact p.elim
  | @tup a vs ds h3 r3 =>
    cases rw with
    | @tup b ws es h4 r4 =>
      refine ⟨a, b, vs, ws, rfl, .inr ⟨.inl (.inl (r2.core.fh _ _ h3)), .inl (.inl (r2.core.fh _ _ h4)), p F2 H2 (Gr.refl F2 H2) r2 _ ?_⟩⟩
      exact yl_pair (fs := fun i => ds[i]?) (gs := fun i => es[i]?) (walk_zipT (xs := vs) (ys := ws) rfl) (by rw [zipD_len, r3.length, r4.length]) (fun F3 H3 le fh => ⟨sqT_up le fh (.inl (.inl h3)), sqT_up le fh (.inl (.inl h4))⟩) (fun i d hd => zipD_get hd) (fun i a e => r3.get e) fun i b e => r4.get e
    | _ => exact p.elim
  | _ => cases rw <;> exact p.elim
end
end G
/-! E1: enumerate over a tuple; a for over a list or a tuple. -/
namespace PySem
open Sem (wp)
open AutoSeq1 (wpAny_loadPart')
/-- enumerate(t), t a tuple -/
theorem enumT_meets (l : Addr) (items : Array Value) :
    Meets (Builtin.«enumerate.__new__» ⟨[.type "enumerate", .ref l], []⟩) (fun _ R s => s.heap.IsTuple l items ∧
      R (.ok (.ret (.ref (s.heap.push { cls := .type "tuple_iterator", data := .fields #[.ref l, .int 0 0] }).objs.size)))
        { s with heap := (s.heap.push { cls := .type "tuple_iterator", data := .fields #[.ref l, .int 0 0] }).push { cls := .type "enumerate", data := .fields #[.none, .bool false, .ref s.heap.objs.size, rawInt 0, .none, .none] } }) :=
  .of_wp fun prog w A R s h => by
    obtain ⟨hp, g, d, tk, os⟩ := s
    obtain ⟨hL, h⟩ := h
    have hsub := sub_enumerate
    wp_walk
    refine wpAny_stack_any fun st => wpAny_pure ?_
    split
    · rename_i c _ _ _ _ _
      cases (c == Value.type "enumerate")
      · wp_walk using wpAny_pyIter_tuple hL
        exact ⟨_, rfl, h⟩
      · wp_walk using wpAny_pyIter_tuple hL
        exact ⟨_, rfl, h⟩
    · wp_walk using wpAny_pyIter_tuple hL
      exact ⟨_, rfl, h⟩
section
variable {prog : Program} {w : World} {A : Around} {E : Value → Shared → Prop} {s : Shared}
theorem enumT_call {l : Addr} {items : Array Value} {Q : Value → Shared → Prop} (hL : s.heap.IsTuple l items)
    (h : ∀ h2, IsEnum h2 (s.heap.objs.size + 1) s.heap.objs.size 0 .none → h2.IsTupleIter s.heap.objs.size l 0 → (∀ b o, s.heap.get? b = some o → h2.get? b = some o) → Q (.ref (s.heap.objs.size + 1)) { s with heap := h2 }) :
    wpAny (model prog w) A (call (.type "enumerate") [.ref l]) Q E s := by
  refine callType_new F.called_enumerate (by decide) (F.typeCall_enumerate_1 _) (F.newCall_enumerate_1 _) (fun obj => F.args_object_init_2 obj _) F.entry_enumerate_new (enumT_meets l items) ⟨hL, ?_⟩
  have sz : (s.heap.push { cls := .type "tuple_iterator", data := .fields #[.ref l, .int 0 0] }).objs.size = s.heap.objs.size + 1 := Heap.size_push ..
  show _ ∧ _
  rw [sz]
  have en : IsEnum ((s.heap.push { cls := .type "tuple_iterator", data := .fields #[.ref l, .int 0 0] }).push { cls := .type "enumerate", data := .fields #[.none, .bool false, .ref s.heap.objs.size, rawInt 0, .none, .none] }) (s.heap.objs.size + 1) s.heap.objs.size 0 .none := by
    have z := Heap.get?_push_size (s.heap.push { cls := .type "tuple_iterator", data := .fields #[.ref l, .int 0 0] }) (o := { cls := .type "enumerate", data := .fields #[.none, .bool false, .ref s.heap.objs.size, rawInt 0, .none, .none] }) rfl
    rw [sz] at z
    exact z
  exact ⟨⟨_, en, rfl⟩, h _ en ⟨_, Heap.get?_push_of_some _ (Heap.get?_push_size _ rfl), rfl, rfl⟩ fun b o x => Heap.get?_push_of_some _ (Heap.get?_push_of_some _ x)⟩
/-- a tuple's iterator, drawn from -/
theorem tupDraws {it l : Addr} {items : Array Value} (hh : A.handled = none) (hne : it ≠ l) : Draws prog w A it [it, l] items.size (fun i v => items[i]? = some v) (fun i h => h.IsTupleIter it l i ∧ h.IsTuple l items) where
  live := fun i h st => let ⟨⟨o, ho, _⟩, _⟩ := st; ⟨o, ho⟩
  frame := fun i h h' st k => by
    obtain ⟨⟨o, ho, a⟩, ⟨u, hu, b⟩⟩ := st
    exact ⟨⟨o, k it (by simp) _ ho, a⟩, ⟨u, k l (by simp) _ hu, b⟩⟩
  item := fun i s Q E hi st hQ => by
    obtain ⟨a, b⟩ := st
    have hx : items[i]? = some items[i] := by simp [hi]
    refine RZ.nextOf_tuple_item a b hx fun h' a' sb => hQ _ h' s.toks hx ⟨a', ?_⟩ sb
    obtain ⟨u, hu, b⟩ := b
    exact ⟨u, (sb.2 l (Ne.symm hne)).trans hu, b⟩
  done := fun s Q E st hE => by
    obtain ⟨a, b⟩ := st
    exact RZ.nextOf_tuple_end hh a b (by simp) hE
end
end PySem
namespace G
open PySem L2
/-- the tuple at a as it stands at each turn, place and item in a new pair -/
def IteT (K : PySem.W.Frag) (a : Addr) : It :=
  ⟨fun i H => ∃ (xs : List V) (x : V), SqT K H a xs ∧ xs[i]? = some x,
   fun i H v H' => ∃ T x, v = .ref T ∧ H T = none ∧ H' = upd H T (.tup [.int (i : Nat), x]) ∧ ∀ xs, SqT K H a xs → xs[i]? = some x,
   fun i H => ∃ xs : List V, SqT K H a xs ∧ xs.length ≤ i⟩
theorem turn_enT {P : Program} {w : World} {K : PySem.W.Frag} {es : List Expr} {kk : Nat} {tp : Pos} (a e it : Addr) :
    Turn P w K (.Tuple es kk tp) (IteT K a) [e, it] e (fun i h => (∃ old, IsEnum h e it ((i : Nat) : Int) old) ∧ h.IsTupleIter it a i ∧ e ≠ it) where
  mem := by simp
  obj := fun i h st b hb => by
    obtain ⟨⟨old, he⟩, ⟨o, ho, hc, hd⟩, _⟩ := st
    rcases (show b = e ∨ b = it by simpa using hb) with z | z
    · rw [z]
      exact ⟨_, he, fun v q => nomatch q⟩
    · rw [z]
      exact ⟨o, ho, fun v q => by rw [hd] at q; cases q⟩
  keep := fun i h h' st k => by
    obtain ⟨⟨old, he⟩, ⟨o, ho, hc, hd⟩, hne⟩ := st
    exact ⟨⟨old, k e (by simp) _ he⟩, ⟨o, k it (by simp) _ ho, hc, hd⟩, hne⟩
  item := by
    intro X hP hw hK hc i pins s σ H E I hf st hg
    subst hP hw hK
    obtain ⟨⟨old, he⟩, hit, hne⟩ := st
    obtain ⟨xs, x, hq, hx⟩ := hg
    obtain ⟨its, rv, p, hz⟩ := I.tuple hq
    obtain ⟨u, hu, ru⟩ := rv.get hx
    have hel : e < s.heap.objs.size := Heap.lt_size he
    have hil : it < s.heap.objs.size := by
      obtain ⟨_, q, _⟩ := hit
      exact Heap.lt_size q
    have hal : it ≠ a := fun z => by
      obtain ⟨_, q, c, _⟩ := hit
      obtain ⟨_, q2, c2, _⟩ := (show s.heap.IsTuple a its.toArray from p)
      rw [z, q2] at q
      cases q
      rw [c] at c2
      exact absurd (Value.type.inj c2) (by decide)
    have hin : X.A.in1.handled = none := I.ok.hd hc
    have hlt : i < its.toArray.size := by
      have := (List.getElem?_eq_some_iff.mp hu).1
      simpa using this
    refine wpAny_pyNext_enum_itemD (P := fun i v => its.toArray[i]? = some v) (tupDraws hin hal) he ⟨hit, p⟩ hlt hne ?_ fun x' h' tk hp ho hs' hT hsz hk => ?_
    · intro hm
      rcases (show e = it ∨ e = a by simpa using hm) with z | z
      · exact hne z
      · subst z
        obtain ⟨_, q2, c2, _⟩ := (show s.heap.IsTuple e its.toArray from p)
        rw [he] at q2
        cases q2
        exact absurd (Value.type.inj c2) (by decide)
    have ex : x' = u := by
      have h1 : its.toArray[i]? = some u := by simpa using hu
      rw [h1] at hp
      exact (Option.some.inj hp).symm
    subst ex
    refine ⟨_, rfl, wpAny_letOwnedTupleGo_enum (s := { s with heap := h', toks := tk + 1 }) ho fun h2 he' sb => ?_⟩
    have hT2 : h2.get? s.heap.objs.size = some { cls := .type "tuple", data := .seq #[.int i tk, x'] } := (sb.2 _ (Nat.ne_of_gt hel)).trans hT
    have new : ObjOk X.prog X.w (upd H s.heap.objs.size (.tup [.int (i : Nat), x])) h2 s.heap.objs.size (.tup [.int (i : Nat), x]) :=
      ⟨by show 2 ≤ sizeLine; rw [sizeLine_eq]; omega, [.int i tk, x'], .cons ⟨tk, rfl⟩ (.cons ru .nil), ⟨_, hT2, rfl, _, rfl⟩⟩
    have I1 : Inv X pins σ (upd H s.heap.objs.size (.tup [.int (i : Nat), x])) { s with heap := h2, toks := tk + 1 } :=
      I.turnedNew (ch := [e, it]) (fun b ob hb q => (sb.2 b (fun z => hb (by simp [z]))).trans (hk b ob (fun z => hb (by simp [z])) (fun z => hb (by simp [z])) q)) hf (Nat.le_refl _) new
    have hit2 : h2.IsTupleIter it a (i + 1) := by
      obtain ⟨⟨o, ho2, hc2⟩, _⟩ := hs'
      exact ⟨o, (sb.2 it (Ne.symm hne)).trans ho2, hc2⟩
    refine ⟨.ref s.heap.objs.size, _, I1, rfl, ⟨_, x, rfl, I.hok.fresh (Nat.le_refl _), rfl, fun ys hy => by rw [I.tuple_inj hy hq]; exact hx⟩, ⟨⟨x', ?_⟩, hit2, hne⟩, fun b hb => ?_⟩
    · rw [show ((i + 1 : Nat) : Int) = (i : Int) + 1 by omega]
      exact he'
    · have hb' : b < s.heap.objs.size := by
        rcases (show b = e ∨ b = it by simpa using hb) with z | z
        · rw [z]; exact hel
        · rw [z]; exact hil
      rw [upd_ne (Nat.ne_of_lt hb')]
      exact (hf b hb).1
  done := by
    intro X hP hw hK hc i pins s σ H E I hf st hg
    subst hP hw hK
    obtain ⟨⟨old, he⟩, hit, hne⟩ := st
    obtain ⟨xs, hq, hx⟩ := hg
    obtain ⟨its, rv, p, hz⟩ := I.tuple hq
    obtain ⟨f0, f1, f2, f3, f4, f5⟩ := hf it (by simp)
    have hl := rv.length
    have hal : it ≠ a := fun z => by
      obtain ⟨_, q, c, _⟩ := hit
      obtain ⟨_, q2, c2, _⟩ := (show s.heap.IsTuple a its.toArray from p)
      rw [z, q2] at q
      cases q
      rw [c] at c2
      exact absurd (Value.type.inj c2) (by decide)
    have hin : X.A.in1.handled = none := I.ok.hd hc
    have none_at : its.toArray[i]? = none := by simp; omega
    have hT : s.TypeIs (.ref e) "enumerate" := ⟨_, he, rfl⟩
    unfold pyNext
    refine wpAny_bind (wpAny_attempt (wpAny_callSpecial?_slot (name := Str.ofString "__next__") hT F.slot_enumerate_next (wpAny_call_entry F.slot_enumerate_next hT F.entry_enumerate_next ?_ (F.args_enumerate_next_1 _))))
    show wpAny _ _ (field (.ref e) 2 >>= _) _ _ _
    refine wpAny_bind (wpAny_field he rfl (x := .ref it) rfl ?_)
    refine wpAny_bind (RZ.nextOf_tuple_end hin hit p none_at fun h' x eb hx' => ?_)
    obtain ⟨o, ho, hc⟩ := hx'
    refine wpAny_bind (wpAny_isInstance (T := "StopIteration") (b := true) ⟨o, ho, hc⟩ isSubtype_stop ?_)
    exact wpAny_pure ⟨rfl, I.turned (t' := s.toks) (fun b o hb q => eb b o hb q) f0 f1 f3 f4 f5⟩
  self := fun A i s Q E st h => let ⟨⟨_, he⟩, _⟩ := st; wpAny_pyIter_enum he h
/-- enumerate of a list or a tuple -/
def iEnumA (K : PySem.W.Frag) (ta : TA) : TI := fun σ H R => ta σ H fun vs H1 => ∃ a xs, vs = [.ref a] ∧ ((SqL K H1 a xs ∧ R (Ite K a) H1) ∨ (SqT K H1 a xs ∧ R (IteT K a) H1))
theorem pi_enumA {X : Cx} {e : Expr} {ta : TA} {p pos tp : Pos} {es : List Expr} {kk : Nat} (hg : Gl X "enumerate") (hm : X.mg "enumerate" = none) (ha : PA X [e] ta) (hs : starEach [e] X.env = [(false, eval e X.env)] := by rfl) :
    PI X (.Tuple es kk tp) (.Call (.Name "enumerate" p) [e] [] pos) (iEnumA X.K ta) := by
  refine ⟨fun pins s σ H R I h => ?_⟩
  refine PyProof.Rows.Call_ (ld_blt I hg hm PyProof.Rows.boot_enumerate (PyProof.Rows.callWith_type1 (thn (ha.run pos pins s σ H _ I h) fun us s1 ⟨vs, H1, I1, r1, q1⟩ => ?_) hs rfl))
  obtain ⟨a, xs, ex, q⟩ := q1
  subst ex
  cases r1 with
  | cons r rr =>
    cases rr
    cases r
    have two : ∀ {b}, b ∈ [s1.heap.objs.size + 1, s1.heap.objs.size] → s1.heap.objs.size ≤ b := fun {b} hb => by
      rcases (show b = s1.heap.objs.size + 1 ∨ b = s1.heap.objs.size by simpa using hb) with z | z
      · rw [z]; exact Nat.le_succ _
      · rw [z]; exact Nat.le_refl _
    rcases q with ⟨hq, q⟩ | ⟨hq, q⟩
    · obtain ⟨its, rv, pl, hz⟩ := I1.list hq
      refine call_enumerate_list pl.isList fun h2 en hit hsz hk => wpAny_pyIter_enum en ?_
      have I2 : Inv X pins σ H1 { s1 with heap := h2 } := I1.kept (t' := s1.toks) hk
      exact ⟨s1.heap.objs.size + 1, [s1.heap.objs.size + 1, s1.heap.objs.size], _, _, H1, rfl, I2, turn_enum a (s1.heap.objs.size + 1) s1.heap.objs.size, ⟨⟨.none, en⟩, hit, Nat.succ_ne_self _⟩, fun b hb => I1.fpOk (two hb) (I1.hok.fresh (two hb)), q⟩
    · obtain ⟨its, rv, pl, hz⟩ := I1.tuple hq
      refine enumT_call pl fun h2 en hit hk => wpAny_pyIter_enum en ?_
      have I2 : Inv X pins σ H1 { s1 with heap := h2 } := I1.kept (t' := s1.toks) hk
      exact ⟨s1.heap.objs.size + 1, [s1.heap.objs.size + 1, s1.heap.objs.size], _, _, H1, rfl, I2, turn_enT a (s1.heap.objs.size + 1) s1.heap.objs.size, ⟨⟨.none, en⟩, hit, Nat.succ_ne_self _⟩, fun b hb => I1.fpOk (two hb) (I1.hok.fresh (two hb)), q⟩
/-- a for over a list or a tuple -/
def iSeq (K : PySem.W.Frag) (tl : TE) : TI := fun σ H R => tl σ H fun x H1 => ∃ a xs, x = .ref a ∧ ((SqL K H1 a xs ∧ R (Itl K a) H1) ∨ (SqT K H1 a xs ∧ R (Itt K a) H1))
theorem pi_seq {X : Cx} {tg l : Expr} {tl : TE} (hl : PE X l tl) : PI X tg l (iSeq X.K tl) := by
  refine ⟨fun pins s σ H R I h => ?_⟩
  refine thn (hl.run pins s σ H _ I h) fun v s1 ⟨x, H1, I1, r1, a, xs, ex, q⟩ => ?_
  subst ex
  cases r1
  have one : ∀ {b}, b ∈ [s1.heap.objs.size] → FpOk X pins H1 b := fun {b} hb => by
    have z : b = s1.heap.objs.size := by simpa using hb
    rw [z]
    exact I1.fpOk (Nat.le_refl _) I1.fresh
  rcases q with ⟨hq, q⟩ | ⟨hq, q⟩
  · obtain ⟨its, rv, pl, hz⟩ := I1.list hq
    exact wpAny_pyIter_list pl.isList ⟨s1.heap.objs.size, [s1.heap.objs.size], _, _, H1, rfl, I1.kept (t' := s1.toks) fun b o z => Heap.get?_push_of_some _ z, turn_list a _, ⟨_, Heap.get?_push_size _ rfl, rfl, rfl⟩, fun b hb => one hb, q⟩
  · obtain ⟨its, rv, pl, hz⟩ := I1.tuple hq
    exact wpAny_pyIter_tuple (show s1.heap.IsTuple a its.toArray from pl) ⟨s1.heap.objs.size, [s1.heap.objs.size], _, _, H1, rfl, I1.kept (t' := s1.toks) fun b o z => Heap.get?_push_of_some _ z, turn_tuple a _, ⟨_, Heap.get?_push_size _ rfl, rfl, rfl⟩, fun b hb => one hb, q⟩
section
variable {G : Gc} {W : WX} {o o1 : List Nat}
theorem PuI.seq {t : TE} {m : Env → R D} (h : PuE G W o t o1 m) : PuI G W o (iSeq G.K t) o1 (mSq D.seq m) := by
  intro B F0 F H σ ρ K rel q
  refine h rel ((Res.bnd q).imp fun d F1 H1 e1 r1 p v rv => ?_)
  cases rv with
  | @lst a vs ds h1 r2 => exact ⟨a, vs, rfl, .inl ⟨.inl (.inl (r1.core.fh _ _ h1)), p F1 H1 (Gr.refl F1 H1) r1 _ (yl_list (.inl (.inl h1)) r2)⟩⟩
  | @scr a vs ds h1 r2 => exact ⟨a, vs, rfl, .inl ⟨r1.sqL h1, p F1 H1 (Gr.refl F1 H1) r1 _ (yl_list h1 r2)⟩⟩
  | @tup a vs ds h1 r2 => exact ⟨a, vs, rfl, .inr ⟨.inl (.inl (r1.core.fh _ _ h1)), p F1 H1 (Gr.refl F1 H1) r1 _ (yl_tup (.inl (.inl h1)) r2)⟩⟩
  | @ktup a vs ds h1 r2 => exact ⟨a, vs, rfl, .inr ⟨r1.sqT h1, p F1 H1 (Gr.refl F1 H1) r1 _ (yl_tup h1 r2)⟩⟩
  | _ => exact p.elim
theorem walk_enT {K : PySem.W.Frag} {a : Addr} {xs : List V} : Walk (IteT K a) xs.length (fun H => SqT K H a xs) (YPair (fun i => some (.int (i : Nat))) (fun i => xs[i]?)) := by
  refine ⟨fun i _ hi q => ⟨xs, xs[i], q, by simp [hi]⟩, fun _ q => ⟨xs, q, Nat.le_refl _⟩, fun i H v H' _ q y => ?_⟩
  obtain ⟨T, x, h1, h2, h3, h4⟩ := y
  exact ⟨T, .int (i : Nat), x, h1, h2, h3, rfl, h4 xs q⟩
theorem PuI.enum {t : TE} {m : Env → R D} (h : PuE G W o t o1 m) : PuI G W o (iEnumA G.K (tCons t tNil)) o1 (mSq (dEnum D.seq) m) := by
  intro B F0 F H σ ρ K rel q
  refine h rel ((Res.bnd q).imp fun d F1 H1 e1 r1 p v rv => ?_)
  have goL : ∀ {a : Addr} {vs : List V} {ds : List D}, SqL G.K F1 a vs → RpL G F1 ds vs → Yields G F1 (Ite G.K a) (enumD ds) := fun {a vs ds} h1 r =>
    yl_pair (fs := fun i => some (.int (i : Nat))) (gs := fun i => ds[i]?) (walk_enum (xs := vs)) (by rw [enumD_len, r.length]) (fun F2 H2 le fh => sqL_up le fh h1) (fun i d hd => enumD_get hd) (fun i a e => by cases e; exact ⟨_, rfl, .int _⟩) fun i b e => r.get e
  have goT : ∀ {a : Addr} {vs : List V} {ds : List D}, SqT G.K F1 a vs → RpL G F1 ds vs → Yields G F1 (IteT G.K a) (enumD ds) := fun {a vs ds} h1 r =>
    yl_pair (fs := fun i => some (.int (i : Nat))) (gs := fun i => ds[i]?) (walk_enT (xs := vs)) (by rw [enumD_len, r.length]) (fun F2 H2 le fh => sqT_up le fh h1) (fun i d hd => enumD_get hd) (fun i a e => by cases e; exact ⟨_, rfl, .int _⟩) fun i b e => r.get e
  cases rv with
  | @lst a vs ds h1 r2 => exact ⟨a, vs, rfl, .inl ⟨.inl (.inl (r1.core.fh _ _ h1)), p F1 H1 (Gr.refl F1 H1) r1 _ (goL (.inl (.inl h1)) r2)⟩⟩
  | @scr a vs ds h1 r2 => exact ⟨a, vs, rfl, .inl ⟨r1.sqL h1, p F1 H1 (Gr.refl F1 H1) r1 _ (goL h1 r2)⟩⟩
  | @tup a vs ds h1 r2 => exact ⟨a, vs, rfl, .inr ⟨.inl (.inl (r1.core.fh _ _ h1)), p F1 H1 (Gr.refl F1 H1) r1 _ (goT (.inl (.inl h1)) r2)⟩⟩
  | @ktup a vs ds h1 r2 => exact ⟨a, vs, rfl, .inr ⟨r1.sqT h1, p F1 H1 (Gr.refl F1 H1) r1 _ (goT h1 r2)⟩⟩
  | _ => exact p.elim
end
end G
/-! S11: the derivations (what the printer prints). -/
namespace G
open PySem L2
class HG (Γ : Gc) (X : Cx) : Prop where
  e : Γ = ⟨X.K, X.mg⟩
instance {Γ : Gc} {X : Cx} [h : HG Γ X] {s : Shared} {H : Hp} {scope : Scope} {cenv : PySem.Env} {fp : List Addr} : HG Γ (X.blk s H scope cenv fp) := ⟨h.e⟩
structure ME (Γ : Gc) (X : Cx) (W : WX) (o : List Nat) (e : Expr) (o' : List Nat) (t : TE) (m : Env → R D) : Prop where
  pe : PE X e t
  pu : PuE Γ W o t o' m
structure MO (Γ : Gc) (X : Cx) (W : WX) (o : List Nat) (e : Expr) (o' : List Nat) (t : TE) (m : Env → R D) : Prop where
  pe : PE X e t
  pu : PuO Γ W o t o' m
structure MT (Γ : Gc) (X : Cx) (W : WX) (o : List Nat) (e : Expr) (o' : List Nat) (t : TT) (m : Env → R Bool) : Prop where
  pe : PT X e t
  pu : PuT Γ W o t o' m
structure MW (Γ : Gc) (X : Cx) (W : WX) (o : List Nat) (e : Expr) (o' : List Nat) (t : TT) (m : Env → R Bool) : Prop where
  pe : PW X e t
  pu : PuT Γ W o t o' m
structure MA (Γ : Gc) (X : Cx) (W : WX) (o : List Nat) (es : List Expr) (o' : List Nat) (t : TA) (m : Env → R (List D)) : Prop where
  pe : PA X es t
  pu : PuA Γ W o t o' m
structure MI (Γ : Gc) (X : Cx) (W : WX) (o : List Nat) (tg e : Expr) (o' : List Nat) (t : TI) (m : Env → R (List D)) : Prop where
  pe : PI X tg e t
  pu : PuI Γ W o t o' m
structure MG (Γ : Gc) (X : Cx) (o : List Nat) (tg : Expr) (o' : List Nat) (g : TG) (m : D → Env → R Env) : Prop where
  pe : PG X tg g
  pu : PuG Γ o g o' m
structure MGs (Γ : Gc) (X : Cx) (o : List Nat) (tg : List Expr) (o' : List Nat) (g : TGs) (m : List D → Env → R Env) : Prop where
  pe : PGs X tg g
  pu : PuGs Γ o g o' m
structure MS (Γ : Gc) (X : Cx) (W : WX) (oL o : List Nat) (st : Stmt) (o' : List Nat) (t : TS) (m : Env → Out) : Prop where
  pe : PS X st t
  pu : PuS Γ W oL o t o' m
structure MSs (Γ : Gc) (X : Cx) (W : WX) (oL o : List Nat) (st : List Stmt) (o' : List Nat) (t : TS) (m : Env → Out) : Prop where
  pe : PSs X st t
  pu : PuS Γ W oL o t o' m
structure MP (Γ : Gc) (X : Cx) (W : WX) (o : List Nat) (e : Option Expr) (o' : List Nat) (t : TO) (m : Env → R (Option Int)) : Prop where
  pe : PO X e t
  pu : PuP Γ W o t o' m
section
variable {Γ : Gc} {X : Cx} [hG : HG Γ X] {W : WX} {o o1 o2 o3 oL oI : List Nat} {a b c e : Expr} {es : List Expr} {pos p : Pos} {ta tb tc : TE} {ma mb mc : Env → R D} {tt tu : TT} {mt mu : Env → R Bool} {ts : TA} {ms : Env → R (List D)} {x : Str}
/-! ### names, constants -/
theorem me_var (i : Nat) (hi : i ∉ o := by decide) (hN : X.N[i]? = some x := by rfl) (hv : Vis X.env.scope x := by first | exact Or.inl rfl | exact Or.inr (Or.inl rfl) | exact Or.inr (Or.inr rfl)) (hd : (x == ("__debug__" : Str)) = false := by decide) (hcd : (x == ("__classdict__" : Str)) = false := by decide) :
    ME Γ X W o (.Name x pos) o (tVar i) (mVar i) := by
  obtain ⟨eG⟩ := hG
  subst eG
  exact ⟨pe_var hN hv hd hcd, PuE.var hi⟩
theorem me_give (i : Nat) (hi : i ∈ o := by decide) (hN : X.N[i]? = some x := by rfl) (hv : Vis X.env.scope x := by first | exact Or.inl rfl | exact Or.inr (Or.inl rfl) | exact Or.inr (Or.inr rfl)) (hd : (x == ("__debug__" : Str)) = false := by decide) (hcd : (x == ("__classdict__" : Str)) = false := by decide) :
    ME Γ X W o (.Name x pos) (o.filter (· != i)) (tVar i) (mVar i) := by
  obtain ⟨eG⟩ := hG
  subst eG
  exact ⟨pe_var hN hv hd hcd, PuE.give hi⟩
theorem me_int {i : Int} {j} : ME Γ X W o (.Constant (.int i) j pos) o (tC (.int i)) (mC (.int i)) := by
  obtain ⟨eG⟩ := hG
  subst eG
  exact ⟨pe_int, PuE.c fun _ => .int i⟩
theorem me_bl {b : Bool} {j} : ME Γ X W o (.Constant (.bool b) j pos) o (tC (.bl b)) (mC (.bl b)) := by
  obtain ⟨eG⟩ := hG
  subst eG
  exact ⟨pe_bl, PuE.c fun _ => .bl b⟩
theorem me_non {j} : ME Γ X W o (.Constant .none j pos) o (tC .non) (mC .non) := by
  obtain ⟨eG⟩ := hG
  subst eG
  exact ⟨pe_non, PuE.c fun _ => .non⟩
theorem me_str {s : Str} {j} : ME Γ X W o (.Constant (.str s) j pos) o (tC (.str s)) (mC (.str s)) := by
  obtain ⟨eG⟩ := hG
  subst eG
  exact ⟨pe_str, PuE.c fun _ => .str s⟩
/-- a module's constant -/
theorem me_glob {v : V} {u : Value} {d : D} (hm : X.mg x = some u) (r : RelV v u) (hd : ∀ F, Rp Γ F d v) (hg : Gl X x := by rfl) (hdb : (x == ("__debug__" : Str)) = false := by decide) : ME Γ X W o (.Name x pos) o (tC v) (mC d) := by
  obtain ⟨eG⟩ := hG
  subst eG
  exact ⟨pe_glob hg hm r hdb, PuE.c hd⟩
theorem me_gint {i : Int} {t : Tok} (hm : X.mg x = some (.int i t)) (hg : Gl X x := by rfl) (hdb : (x == ("__debug__" : Str)) = false := by decide) : ME Γ X W o (.Name x pos) o (tC (.int i)) (mC (.int i)) := me_glob hm ⟨t, rfl⟩ (fun _ => .int i) hg hdb
/-- a built-in type as a value -/
theorem me_ty {n : String} (hm : X.mg x = none) (hv : bootBuiltins x = some (.type n)) (hg : Gl X x := by rfl) (hn : x ≠ "__name__" := by decide) (hdb : (x == ("__debug__" : Str)) = false := by decide) : ME Γ X W o (.Name x pos) o (tC (.ty n)) (mC (.ty n)) := by
  obtain ⟨eG⟩ := hG
  subst eG
  exact ⟨pe_bltn hg hm hv rfl hn hdb, PuE.c fun _ => .ty n⟩
/-! ### operators -/
theorem me_add (ha : ME Γ X W o a o1 ta ma) (hb : ME Γ X W o1 b o2 tb mb) : ME Γ X W o (.BinOp a .Add b pos) o2 (tOp (rAddAll Γ.K) ta tb) (m2 D.add ma mb) := by
  obtain ⟨eG⟩ := hG
  subst eG
  exact ⟨pe_op op_addAll ha.pe hb.pe, PuE.op2 pu_add ha.pu hb.pu⟩
theorem me_sub (ha : ME Γ X W o a o1 ta ma) (hb : ME Γ X W o1 b o2 tb mb) : ME Γ X W o (.BinOp a .Sub b pos) o2 (tOp (rI0 fun i j => .int (i - j)) ta tb) (m2 D.sub ma mb) := by
  obtain ⟨eG⟩ := hG
  subst eG
  exact ⟨pe_op op_sub ha.pe hb.pe, PuE.op2 pu_sub ha.pu hb.pu⟩
theorem me_mul (ha : ME Γ X W o a o1 ta ma) (hb : ME Γ X W o1 b o2 tb mb) : ME Γ X W o (.BinOp a .Mult b pos) o2 (tOp (rMulAll Γ.K) ta tb) (m2 D.mul ma mb) := by
  obtain ⟨eG⟩ := hG
  subst eG
  exact ⟨pe_op op_mulAll ha.pe hb.pe, PuE.op2 pu_mul ha.pu hb.pu⟩
theorem me_fdiv (ha : ME Γ X W o a o1 ta ma) (hb : ME Γ X W o1 b o2 tb mb) : ME Γ X W o (.BinOp a .FloorDiv b pos) o2 (tOp (rI CDivN fun i j => .int (i.fdiv j)) ta tb) (m2 D.fdiv ma mb) := by
  obtain ⟨eG⟩ := hG
  subst eG
  exact ⟨pe_op op_fdivN ha.pe hb.pe, PuE.op2 pu_fdiv ha.pu hb.pu⟩
theorem me_mod (ha : ME Γ X W o a o1 ta ma) (hb : ME Γ X W o1 b o2 tb mb) : ME Γ X W o (.BinOp a .Mod b pos) o2 (tOp (rI (fun _ j => j ≠ 0) fun i j => .int (i.fmod j)) ta tb) (m2 D.mod ma mb) := by
  obtain ⟨eG⟩ := hG
  subst eG
  exact ⟨pe_op op_modN ha.pe hb.pe, PuE.op2 pu_mod ha.pu hb.pu⟩
theorem me_pow (ha : ME Γ X W o a o1 ta ma) (hb : ME Γ X W o1 b o2 tb mb) : ME Γ X W o (.BinOp a .Pow b pos) o2 (tOp (rI CPow fun i j => .int (i ^ j.toNat)) ta tb) (m2 D.pow ma mb) := by
  obtain ⟨eG⟩ := hG
  subst eG
  exact ⟨pe_op op_pow ha.pe hb.pe, PuE.op2 pu_pow ha.pu hb.pu⟩
theorem me_neg (ha : ME Γ X W o a o1 ta ma) : ME Γ X W o (.UnaryOp .USub a pos) o1 (tUn (rU fun i => .int (-i)) ta) (m1 D.neg ma) := by
  obtain ⟨eG⟩ := hG
  subst eG
  exact ⟨pe_un un_neg ha.pe, PuE.op1 pu_neg ha.pu⟩
/-- a comparison: its rule, its plain function, a side's mark -/
structure CmpR (Γ : Gc) (X : Cx) (W : WX) (op : CmpOp) (r : R2) (f : D → D → R D) : Prop where
  op : OpR X (compareOp op) r
  pu : PuR2 Γ W r f
theorem c_lt : CmpR Γ X W .Lt (rI0 fun i j => .bl (decide (i < j))) D.lt := by
  obtain ⟨eG⟩ := hG
  subst eG
  exact ⟨op_lt, pu_lt⟩
theorem c_le : CmpR Γ X W .LtE (rI0 fun i j => .bl (decide (i ≤ j))) D.le := by
  obtain ⟨eG⟩ := hG
  subst eG
  exact ⟨op_le, pu_le⟩
theorem c_gt : CmpR Γ X W .Gt (rI0 fun i j => .bl (decide (j < i))) D.gt := by
  obtain ⟨eG⟩ := hG
  subst eG
  exact ⟨op_gt, pu_gt⟩
theorem c_ge : CmpR Γ X W .GtE (rI0 fun i j => .bl (decide (j ≤ i))) D.ge := by
  obtain ⟨eG⟩ := hG
  subst eG
  exact ⟨op_ge, pu_ge⟩
theorem c_eq (hu : X.A.units + 65 < cLine) : CmpR Γ X W .Eq (rEqD Γ.K) D.eq := by
  obtain ⟨eG⟩ := hG
  subst eG
  exact ⟨op_eqD (by omega), pu_eq⟩
theorem c_ne (hu : X.A.units + 65 < cLine) : CmpR Γ X W .NotEq (rNeD Γ.K) D.ne := by
  obtain ⟨eG⟩ := hG
  subst eG
  exact ⟨op_neD (by omega), pu_ne⟩
theorem c_in (hu : X.A.units + 65 < cLine) : CmpR Γ X W .In (rInAll Γ.K) D.isIn := by
  obtain ⟨eG⟩ := hG
  subst eG
  exact ⟨op_inAll hu, pu_in⟩
theorem c_notIn (hu : X.A.units + 65 < cLine) : CmpR Γ X W .NotIn (rNotInAll Γ.K) D.notIn := by
  obtain ⟨eG⟩ := hG
  subst eG
  exact ⟨op_notInAll hu, pu_notIn⟩
theorem c_is : CmpR Γ X W .Is rIsAll D.is := by
  obtain ⟨eG⟩ := hG
  subst eG
  exact ⟨op_isAll, pu_is⟩
theorem c_isnt : CmpR Γ X W .IsNot rIsntAll D.isnt := by
  obtain ⟨eG⟩ := hG
  subst eG
  exact ⟨op_isntAll, pu_isnt⟩
variable {op op' : CmpOp} {r r' : R2} {f g : D → D → R D}
theorem me_cmp (hc : CmpR Γ X W op r f) (ha : ME Γ X W o a o1 ta ma) (hb : ME Γ X W o1 b o2 tb mb) (hm : behindInMarks op b = false := by first | exact nomark _ | rfl) : ME Γ X W o (.Compare a [op] [b] pos) o2 (tOp r ta tb) (m2 f ma mb) := by
  obtain ⟨eG⟩ := hG
  subst eG
  exact ⟨pe_cmpR hc.op ha.pe hb.pe hm, PuE.op2 hc.pu ha.pu hb.pu⟩
theorem me_chain (hc : CmpR Γ X W op r f) (hc' : CmpR Γ X W op' r' g) (ha : ME Γ X W o a o1 ta ma) (hb : ME Γ X W o1 b o2 tb mb) (hcc : ME Γ X W o2 c o2 tc mc) (hm : lastMarks [op, op'] [b, c] = false := by with_unfolding_all rfl) :
    ME Γ X W o (.Compare a [op, op'] [b, c] pos) o2 (tChain r r' ta tb tc) (mChain f g ma mb mc) := by
  obtain ⟨eG⟩ := hG
  subst eG
  exact ⟨pe_chain hc.op hc'.op ha.pe hb.pe hcc.pe hm, PuE.chain hc.pu hc'.pu ha.pu hb.pu hcc.pu⟩
theorem mt_cmp (hc : CmpR Γ X W op r f) (ha : ME Γ X W o a o1 ta ma) (hb : ME Γ X W o1 b o2 tb mb) (hm : behindInMarks op b = false := by first | exact nomark _ | rfl) : MT Γ X W o (.Compare a [op] [b] pos) o2 (tTest (tOp r ta tb)) (mB (m2 f ma mb)) := by
  obtain ⟨eG⟩ := hG
  subst eG
  exact ⟨pt_cmpR hc.op ha.pe hb.pe hm, PuT.val (PuE.op2 hc.pu ha.pu hb.pu)⟩
theorem mt_chain (hc : CmpR Γ X W op r f) (hc' : CmpR Γ X W op' r' g) (ha : ME Γ X W o a o1 ta ma) (hb : ME Γ X W o1 b o2 tb mb) (hcc : ME Γ X W o2 c o2 tc mc) (hm : lastMarks [op, op'] [b, c] = false := by with_unfolding_all rfl) :
    MT Γ X W o (.Compare a [op, op'] [b, c] pos) o2 (tTest (tChain r r' ta tb tc)) (mB (mChain f g ma mb mc)) := by
  obtain ⟨eG⟩ := hG
  subst eG
  exact ⟨pt_chain hc.op hc'.op ha.pe hb.pe hcc.pe hm, PuT.val (PuE.chain hc.pu hc'.pu ha.pu hb.pu hcc.pu)⟩
/-! ### and, or, not, if .. else -/
theorem mw_and1 (h : MT Γ X W o a o1 tt mt) : MW Γ X W o (.BoolOp .And [a] pos) o1 tt mt := by
  obtain ⟨eG⟩ := hG
  subst eG
  exact ⟨pw_and1 h.pe, h.pu⟩
theorem mw_or1 (h : MT Γ X W o a o1 tt mt) : MW Γ X W o (.BoolOp .Or [a] pos) o1 tt mt := by
  obtain ⟨eG⟩ := hG
  subst eG
  exact ⟨pw_or1 h.pe, h.pu⟩
theorem mw_and {rest : List Expr} (h : MT Γ X W o a o1 tt mt) (h2 : MW Γ X W o1 (.BoolOp .And (b :: rest) pos) o1 tu mu) : MW Γ X W o (.BoolOp .And (a :: b :: rest) pos) o1 (tAnd tt tu) (mAnd mt mu) := by
  obtain ⟨eG⟩ := hG
  subst eG
  exact ⟨pw_and h.pe h2.pe, PuT.and h.pu h2.pu⟩
theorem mw_or {rest : List Expr} (h : MT Γ X W o a o1 tt mt) (h2 : MW Γ X W o1 (.BoolOp .Or (b :: rest) pos) o1 tu mu) : MW Γ X W o (.BoolOp .Or (a :: b :: rest) pos) o1 (tOr tt tu) (mOr mt mu) := by
  obtain ⟨eG⟩ := hG
  subst eG
  exact ⟨pw_or h.pe h2.pe, PuT.or h.pu h2.pu⟩
theorem mt_w (h : MW Γ X W o a o1 tt mt) : MT Γ X W o a o1 tt mt := by
  obtain ⟨eG⟩ := hG
  subst eG
  exact ⟨h.pe.pt, h.pu⟩
theorem mt_not (h : MT Γ X W o a o1 tt mt) : MT Γ X W o (.UnaryOp .Not a pos) o1 (tNot tt) (mNot mt) := by
  obtain ⟨eG⟩ := hG
  subst eG
  exact ⟨pt_not h.pe, PuT.not h.pu⟩
/-- a call, a name .. as a test: True or False -/
theorem mt_val (h : ME Γ X W o a o1 ta ma) (he : ∀ whole, isTrue a X.env whole = (do let v ← whole; standAt a.pos; holding [v] (truthy v)) := by intro _; rfl) : MT Γ X W o a o1 (tB ta) (mB ma) := by
  obtain ⟨eG⟩ := hG
  subst eG
  exact ⟨pt_val h.pe he, PuT.val h.pu⟩
/-- .. any value, by its truth -/
theorem mt_truth (h : ME Γ X W o a o1 ta ma) (he : ∀ whole, isTrue a X.env whole = (do let v ← whole; standAt a.pos; holding [v] (truthy v)) := by intro _; rfl) : MT Γ X W o a o1 (fun σ H Q => ta σ H fun x H' => ∃ k, TruV Γ.K x H' k ∧ Q k H') (mTru ma) := by
  obtain ⟨eG⟩ := hG
  subst eG
  exact ⟨pt_truth h.pe he, PuT.truth h.pu⟩
theorem me_one {bo : BoolOp} (h : ME Γ X W o a o1 ta ma) : ME Γ X W o (.BoolOp bo [a] pos) o1 ta ma := by
  obtain ⟨eG⟩ := hG
  subst eG
  exact ⟨pe_one h.pe, h.pu⟩
theorem me_and {rest : List Expr} (h : ME Γ X W o a o1 ta ma) (h2 : ME Γ X W o1 (.BoolOp .And (b :: rest) pos) o1 tb mb) : ME Γ X W o (.BoolOp .And (a :: b :: rest) pos) o1 (tAndV ta tb) (mAndV ma mb) := by
  obtain ⟨eG⟩ := hG
  subst eG
  exact ⟨pe_and h.pe h2.pe, PuE.andV h.pu h2.pu⟩
theorem me_or {rest : List Expr} (h : ME Γ X W o a o1 ta ma) (h2 : ME Γ X W o1 (.BoolOp .Or (b :: rest) pos) o1 tb mb) : ME Γ X W o (.BoolOp .Or (a :: b :: rest) pos) o1 (tOrV ta tb) (mOrV ma mb) := by
  obtain ⟨eG⟩ := hG
  subst eG
  exact ⟨pe_or h.pe h2.pe, PuE.orV h.pu h2.pu⟩
theorem me_not (h : ME Γ X W o a o1 ta ma) : ME Γ X W o (.UnaryOp .Not a pos) o1 (tNotV ta) (mNotV ma) := by
  obtain ⟨eG⟩ := hG
  subst eG
  exact ⟨pe_not h.pe, PuE.notV h.pu⟩
theorem me_if (h : MT Γ X W o c o1 tt mt) (ha : ME Γ X W o1 a o2 ta ma) (hb : ME Γ X W o1 b o2 tb mb) : ME Γ X W o (.IfExp c a b pos) o2 (tIf tt ta tb) (mIte mt ma mb) := by
  obtain ⟨eG⟩ := hG
  subst eG
  exact ⟨pe_ifExp h.pe ha.pe hb.pe, PuE.ite h.pu ha.pu hb.pu⟩
/-! ### subscripts, displays -/
theorem me_ix (ha : ME Γ X W o a o1 ta ma) (hb : ME Γ X W o1 b o2 tb mb) (hs : PlainIx b := by exact fun _ _ => rfl) : ME Γ X W o (.Subscript a b pos) o2 (tOp (rIxLT Γ.K) ta tb) (m2 D.ix ma mb) := by
  obtain ⟨eG⟩ := hG
  subst eG
  exact ⟨pe_ix ix_LT ha.pe hb.pe hs, PuE.op2 pu_ix ha.pu hb.pu⟩
theorem me_dget (hu : X.A.units + 65 < cLine) (ha : ME Γ X W o a o1 ta ma) (hb : ME Γ X W o1 b o2 tb mb) (hs : NoSl b := by exact fun _ _ => rfl) : ME Γ X W o (.Subscript a b pos) o2 (tDGet ta tb) (m2 D.dgetE ma mb) := by
  obtain ⟨eG⟩ := hG
  subst eG
  exact ⟨pe_dget (by omega) ha.pe hb.pe hs, PuE.dget ha.pu hb.pu⟩
theorem mp_no : MP Γ X W o none o tNoPart mNoP := by
  obtain ⟨eG⟩ := hG
  subst eG
  exact ⟨po_none, PuP.no⟩
theorem mp_some (h : ME Γ X W o a o1 ta ma) : MP Γ X W o (some a) o1 (tPart ta) (mPart ma) := by
  obtain ⟨eG⟩ := hG
  subst eG
  exact ⟨po_some h.pe, PuP.part h.pu⟩
theorem me_slice {lo hi : Option Expr} {p2 : Pos} {tl th : TO} {ml mh : Env → R (Option Int)} (ha : ME Γ X W o a o1 ta ma) (hl : MP Γ X W o1 lo o2 tl ml) (hh : MP Γ X W o2 hi o3 th mh) : ME Γ X W o (.Subscript a (.Slice lo hi none p2) pos) o3 (tSl (rSlAll Γ.K) ta tl th) (mSl ma ml mh) := by
  obtain ⟨eG⟩ := hG
  subst eG
  exact ⟨pe_slice sl_all ha.pe hl.pe hh.pe, PuE.slice ha.pu hl.pu hh.pu⟩
theorem ma_nil : MA Γ X W o [] o tNil mNil := by
  obtain ⟨eG⟩ := hG
  subst eG
  exact ⟨pa_nil, PuA.nil⟩
theorem ma_cons (ha : ME Γ X W o a o1 ta ma) (hs : MA Γ X W o1 es o2 ts ms) (hst : starEach (a :: es) X.env = (false, eval a X.env) :: starEach es X.env := by rfl) : MA Γ X W o (a :: es) o2 (tCons ta ts) (mCons ma ms) := by
  obtain ⟨eG⟩ := hG
  subst eG
  exact ⟨pa_cons ha.pe hs.pe hst, PuA.cons ha.pu hs.pu⟩
theorem me_tup {k : Nat} (h : MA Γ X W o es o1 ts ms) : ME Γ X W o (.Tuple es k pos) o1 (tTup ts) (mTup ms) := by
  obtain ⟨eG⟩ := hG
  subst eG
  exact ⟨pe_tup h.pe, PuE.tupE h.pu⟩
theorem mo_lst (h : MA Γ X W o es o1 ts ms) : MO Γ X W o (.List es pos) o1 (tLst ts) (mLst ms) := by
  obtain ⟨eG⟩ := hG
  subst eG
  exact ⟨pe_lst h.pe, PuO.lstE h.pu⟩
theorem mo_dicK : MO Γ X W o (.Dict [] [] pos) o tDNewK (mDic false) := by
  obtain ⟨eG⟩ := hG
  subst eG
  exact ⟨pe_dnewK, PuO.dnewK⟩
theorem mo_dicT : MO Γ X W o (.Dict [] [] pos) o tDNewT (mDic true) := by
  obtain ⟨eG⟩ := hG
  subst eG
  exact ⟨pe_dnewT, PuO.dnewT⟩
theorem me_o (h : MO Γ X W o a o1 ta ma) : ME Γ X W o a o1 ta ma := by
  obtain ⟨eG⟩ := hG
  subst eG
  exact ⟨h.pe, PuO.e h.pu⟩
/-! ### own slots read on the way -/
theorem me_bor (i : Nat) (h : ME Γ X W (o.filter (· != i)) a (o.filter (· != i)) ta ma) (hi : i ∈ o := by decide) : ME Γ X W o a o ta (mScal ma) := by
  obtain ⟨eG⟩ := hG
  subst eG
  exact ⟨h.pe, PuE.borrow i hi h.pu⟩
theorem mt_bor (i : Nat) (h : MT Γ X W (o.filter (· != i)) a (o.filter (· != i)) tt mt) (hi : i ∈ o := by decide) : MT Γ X W o a o tt mt := by
  obtain ⟨eG⟩ := hG
  subst eG
  exact ⟨h.pe, PuT.borrow i hi h.pu⟩
theorem mo_bor (i : Nat) (h : MO Γ X W (o.filter (· != i)) a (o.filter (· != i)) ta ma) (hi : i ∈ o := by decide) : MO Γ X W o a o ta (mScalL ma) := by
  obtain ⟨eG⟩ := hG
  subst eG
  exact ⟨h.pe, PuO.borrow i hi h.pu⟩
theorem me_weak (l : List Nat) (h : ME Γ X W (o.filter fun j => !l.contains j) a o1 ta ma) : ME Γ X W o a o1 ta ma := by
  obtain ⟨eG⟩ := hG
  subst eG
  exact ⟨h.pe, PuE.weak0 l h.pu⟩
theorem mt_weak (l : List Nat) (h : MT Γ X W (o.filter fun j => !l.contains j) a o1 tt mt) : MT Γ X W o a o1 tt mt := by
  obtain ⟨eG⟩ := hG
  subst eG
  exact ⟨h.pe, PuT.weak0 l h.pu⟩
theorem mo_weak (l : List Nat) (h : MO Γ X W (o.filter fun j => !l.contains j) a o1 ta ma) : MO Γ X W o a o1 ta ma := by
  obtain ⟨eG⟩ := hG
  subst eG
  exact ⟨h.pe, PuO.weak0 l h.pu⟩
/-! ### calls of built-ins -/
variable {id T : String} {rc : List V → Hp → VK → Prop} {fc : List D → R D}
theorem me_cb (hp : PuC Γ W rc fc) (hc : CallR X (.builtin id) rc) (hm : X.mg x = none) (hv : bootBuiltins x = some (.builtin id)) (ha : MA Γ X W o (e :: es) o1 ts ms) (hg : Gl X x := by rfl) (hn : x ≠ "__name__" := by decide) (hdb : (x == ("__debug__" : Str)) = false := by decide)
    (he : starEach (e :: es) X.env = (false, eval e X.env) :: starEach es X.env := by rfl) (hpl : (backTo pos (starEach es X.env)).any (·.1) = false := by rfl) : ME Γ X W o (.Call (.Name x p) (e :: es) [] pos) o1 (tCB rc ts) (mCall fc ms) := by
  obtain ⟨eG⟩ := hG
  subst eG
  exact ⟨pe_callB hc hg hm hv ha.pe hn hdb he hpl, PuE.cb hp ha.pu⟩
theorem me_ct (hp : PuC Γ W rc fc) (hc : CallR X (.type T) rc) (hm : X.mg x = none) (hv : bootBuiltins x = some (.type T)) (ha : MA Γ X W o (e :: es) o1 ts ms) (hg : Gl X x := by rfl) (hn : x ≠ "__name__" := by decide) (hdb : (x == ("__debug__" : Str)) = false := by decide)
    (he : starEach (e :: es) X.env = (false, eval e X.env) :: starEach es X.env := by rfl) (hpl : (backTo pos (starEach es X.env)).any (·.1) = false := by rfl) : ME Γ X W o (.Call (.Name x p) (e :: es) [] pos) o1 (tCB rc ts) (mCall fc ms) := by
  obtain ⟨eG⟩ := hG
  subst eG
  exact ⟨pe_callTy hc hg hm hv ha.pe hn hdb he hpl, PuE.cb hp ha.pu⟩
theorem mo_ct (hp : PuCO Γ W rc fc) (hc : CallR X (.type T) rc) (hm : X.mg x = none) (hv : bootBuiltins x = some (.type T)) (ha : MA Γ X W o (e :: es) o1 ts ms) (hg : Gl X x := by rfl) (hn : x ≠ "__name__" := by decide) (hdb : (x == ("__debug__" : Str)) = false := by decide)
    (he : starEach (e :: es) X.env = (false, eval e X.env) :: starEach es X.env := by rfl) (hpl : (backTo pos (starEach es X.env)).any (·.1) = false := by rfl) : MO Γ X W o (.Call (.Name x p) (e :: es) [] pos) o1 (tCB rc ts) (mCall fc ms) := by
  obtain ⟨eG⟩ := hG
  subst eG
  exact ⟨pe_callTy hc hg hm hv ha.pe hn hdb he hpl, PuO.cb hp ha.pu⟩
theorem mo_cb (hp : PuCO Γ W rc fc) (hc : CallR X (.builtin id) rc) (hm : X.mg x = none) (hv : bootBuiltins x = some (.builtin id)) (ha : MA Γ X W o (e :: es) o1 ts ms) (hg : Gl X x := by rfl) (hn : x ≠ "__name__" := by decide) (hdb : (x == ("__debug__" : Str)) = false := by decide)
    (he : starEach (e :: es) X.env = (false, eval e X.env) :: starEach es X.env := by rfl) (hpl : (backTo pos (starEach es X.env)).any (·.1) = false := by rfl) : MO Γ X W o (.Call (.Name x p) (e :: es) [] pos) o1 (tCB rc ts) (mCall fc ms) := by
  obtain ⟨eG⟩ := hG
  subst eG
  exact ⟨pe_callB hc hg hm hv ha.pe hn hdb he hpl, PuO.cb hp ha.pu⟩
theorem b_len : bootBuiltins "len" = some (.builtin "len") := boot_len
theorem b_int : bootBuiltins "int" = some (.type "int") := by decide +kernel
theorem b_abs : bootBuiltins "abs" = some (.builtin "abs") := by decide +kernel
theorem b_max : bootBuiltins "max" = some (.builtin "max") := by decide +kernel
theorem b_min : bootBuiltins "min" = some (.builtin "min") := by decide +kernel
theorem b_sum : bootBuiltins "sum" = some (.builtin "sum") := by decide +kernel
theorem b_all : bootBuiltins "all" = some (.builtin "all") := by decide +kernel
theorem b_any : bootBuiltins "any" = some (.builtin "any") := by decide +kernel
theorem b_tuple : bootBuiltins "tuple" = some (.type "tuple") := by decide +kernel
theorem b_list : bootBuiltins "list" = some (.type "list") := by decide +kernel
theorem b_isi : bootBuiltins "isinstance" = some (.builtin "isinstance") := by decide +kernel
theorem b_sorted : bootBuiltins "sorted" = some (.builtin "sorted") := by decide +kernel
theorem b_bool : bootBuiltins "bool" = some (.type "bool") := by decide +kernel
theorem b_str : bootBuiltins "str" = some (.type "str") := by decide +kernel
theorem b_dict : bootBuiltins "dict" = some (.type "dict") := by decide +kernel
/-! ### calls of defs -/
variable {k n : Nat} {f : Addr} {fd : FuncData} {ps : List Str} {fn : List D → R D}
theorem me_call (tk : L2N.Takes X W) (F : Fd X.prog X.w X.K X.mg X.base k x ps f fd fn) (hr : Room k X.A) (ha : MA Γ X W o (e :: es) o1 ts ms) (hg : Gl X x := by rfl) (hdb : (x == ("__debug__" : Str)) = false := by decide)
    (he : starEach (e :: es) X.env = (false, eval e X.env) :: starEach es X.env := by rfl) (hpl : (backTo pos (starEach es X.env)).any (·.1) = false := by rfl) (hn : ps.length = n := by rfl) :
    ME Γ X W o (.Call (.Name x p) (e :: es) [] pos) o1 (tCallS (spM Γ n fn) (WE W) ts) (mCallN n fn ms) := by
  obtain ⟨eG⟩ := hG
  subst eG
  subst hn
  exact ⟨pe_callS F.ok hr hg F.g F.kp F.b (fun σ => L2N.passAt tk σ) ha.pe hdb he hpl, PuE.call ha.pu⟩
def mCall0 (n : Nat) (fn : List D → R D) (ms : Env → R (List D)) : Env → R D := fun ρ => (ms ρ).bind fun ds => if ds.length = n then (fn ds).val else .bad
/-- .. within a comprehension -/
theorem me_callC (F : Fd X.prog X.w X.K X.mg X.base k x ps f fd fn) (hr : Room k X.A) (ha : MA Γ X W o (e :: es) o1 ts ms) (hg : Gl X x := by rfl) (hdb : (x == ("__debug__" : Str)) = false := by decide)
    (he : starEach (e :: es) X.env = (false, eval e X.env) :: starEach es X.env := by rfl) (hpl : (backTo pos (starEach es X.env)).any (·.1) = false := by rfl) (hn : ps.length = n := by rfl) :
    ME Γ X W o (.Call (.Name x p) (e :: es) [] pos) o1 (tCall (fun vs H Q _ => spM Γ n fn vs H Q fun _ _ _ => False) [] E0 ts) (mCall0 n fn ms) := by
  obtain ⟨eG⟩ := hG
  subst eG
  subst hn
  exact ⟨pe_call (FnOk.quiet F.ok) hr hg F.g F.kp F.b .nil pass0 ha.pe hdb he hpl, PuE.call0 ha.pu⟩
/-! ### targets -/
theorem filt_no {o : List Nat} {i : Nat} (hi : i ∉ o) : o.filter (· != i) = o := by
  rw [List.filter_eq_self]; intro j hj; have : j ≠ i := fun q => hi (q ▸ hj); simpa using this
theorem puG_name {G : Gc} {o : List Nat} {i : Nat} (hi : i ∉ o) : PuG G o (gName i) o (gnName i) := by
  intro B F0 F H σ ρ K v d rel rv h
  obtain ⟨ρ', e, k⟩ := h
  cases e
  have z := rel.set (i := i) rv
  rw [filt_no hi] at z
  exact k _ z
theorem puS_set {G : Gc} {W : WX} {oL o o1 : List Nat} {ta : TE} {ma : Env → R D} {i : Nat} (hi : i ∉ o1) (ha : PuE G W o ta o1 ma) : PuS G W oL o (tAsg ta (gName i)) o1 (mSet i ma) := by
  intro B F0 F H σ ρ X rel h
  exact ha rel ((Post.res h).imp fun d F1 H1 e1 r1 q v rv => q F1 H1 _ (Le.refl F1) (by have z := r1.set (i := i) rv; rw [filt_no hi] at z; exact z))
theorem puS_aug {G : Gc} {W : WX} {oL o o1 : List Nat} {t : TE} {m : Env → R D} {i : Nat} {f : Int → Int → Int} (hi : i ∉ o) (hi1 : i ∉ o1) (h : PuE G W o t o1 m) : PuS G W oL o (tAug i t (ipI f)) o1 (mAug i f m) := by
  have z : PuS G W oL o (tAug i t (ipI f)) (o1.filter (· != i)) (mAug i f m) := by
    intro B F0 F H σ ρ X rel q
    exact PuS.aug hi h rel q
  rw [filt_no hi1] at z
  exact @z
theorem mg_name (i : Nat) (nd : X.N.Nodup) (hi : i ∉ o := by decide) (hN : X.N[i]? = some x := by rfl) (hl : Loc X.env.scope x := by first | exact Or.inl rfl | exact Or.inr rfl) (hf : X.fn x = true ∨ X.env.scope.names.lookup x = some .local := by first | exact .inl rfl | exact .inr rfl) : MG Γ X o (.Name x pos) o (gName i) (gnName i) := by
  obtain ⟨eG⟩ := hG
  subst eG
  exact ⟨pg_name nd hN hl hf, puG_name hi⟩
theorem mgs_nil : MGs Γ X o [] o gNil gnNil := by
  obtain ⟨eG⟩ := hG
  subst eG
  exact ⟨pgs_nil, PuGs.nil⟩
theorem mgs_cons {tg : Expr} {tgs : List Expr} {g : TG} {gs : TGs} {mg : D → Env → R Env} {mgs : List D → Env → R Env} (h1 : MG Γ X o tg o1 g mg) (h2 : MGs Γ X o1 tgs o2 gs mgs) (hs : (assignEach (tg :: tgs) X.env).map (·.2) = assign tg X.env :: (assignEach tgs X.env).map (·.2) := by rfl) : MGs Γ X o (tg :: tgs) o2 (gCons g gs) (gnCons mg mgs) := by
  obtain ⟨eG⟩ := hG
  subst eG
  exact ⟨pgs_cons h1.pe h2.pe hs, PuGs.cons h1.pu h2.pu⟩
theorem mg_tup {tgs : List Expr} {kk n : Nat} {gs : TGs} {mgs : List D → Env → R Env} (hc : X.calm = true) (h : MGs Γ X o tgs o1 gs mgs) (hn : (assignEach tgs X.env).length = n := by rfl) (hst : (assignEach tgs X.env).findIdx? (·.1) = none := by rfl) : MG Γ X o (.Tuple tgs kk pos) o1 (gTup Γ.K n gs) (gnTup n mgs) := by
  obtain ⟨eG⟩ := hG
  subst eG
  exact ⟨pg_tup hc h.pe hn hst, PuG.tup rfl h.pu⟩
end
end G
/-! S12: the derivations of statements. -/
namespace G
open PySem L2
/-- nothing is let out of a comprehension -/
abbrev WN : WX := fun _ _ _ _ => False
section
variable {Γ : Gc} {X : Cx} [hG : HG Γ X] {W : WX} {o o1 o2 o3 oL oI : List Nat} {a b c e elt tg iter : Expr} {es ifs : List Expr} {pos p cpos apos spos py : Pos} {ta tb tc te : TE} {ma mb mc me : Env → R D} {tt tu : TT} {mt mu : Env → R Bool} {ts : TA} {ms : Env → R (List D)} {x : Str} {st : Stmt} {sts A1 A2 : List Stmt} {t u : TS} {m n : Env → Out} {wi : TI} {g : TG} {mi : Env → R (List D)} {mg : D → Env → R Env}
/-! ### what is walked -/
theorem mi_seq (ha : ME Γ X W o a o1 ta ma) : MI Γ X W o tg a o1 (iSeq Γ.K ta) (mSq D.seq ma) := by
  obtain ⟨eG⟩ := hG
  subst eG
  exact ⟨pi_seq ha.pe, PuI.seq ha.pu⟩
theorem mi_range1 (hm : X.mg "range" = none) (ha : ME Γ X W o a o1 ta ma) (hg : Gl X "range" := by rfl) (hs : starEach [a] X.env = [(false, eval a X.env)] := by rfl) : MI Γ X W o tg (.Call (.Name "range" p) [a] [] pos) o1 (iRng1 (tCons ta tNil)) (mSq dRange1 ma) := by
  obtain ⟨eG⟩ := hG
  subst eG
  exact ⟨pi_range1 hg hm (pa_cons ha.pe pa_nil hs) hs, PuI.range1 ha.pu⟩
theorem mi_range2 (hm : X.mg "range" = none) (ha : ME Γ X W o a o1 ta ma) (hb : ME Γ X W o1 b o2 tb mb) (hg : Gl X "range" := by rfl) (hs : starEach [a, b] X.env = [(false, eval a X.env), (false, eval b X.env)] := by rfl) (hs2 : starEach [b] X.env = [(false, eval b X.env)] := by rfl) : MI Γ X W o tg (.Call (.Name "range" p) [a, b] [] pos) o2 (iRng2 (tCons ta (tCons tb tNil))) (mRange2 ma mb) := by
  obtain ⟨eG⟩ := hG
  subst eG
  exact ⟨pi_range2 hg hm (pa_cons ha.pe (pa_cons hb.pe pa_nil hs2) (hs.trans (congrArg _ hs2.symm))) hs hs2, PuI.range2 ha.pu hb.pu⟩
theorem mi_enum {els : List Expr} {kk : Nat} (hm : X.mg "enumerate" = none) (ha : ME Γ X W o a o1 ta ma) (hg : Gl X "enumerate" := by rfl) (hs : starEach [a] X.env = [(false, eval a X.env)] := by rfl) : MI Γ X W o (.Tuple els kk py) (.Call (.Name "enumerate" p) [a] [] pos) o1 (iEnumA Γ.K (tCons ta tNil)) (mSq (dEnum D.seq) ma) := by
  obtain ⟨eG⟩ := hG
  subst eG
  exact ⟨pi_enumA hg hm (pa_cons ha.pe pa_nil hs) hs, PuI.enum ha.pu⟩
theorem mi_zip {els : List Expr} {kk : Nat} (hm : X.mg "zip" = none) (ha : ME Γ X W o a o1 ta ma) (hb : ME Γ X W o1 b o2 tb mb) (hg : Gl X "zip" := by rfl) (hs : starEach [a, b] X.env = (false, eval a X.env) :: starEach [b] X.env := by rfl) (hs2 : starEach [b] X.env = [(false, eval b X.env)] := by rfl) (hpl : (backTo pos (starEach [b] X.env)).any (·.1) = false := by rfl) : MI Γ X W o (.Tuple els kk py) (.Call (.Name "zip" p) [a, b] [] pos) o2 (RZ.iZipA Γ.K (tCons ta (tCons tb tNil))) (mZip ma mb) := by
  obtain ⟨eG⟩ := hG
  subst eG
  exact ⟨RZ.pi_zipA hg hm (pa_cons ha.pe (pa_cons hb.pe pa_nil hs2) hs) hs hpl, PuI.zip ha.pu hb.pu⟩
/-! ### comprehensions with one clause -/
structure MTs (Γ : Gc) (X : Cx) (W : WX) (o : List Nat) (ifs : List Expr) (t : TT) (m : Env → R Bool) : Prop where
  pe : PTs X ifs t
  pu : PuT Γ W o t o m
theorem mts_nil : MTs Γ X W o [] tYes mYes := by
  obtain ⟨eG⟩ := hG
  subst eG
  exact ⟨pts_nil, PuT.yes⟩
theorem mts_one (h : MT Γ X W o c o tt mt) : MTs Γ X W o [c] tt mt := by
  obtain ⟨eG⟩ := hG
  subst eG
  exact ⟨pts_one h.pe, h.pu⟩
abbrev B0 (X : Cx) (scope : Scope) (s : Shared) (H : Hp) (C : Addr) (cl : List (Str × Addr)) (fp : List Addr) : Cx := X.blk s H scope (compEnvC scope cl C X.env) fp
theorem mo_lc {scope : Scope} (s0 : Shared) (H0 : Hp) (own : List (Str × Nat)) (hc : X.calm = true) (hN : X.N.Nodup) (hi : MI Γ X W o tg iter o wi mi) (ok : blkC X.N X.env.scope scope own = true)
    (hg : ∀ (s : Shared) (H : Hp) (C : Addr) (cl : List (Str × Addr)) (fp : List Addr), MG Γ (B0 X scope s H C cl fp) o tg o g mg)
    (ht : ∀ (s : Shared) (H : Hp) (C : Addr) (cl : List (Str × Addr)) (fp : List Addr), MTs Γ (B0 X scope s H C cl fp) WN o ifs tt mt)
    (he : ∀ (s : Shared) (H : Hp) (C : Addr) (cl : List (Str × Addr)) (fp : List Addr), ME Γ (B0 X scope s H C cl fp) WN o elt o te me)
    (hw : GW g mg (own.map (·.2))) (hv : ∀ i, i ∈ own.map (·.2) → i ∉ o := by decide) (hs : ∀ x, foldedSetIterable iter X.env x = pure x := by intro _; rfl) :
    MO Γ X W o (.ListComp elt [⟨tg, iter, ifs, 0⟩] scope pos) o (tLc wi g tt te (own.map (·.2))) (mLc (own.map (·.2)) mi mg mt me) := by
  obtain ⟨eG⟩ := hG
  subst eG
  exact ⟨pe_lc hc hN hi.pe (blkOk_by ok) (fun s H C cl fp => (hg s H C cl fp).pe) (fun s H C cl fp => (ht s H C cl fp).pe) (fun s H C cl fp => (he s H C cl fp).pe) hs,
    PuO.lc hi.pu hv hw (hg s0 H0 0 [] []).pu (ht s0 H0 0 [] []).pu (he s0 H0 0 [] []).pu⟩
/-! ### statements -/
theorem mss_nil : MSs Γ X W oL o [] o tNext mNext := by
  obtain ⟨eG⟩ := hG
  subst eG
  exact ⟨pss_nil, PuS.next⟩
theorem mss_cons (h1 : MS Γ X W oL o st o1 t m) (h2 : MSs Γ X W oL o1 sts o2 u n) : MSs Γ X W oL o (st :: sts) o2 (tSeq t u) (mSeq m n) := by
  obtain ⟨eG⟩ := hG
  subst eG
  exact ⟨pss_cons h1.pe h2.pe, PuS.seq h1.pu h2.pu⟩
theorem mss_one (h1 : MS Γ X W oL o st o1 t m) : MSs Γ X W oL o [st] o1 t m := by
  obtain ⟨eG⟩ := hG
  subst eG
  exact ⟨pss_one h1.pe, h1.pu⟩
theorem mss_weak (l : List Nat) (h1 : MSs Γ X W oL o sts o1 t m) : MSs Γ X W oL o sts (o1.filter fun j => !l.contains j) t m := by
  obtain ⟨eG⟩ := hG
  subst eG
  exact ⟨h1.pe, PuS.weak l h1.pu⟩
theorem mss_weak0 (l : List Nat) (h1 : MSs Γ X W oL (o.filter fun j => !l.contains j) sts o1 t m) : MSs Γ X W oL o sts o1 t m := by
  obtain ⟨eG⟩ := hG
  subst eG
  exact ⟨h1.pe, PuS.weak0 l h1.pu⟩
theorem ms_weak (l : List Nat) (h1 : MS Γ X W oL o st o1 t m) : MS Γ X W oL o st (o1.filter fun j => !l.contains j) t m := by
  obtain ⟨eG⟩ := hG
  subst eG
  exact ⟨h1.pe, PuS.weak l h1.pu⟩
theorem ms_weak0 (l : List Nat) (h1 : MS Γ X W oL (o.filter fun j => !l.contains j) st o1 t m) : MS Γ X W oL o st o1 t m := by
  obtain ⟨eG⟩ := hG
  subst eG
  exact ⟨h1.pe, PuS.weak0 l h1.pu⟩
theorem ms_pass : MS Γ X W oL o (.Pass pos) o tNext mNext := by
  obtain ⟨eG⟩ := hG
  subst eG
  exact ⟨ps_pass, PuS.next⟩
theorem ms_doc {s : Str} {j} : MS Γ X W oL o (.Expr (.Constant (.str s) j p) pos) o tNext mNext := by
  obtain ⟨eG⟩ := hG
  subst eG
  exact ⟨ps_doc, PuS.next⟩
theorem ms_brk (hs : oL = o := by rfl) : MS Γ X W oL o (.Break pos) o2 tBreak mBrk := by
  obtain ⟨eG⟩ := hG
  subst eG
  exact ⟨ps_break, PuS.brk hs⟩
theorem ms_cnt (hs : oL = o := by rfl) : MS Γ X W oL o (.Continue pos) o2 tCont mCnt := by
  obtain ⟨eG⟩ := hG
  subst eG
  exact ⟨ps_continue, PuS.cnt hs⟩
theorem ms_ret (ha : ME Γ X W o a o1 ta ma) : MS Γ X W oL o (.Return (some a) pos) o2 (tRet ta) (mRet ma) := by
  obtain ⟨eG⟩ := hG
  subst eG
  exact ⟨ps_ret ha.pe, PuS.ret ha.pu⟩
theorem ms_retN : MS Γ X W oL o (.Return none pos) o2 tRetN mRetN := by
  obtain ⟨eG⟩ := hG
  subst eG
  exact ⟨ps_retN, PuS.retN⟩
theorem ms_expr (ha : ME Γ X W o a o1 ta ma) (hs : swapsWith a none pos.line X.env = pure false := by rfl) : MS Γ X W oL o (.Expr a pos) o1 (tDrop ta) (mDrop ma) := by
  obtain ⟨eG⟩ := hG
  subst eG
  exact ⟨ps_expr ha.pe hs, PuS.drop ha.pu⟩
theorem ms_bad : MS Γ X W oL o st o2 tNever mBad := by
  obtain ⟨eG⟩ := hG
  subst eG
  exact ⟨ps_never, PuS.bad⟩
theorem ms_if (hc : MT Γ X W o c o1 tt mt) (h1 : MSs Γ X W oL o1 A1 o2 t m) (h2 : MSs Γ X W oL o1 A2 o2 u n) : MS Γ X W oL o (.If c A1 A2 pos) o2 (tIfS tt t u) (mIf mt m n) := by
  obtain ⟨eG⟩ := hG
  subst eG
  exact ⟨ps_if hc.pe h1.pe h2.pe, PuS.ifS hc.pu h1.pu h2.pu⟩
theorem ms_set (i : Nat) (nd : X.N.Nodup) (ha : ME Γ X W o a o1 ta ma) (hi : i ∉ o1 := by decide) (hN : X.N[i]? = some x := by rfl) (hl : Loc X.env.scope x := by first | exact Or.inl rfl | exact Or.inr rfl) (hs : swapsWith a (some (.Name x p)) pos.line X.env = pure false := by rfl) (hf : X.fn x = true ∨ X.env.scope.names.lookup x = some .local := by first | exact .inl rfl | exact .inr rfl) :
    MS Γ X W oL o (.Assign [.Name x p] a pos) o1 (tAsg ta (gName i)) (mSet i ma) := by
  obtain ⟨eG⟩ := hG
  subst eG
  exact ⟨ps_set nd hN hl ha.pe hs hf, puS_set hi ha.pu⟩
theorem ms_setW (i : Nat) (nd : X.N.Nodup) (ha : ME Γ X W o a o1 ta ma) (hN : X.N[i]? = some x := by rfl) (hl : Loc X.env.scope x := by first | exact Or.inl rfl | exact Or.inr rfl) (hs : swapsWith a (some (.Name x p)) pos.line X.env = pure false := by rfl) (hf : X.fn x = true ∨ X.env.scope.names.lookup x = some .local := by first | exact .inl rfl | exact .inr rfl) :
    MS Γ X W oL o (.Assign [.Name x p] a pos) (o1.filter (· != i)) (tAsg ta (gName i)) (mSet i ma) := by
  obtain ⟨eG⟩ := hG
  subst eG
  exact ⟨ps_set nd hN hl ha.pe hs hf, PuS.set ha.pu⟩
theorem ms_setO (i : Nat) (nd : X.N.Nodup) (ha : MO Γ X W o a o1 ta ma) (hN : X.N[i]? = some x := by rfl) (hl : Loc X.env.scope x := by first | exact Or.inl rfl | exact Or.inr rfl) (hs : swapsWith a (some (.Name x p)) pos.line X.env = pure false := by rfl) (hf : X.fn x = true ∨ X.env.scope.names.lookup x = some .local := by first | exact .inl rfl | exact .inr rfl) :
    MS Γ X W oL o (.Assign [.Name x p] a pos) (i :: o1.filter (· != i)) (tAsg ta (gName i)) (mSet i ma) := by
  obtain ⟨eG⟩ := hG
  subst eG
  exact ⟨ps_set nd hN hl ha.pe hs hf, PuS.setO ha.pu⟩
/-- name = [.. for ..] where the tongue stores in another order -/
theorem ms_setLc (i : Nat) {scope : Scope} (s0 : Shared) (H0 : Hp) (own : List (Str × Nat)) (hc : X.calm = true) (hN : X.N.Nodup) (hi : MI Γ X W o tg iter o wi mi) (ok : blkC X.N X.env.scope scope own = true)
    (hg : ∀ (s : Shared) (H : Hp) (C : Addr) (cl : List (Str × Addr)) (fp : List Addr), MG Γ (B0 X scope s H C cl fp) o tg o g mg)
    (ht : ∀ (s : Shared) (H : Hp) (C : Addr) (cl : List (Str × Addr)) (fp : List Addr), MTs Γ (B0 X scope s H C cl fp) WN o ifs tt mt)
    (he : ∀ (s : Shared) (H : Hp) (C : Addr) (cl : List (Str × Addr)) (fp : List Addr), ME Γ (B0 X scope s H C cl fp) WN o elt o te me)
    (hw : GW g mg (own.map (·.2))) (hv : ∀ i, i ∈ own.map (·.2) → i ∉ o := by decide) (hs : ∀ x, foldedSetIterable iter X.env x = pure x := by intro _; rfl) 
    (hy : X.N[i]? = some x := by rfl) (hyl : X.env.scope.names.lookup x = some .local := by rfl) (hsw : swapsWith (.ListComp elt [⟨tg, iter, ifs, 0⟩] scope pos) (some (.Name x py)) spos.line X.env = pure true := by rfl) :
    MS Γ X W oL o (.Assign [.Name x py] (.ListComp elt [⟨tg, iter, ifs, 0⟩] scope pos) spos) (i :: o.filter (· != i)) (tAsg (tLc wi g tt te (own.map (·.2))) (gName i)) (mSet i (mLc (own.map (·.2)) mi mg mt me)) := by
  obtain ⟨eG⟩ := hG
  subst eG
  exact ⟨ps_setLc hc hN hy hyl hsw hi.pe (blkOk_by ok) (fun s H C cl fp => (hg s H C cl fp).pe) (fun s H C cl fp => (ht s H C cl fp).pe) (fun s H C cl fp => (he s H C cl fp).pe) hs,
    PuS.setO (PuO.lc hi.pu hv hw (hg s0 H0 0 [] []).pu (ht s0 H0 0 [] []).pu (he s0 H0 0 [] []).pu)⟩
/-- any target -/
def mTg (ma : Env → R D) (mg : D → Env → R Env) : Env → Out := fun ρ => oBind (ma ρ) ρ fun d => match mg d ρ with
  | .ok ρ' => .nx ρ'
  | _ => .bad
theorem PuS.target {G : Gc} (ha : PuE G W o ta o1 ma) (hg : PuG G o1 g o2 mg) : PuS G W oL o (tAsg ta g) o2 (mTg ma mg) := by
  intro B F0 F H σ ρ X rel h
  refine ha rel ((Post.res h).imp fun d F1 H1 e1 r1 q v rv => ?_)
  cases z : mg d ρ with
  | ok ρ' => rw [z] at q; exact hg r1 rv ⟨ρ', z, fun σ' r' => q F1 H1 σ' (Le.refl F1) r'⟩
  | exc _ _ => rw [z] at q; exact q.elim
  | bad => rw [z] at q; exact q.elim
theorem ms_tg (ha : ME Γ X W o a o1 ta ma) (hg : MG Γ X o1 tg o2 g mg) (hs : swapsWithSole [tg] a pos.line X.env = pure false := by rfl) (hw : swappedStores [tg] a X.env = pure none := by rfl)
    (h1 : (assignEach [tg] X.env).map (·.2) = [assign tg X.env] := by rfl) : MS Γ X W oL o (.Assign [tg] a pos) o2 (tAsg ta g) (mTg ma mg) := by
  obtain ⟨eG⟩ := hG
  subst eG
  exact ⟨ps_asg ha.pe hg.pe hs hw h1, PuS.target ha.pu hg.pu⟩
/-- a, b = x, y -/
def mPar (i j : Nat) (ms : Env → R (List D)) : Env → Out := fun ρ => oBind (ms ρ) ρ fun ds => match ds with
  | [a, b] => .nx ((ρ.set i (some a)).set j (some b))
  | _ => .bad
theorem PuS.par {G : Gc} {i j : Nat} (hi : i ∉ o1) (hj : j ∉ o1) (ha : PuA G W o ts o1 ms) : PuS G W oL o (tPar i j ts) o1 (mPar i j ms) := by
  intro B F0 F H σ ρ X rel h
  refine ha rel ((Post.res h).imp fun ds F1 H1 e1 r1 q vs rv => ?_)
  cases rv with
  | nil => exact q.elim
  | cons h1 r2 =>
    cases r2 with
    | nil => exact q.elim
    | cons h2 r3 =>
      cases r3 with
      | nil =>
        refine ⟨_, _, rfl, q F1 H1 _ (Le.refl F1) ?_⟩
        have z := (r1.set (i := i) h1)
        rw [filt_no hi] at z
        have z2 := z.set (i := j) h2
        rw [filt_no hj] at z2
        exact z2
      | cons _ _ => exact q.elim
theorem ms_par (i j : Nat) {y : Str} {px pt2 pt : Pos} {kt k2 : Nat} (hc : X.calm = true) (nd : X.N.Nodup) (ha : MA Γ X W o [a, b] o1 ts ms) (hij : i ≠ j := by decide) (hi : i ∉ o1 := by decide) (hj : j ∉ o1 := by decide) (hN : X.N[i]? = some x := by rfl) (hM : X.N[j]? = some y := by rfl)
    (hx : X.env.scope.names.lookup x = some .local := by rfl) (hy : X.env.scope.names.lookup y = some .local := by rfl)
    (hw : swappedStores [.Tuple [.Name x px, .Name y py] kt pt] (.Tuple [a, b] k2 pt2) X.env = pure (some [x, y]) := by rfl)
    (hs : swapsWithSole [.Tuple [.Name x px, .Name y py] kt pt] (.Tuple [a, b] k2 pt2) pos.line X.env = pure false := by rfl) :
    MS Γ X W oL o (.Assign [.Tuple [.Name x px, .Name y py] kt pt] (.Tuple [a, b] k2 pt2) pos) o1 (tPar i j ts) (mPar i j ms) := by
  obtain ⟨eG⟩ := hG
  subst eG
  exact ⟨ps_par hc nd hN hM hij hx hy ha.pe hw hs, PuS.par hi hj ha.pu⟩
/-! loops -/
theorem ms_for (hp : PassesOwn (model X.prog X.w) X.A X.env X.xe) (hc : X.calm = true) (hi : MI Γ X W o tg iter oI wi mi) (hg : MG Γ X oI tg oI g mg) (hb : MSs Γ X W oI oI sts oI t m) (hs : ∀ x, foldedSetIterable iter X.env x = pure x := by intro _; rfl) :
    MS Γ X W oL o (.For tg iter sts [] pos) oI (tFor wi g t) (mFor mi mg m) := by
  obtain ⟨eG⟩ := hG
  subst eG
  exact ⟨ps_for hp hc hi.pe hg.pe hb.pe hs, PuS.forS hi.pu hg.pu hb.pu⟩
theorem ms_while (hp : PassesOwn (model X.prog X.w) X.A X.env X.xe) (hc : MT Γ X W o c o tt mt) (hb : MSs Γ X W o o sts o t m) :
    MS Γ X W oL o (.While c sts [] pos) o (tWhile tt t) (mWhile mt m) := by
  obtain ⟨eG⟩ := hG
  subst eG
  exact ⟨ps_while hp hc.pe hb.pe, PuS.whileS hc.pu hb.pu⟩
/-! own lists and dicts -/
structure Mtd (Γ : Gc) (X : Cx) (T : String) (name : Str) (id : String) (r : V → List V → Hp → VK → Prop) (f : D → List D → R (D × D)) : Prop where
  pa : PlainAttrs T
  slot : Slot T name id
  ty : typeOf (.builtin id) = pure (.type "method_descriptor")
  mt : MtR X id r
  pm : PuM Γ r f
theorem m_append : Mtd Γ X "list" "append" "list.append" rAppend dAppend := by
  obtain ⟨eG⟩ := hG
  subst eG
  exact ⟨PySem.F.plainAttrs_list, PySem.F.slot_list_append, PySem.F.type_list_append, mt_append, pm_append⟩
theorem m_extend : Mtd Γ X "list" "extend" "list.extend" rExtend dExtend := by
  obtain ⟨eG⟩ := hG
  subst eG
  exact ⟨PySem.F.plainAttrs_list, PySem.F.slot_list_extend, PySem.F.type_list_extend, mt_extend, pm_extend⟩
variable {T id : String} {name : Str} {r : V → List V → Hp → VK → Prop} {f : D → List D → R (D × D)}
theorem ms_mut (hm : Mtd Γ X T name id r f) (i : Nat) (ha : MA Γ X W o (e :: es) o1 ts ms) (hi : i ∈ o := by decide) (hi1 : i ∈ o1 := by decide) (hN : X.N[i]? = some x := by rfl) (hv : Vis X.env.scope x := by first | exact Or.inl rfl | exact Or.inr (Or.inl rfl) | exact Or.inr (Or.inr rfl)) (hd : (x == ("__debug__" : Str)) = false := by decide) (hcd : (x == ("__classdict__" : Str)) = false := by decide)
    (hbase : attributeBase (.Name x p) name X.env (eval (.Name x p) X.env) = eval (.Name x p) X.env := by rfl)
    (hfew : ((backTo cpos (starEach (e :: es) X.env)).all (fun x => !x.1) && (backToKw cpos (keywordEach [] X.env)).all (fun x => x.1.isSome)
      && decide ((e :: es).length + ([] : List Keyword).length + (if ([] : List Keyword).isEmpty then 0 else 1) < 30)) = true := by rfl)
    (hline : (apos.endLine == cpos.line) = true := by rfl) (hs : starEach (e :: es) X.env = (false, eval e X.env) :: starEach es X.env := by rfl) (hplain : (backTo cpos (starEach es X.env)).any (·.1) = false := by rfl)
    (hsw : swapsWith (.Call (.Attribute (.Name x p) name apos) (e :: es) [] cpos) none pos.line X.env = pure false := by rfl) :
    MS Γ X W oL o (.Expr (.Call (.Attribute (.Name x p) name apos) (e :: es) [] cpos) pos) o1 (tDrop (tBM Γ.K T r (tVar i) ts)) (mMut T i f ms kDrop) := by
  obtain ⟨eG⟩ := hG
  subst eG
  exact ⟨ps_expr (pe_bm hm.pa hm.slot hm.ty hm.mt (pe_var hN hv hd hcd) ha.pe hbase hfew hline hs hplain) hsw, PuS.mutA (t := fun X _ σ H => X.nx σ H) hm.pm hi1 hi ha.pu PuK.drop⟩
theorem ms_dput (i : Nat) (hu : X.A.units + 1 < cLine) (hv : ME Γ X W o a o1 ta ma) (hk : ME Γ X W o1 b o2 tb mb) (hi1 : i ∈ o1 := by decide) (hi2 : i ∈ o2 := by decide) (hN : X.N[i]? = some x := by rfl) (hvi : Vis X.env.scope x := by first | exact Or.inl rfl | exact Or.inr (Or.inl rfl) | exact Or.inr (Or.inr rfl)) (hd : (x == ("__debug__" : Str)) = false := by decide) (hcd : (x == ("__classdict__" : Str)) = false := by decide)
    (hs : swapsWith a (some (.Subscript (.Name x p) b py)) pos.line X.env = pure false := by rfl) :
    MS Γ X W oL o (.Assign [.Subscript (.Name x p) b py] a pos) o2 (sDPut (tVar i) tb ta) (mDPut i mb ma) := by
  obtain ⟨eG⟩ := hG
  subst eG
  exact ⟨ps_dput hu (pe_var hN hvi hd hcd) hk.pe hv.pe hs, PuS.dput hi1 hi2 hv.pu hk.pu⟩
theorem ms_lput (i : Nat) (hv : ME Γ X W o a o1 ta ma) (hk : ME Γ X W o1 b o2 tb mb) (hi1 : i ∈ o1 := by decide) (hi2 : i ∈ o2 := by decide) (hN : X.N[i]? = some x := by rfl) (hvi : Vis X.env.scope x := by first | exact Or.inl rfl | exact Or.inr (Or.inl rfl) | exact Or.inr (Or.inr rfl)) (hd : (x == ("__debug__" : Str)) = false := by decide) (hcd : (x == ("__classdict__" : Str)) = false := by decide)
    (hsw : swapsWithSole [.Subscript (.Name x p) b py] a pos.line X.env = pure false := by rfl) (hw : swappedStores [.Subscript (.Name x p) b py] a X.env = pure none := by rfl)
    (h1 : (assignEach [.Subscript (.Name x p) b py] X.env).map (·.2) = [assign (.Subscript (.Name x p) b py) X.env] := by rfl)
    (hasg : ∀ v, assign (.Subscript (.Name x p) b py) X.env v = (do
      let ov ← holding [v] (eval (.Name x p) X.env)
      let iv ← holding [v, ov] (eval b X.env)
      standAt py
      holding [v, ov, iv] (setItem ov iv v)
      release [v, ov, iv] []) := by intro _; rfl) :
    MS Γ X W oL o (.Assign [.Subscript (.Name x p) b py] a pos) o2 (tAsg ta (gSub (tVar i) tb rSetL)) (mLPut i mb ma) := by
  obtain ⟨eG⟩ := hG
  subst eG
  exact ⟨ps_asg hv.pe (pg_sub (pe_var hN hvi hd hcd) hk.pe set_list hasg) hsw hw h1, PuS.lput hi1 hi2 hv.pu hk.pu⟩
/-- an operator on a name -/
structure AugR (X : Cx) (op : Operator) (f : Int → Int → Int) : Prop where
  ip : PIp X op (ipI f)
theorem ms_aug {op : Operator} {f : Int → Int → Int} (i : Nat) (nd : X.N.Nodup) (hop : AugR X op f) (ha : ME Γ X W o a o1 ta ma) (hi : i ∉ o := by decide) (hi1 : i ∉ o1 := by decide) (hN : X.N[i]? = some x := by rfl) (hl : Loc X.env.scope x := by first | exact Or.inl rfl | exact Or.inr rfl) (hf : X.fn x = true ∨ X.env.scope.names.lookup x = some .local := by first | exact .inl rfl | exact .inr rfl) :
    MS Γ X W oL o (.AugAssign (.Name x p) op a pos) o1 (tAug i ta (ipI f)) (mAug i f ma) := by
  obtain ⟨eG⟩ := hG
  subst eG
  exact ⟨ps_aug nd hN hl ha.pe hop.ip hf, puS_aug hi hi1 ha.pu⟩
end
end G
/-! S13: defs as wholes. -/
namespace G
open PySem L2 PyProof.Rows
theorem gw1 {i : Nat} {vs : List Nat} (h : i ∈ vs := by decide) : GW (gName i) (gnName i) vs := GW.name h
theorem gw2 {K : PySem.W.Frag} {i j n : Nat} {vs : List Nat} (h : i ∈ vs := by decide) (h2 : j ∈ vs := by decide) : GW (gTup K n (gCons (gName i) (gCons (gName j) gNil))) (gnTup n (gnCons (gnName i) (gnCons (gnName j) gnNil))) vs :=
  GW.tup (GWs.cons (GW.name h) (GWs.cons (GW.name h2) GWs.nil gName_mono) gName_mono)
theorem gw3 {K : PySem.W.Frag} {i j k n : Nat} {vs : List Nat} (h : i ∈ vs := by decide) (h2 : j ∈ vs := by decide) (h3 : k ∈ vs := by decide) : GW (gTup K n (gCons (gName i) (gCons (gName j) (gCons (gName k) gNil)))) (gnTup n (gnCons (gnName i) (gnCons (gnName j) (gnCons (gnName k) gnNil)))) vs :=
  GW.tup (GWs.cons (GW.name h) (GWs.cons (GW.name h2) (GWs.cons (GW.name h3) GWs.nil gName_mono) gName_mono) gName_mono)
abbrev FnP (K : PySem.W.Frag) (x : Str) (st : Stmt) (f : Addr) (fd : FuncData) : Prop := FunD K x x (defArgs st) (defBody st) (defScope st) [] [] f fd
section
variable {P : Program} {w : World} {K : PySem.W.Frag} {mg : Str → Option Value} {base : Heap}
abbrev XD (P : Program) (w : World) (K : PySem.W.Frag) (mg : Str → Option Value) (base : Heap) (N : List Str) (x : Str) (st : Stmt) (f : Addr) (cdv : Value) (A : Around) (outer : List PySem.Env) (s : Shared) (H : Hp) (E : XK) : Cx :=
  cxOf (L2N.CX P w) P w K mg base N x (defScope st) f cdv A outer s H E
instance {P : Program} {w : World} {K : PySem.W.Frag} {mg : Str → Option Value} {base : Heap} {N : List Str} {x : Str} {st : Stmt} {f : Addr} {cdv : Value} {A : Around} {outer : List PySem.Env} {s : Shared} {H : Hp} {E : XK} : HG ⟨K, mg⟩ (XD P w K mg base N x st f cdv A outer s H E) := ⟨rfl⟩
abbrev WD (E : XK) : WX := fun cls dd _ H => E cls dd H
theorem fd_of {x : Str} {st : Stmt} {f : Addr} {fd : FuncData} {k : Nat} {N ps : List Str} {m : DefM} (F : FnP K x st f fd) (S : FnScope N ps (defScope st)) (g : mg x = some (.ref f)) (b : Binds K fd ps []) (hp : ps.length = m.n) (hk : N.length - ps.length = m.k)
    (h : ∀ cdv A outer s H E, Room k (A.deeper (envOfC x (defScope st) s.heap.objs.size f cdv)) → L2N.Takes (XD P w K mg base N x st f cdv A outer s H E) (WD E) → ∃ t o', MSs ⟨K, mg⟩ (XD P w K mg base N x st f cdv A outer s H E) (WD E) [] [] (defBody st) o' t m.body) :
    Fd P w K mg base (k + 1) x ps f fd m.fn := by
  refine ⟨F.ok S (fun vs H Q E h => ?_) fun cdv A outer s H vs Q E hr hsp => ?_, g, F.kp, b⟩
  · exact spM_len rfl vs H Q E h
  · obtain ⟨t, o', d⟩ := h cdv A outer s H E hr (L2N.takes_of rfl rfl rfl rfl)
    rw [hp] at hsp
    exact ⟨t, d.pe, body_start (F := H) hk hp d.pu hsp⟩
end
end G
/-! S14: small rules; sorted. -/
namespace G
open PySem L2
theorem hu65 {k : Nat} {A : Around} (hr : Room k A) : A.units + 65 < cLine := by have := hr.un; omega
section
variable {Γ : Gc} {X : Cx} [hG : HG Γ X] {W : WX} {o o1 o2 oL oI : List Nat} {a b c e : Expr} {x : Str} {pos : Pos} {st : Stmt} {sts : List Stmt} {t : TS} {m : Env → Out}
theorem me_gintE {i : Int} (hm : ∃ t, X.mg x = some (.int i t)) (hg : Gl X x := by rfl) (hdb : (x == ("__debug__" : Str)) = false := by decide) : ME Γ X W o (.Name x pos) o (tC (.int i)) (mC (.int i)) := by
  obtain ⟨t, h⟩ := hm
  exact me_gint h hg hdb
theorem a_add : AugR X .Add (fun i j => i + j) := ⟨ip_add⟩
theorem a_sub : AugR X .Sub (fun i j => i - j) := ⟨ip_sub⟩
theorem m_insert : Mtd Γ X "list" "insert" "list.insert" rInsert dInsert := ⟨PySem.F.plainAttrs_list, PySem.F.slot_list_insert, PySem.F.type_list_insert, mt_insert, pm_insert⟩
/-- the order of the own slots is none -/
theorem Rel.eqv {G : Gc} {B F0 F H : Hp} {o o' : List Nat} {σ : L2.St} {ρ : Env} (h : ∀ i, i ∈ o ↔ i ∈ o') (r : Rel G B F0 F H o σ ρ) : Rel G B F0 F H o' σ ρ :=
  ⟨r.core, r.len, fun i d h1 h2 => r.sh i d h1 fun z => h2 ((h i).mp z), fun i d h1 h2 => r.ow i d h1 ((h i).mpr h2), fun i j d e a h1 h2 h3 => r.dj i j d e a h1 ((h i).mpr h2) ((h j).mpr h3)⟩
theorem PuS.eqv {G : Gc} (h : ∀ i, i ∈ o1 ↔ i ∈ o2) (h1 : PuS G W oL o t o1 m) : PuS G W oL o t o2 m := by
  intro B F0 F H σ ρ X rel p
  refine h1 rel ?_
  cases hm : m ρ with
  | nx ρ' => rw [hm] at p; exact fun F' H' σ' le r' => p F' H' σ' le (r'.eqv h)
  | rt d => rw [hm] at p; exact p
  | bk ρ' => rw [hm] at p; exact p
  | ct ρ' => rw [hm] at p; exact p
  | exc c q ρ' => rw [hm] at p; exact p
  | bad => rw [hm] at p; exact p
theorem mss_eqv (h1 : MSs Γ X W oL o sts o1 t m) (h : ((o1.all fun i => o2.contains i) && (o2.all fun i => o1.contains i)) = true := by rfl) : MSs Γ X W oL o sts o2 t m := by
  refine ⟨h1.pe, PuS.eqv (fun i => ?_) h1.pu⟩
  obtain ⟨ha, hb⟩ := (Bool.and_eq_true _ _).mp h
  have h : _ ∧ _ := ⟨List.all_eq_true.mp ha, List.all_eq_true.mp hb⟩
  exact ⟨fun z => by simpa using h.1 i z, fun z => by simpa using h.2 i z⟩
end
/-! ### sorted -/
def lexB : List Int → List Int → Bool
  | [], [] => false
  | [], _ :: _ => true
  | _ :: _, [] => false
  | x :: xs, y :: ys => if x = y then lexB xs ys else decide (x < y)
theorem lexB_irr : ∀ xs, lexB xs xs = false
  | [] => rfl
  | x :: xs => by unfold lexB; rw [if_pos rfl]; exact lexB_irr xs
theorem lexB_tot : ∀ {xs ys}, lexB xs ys = false → lexB ys xs = false → xs = ys
  | [], [], _, _ => rfl
  | [], _ :: _, h, _ => by cases h
  | _ :: _, [], _, h => by cases h
  | x :: xs, y :: ys, h1, h2 => by
    unfold lexB at h1 h2
    by_cases e : x = y
    · subst e
      rw [if_pos rfl] at h1 h2
      rw [lexB_tot h1 h2]
    · rw [if_neg e] at h1
      rw [if_neg (Ne.symm e)] at h2
      have := of_decide_eq_false h1
      have := of_decide_eq_false h2
      omega
theorem lexB_asym : ∀ {xs ys}, lexB xs ys = true → lexB ys xs = false
  | [], [], h => by cases h
  | [], _ :: _, _ => rfl
  | _ :: _, [], h => by cases h
  | x :: xs, y :: ys, h => by
    unfold lexB at h ⊢
    by_cases e : x = y
    · subst e
      rw [if_pos rfl] at h ⊢
      exact lexB_asym h
    · rw [if_neg e] at h
      rw [if_neg (Ne.symm e)]
      have := of_decide_eq_true h
      exact decide_eq_false (by omega)
theorem lexB_tr : ∀ {xs ys zs}, lexB ys xs = false → lexB zs ys = false → lexB zs xs = false
  | [], [], [], _, _ => rfl
  | [], [], _ :: _, _, h => by simp [lexB]
  | [], _ :: _, [], _, h => by simp [lexB] at h
  | [], _ :: _, _ :: _, _, _ => by simp [lexB]
  | _ :: _, [], _, h, _ => by simp [lexB] at h
  | _ :: _, _ :: _, [], _, h => by simp [lexB] at h
  | x :: xs, y :: ys, z :: zs, h1, h2 => by
    unfold lexB at h1 h2 ⊢
    by_cases e : y = x
    · subst e
      rw [if_pos rfl] at h1
      by_cases e2 : z = y
      · subst e2
        rw [if_pos rfl] at h2 ⊢
        exact lexB_tr h1 h2
      · rw [if_neg e2] at h2 ⊢
        exact h2
    · rw [if_neg e] at h1
      have q1 := of_decide_eq_false h1
      by_cases e2 : z = y
      · subst e2
        rw [if_neg e]
        exact h1
      · rw [if_neg e2] at h2
        have q2 := of_decide_eq_false h2
        have e3 : z ≠ x := by omega
        rw [if_neg e3]
        exact decide_eq_false (by omega)
/-- a datum's ints, to sort by -/
def D.key' : D → List Int
  | .int i => [i]
  | .tup ds => (D.ints ds).getD []
  | _ => []
def leD (a b : D) : Bool := !lexB b.key' a.key'
def sortD (ds : List D) : List D := ds.mergeSort leD
theorem leD_tr (a b c : D) (h1 : leD a b = true) (h2 : leD b c = true) : leD a c = true := by
  unfold leD at *
  rw [Bool.not_eq_true'] at *
  exact lexB_tr h1 h2
theorem leD_tot (a b : D) : (leD a b || leD b a) = true := by
  unfold leD
  cases h : lexB b.key' a.key' with
  | false => rfl
  | true => rw [lexB_asym h]; rfl
/-- there is just one such list -/
theorem sortD_eq {ds es : List D} (hp : es.Perm ds) (hs : es.Pairwise fun a b => leD a b = true) (hk : ∀ a ∈ ds, ∀ b ∈ ds, a.key' = b.key' → a = b) : es = sortD ds := by
  have m := List.mergeSort_perm ds leD
  refine List.Perm.eq_of_pairwise (le := fun a b => leD a b = true) (fun a b ha hb h1 h2 => ?_) hs (List.pairwise_mergeSort leD_tr leD_tot ds) (hp.trans m.symm)
  refine hk a (hp.subset ha) b (m.subset hb) ?_
  unfold leD at h1 h2
  rw [Bool.not_eq_true'] at h1 h2
  exact lexB_tot h2 h1
theorem RpL.perm {G : Gc} {F : Hp} {xs ys : List V} (h : ys.Perm xs) : ∀ {ds : List D}, RpL G F ds xs → ∃ es, es.Perm ds ∧ RpL G F es ys := by
  induction h with
  | nil => intro ds r; exact ⟨ds, List.Perm.refl _, r⟩
  | cons x p ih =>
    intro ds r
    cases r with
    | cons h1 r1 =>
      obtain ⟨es, q1, q2⟩ := ih r1
      exact ⟨_ :: es, List.Perm.cons _ q1, .cons h1 q2⟩
  | swap x y l =>
    intro ds r
    cases r with
    | cons h1 r1 =>
      cases r1 with
      | cons h2 r2 => exact ⟨_, List.Perm.swap _ _ _, .cons h2 (.cons h1 r2)⟩
  | trans p q ih1 ih2 =>
    intro ds r
    obtain ⟨es, q1, q2⟩ := ih2 r
    obtain ⟨fs, q3, q4⟩ := ih1 q2
    exact ⟨fs, q3.trans q1, q4⟩
end G
namespace G
open PySem L2
def D.isI : D → Bool
  | .int _ => true
  | _ => false
def allI (ds : List D) : Bool := ds.all D.isI
/-- sorted of a list of ints -/
def D.sortI : D → R D
  | .lst ds => if allI ds = true then .ok (.lst (sortD ds)) else .bad
  | _ => .bad
theorem allI_ints : ∀ {ds : List D} {G : Gc} {F : Hp} {vs : List V}, allI ds = true → RpL G F ds vs → ∃ ns : List Int, ds = ns.map D.int ∧ vs = ns.map V.int
  | [], _, _, _, _, .nil => ⟨[], rfl, rfl⟩
  | d :: ds, _, _, _, h, .cons h1 r => by
    have hd : allI ds = true := by unfold allI at h ⊢; rw [List.all_cons, Bool.and_eq_true] at h; exact h.2
    obtain ⟨ns, e1, e2⟩ := allI_ints hd r
    have h0 : d.isI = true := by unfold allI at h; rw [List.all_cons, Bool.and_eq_true] at h; exact h.1
    cases d with
    | int i => cases h1; exact ⟨i :: ns, by rw [e1]; rfl, by rw [e2]; rfl⟩
    | _ => cases h0
theorem ints_rp {G : Gc} {F : Hp} : ∀ ns : List Int, RpL G F (ns.map D.int) (ns.map V.int)
  | [] => .nil
  | n :: ns => .cons (.int n) (ints_rp ns)
theorem le_int {a b : Int} : leD (.int a) (.int b) = decide (a ≤ b) := by
  unfold leD D.key' lexB
  by_cases h : b = a
  · subst h; simp [lexB]
  · rw [if_neg h]
    by_cases h2 : a ≤ b
    · rw [decide_eq_true h2, decide_eq_false (by omega)]; rfl
    · rw [decide_eq_false h2, decide_eq_true (by omega)]; rfl
theorem sortI_ints {ns ns' : List Int} (hp : ns'.Perm ns) (hs : ns'.Pairwise (· ≤ ·)) : ns'.map D.int = sortD (ns.map D.int) := by
  refine sortD_eq (hp.map _) ?_ fun a ha b hb h => ?_
  · rw [List.pairwise_map]
    exact hs.imp fun {a b} h => by rw [le_int]; exact decide_eq_true h
  · obtain ⟨x, _, rfl⟩ := List.mem_map.mp ha
    obtain ⟨y, _, rfl⟩ := List.mem_map.mp hb
    have : x = y := by simpa [D.key'] using h
    rw [this]
section
variable {G : Gc} {W : WX}
theorem pu_sortI : PuCO G W (rSortedI G.K) (d1 D.sortI) := by
  refine pu_c1O (fun {B F0 F H o σ ρ Q v d} rel rv h => ?_)
  cases rv with
  | @lst a vs ds h1 r1 =>
    obtain ⟨c, h⟩ := Res.ifP h
    obtain ⟨ns, e1, e2⟩ := allI_ints c r1
    subst e1 e2
    refine ⟨a, ns, rfl, .inl (.inl (rel.core.fh _ _ h1)), fun ns' l hp hs hl => ?_⟩
    rw [← sortI_ints hp hs] at h
    exact h.newO rel hl (.lst upd_same (ints_rp ns'))
  | _ => exact h.elim
end
end G
/-! E2: sorted of lists of tuples of ints, of any lengths, the first of them the empty one (so that the tongue compares whole tuples). -/
namespace TpL
open PySem PySem.Spec PySem.W PyProof.Rows L2
/-- v is a tuple of these numbers -/
def IsTp (h : Heap) (v : Value) (ns : List Int) : Prop :=
  ∃ (a : Addr) (dd : Option Addr) (items : Array Value) (n : Nat) (sl : Array (Option Value)), v = .ref a ∧ h.get? a = some { cls := .type "tuple", dict := dd, data := .seq items n, slots := sl } ∧ IntsAre items.toList ns
theorem IsTp.keeps {h h' : Heap} {v : Value} {ns : List Int} (x : IsTp h v ns) (k : ∀ b o, v = .ref b → h.get? b = some o → h'.get? b = some o) : IsTp h' v ns := by
  obtain ⟨a, dd, items, n, sl, e, g, i⟩ := x
  exact ⟨a, dd, items, n, sl, e, k _ _ e g, i⟩
theorem IsTp.type {M : Model} {h : Heap} {v : Value} {ns : List Int} (x : IsTp h v ns) : Looks M h (typeOf v) (.type "tuple") := by
  obtain ⟨a, dd, items, n, sl, rfl, g, i⟩ := x
  exact (Looks.ld g).andThen .now
section
variable {prog : Program} {w : World} {A : Around} {E : Value → Shared → Prop} {s : Shared}
theorem lt_tp {v u : Value} {ns ms : List Int} {Q : Bool → Shared → Prop} (hu : A.units < cLine) (hv : IsTp s.heap v ns) (hw : IsTp s.heap u ms) (h : Q (HT.lexLt ns ms) s) : wpAny (model prog w) A (keyLt' oneType' v u) Q E s := by
  obtain ⟨a, dd, items, n, sl, rfl, ga, ia⟩ := hv
  obtain ⟨b, dd2, items2, n2, sl2, rfl, gb, ib⟩ := hw
  rw [keyLt'_oneType, oneLt'_eq]
  simp only [if_true]
  refine wpAny_bind (wpAny_cRoomFor hu ?_)
  refine wpAny_bind (wpAny_callSpecialIfBound?_slot (T := "tuple") ⟨_, ga, rfl⟩ F.slot_tuple_lt (call_meets F.slot_tuple_lt ⟨_, ga, rfl⟩ F.entry_tuple_lt (F.args_tuple_lt_2 _ _) (NtL.nt_lt_ints a b _ _ items items2 n n2 dd dd2 sl sl2 ns ms ia ib) ⟨ga, gb, fun M A' Q' E' s' k q => ?_, ?_⟩))
  · exact wpAny_isInstance (T := "tuple") (U := "tuple") ⟨_, k _ _ gb, rfl⟩ AutoSeq1.sub_tuple_tuple q
  · exact wpAny_truthy_bool h
/-- what list.sort looks at first -/
theorem kind_tp {vs : List Value} {k : Value → List Int} {Q : SortKind → Shared → Prop} (hv : ∀ v ∈ vs, IsTp s.heap v (k v)) (h1 : ∃ v r, vs = v :: r ∧ k v = []) (h : Q oneType' s) : wpAny (model prog w) A (keyKind' vs.toArray) Q E s := by
  obtain ⟨v0, r0, rfl, hk0⟩ := h1
  rw [kat_kind_eq, List.mapM_toArray, map_eq_pure_bind]
  have firsts : ∀ (l : List Value) {P : List (Option Value) → Shared → Prop}, (∀ v ∈ l, IsTp s.heap v (k v)) → (∀ fs : List (Option Value), (∀ v r, l = v :: r → k v = [] → ∃ gs, fs = none :: gs) → P fs s) → wpAny (model prog w) A (l.mapM firstOfTuple') P E s := by
    intro l
    induction l with
    | nil => intro P _ hP; rw [List.mapM_nil]; exact wpAny_pure (hP [] fun v r e => by cases e)
    | cons v l ih =>
      intro P hl hP
      rw [List.mapM_cons]
      have tv := (hl v (.head _)).type (M := model prog w)
      obtain ⟨a, dd, items, n, sl, rfl, ga, ia⟩ := hl v (.head _)
      rw [kas_first_eq]
      refine wpAny_bind (wpAny_bind (tv.here ?_))
      rw [if_neg (by first | decide | simp)]
      refine wpAny_bind (listItems_at ga rfl (wpAny_pure ?_))
      refine wpAny_bind (ih (fun u hu => hl u (.tail _ hu)) fun fs _ => wpAny_pure (hP _ fun v' r' e he => ?_))
      cases e
      rw [he] at ia
      have z : items.toList = [] := by cases hh : items.toList with
        | nil => rfl
        | cons _ _ => rw [hh] at ia; cases ia
      have z2 : items = #[] := by simpa using z
      subst z2
      exact ⟨fs, rfl⟩
  refine wpAny_bind (wpAny_bind (firsts _ hv fun fs hf => wpAny_pure ?_))
  obtain ⟨gs, rfl⟩ := hf v0 r0 rfl hk0
  rw [if_neg (by simp), if_neg (by simp)]
  rw [oneTypeOnly'_eq, List.mapM_toArray, map_eq_pure_bind]
  refine wpAny_bind (wpAny_bind (wpAny_bind (kas_mapM (r := Value.type "tuple") _ (fun v hm Q' hq => ((hv v hm).type (M := model prog w)).here hq) (wpAny_pure ?_))))
  have hall : ((List.map (fun _ => Value.type "tuple") (v0 :: r0)).toArray.all fun x => x == Value.type "tuple") = true := by simp
  have h0 : (List.map (fun _ => Value.type "tuple") (v0 :: r0)).toArray[0]? = some (Value.type "tuple") := by simp
  rw [h0]
  simp only [hall, if_true]
  exact wpAny_pure (wpAny_pure h)
/-- tuples none of which is empty: item by item -/
theorem lexK {b : Bool} {xs ys : List Value} {ns ms : List Int} {Q : Bool → Shared → Prop} (hx : IntsAre xs ns) : ∀ (i : Nat) {ys : List Value} {ms : List Int}, IntsAre ys ms → Q (HT.lexLt ns ms) s → KatLex prog w A b (decide (xs.length < ys.length)) Q (xs.zip ys) i s := by
  induction hx with
  | nil =>
    intro i ys ms hy h
    cases hy with
    | nil => exact kat_nil h
    | cons q u hy => exact kat_nil (by rw [decide_eq_true (by simp)]; exact h)
  | @cons p t xs ns hx ih =>
    intro i ys ms hy h
    cases hy with
    | nil => exact kat_nil (by rw [decide_eq_false (by simp)]; exact h)
    | @cons q u ys ms hy =>
      have el : decide ((Value.int p t :: xs).length < (Value.int q u :: ys).length) = decide (xs.length < ys.length) := by simp only [List.length_cons, Nat.add_lt_add_iff_right]
      rw [el, List.zip_cons_cons]
      refine kat_cons (wpAny_eqBool_int ?_)
      rw [HT.lexLt_cons] at h
      by_cases e : p = q
      · rw [if_pos e] at h
        rw [beq_iff_eq.mpr e]
        exact kat_yes (ih (i + 1) hy h)
      · rw [if_neg e] at h
        rw [show (p == q) = false from beq_eq_false_iff_ne.mpr e]
        exact kat_no (TS.oneLt_ints _ h)
theorem lt_tpN {v u : Value} {ns ms : List Int} {Q : Bool → Shared → Prop} (hv : IsTp s.heap v ns) (hw : IsTp s.heap u ms) (h : Q (HT.lexLt ns ms) s) : wpAny (model prog w) A (keyLt' (tuples' true) v u) Q E s := by
  obtain ⟨a, dd, items, n, sl, rfl, ga, ia⟩ := hv
  obtain ⟨c, dd2, items2, n2, sl2, rfl, gb, ib⟩ := hw
  refine kat_lt ga rfl gb rfl ?_
  have := lexK (prog := prog) (w := w) (A := A) (s := s) (b := true) (ys := []) (ms := []) (Q := Q) ia 0 ib h
  rwa [Array.length_toList, Array.length_toList] at this
theorem kind_tpN {vs : List Value} {k : Value → List Int} {Q : SortKind → Shared → Prop} (hv : ∀ v ∈ vs, IsTp s.heap v (k v)) (h1 : ∀ v ∈ vs, k v ≠ []) (h0 : vs ≠ []) (h : Q (tuples' true) s) : wpAny (model prog w) A (keyKind' vs.toArray) Q E s := by
  have key : ∀ l : List Value, (∀ v ∈ l, IsTp s.heap v (k v)) → (∀ v ∈ l, k v ≠ []) → ∃ fs : List Value, KatTups s.heap l fs ∧ fs.length = l.length ∧ ∀ f ∈ fs, ∃ n t, f = Value.int n t := by
    intro l
    induction l with
    | nil => intro _ _; exact ⟨[], KatTups.nil, rfl, fun _ q => nomatch q⟩
    | cons v l ih =>
      intro hl hk
      obtain ⟨fs, t, e, q⟩ := ih (fun x hx => hl x (.tail _ hx)) fun x hx => hk x (.tail _ hx)
      obtain ⟨a, dd, items, n, sl, rfl, ga, ia⟩ := hl v (.head _)
      have hne := hk _ (.head _)
      cases hi : items.toList with
      | nil => rw [hi] at ia; generalize k (Value.ref a) = z at ia hne; cases ia; exact absurd rfl hne
      | cons f r =>
        have hf : items[0]? = some f := by rw [← Array.getElem?_toList, hi]; rfl
        have hint : ∃ n t, f = Value.int n t := by
          rw [hi] at ia
          generalize k (Value.ref a) = z at ia hne
          cases ia
          exact ⟨_, _, rfl⟩
        exact ⟨f :: fs, KatTups.cons ga rfl rfl hf t, by rw [List.length_cons, List.length_cons, e], fun x hx => (List.mem_cons.mp hx).elim (fun z => by rw [z]; exact hint) (q x)⟩
  obtain ⟨fs, t, e, q⟩ := key vs hv h1
  refine kat_kind (T := .type "int") t (by rw [e]; exact List.length_pos_iff.mpr h0) (fun f hf => ?_) (by decide) (by exact h)
  obtain ⟨n, u, rfl⟩ := q f hf
  exact Looks.now
theorem tp_sortable {a : Addr} {vs : List Value} {k : Value → List Int} (hu : A.units < cLine) (hv : ∀ v ∈ vs, IsTp s.heap v (k v)) (h1 : (∃ v r, vs = v :: r ∧ k v = []) ∨ ((∀ v ∈ vs, k v ≠ []) ∧ vs ≠ [])) (ha : ∀ v ∈ vs, v ≠ .ref a) :
    SrtO.SortableO prog w A s a vs fun v u => HT.lexLt (k v) (k u) := by
  intro h' keep
  have hv' : ∀ v ∈ vs, IsTp h' v (k v) := fun v hm => (hv v hm).keeps fun b o e g => keep b o (fun z => ha v hm (by rw [e, z])) g
  rcases h1 with h1 | ⟨h1, h0⟩
  · refine ⟨oneType', fun Q E hq => kind_tp (s := { s with heap := h' }) hv' h1 hq, fun p q hp hq => ?_⟩
    exact lt_tp (s := { s with heap := h' }) (Q := fun r s' => s' = { s with heap := h' } ∧ r = HT.lexLt (k p.1) (k q.1)) (E := fun _ _ => False) hu (hv' p.1 hp) (hv' q.1 hq) ⟨rfl, rfl⟩
  · refine ⟨tuples' true, fun Q E hq => kind_tpN (s := { s with heap := h' }) hv' h1 h0 hq, fun p q hp hq => ?_⟩
    exact lt_tpN (s := { s with heap := h' }) (Q := fun r s' => s' = { s with heap := h' } ∧ r = HT.lexLt (k p.1) (k q.1)) (E := fun _ _ => False) (hv' p.1 hp) (hv' q.1 hq) ⟨rfl, rfl⟩
end
section
variable {prog : Program} {w : World} {A : Around} {E : Value → Shared → Prop} {s : Shared}
/-- sorted(l), l a list or a tuple -/
theorem sorted_seq {l : Addr} {T : String} {o : Obj} {n : Nat} {vs : List Value} {ltv : Value → Value → Bool} {Q : Value → Shared → Prop} (hT : T = "list" ∨ T = "tuple") (ho : s.heap.get? l = some o) (hc : o.cls = .type T) (hd : o.data = .seq vs.toArray n) (hz : vs.length ≤ sizeLine) (O : SrtO.Swo ltv)
    (hS : 2 ≤ vs.length → ∀ (h₁ : Heap) (a : Addr), h₁.get? a = some (seqObj "list" vs.toArray 0) → (∀ b o, s.heap.get? b = some o → b ≠ a ∧ h₁.get? b = some o) → SrtO.SortableO prog w A.in1.in1 { s with heap := h₁ } a vs ltv)
    (h : ∀ (h' : Heap) (d : Addr) (out : List Value), SrtO.Srtd ltv out → SrtO.Stb ltv out vs → (∀ b o, s.heap.get? b = some o → h'.get? b = some o) → s.heap.get? d = none → (∃ n, h'.get? d = some (seqObj "list" out.toArray n)) → Q (.ref d) { s with heap := h' }) :
    wpAny (model prog w) A (call (.builtin "sorted") [.ref l]) Q E s := by
  refine Calls.call_function_entry kind_sorted plain_sorted entry_sorted (args_sorted1 _) ?_
  unfold Builtin.«sorted»
  refine wpAny_bind (m := checkCount "sorted" 1 1 _) (wpAny_pure ?_)
  refine wpAny_bind (wpAny_collect_seq (T := T) l hT ho hc hd (fun h' keep => ?_) (by simpa using hz))
  rw [List.toList_toArray]
  refine wpAny_bind (wpAny_newList ?_ hz)
  have hoL : (h'.push (seqObj "list" vs.toArray 0)).get? h'.objs.size = some (seqObj "list" vs.toArray 0) := Heap.get?_push_size _ rfl
  have old : ∀ b o, s.heap.get? b = some o → b < h'.objs.size := fun b o q => Heap.lt_size (keep b o q)
  have keep1 : ∀ b o, s.heap.get? b = some o → b ≠ h'.objs.size ∧ (h'.push (seqObj "list" vs.toArray 0)).get? b = some o := fun b o q => ⟨Nat.ne_of_lt (old b o q), Heap.get?_push_of_some _ (keep b o q)⟩
  show wpAny _ _ _ _ _ { s with heap := h'.push (seqObj "list" vs.toArray 0) }
  refine wpAny_bind (wpAny_holding (wpAny_call_entry slot_list_sort ⟨_, hoL, rfl⟩ entry_list_sort (SrtO.list_sort_ord O hoL hz (fun h2 => hS h2 _ _ hoL keep1) fun out hs hb => ⟨_, rfl, ?_⟩) (args_list_sort _)))
  refine wpAny_pure ⟨_, rfl, h _ _ out hs hb (fun b o q => ?_) ?_ ?_⟩
  · rw [sortedHeap_old (Nat.ne_of_lt (old b o q)) (by rw [size_push']; exact Nat.lt_succ_of_lt (old b o q))]
    exact (keep1 b o q).2
  · cases q : s.heap.get? h'.objs.size with
    | none => rfl
    | some o' => exact absurd (old _ _ q) (Nat.lt_irrefl _)
  · exact sortedHeap_at hoL
end
theorem live {P : Program} {w : World} {H : Hp} {h : Heap} {a : Addr} {o : HO} (x : ObjOk P w H h a o) : ∃ u, h.get? a = some u := by
  cases o with
  | lst xs => obtain ⟨z, its, n, r, e⟩ := x; exact ⟨_, e⟩
  | tup xs => obtain ⟨z, its, r, ob, e, c⟩ := x; exact ⟨_, e⟩
  | dK kvs => obtain ⟨z, y, vs, r, ob, es, ep, e, c⟩ := x; exact ⟨_, e⟩
  | dT kvs => obtain ⟨z, y, xs, r, ob, es, ep, e, c⟩ := x; exact ⟨_, e⟩
  | set S n => obtain ⟨ob, es, ep, t, e, c⟩ := x; exact ⟨_, e⟩
  | ins C dx fs => obtain ⟨d, z, ne, e, mA, ⟨od, es, ep, e2, c⟩, r⟩ := x; exact ⟨_, e⟩
  | own y => obtain ⟨ob, e⟩ := x; exact ⟨_, e⟩
  | xd fs => obtain ⟨mA, ⟨od, es, ep, e, c⟩, r⟩ := x; exact ⟨_, e⟩
  | rng lo hi => obtain ⟨t, u, v, e⟩ := x; exact ⟨_, e⟩
  | frz ob u => obtain ⟨e, q⟩ := x; exact ⟨_, e⟩
  | tbl ps => exact ⟨_, x⟩
  | met f y => exact ⟨_, x⟩
  | ext φ => obtain ⟨p, ⟨o, e⟩, st⟩ := x; exact ⟨_, e⟩
theorem none_of {P : Program} {w : World} {H : Hp} {h : Heap} {a : Addr} (x : HOk P w H h) (e : h.get? a = none) : H a = none := by
  cases q : H a with
  | none => rfl
  | some u => obtain ⟨o, z⟩ := live (x a u q); rw [e] at z; cases z
/-- a list or a tuple -/
abbrev SqA (K : Frag) (H : Hp) (a : Addr) (xs : List V) : Prop := SqL K H a xs ∨ SqT K H a xs
section
variable {X : Cx} {pins : List (Addr × Obj)} {σ : L2.St} {H : Hp} {s : Shared}
theorem sqA_of {a : Addr} {xs : List V} (I : Inv X pins σ H s) (h : SqA X.K H a xs) : ∃ (its : List Value) (T : String) (o : Obj) (n : Nat), Vals xs its ∧ (T = "list" ∨ T = "tuple") ∧ s.heap.get? a = some o ∧ o.cls = .type T ∧ o.data = .seq its.toArray n ∧ xs.length ≤ sizeLine := by
  rcases h with h | h
  · obtain ⟨its, rv, ⟨o, n, e, hc, _, hd⟩, hz⟩ := I.list h
    exact ⟨its, _, o, n, rv, .inl rfl, e, hc, hd, hz⟩
  · obtain ⟨its, rv, ⟨o, e, hc, n, hd⟩, hz⟩ := I.tuple h
    exact ⟨its, _, o, n, rv, .inr rfl, e, hc, hd, hz⟩
end
/-- sorted(xs), xs a list or a tuple of ints -/
def rSoI (K : Frag) : List V → Hp → VK → Prop := fun vs H Q => ∃ (a : Addr) (ns : List Int), vs = [V.ref a] ∧ SqA K H a (ns.map V.int) ∧
  ∀ (ns' : List Int) (p : Addr), ns'.Perm ns → ns'.Pairwise (· ≤ ·) → H p = none → Q (.ref p) (upd H p (.lst (ns'.map V.int)))
/-- sorted(xs), xs a list or a tuple of tuples of ints, the first one empty -/
def rSoT (K : Frag) : List V → Hp → VK → Prop := fun vs H Q => ∃ (a : Addr) (xs : List V) (k : V → List Int), vs = [V.ref a] ∧ SqA K H a xs ∧ (∀ x ∈ xs, ∃ t, x = V.ref t ∧ H t = some (.tup ((k x).map V.int))) ∧ (2 ≤ xs.length → (∃ x r, xs = x :: r ∧ k x = []) ∨ ∀ x ∈ xs, k x ≠ []) ∧
  ∀ ys p, ys.Perm xs → ys.Pairwise (fun x y => HT.lexLt (k y) (k x) = false) → H p = none → Q (.ref p) (upd H p (.lst ys))
section
variable {X : Cx}
theorem cr_soI : CallR X (.builtin "sorted") (rSoI X.K) := by
  intro pins s σ H vs us Q I r h
  obtain ⟨a, ns, rfl, hs, q⟩ := h
  obtain ⟨its, T, o, n, rv, hT, ho, hc, hd, hz⟩ := sqA_of I hs
  rw [Vals.ref1 r]
  have hi := rv.ints
  refine sorted_seq hT ho hc hd (by rw [← rv.length]; exact hz) SrtO.swo_int (fun h2 h₁ a' _ _ => SrtO.ints_sortable hi h2) fun h' d out h1 h2 kp hd he => ?_
  obtain ⟨k1, k2, k3⟩ := SrtO.ints_out hi h1 h2
  obtain ⟨ep, he'⟩ := he
  have hlen : ((out.map SrtO.iv).map V.int).length ≤ sizeLine := by
    rw [List.length_map, k2.length_eq]
    rw [List.length_map] at hz
    exact hz
  have hn := none_of I.hok hd
  exact ⟨.ref d, upd H d (.lst ((out.map SrtO.iv).map V.int)), I.laidN (t' := s.toks) kp hd hn ⟨hlen, out, ep, vals_of_ints k1, he'⟩, rfl, q _ _ k2 k3 hn⟩
theorem cr_soT (hu : X.A.units + 65 < cLine) : CallR X (.builtin "sorted") (rSoT X.K) := by
  intro pins s σ H vs us Q I r h
  obtain ⟨a, xs, k, rfl, hs, hx, h1, q⟩ := h
  obtain ⟨its, T, o, n, rv, hT, ho, hc, hd, hz⟩ := sqA_of I hs
  rw [Vals.ref1 r]
  obtain ⟨e1, e2⟩ := refs_back rv fun x m => by
    obtain ⟨t, e, _⟩ := hx x m
    exact ⟨t, e⟩
  have hv : ∀ v ∈ its, IsTp s.heap v (k (backV v)) := fun v hv => by
    obtain ⟨t, rfl⟩ := e2 v hv
    have hm : V.ref t ∈ xs := by rw [e1]; exact List.mem_map.mpr ⟨_, hv, rfl⟩
    obtain ⟨t', e, ht⟩ := hx _ hm
    cases e
    obtain ⟨_, its2, r2, o2, ho2, hc2, n2, hd2⟩ := I.hok _ _ ht
    obtain ⟨c2, dd, da, sl⟩ := o2
    simp only at hc2 hd2
    subst hc2 hd2
    exact ⟨t, dd, _, n2, sl, rfl, ho2, by simpa [backV] using r2.ints⟩
  refine sorted_seq hT ho hc hd (by rw [← rv.length]; exact hz) (NtL.swo_lexL fun u => k (backV u)) (fun h2 h₁ a' ha' kk => ?_) fun h' d out h3 h4 kp hd he => ?_
  · refine tp_sortable (s := { s with heap := h₁ }) (by first | (show X.A.units + 1 + 1 < cLine; omega) | (show X.A.units + 2 < cLine; omega) | (show X.A.units < cLine; omega) | (simp [Around.in1]; omega)) (fun v hm => (hv v hm).keeps fun b o _ e => (kk b o e).2) ?_ fun v hm => ?_
    · rcases h1 (by rw [rv.length]; exact h2) with ⟨x, r, e, hk⟩ | hk
      · left
        cases its with
        | nil => cases rv; cases e
        | cons v its' =>
          rw [e1] at e
          cases e
          exact ⟨v, its', rfl, hk⟩
      · right
        refine ⟨fun v hv2 => hk _ (by rw [e1]; exact List.mem_map.mpr ⟨v, hv2, rfl⟩), fun z => ?_⟩
        rw [z] at h2
        simp at h2
    · obtain ⟨b, dd, items, n3, sl, e, g, _⟩ := hv v hm
      rw [e]
      intro z
      cases z
      exact (kk _ _ g).1 rfl
  · have h5 : ∀ u ∈ out, ∃ a, u = Value.ref a := fun u hu => e2 u (h4.perm.mem_iff.mp hu)
    obtain ⟨n, hn⟩ := he
    have hp : (out.map backV).Perm xs := by rw [e1]; exact h4.perm.map _
    have hno := none_of I.hok hd
    refine ⟨.ref d, upd H d (.lst (out.map backV)), I.laidN (t' := s.toks) kp hd hno ⟨?_, out, n, vals_back h5, hn⟩, rfl, q _ d hp (List.pairwise_map.mpr h3) hno⟩
    rw [hp.length_eq]
    exact hz
end
end TpL
/-! S15: sorted, plain. -/
namespace G
open PySem L2 TpL
theorem lexLt_eq : ∀ xs ys : List Int, HT.lexLt xs ys = lexB xs ys
  | [], [] => by rw [HT.lexLt_nil_nil]; rfl
  | [], _ :: _ => by rw [HT.lexLt_nil_cons]; rfl
  | _ :: _, [] => by rw [HT.lexLt_cons_nil]; rfl
  | x :: xs, y :: ys => by
    rw [HT.lexLt_cons, lexLt_eq xs ys]
    rfl
/-- a list's or a tuple's items -/
def D.items : D → Option (List D)
  | .lst ds => some ds
  | .tup ds => some ds
  | _ => none
def D.isTI : D → Bool
  | .tup ds => allI ds
  | _ => false
def D.isP : D → Bool
  | .tup [.int _, .int _] => true
  | _ => false
def D.sortI' (d : D) : R D := match d.items with
  | some ds => if allI ds = true then .ok (.lst (sortD ds)) else .bad
  | none => .bad
def headE : List D → Bool
  | d :: _ :: _ => d.key' == []
  | _ => true
def D.sortT (d : D) : R D := match d.items with
  | some ds => if (ds.all D.isTI && (headE ds || ds.all fun d => d.key' != [])) = true then .ok (.lst (sortD ds)) else .bad
  | none => .bad
def D.sortP : D → R D
  | .lst ds => if ds.all D.isP = true then .ok (.lst (sortD ds)) else .bad
  | _ => .bad
def intV : V → Option Int
  | .int i => some i
  | _ => none
def kF (F : Hp) : V → List Int
  | .ref t => match F t with
    | some (.tup vs) => vs.filterMap intV
    | _ => []
  | _ => []
theorem filt_ints : ∀ ns : List Int, (ns.map V.int).filterMap intV = ns
  | [] => rfl
  | n :: ns => by rw [List.map_cons, List.filterMap_cons]; show n :: _ = _; rw [filt_ints ns]
theorem ints_mapD : ∀ ns : List Int, D.ints (ns.map D.int) = some ns
  | [] => rfl
  | n :: ns => by
    show D.ints (D.int n :: ns.map D.int) = _
    unfold D.ints
    rw [ints_mapD ns]
    rfl
section
variable {G : Gc} {W : WX} {F : Hp}
theorem tI_of {d : D} {v : V} (h : d.isTI = true) (r : Rp G F d v) : ∃ t, v = .ref t ∧ F t = some (.tup ((kF F v).map V.int)) ∧ kF F v = d.key' ∧ d = .tup ((kF F v).map D.int) := by
  cases r with
  | @tup a vs ds h1 r1 =>
    obtain ⟨ns, e1, e2⟩ := allI_ints h r1
    subst e1 e2
    have ek : kF F (.ref a) = ns := by
      show (match F a with | some (.tup vs) => vs.filterMap intV | _ => []) = ns
      rw [h1]
      exact filt_ints ns
    rw [ek]
    refine ⟨a, rfl, h1, ?_, rfl⟩
    show ns = (D.ints (ns.map D.int)).getD []
    rw [ints_mapD]; rfl
  | _ => cases h
theorem keys_of : ∀ {ds : List D} {vs : List V}, ds.all D.isTI = true → RpL G F ds vs → vs.map (kF F) = ds.map D.key'
  | [], _, _, .nil => rfl
  | d :: ds, _, h, .cons h1 r => by
    rw [List.all_cons, Bool.and_eq_true] at h
    obtain ⟨t, _, _, e, _⟩ := tI_of h.1 h1
    rw [List.map_cons, List.map_cons, keys_of h.2 r, e]
theorem mem_of : ∀ {ds : List D} {vs : List V} {v : V}, RpL G F ds vs → v ∈ vs → ∃ d, d ∈ ds ∧ Rp G F d v
  | _, _, _, .nil, h => by cases h
  | _ :: _, _, _, .cons h1 r, h => by
    rcases List.mem_cons.mp h with e | h
    · subst e; exact ⟨_, .head _, h1⟩
    · obtain ⟨d, q1, q2⟩ := mem_of r h
      exact ⟨d, .tail _ q1, q2⟩
theorem sortT_out {ds : List D} {xs ys : List V} (h : ds.all D.isTI = true) (r : RpL G F ds xs) (hp : ys.Perm xs) (hs : ys.Pairwise fun x y => lexB (kF F y) (kF F x) = false) : RpL G F (sortD ds) ys := by
  obtain ⟨es, q1, q2⟩ := RpL.perm hp r
  have he : es.all D.isTI = true := by
    rw [List.all_eq_true] at h ⊢
    exact fun d hd => h d (q1.mem_iff.mp hd)
  have k := keys_of he q2
  have s1 : (ys.map (kF F)).Pairwise fun a b => lexB b a = false := List.pairwise_map.mpr hs
  rw [k] at s1
  have s2 := List.pairwise_map.mp s1
  have e := sortD_eq q1 (s2.imp fun {a b} z => by unfold leD; rw [z]; rfl) fun a ha b hb hk => by
    rw [List.all_eq_true] at h
    have ia := h a ha
    have ib := h b hb
    cases a with
    | tup as =>
      cases b with
      | tup bs =>
        have key : ∀ cs : List D, allI cs = true → ∃ ns : List Int, cs = ns.map D.int := fun cs => by
          induction cs with
          | nil => exact fun _ => ⟨[], rfl⟩
          | cons c cs ih =>
            intro z
            unfold allI at z
            rw [List.all_cons, Bool.and_eq_true] at z
            obtain ⟨ns, e⟩ := ih z.2
            cases c with
            | int i => exact ⟨i :: ns, by rw [e]; rfl⟩
            | _ => cases z.1
        obtain ⟨ns, e1⟩ := key as ia
        obtain ⟨ms, e2⟩ := key bs ib
        subst e1 e2
        have z : (D.ints (ns.map D.int)).getD [] = (D.ints (ms.map D.int)).getD [] := hk
        rw [ints_mapD, ints_mapD] at z
        rw [show ns = ms from z]
      | _ => cases ib
    | _ => cases ia
  rw [← e]
  exact q2
theorem items_of {B F0 F H : Hp} {o : List Nat} {σ : L2.St} {ρ : Env} {d : D} {v : V} {ds : List D} (rel : Rel G B F0 F H o σ ρ) (rv : Rp G F d v) (h : d.items = some ds) : ∃ a vs, v = .ref a ∧ SqA G.K H a vs ∧ RpL G F ds vs := by
  cases rv with
  | @lst a vs ds h1 r1 => cases h; exact ⟨a, vs, rfl, .inl (.inl (.inl (rel.core.fh _ _ h1))), r1⟩
  | @tup a vs ds h1 r1 => cases h; exact ⟨a, vs, rfl, .inr (.inl (.inl (rel.core.fh _ _ h1))), r1⟩
  | _ => cases h
theorem pu_sortI' : PuCO G W (rSoI G.K) (d1 D.sortI') := by
  refine pu_c1O (fun {B F0 F H o σ ρ Q v d} rel rv h => ?_)
  unfold D.sortI' at h
  cases hd : d.items with
  | none => rw [hd] at h; exact h.elim
  | some ds =>
    rw [hd] at h
    obtain ⟨c, h⟩ := Res.ifP h
    obtain ⟨a, vs, rfl, hs, r1⟩ := items_of rel rv hd
    obtain ⟨ns, e1, e2⟩ := allI_ints c r1
    subst e1 e2
    refine ⟨a, ns, rfl, hs, fun ns' l hp hso hl => ?_⟩
    rw [← sortI_ints hp hso] at h
    exact h.newO rel hl (.lst upd_same (ints_rp ns'))
theorem pu_sortT : PuCO G W (rSoT G.K) (d1 D.sortT) := by
  refine pu_c1O (fun {B F0 F H o σ ρ Q v d} rel rv h => ?_)
  unfold D.sortT at h
  cases hd : d.items with
  | none => rw [hd] at h; exact h.elim
  | some ds =>
    rw [hd] at h
    obtain ⟨c, h⟩ := Res.ifP h
    obtain ⟨ca, ch⟩ := (Bool.and_eq_true _ _).mp c
    obtain ⟨a, vs, rfl, hs, r1⟩ := items_of rel rv hd
    refine ⟨a, vs, kF F, rfl, hs, fun x hx => ?_, fun h2 => ?_, fun ys l hp hso hl => ?_⟩
    · obtain ⟨d, m, rd⟩ := mem_of r1 hx
      obtain ⟨t, e, f, _, _⟩ := tI_of (List.all_eq_true.mp ca d m) rd
      exact ⟨t, e, rel.core.fh _ _ f⟩
    · rcases (Bool.or_eq_true _ _).mp ch with ch | ch
      · left
        cases r1 with
        | nil => cases h2
        | @cons d v ds vs q1 q2 =>
          refine ⟨v, vs, rfl, ?_⟩
          obtain ⟨t, e, f, ek, _⟩ := tI_of (List.all_eq_true.mp ca d (.head _)) q1
          rw [ek]
          cases q2 with
          | nil => exact absurd h2 (by simp)
          | cons _ _ => exact eq_of_beq ch
      · right
        intro x hx
        obtain ⟨d, m, rd⟩ := mem_of r1 hx
        obtain ⟨t, e, f, ek, _⟩ := tI_of (List.all_eq_true.mp ca d m) rd
        rw [ek]
        have z := List.all_eq_true.mp ch d m
        intro q
        rw [q] at z
        cases z
    · exact h.newO rel hl (.lst upd_same (sortT_out ca r1 hp (hso.imp fun {x y} z => by rw [← lexLt_eq]; exact z)))
theorem pu_sortP : PuCO G W (rSortedPO G.K) (d1 D.sortP) := by
  refine pu_c1O (fun {B F0 F H o σ ρ Q v d} rel rv h => ?_)
  cases rv with
  | @lst a vs ds h1 r1 =>
    obtain ⟨c, h⟩ := Res.ifP h
    have ca : ds.all D.isTI = true := by
      rw [List.all_eq_true] at c ⊢
      intro d hd
      have z := c d hd
      unfold D.isP at z
      split at z
      · rfl
      · cases z
    refine ⟨a, vs, fun v => ((kF F v).getD 0 0, (kF F v).getD 1 0), rfl, .inl (.inl (rel.core.fh _ _ h1)), fun x hx => ?_, fun ys l hs hb hl => ?_⟩
    · obtain ⟨d, m, rd⟩ := mem_of r1 hx
      have z := List.all_eq_true.mp c d m
      obtain ⟨t, e, f, _, ed⟩ := tI_of (List.all_eq_true.mp ca d m) rd
      refine ⟨t, e, ?_⟩
      rw [ed] at z
      have f' := rel.core.fh _ _ f
      show H t = some (.tup [.int ((kF F x).getD 0 0), .int ((kF F x).getD 1 0)])
      generalize kF F x = ks at z f'
      match ks, z, f' with
      | [i, j], _, f' => exact f'
    · refine h.newO rel hl (.lst upd_same (sortT_out ca r1 hb.perm ?_))
      have two : ∀ y ∈ ys, ∃ i j, kF F y = [i, j] := fun y hy => by
        obtain ⟨d, m, rd⟩ := mem_of r1 (hb.perm.mem_iff.mp hy)
        have z := List.all_eq_true.mp c d m
        obtain ⟨t, e, f, _, ed⟩ := tI_of (List.all_eq_true.mp ca d m) rd
        rw [ed] at z
        generalize hk : kF F y = ks at z
        match ks, z with
        | [i, j], _ => exact ⟨i, j, rfl⟩
      refine List.Pairwise.imp_of_mem (fun {x y} hx hy z => ?_) hs
      obtain ⟨i, j, e1⟩ := two x hx
      obtain ⟨k, l, e2⟩ := two y hy
      have z' : SrtO.lexB ((kF F y).getD 0 0, (kF F y).getD 1 0) ((kF F x).getD 0 0, (kF F x).getD 1 0) = false := z
      rw [e1, e2] at z' ⊢
      have q := SrtO.lexB_no.mp z'
      simp only [List.getD_cons_zero, List.getD_cons_succ] at q
      unfold lexB
      by_cases h1 : k = i
      · rw [if_pos h1]
        unfold lexB
        by_cases h2 : l = j
        · rw [if_pos h2]; rfl
        · rw [if_neg h2]
          exact decide_eq_false (by omega)
      · rw [if_neg h1]
        exact decide_eq_false (by omega)
  | _ => exact h.elim
end
end G
/-! S16: range as a value, [::-1], list.remove, a comprehension over what is lent. -/
namespace G
open PySem L2
def rgC (a b : Int) : Bool := rangeOk a b && decide ((b - a).toNat ≤ 2 ^ 24)
theorem rgC_of {a b : Int} (h : rgC a b = true) : RgOk a b := by
  unfold rgC at h
  rw [Bool.and_eq_true] at h
  obtain ⟨h1, h2, h3, h4⟩ := rangeOk_of h.1
  exact ⟨h1, h2, h3, h4, of_decide_eq_true h.2⟩
theorem rg_rp {G : Gc} {F : Hp} (a b : Int) : RpL G F (rangeD a b) (rgV a b) := by
  unfold rangeD rgV
  generalize (b - a).toNat = n
  generalize List.range n = l
  induction l with
  | nil => exact .nil
  | cons x l ih => exact .cons (.int _) ih
def dRgT (a b : Int) : R D := if rgC a b = true then .ok (.tup (rangeD a b)) else .bad
def dRgL (a b : Int) : R D := if rgC a b = true then .ok (.lst (rangeD a b)) else .bad
def mRg1 (f : Int → Int → R D) (m : Env → R D) : Env → R D := fun ρ => (m ρ).bind fun x => match x with
  | .int n => f 0 n
  | _ => .bad
def mRg2 (f : Int → Int → R D) (m n : Env → R D) : Env → R D := fun ρ => (m ρ).bind fun x => (n ρ).bind fun y => match x, y with
  | .int i, .int j => f i j
  | _, _ => .bad
section
variable {G : Gc} {W : WX} {o o1 o2 oL : List Nat} {ta tb : TE} {ma mb : Env → R D}
theorem PuE.tupRg1 (ha : PuE G W o ta o1 ma) : PuE G W o (tTupRg (tRg1 ta)) o1 (mRg1 dRgT ma) := by
  intro B F0 F H σ ρ Q rel h
  refine ha rel ((Res.bnd h).imp fun d F1 H1 e1 r1 q v rv => ?_)
  cases rv with
  | int n =>
    obtain ⟨c, q⟩ := Res.ifP q
    exact ⟨n, rfl, rgC_of c, fun p hp => q.new r1 hp fun F' le e => .tup e (rg_rp 0 n)⟩
  | _ => exact q.elim
theorem PuE.tupRg2 (ha : PuE G W o ta o1 ma) (hb : PuE G W o1 tb o2 mb) : PuE G W o (tTupRg (tRg2 ta tb)) o2 (mRg2 dRgT ma mb) := by
  intro B F0 F H σ ρ Q rel h
  refine ha rel ((Res.bnd h).imp fun d F1 H1 e1 r1 q v rv => ?_)
  refine hb r1 ((Res.bnd q).imp fun d2 F2 H2 e2 r2 q w rw => ?_)
  cases rv with
  | int i =>
    cases rw with
    | int j =>
      obtain ⟨c, q⟩ := Res.ifP q
      exact ⟨i, j, rfl, rfl, rgC_of c, fun p hp => q.new r2 hp fun F' le e => .tup e (rg_rp i j)⟩
    | _ => exact q.elim
  | _ => cases rw <;> exact q.elim
theorem PuO.lstRg1 (ha : PuE G W o ta o1 ma) : PuO G W o (tLstRg (tRg1 ta)) o1 (mRg1 dRgL ma) := by
  intro B F0 F H σ ρ Q rel h
  refine ha rel ((Res.bnd h).imp fun d F1 H1 e1 r1 q v rv => ?_)
  cases rv with
  | int n =>
    obtain ⟨c, q⟩ := Res.ifP q
    exact ⟨n, rfl, rgC_of c, fun p hp => q.newO r1 hp (.lst upd_same (rg_rp 0 n))⟩
  | _ => exact q.elim
theorem PuO.lstRg2 (ha : PuE G W o ta o1 ma) (hb : PuE G W o1 tb o2 mb) : PuO G W o (tLstRg (tRg2 ta tb)) o2 (mRg2 dRgL ma mb) := by
  intro B F0 F H σ ρ Q rel h
  refine ha rel ((Res.bnd h).imp fun d F1 H1 e1 r1 q v rv => ?_)
  refine hb r1 ((Res.bnd q).imp fun d2 F2 H2 e2 r2 q w rw => ?_)
  cases rv with
  | int i =>
    cases rw with
    | int j =>
      obtain ⟨c, q⟩ := Res.ifP q
      exact ⟨i, j, rfl, rfl, rgC_of c, fun p hp => q.newO r2 hp (.lst upd_same (rg_rp i j))⟩
    | _ => exact q.elim
  | _ => cases rw <;> exact q.elim
theorem RpL.rev {F : Hp} {ds : List D} {vs : List V} (h : RpL G F ds vs) : RpL G F ds.reverse vs.reverse := by
  have go : ∀ {ds : List D} {vs : List V}, RpL G F ds vs → RpL G F ds.reverse vs.reverse := fun {ds} => by
    induction ds with
    | nil => intro vs r; cases r; exact .nil
    | cons d ds ih =>
      intro vs r
      cases r with
      | cons h1 r1 => rw [List.reverse_cons, List.reverse_cons]; exact (ih r1).append (.cons h1 .nil)
  exact go h
def D.revL : D → R D
  | .lst ds => .ok (.lst ds.reverse)
  | .scr ds => .ok (.lst ds.reverse)
  | _ => .bad
theorem PuO.revL (ha : PuE G W o ta o1 ma) : PuO G W o (tRevL G.K ta) o1 (m1 D.revL ma) := by
  intro B F0 F H σ ρ Q rel h
  refine ha rel ((Res.bnd h).imp fun d F1 H1 e1 r1 q v rv => ?_)
  cases rv with
  | @lst a vs ds h1 r2 => exact ⟨a, vs, rfl, .inl (.inl (r1.core.fh _ _ h1)), fun p hp => q.newO r1 hp (.lst upd_same (RpL.rev r2))⟩
  | @scr a vs ds h1 r2 => exact ⟨a, vs, rfl, r1.sqL h1, fun p hp => q.newO r1 hp (.lst upd_same (RpL.rev r2))⟩
  | _ => exact q.elim
end
section
variable {Γ : Gc} {X : Cx} [hG : HG Γ X] {W : WX} {o o1 o2 oL : List Nat} {a b c e elt tg iter : Expr} {ifs : List Expr} {x : Str} {p p2 pos py spos : Pos} {ta tb te : TE} {ma mb me : Env → R D} {wi : TI} {g : TG} {mi : Env → R (List D)} {mg : D → Env → R Env} {tt : TT} {mt : Env → R Bool}
theorem me_tupRg1 (hr : X.mg "range" = none) (ht : X.mg "tuple" = none) (hc : X.calm = true) (ha : ME Γ X W o a o1 ta ma) (hg : Gl X "range" := by rfl) (hg2 : Gl X "tuple" := by rfl) (na : starEach [a] X.env = (false, eval a X.env) :: starEach [] X.env := by rfl) (nb : starEach [.Call (.Name "range" p) [a] [] pos] X.env = (false, eval (.Call (.Name "range" p) [a] [] pos) X.env) :: starEach [] X.env := by rfl) :
    ME Γ X W o (.Call (.Name "tuple" p2) [.Call (.Name "range" p) [a] [] pos] [] py) o1 (tTupRg (tRg1 ta)) (mRg1 dRgT ma) := by
  obtain ⟨eG⟩ := hG
  subst eG
  exact ⟨pe_tupRg hc hg2 ht (prg_1 hg hr ha.pe na) nb, PuE.tupRg1 ha.pu⟩
theorem mo_lstRg1 (hr : X.mg "range" = none) (ht : X.mg "list" = none) (hc : X.calm = true) (ha : ME Γ X W o a o1 ta ma) (hg : Gl X "range" := by rfl) (hg2 : Gl X "list" := by rfl) (na : starEach [a] X.env = (false, eval a X.env) :: starEach [] X.env := by rfl) (nb : starEach [.Call (.Name "range" p) [a] [] pos] X.env = (false, eval (.Call (.Name "range" p) [a] [] pos) X.env) :: starEach [] X.env := by rfl) :
    MO Γ X W o (.Call (.Name "list" p2) [.Call (.Name "range" p) [a] [] pos] [] py) o1 (tLstRg (tRg1 ta)) (mRg1 dRgL ma) := by
  obtain ⟨eG⟩ := hG
  subst eG
  exact ⟨pe_listRg hc hg2 ht (prg_1 hg hr ha.pe na) nb, PuO.lstRg1 ha.pu⟩
theorem me_tupRg2 (hr : X.mg "range" = none) (ht : X.mg "tuple" = none) (hc : X.calm = true) (ha : ME Γ X W o a o1 ta ma) (hb : ME Γ X W o1 b o2 tb mb) (hg : Gl X "range" := by rfl) (hg2 : Gl X "tuple" := by rfl) (na : starEach [a, b] X.env = (false, eval a X.env) :: starEach [b] X.env := by rfl) (nc : starEach [b] X.env = (false, eval b X.env) :: starEach [] X.env := by rfl) (nd : (backTo pos (starEach [b] X.env)).any (·.1) = false := by rfl) (nb : starEach [.Call (.Name "range" p) [a, b] [] pos] X.env = (false, eval (.Call (.Name "range" p) [a, b] [] pos) X.env) :: starEach [] X.env := by rfl) :
    ME Γ X W o (.Call (.Name "tuple" p2) [.Call (.Name "range" p) [a, b] [] pos] [] py) o2 (tTupRg (tRg2 ta tb)) (mRg2 dRgT ma mb) := by
  obtain ⟨eG⟩ := hG
  subst eG
  exact ⟨pe_tupRg hc hg2 ht (prg_2 hg hr ha.pe hb.pe na nc nd) nb, PuE.tupRg2 ha.pu hb.pu⟩
theorem mo_lstRg2 (hr : X.mg "range" = none) (ht : X.mg "list" = none) (hc : X.calm = true) (ha : ME Γ X W o a o1 ta ma) (hb : ME Γ X W o1 b o2 tb mb) (hg : Gl X "range" := by rfl) (hg2 : Gl X "list" := by rfl) (na : starEach [a, b] X.env = (false, eval a X.env) :: starEach [b] X.env := by rfl) (nc : starEach [b] X.env = (false, eval b X.env) :: starEach [] X.env := by rfl) (nd : (backTo pos (starEach [b] X.env)).any (·.1) = false := by rfl) (nb : starEach [.Call (.Name "range" p) [a, b] [] pos] X.env = (false, eval (.Call (.Name "range" p) [a, b] [] pos) X.env) :: starEach [] X.env := by rfl) :
    MO Γ X W o (.Call (.Name "list" p2) [.Call (.Name "range" p) [a, b] [] pos] [] py) o2 (tLstRg (tRg2 ta tb)) (mRg2 dRgL ma mb) := by
  obtain ⟨eG⟩ := hG
  subst eG
  exact ⟨pe_listRg hc hg2 ht (prg_2 hg hr ha.pe hb.pe na nc nd) nb, PuO.lstRg2 ha.pu hb.pu⟩
theorem mo_revL {k : Nat} {p1 p3 : Pos} (ha : ME Γ X W o e o1 ta ma) : MO Γ X W o (.Subscript e (.Slice none none (some (.UnaryOp .USub (.Constant (.int 1) k p1) p2)) p3) pos) o1 (tRevL Γ.K ta) (m1 D.revL ma) := by
  obtain ⟨eG⟩ := hG
  subst eG
  exact ⟨pe_revL ha.pe, PuO.revL ha.pu⟩
theorem m_remove : Mtd Γ X "list" "remove" "list.remove" rRemI dRemove := ⟨PySem.F.plainAttrs_list, PySem.F.slot_list_remove, PySem.F.type_list_remove, mt_remove, pm_remove⟩
/-- .. where an own slot is lent to the comprehension -/
theorem ms_setLcB (i : Nat) {scope : Scope} (s0 : Shared) (H0 : Hp) (j : Nat) (own : List (Str × Nat)) (hc : X.calm = true) (hN : X.N.Nodup) (hi : MI Γ X W (o.filter (· != j)) tg iter (o.filter (· != j)) wi mi) (ok : blkC X.N X.env.scope scope own = true)
    (hg : ∀ (s : Shared) (H : Hp) (C : Addr) (cl : List (Str × Addr)) (fp : List Addr), MG Γ (B0 X scope s H C cl fp) (o.filter (· != j)) tg (o.filter (· != j)) g mg)
    (ht : ∀ (s : Shared) (H : Hp) (C : Addr) (cl : List (Str × Addr)) (fp : List Addr), MTs Γ (B0 X scope s H C cl fp) WN (o.filter (· != j)) ifs tt mt)
    (he : ∀ (s : Shared) (H : Hp) (C : Addr) (cl : List (Str × Addr)) (fp : List Addr), ME Γ (B0 X scope s H C cl fp) WN (o.filter (· != j)) elt (o.filter (· != j)) te me)
    (hw : GW g mg (own.map (·.2))) (hj : j ∈ o := by decide) (hv : ∀ i, i ∈ own.map (·.2) → i ∉ (o.filter (· != j)) := by decide) (hs : ∀ x, foldedSetIterable iter X.env x = pure x := by intro _; rfl) 
    (hy : X.N[i]? = some x := by rfl) (hyl : X.env.scope.names.lookup x = some .local := by rfl) (hsw : swapsWith (.ListComp elt [⟨tg, iter, ifs, 0⟩] scope pos) (some (.Name x py)) spos.line X.env = pure true := by rfl) :
    MS Γ X W oL o (.Assign [.Name x py] (.ListComp elt [⟨tg, iter, ifs, 0⟩] scope pos) spos) (i :: o.filter (· != i)) (tAsg (tLc wi g tt te (own.map (·.2))) (gName i)) (mSet i (mScalL (mLc (own.map (·.2)) mi mg mt me))) := by
  obtain ⟨eG⟩ := hG
  subst eG
  exact ⟨ps_setLc hc hN hy hyl hsw hi.pe (blkOk_by ok) (fun s H C cl fp => (hg s H C cl fp).pe) (fun s H C cl fp => (ht s H C cl fp).pe) (fun s H C cl fp => (he s H C cl fp).pe) hs,
    PuS.setO (PuO.borrow j hj (PuO.lc hi.pu hv hw (hg s0 H0 0 [] []).pu (ht s0 H0 0 [] []).pu (he s0 H0 0 [] []).pu))⟩
end
end G
/-! S17: the end of a law. -/
namespace G
open PySem L2
theorem law_end {K : PySem.W.Frag} {mg : Str → Option Value} {H : Hp} {a : Addr} {ns : List Int} {fn : List D → R D} (hS : SqL K H a (ns.map V.int)) (h : fn [.scr (ns.map D.int)] = .ok (.bl true)) : spM ⟨K, mg⟩ 1 fn [.ref a] H (fun v _ => v = .bl true) fun _ _ _ => False :=
  ⟨H, [.scr (ns.map D.int)], fun _ _ q => q, .cons (.scr hS (ints_rp ns)) .nil, rfl, by
    rw [h]
    intro F' H' v _ _ _ _ rv
    cases rv
    rfl⟩
end G
/-! E4: xs.index(k) over ints. -/
namespace G
open PySem L2
def D.indexI (ds : List D) : List D → R D
  | [.int k] => (match D.ints ds with
    | some ns => if k ∈ ns then .ok (.int (ns.idxOf k : Nat)) else .bad
    | none => .bad)
  | _ => .bad
def mIndex (a : Env → R D) (ms : Env → R (List D)) : Env → R D := fun ρ => (a ρ).bind fun x => match x with
  | .lst ds => (ms ρ).bind fun xs => D.indexI ds xs
  | _ => .bad
theorem before_ix {ns : List Int} {k : Int} {j : Nat} (h : j < ns.idxOf k) (h2 : j < ns.length) : ns[j] ≠ k := by
  have h3 := List.not_of_lt_findIdx (p := fun y => y == k) (xs := ns) (i := j) h
  intro e
  rw [e] at h3
  simp at h3
section
variable {Γ : Gc} {W : WX} {o o1 o2 : List Nat} {to : TE} {ts : TA} {mo : Env → R D} {ms : Env → R (List D)}
theorem PuE.index {K : PySem.W.Frag} (hK : Γ.K = K) (ho : PuE Γ W o to o1 mo) (ha : PuA Γ W o1 ts o2 ms) : PuE Γ W o (tBM K "list" (rIndex K) to ts) o2 (mIndex mo ms) := by
  subst hK
  intro B F0 F H σ ρ Q rel h
  refine ho rel ((Res.bnd h).imp fun d F1 H1 e1 r1 q v rv => ?_)
  cases rv with
  | @lst a vs ds h1 hr =>
    refine ⟨.inl ⟨rfl, vs, .inl (.inl (r1.core.fh _ _ h1))⟩, ?_⟩
    refine ha r1 ((Res.bnd (f := fun xs => D.indexI ds xs) q).imp fun xs F2 H2 e2 r2 q2 ws rws => ?_)
    match xs, q2, rws with
    | [.int k], z2, .cons (.int _) .nil =>
      unfold D.indexI at z2
      dsimp only at z2
      cases hn : D.ints ds with
      | none => rw [hn] at z2; exact z2.elim
      | some ns =>
        rw [hn] at z2
        dsimp only at z2
        by_cases hk : k ∈ ns
        · rw [if_pos hk] at z2
          have ed := ints_eq hn
          subst ed
          have ev := RpL.intsV hr
          subst ev
          have hj : ns.idxOf k < ns.length := List.idxOf_lt_length_iff.mpr hk
          refine ⟨a, ns.map V.int, .int k, ns.idxOf k, .int k, rfl, rfl, .inl (.inl (r2.core.fh _ _ (e2.le.ex _ _ rfl h1))), rfl, ?_, ?_, ?_, fun m z' hm hz => ?_, z2.here r2 (.int _)⟩
          · rw [List.all_map, List.all_eq_true]; exact fun _ _ => rfl
          · rw [List.getElem?_map, List.getElem?_eq_getElem hj, List.getElem_idxOf hj]; rfl
          · show (k == k) = true
            exact beq_self_eq_true k
          · rw [List.getElem?_map, List.getElem?_eq_getElem (by omega)] at hz
            cases hz
            show (ns[m]'(by omega) == k) = false
            exact beq_eq_false_iff_ne.mpr (before_ix hm (by omega))
        · rw [if_neg hk] at z2; exact z2.elim
    | [], z2, _ => exact z2.elim
    | [.non], z2, _ => exact z2.elim
    | [.bl _], z2, _ => exact z2.elim
    | [.str _], z2, _ => exact z2.elim
    | [.tup _], z2, _ => exact z2.elim
    | [.lst _], z2, _ => exact z2.elim
    | [.dic _ _ _], z2, _ => exact z2.elim
    | [.iset _], z2, _ => exact z2.elim
    | [.fn _], z2, _ => exact z2.elim
    | [.scr _], z2, _ => exact z2.elim
    | [.ktup _], z2, _ => exact z2.elim
    | [.ty _], z2, _ => exact z2.elim
    | y :: _ :: _, z2, _ => cases y <;> exact z2.elim
  | _ => exact q.elim
end
section
variable {Γ : Gc} {X : Cx} [hG : HG Γ X] {W : WX} {o o1 o2 : List Nat} {oe e : Expr} {es : List Expr} {apos cpos : Pos} {to : TE} {ts : TA} {mo : Env → R D} {ms : Env → R (List D)}
theorem me_index (ho : ME Γ X W o oe o1 to mo) (ha : MA Γ X W o1 (e :: es) o2 ts ms)
    (h1 : attributeBase oe "index" X.env (eval oe X.env) = eval oe X.env := by rfl)
    (h2 : ((backTo cpos (starEach (e :: es) X.env)).all (fun x => !x.1) && (backToKw cpos (keywordEach [] X.env)).all (fun x => x.1.isSome) && decide ((e :: es).length + ([] : List Keyword).length + (if ([] : List Keyword).isEmpty then 0 else 1) < 30)) = true := by rfl)
    (h3 : (apos.endLine == cpos.line) = true := by rfl) (h4 : starEach (e :: es) X.env = (false, eval e X.env) :: starEach es X.env := by rfl) (h5 : (backTo cpos (starEach es X.env)).any (·.1) = false := by rfl) :
    ME Γ X W o (.Call (.Attribute oe "index" apos) (e :: es) [] cpos) o2 (tBM Γ.K "list" (rIndex Γ.K) to ts) (mIndex mo ms) := by
  obtain ⟨eG⟩ := hG
  subst eG
  exact ⟨pe_bm PySem.F.plainAttrs_list PySem.F.slot_list_index PySem.F.type_list_index mt_index ho.pe ha.pe h1 h2 h3 h4 h5, PuE.index rfl ho.pu ha.pu⟩
end
end G
/-! E5: heads with one more Bool; dict displays, dict comprehensions, d[k] += e, != of dicts, constants of the module that are tuples. -/
namespace G
open PySem L2
/-! ### the head's Hook with one more Bool -/
section
open He
def obsEG (n : Nat) (fa : List Fa) (fn : List DefD) (ex : PySem.W.Frag → Bool) (g : Addr → Option Obj) : AlD × Bool := (obsDG n fa fn g, ex (frG g (asD g n)))
def hookE (n : Nat) (fa : List Fa) (fn : List DefD) (ex : PySem.W.Frag → Bool) : PySem.W.Hook :=
  ⟨AlD × Bool, fun s => obsEG n fa fn ex s.heap.get?, fun _ => (valD fn, true), fun _ h => ∃ K : PySem.W.Frag, K.In h ∧ SaysD fa fn K ∧ ex K = true,
    fun _ s e => ⟨frG s.heap.get? (asD s.heap.get? n), frG_in, congrArg (fun z : AlD × Bool => z.1) e, congrArg (fun z : AlD × Bool => z.2) e⟩,
    fun _ _ _ h k => h.elim fun K c => ⟨K, PySem.W.Frag.In.keeps c.1 k, c.2⟩⟩
theorem obsEG_eq {n : Nat} {fa : List Fa} {fn : List DefD} {ex : PySem.W.Frag → Bool} {g : Addr → Option Obj} {s : Shared} (h : ∀ a, g a = s.heap.get? a) : obsEG n fa fn ex g = (hookE n fa fn ex).obs s := by
  cases (funext h : g = s.heap.get?)
  rfl
end
/-! ### keys -/
def D.kk : D → Option Key
  | .int i => some (.inl i)
  | .str x => some (.inr x)
  | _ => none
theorem kk_of {F : Hp} {Γ : Gc} {d : D} {v : V} {j : Key} (r : Rp Γ F d v) (h : d.kk = some j) : v = kV j := by
  cases r <;> cases h <;> rfl
def RpP (Γ : Gc) (F : Hp) (ps : List (D × D)) (vs : List (V × V)) : Prop := RpL Γ F (ps.map fun p => p.1) (vs.map fun p => p.1) ∧ RpL Γ F (ps.map fun p => p.2) (vs.map fun p => p.2)
def PuP2 (Γ : Gc) (W : WX) (o : List Nat) (trs : List (TE × TE)) (o' : List Nat) (m : Env → R (List (D × D))) : Prop :=
  ∀ {B F0 F H : Hp} {σ : L2.St} {ρ : Env} {Q : List (V × V) → Hp → Prop}, Rel Γ B F0 F H o σ ρ → Res Γ W B F0 F H o' σ ρ (fun ps F' H' => ∀ vs, RpP Γ F' ps vs → Q vs H') (m ρ) → tPairs trs σ H Q
def mPNil : Env → R (List (D × D)) := fun _ => .ok []
def mPCons (k v : Env → R D) (r : Env → R (List (D × D))) : Env → R (List (D × D)) := fun ρ => (k ρ).bind fun x => (v ρ).bind fun y => (r ρ).bind fun ps => .ok ((x, y) :: ps)
def keysP : List (D × D) → Option (List (Key × D))
  | [] => some []
  | (k, d) :: r => match k.kk, keysP r with
    | some j, some ks => some ((j, d) :: ks)
    | _, _ => none
def dmergeG (ps : List (Key × D)) (acc : List DK × List D) : List DK × List D := ps.foldl (fun acc p => dput acc.1 acc.2 (dkK p.1) p.2) acc
def mDisp (m : Env → R (List (D × D))) : Env → R D := fun ρ => (m ρ).val.bind fun ps => match keysP ps with
  | some kd => if kd.length ≤ 15 then .ok (.dic false (dmergeG kd ([], [])).1 (dmergeG kd ([], [])).2) else .bad
  | none => .bad
section
variable {Γ : Gc} {W : WX} {o o1 o2 o3 oL : List Nat} {tk tv : TE} {mk mv : Env → R D} {trs : List (TE × TE)} {mp : Env → R (List (D × D))}
theorem PuP2.nil : PuP2 Γ W o [] o mPNil := fun {_ _ F H _ _ _} r q => q F H (Gr.refl F H) r [] ⟨.nil, .nil⟩
theorem PuP2.cons (hk : PuE Γ W o tk o1 mk) (hv : PuE Γ W o1 tv o2 mv) (hr : PuP2 Γ W o2 trs o3 mp) : PuP2 Γ W o ((tk, tv) :: trs) o3 (mPCons mk mv mp) := by
  intro B F0 F H σ ρ Q rel h
  refine hk rel ((Res.bnd h).imp fun x F1 H1 e1 r1 q1 v rv => ?_)
  refine hv r1 ((Res.bnd q1).imp fun y F2 H2 e2 r2 q2 w rw' => ?_)
  refine hr r2 ((Res.bnd q2).imp fun ps F3 H3 e3 r3 q3 vs rvs => ?_)
  exact q3 F3 H3 (Gr.refl F3 H3) r3 ((v, w) :: vs) ⟨.cons ((rv.mono e2.le).mono e3.le) rvs.1, .cons (rw'.mono e3.le) rvs.2⟩
theorem merge_map {F : Hp} : ∀ (ps : List (Key × D)) (vs : List V) (js : List Key) (us : List V) (ds : List D), js.length = us.length → RpL Γ F ds us → RpL Γ F (ps.map fun p => p.2) vs →
    ∃ (ks : List Key) (ws : List V), mergeK (js.zip us) ((ps.map fun p => p.1).zip vs) = ks.zip ws ∧ ks.length = ws.length ∧ RpL Γ F (dmergeG ps (js.map dkK, ds)).2 ws ∧ (dmergeG ps (js.map dkK, ds)).1 = ks.map dkK
  | [], _, js, us, ds, hl, r, _ => ⟨js, us, rfl, hl, r, rfl⟩
  | (k, d) :: ps, _, js, us, ds, hl, r, .cons (v := v) (vs := vs) h q => by
    obtain ⟨js', us', p1, p2, p3, p4⟩ := put_map dkK (fun _ _ => dkK_inj) k h js us ds hl r
    obtain ⟨ks, ws, q1, q2, q3, q4⟩ := merge_map ps vs js' us' (dput (js.map dkK) ds (dkK k) d).2 p2 p3 q
    refine ⟨ks, ws, ?_, q2, ?_, ?_⟩
    · show mergeK (putK (js.zip us) k v) _ = _
      rw [p1]
      exact q1
    · show RpL Γ F (dmergeG ps (dput (js.map dkK) ds (dkK k) d)).2 ws
      rw [← p4] at q3
      exact q3
    · show (dmergeG ps (dput (js.map dkK) ds (dkK k) d)).1 = _
      rw [← p4] at q4
      exact q4
theorem keysP_of {F : Hp} : ∀ {ps : List (D × D)} {vs : List (V × V)} {kd : List (Key × D)}, keysP ps = some kd → RpP Γ F ps vs → kd.map (fun p => p.2) = ps.map (fun p => p.2) ∧ kd.length = vs.length ∧ vs = ((kd.map fun p => p.1).zip (vs.map fun p => p.2)).map (fun kv => (kV kv.1, kv.2))
  | [], vs, kd, h, r => by
    cases h
    cases vs with
    | nil => exact ⟨rfl, rfl, rfl⟩
    | cons _ _ => cases r.1
  | (k, d) :: ps, vs, kd, h, r => by
    cases vs with
    | nil => cases r.1
    | cons v vs =>
      obtain ⟨r1, r2⟩ := r
      cases r1 with
      | cons a1 a2 =>
        cases r2 with
        | cons b1 b2 =>
          unfold keysP at h
          cases hk : k.kk with
          | none => rw [hk] at h; cases h
          | some j =>
            cases hp : keysP ps with
            | none => rw [hk, hp] at h; cases h
            | some ks =>
              rw [hk, hp] at h
              cases h
              obtain ⟨q1, q2, q3⟩ := keysP_of hp ⟨a2, b2⟩
              refine ⟨by rw [List.map_cons, List.map_cons, q1], by rw [List.length_cons, List.length_cons, q2], ?_⟩
              rw [List.map_cons, List.map_cons, List.zip_cons_cons, List.map_cons, ← q3]
              have := kk_of a1 hk
              obtain ⟨v1, v2⟩ := v
              dsimp only at this ⊢
              rw [this]
theorem PuO.disp (hp : PuP2 Γ W o trs o1 mp) : PuO Γ W o (tDisp trs) o1 (mDisp mp) := by
  intro B F0 F H σ ρ Q rel h p hpn
  unfold mDisp at h
  cases hm : mp ρ with
  | exc c z => rw [hm] at h; exact h.elim
  | bad => rw [hm] at h; exact h.elim
  | ok ps =>
    rw [hm] at h
    have h' : Res Γ W B F0 F H o1 σ ρ (kO Γ B o1 σ ρ Q) (match keysP ps with | some kd => if kd.length ≤ 15 then .ok (.dic false (dmergeG kd ([], [])).1 (dmergeG kd ([], [])).2) else .bad | none => .bad) := h
    cases hk : keysP ps with
    | none => rw [hk] at h'; exact h'.elim
    | some kd =>
      rw [hk] at h'
      obtain ⟨h15, h'⟩ := Res.ifP h'
      obtain ⟨r1, fD, bD, apD⟩ := rel.laidOwn (u := .dK []) hpn
      have f0D : F0 p = none := by
        cases z : F0 p with
        | none => rfl
        | some w => exact absurd bD (r1.core.f0 p (by rw [z]; simp))
      refine hp (r1.guard upd_same fD apD) ?_
      rw [hm]
      intro F' H' g r' vs rv
      obtain ⟨x1, x2, x3, x4⟩ := r'.unguard bD f0D r1.core.f0 (fun _ z => by cases z)
      obtain ⟨q1, q2, q3⟩ := keysP_of hk rv
      have rv2 := rv.2
      rw [← q1] at rv2
      obtain ⟨ks, ws, y1, y2, y3, y4⟩ := merge_map (Γ := Γ) kd (vs.map fun p => p.2) [] [] [] rfl .nil rv2
      refine ⟨x2, (kd.map fun p => p.1).zip (vs.map fun p => p.2), q3, ?_, ?_⟩
      · rw [List.length_zip, List.length_map, List.length_map]; omega
      · have ez : mergeK [] ((kd.map fun p => p.1).zip (vs.map fun p => p.2)) = ks.zip ws := y1
        have y3' : RpL Γ F' (dmergeG kd ([], [])).2 ws := y3
        have y4' : (dmergeG kd ([], [])).1 = ks.map dkK := y4
        rw [ez]
        rw [y4'] at h'
        refine h' F' (upd H' p (.dK (ks.zip ws))) ⟨g.le, fun b u z => ?_⟩ (x1.chg x3 bD x4) p (.dicK upd_same y2 y3') x3 bD x4
        have hb : b ≠ p := ne_of_none z hpn
        rw [upd_ne hb]
        exact g.same b u (by rw [upd_ne hb]; exact z)
end
/-! ### a dict comprehension -/
def dcD (mg : D → Env → R Env) (mt : Env → R Bool) (mk mv : Env → R D) : List D → Env → List DK × List D → R (List DK × List D)
  | [], _, acc => .ok acc
  | d :: ds, ρ, acc => (mg d ρ).val.bind fun ρ' => (mt ρ').val.bind fun b => bif b then (mk ρ').val.bind fun k => (mv ρ').val.bind fun v => (match k.kk with
    | some j => dcD mg mt mk mv ds ρ (dput acc.1 acc.2 (dkK j) v)
    | none => .bad) else dcD mg mt mk mv ds ρ acc
def mDc (vs : List Nat) (mi : Env → R (List D)) (mg : D → Env → R Env) (mt : Env → R Bool) (mk mv : Env → R D) : Env → R D := fun ρ =>
  (mi ρ).bind fun ds => if ds.length ≤ sizeLine then (dcD mg mt mk mv ds (wipeD ρ vs) ([], [])).val.bind fun acc => .ok (.dic false acc.1 acc.2) else .bad
section
variable {Γ : Gc} {W W1 : WX} {o : List Nat} {wi : TI} {g : TG} {tt : TT} {tk tv : TE} {mi : Env → R (List D)} {mg : D → Env → R Env} {mt : Env → R Bool} {mk mv : Env → R D}
theorem dput_len (ks : List DK) (ds : List D) (j : DK) (e : D) : (dput ks ds j e).1.length ≤ ks.length + 1 := by
  unfold dput
  split
  · exact Nat.le_succ _
  · rw [List.length_append, List.length_singleton]; exact Nat.le_refl _
theorem PuO.dc {vs : List Nat} (hi : PuI Γ W o wi o mi) (hv : ∀ i, i ∈ vs → i ∉ o) (hw : GW g mg vs) (hg : PuG Γ o g o mg) (ht : PuT Γ W1 o tt o mt) (hk : PuE Γ W1 o tk o mk) (hval : PuE Γ W1 o tv o mv) : PuO Γ W o (tDc wi g tt tk tv vs) o (mDc vs mi mg mt mk mv) := by
  intro B F0 F H σ ρ Q rel h
  refine hi rel ((Res.bnd h).imp fun ds F1 H1 e1 r1 q J Y p hpn => ?_)
  obtain ⟨hz, q⟩ := Res.ifP q
  obtain ⟨fin, hfin, q⟩ : ∃ fin, dcD mg mt mk mv ds (wipeD ρ vs) ([], []) = .ok fin ∧ Res Γ W B F0 F1 H1 o σ ρ (kO Γ B o σ ρ Q) (.ok (.dic false fin.1 fin.2)) := by
    cases hl : dcD mg mt mk mv ds (wipeD ρ vs) ([], []) with
    | ok xs => rw [hl] at q; exact ⟨xs, rfl, q⟩
    | exc c p => rw [hl] at q; exact q.elim
    | bad => rw [hl] at q; exact q.elim
  obtain ⟨r1D, fD, bD, apD⟩ := r1.laidOwn (u := .dK []) hpn
  have f0D : F0 p = none := by
    cases z : F0 p with
    | none => rfl
    | some w => exact absurd bD (r1.core.f0 p (by rw [z]; simp))
  have sD : Same H1 (upd H1 p (.dK [])) := fun b u z => by rw [upd_ne (ne_of_none z hpn)]; exact z
  let Inv : Nat → Hp → Prop := fun i H' => ∃ (F' : Hp) (js : List Key) (us : List V) (ds' : List D), Le F1 F' ∧ Same H1 H' ∧ Rel Γ B F0 F' H' o (wipe σ vs) (wipeD ρ vs) ∧ H' p = some (.dK (js.zip us)) ∧ js.length = us.length ∧ js.length ≤ i ∧ RpL Γ F' ds' us ∧ F' p = none ∧ Apart o (wipe σ vs) (wipeD ρ vs) p ∧
    dcD mg mt mk mv (ds.drop i) (wipeD ρ vs) (js.map dkK, ds') = .ok fin
  have apW : Apart o (wipe σ vs) (wipeD ρ vs) p := fun i d h1 h2 h3 => by
    have hi : i ∉ vs := fun z => hv i z h1
    rw [wipeD_get, if_neg fun z => hi z.1] at h2
    rw [wipe_get, if_neg fun z => hi z.1] at h3
    exact apD i d h1 h2 h3
  refine ⟨fun i m H' => m = ds.length - i ∧ i ≤ ds.length ∧ Inv i H', ⟨ds.length, by simp, Nat.zero_le _, F1, [], [], [], Le.refl F1, sD, r1D.wiped vs, upd_same, rfl, Nat.le_refl _, .nil, fD, apW, by simpa using hfin⟩, ?_⟩
  rintro i m H' ⟨rfl, hle, F', js, us, ds', le, sm, r', hacc, hlen, hji, racc, fD', ap', hrest⟩
  obtain ⟨y1, y2, y3⟩ := Y F' H' le r'.core.fh
  by_cases hlt : i < ds.length
  · have hd : ds[i]? = some ds[i] := List.getElem?_eq_getElem hlt
    rw [List.drop_eq_getElem_cons hlt] at hrest
    have hrest' : (mg ds[i] (wipeD ρ vs)).val.bind (fun ρ' => (mt ρ').val.bind fun b => bif b then (mk ρ').val.bind fun k => (mv ρ').val.bind fun v => (match k.kk with
      | some j => dcD mg mt mk mv (ds.drop (i + 1)) (wipeD ρ vs) (dput (js.map dkK) ds' (dkK j) v)
      | none => .bad) else dcD mg mt mk mv (ds.drop (i + 1)) (wipeD ρ vs) (js.map dkK, ds')) = .ok fin := hrest
    obtain ⟨ρ2, hm1, hm2⟩ := R.bind_eq hrest'
    obtain ⟨b, hb1, hb2⟩ := R.bind_eq hm2
    have hm1 := R.val_ok hm1
    have hb1 := R.val_ok hb1
    have hwd : wipeD ρ2 vs = wipeD ρ vs := (hw.2 _ _ _ hm1).trans (wipeD_wipeD ρ vs)
    refine .inr ⟨y1 i hlt, Inv (i + 1), fun H2 I2 => ⟨ds.length - (i + 1), by omega, rfl, hlt, I2⟩, fun x H3 hy => ?_⟩
    obtain ⟨F3, g3, f3, n3, rv⟩ := y3 i ds[i] x H3 hd hy
    have r3 := r'.grow g3.le f3 g3.same n3
    have h3D := g3.same p _ hacc
    have fD3 : F3 p = none := by
      cases z : F3 p with
      | none => rfl
      | some w =>
        rcases n3 p (by rw [z]; simp) with z | z | ⟨xs, z⟩
        · exact absurd fD' z
        · rw [hacc] at z; cases z
        · rw [hacc] at z; cases z
    have r3g := r3.guard h3D fD3 ap'
    have rw1 : wipe (wipe σ vs) vs = wipe σ vs := wipe_wipe σ vs
    have key := hw.1 x (wipe σ vs) H3 (fun σ2 H2 => tt σ2 H2 fun b H3 => if b = true then tk σ2 H3 fun y H4 => tv σ2 H4 fun z H5 => ∃ kvs k, y = kV k ∧ H5 p = some (.dK kvs) ∧ kvs.length < sizeLine ∧ Inv (i + 1) (upd H5 p (.dK (putK kvs k z))) else Inv (i + 1) H3)
    rw [rw1] at key
    refine key (hg r3g rv ⟨ρ2, hm1, fun σ2 r2 hwip => ht r2 ?_⟩)
    rw [hb1]
    intro F4 H4 g4 r4
    have back : ∀ {F5 H5 : Hp}, Gr F3 H3 F5 H5 → Rel Γ (upd B p (.dK (js.zip us))) F0 F5 H5 o σ2 ρ2 → Le F1 F5 ∧ Same H1 H5 ∧ Rel Γ B F0 F5 H5 o (wipe σ vs) (wipeD ρ vs) ∧ H5 p = some (.dK (js.zip us)) ∧ F5 p = none ∧ Apart o (wipe σ vs) (wipeD ρ vs) p := fun {F5 H5} g5 r5 => by
      obtain ⟨x1, x2, x3, x4⟩ := r5.unguard bD f0D r3.core.f0 (fun _ z => by cases z)
      have w1 := x1.wiped vs
      rw [hwip, hwd] at w1
      exact ⟨(le.trans g3.le).trans g5.le, (sm.trans g3.same).trans g5.same, w1, x2, x3, fun j f z1 z2 z3 => ap' j f z1 z2 z3⟩
    cases b with
    | false =>
      obtain ⟨z1, z2, z3, z4, z5, z6⟩ := back g4 r4
      exact ⟨F4, js, us, ds', z1, z2, z3, z4, hlen, by omega, (racc.mono g3.le).mono g4.le, z5, z6, hb2⟩
    | true =>
      have hb2' : (mk ρ2).val.bind (fun k => (mv ρ2).val.bind fun v => (match k.kk with
        | some j => dcD mg mt mk mv (ds.drop (i + 1)) (wipeD ρ vs) (dput (js.map dkK) ds' (dkK j) v)
        | none => .bad)) = .ok fin := hb2
      obtain ⟨k, hk1, hk2⟩ := R.bind_eq hb2'
      obtain ⟨v, hv1, hv2⟩ := R.bind_eq hk2
      have hk1 := R.val_ok hk1
      have hv1 := R.val_ok hv1
      refine hk r4 ?_
      rw [hk1]
      intro F5 H5 g5 r5 yv ry
      refine hval r5 ?_
      rw [hv1]
      intro F6 H6 g6 r6 zv rz
      obtain ⟨z1, z2, z3, z4, z5, z6⟩ := back ((g4.trans g5).trans g6) r6
      cases hkk : k.kk with
      | none => rw [hkk] at hv2; cases hv2
      | some j =>
        rw [hkk] at hv2
        have racc6 := (((racc.mono g3.le).mono g4.le).mono g5.le).mono g6.le
        obtain ⟨js', us', p1, p2, p3, p4⟩ := put_map dkK (fun _ _ => dkK_inj) j rz js us ds' hlen racc6
        have hl1 := dput_len (js.map dkK) ds' (dkK j) v
        have e4 : (dput (js.map dkK) ds' (dkK j) v).1.length = js'.length := by rw [p4, List.length_map]
        have ep : dput (js.map dkK) ds' (dkK j) v = (js'.map dkK, (dput (js.map dkK) ds' (dkK j) v).2) := by rw [← p4]
        refine ⟨js.zip us, j, kk_of ry hkk, z4, ?_, F6, js', us', (dput (js.map dkK) ds' (dkK j) v).2, z1, fun c u w => ?_, z3.chg z5 bD z6, by rw [upd_same, p1], p2, by rw [List.length_map] at hl1; omega, p3, z5, z6, by rw [← ep]; exact hv2⟩
        · rw [List.length_zip, ← hlen, Nat.min_self]; omega
        · have hc : c ≠ p := ne_of_none w hpn
          rw [upd_ne hc]
          exact z2 c u w
  · have e : i = ds.length := by omega
    subst e
    rw [List.drop_length] at hrest
    cases hrest
    exact .inl ⟨y2, q F' H' ⟨le, sm⟩ (r1.unwipe r' le hv) p (.dicK hacc hlen racc) fD' bD apD⟩
end
/-! ### d[k] += e, d the frame's own -/
def mDAug (i : Nat) (f : Int → Int → Int) (mk mv : Env → R D) : Env → Out := fun ρ => match ρ[i]? with
  | some (some (.dic t ks ds)) => oBind (mk ρ) ρ fun j => (match j.key with
    | some k => if isKind t k = true ∧ ks.length < sizeLine then (match dget ks ds k with
      | some (.int x) => oBind (mv ρ) ρ fun e => (match e with
        | .int y => .nx (ρ.set i (some (.dic t (dput ks ds k (.int (f x y))).1 (dput ks ds k (.int (f x y))).2)))
        | _ => .bad)
      | _ => .bad) else .bad
    | none => .bad)
  | _ => .bad
end G
/-! E6: the derivation rules for E5's dicts. -/
namespace G
open PySem L2 PyProof.Rows
section
variable {X : Cx}
/-- y = {k: v for ..} -/
theorem ps_setDc {i : Nat} {y : Str} {py : Pos} {kx vx tg iter : Expr} {ifs : List Expr} {scope : Scope} {own : List (Str × Nat)} {pos spos : Pos} {wi : TI} {g : TG} {tt : TT} {tk tv : TE} (hc : X.calm = true) (hN : X.N.Nodup) (hy : X.N[i]? = some y) (hyl : X.env.scope.names.lookup y = some .local)
    (hsw : swapsWith (.DictComp kx vx [⟨tg, iter, ifs, 0⟩] scope pos) (some (.Name y py)) spos.line X.env = pure true) (hi : PI X tg iter wi) (ok : BlkOk X.N X.env.scope scope own)
    (hg : ∀ (s : Shared) (H : Hp) (C : Addr) (cl : List (Str × Addr)) (fp : List Addr), PG (X.blk s H scope (compEnvC scope cl C X.env) fp) tg g)
    (ht : ∀ (s : Shared) (H : Hp) (C : Addr) (cl : List (Str × Addr)) (fp : List Addr), PTs (X.blk s H scope (compEnvC scope cl C X.env) fp) ifs tt)
    (hk : ∀ (s : Shared) (H : Hp) (C : Addr) (cl : List (Str × Addr)) (fp : List Addr), PE (X.blk s H scope (compEnvC scope cl C X.env) fp) kx tk)
    (hv : ∀ (s : Shared) (H : Hp) (C : Addr) (cl : List (Str × Addr)) (fp : List Addr), PE (X.blk s H scope (compEnvC scope cl C X.env) fp) vx tv) (hs : ∀ x, foldedSetIterable iter X.env x = pure x := by intro _; rfl) :
    PS X (.Assign [.Name y py] (.DictComp kx vx [⟨tg, iter, ifs, 0⟩] scope pos) spos) (tAsg (tDc wi g tt tk tv (own.map (·.2))) (gName i)) := by
  constructor
  intro pins s σ H D I h
  rw [exec_Assign_Name_used _ _ _ _ hsw]
  apply wpAny_bind; apply wpAny_standAt; apply wpAny_bind
  show wpAny _ X.A (do let _ ← comprehension (.DictComp kx vx [⟨tg, iter, ifs, 0⟩] scope pos) scope X.env (firstIterPos [⟨tg, iter, ifs, 0⟩] pos) newDict false (eval iter X.env) (some (assign (.Name y py) X.env))) _ _ s
  have h2 : tDc wi g tt tk tv (own.map (·.2)) σ H (fun x H1 => gName i x σ H1 D.nx) := h
  apply wpAny_bind
  refine thn (dc_core (Qf := fun _ z => SP X pins D .next z) hc hN I hi ok hg ht hk hv hs h2 fun L C t m K I2 q hn f => ?_) fun _ z hz => wpAny_pure (wpAny_pure hz)
  show wpAny _ _ (assign (.Name y py) X.env (.ref L)) _ _ _
  apply wpAny_assign_Name
  refine store_ok2 (v := V.ref L) I2 hN hy (.inl hyl) rfl (fun z I3 w => ?_) (.inr hyl)
  obtain ⟨a, sb, ha⟩ := w
  have hCa : C ≠ a := by
    rcases ha with e | e
    · rw [e]; exact f.2.1
    · exact fun e' => f.2.2.2.2.1 y a e e'.symm
  exact ⟨m, hn.sameBut sb hCa, fun k sb2 => ⟨_, K, I3.turned (t' := z.toks) (fun b u hb e => (sb2.2 b hb).trans e) f.1 f.2.1 f.2.2.2.1 f.2.2.2.2.1 f.2.2.2.2.2, q⟩⟩
/-- dicts with the same pairs -/
def rNeDR : R2 := fun x y H Q => ∃ a b ks ls, x = .ref a ∧ y = .ref b ∧ Rd H a (.dK ks) ∧ Rd H b (.dK ls) ∧ ks.length = ls.length ∧ (∀ p ∈ ks, valV ls p.1 = some p.2 ∧ flatB p.2 = true) ∧ Q (.bl false) H
theorem op_neDR (hu : X.A.units < cLine) : OpR X (compareOp .NotEq) rNeDR := by
  intro pins s σ H x y v u Q I rx ry h
  obtain ⟨a, b, ks, ls, e1, e2, ea, eb, hlen, hp, q⟩ := h
  subst e1 e2
  cases rx
  cases ry
  obtain ⟨_, ya, va, ra, da⟩ := dk_rd I.hok ea
  obtain ⟨_, yb, vb, rb, db⟩ := dk_rd I.hok eb
  have hl : va.length = vb.length := ra.length.symm.trans (hlen.trans rb.length)
  exact PySem.W.keq_ne (knd := mixKind X.prog X.w) (r := true) ya yb da db hu (fun _ => hits_all rb ra hp) (fin_bl I q (by simp [hl]))
end
/-- the same pairs, flat values -/
def sameDic (ks : List DK) (ds : List D) (ls : List DK) (es : List D) : Bool := decide (ks.length = ls.length) && ((ks.zip ds).all fun p => (match dget ls es p.1 with
  | some (.int j) => (match p.2 with
    | .int i => decide (i = j)
    | _ => false)
  | _ => false))
def D.neK : D → D → R D
  | .dic false ks ds, .dic false ls es => if sameDic ks ds ls es = true then .ok (.bl false) else .bad
  | _, _ => .bad
section
variable {Γ : Gc} {W : WX} {o o1 o2 oL : List Nat}
theorem zip_mem : ∀ {ks : List Key} {vs : List V} {ds : List D} {F : Hp} {p : Key × V}, ks.length = vs.length → RpL Γ F ds vs → p ∈ ks.zip vs → ∃ d, (dkK p.1, d) ∈ (ks.map dkK).zip ds ∧ Rp Γ F d p.2
  | [], _, _, _, _, _, _, h => by cases h
  | _ :: _, [], _, _, _, _, _, h => by cases h
  | k :: ks, v :: vs, d :: ds, F, p, hl, .cons h r, hm => by
    rw [List.zip_cons_cons] at hm
    rcases List.mem_cons.mp hm with e | hm
    · subst e
      exact ⟨d, by rw [List.map_cons, List.zip_cons_cons]; exact .head _, h⟩
    · obtain ⟨d', q1, q2⟩ := zip_mem (by simpa using hl) r hm
      exact ⟨d', by rw [List.map_cons, List.zip_cons_cons]; exact .tail _ q1, q2⟩
theorem pu_neK : PuR2 Γ W rNeDR D.neK := by
  intro B F0 F H o σ ρ Q v w a b rel ra rb h
  cases ra with
  | @dicK p js us ds h1 hl1 r1 =>
    cases rb with
    | @dicK q ls ws es h2 hl2 r2 =>
      obtain ⟨c, h⟩ := Res.ifP h
      unfold sameDic at c
      rw [Bool.and_eq_true] at c
      have hlen := of_decide_eq_true c.1
      rw [List.length_map, List.length_map] at hlen
      refine ⟨p, q, js.zip us, ls.zip ws, rfl, rfl, rel.rd h1, rel.rd h2, by rw [List.length_zip, List.length_zip, ← hl1, ← hl2, Nat.min_self, Nat.min_self, hlen], fun x hx => ?_, h.here rel (.bl _)⟩
      obtain ⟨d, m, rd⟩ := zip_mem hl1 r1 hx
      have z := List.all_eq_true.mp c.2 _ m
      dsimp only at z
      rcases dk_get (k := x.1) hl2 r2 with ⟨_, y2⟩ | ⟨v', d', y1, y2, y3⟩
      · rw [y2] at z; cases z
      · rw [y2] at z
        cases d' with
        | int j =>
          cases d with
          | int i =>
            have e := of_decide_eq_true (show decide (i = j) = true from z)
            subst e
            obtain ⟨x1, x2⟩ := x
            cases y3
            cases rd
            exact ⟨y1, rfl⟩
          | _ => cases z
        | _ => cases d <;> cases z
    | _ => exact h.elim
  | _ => cases rb <;> exact h.elim
theorem own_get {F H : Hp} {t : Bool} {ks : List DK} {ds : List D} {a : Addr} {y : V} {j d : D} {k : DK} (ow : Own Γ F H (.dic t ks ds) a) (fh : ∀ a u, F a = some u → H a = some u) (rj : Rp Γ F j y) (hk : j.key = some k) (ht : isKind t k = true) (hg : dget ks ds k = some d) : ∃ v, DGet H a y (some v) ∧ Rp Γ F d v := by
  cases ow with
  | @dicK _ js vs _ h1 hl r1 =>
    rcases key_of fh rj hk with ⟨i, rfl, rfl⟩ | ⟨_, _, rfl, _⟩
    · rcases dk_get (k := i) hl r1 with ⟨_, x2⟩ | ⟨v, e, x1, x2, x3⟩
      · rw [x2] at hg; cases hg
      · rw [x2] at hg; cases hg
        exact ⟨v, .inl ⟨_, i, .inl h1, rfl, x1.symm⟩, x3⟩
    · cases ht
  | @dicT _ js vs _ h1 hl r1 =>
    rcases key_of fh rj hk with ⟨i, rfl, rfl⟩ | ⟨ks', b, rfl, rfl, hb⟩
    · cases i <;> cases ht
    · rcases dt_get (k := ks') hl r1 with ⟨_, x2⟩ | ⟨v, e, x1, x2, x3⟩
      · rw [x2] at hg; cases hg
      · rw [x2] at hg; cases hg
        exact ⟨v, .inr ⟨_, ks', b, .inl h1, rfl, hb, x1.symm⟩, x3⟩
/-- d[k] += e -/
theorem PuS.daug {i : Nat} {tk tv : TE} {mk mv : Env → R D} (hi0 : i ∈ o) (hi1 : i ∈ o1) (hi2 : i ∈ o2) (hk : PuE Γ W o tk o1 mk) (hv : PuE Γ W o1 tv o2 mv) : PuS Γ W oL o (sDAug (tVar i) tk tv rAdd) o2 (mDAug i (fun x y => x + y) mk mv) := by
  intro B F0 F H σ ρ X rel h
  unfold mDAug at h
  cases hρ : ρ[i]? with
  | none => rw [hρ] at h; exact h.elim
  | some z =>
    cases z with
    | none => rw [hρ] at h; exact h.elim
    | some d =>
      cases d with
      | dic t ks ds =>
        rw [hρ] at h
        dsimp only at h
        obtain ⟨a, q1, _⟩ := rel.ow i _ hρ hi0
        refine ⟨.ref a, q1, hk rel ((Post.res h).imp fun j F1 H1 e1 r1 p y rj => ?_)⟩
        cases hj : j.key with
        | none => rw [hj] at p; exact p.elim
        | some k =>
          rw [hj] at p
          obtain ⟨⟨c1, c2⟩, p⟩ := Post.ifP p
          cases hg : dget ks ds k with
          | none => rw [hg] at p; exact p.elim
          | some x =>
            rw [hg] at p
            cases x with
            | int x =>
              dsimp only at p
              obtain ⟨b, q2, ow, _⟩ := r1.ow i _ hρ hi1
              rw [q1] at q2
              cases q2
              obtain ⟨v, g1, g2⟩ := own_get ow r1.core.fh rj hj c1 hg
              cases g2
              refine ⟨a, .int x, rfl, g1, hv r1 ((Post.res p).imp fun e F2 H2 e2 r2 p2 w rw' => ?_)⟩
              cases rw' with
              | int y' =>
                refine ⟨x, y', rfl, rfl, ?_⟩
                exact dput_end (N := X.nx) r2 hi2 hρ q1 (rj.mono e2.le) (.int (x + y')) hj c1 c2 fun H' r' => p2 F2 H' σ (Le.refl F2) r'
              | _ => exact p2.elim
            | _ => exact p.elim
      | _ => rw [hρ] at h; exact h.elim
end
/-! ### the rules -/
structure MPr (Γ : Gc) (X : Cx) (W : WX) (o : List Nat) (pos : Pos) (ks : List (Option Expr)) (vs : List Expr) (o' : List Nat) (trs : List (TE × TE)) (m : Env → R (List (D × D))) : Prop where
  pe : PPs X pos ks vs trs
  pu : PuP2 Γ W o trs o' m
section
variable {Γ : Gc} {X : Cx} [hG : HG Γ X] {W : WX} {o o1 o2 o3 oL : List Nat} {a b c e tg iter kx vx : Expr} {ks : List (Option Expr)} {vs : List Expr} {ifs : List Expr} {x : Str} {p p2 p3 pos py spos tpos : Pos} {ta tb te tk tv : TE} {ma mb me mk mv : Env → R D} {wi : TI} {g : TG} {mi : Env → R (List D)} {mg : D → Env → R Env} {tt : TT} {mt : Env → R Bool} {trs : List (TE × TE)} {mp : Env → R (List (D × D))}
theorem mpr_nil : MPr Γ X W o pos [] [] o [] mPNil := by
  obtain ⟨eG⟩ := hG
  subst eG
  exact ⟨pps_nil, PuP2.nil⟩
theorem mpr_cons (hk : ME Γ X W o a o1 tk mk) (hv : ME Γ X W o1 b o2 tv mv) (hr : MPr Γ X W o2 pos ks vs o3 trs mp) : MPr Γ X W o pos (some a :: ks) (b :: vs) o3 ((tk, tv) :: trs) (mPCons mk mv mp) := by
  obtain ⟨eG⟩ := hG
  subst eG
  exact ⟨pps_cons hk.pe hv.pe hr.pe, PuP2.cons hk.pu hv.pu hr.pu⟩
theorem mo_disp (h : MPr Γ X W o pos ks vs o1 trs mp) (h1 : ks.all (·.isSome) = true := by rfl) (h2 : ks.length = vs.length := by rfl) (h3 : ks ≠ [] := by exact List.cons_ne_nil _ _) (h4 : ks.length ≤ 15 := by decide) : MO Γ X W o (.Dict ks vs pos) o1 (tDisp trs) (mDisp mp) := by
  obtain ⟨eG⟩ := hG
  subst eG
  exact ⟨pe_disp h.pe h1 h2 h3 h4, PuO.disp h.pu⟩
theorem mo_dc {scope : Scope} (s0 : Shared) (H0 : Hp) (own : List (Str × Nat)) (hc : X.calm = true) (hN : X.N.Nodup) (hi : MI Γ X W o tg iter o wi mi) (ok : blkC X.N X.env.scope scope own = true)
    (hg : ∀ (s : Shared) (H : Hp) (C : Addr) (cl : List (Str × Addr)) (fp : List Addr), MG Γ (B0 X scope s H C cl fp) o tg o g mg)
    (ht : ∀ (s : Shared) (H : Hp) (C : Addr) (cl : List (Str × Addr)) (fp : List Addr), MTs Γ (B0 X scope s H C cl fp) WN o ifs tt mt)
    (hk : ∀ (s : Shared) (H : Hp) (C : Addr) (cl : List (Str × Addr)) (fp : List Addr), ME Γ (B0 X scope s H C cl fp) WN o kx o tk mk)
    (hv : ∀ (s : Shared) (H : Hp) (C : Addr) (cl : List (Str × Addr)) (fp : List Addr), ME Γ (B0 X scope s H C cl fp) WN o vx o tv mv)
    (hw : GW g mg (own.map (·.2))) (hn : ∀ i, i ∈ own.map (·.2) → i ∉ o := by decide) (hs : ∀ x, foldedSetIterable iter X.env x = pure x := by intro _; rfl) :
    MO Γ X W o (.DictComp kx vx [⟨tg, iter, ifs, 0⟩] scope pos) o (tDc wi g tt tk tv (own.map (·.2))) (mDc (own.map (·.2)) mi mg mt mk mv) := by
  obtain ⟨eG⟩ := hG
  subst eG
  exact ⟨pe_dc hc hN hi.pe (blkOk_by ok) (fun s H C cl fp => (hg s H C cl fp).pe) (fun s H C cl fp => (ht s H C cl fp).pe) (fun s H C cl fp => (hk s H C cl fp).pe) (fun s H C cl fp => (hv s H C cl fp).pe) hs,
    PuO.dc hi.pu hn hw (hg s0 H0 0 [] []).pu (ht s0 H0 0 [] []).pu (hk s0 H0 0 [] []).pu (hv s0 H0 0 [] []).pu⟩
theorem ms_setDc (i : Nat) {scope : Scope} (s0 : Shared) (H0 : Hp) (own : List (Str × Nat)) (hc : X.calm = true) (hN : X.N.Nodup) (hi : MI Γ X W o tg iter o wi mi) (ok : blkC X.N X.env.scope scope own = true)
    (hg : ∀ (s : Shared) (H : Hp) (C : Addr) (cl : List (Str × Addr)) (fp : List Addr), MG Γ (B0 X scope s H C cl fp) o tg o g mg)
    (ht : ∀ (s : Shared) (H : Hp) (C : Addr) (cl : List (Str × Addr)) (fp : List Addr), MTs Γ (B0 X scope s H C cl fp) WN o ifs tt mt)
    (hk : ∀ (s : Shared) (H : Hp) (C : Addr) (cl : List (Str × Addr)) (fp : List Addr), ME Γ (B0 X scope s H C cl fp) WN o kx o tk mk)
    (hv : ∀ (s : Shared) (H : Hp) (C : Addr) (cl : List (Str × Addr)) (fp : List Addr), ME Γ (B0 X scope s H C cl fp) WN o vx o tv mv)
    (hw : GW g mg (own.map (·.2))) (hn : ∀ i, i ∈ own.map (·.2) → i ∉ o := by decide) (hs : ∀ x, foldedSetIterable iter X.env x = pure x := by intro _; rfl)
    (hy : X.N[i]? = some x := by rfl) (hyl : X.env.scope.names.lookup x = some .local := by rfl) (hsw : swapsWith (.DictComp kx vx [⟨tg, iter, ifs, 0⟩] scope pos) (some (.Name x py)) spos.line X.env = pure true := by rfl) :
    MS Γ X W oL o (.Assign [.Name x py] (.DictComp kx vx [⟨tg, iter, ifs, 0⟩] scope pos) spos) (i :: o.filter (· != i)) (tAsg (tDc wi g tt tk tv (own.map (·.2))) (gName i)) (mSet i (mDc (own.map (·.2)) mi mg mt mk mv)) := by
  obtain ⟨eG⟩ := hG
  subst eG
  exact ⟨ps_setDc hc hN hy hyl hsw hi.pe (blkOk_by ok) (fun s H C cl fp => (hg s H C cl fp).pe) (fun s H C cl fp => (ht s H C cl fp).pe) (fun s H C cl fp => (hk s H C cl fp).pe) (fun s H C cl fp => (hv s H C cl fp).pe) hs,
    PuS.setO (PuO.dc hi.pu hn hw (hg s0 H0 0 [] []).pu (ht s0 H0 0 [] []).pu (hk s0 H0 0 [] []).pu (hv s0 H0 0 [] []).pu)⟩
theorem c_neK (hu : X.A.units + 65 < cLine) : CmpR Γ X W .NotEq rNeDR D.neK := by
  obtain ⟨eG⟩ := hG
  subst eG
  exact ⟨op_neDR (by omega), pu_neK⟩
theorem ms_daug (i : Nat) (hu : X.A.units + 1 < cLine) (hk : ME Γ X W o b o1 tk mk) (hv : ME Γ X W o1 a o2 tv mv) (hi0 : i ∈ o := by decide) (hi1 : i ∈ o1 := by decide) (hi2 : i ∈ o2 := by decide) (hN : X.N[i]? = some x := by rfl) (hvi : Vis X.env.scope x := by first | exact Or.inl rfl | exact Or.inr (Or.inl rfl) | exact Or.inr (Or.inr rfl)) (hd : (x == ("__debug__" : Str)) = false := by decide) (hcd : (x == ("__classdict__" : Str)) = false := by decide)
    (ha : ∀ ov iv new, augStore b ov iv new = (do holding [new, ov, iv] (setItem ov iv new); release [new, ov, iv] []; pure .next) := by intro _ _ _; rfl) :
    MS Γ X W oL o (.AugAssign (.Subscript (.Name x p) b tpos) .Add a pos) o2 (sDAug (tVar i) tk tv rAdd) (mDAug i (fun x y => x + y) mk mv) := by
  obtain ⟨eG⟩ := hG
  subst eG
  exact ⟨ps_daug hu (pe_var hN hvi hd hcd) hk.pe hv.pe in_add ha, PuS.daug hi0 hi1 hi2 hk.pu hv.pu⟩
/-- a tuple of the module -/
theorem me_gtup {q : Addr} {us : List V} {ds : List D} (hm : X.mg x = some (.ref q)) (hT : ∀ H, SqT X.K H q us) (hr : ∀ F, RpL Γ F ds us) (hg : Gl X x := by rfl) (hd : (x == ("__debug__" : Str)) = false := by decide) : ME Γ X W o (.Name x pos) o (tC (.ref q)) (mC (.ktup ds)) := by
  obtain ⟨eG⟩ := hG
  subst eG
  exact ⟨pe_glob hg hm rfl hd, PuE.c fun F => .ktup (hT F) (hr F)⟩
def mNotTru (m : Env → R D) : Env → R D := fun ρ => (m ρ).bind fun d => d.truth.bind fun k => .ok (.bl (!k))
theorem me_notT (h : ME Γ X W o a o1 ta ma) : ME Γ X W o (.UnaryOp .Not a pos) o1 (tNotT Γ.K ta) (mNotTru ma) := by
  obtain ⟨eG⟩ := hG
  subst eG
  refine ⟨pe_notT h.pe, ?_⟩
  intro B F0 F H σ ρ Q rel hr
  refine h.pu rel ((Res.bnd hr).imp fun d F1 H1 e1 r1 q v rv => ?_)
  have e : ∀ {k : Bool}, Res ⟨X.K, X.mg⟩ W B F0 F1 H1 o1 σ ρ (kE ⟨X.K, X.mg⟩ Q) (.ok (.bl (!k))) → Q (.bl (!k)) H1 := fun z => z.here r1 (.bl _)
  cases rv with
  | non => exact ⟨_, rfl, e q⟩
  | bl b => exact ⟨_, rfl, e q⟩
  | int i => exact ⟨_, rfl, e q⟩
  | @lst a vs ds h2 r2 => exact ⟨_, .inl ⟨vs, .inl (.inl (r1.core.fh _ _ h2)), rfl⟩, by rw [← r2.isEmpty]; exact e q⟩
  | @scr a vs ds h2 r2 => exact ⟨_, .inl ⟨vs, r1.sqL h2, rfl⟩, by rw [← r2.isEmpty]; exact e q⟩
  | @tup a vs ds h2 r2 => exact ⟨_, .inr (.inl ⟨vs, .inl (.inl (r1.core.fh _ _ h2)), rfl⟩), by rw [← r2.isEmpty]; exact e q⟩
  | @ktup a vs ds h2 r2 => exact ⟨_, .inr (.inl ⟨vs, r1.sqT h2, rfl⟩), by rw [← r2.isEmpty]; exact e q⟩
  | str x =>
    by_cases c : x.length ≤ sizeLine
    · have q' : Res ⟨X.K, X.mg⟩ W B F0 F1 H1 o1 σ ρ (kE ⟨X.K, X.mg⟩ Q) ((if x.length ≤ sizeLine then R.ok ((x.length : Int) != 0) else .bad).bind fun k => .ok (.bl (!k))) := q
      rw [if_pos c] at q'
      exact ⟨_, ⟨c, rfl⟩, e q'⟩
    · have q' : Res ⟨X.K, X.mg⟩ W B F0 F1 H1 o1 σ ρ (kE ⟨X.K, X.mg⟩ Q) ((if x.length ≤ sizeLine then R.ok ((x.length : Int) != 0) else .bad).bind fun k => .ok (.bl (!k))) := q
      rw [if_neg c] at q'
      exact q'.elim
  | _ => exact q.elim
end
end G
/-! E7: sorted(d), d a dict whose keys are tuples of ints, none empty. -/
namespace G
open PySem PySem.Spec PySem.W PyProof.Rows L2 TpL
section
variable {prog : Program} {w : World} {A : Around} {E : Value → Shared → Prop} {s : Shared}
/-- sorted of the keys of a dict at l -/
theorem sorted_keys {l : Addr} {o : Obj} {es : Array DictEntry} {ep : Nat} {vs : List Value} {ltv : Value → Value → Bool} {Q : Value → Shared → Prop} (lo : (l == sysModules) = false) (hx : o.ExactDict) (hd : o.data = .dict es ep) (ho : s.heap.get? l = some o) (hh : A.handled = none) (hz : vs.length ≤ sizeLine) (hv : es.toList.map (fun e => e.key) = vs) (O : SrtO.Swo ltv)
    (hS : 2 ≤ vs.length → ∀ (h₁ : Heap) (tk : Nat) (a : Addr), h₁.get? a = some (seqObj "list" vs.toArray 0) → (∀ b o, s.heap.get? b = some o → b ≠ a ∧ h₁.get? b = some o) → SrtO.SortableO prog w A.in1.in1 { s with heap := h₁, toks := tk } a vs ltv)
    (h : ∀ (h' : Heap) (tk : Nat) (d : Addr) (out : List Value), SrtO.Srtd ltv out → SrtO.Stb ltv out vs → (∀ b o, s.heap.get? b = some o → h'.get? b = some o) → s.heap.get? d = none → (∃ n, h'.get? d = some (seqObj "list" out.toArray n)) → Q (.ref d) { s with heap := h', toks := tk }) :
    wpAny (model prog w) A (call (.builtin "sorted") [.ref l]) Q E s := by
  have hsz : es.size ≤ sizeLine := by
    have := congrArg List.length hv
    rw [List.length_map, Array.length_toList] at this
    omega
  refine Calls.call_function_entry kind_sorted plain_sorted entry_sorted (args_sorted1 _) ?_
  unfold Builtin.«sorted»
  apply wpAny_bind (m := checkCount "sorted" 1 1 _)
  apply wpAny_pure
  refine wpAny_bind (kdu_collect (A := A.in1) (kdl_raw (prog := prog) (w := w) lo hx hd) (by first | exact hh | simpa using hh) ho hsz fun h' tk acc keep it => ?_)
  have ea : acc.toList = vs := by
    rw [← hv]
    refine List.ext_getElem? fun j => ?_
    rw [List.getElem?_map]
    cases hj : acc.toList[j]? with
    | none =>
      have h1 := List.getElem?_eq_none_iff.mp hj
      have h2 : acc.size = es.size := it.1
      rw [Array.length_toList] at h1
      rw [List.getElem?_eq_none (by rw [Array.length_toList]; omega)]
      rfl
    | some v =>
      obtain ⟨en, hen, hv2⟩ := it.2 j v (by rw [← Array.getElem?_toList]; exact hj)
      rw [Array.getElem?_toList, hen, hv2]
      rfl
  rw [ea]
  refine wpAny_bind (wpAny_newList ?_ hz)
  have hoL : (h'.push (seqObj "list" vs.toArray 0)).get? h'.objs.size = some (seqObj "list" vs.toArray 0) := Heap.get?_push_size _ rfl
  have old : ∀ b o, s.heap.get? b = some o → b < h'.objs.size := fun b o q => Heap.lt_size (keep b o q)
  have keep1 : ∀ b o, s.heap.get? b = some o → b ≠ h'.objs.size ∧ (h'.push (seqObj "list" vs.toArray 0)).get? b = some o := fun b o q => ⟨Nat.ne_of_lt (old b o q), Heap.get?_push_of_some _ (keep b o q)⟩
  show wpAny _ _ _ _ _ { s with heap := h'.push (seqObj "list" vs.toArray 0), toks := tk }
  refine wpAny_bind (wpAny_holding (wpAny_call_entry slot_list_sort ⟨_, hoL, rfl⟩ entry_list_sort (SrtO.list_sort_ord O hoL hz (fun h2 => hS h2 _ _ _ hoL keep1) fun out hs hb => ⟨_, rfl, ?_⟩) (args_list_sort _)))
  refine wpAny_pure ⟨_, rfl, h _ _ _ out hs hb (fun b o q => ?_) ?_ ?_⟩
  · rw [sortedHeap_old (Nat.ne_of_lt (old b o q)) (by rw [size_push']; exact Nat.lt_succ_of_lt (old b o q))]
    exact (keep1 b o q).2
  · cases q : s.heap.get? h'.objs.size with
    | none => rfl
    | some o' => exact absurd (old _ _ q) (Nat.lt_irrefl _)
  · exact sortedHeap_at hoL
end
/-- sorted(d): the keys of d are tuples of ints, none empty -/
def rSoD : List V → Hp → VK → Prop := fun vs H Q => ∃ (d : Addr) (kvs : List (List Key × V)), vs = [V.ref d] ∧ Rd H d (.dT kvs) ∧ (∀ p ∈ kvs, ∃ ns : List Int, p.1 = ns.map Sum.inl ∧ ns ≠ []) ∧
  ∀ (bs : List Addr) (ys : List V) (p : Addr), IsKeys H kvs bs → ys.Perm (bs.map V.ref) → ys.Pairwise (fun x y => HT.lexLt (kF H y) (kF H x) = false) → H p = none → Q (.ref p) (upd H p (.lst ys))
theorem isKeys_mem {H : Hp} {kvs : List (List Key × V)} {bs : List Addr} (h : IsKeys H kvs bs) : ∀ b ∈ bs, ∃ p ∈ kvs, H b = some (.tup (p.1.map kV)) := by
  unfold IsKeys at h
  induction h with
  | nil => exact fun _ q => nomatch q
  | @cons p q ps qs h1 h2 ih =>
    intro b hb
    rcases List.mem_cons.mp hb with e | hb
    · subst e; exact ⟨p, .head _, h1⟩
    · obtain ⟨p', m, e⟩ := ih b hb
      exact ⟨p', .tail _ m, e⟩
theorem inl_ints : ∀ ns : List Int, (ns.map (Sum.inl : Int → Key)).map kV = ns.map V.int
  | [] => rfl
  | n :: ns => congrArg (V.int n :: ·) (inl_ints ns)
section
variable {X : Cx}
theorem cr_soD (hc : X.calm = true) (hu : X.A.units + 65 < cLine) : CallR X (.builtin "sorted") rSoD := by
  intro pins s σ H xs us Q I r h
  obtain ⟨d, kvs, rfl, hd, hk, q⟩ := h
  obtain ⟨u, rfl, rx⟩ := r.one
  cases rx
  obtain ⟨z, hs, ks, pr, o, es, ep, ho, hx, hdt, he, hn⟩ := (show ObjOk X.prog X.w H s.heap d (.dT kvs) from hd.ok I.hok)
  have l1 : es.size = ks.length := size_of_entries he
  have l2 : kvs.length = ks.length := Paired.length pr
  have hvals : es.toList.map (fun e => e.key) = (ks.map fun x => x.2.1).map Value.ref := by
    refine List.ext_getElem? fun j => ?_
    rw [List.getElem?_map, List.getElem?_map, List.getElem?_map, Array.getElem?_toList]
    have qe := entry_at he j
    cases hb : ks[j]? with
    | none => rw [hb] at qe; rw [show es[j]? = none from qe]; rfl
    | some b => rw [hb] at qe; rw [show es[j]? = some _ from qe]; rfl
  have hIK := isKeys_of pr
  have hb := isKeys_mem hIK
  have hlen : (ks.map fun x => x.2.1).length = ks.length := List.length_map _
  generalize (ks.map fun x => x.2.1) = bs at hvals hb hIK hlen
  have hkey : ∀ b ∈ bs, ∃ ns : List Int, H b = some (.tup (ns.map V.int)) ∧ kF H (.ref b) = ns ∧ ns ≠ [] := fun b m => by
    obtain ⟨p, hp, e⟩ := hb b m
    obtain ⟨ns, e1, e2⟩ := hk p hp
    rw [e1, inl_ints] at e
    refine ⟨ns, e, ?_, e2⟩
    show (match H b with | some (.tup vs) => vs.filterMap intV | _ => []) = ns
    rw [e]
    exact filt_ints ns
  have hv : ∀ v ∈ bs.map Value.ref, IsTp s.heap v (kF H (backV v)) := fun v hv => by
    obtain ⟨b, m, rfl⟩ := List.mem_map.mp hv
    obtain ⟨ns, e1, e2, _⟩ := hkey b m
    obtain ⟨_, its2, r2, o2, ho2, hc2, n2, hd2⟩ := I.hok _ _ e1
    obtain ⟨c2, dd, da, sl⟩ := o2
    simp only at hc2 hd2
    subst hc2 hd2
    exact ⟨b, dd, _, n2, sl, rfl, ho2, by rw [show kF H (backV (Value.ref b)) = ns from e2]; simpa using r2.ints⟩
  have hbz : (bs.map Value.ref).length ≤ sizeLine := by rw [List.length_map]; omega
  refine sorted_keys hs hx hdt ho (I.ok.hd hc) hbz hvals (NtL.swo_lexL fun u => kF H (backV u)) (fun h2 h₁ tk a' ha' kk => ?_) fun h' tk d2 out h3 h4 kp hd2 he2 => ?_
  · refine tp_sortable (s := { s with heap := h₁, toks := tk }) (by first | (show X.A.units + 1 + 1 < cLine; omega) | (show X.A.units + 2 < cLine; omega) | (show X.A.units < cLine; omega) | (simp [Around.in1]; omega)) (fun v hm => (hv v hm).keeps fun b o _ e => (kk b o e).2) (.inr ⟨fun v hm => ?_, fun z => by rw [z] at h2; simp at h2⟩) fun v hm => ?_
    · obtain ⟨b, m, rfl⟩ := List.mem_map.mp hm
      obtain ⟨ns, _, e2, e3⟩ := hkey b m
      rw [show kF H (backV (Value.ref b)) = ns from e2]
      exact e3
    · obtain ⟨b, dd, items, n3, sl, e, g, _⟩ := hv v hm
      rw [e]
      intro z
      cases z
      exact (kk _ _ g).1 rfl
  · have h5 : ∀ u ∈ out, ∃ a, u = Value.ref a := fun u hu2 => by
      obtain ⟨b, _, e⟩ := List.mem_map.mp (h4.perm.mem_iff.mp hu2)
      exact ⟨b, e.symm⟩
    obtain ⟨n, hn2⟩ := he2
    have hp : (out.map backV).Perm (bs.map V.ref) := by
      have := h4.perm.map backV
      rw [List.map_map] at this
      exact this
    have hno := none_of I.hok hd2
    refine ⟨.ref d2, upd H d2 (.lst (out.map backV)), I.laidN (t' := tk) kp hd2 hno ⟨?_, out, n, vals_back h5, hn2⟩, rfl, q bs _ d2 hIK hp (List.pairwise_map.mpr h3) hno⟩
    rw [hp.length_eq, List.length_map]
    rw [List.length_map] at hbz
    exact hbz
end
def kInts : List Key → Option (List Int)
  | [] => some []
  | .inl i :: r => (kInts r).map (i :: ·)
  | .inr _ :: _ => none
def allInts : List DK → Option (List (List Int))
  | [] => some []
  | .t ks :: r => (match kInts ks, allInts r with
    | some ns, some nss => some (ns :: nss)
    | _, _ => none)
  | _ :: _ => none
def D.sortK : D → R D
  | .dic true ks _ => (match allInts ks with
    | some nss => if nss.all (fun ns => ns != []) = true then .ok (.lst (sortD (nss.map fun ns => D.tup (ns.map D.int)))) else .bad
    | none => .bad)
  | _ => .bad
theorem kInts_eq : ∀ {ks : List Key} {ns : List Int}, kInts ks = some ns → ks = ns.map Sum.inl
  | [], _, h => by cases h; rfl
  | .inl i :: r, ns, h => by
    unfold kInts at h
    cases q : kInts r with
    | none => rw [q] at h; cases h
    | some ms => rw [q] at h; cases h; rw [kInts_eq q]; rfl
  | .inr _ :: _, _, h => by cases h
theorem allInts_eq : ∀ {js : List (List Key)} {nss : List (List Int)}, allInts (js.map DK.t) = some nss → js = nss.map fun ns => ns.map Sum.inl
  | [], _, h => by cases h; rfl
  | k :: js, nss, h => by
    rw [List.map_cons] at h
    unfold allInts at h
    cases q1 : kInts k with
    | none => rw [q1] at h; cases h
    | some ns =>
      cases q2 : allInts (js.map DK.t) with
      | none => rw [q1, q2] at h; cases h
      | some ms => rw [q1, q2] at h; cases h; rw [List.map_cons, ← allInts_eq q2, ← kInts_eq q1]
section
variable {Γ : Gc} {W : WX}
theorem keys_rp {F H : Hp} (hF : ∀ a u, F a = some u → H a = some u) : ∀ (nss : List (List Int)) (vs : List V) (bs : List Addr), nss.length = vs.length → IsKeys H ((nss.map fun ns => ns.map Sum.inl).zip vs) bs → (∀ b ∈ bs, F b = H b) → RpL Γ F (nss.map fun ns => D.tup (ns.map D.int)) (bs.map V.ref)
  | [], _, bs, _, h, _ => by
    cases bs with
    | nil => exact .nil
    | cons b bs => unfold IsKeys at h; cases h
  | ns :: nss, [], bs, hl, _, _ => by cases hl
  | ns :: nss, v :: vs, bs, hl, h, hb => by
    unfold IsKeys at h
    rw [List.map_cons, List.zip_cons_cons] at h
    cases h with
    | @cons _ b _ bs h1 h2 =>
      refine .cons ?_ (keys_rp hF nss vs bs (by simpa using hl) h2 fun c hc => hb c (.tail _ hc))
      have e : H b = some (.tup (ns.map V.int)) := by rw [← inl_ints]; exact h1
      exact .tup (by rw [hb b (.head _)]; exact e) (RpL.ints ns)
theorem pu_sortK : PuCO Γ W rSoD (d1 D.sortK) := by
  refine pu_c1O (fun {B F0 F H o σ ρ Q v d} rel rv h => ?_)
  cases rv with
  | @dicT a js vs ds h1 hl r1 =>
    unfold D.sortK at h
    dsimp only at h
    cases hn : allInts (js.map DK.t) with
    | none => rw [hn] at h; exact h.elim
    | some nss =>
      rw [hn] at h
      obtain ⟨c, h⟩ := Res.ifP h
      have ej := allInts_eq hn
      subst ej
      rw [List.length_map] at hl
      refine ⟨a, _, rfl, rel.rd h1, fun p hp => ?_, fun bs ys p hIK hperm hso hpn => ?_⟩
      · obtain ⟨k, v⟩ := p
        have hk := (List.of_mem_zip hp).1
        obtain ⟨ns, m, e⟩ := List.mem_map.mp hk
        exact ⟨ns, e.symm, by have := List.all_eq_true.mp c ns m; intro z; rw [z] at this; cases this⟩
      · have hkey := isKeys_mem hIK
        let F' : Hp := fun b => match F b with
          | some u => some u
          | none => if b ∈ bs then H b else none
        have f1 : ∀ b u, F b = some u → F' b = some u := fun b u e => by show (match F b with | some u => some u | none => if b ∈ bs then H b else none) = _; rw [e]
        have f2 : ∀ b, F b = none → F' b = if b ∈ bs then H b else none := fun b e => by show (match F b with | some u => some u | none => if b ∈ bs then H b else none) = _; rw [e]
        have fh : ∀ b u, F' b = some u → H b = some u := fun b u e => by
          cases q : F b with
          | some u2 => rw [f1 b u2 q] at e; cases e; exact rel.core.fh b u q
          | none =>
            rw [f2 b q] at e
            split at e
            · exact e
            · cases e
        have fb : ∀ b ∈ bs, F' b = H b := fun b hb => by
          cases q : F b with
          | some u => rw [f1 b u q, rel.core.fh b u q]
          | none => rw [f2 b q, if_pos hb]
        have le : Le F F' := Le.of f1
        have nf : ∀ b, F' b ≠ none → F b ≠ none ∨ Gn H b := fun b e => by
          cases q : F b with
          | some w => exact .inl (by simp)
          | none =>
            rw [f2 b q] at e
            by_cases hb : b ∈ bs
            · obtain ⟨p, _, ep⟩ := hkey b hb
              exact .inr (.inr ⟨_, ep⟩)
            · rw [if_neg hb] at e; exact absurd rfl e
        have rel' := rel.grow le fh (fun _ _ q => q) nf
        have rk := keys_rp (Γ := Γ) fh nss vs bs hl hIK fb
        have hI : (nss.map fun ns => D.tup (ns.map D.int)).all D.isTI = true := by
          rw [List.all_map, List.all_eq_true]
          intro ns _
          show allI (ns.map D.int) = true
          unfold allI
          rw [List.all_map, List.all_eq_true]
          exact fun _ _ => rfl
        have hkF : ∀ y ∈ ys, kF F' y = kF H y := fun y hy => by
          obtain ⟨b, hb, e⟩ := List.mem_map.mp (hperm.mem_iff.mp hy)
          subst e
          show (match F' b with | some (.tup vs) => vs.filterMap intV | _ => []) = (match H b with | some (.tup vs) => vs.filterMap intV | _ => [])
          rw [fb b hb]
        have out := sortT_out hI rk hperm (hso.imp_of_mem fun {x y} hx hy z => by rw [hkF x hx, hkF y hy, ← lexLt_eq]; exact z)
        exact (Res.mono ⟨le, Same.refl H⟩ h).newO rel' hpn (.lst upd_same out)
  | _ => exact h.elim
end
end G
/-! E8: own errors: raise X(); try: .. except Y as n: return isinstance(n, X). -/
namespace G
open PySem PySem.Spec PyProof.Rows L2
/-- an own class of errors at C, known as x, made without arguments -/
structure ErrC (K : PySem.W.Frag) (mg : Str → Option Value) (x : Str) (C : Addr) : Prop where
  g : mg x = some (.ref C)
  ex : PySem.W.excIn K C He.veBase "ValueError.__new__" = true
  kp : PySem.W.keepIn K (.ref C) = true
  sb : PySem.W.subIn K (.ref C) (.type "BaseException") = some true
  ty : PySem.W.typeIn K (.ref C) = some (.type "type")
  is : ExcC K C
/-- X() -/
theorem pmk0 {X : Cx} {x : Str} {C : Addr} {p pos : Pos} (h : ErrC X.K X.mg x C) (hg : Gl X x := by rfl) (hdb : (x == ("__debug__" : Str)) = false := by decide) : L2N.PMk X (.Call (.Name x p) [] [] pos) (fun _ H Q => Q (.ref C) none H) := by
  intro pins s σ H Q I q
  refine wpAny_Call_Name_kw (ld_glob I hg h.g ?_ hdb)
  refine PySem.W.callWith_K0 I.kIn h.kp ?_
  show wpAny _ _ (call (.ref C) []) _ _ _
  obtain ⟨bm, N, nm, qn, bs, hdct, sn, sub, ab, col, dd, k0, k1, k2, k3, k5, mN, hC, hN, hni, T⟩ := exc_obj I.kIn h.ex
  obtain ⟨hp, g, dr, tk, os⟩ := s
  refine wpAny_call_exc_subT PySem.F.excBase_ValueError T hC hN hni (fun h' e hm => ?_) (by show 0 ≤ sizeLine; omega)
  exact L2N.mk_of I hm (raises_own h.sb h.ty) q (I.hok.gone hm.new)
def mRaise (c : Str) : Env → Out := fun ρ => .exc c none ρ
section
variable {Γ : Gc} {X : Cx} [hG : HG Γ X] {W : WX} {o oL : List Nat} {x : Str} {p pos pos2 : Pos}
theorem ms_raise {C : Addr} (h : ErrC X.K X.mg x C) (hc : X.calm = true) (tk : L2N.Takes X W) (hg : Gl X x := by rfl) (hdb : (x == ("__debug__" : Str)) = false := by decide) :
    MS Γ X W oL o (.Raise (some (.Call (.Name x p) [] [] pos)) none pos2) o (fun _ σ H => W (.ref C) none σ H) (mRaise x) := by
  obtain ⟨eG⟩ := hG
  subst eG
  refine ⟨L2N.ps_raise hc tk (pmk0 h hg hdb), fun {B F0 F H σ ρ D} rel q => ?_⟩
  obtain ⟨F', e, r⟩ := rel.bare
  exact q F' H σ (.ref C) none e r ⟨C, h.g, rfl, rfl⟩
end
/-! ### try: .. except Y as n: return isinstance(n, X) -/
instance {Γ : Gc} {X : Cx} [h : HG Γ X] {pn : List (Addr × Obj)} {xe : Value → Shared → Prop} : HG Γ (X.tr pn xe) := ⟨h.e⟩
/-- what the suite wants of the error in hand -/
def tIsE (K : PySem.W.Frag) (i : Nat) (cX : Value) (a : Addr) (cls : Value) (d : Option Addr) : TS := fun D σ H => ∃ C b, cls = .ref C ∧ d = none ∧ ExcC K C ∧ σ[i]? = some (some (.ref a)) ∧ PySem.W.kitOne K (.ref C) cX = some b ∧ D.rt (.bl b) H
section
variable {X : Cx} {x n y : Str} {i : Nat} {p1 p2 p3 p4 p5 p6 p7 p8 : Pos}
theorem pss_isE {a CX : Addr} {oe : Obj} {cls : Value} {d : Option Addr} {pn : List (Addr × Obj)} (hi : X.N[i]? = some n) (hv : Vis X.env.scope n) (hd1 : (n == ("__debug__" : Str)) = false) (hd2 : (n == ("__classdict__" : Str)) = false) (hz : L2N.Zn cls d oe) (hf : ∃ vs, oe.data = .fields vs)
    (hm : X.mg x = some (.ref CX)) (hg : Gl X x) (hdb : (x == ("__debug__" : Str)) = false) (n_is : X.mg "isinstance" = none) (g_is : Gl X "isinstance") (b_is : bootBuiltins "isinstance" = some (.builtin "isinstance"))
    (he : starEach [Expr.Name n p2, .Name x p3] X.env = (false, eval (.Name n p2) X.env) :: starEach [.Name x p3] X.env := by rfl) (hpl : (backTo p4 (starEach [Expr.Name x p3] X.env)).any (·.1) = false := by rfl) (he2 : starEach [Expr.Name x p3] X.env = (false, eval (.Name x p3) X.env) :: starEach [] X.env := by rfl) :
    PSs (X.suite a ((a, oe) :: pn)) [.Return (some (.Call (.Name "isinstance" p1) [.Name n p2, .Name x p3] [] p4)) p5] (tIsE X.K i (.ref CX) a cls d) := by
  refine ⟨fun pins s σ H D I h => ?_⟩
  obtain ⟨C, b, rfl, rfl, ec, hs, hk, q⟩ := h
  have cr : CallR (X.suite a ((a, oe) :: pn)) (.builtin "isinstance") (rIsE X.K C a) := call_isE ec hz.zc hf
  refine (pss_one (ps_ret (pe_callB cr g_is n_is b_is (pa_cons (pe_var hi hv hd1 hd2) (pa_cons (pe_glob (v := .ref CX) hg hm rfl hdb) pa_nil he2) he) (by decide) (by decide) he hpl))).run pins s σ H D I ?_
  exact ⟨_, hs, .ref CX, .ref CX, b, rfl, fun u hu => hu, hk, q⟩
end
/-- i: the error's slot; tbl: what isinstance tells of each class -/
def mTryIs (i : Nat) (tbl : Str → Option Bool) (mb : Env → Out) : Env → Out := fun ρ => match mb ρ with
  | .exc c none ρ' => if i < ρ'.length then (match tbl c with
    | some b => .rt (.bl b)
    | none => .bad) else .bad
  | .exc _ (some _) _ => .bad
  | r => r
section
variable {Γ : Gc} {X : Cx} [hG : HG Γ X] {W : WX} {o o' oL : List Nat} {x n y : Str} {i : Nat} {p1 p2 p3 p4 p5 p6 p7 p8 : Pos} {body : List Stmt} {tb : WX → TS} {mb : Env → Out}
theorem ms_tryIs {CX CY : Addr} {tbl : Str → Option Bool} (hT : ∀ c b, tbl c = some b → ∃ C, ErrC X.K X.mg c C ∧ PySem.W.exmOne X.K (.ref C) (.ref CY) = some true ∧ PySem.W.kitOne X.K (.ref C) (.ref CX) = some b) (hx : X.mg x = some (.ref CX)) (hy : X.mg y = some (.ref CY)) (n_is : X.mg "isinstance" = none) (nd : X.N.Nodup)
    (hb : ∀ (W : WX) (pn : List (Addr × Obj)) (xe : Value → Shared → Prop), L2N.Takes (X.tr pn xe) W → MSs Γ (X.tr pn xe) W oL o body o' (tb W) mb)
    (hs : X.stack = X.env :: X.outer := by rfl) (hf : X.env.frame = some X.env.locals := by rfl) (hi : X.N[i]? = some n := by rfl) (hln : X.env.kindOf n = some .local := by rfl) (hd1 : (n == ("__debug__" : Str)) = false := by decide) (hd2 : (n == ("__classdict__" : Str)) = false := by decide)
    (hg : Gl X x := by rfl) (hdb : (x == ("__debug__" : Str)) = false := by decide) (hgy : Gl X y := by rfl) (hdby : (y == ("__debug__" : Str)) = false := by decide) (g_is : Gl X "isinstance" := by rfl) (b_is : bootBuiltins "isinstance" = some (.builtin "isinstance") := by decide +kernel)
    (he : starEach [Expr.Name n p2, .Name x p3] X.env = (false, eval (.Name n p2) X.env) :: starEach [.Name x p3] X.env := by rfl) (hpl : (backTo p4 (starEach [Expr.Name x p3] X.env)).any (·.1) = false := by rfl) (he2 : starEach [Expr.Name x p3] X.env = (false, eval (.Name x p3) X.env) :: starEach [] X.env := by rfl) :
    MS Γ X W oL o (.Try body [.ExceptHandler (some (.Name y p6)) (some n) [.Return (some (.Call (.Name "isinstance" p1) [.Name n p2, .Name x p3] [] p4)) p5] p7] [] [] p8) o'
      (fun D σ H => tb (wAs X.K (.ref CY) i (tIsE X.K i (.ref CX)) (fun _ _ _ _ => False) D) D σ H) (mTryIs i tbl mb) := by
  have hpe := L2N.ps_try_as (X := X) (x := y) (n := n) (c := .ref CY) (i := i) (body := body) (np := p6) (pos := p8) (pos' := p7) (tb := tb) (ts := tIsE X.K i (.ref CX)) (Wout := fun _ _ _ _ => False) hs hf nd hi hln ⟨hgy, hdby, .inl hy⟩
    (fun _ _ z => by obtain ⟨_, _, _, _, _, _, _, _, _, _, _, _, _, _, _, _, z⟩ := z; exact z.elim) (fun W pn xe tk _ => (hb W pn xe tk).pe) (fun a oe cls d pn hz hf' => pss_isE (p1 := p1) (p5 := p5) hi (.inl hln) hd1 hd2 hz hf' hx hg hdb n_is g_is b_is he hpl he2)
  refine ⟨hpe, fun {B F0 F H σ ρ D} rel h => ?_⟩
  have hpu : PuS Γ (wAs X.K (.ref CY) i (tIsE X.K i (.ref CX)) (fun _ _ _ _ => False) D) oL o (tb (wAs X.K (.ref CY) i (tIsE X.K i (.ref CX)) (fun _ _ _ _ => False) D)) o' mb := (hb (wAs X.K (.ref CY) i (tIsE X.K i (.ref CX)) (fun _ _ _ _ => False) D) [] (fun _ _ => True) (fun _ _ _ => trivial)).pu
  obtain ⟨eG⟩ := hG
  subst eG
  refine hpu rel ?_
  unfold mTryIs at h
  cases hm : mb ρ with
  | nx ρ' => rw [hm] at h; exact h
  | rt e => rw [hm] at h; exact h
  | bk ρ' => rw [hm] at h; exact h
  | ct ρ' => rw [hm] at h; exact h
  | bad => rw [hm] at h; exact h
  | exc c q ρ' =>
    rw [hm] at h
    cases q with
    | some z => exact h.elim
    | none =>
      dsimp only at h
      split at h
      · rename_i hl
        cases ht : tbl c with
        | none => rw [ht] at h; exact h.elim
        | some b =>
          rw [ht] at h
          intro F' H' σ' cls dd le r' x'
          obtain ⟨C, g1, g2, g3⟩ := x'
          obtain ⟨C', e1, e2, e3⟩ := hT c b ht
          have eC : C' = C := by
            have := e1.g.symm.trans g1
            cases this
            rfl
          subst eC
          have g3' : dd = none := g3
          refine ⟨true, by rw [g2]; exact e2, fun _ a _ => ⟨C', b, g2, g3', e1.is, ?_, e3, h F' H' (.bl b) le r'.core (.bl b)⟩, fun z => nomatch z⟩
          rw [List.getElem?_set_self (by rw [r'.len]; exact hl)]
      · exact h.elim
end
/-! ### the facts of classes, told by the head -/
def tblOf (l : List (Str × Bool)) (c : Str) : Option Bool := (l.find? fun p => decide (p.1 = c)).map fun p => p.2
theorem tblOf_mem {l : List (Str × Bool)} {c : Str} {b : Bool} (h : tblOf l c = some b) : (c, b) ∈ l := by
  unfold tblOf at h
  rw [Option.map_eq_some_iff] at h
  obtain ⟨p, h1, h2⟩ := h
  have h3 := List.mem_of_find?_eq_some h1
  have h4 : p.1 = c := by
    have := List.find?_some h1
    simpa using this
  obtain ⟨p1, p2⟩ := p
  dsimp only at h2 h4
  subst h2 h4
  exact h3
/-- what isinstance tells of each class of l, caught by Y, asked for X -/
def TblOk (K : PySem.W.Frag) (mg : Str → Option Value) (Y X : Str) (l : List (Str × Bool)) : Prop := ∃ CX CY, mg X = some (.ref CX) ∧ mg Y = some (.ref CY) ∧ ∀ p ∈ l, ∃ C, ErrC K mg p.1 C ∧ PySem.W.exmOne K (.ref C) (.ref CY) = some true ∧ PySem.W.kitOne K (.ref C) (.ref CX) = some p.2
theorem TblOk.hT {K : PySem.W.Frag} {mg : Str → Option Value} {CX CY : Addr} {l : List (Str × Bool)} (h : ∀ p ∈ l, ∃ C, ErrC K mg p.1 C ∧ PySem.W.exmOne K (.ref C) (.ref CY) = some true ∧ PySem.W.kitOne K (.ref C) (.ref CX) = some p.2) : ∀ c b, tblOf l c = some b → ∃ C, ErrC K mg c C ∧ PySem.W.exmOne K (.ref C) (.ref CY) = some true ∧ PySem.W.kitOne K (.ref C) (.ref CX) = some b :=
  fun c b e => h (c, b) (tblOf_mem e)
def errB (K : PySem.W.Frag) (x : Str) : Bool := PySem.W.excIn K (He.ga K x) He.veBase "ValueError.__new__" && (PySem.W.keepIn K (.ref (He.ga K x)) && (PySem.W.subIn K (.ref (He.ga K x)) (.type "BaseException") == some true && (PySem.W.typeIn K (.ref (He.ga K x)) == some (.type "type") &&
  (PySem.W.findIn K (.ref (He.ga K x)) "__getattribute__" == some (some (.builtin "BaseException.__getattribute__")) && (PySem.W.findIn K (.ref (He.ga K x)) "__getattr__" == some none && (PySem.W.hasDictIn K (He.ga K x) && (PySem.W.findIn K (.ref (He.ga K x)) "__class__" == some (some (.builtin "object.__class__")) &&
  (PySem.W.specialIn K (.builtin "object.__class__") "__get__" == some (some (.builtin "getset_descriptor.__get__")) && (PySem.W.takesIn K (.builtin "object.__class__") == some true && PySem.W.mroIn K (He.ga K x) (.type "object") == some true)))))))))
theorem errB_ok {K : PySem.W.Frag} {mg : Str → Option Value} {x : Str} (g : mg x = some (.ref (He.ga K x))) (h : errB K x = true) : ErrC K mg x (He.ga K x) := by
  unfold errB at h
  simp only [Bool.and_eq_true, beq_iff_eq] at h
  obtain ⟨h1, h2, h3, h4, h5, h6, h7, h8, h9, h10, h11⟩ := h
  exact ⟨g, h1, h2, h3, h4, ⟨h5, h6, h3, h7, h8, h9, h10, h11⟩⟩
def rowB (K : PySem.W.Frag) (Y X c : Str) (b : Bool) : Bool := PySem.W.exmOne K (.ref (He.ga K c)) (.ref (He.ga K Y)) == some true && PySem.W.kitOne K (.ref (He.ga K c)) (.ref (He.ga K X)) == some b
theorem rowB_ok {K : PySem.W.Frag} {mg : Str → Option Value} {Y X c : Str} {b : Bool} (e : ErrC K mg c (He.ga K c)) (h : rowB K Y X c b = true) : ∃ C, ErrC K mg c C ∧ PySem.W.exmOne K (.ref C) (.ref (He.ga K Y)) = some true ∧ PySem.W.kitOne K (.ref C) (.ref (He.ga K X)) = some b := by
  unfold rowB at h
  simp only [Bool.and_eq_true, beq_iff_eq] at h
  exact ⟨_, e, h.1, h.2⟩
section
variable {Γ : Gc} {X : Cx} [hG : HG Γ X] {W : WX} {o o' oL : List Nat} {x n y : Str} {i : Nat} {p1 p2 p3 p4 p5 p6 p7 p8 : Pos} {body : List Stmt} {tb : WX → TS} {mb : Env → Out}
theorem ms_tryIsL {l : List (Str × Bool)} {CX CY : Addr} (i : Nat) (hx : X.mg x = some (.ref CX)) (hy : X.mg y = some (.ref CY)) (T : ∀ p ∈ l, ∃ C, ErrC X.K X.mg p.1 C ∧ PySem.W.exmOne X.K (.ref C) (.ref CY) = some true ∧ PySem.W.kitOne X.K (.ref C) (.ref CX) = some p.2) (n_is : X.mg "isinstance" = none) (nd : X.N.Nodup)
    (hb : ∀ (W : WX) (pn : List (Addr × Obj)) (xe : Value → Shared → Prop), L2N.Takes (X.tr pn xe) W → MSs Γ (X.tr pn xe) W oL o body o' (tb W) mb)
    (hs : X.stack = X.env :: X.outer := by rfl) (hf : X.env.frame = some X.env.locals := by rfl) (hi : X.N[i]? = some n := by rfl) (hln : X.env.kindOf n = some .local := by rfl) (hd1 : (n == ("__debug__" : Str)) = false := by decide) (hd2 : (n == ("__classdict__" : Str)) = false := by decide)
    (hg : Gl X x := by rfl) (hdb : (x == ("__debug__" : Str)) = false := by decide) (hgy : Gl X y := by rfl) (hdby : (y == ("__debug__" : Str)) = false := by decide) (g_is : Gl X "isinstance" := by rfl) (b_is : bootBuiltins "isinstance" = some (.builtin "isinstance") := by decide +kernel)
    (he : starEach [Expr.Name n p2, .Name x p3] X.env = (false, eval (.Name n p2) X.env) :: starEach [.Name x p3] X.env := by rfl) (hpl : (backTo p4 (starEach [Expr.Name x p3] X.env)).any (·.1) = false := by rfl) (he2 : starEach [Expr.Name x p3] X.env = (false, eval (.Name x p3) X.env) :: starEach [] X.env := by rfl) :
    MS Γ X W oL o (.Try body [.ExceptHandler (some (.Name y p6)) (some n) [.Return (some (.Call (.Name "isinstance" p1) [.Name n p2, .Name x p3] [] p4)) p5] p7] [] [] p8) o'
      (fun D σ H => tb (wAs X.K (.ref CY) i (tIsE X.K i (.ref CX)) (fun _ _ _ _ => False) D) D σ H) (mTryIs i (tblOf l) mb) :=
  ms_tryIs (TblOk.hT T) hx hy n_is nd hb hs hf hi hln hd1 hd2 hg hdb hgy hdby g_is b_is he hpl he2
end
end G
/-! S18: plain lemmas: ==, in, comprehensions, loops. -/
namespace G
open PySem L2
/-- ints, None, tuples and lists of such, nested at most so deep -/
def okD : Nat → D → Bool
  | _, .non => true
  | _, .int _ => true
  | _, .str x => PyData.strOk x
  | n + 1, .tup ds => ds.all (okD n)
  | n + 1, .lst ds => ds.all (okD n)
  | _, _ => false
theorem okD_int {n : Nat} {i : Int} : okD n (.int i) = true := by cases n <;> rfl
theorem okD_non {n : Nat} : okD n .non = true := by cases n <;> rfl
theorem okD_str {n : Nat} {x : Str} : okD n (.str x) = PyData.strOk x := by cases n <;> rfl
theorem okD_tup {n : Nat} {ds : List D} : okD (n + 1) (.tup ds) = ds.all (okD n) := rfl
theorem okD_lst {n : Nat} {ds : List D} : okD (n + 1) (.lst ds) = ds.all (okD n) := rfl
theorem okD_up : ∀ {n : Nat} {a : D}, okD n a = true → okD (n + 1) a = true
  | _, .non, _ => okD_non
  | _, .int _, _ => okD_int
  | _, .str _, h => by rw [okD_str] at h ⊢; exact h
  | n + 1, .tup ds, h => by
    rw [okD_tup, List.all_eq_true] at h ⊢
    exact fun d hd => okD_up (h d hd)
  | n + 1, .lst ds, h => by
    rw [okD_lst, List.all_eq_true] at h ⊢
    exact fun d hd => okD_up (h d hd)
  | 0, .tup _, h => by cases h
  | 0, .lst _, h => by cases h
  | 0, .bl _, h => by cases h
  | 0, .dic _ _ _, h => by cases h
  | 0, .iset _, h => by cases h
  | 0, .fn _, h => by cases h
  | 0, .scr _, h => by cases h
  | 0, .ktup _, h => by cases h
  | 0, .ty _, h => by cases h
  | _ + 1, .bl _, h => by cases h
  | _ + 1, .dic _ _ _, h => by cases h
  | _ + 1, .iset _, h => by cases h
  | _ + 1, .fn _, h => by cases h
  | _ + 1, .scr _, h => by cases h
  | _ + 1, .ktup _, h => by cases h
  | _ + 1, .ty _, h => by cases h
theorem okD_ups {n : Nat} {ds : List D} (h : ds.all (okD n) = true) : ds.all (okD (n + 1)) = true := by
  rw [List.all_eq_true] at h ⊢
  exact fun d hd => okD_up (h d hd)
/-- what it is as Python's data -/
structure PyOk (n : Nat) (a : D) (x : PyData) : Prop where
  py : a.py = some x
  lay : x.canLay0 = true
  dp : x.depth ≤ n
theorem pyL_ok {n : Nat} (ih : ∀ a, okD n a = true → ∃ x, PyOk n a x) : ∀ ds : List D, ds.all (okD n) = true → ∃ xs, D.pyL ds = some xs ∧ PyData.canLayAll0 xs = true ∧ PyData.depthAll xs ≤ n
  | [], _ => ⟨[], by simp [D.pyL], by simp [PyData.canLayAll0], by simp [PyData.depthAll]⟩
  | d :: ds, h => by
    rw [List.all_cons, Bool.and_eq_true] at h
    obtain ⟨x, h1, h2, h3⟩ := ih d h.1
    obtain ⟨xs, h4, h5, h6⟩ := pyL_ok ih ds h.2
    refine ⟨x :: xs, by simp [D.pyL, h1, h4], by simp [PyData.canLayAll0, h2, h5], by simp [PyData.depthAll]; omega⟩
theorem okD_py : ∀ (n : Nat) (a : D), okD n a = true → ∃ x, PyOk n a x
  | n, .non, _ => ⟨.none, by simp [D.py], by simp [PyData.canLay0], by simp [PyData.depth]⟩
  | n, .int i, _ => ⟨.int i, by simp [D.py], by simp [PyData.canLay0], by simp [PyData.depth]⟩
  | n, .str x, h => ⟨.str x, by simp [D.py], by rw [okD_str] at h; simp [PyData.canLay0, h], by simp [PyData.depth]⟩
  | n + 1, .tup ds, h => by
    obtain ⟨xs, h1, h2, h3⟩ := pyL_ok (okD_py n) ds h
    exact ⟨.tuple xs, by simp [D.py, h1], by simp [PyData.canLay0, h2], by simp [PyData.depth]; omega⟩
  | n + 1, .lst ds, h => by
    obtain ⟨xs, h1, h2, h3⟩ := pyL_ok (okD_py n) ds h
    exact ⟨.list xs, by simp [D.py, h1], by simp [PyData.canLay0, h2], by simp [PyData.depth]; omega⟩
  | 0, .tup _, h => by cases h
  | 0, .lst _, h => by cases h
  | 0, .bl _, h => by cases h
  | 0, .dic _ _ _, h => by cases h
  | 0, .iset _, h => by cases h
  | 0, .fn _, h => by cases h
  | 0, .scr _, h => by cases h
  | 0, .ktup _, h => by cases h
  | 0, .ty _, h => by cases h
  | _ + 1, .bl _, h => by cases h
  | _ + 1, .dic _ _ _, h => by cases h
  | _ + 1, .iset _, h => by cases h
  | _ + 1, .fn _, h => by cases h
  | _ + 1, .scr _, h => by cases h
  | _ + 1, .ktup _, h => by cases h
  | _ + 1, .ty _, h => by cases h
theorem pyL_inv {ds : List D} {xs : List PyData} (h : D.pyL ds = some xs) : (ds = [] ∧ xs = []) ∨ ∃ d es x ys, ds = d :: es ∧ xs = x :: ys ∧ d.py = some x ∧ D.pyL es = some ys := by
  cases ds with
  | nil => left; simp [D.pyL] at h; exact ⟨rfl, h⟩
  | cons d es =>
    right
    unfold D.pyL at h
    cases h1 : d.py with
    | none => rw [h1] at h; simp at h
    | some x =>
      cases h2 : D.pyL es with
      | none => rw [h1, h2] at h; simp at h
      | some ys => rw [h1, h2] at h; cases h; exact ⟨d, es, x, ys, rfl, rfl, h1, h2⟩
theorem eqvL {n : Nat} (ih : ∀ a b x y, okD n a = true → okD n b = true → a.py = some x → b.py = some y → (PyData.eqv x y = true ↔ a = b)) :
    ∀ (as bs : List D) (xs ys : List PyData), as.all (okD n) = true → bs.all (okD n) = true → D.pyL as = some xs → D.pyL bs = some ys → (PyData.eqvAll xs ys = true ↔ as = bs)
  | as, bs, xs, ys, ha, hb, h1, h2 => by
    rcases pyL_inv h1 with ⟨e1, e2⟩ | ⟨a, as', x, xs', e1, e2, p1, p2⟩
    · rcases pyL_inv h2 with ⟨e3, e4⟩ | ⟨b, bs', y, ys', e3, e4, p3, p4⟩
      · subst e1 e2 e3 e4; simp [PyData.eqvAll]
      · subst e1 e2 e3 e4; simp [PyData.eqvAll]
    · rcases pyL_inv h2 with ⟨e3, e4⟩ | ⟨b, bs', y, ys', e3, e4, p3, p4⟩
      · subst e1 e2 e3 e4; simp [PyData.eqvAll]
      · subst e1 e2 e3 e4
        rw [List.all_cons, Bool.and_eq_true] at ha hb
        have z := ih a b x y ha.1 hb.1 p1 p3
        have z2 := eqvL ih as' bs' xs' ys' ha.2 hb.2 p2 p4
        rw [PyData.eqvAll, Bool.and_eq_true, z, z2]
        simp
termination_by as => as.length
theorem okD_eqv : ∀ (n : Nat) (a b : D) (x y : PyData), okD n a = true → okD n b = true → a.py = some x → b.py = some y → (PyData.eqv x y = true ↔ a = b) := by
  intro n
  induction n with
  | zero =>
    intro a b x y ha hb h1 h2
    cases a <;> first | (cases ha; done) | skip
    all_goals (cases b <;> first | (cases hb; done) | skip)
    all_goals (simp [D.py] at h1 h2; subst h1 h2; simp [PyData.eqv])
  | succ n ih =>
    intro a b x y ha hb h1 h2
    cases a <;> first | (cases ha; done) | skip
    all_goals (cases b <;> first | (cases hb; done) | skip)
    all_goals simp only [D.py, Option.map_eq_some_iff, Option.some.injEq] at h1 h2
    all_goals first
      | (obtain ⟨xs, p1, rfl⟩ := h1; obtain ⟨ys, p2, rfl⟩ := h2; first | (have z := eqvL ih _ _ xs ys ha hb p1 p2; simp only [PyData.eqv, z, D.tup.injEq, D.lst.injEq]; done) | (simp [PyData.eqv]; done))
      | (obtain ⟨xs, p1, rfl⟩ := h1; subst h2; simp [PyData.eqv]; done)
      | (obtain ⟨ys, p2, rfl⟩ := h2; subst h1; simp [PyData.eqv]; done)
      | (subst h1 h2; simp [PyData.eqv]; done)
/-- the same datum -/
noncomputable def dq (a b : D) : Bool := @decide (a = b) (Classical.propDecidable _)
theorem dq_iff {a b : D} : dq a b = true ↔ a = b := by unfold dq; exact @decide_eq_true_iff _ (Classical.propDecidable _)
noncomputable def dIn (a : D) (ds : List D) : Bool := @decide (a ∈ ds) (Classical.propDecidable _)
theorem dIn_iff {a : D} {ds : List D} : dIn a ds = true ↔ a ∈ ds := by unfold dIn; exact @decide_eq_true_iff _ (Classical.propDecidable _)
theorem shaped_of {n : Nat} {a : D} {x : PyData} (h : PyOk n a x) (hn : n ≤ 64) : SeqAt.shaped x = true := by
  unfold SeqAt.shaped
  rw [h.lay, decide_eq_true (Nat.le_trans h.dp hn)]
  rfl
theorem bool_ext {a b : Bool} (h : a = true ↔ b = true) : a = b := by cases a <;> cases b <;> simp_all
theorem eq2_ok {n : Nat} {a b : D} {f : Bool → Bool} (hn : n ≤ 64) (ha : okD n a = true) (hb : okD n b = true) : D.eq2 a b f = .ok (.bl (f (dq a b))) := by
  obtain ⟨x, hx⟩ := okD_py n a ha
  obtain ⟨y, hy⟩ := okD_py n b hb
  unfold D.eq2
  rw [hx.py, hy.py]
  dsimp only
  rw [if_pos ⟨shaped_of hx hn, shaped_of hy hn⟩]
  have z : PyData.eqv x y = dq a b := bool_ext (by rw [okD_eqv n a b x y ha hb hx.py hy.py, dq_iff])
  rw [z]
theorem eq_ok {n : Nat} {a b : D} (hn : n ≤ 64) (ha : okD n a = true) (hb : okD n b = true) : D.eq a b = .ok (.bl (dq a b)) := eq2_ok hn ha hb
theorem ne_ok {n : Nat} {a b : D} (hn : n ≤ 64) (ha : okD n a = true) (hb : okD n b = true) : D.ne a b = .ok (.bl (!dq a b)) := eq2_ok hn ha hb
theorem in2_ok {n : Nat} {a b : D} {ds : List D} {f : Bool → Bool} (hb : b = .lst ds ∨ b = .tup ds) (hn : n < 64) (ha : okD n a = true) (hd : ds.all (okD n) = true) : D.in2 a b f = .ok (.bl (f (dIn a ds))) := by
  obtain ⟨x, hx⟩ := okD_py n a ha
  obtain ⟨ys, h1, h2, h3⟩ := pyL_ok (okD_py n) ds hd
  have any : (ys.any fun z => PyData.eqv z x) = dIn a ds := by
    have go : ∀ (ds : List D) (ys : List PyData), ds.all (okD n) = true → D.pyL ds = some ys → ((ys.any fun z => PyData.eqv z x) = true ↔ a ∈ ds) := by
      intro ds
      induction ds with
      | nil => intro ys _ h; simp [D.pyL] at h; subst h; simp
      | cons d ds ih =>
        intro ys hd h
        rcases pyL_inv h with ⟨e, _⟩ | ⟨d', es, y, ys', e1, e2, p1, p2⟩
        · cases e
        · cases e1
          subst e2
          rw [List.all_cons, Bool.and_eq_true] at hd
          rw [List.any_cons, Bool.or_eq_true, ih ys' hd.2 p2, okD_eqv n d a y x hd.1 ha p1 hx.py, List.mem_cons]
          constructor
          · rintro (h | h)
            · exact .inl h.symm
            · exact .inr h
          · rintro (h | h)
            · exact .inl h.symm
            · exact .inr h
    exact bool_ext ((go ds ys hd h1).trans dIn_iff.symm)
  have sh : SeqAt.shaped (.list ys) = true ∧ SeqAt.shaped (.tuple ys) = true := by
    refine ⟨?_, ?_⟩ <;> (unfold SeqAt.shaped; rw [Bool.and_eq_true]; refine ⟨by simp [PyData.canLay0, h2], decide_eq_true ?_⟩; show PyData.depthAll ys + 1 ≤ 64; omega)
  unfold D.in2
  rcases hb with rfl | rfl
  · dsimp only
    rw [hx.py, h1]
    dsimp only
    rw [if_pos ⟨shaped_of hx (by omega), sh.1⟩, any]
  · dsimp only
    rw [hx.py, h1]
    dsimp only
    rw [if_pos ⟨shaped_of hx (by omega), sh.2⟩, any]
theorem in_lst {n : Nat} {a : D} {ds : List D} (hn : n < 64) (ha : okD n a = true) (hd : ds.all (okD n) = true) : D.isIn a (.lst ds) = .ok (.bl (dIn a ds)) := in2_ok (.inl rfl) hn ha hd
theorem in_tup {n : Nat} {a : D} {ds : List D} (hn : n < 64) (ha : okD n a = true) (hd : ds.all (okD n) = true) : D.isIn a (.tup ds) = .ok (.bl (dIn a ds)) := in2_ok (.inr rfl) hn ha hd
theorem notIn_lst {n : Nat} {a : D} {ds : List D} (hn : n < 64) (ha : okD n a = true) (hd : ds.all (okD n) = true) : D.notIn a (.lst ds) = .ok (.bl (!dIn a ds)) := in2_ok (.inl rfl) hn ha hd
theorem notIn_tup {n : Nat} {a : D} {ds : List D} (hn : n < 64) (ha : okD n a = true) (hd : ds.all (okD n) = true) : D.notIn a (.tup ds) = .ok (.bl (!dIn a ds)) := in2_ok (.inr rfl) hn ha hd
/-! comprehensions -/
theorem lcD_ok {α : Type} {mg : D → Env → R Env} {mt : Env → R Bool} {me : Env → R D} {ρ : Env} {emb : α → D} (r : α → Env) (p : α → Bool) (f : α → D) : ∀ (l : List α), (∀ a ∈ l, mg (emb a) ρ = .ok (r a) ∧ mt (r a) = .ok (p a) ∧ (p a = true → me (r a) = .ok (f a))) → lcD mg mt me (l.map emb) ρ = .ok ((l.filter p).map f)
  | [], _ => rfl
  | a :: l, h => by
    obtain ⟨h1, h2, h3⟩ := h a (.head _)
    have ih := lcD_ok r p f l fun b hb => h b (.tail _ hb)
    rw [List.map_cons]
    unfold lcD
    rw [h1]
    show ((mt (r a)).val.bind _) = _
    rw [h2]
    show (bif p a then _ else _) = _
    cases hp : p a with
    | false => rw [List.filter_cons_of_neg (by rw [hp]; decide)]; exact ih
    | true =>
      rw [List.filter_cons_of_pos hp, List.map_cons]
      show ((me (r a)).val.bind _) = _
      rw [h3 hp, ih]
      rfl
theorem mLc_ok {α : Type} {vs : List Nat} {mi : Env → R (List D)} {mg : D → Env → R Env} {mt : Env → R Bool} {me : Env → R D} {ρ : Env} {emb : α → D} {l : List α} (r : α → Env) (p : α → Bool) (f : α → D) (hi : mi ρ = .ok (l.map emb)) (hl : l.length ≤ sizeLine)
    (h : ∀ a ∈ l, mg (emb a) (wipeD ρ vs) = .ok (r a) ∧ mt (r a) = .ok (p a) ∧ (p a = true → me (r a) = .ok (f a))) : mLc vs mi mg mt me ρ = .ok (.lst ((l.filter p).map f)) := by
  unfold mLc
  rw [hi, R.bind_ok, lcD_ok r p f l h]
  show (if _ then _ else _) = _
  rw [if_pos]
  rw [List.length_map]
  exact Nat.le_trans (List.length_filter_le _ _) hl
/-! loops -/
theorem loopD_fold {α S : Type} {f : D → Env → Out} {emb : α → D} (enc : S → Env) (step : S → α → S) : ∀ (l : List α) (s : S), (∀ s a, a ∈ l → f (emb a) (enc s) = .nx (enc (step s a))) → loopD f (l.map emb) (enc s) = .nx (enc (l.foldl step s))
  | [], s, _ => rfl
  | a :: l, s, h => by
    rw [List.map_cons]
    unfold loopD
    rw [h s a (.head _)]
    exact loopD_fold enc step l (step s a) fun s' b hb => h s' b (.tail _ hb)
end G
/-! S19: plain lemmas: arithmetic, subscripts, ranges, all/any. -/
namespace G
open PySem L2
theorem mod_ok {i j : Int} (h : j ≠ 0) : D.mod (.int i) (.int j) = .ok (.int (i.fmod j)) := by
  show (if modC i j = true then _ else _) = _
  rw [if_pos (show modC i j = true from decide_eq_true h)]
theorem fdiv_ok {i j : Int} (h : j ≠ 0) (h2 : j.natAbs < 1073741824) : D.fdiv (.int i) (.int j) = .ok (.int (i.fdiv j)) := by
  show (if divC i j = true then _ else _) = _
  rw [if_pos (by unfold divC; rw [decide_eq_true h, decide_eq_true h2]; rfl)]
theorem mul_okR {i j : Int} (h : -(2 ^ 64) < j) (h2 : j < 2 ^ 64) : D.mul (.int i) (.int j) = .ok (.int (i * j)) := by
  show (if mulC i j = true then _ else _) = _
  rw [if_pos (by unfold mulC; rw [decide_eq_true h, decide_eq_true h2]; simp)]
theorem mul_okL {i j : Int} (h : -(2 ^ 64) < i) (h2 : i < 2 ^ 64) : D.mul (.int i) (.int j) = .ok (.int (i * j)) := by
  show (if mulC i j = true then _ else _) = _
  rw [if_pos (by unfold mulC; rw [decide_eq_true h, decide_eq_true h2]; simp)]
theorem fmod_rg {i j : Int} (h : 0 < j) : 0 ≤ i.fmod j ∧ i.fmod j < j := ⟨Int.fmod_nonneg_of_pos i h, Int.fmod_lt_of_pos i h⟩
theorem dlt (i j : Int) : D.lt (.int i) (.int j) = .ok (.bl (decide (i < j))) := rfl
theorem dle (i j : Int) : D.le (.int i) (.int j) = .ok (.bl (decide (i ≤ j))) := rfl
theorem dgt (i j : Int) : D.gt (.int i) (.int j) = .ok (.bl (decide (j < i))) := rfl
theorem dge (i j : Int) : D.ge (.int i) (.int j) = .ok (.bl (decide (j ≤ i))) := rfl
theorem dq_int (i j : Int) : dq (.int i) (.int j) = decide (i = j) := bool_ext (by rw [dq_iff, D.int.injEq, decide_eq_true_iff])
theorem deq (i j : Int) : D.eq (.int i) (.int j) = .ok (.bl (decide (i = j))) := by rw [eq_ok (n := 0) (by decide) okD_int okD_int, dq_int]
theorem dne (i j : Int) : D.ne (.int i) (.int j) = .ok (.bl (!decide (i = j))) := by rw [ne_ok (n := 0) (by decide) okD_int okD_int, dq_int]
theorem atI_nat {α : Type} {xs : List α} {i : Int} {n : Nat} (e : i = (n : Int)) (h : n < xs.length) : atI xs i = some xs[n] := by
  subst e
  unfold atI ixN
  rw [if_pos (Int.natCast_nonneg n), if_pos (by omega)]
  show xs[((n : Int)).toNat]? = _
  rw [Int.toNat_natCast]
  exact List.getElem?_eq_getElem h
theorem atI_neg {α : Type} {xs : List α} (h : 0 < xs.length) : atI xs (-1) = some (xs[xs.length - 1]'(by omega)) := by
  unfold atI ixN
  rw [if_neg (by decide), if_pos (by omega)]
  show xs[(-1 + (xs.length : Int)).toNat]? = _
  rw [show (-1 + (xs.length : Int)).toNat = xs.length - 1 by omega]
  exact List.getElem?_eq_getElem (by omega)
theorem ix_lst {ds : List D} {i : Int} {d : D} (h : atI ds i = some d) : D.ix (.lst ds) (.int i) = .ok d := by
  show (match atI ds i with | some d => R.ok d | none => .bad) = _
  rw [h]
theorem ix_tup {ds : List D} {i : Int} {d : D} (h : atI ds i = some d) : D.ix (.tup ds) (.int i) = .ok d := by
  show (match atI ds i with | some d => R.ok d | none => .bad) = _
  rw [h]
theorem ix_scr {ds : List D} {i : Int} {d : D} (h : atI ds i = some d) : D.ix (.scr ds) (.int i) = .ok d := by
  show (match atI ds i with | some d => R.ok d | none => .bad) = _
  rw [h]
theorem all_ok {α : Type} (l : List α) (p : α → Bool) : D.all (.lst (l.map fun a => .bl (p a))) = .ok (.bl (l.all p)) := by
  have e : (l.map fun a => D.bl (p a)) = (l.map p).map D.bl := by rw [List.map_map]; rfl
  rw [e]
  unfold D.all dBls
  dsimp only
  rw [bls_map]
  dsimp only
  rw [List.all_map]
  rfl
theorem any_ok {α : Type} (l : List α) (p : α → Bool) : D.any (.lst (l.map fun a => .bl (p a))) = .ok (.bl (l.any p)) := by
  have e : (l.map fun a => D.bl (p a)) = (l.map p).map D.bl := by rw [List.map_map]; rfl
  rw [e]
  unfold D.any dBls
  dsimp only
  rw [bls_map]
  dsimp only
  rw [List.any_map]
  rfl
theorem fn_run {m : DefM} {ds : List D} (h : ds.length = m.n) : m.fn ds = (m.body (ds.map some ++ List.replicate m.k none)).res := by
  unfold DefM.fn
  rw [if_pos h]
/-- an int that is a number -/
abbrev nI (k : Nat) : D := .int (k : Int)
theorem range_nat (n : Nat) : rangeD 0 (n : Int) = (List.range n).map nI := by
  unfold rangeD
  rw [show (((n : Int) - 0).toNat) = n by omega]
  refine List.map_congr_left fun i _ => ?_
  rw [Int.zero_add]
theorem rangeOk_nat {n : Nat} (h : n ≤ 100000) : rangeOk 0 (n : Int) = true := by
  unfold rangeOk
  rw [decide_eq_true (by omega), decide_eq_true (by omega), decide_eq_true (by omega), decide_eq_true (by omega)]
  rfl
theorem range1_ok {n : Nat} (h : n ≤ 100000) : dRange1 (.int (n : Int)) = .ok ((List.range n).map nI) := by
  show (if rangeOk 0 (n : Int) = true then R.ok (rangeD 0 (n : Int)) else .bad) = _
  rw [if_pos (rangeOk_nat h), range_nat]
theorem len_lst (ds : List D) : D.len (.lst ds) = .ok (.int ds.length) := rfl
theorem len_tup (ds : List D) : D.len (.tup ds) = .ok (.int ds.length) := rfl
theorem mTup_ok {m : Env → R (List D)} {ρ : Env} {ds : List D} (h : m ρ = .ok ds) (hl : ds.length ≤ 16777216) : mTup m ρ = .ok (.tup ds) := by
  unfold mTup
  rw [h, R.bind_ok, if_pos (by rw [sizeLine_eq]; exact hl)]
theorem mLst_ok {m : Env → R (List D)} {ρ : Env} {ds : List D} (h : m ρ = .ok ds) (hl : ds.length ≤ 16777216) : mLst m ρ = .ok (.lst ds) := by
  unfold mLst
  rw [h, R.bind_ok, if_pos (by rw [sizeLine_eq]; exact hl)]
theorem sl_le {n : Nat} (h : n ≤ 16777216) : n ≤ sizeLine := by rw [sizeLine_eq]; exact h
theorem nI_ok {n : Nat} (l : List Nat) : (l.map nI).all (okD n) = true := by
  rw [List.all_map, List.all_eq_true]
  exact fun x _ => okD_int
theorem dIn_nI (k : Nat) (l : List Nat) : dIn (nI k) (l.map nI) = decide (k ∈ l) := bool_ext (by
  rw [dIn_iff, decide_eq_true_iff, List.mem_map]
  constructor
  · rintro ⟨a, h, e⟩
    have : (a : Int) = (k : Int) := by injection e
    have : a = k := by omega
    exact this ▸ h
  · exact fun h => ⟨k, h, rfl⟩)
theorem nI_inj {a b : Nat} (h : nI a = nI b) : a = b := by injection h; omega
theorem map_nI_inj : ∀ {l m : List Nat}, l.map nI = m.map nI → l = m
  | [], [], _ => rfl
  | [], _ :: _, h => by cases h
  | _ :: _, [], h => by cases h
  | a :: l, b :: m, h => by
    rw [List.map_cons, List.map_cons, List.cons.injEq] at h
    rw [nI_inj h.1, map_nI_inj h.2]
theorem mLc_map {α : Type} {vs : List Nat} {mi : Env → R (List D)} {mg : D → Env → R Env} {me : Env → R D} {ρ : Env} {emb : α → D} {l : List α} (r : α → Env) (f : α → D) (hi : mi ρ = .ok (l.map emb)) (hl : l.length ≤ 16777216)
    (h : ∀ a ∈ l, mg (emb a) (wipeD ρ vs) = .ok (r a) ∧ me (r a) = .ok (f a)) : mLc vs mi mg mYes me ρ = .ok (.lst (l.map f)) := by
  rw [mLc_ok r (fun _ => true) f hi (sl_le hl) fun a ha => ⟨(h a ha).1, rfl, fun _ => (h a ha).2⟩]
  rw [List.filter_eq_self.mpr fun _ _ => rfl]
theorem mLc_fil {α : Type} {vs : List Nat} {mi : Env → R (List D)} {mg : D → Env → R Env} {mt : Env → R Bool} {me : Env → R D} {ρ : Env} {emb : α → D} {l : List α} (r : α → Env) (p : α → Bool) (f : α → D) (hi : mi ρ = .ok (l.map emb)) (hl : l.length ≤ 16777216)
    (h : ∀ a ∈ l, mg (emb a) (wipeD ρ vs) = .ok (r a) ∧ mt (r a) = .ok (p a) ∧ (p a = true → me (r a) = .ok (f a))) : mLc vs mi mg mt me ρ = .ok (.lst ((l.filter p).map f)) := mLc_ok r p f hi (sl_le hl) h
theorem range2_nat {a b : Nat} (hb : b ≤ 100000) (ha : a ≤ 100000) : dRange2 (.int (a : Int)) (.int (b : Int)) = .ok ((List.range (b - a)).map fun i => nI (a + i)) := by
  show (if rangeOk (a : Int) (b : Int) = true then R.ok (rangeD (a : Int) (b : Int)) else .bad) = _
  rw [if_pos (by unfold rangeOk; rw [decide_eq_true (by omega), decide_eq_true (by omega), decide_eq_true (by omega), decide_eq_true (by omega)]; rfl)]
  unfold rangeD
  rw [show ((b : Int) - (a : Int)).toNat = b - a by omega]
  exact congrArg R.ok (List.map_congr_left fun i _ => by show D.int _ = D.int _; congr 1)
/-! statements, one behind another -/
theorem seq_res {a b : Env → Out} {ρ ρ' : Env} {r : R D} (h1 : a ρ = .nx ρ') (h2 : (b ρ').res = r) : (mSeq a b ρ).res = r := by
  unfold mSeq
  rw [h1]
  exact h2
theorem seq_nx {a b : Env → Out} {ρ ρ' : Env} {o : Out} (h1 : a ρ = .nx ρ') (h2 : b ρ' = o) : mSeq a b ρ = o := by
  unfold mSeq
  rw [h1]
  exact h2
theorem seq_rt {a b : Env → Out} {ρ : Env} {d : D} (h1 : a ρ = .rt d) : mSeq a b ρ = .rt d := by
  unfold mSeq
  rw [h1]
  rfl
theorem ret_res {a : Env → R D} {ρ : Env} {r : R D} (h : a ρ = r) : (mRet a ρ).res = r := by
  unfold mRet
  rw [h]
  cases r <;> rfl
theorem set_nx {a : Env → R D} {ρ : Env} {i : Nat} {d : D} (h : a ρ = .ok d) : mSet i a ρ = .nx (ρ.set i (some d)) := by
  unfold mSet
  rw [h]
  rfl
theorem for_nx {mi : Env → R (List D)} {mg : D → Env → R Env} {mb : Env → Out} {ρ ρ' : Env} {ds : List D} (hi : mi ρ = .ok ds) (hl : loopD (stepD mg mb) ds ρ = .nx ρ') : mFor mi mg mb ρ = .nx ρ' := by
  unfold mFor
  rw [hi]
  exact hl
theorem if_t {c : Env → R Bool} {a b : Env → Out} {ρ : Env} {o : Out} (h : c ρ = .ok true) (h2 : a ρ = o) : mIf c a b ρ = o := by
  unfold mIf
  rw [h]
  exact h2
theorem if_f {c : Env → R Bool} {a b : Env → Out} {ρ : Env} {o : Out} (h : c ρ = .ok false) (h2 : b ρ = o) : mIf c a b ρ = o := by
  unfold mIf
  rw [h]
  exact h2
theorem loop_nil {f : D → Env → Out} {ρ : Env} : loopD f [] ρ = .nx ρ := rfl
theorem loop_cons {mg : D → Env → R Env} {mb : Env → Out} {d : D} {ds : List D} {ρ ρ1 ρ2 : Env} {o : Out} (h1 : mg d ρ = .ok ρ1) (h2 : mb ρ1 = .nx ρ2) (h3 : loopD (stepD mg mb) ds ρ2 = o) : loopD (stepD mg mb) (d :: ds) ρ = o := by
  unfold loopD stepD
  rw [h1]
  dsimp only
  rw [h2]
  exact h3
theorem mut_append {ms : Env → R (List D)} {i : Nat} {ρ : Env} {xs : List D} {y : D} (h1 : ρ[i]? = some (some (.lst xs))) (h2 : ms ρ = .ok [y]) (h3 : xs.length < 16777216) : mMut "list" i dAppend ms kDrop ρ = .nx (ρ.set i (some (.lst (xs ++ [y])))) := by
  unfold mMut
  rw [h1]
  dsimp only
  rw [if_pos (show tyOk "list" (.lst xs) = true from rfl), h2]
  show (match dAppend (.lst xs) [y] with | .ok (d', e) => kDrop e (ρ.set i (some d')) | _ => .bad) = _
  have e : dAppend (.lst xs) [y] = .ok (.lst (xs ++ [y]), .non) := by
    unfold dAppend
    dsimp only
    rw [if_pos (by rw [sizeLine_eq]; exact h3)]
  rw [e]
  rfl
theorem mut_insert {ms : Env → R (List D)} {i n : Nat} {ρ : Env} {xs : List D} {y : D} (h1 : ρ[i]? = some (some (.lst xs))) (h2 : ms ρ = .ok [.int (n : Int), y]) (h3 : xs.length < 100000) (h4 : n ≤ 100000) : mMut "list" i dInsert ms kDrop ρ = .nx (ρ.set i (some (.lst (xs.take n ++ [y] ++ xs.drop n)))) := by
  unfold mMut
  rw [h1]
  dsimp only
  rw [if_pos (show tyOk "list" (.lst xs) = true from rfl), h2]
  show (match dInsert (.lst xs) [.int (n : Int), y] with | .ok (d', e) => kDrop e (ρ.set i (some d')) | _ => .bad) = _
  have e : dInsert (.lst xs) [.int (n : Int), y] = .ok (.lst (xs.take n ++ [y] ++ xs.drop n), .non) := by
    unfold dInsert
    dsimp only
    rw [if_pos ⟨by rw [sizeLine_eq]; omega, by omega, by omega⟩, Int.toNat_natCast]
  rw [e]
  rfl
end G
namespace L
open PySem PySem.Spec PyProof.Rows L2 G
def top (i : Nat) : Stmt := PySem.Challenge.pw_chesthours_k96_two_way_deals.main.body.getD i (.Pass ⟨0, 0, 0, 0⟩)
abbrev s__law_mixed : Stmt := top 58
theorem sc__law_mixed : FnScope ["cell", "k", "first"] ["cell", "k"] (defScope s__law_mixed) := ⟨rfl, rfl, rfl, by decide +kernel, rfl, by decide +kernel, by decide +kernel⟩
def b__law_mixed : G.Env → Out := (mSeq (mSet 2 (m2 D.add (m2 D.add (m2 D.mul (mCall (d1 D.toInt) (mCons (mVar 0) mNil)) (mC (.int 48271))) (m2 D.mul (mVar 1) (mC (.int 69621)))) (mC (.int 11)))) (mRet (m2 D.mod (mCall (d1 D.toInt) (mCons (m2 D.add (m2 D.mul (mVar 2) (mC (.int 16807))) (m2 D.fdiv (mVar 2) (mC (.int 8191)))) mNil)) (mC (.int 2147483647)))))
def m__law_mixed : DefM := ⟨2, 1, b__law_mixed⟩
theorem k__law_mixed {P : Program} {w : World} {K : PySem.W.Frag} {mg : Str → Option Value} {base : Heap} {f : Addr} {fd : FuncData} (F : FnP K "_law_mixed" s__law_mixed f fd) (g : mg "_law_mixed" = some (.ref f)) (n_int : mg "int" = none) : Fd P w K mg base 1 "_law_mixed" ["cell", "k"] f fd m__law_mixed.fn := by
  refine fd_of (k := 0) (N := ["cell", "k", "first"]) (m := m__law_mixed) F sc__law_mixed g (F.bindsN fun _ _ _ _ _ _ us hl => match us, hl with | [_, _], _ => rfl) rfl rfl fun cdv A outer s H E hr tk => ?_
  have nd := sc__law_mixed.nd
  have hu := hu65 hr
  show ∃ t o', MSs _ _ _ _ _ _ o' t b__law_mixed
  unfold b__law_mixed
  exact ⟨_, [], (mss_cons (ms_set 2 nd (me_add (me_add (me_mul (me_ct pu_int call_int1 n_int b_int (ma_cons (me_var 0) ma_nil)) me_int) (me_mul (me_var 1) me_int)) me_int)) (mss_one (ms_ret (me_mod (me_ct pu_int call_int1 n_int b_int (ma_cons (me_add (me_mul (me_var 2) me_int) (me_fdiv (me_var 2) me_int)) ma_nil)) me_int))))⟩
abbrev s__law_row : Stmt := top 59
theorem sc__law_row : FnScope ["cell", "many", "top", "found", "left", "great", "k"] ["cell", "many", "top"] (defScope s__law_row) := ⟨rfl, rfl, rfl, by decide +kernel, rfl, by decide +kernel, by decide +kernel⟩
def b__law_row : G.Env → Out := (mSeq (mSet 3 (mLst mNil)) (mSeq (mSet 4 (mCall (d1 D.toInt) (mCons (mVar 0) mNil))) (mSeq (mSet 5 (m2 D.ge (mVar 4) (mC (.int 1000000000000000000)))) (mSeq (mFor (mSq dRange1 (mVar 1)) (gnName 6) (mIf (mB (mVar 5)) (mSeq (mMut "list" 3 dAppend (mCons (m2 D.mod (mCall (d1 D.toInt) (mCons (mVar 4) mNil)) (mVar 2)) mNil) kDrop) (mSet 4 (m2 D.fdiv (mVar 4) (mVar 2)))) (mMut "list" 3 dAppend (mCons (m2 D.mod (m2 D.fdiv (mCallN 2 m__law_mixed.fn (mCons (mVar 0) (mCons (mVar 6) mNil))) (mC (.int 7))) (mVar 2)) mNil) kDrop))) (mRet (mVar 3))))))
def m__law_row : DefM := ⟨3, 4, b__law_row⟩
theorem k__law_row {P : Program} {w : World} {K : PySem.W.Frag} {mg : Str → Option Value} {base : Heap} {f : Addr} {fd : FuncData} (F : FnP K "_law_row" s__law_row f fd) (g : mg "_law_row" = some (.ref f)) {f__law_mixed : Addr} {fd__law_mixed : FuncData} (h__law_mixed : Fd P w K mg base 1 "_law_mixed" ["cell", "k"] f__law_mixed fd__law_mixed m__law_mixed.fn) (n_int : mg "int" = none) (n_range : mg "range" = none) : Fd P w K mg base 2 "_law_row" ["cell", "many", "top"] f fd m__law_row.fn := by
  refine fd_of (k := 1) (N := ["cell", "many", "top", "found", "left", "great", "k"]) (m := m__law_row) F sc__law_row g (F.bindsN fun _ _ _ _ _ _ us hl => match us, hl with | [_, _, _], _ => rfl) rfl rfl fun cdv A outer s H E hr tk => ?_
  have nd := sc__law_row.nd
  have hu := hu65 hr
  show ∃ t o', MSs _ _ _ _ _ _ o' t b__law_row
  unfold b__law_row
  exact ⟨_, [], (mss_cons (ms_setO 3 nd (mo_lst ma_nil)) (mss_cons (ms_set 4 nd (me_ct pu_int call_int1 n_int b_int (ma_cons (me_var 0) ma_nil))) (mss_cons (ms_set 5 nd (me_cmp c_ge (me_var 4) me_int)) (mss_cons (ms_weak [3] (ms_for (passes_of rfl) rfl (mi_range1 n_range (me_var 1)) (mg_name 6 nd) (mss_one (ms_if (mt_val (me_var 5)) (mss_cons (ms_mut m_append 3 (ma_cons (me_mod (me_ct pu_int call_int1 n_int b_int (ma_cons (me_var 4) ma_nil)) (me_var 2)) ma_nil)) (mss_one (ms_set 4 nd (me_fdiv (me_var 4) (me_var 2))))) (mss_one (ms_mut m_append 3 (ma_cons (me_mod (me_fdiv (me_call tk h__law_mixed (hr.mono (by decide)) (ma_cons (me_var 0) (ma_cons (me_var 6) ma_nil))) me_int) (me_var 2)) ma_nil))))))) (mss_one (ms_ret (me_var 3)))))))⟩
abbrev s__law_deals : Stmt := top 60
theorem sc__law_deals : FnScope ["cell", "more", "many", "digits", "rows", "k", "one"] ["cell", "more"] (defScope s__law_deals) := ⟨rfl, rfl, rfl, by decide +kernel, rfl, by decide +kernel, by decide +kernel⟩
def b__law_deals : G.Env → Out := (mSeq (mSet 2 (m2 D.add (mC (.int 2)) (m2 D.ix (mCallN 3 m__law_row.fn (mCons (mVar 0) (mCons (mC (.int 1)) (mCons (mC (.int 5)) mNil)))) (mC (.int 0))))) (mSeq (mSet 3 (mCallN 3 m__law_row.fn (mCons (mVar 1) (mCons (mC (.int 40)) (mCons (mC (.int 60)) mNil))))) (mSeq (mSet 4 (mLst mNil)) (mSeq (mFor (mSq dRange1 (m2 D.add (mC (.int 1)) (m2 D.mod (m2 D.ix (mVar 3) (mC (.int 0))) (mC (.int 7))))) (gnName 5) (mSeq (mSet 6 (m2 D.mod (m2 D.ix (mVar 3) (m2 D.add (mC (.int 1)) (m2 D.mul (mC (.int 2)) (mVar 5)))) (mVar 2))) (mMut "list" 4 dAppend (mCons (mTup (mCons (mVar 6) (mCons (m2 D.mod (mCall (d1 D.toInt) (mCons (m2 D.add (m2 D.add (mVar 6) (mC (.int 1))) (m2 D.mod (m2 D.ix (mVar 3) (m2 D.add (mC (.int 2)) (m2 D.mul (mC (.int 2)) (mVar 5)))) (m2 D.sub (mVar 2) (mC (.int 1))))) mNil)) (mVar 2)) mNil))) mNil) kDrop))) (mRet (mTup (mCons (mVar 2) (mCons (mCall (d1 D.toTup) (mCons (mVar 4) mNil)) mNil))))))))
def m__law_deals : DefM := ⟨2, 5, b__law_deals⟩
theorem k__law_deals {P : Program} {w : World} {K : PySem.W.Frag} {mg : Str → Option Value} {base : Heap} {f : Addr} {fd : FuncData} (F : FnP K "_law_deals" s__law_deals f fd) (g : mg "_law_deals" = some (.ref f)) {f__law_row : Addr} {fd__law_row : FuncData} (h__law_row : Fd P w K mg base 2 "_law_row" ["cell", "many", "top"] f__law_row fd__law_row m__law_row.fn) (n_range : mg "range" = none) (n_int : mg "int" = none) (n_tuple : mg "tuple" = none) : Fd P w K mg base 3 "_law_deals" ["cell", "more"] f fd m__law_deals.fn := by
  refine fd_of (k := 2) (N := ["cell", "more", "many", "digits", "rows", "k", "one"]) (m := m__law_deals) F sc__law_deals g (F.bindsN fun _ _ _ _ _ _ us hl => match us, hl with | [_, _], _ => rfl) rfl rfl fun cdv A outer s H E hr tk => ?_
  have nd := sc__law_deals.nd
  have hu := hu65 hr
  show ∃ t o', MSs _ _ _ _ _ _ o' t b__law_deals
  unfold b__law_deals
  exact ⟨_, [], (mss_cons (ms_set 2 nd (me_add me_int (me_ix (me_call tk h__law_row (hr.mono (by decide)) (ma_cons (me_var 0) (ma_cons me_int (ma_cons me_int ma_nil)))) me_int))) (mss_cons (ms_set 3 nd (me_call tk h__law_row (hr.mono (by decide)) (ma_cons (me_var 1) (ma_cons me_int (ma_cons me_int ma_nil))))) (mss_cons (ms_setO 4 nd (mo_lst ma_nil)) (mss_cons (ms_weak [4] (ms_for (passes_of rfl) rfl (mi_range1 n_range (me_add me_int (me_mod (me_ix (me_var 3) me_int) me_int))) (mg_name 5 nd) (mss_cons (ms_set 6 nd (me_mod (me_ix (me_var 3) (me_add me_int (me_mul me_int (me_var 5)))) (me_var 2))) (mss_one (ms_mut m_append 4 (ma_cons (me_tup (ma_cons (me_var 6) (ma_cons (me_mod (me_ct pu_int call_int1 n_int b_int (ma_cons (me_add (me_add (me_var 6) me_int) (me_mod (me_ix (me_var 3) (me_add me_int (me_mul me_int (me_var 5)))) (me_sub (me_var 2) me_int))) ma_nil)) (me_var 2)) ma_nil))) ma_nil)))))) (mss_one (ms_ret (me_tup (ma_cons (me_var 2) (ma_cons (me_ct pu_tuple call_tuple_of n_tuple b_tuple (ma_cons (me_var 4) ma_nil)) ma_nil)))))))))⟩
abbrev s__law_at : Stmt := top 61
theorem sc__law_at : FnScope ["script", "k"] ["script", "k"] (defScope s__law_at) := ⟨rfl, rfl, rfl, by decide +kernel, rfl, by decide +kernel, by decide +kernel⟩
def b__law_at : G.Env → Out := (mSeq (mIf (mB (m2 D.lt (mVar 1) (mCall (d1 D.len) (mCons (mVar 0) mNil)))) (mRet (mCall (d1 D.toInt) (mCons (m2 D.ix (mVar 0) (mVar 1)) mNil))) mNext) (mRet (m2 D.add (mC (.int 5)) (m2 D.mul (mC (.int 3)) (mVar 1)))))
def m__law_at : DefM := ⟨2, 0, b__law_at⟩
theorem k__law_at {P : Program} {w : World} {K : PySem.W.Frag} {mg : Str → Option Value} {base : Heap} {f : Addr} {fd : FuncData} (F : FnP K "_law_at" s__law_at f fd) (g : mg "_law_at" = some (.ref f)) (n_len : mg "len" = none) (n_int : mg "int" = none) : Fd P w K mg base 1 "_law_at" ["script", "k"] f fd m__law_at.fn := by
  refine fd_of (k := 0) (N := ["script", "k"]) (m := m__law_at) F sc__law_at g (F.bindsN fun _ _ _ _ _ _ us hl => match us, hl with | [_, _], _ => rfl) rfl rfl fun cdv A outer s H E hr tk => ?_
  have nd := sc__law_at.nd
  have hu := hu65 hr
  show ∃ t o', MSs _ _ _ _ _ _ o' t b__law_at
  unfold b__law_at
  exact ⟨_, [], (mss_cons (ms_if (mt_cmp c_lt (me_var 1) (me_cb pu_len call_lenAll n_len b_len (ma_cons (me_var 0) ma_nil))) (mss_one (ms_ret (me_ct pu_int call_int1 n_int b_int (ma_cons (me_ix (me_var 0) (me_var 1)) ma_nil)))) mss_nil) (mss_one (ms_ret (me_add me_int (me_mul me_int (me_var 1))))))⟩
abbrev s_is_tuple_of : Stmt := top 13
theorem sc_is_tuple_of : FnScope ["thing", "many"] ["thing", "many"] (defScope s_is_tuple_of) := ⟨rfl, rfl, rfl, by decide +kernel, rfl, by decide +kernel, by decide +kernel⟩
def b_is_tuple_of : G.Env → Out := (mRet (mAndV (mCall (d2 D.isi) (mCons (mVar 0) (mCons (mC (.ty "tuple")) mNil))) (m2 D.eq (mCall (d1 D.len) (mCons (mVar 0) mNil)) (mVar 1))))
def m_is_tuple_of : DefM := ⟨2, 0, b_is_tuple_of⟩
theorem k_is_tuple_of {P : Program} {w : World} {K : PySem.W.Frag} {mg : Str → Option Value} {base : Heap} {f : Addr} {fd : FuncData} (F : FnP K "is_tuple_of" s_is_tuple_of f fd) (g : mg "is_tuple_of" = some (.ref f)) (n_isinstance : mg "isinstance" = none) (n_tuple : mg "tuple" = none) (n_len : mg "len" = none) : Fd P w K mg base 1 "is_tuple_of" ["thing", "many"] f fd m_is_tuple_of.fn := by
  refine fd_of (k := 0) (N := ["thing", "many"]) (m := m_is_tuple_of) F sc_is_tuple_of g (F.bindsN fun _ _ _ _ _ _ us hl => match us, hl with | [_, _], _ => rfl) rfl rfl fun cdv A outer s H E hr tk => ?_
  have nd := sc_is_tuple_of.nd
  have hu := hu65 hr
  show ∃ t o', MSs _ _ _ _ _ _ o' t b_is_tuple_of
  unfold b_is_tuple_of
  exact ⟨_, [], (mss_one (ms_ret (me_and (me_cb pu_isi call_isi n_isinstance b_isi (ma_cons (me_var 0) (ma_cons (me_ty n_tuple b_tuple) ma_nil))) (me_one (me_cmp (c_eq hu) (me_cb pu_len call_lenAll n_len b_len (ma_cons (me_var 0) ma_nil)) (me_var 1))))))⟩
abbrev s_is_integer : Stmt := top 10
theorem sc_is_integer : FnScope ["thing"] ["thing"] (defScope s_is_integer) := ⟨rfl, rfl, rfl, by decide +kernel, rfl, by decide +kernel, by decide +kernel⟩
def b_is_integer : G.Env → Out := (mRet (mAndV (mCall (d2 D.isi) (mCons (mVar 0) (mCons (mC (.ty "int")) mNil))) (mNotV (mCall (d2 D.isi) (mCons (mVar 0) (mCons (mC (.ty "bool")) mNil))))))
def m_is_integer : DefM := ⟨1, 0, b_is_integer⟩
theorem k_is_integer {P : Program} {w : World} {K : PySem.W.Frag} {mg : Str → Option Value} {base : Heap} {f : Addr} {fd : FuncData} (F : FnP K "is_integer" s_is_integer f fd) (g : mg "is_integer" = some (.ref f)) (n_isinstance : mg "isinstance" = none) (n_int : mg "int" = none) (n_bool : mg "bool" = none) : Fd P w K mg base 1 "is_integer" ["thing"] f fd m_is_integer.fn := by
  refine fd_of (k := 0) (N := ["thing"]) (m := m_is_integer) F sc_is_integer g (F.bindsN fun _ _ _ _ _ _ us hl => match us, hl with | [_], _ => rfl) rfl rfl fun cdv A outer s H E hr tk => ?_
  have nd := sc_is_integer.nd
  have hu := hu65 hr
  show ∃ t o', MSs _ _ _ _ _ _ o' t b_is_integer
  unfold b_is_integer
  exact ⟨_, [], (mss_one (ms_ret (me_and (me_cb pu_isi call_isi n_isinstance b_isi (ma_cons (me_var 0) (ma_cons (me_ty n_int b_int) ma_nil))) (me_one (me_not (me_cb pu_isi call_isi n_isinstance b_isi (ma_cons (me_var 0) (ma_cons (me_ty n_bool b_bool) ma_nil))))))))⟩
abbrev s_is_between : Stmt := top 11
theorem sc_is_between : FnScope ["thing", "least", "most"] ["thing", "least", "most"] (defScope s_is_between) := ⟨rfl, rfl, rfl, by decide +kernel, rfl, by decide +kernel, by decide +kernel⟩
def b_is_between : G.Env → Out := (mRet (mAndV (mCallN 1 m_is_integer.fn (mCons (mVar 0) mNil)) (mChain D.le D.le (mVar 1) (mVar 0) (mVar 2))))
def m_is_between : DefM := ⟨3, 0, b_is_between⟩
theorem k_is_between {P : Program} {w : World} {K : PySem.W.Frag} {mg : Str → Option Value} {base : Heap} {f : Addr} {fd : FuncData} (F : FnP K "is_between" s_is_between f fd) (g : mg "is_between" = some (.ref f)) {f_is_integer : Addr} {fd_is_integer : FuncData} (h_is_integer : Fd P w K mg base 1 "is_integer" ["thing"] f_is_integer fd_is_integer m_is_integer.fn) : Fd P w K mg base 2 "is_between" ["thing", "least", "most"] f fd m_is_between.fn := by
  refine fd_of (k := 1) (N := ["thing", "least", "most"]) (m := m_is_between) F sc_is_between g (F.bindsN fun _ _ _ _ _ _ us hl => match us, hl with | [_, _, _], _ => rfl) rfl rfl fun cdv A outer s H E hr tk => ?_
  have nd := sc_is_between.nd
  have hu := hu65 hr
  show ∃ t o', MSs _ _ _ _ _ _ o' t b_is_between
  unfold b_is_between
  exact ⟨_, [], (mss_one (ms_ret (me_and (me_call tk h_is_integer (hr.mono (by decide)) (ma_cons (me_var 0) ma_nil)) (me_one (me_chain c_le c_le (me_var 1) (me_var 0) (me_var 2))))))⟩
abbrev s_is_under : Stmt := top 12
theorem sc_is_under : FnScope ["thing", "many"] ["thing", "many"] (defScope s_is_under) := ⟨rfl, rfl, rfl, by decide +kernel, rfl, by decide +kernel, by decide +kernel⟩
def b_is_under : G.Env → Out := (mRet (mAndV (mCallN 1 m_is_integer.fn (mCons (mVar 0) mNil)) (mChain D.le D.lt (mC (.int 0)) (mVar 0) (mVar 1))))
def m_is_under : DefM := ⟨2, 0, b_is_under⟩
theorem k_is_under {P : Program} {w : World} {K : PySem.W.Frag} {mg : Str → Option Value} {base : Heap} {f : Addr} {fd : FuncData} (F : FnP K "is_under" s_is_under f fd) (g : mg "is_under" = some (.ref f)) {f_is_integer : Addr} {fd_is_integer : FuncData} (h_is_integer : Fd P w K mg base 1 "is_integer" ["thing"] f_is_integer fd_is_integer m_is_integer.fn) : Fd P w K mg base 2 "is_under" ["thing", "many"] f fd m_is_under.fn := by
  refine fd_of (k := 1) (N := ["thing", "many"]) (m := m_is_under) F sc_is_under g (F.bindsN fun _ _ _ _ _ _ us hl => match us, hl with | [_, _], _ => rfl) rfl rfl fun cdv A outer s H E hr tk => ?_
  have nd := sc_is_under.nd
  have hu := hu65 hr
  show ∃ t o', MSs _ _ _ _ _ _ o' t b_is_under
  unfold b_is_under
  exact ⟨_, [], (mss_one (ms_ret (me_and (me_call tk h_is_integer (hr.mono (by decide)) (ma_cons (me_var 0) ma_nil)) (me_one (me_chain c_le c_lt me_int (me_var 0) (me_var 1))))))⟩
abbrev s_is_row : Stmt := top 21
theorem sc_is_row : FnScope ["many", "thing"] ["many", "thing"] (defScope s_is_row) := ⟨rfl, rfl, rfl, by decide +kernel, rfl, by decide +kernel, by decide +kernel⟩
def b_is_row : G.Env → Out := (mSeq (mIf (mOr (mNot (mB (mCallN 2 m_is_tuple_of.fn (mCons (mVar 1) (mCons (mC (.int 3)) mNil))))) (mOr (mNot (mB (mCallN 2 m_is_under.fn (mCons (m2 D.ix (mVar 1) (mC (.int 0))) (mCons (mVar 0) mNil))))) (mNot (mB (mCallN 2 m_is_under.fn (mCons (m2 D.ix (mVar 1) (mC (.int 1))) (mCons (mVar 0) mNil))))))) (mRet (mC (.bl false))) mNext) (mRet (mAndV (m2 D.ne (m2 D.ix (mVar 1) (mC (.int 0))) (m2 D.ix (mVar 1) (mC (.int 1)))) (mCallN 3 m_is_between.fn (mCons (m2 D.ix (mVar 1) (mC (.int 2))) (mCons (mC (.int 1)) (mCons (mC (.int (9))) mNil)))))))
def m_is_row : DefM := ⟨2, 0, b_is_row⟩
theorem k_is_row {P : Program} {w : World} {K : PySem.W.Frag} {mg : Str → Option Value} {base : Heap} {f : Addr} {fd : FuncData} (F : FnP K "is_row" s_is_row f fd) (g : mg "is_row" = some (.ref f)) {f_is_tuple_of : Addr} {fd_is_tuple_of : FuncData} (h_is_tuple_of : Fd P w K mg base 1 "is_tuple_of" ["thing", "many"] f_is_tuple_of fd_is_tuple_of m_is_tuple_of.fn) {f_is_under : Addr} {fd_is_under : FuncData} (h_is_under : Fd P w K mg base 2 "is_under" ["thing", "many"] f_is_under fd_is_under m_is_under.fn) {f_is_between : Addr} {fd_is_between : FuncData} (h_is_between : Fd P w K mg base 2 "is_between" ["thing", "least", "most"] f_is_between fd_is_between m_is_between.fn) (c_MOST_DELAY : ∃ t, mg "MOST_DELAY" = some (.int (9) t)) : Fd P w K mg base 3 "is_row" ["many", "thing"] f fd m_is_row.fn := by
  refine fd_of (k := 2) (N := ["many", "thing"]) (m := m_is_row) F sc_is_row g (F.bindsN fun _ _ _ _ _ _ us hl => match us, hl with | [_, _], _ => rfl) rfl rfl fun cdv A outer s H E hr tk => ?_
  have nd := sc_is_row.nd
  have hu := hu65 hr
  show ∃ t o', MSs _ _ _ _ _ _ o' t b_is_row
  unfold b_is_row
  exact ⟨_, [], (mss_cons (ms_if (mt_w (mw_or (mt_not (mt_val (me_call tk h_is_tuple_of (hr.mono (by decide)) (ma_cons (me_var 1) (ma_cons me_int ma_nil))))) (mw_or (mt_not (mt_val (me_call tk h_is_under (hr.mono (by decide)) (ma_cons (me_ix (me_var 1) me_int) (ma_cons (me_var 0) ma_nil))))) (mw_or1 (mt_not (mt_val (me_call tk h_is_under (hr.mono (by decide)) (ma_cons (me_ix (me_var 1) me_int) (ma_cons (me_var 0) ma_nil))))))))) (mss_one (ms_ret me_bl)) mss_nil) (mss_one (ms_ret (me_and (me_cmp (c_ne hu) (me_ix (me_var 1) me_int) (me_ix (me_var 1) me_int)) (me_one (me_call tk h_is_between (hr.mono (by decide)) (ma_cons (me_ix (me_var 1) me_int) (ma_cons me_int (ma_cons (me_gintE c_MOST_DELAY) ma_nil)))))))))⟩
abbrev s_is_web : Stmt := top 22
theorem sc_is_web : FnScope ["thing", "many", "rows", "givers", "takers", "row", "person"] ["thing"] (defScope s_is_web) := ⟨rfl, rfl, rfl, by decide +kernel, rfl, by decide +kernel, by decide +kernel⟩
def b_is_web : G.Env → Out := (mSeq (mIf (mOr (mNot (mB (mCallN 2 m_is_tuple_of.fn (mCons (mVar 0) (mCons (mC (.int 2)) mNil))))) (mNot (mB (mCallN 3 m_is_between.fn (mCons (m2 D.ix (mVar 0) (mC (.int 0))) (mCons (mC (.int (2))) (mCons (mC (.int (6))) mNil))))))) (mRet (mC (.bl false))) mNext) (mSeq (mTg (mVar 0) (gnTup 2 (gnCons (gnName 1) (gnCons (gnName 2) gnNil)))) (mSeq (mIf (mOr (mNot (mB (mCall (d2 D.isi) (mCons (mVar 2) (mCons (mC (.ty "tuple")) mNil))))) (mNot (mB (mChain D.le D.le (mC (.int 1)) (mCall (d1 D.len) (mCons (mVar 2) mNil)) (mC (.int (10))))))) (mRet (mC (.bl false))) mNext) (mSeq (mIf (mNot (mB (mCall (d1 D.all) (mCons (mLc [5] (mSq D.seq (mVar 2)) (gnName 5) mYes (mCall0 2 m_is_row.fn (mCons (mVar 1) (mCons (mVar 5) mNil)))) mNil)))) (mRet (mC (.bl false))) mNext) (mSeq (mTg (mTup (mCons (mLc [5] (mSq D.seq (mVar 2)) (gnName 5) mYes (m2 D.ix (mVar 5) (mC (.int 0)))) (mCons (mLc [5] (mSq D.seq (mVar 2)) (gnName 5) mYes (m2 D.ix (mVar 5) (mC (.int 1)))) mNil))) (gnTup 2 (gnCons (gnName 3) (gnCons (gnName 4) gnNil)))) (mRet (mCall (d1 D.all) (mCons (mLc [6] (mSq dRange1 (mVar 1)) (gnName 6) mYes (mAndV (m2 D.isIn (mVar 6) (mVar 3)) (m2 D.isIn (mVar 6) (mVar 4)))) mNil))))))))
def m_is_web : DefM := ⟨1, 6, b_is_web⟩
theorem k_is_web {P : Program} {w : World} {K : PySem.W.Frag} {mg : Str → Option Value} {base : Heap} {f : Addr} {fd : FuncData} (F : FnP K "is_web" s_is_web f fd) (g : mg "is_web" = some (.ref f)) {f_is_tuple_of : Addr} {fd_is_tuple_of : FuncData} (h_is_tuple_of : Fd P w K mg base 1 "is_tuple_of" ["thing", "many"] f_is_tuple_of fd_is_tuple_of m_is_tuple_of.fn) {f_is_between : Addr} {fd_is_between : FuncData} (h_is_between : Fd P w K mg base 2 "is_between" ["thing", "least", "most"] f_is_between fd_is_between m_is_between.fn) {f_is_row : Addr} {fd_is_row : FuncData} (h_is_row : Fd P w K mg base 3 "is_row" ["many", "thing"] f_is_row fd_is_row m_is_row.fn) (n_isinstance : mg "isinstance" = none) (n_tuple : mg "tuple" = none) (n_len : mg "len" = none) (n_all : mg "all" = none) (n_range : mg "range" = none) (c_FEWEST_PERSONS_webs : ∃ t, mg "FEWEST_PERSONS_webs" = some (.int (2) t)) (c_MOST_PERSONS_webs : ∃ t, mg "MOST_PERSONS_webs" = some (.int (6) t)) (c_MOST_TRANSFERS : ∃ t, mg "MOST_TRANSFERS" = some (.int (10) t)) : Fd P w K mg base 4 "is_web" ["thing"] f fd m_is_web.fn := by
  refine fd_of (k := 3) (N := ["thing", "many", "rows", "givers", "takers", "row", "person"]) (m := m_is_web) F sc_is_web g (F.bindsN fun _ _ _ _ _ _ us hl => match us, hl with | [_], _ => rfl) rfl rfl fun cdv A outer s H E hr tk => ?_
  have nd := sc_is_web.nd
  have hu := hu65 hr
  show ∃ t o', MSs _ _ _ _ _ _ o' t b_is_web
  unfold b_is_web
  exact ⟨_, [], (mss_cons (ms_if (mt_w (mw_or (mt_not (mt_val (me_call tk h_is_tuple_of (hr.mono (by decide)) (ma_cons (me_var 0) (ma_cons me_int ma_nil))))) (mw_or1 (mt_not (mt_val (me_call tk h_is_between (hr.mono (by decide)) (ma_cons (me_ix (me_var 0) me_int) (ma_cons (me_gintE c_FEWEST_PERSONS_webs) (ma_cons (me_gintE c_MOST_PERSONS_webs) ma_nil))))))))) (mss_one (ms_ret me_bl)) mss_nil) (mss_cons (ms_tg (me_var 0) (mg_tup rfl (mgs_cons (mg_name 1 nd) (mgs_cons (mg_name 2 nd) mgs_nil)))) (mss_cons (ms_if (mt_w (mw_or (mt_not (mt_val (me_cb pu_isi call_isi n_isinstance b_isi (ma_cons (me_var 2) (ma_cons (me_ty n_tuple b_tuple) ma_nil))))) (mw_or1 (mt_not (mt_chain c_le c_le me_int (me_cb pu_len call_lenAll n_len b_len (ma_cons (me_var 2) ma_nil)) (me_gintE c_MOST_TRANSFERS)))))) (mss_one (ms_ret me_bl)) mss_nil) (mss_cons (ms_if (mt_not (mt_val (me_cb pu_all (cr_all rfl) n_all b_all (ma_cons (me_o (mo_lc s H [("row", 5)] rfl nd (mi_seq (me_var 2)) (by first | (show blkC ["thing", "many", "rows", "givers", "takers", "row", "person"] (defScope s_is_web) _ _ = true; decide +kernel) | kernel_rfl) (fun _ _ _ _ _ => (mg_name 5 nd)) (fun _ _ _ _ _ => mts_nil) (fun _ _ _ _ _ => (me_callC h_is_row (hr.mono (by decide)) (ma_cons (me_var 1) (ma_cons (me_var 5) ma_nil)))) gw1)) ma_nil)))) (mss_one (ms_ret me_bl)) mss_nil) (mss_cons (ms_tg (me_tup (ma_cons (me_o (mo_lc s H [("row", 5)] rfl nd (mi_seq (me_var 2)) (by first | (show blkC ["thing", "many", "rows", "givers", "takers", "row", "person"] (defScope s_is_web) _ _ = true; decide +kernel) | kernel_rfl) (fun _ _ _ _ _ => (mg_name 5 nd)) (fun _ _ _ _ _ => mts_nil) (fun _ _ _ _ _ => (me_ix (me_var 5) me_int)) gw1)) (ma_cons (me_o (mo_lc s H [("row", 5)] rfl nd (mi_seq (me_var 2)) (by first | (show blkC ["thing", "many", "rows", "givers", "takers", "row", "person"] (defScope s_is_web) _ _ = true; decide +kernel) | kernel_rfl) (fun _ _ _ _ _ => (mg_name 5 nd)) (fun _ _ _ _ _ => mts_nil) (fun _ _ _ _ _ => (me_ix (me_var 5) me_int)) gw1)) ma_nil))) (mg_tup rfl (mgs_cons (mg_name 3 nd) (mgs_cons (mg_name 4 nd) mgs_nil)))) (mss_one (ms_ret (me_cb pu_all (cr_all rfl) n_all b_all (ma_cons (me_o (mo_lc s H [("person", 6)] rfl nd (mi_range1 n_range (me_var 1)) (by first | (show blkC ["thing", "many", "rows", "givers", "takers", "row", "person"] (defScope s_is_web) _ _ = true; decide +kernel) | kernel_rfl) (fun _ _ _ _ _ => (mg_name 6 nd)) (fun _ _ _ _ _ => mts_nil) (fun _ _ _ _ _ => (me_and (me_cmp (c_in hu) (me_var 6) (me_var 3)) (me_one (me_cmp (c_in hu) (me_var 6) (me_var 4))))) gw1)) ma_nil)))))))))⟩
abbrev s_need_web : Stmt := top 23
theorem sc_need_web : FnScope ["thing"] ["thing"] (defScope s_need_web) := ⟨rfl, rfl, rfl, by decide +kernel, rfl, by decide +kernel, by decide +kernel⟩
def b_need_web : G.Env → Out := (mIf (mNot (mB (mCallN 1 m_is_web.fn (mCons (mVar 0) mNil)))) mBad mNext)
def m_need_web : DefM := ⟨1, 0, b_need_web⟩
theorem k_need_web {P : Program} {w : World} {K : PySem.W.Frag} {mg : Str → Option Value} {base : Heap} {f : Addr} {fd : FuncData} (F : FnP K "need_web" s_need_web f fd) (g : mg "need_web" = some (.ref f)) {f_is_web : Addr} {fd_is_web : FuncData} (h_is_web : Fd P w K mg base 4 "is_web" ["thing"] f_is_web fd_is_web m_is_web.fn) : Fd P w K mg base 5 "need_web" ["thing"] f fd m_need_web.fn := by
  refine fd_of (k := 4) (N := ["thing"]) (m := m_need_web) F sc_need_web g (F.bindsN fun _ _ _ _ _ _ us hl => match us, hl with | [_], _ => rfl) rfl rfl fun cdv A outer s H E hr tk => ?_
  have nd := sc_need_web.nd
  have hu := hu65 hr
  show ∃ t o', MSs _ _ _ _ _ _ o' t b_need_web
  unfold b_need_web
  exact ⟨_, [], (mss_one (ms_if (mt_not (mt_val (me_call tk h_is_web (hr.mono (by decide)) (ma_cons (me_var 0) ma_nil)))) (mss_one ms_bad) mss_nil))⟩
abbrev s_all_lots : Stmt := top 34
theorem sc_all_lots : FnScope ["many", "found", "number", "lot"] ["many"] (defScope s_all_lots) := ⟨rfl, rfl, rfl, by decide +kernel, rfl, by decide +kernel, by decide +kernel⟩
def b_all_lots : G.Env → Out := (mSeq (mSet 1 (mLst (mCons (mTup mNil) mNil))) (mSeq (mFor (mSq dRange1 (mVar 0)) (gnName 2) (mSet 1 (m2 D.add (mVar 1) (mLc [3] (mSq D.seq (mVar 1)) (gnName 3) mYes (m2 D.add (mVar 3) (mTup (mCons (mVar 2) mNil))))))) (mRet (mVar 1))))
def m_all_lots : DefM := ⟨1, 3, b_all_lots⟩
theorem k_all_lots {P : Program} {w : World} {K : PySem.W.Frag} {mg : Str → Option Value} {base : Heap} {f : Addr} {fd : FuncData} (F : FnP K "all_lots" s_all_lots f fd) (g : mg "all_lots" = some (.ref f)) (n_range : mg "range" = none) : Fd P w K mg base 1 "all_lots" ["many"] f fd m_all_lots.fn := by
  refine fd_of (k := 0) (N := ["many", "found", "number", "lot"]) (m := m_all_lots) F sc_all_lots g (F.bindsN fun _ _ _ _ _ _ us hl => match us, hl with | [_], _ => rfl) rfl rfl fun cdv A outer s H E hr tk => ?_
  have nd := sc_all_lots.nd
  have hu := hu65 hr
  show ∃ t o', MSs _ _ _ _ _ _ o' t b_all_lots
  unfold b_all_lots
  exact ⟨_, [], (mss_cons (ms_set 1 nd (me_o (mo_lst (ma_cons (me_tup ma_nil) ma_nil)))) (mss_cons (ms_for (passes_of rfl) rfl (mi_range1 n_range (me_var 0)) (mg_name 2 nd) (mss_one (ms_set 1 nd (me_add (me_var 1) (me_o (mo_lc s H [("lot", 3)] rfl nd (mi_seq (me_var 1)) (by first | (show blkC ["many", "found", "number", "lot"] (defScope s_all_lots) _ _ = true; decide +kernel) | kernel_rfl) (fun _ _ _ _ _ => (mg_name 3 nd)) (fun _ _ _ _ _ => mts_nil) (fun _ _ _ _ _ => (me_add (me_var 3) (me_tup (ma_cons (me_var 2) ma_nil)))) gw1)))))) (mss_one (ms_ret (me_var 1)))))⟩
abbrev s_given_by : Stmt := top 24
theorem sc_given_by : FnScope ["web", "person", "number", "row"] ["web", "person"] (defScope s_given_by) := ⟨rfl, rfl, rfl, by decide +kernel, rfl, by decide +kernel, by decide +kernel⟩
def b_given_by : G.Env → Out := (mRet (mLc [2, 3] (mSq (dEnum D.seq) (m2 D.ix (mVar 0) (mC (.int 1)))) (gnTup 2 (gnCons (gnName 2) (gnCons (gnName 3) gnNil))) (mB (m2 D.eq (m2 D.ix (mVar 3) (mC (.int 0))) (mVar 1))) (mVar 2)))
def m_given_by : DefM := ⟨2, 2, b_given_by⟩
theorem k_given_by {P : Program} {w : World} {K : PySem.W.Frag} {mg : Str → Option Value} {base : Heap} {f : Addr} {fd : FuncData} (F : FnP K "given_by" s_given_by f fd) (g : mg "given_by" = some (.ref f)) (n_enumerate : mg "enumerate" = none) : Fd P w K mg base 1 "given_by" ["web", "person"] f fd m_given_by.fn := by
  refine fd_of (k := 0) (N := ["web", "person", "number", "row"]) (m := m_given_by) F sc_given_by g (F.bindsN fun _ _ _ _ _ _ us hl => match us, hl with | [_, _], _ => rfl) rfl rfl fun cdv A outer s H E hr tk => ?_
  have nd := sc_given_by.nd
  have hu := hu65 hr
  show ∃ t o', MSs _ _ _ _ _ _ o' t b_given_by
  unfold b_given_by
  exact ⟨_, [], (mss_one (ms_ret (me_o (mo_lc s H [("number", 2), ("row", 3)] rfl nd (mi_enum n_enumerate (me_ix (me_var 0) me_int)) (by first | (show blkC ["web", "person", "number", "row"] (defScope s_given_by) _ _ = true; decide +kernel) | kernel_rfl) (fun _ _ _ _ _ => (mg_tup rfl (mgs_cons (mg_name 2 nd) (mgs_cons (mg_name 3 nd) mgs_nil)))) (fun _ _ _ _ _ => (mts_one (mt_cmp (c_eq hu) (me_ix (me_var 3) me_int) (me_var 1)))) (fun _ _ _ _ _ => (me_var 2)) gw2))))⟩
abbrev s_got_by : Stmt := top 25
theorem sc_got_by : FnScope ["web", "person", "number", "row"] ["web", "person"] (defScope s_got_by) := ⟨rfl, rfl, rfl, by decide +kernel, rfl, by decide +kernel, by decide +kernel⟩
def b_got_by : G.Env → Out := (mRet (mLc [2, 3] (mSq (dEnum D.seq) (m2 D.ix (mVar 0) (mC (.int 1)))) (gnTup 2 (gnCons (gnName 2) (gnCons (gnName 3) gnNil))) (mB (m2 D.eq (m2 D.ix (mVar 3) (mC (.int 1))) (mVar 1))) (mVar 2)))
def m_got_by : DefM := ⟨2, 2, b_got_by⟩
theorem k_got_by {P : Program} {w : World} {K : PySem.W.Frag} {mg : Str → Option Value} {base : Heap} {f : Addr} {fd : FuncData} (F : FnP K "got_by" s_got_by f fd) (g : mg "got_by" = some (.ref f)) (n_enumerate : mg "enumerate" = none) : Fd P w K mg base 1 "got_by" ["web", "person"] f fd m_got_by.fn := by
  refine fd_of (k := 0) (N := ["web", "person", "number", "row"]) (m := m_got_by) F sc_got_by g (F.bindsN fun _ _ _ _ _ _ us hl => match us, hl with | [_, _], _ => rfl) rfl rfl fun cdv A outer s H E hr tk => ?_
  have nd := sc_got_by.nd
  have hu := hu65 hr
  show ∃ t o', MSs _ _ _ _ _ _ o' t b_got_by
  unfold b_got_by
  exact ⟨_, [], (mss_one (ms_ret (me_o (mo_lc s H [("number", 2), ("row", 3)] rfl nd (mi_enum n_enumerate (me_ix (me_var 0) me_int)) (by first | (show blkC ["web", "person", "number", "row"] (defScope s_got_by) _ _ = true; decide +kernel) | kernel_rfl) (fun _ _ _ _ _ => (mg_tup rfl (mgs_cons (mg_name 2 nd) (mgs_cons (mg_name 3 nd) mgs_nil)))) (fun _ _ _ _ _ => (mts_one (mt_cmp (c_eq hu) (me_ix (me_var 3) me_int) (me_var 1)))) (fun _ _ _ _ _ => (me_var 2)) gw2))))⟩
abbrev s_is_harmed : Stmt := top 31
theorem sc_is_harmed : FnScope ["web", "lot", "person", "number"] ["web", "lot", "person"] (defScope s_is_harmed) := ⟨rfl, rfl, rfl, by decide +kernel, rfl, by decide +kernel, by decide +kernel⟩
def b_is_harmed : G.Env → Out := (mRet (mAndV (mCall (d1 D.any) (mCons (mLc [3] (mSq D.seq (mCallN 2 m_given_by.fn (mCons (mVar 0) (mCons (mVar 2) mNil)))) (gnName 3) mYes (m2 D.isIn (mVar 3) (mVar 1))) mNil)) (mNotV (mCall (d1 D.all) (mCons (mLc [3] (mSq D.seq (mCallN 2 m_got_by.fn (mCons (mVar 0) (mCons (mVar 2) mNil)))) (gnName 3) mYes (m2 D.isIn (mVar 3) (mVar 1))) mNil)))))
def m_is_harmed : DefM := ⟨3, 1, b_is_harmed⟩
theorem k_is_harmed {P : Program} {w : World} {K : PySem.W.Frag} {mg : Str → Option Value} {base : Heap} {f : Addr} {fd : FuncData} (F : FnP K "is_harmed" s_is_harmed f fd) (g : mg "is_harmed" = some (.ref f)) {f_given_by : Addr} {fd_given_by : FuncData} (h_given_by : Fd P w K mg base 1 "given_by" ["web", "person"] f_given_by fd_given_by m_given_by.fn) {f_got_by : Addr} {fd_got_by : FuncData} (h_got_by : Fd P w K mg base 1 "got_by" ["web", "person"] f_got_by fd_got_by m_got_by.fn) (n_any : mg "any" = none) (n_all : mg "all" = none) : Fd P w K mg base 2 "is_harmed" ["web", "lot", "person"] f fd m_is_harmed.fn := by
  refine fd_of (k := 1) (N := ["web", "lot", "person", "number"]) (m := m_is_harmed) F sc_is_harmed g (F.bindsN fun _ _ _ _ _ _ us hl => match us, hl with | [_, _, _], _ => rfl) rfl rfl fun cdv A outer s H E hr tk => ?_
  have nd := sc_is_harmed.nd
  have hu := hu65 hr
  show ∃ t o', MSs _ _ _ _ _ _ o' t b_is_harmed
  unfold b_is_harmed
  exact ⟨_, [], (mss_one (ms_ret (me_and (me_cb pu_any (cr_any rfl) n_any b_any (ma_cons (me_o (mo_lc s H [("number", 3)] rfl nd (mi_seq (me_call tk h_given_by (hr.mono (by decide)) (ma_cons (me_var 0) (ma_cons (me_var 2) ma_nil)))) (by first | (show blkC ["web", "lot", "person", "number"] (defScope s_is_harmed) _ _ = true; decide +kernel) | kernel_rfl) (fun _ _ _ _ _ => (mg_name 3 nd)) (fun _ _ _ _ _ => mts_nil) (fun _ _ _ _ _ => (me_cmp (c_in hu) (me_var 3) (me_var 1))) gw1)) ma_nil)) (me_one (me_not (me_cb pu_all (cr_all rfl) n_all b_all (ma_cons (me_o (mo_lc s H [("number", 3)] rfl nd (mi_seq (me_call tk h_got_by (hr.mono (by decide)) (ma_cons (me_var 0) (ma_cons (me_var 2) ma_nil)))) (by first | (show blkC ["web", "lot", "person", "number"] (defScope s_is_harmed) _ _ = true; decide +kernel) | kernel_rfl) (fun _ _ _ _ _ => (mg_name 3 nd)) (fun _ _ _ _ _ => mts_nil) (fun _ _ _ _ _ => (me_cmp (c_in hu) (me_var 3) (me_var 1))) gw1)) ma_nil)))))))⟩
abbrev s_first_harmed : Stmt := top 32
theorem sc_first_harmed : FnScope ["web", "league", "lot", "person"] ["web", "league", "lot"] (defScope s_first_harmed) := ⟨rfl, rfl, rfl, by decide +kernel, rfl, by decide +kernel, by decide +kernel⟩
def b_first_harmed : G.Env → Out := (mSeq (mFor (mSq dRange1 (m2 D.ix (mVar 0) (mC (.int 0)))) (gnName 3) (mIf (mAnd (mB (m2 D.notIn (mVar 3) (mVar 1))) (mB (mCallN 3 m_is_harmed.fn (mCons (mVar 0) (mCons (mVar 2) (mCons (mVar 3) mNil)))))) (mRet (mVar 3)) mNext)) (mRet (mC .non)))
def m_first_harmed : DefM := ⟨3, 1, b_first_harmed⟩
theorem k_first_harmed {P : Program} {w : World} {K : PySem.W.Frag} {mg : Str → Option Value} {base : Heap} {f : Addr} {fd : FuncData} (F : FnP K "first_harmed" s_first_harmed f fd) (g : mg "first_harmed" = some (.ref f)) {f_is_harmed : Addr} {fd_is_harmed : FuncData} (h_is_harmed : Fd P w K mg base 2 "is_harmed" ["web", "lot", "person"] f_is_harmed fd_is_harmed m_is_harmed.fn) (n_range : mg "range" = none) : Fd P w K mg base 3 "first_harmed" ["web", "league", "lot"] f fd m_first_harmed.fn := by
  refine fd_of (k := 2) (N := ["web", "league", "lot", "person"]) (m := m_first_harmed) F sc_first_harmed g (F.bindsN fun _ _ _ _ _ _ us hl => match us, hl with | [_, _, _], _ => rfl) rfl rfl fun cdv A outer s H E hr tk => ?_
  have nd := sc_first_harmed.nd
  have hu := hu65 hr
  show ∃ t o', MSs _ _ _ _ _ _ o' t b_first_harmed
  unfold b_first_harmed
  exact ⟨_, [], (mss_cons (ms_for (passes_of rfl) rfl (mi_range1 n_range (me_ix (me_var 0) me_int)) (mg_name 3 nd) (mss_one (ms_if (mt_w (mw_and (mt_cmp (c_notIn hu) (me_var 3) (me_var 1)) (mw_and1 (mt_val (me_call tk h_is_harmed (hr.mono (by decide)) (ma_cons (me_var 0) (ma_cons (me_var 2) (ma_cons (me_var 3) ma_nil)))))))) (mss_one (ms_ret (me_var 3))) mss_nil))) (mss_one (ms_ret me_non)))⟩
abbrev s_closed_list : Stmt := top 35
theorem sc_closed_list : FnScope ["web", "league", "lot"] ["web", "league"] (defScope s_closed_list) := ⟨rfl, rfl, rfl, by decide +kernel, rfl, by decide +kernel, by decide +kernel⟩
def b_closed_list : G.Env → Out := (mRet (mCall (d1 D.sortT) (mCons (mLc [2] (mSq D.seq (mCallN 1 m_all_lots.fn (mCons (mCall (d1 D.len) (mCons (m2 D.ix (mVar 0) (mC (.int 1))) mNil)) mNil))) (gnName 2) (mB (m2 D.is (mCall0 3 m_first_harmed.fn (mCons (mVar 0) (mCons (mVar 1) (mCons (mVar 2) mNil)))) (mC .non))) (mVar 2)) mNil)))
def m_closed_list : DefM := ⟨2, 1, b_closed_list⟩
theorem k_closed_list {P : Program} {w : World} {K : PySem.W.Frag} {mg : Str → Option Value} {base : Heap} {f : Addr} {fd : FuncData} (F : FnP K "closed_list" s_closed_list f fd) (g : mg "closed_list" = some (.ref f)) {f_all_lots : Addr} {fd_all_lots : FuncData} (h_all_lots : Fd P w K mg base 1 "all_lots" ["many"] f_all_lots fd_all_lots m_all_lots.fn) {f_first_harmed : Addr} {fd_first_harmed : FuncData} (h_first_harmed : Fd P w K mg base 3 "first_harmed" ["web", "league", "lot"] f_first_harmed fd_first_harmed m_first_harmed.fn) (n_sorted : mg "sorted" = none) (n_len : mg "len" = none) : Fd P w K mg base 4 "closed_list" ["web", "league"] f fd m_closed_list.fn := by
  refine fd_of (k := 3) (N := ["web", "league", "lot"]) (m := m_closed_list) F sc_closed_list g (F.bindsN fun _ _ _ _ _ _ us hl => match us, hl with | [_, _], _ => rfl) rfl rfl fun cdv A outer s H E hr tk => ?_
  have nd := sc_closed_list.nd
  have hu := hu65 hr
  show ∃ t o', MSs _ _ _ _ _ _ o' t b_closed_list
  unfold b_closed_list
  exact ⟨_, [], (mss_one (ms_ret (me_o (mo_cb pu_sortT (TpL.cr_soT hu) n_sorted b_sorted (ma_cons (me_o (mo_lc s H [("lot", 2)] rfl nd (mi_seq (me_call tk h_all_lots (hr.mono (by decide)) (ma_cons (me_cb pu_len call_lenAll n_len b_len (ma_cons (me_ix (me_var 0) me_int) ma_nil)) ma_nil))) (by first | (show blkC ["web", "league", "lot"] (defScope s_closed_list) _ _ = true; decide +kernel) | kernel_rfl) (fun _ _ _ _ _ => (mg_name 2 nd)) (fun _ _ _ _ _ => (mts_one (mt_cmp c_is (me_callC h_first_harmed (hr.mono (by decide)) (ma_cons (me_var 0) (ma_cons (me_var 1) (ma_cons (me_var 2) ma_nil)))) me_non))) (fun _ _ _ _ _ => (me_var 2)) gw1)) ma_nil)))))⟩
abbrev s_got_from_outside : Stmt := top 29
theorem sc_got_from_outside : FnScope ["web", "league", "number", "row"] ["web", "league"] (defScope s_got_from_outside) := ⟨rfl, rfl, rfl, by decide +kernel, rfl, by decide +kernel, by decide +kernel⟩
def b_got_from_outside : G.Env → Out := (mRet (mLc [2, 3] (mSq (dEnum D.seq) (m2 D.ix (mVar 0) (mC (.int 1)))) (gnTup 2 (gnCons (gnName 2) (gnCons (gnName 3) gnNil))) (mAnd (mB (m2 D.notIn (m2 D.ix (mVar 3) (mC (.int 0))) (mVar 1))) (mB (m2 D.isIn (m2 D.ix (mVar 3) (mC (.int 1))) (mVar 1)))) (mVar 2)))
def m_got_from_outside : DefM := ⟨2, 2, b_got_from_outside⟩
theorem k_got_from_outside {P : Program} {w : World} {K : PySem.W.Frag} {mg : Str → Option Value} {base : Heap} {f : Addr} {fd : FuncData} (F : FnP K "got_from_outside" s_got_from_outside f fd) (g : mg "got_from_outside" = some (.ref f)) (n_enumerate : mg "enumerate" = none) : Fd P w K mg base 1 "got_from_outside" ["web", "league"] f fd m_got_from_outside.fn := by
  refine fd_of (k := 0) (N := ["web", "league", "number", "row"]) (m := m_got_from_outside) F sc_got_from_outside g (F.bindsN fun _ _ _ _ _ _ us hl => match us, hl with | [_, _], _ => rfl) rfl rfl fun cdv A outer s H E hr tk => ?_
  have nd := sc_got_from_outside.nd
  have hu := hu65 hr
  show ∃ t o', MSs _ _ _ _ _ _ o' t b_got_from_outside
  unfold b_got_from_outside
  exact ⟨_, [], (mss_one (ms_ret (me_o (mo_lc s H [("number", 2), ("row", 3)] rfl nd (mi_enum n_enumerate (me_ix (me_var 0) me_int)) (by first | (show blkC ["web", "league", "number", "row"] (defScope s_got_from_outside) _ _ = true; decide +kernel) | kernel_rfl) (fun _ _ _ _ _ => (mg_tup rfl (mgs_cons (mg_name 2 nd) (mgs_cons (mg_name 3 nd) mgs_nil)))) (fun _ _ _ _ _ => (mts_one (mt_w (mw_and (mt_cmp (c_notIn hu) (me_ix (me_var 3) me_int) (me_var 1)) (mw_and1 (mt_cmp (c_in hu) (me_ix (me_var 3) me_int) (me_var 1))))))) (fun _ _ _ _ _ => (me_var 2)) gw2))))⟩
abbrev s_given_outside : Stmt := top 30
theorem sc_given_outside : FnScope ["web", "league", "number", "row"] ["web", "league"] (defScope s_given_outside) := ⟨rfl, rfl, rfl, by decide +kernel, rfl, by decide +kernel, by decide +kernel⟩
def b_given_outside : G.Env → Out := (mRet (mLc [2, 3] (mSq (dEnum D.seq) (m2 D.ix (mVar 0) (mC (.int 1)))) (gnTup 2 (gnCons (gnName 2) (gnCons (gnName 3) gnNil))) (mAnd (mB (m2 D.isIn (m2 D.ix (mVar 3) (mC (.int 0))) (mVar 1))) (mB (m2 D.notIn (m2 D.ix (mVar 3) (mC (.int 1))) (mVar 1)))) (mVar 2)))
def m_given_outside : DefM := ⟨2, 2, b_given_outside⟩
theorem k_given_outside {P : Program} {w : World} {K : PySem.W.Frag} {mg : Str → Option Value} {base : Heap} {f : Addr} {fd : FuncData} (F : FnP K "given_outside" s_given_outside f fd) (g : mg "given_outside" = some (.ref f)) (n_enumerate : mg "enumerate" = none) : Fd P w K mg base 1 "given_outside" ["web", "league"] f fd m_given_outside.fn := by
  refine fd_of (k := 0) (N := ["web", "league", "number", "row"]) (m := m_given_outside) F sc_given_outside g (F.bindsN fun _ _ _ _ _ _ us hl => match us, hl with | [_, _], _ => rfl) rfl rfl fun cdv A outer s H E hr tk => ?_
  have nd := sc_given_outside.nd
  have hu := hu65 hr
  show ∃ t o', MSs _ _ _ _ _ _ o' t b_given_outside
  unfold b_given_outside
  exact ⟨_, [], (mss_one (ms_ret (me_o (mo_lc s H [("number", 2), ("row", 3)] rfl nd (mi_enum n_enumerate (me_ix (me_var 0) me_int)) (by first | (show blkC ["web", "league", "number", "row"] (defScope s_given_outside) _ _ = true; decide +kernel) | kernel_rfl) (fun _ _ _ _ _ => (mg_tup rfl (mgs_cons (mg_name 2 nd) (mgs_cons (mg_name 3 nd) mgs_nil)))) (fun _ _ _ _ _ => (mts_one (mt_w (mw_and (mt_cmp (c_in hu) (me_ix (me_var 3) me_int) (me_var 1)) (mw_and1 (mt_cmp (c_notIn hu) (me_ix (me_var 3) me_int) (me_var 1))))))) (fun _ _ _ _ _ => (me_var 2)) gw2))))⟩
abbrev s_end_of : Stmt := top 36
theorem sc_end_of : FnScope ["web", "league", "lot", "gets", "gives", "number"] ["web", "league", "lot"] (defScope s_end_of) := ⟨rfl, rfl, rfl, by decide +kernel, rfl, by decide +kernel, by decide +kernel⟩
def b_end_of : G.Env → Out := (mSeq (mSet 3 (mLc [5] (mSq D.seq (mCallN 2 m_got_from_outside.fn (mCons (mVar 0) (mCons (mVar 1) mNil)))) (gnName 5) mYes (m2 D.isIn (mVar 5) (mVar 2)))) (mSeq (mSet 4 (mLc [5] (mSq D.seq (mCallN 2 m_given_outside.fn (mCons (mVar 0) (mCons (mVar 1) mNil)))) (gnName 5) mYes (m2 D.isIn (mVar 5) (mVar 2)))) (mSeq (mIf (mB (mCall (d1 D.all) (mCons (mVar 3) mNil))) (mRet (mIte (mB (mCall (d1 D.all) (mCons (mVar 4) mNil))) (mC (.str "deal")) (mC (.str "discount")))) mNext) (mSeq (mIf (mB (mCall (d1 D.any) (mCons (mVar 4) mNil))) (mRet (mC (.str "under"))) mNext) (mRet (mIte (mB (mCall (d1 D.any) (mCons (mVar 3) mNil))) (mC (.str "free")) (mC (.str "none"))))))))
def m_end_of : DefM := ⟨3, 3, b_end_of⟩
theorem k_end_of {P : Program} {w : World} {K : PySem.W.Frag} {mg : Str → Option Value} {base : Heap} {f : Addr} {fd : FuncData} (F : FnP K "end_of" s_end_of f fd) (g : mg "end_of" = some (.ref f)) {f_got_from_outside : Addr} {fd_got_from_outside : FuncData} (h_got_from_outside : Fd P w K mg base 1 "got_from_outside" ["web", "league"] f_got_from_outside fd_got_from_outside m_got_from_outside.fn) {f_given_outside : Addr} {fd_given_outside : FuncData} (h_given_outside : Fd P w K mg base 1 "given_outside" ["web", "league"] f_given_outside fd_given_outside m_given_outside.fn) (n_all : mg "all" = none) (n_any : mg "any" = none) : Fd P w K mg base 2 "end_of" ["web", "league", "lot"] f fd m_end_of.fn := by
  refine fd_of (k := 1) (N := ["web", "league", "lot", "gets", "gives", "number"]) (m := m_end_of) F sc_end_of g (F.bindsN fun _ _ _ _ _ _ us hl => match us, hl with | [_, _, _], _ => rfl) rfl rfl fun cdv A outer s H E hr tk => ?_
  have nd := sc_end_of.nd
  have hu := hu65 hr
  show ∃ t o', MSs _ _ _ _ _ _ o' t b_end_of
  unfold b_end_of
  exact ⟨_, [], (mss_cons (ms_weak [3] (ms_setLc 3 s H [("number", 5)] rfl nd (mi_seq (me_call tk h_got_from_outside (hr.mono (by decide)) (ma_cons (me_var 0) (ma_cons (me_var 1) ma_nil)))) (by first | (show blkC ["web", "league", "lot", "gets", "gives", "number"] (defScope s_end_of) _ _ = true; decide +kernel) | kernel_rfl) (fun _ _ _ _ _ => (mg_name 5 nd)) (fun _ _ _ _ _ => mts_nil) (fun _ _ _ _ _ => (me_cmp (c_in hu) (me_var 5) (me_var 2))) gw1)) (mss_cons (ms_weak [4] (ms_setLc 4 s H [("number", 5)] rfl nd (mi_seq (me_call tk h_given_outside (hr.mono (by decide)) (ma_cons (me_var 0) (ma_cons (me_var 1) ma_nil)))) (by first | (show blkC ["web", "league", "lot", "gets", "gives", "number"] (defScope s_end_of) _ _ = true; decide +kernel) | kernel_rfl) (fun _ _ _ _ _ => (mg_name 5 nd)) (fun _ _ _ _ _ => mts_nil) (fun _ _ _ _ _ => (me_cmp (c_in hu) (me_var 5) (me_var 2))) gw1)) (mss_cons (ms_if (mt_val (me_cb pu_all (cr_all rfl) n_all b_all (ma_cons (me_var 3) ma_nil))) (mss_one (ms_ret (me_if (mt_val (me_cb pu_all (cr_all rfl) n_all b_all (ma_cons (me_var 4) ma_nil))) me_str me_str))) mss_nil) (mss_cons (ms_if (mt_val (me_cb pu_any (cr_any rfl) n_any b_any (ma_cons (me_var 4) ma_nil))) (mss_one (ms_ret me_str)) mss_nil) (mss_one (ms_ret (me_if (mt_val (me_cb pu_any (cr_any rfl) n_any b_any (ma_cons (me_var 3) ma_nil))) me_str me_str)))))))⟩
abbrev s_gain_of : Stmt := top 37
theorem sc_gain_of : FnScope ["web", "league", "lot"] ["web", "league"] (defScope s_gain_of) := ⟨rfl, rfl, rfl, by decide +kernel, rfl, by decide +kernel, by decide +kernel⟩
def b_gain_of : G.Env → Out := (mSeq (mFor (mSq D.seq (mCallN 2 m_closed_list.fn (mCons (mVar 0) (mCons (mVar 1) mNil)))) (gnName 2) (mIf (mB (m2 D.isIn (mCallN 3 m_end_of.fn (mCons (mVar 0) (mCons (mVar 1) (mCons (mVar 2) mNil)))) (mTup (mCons (mC (.str "discount")) (mCons (mC (.str "free")) mNil))))) (mRet (mVar 2)) mNext)) (mRet (mC .non)))
def m_gain_of : DefM := ⟨2, 1, b_gain_of⟩
theorem k_gain_of {P : Program} {w : World} {K : PySem.W.Frag} {mg : Str → Option Value} {base : Heap} {f : Addr} {fd : FuncData} (F : FnP K "gain_of" s_gain_of f fd) (g : mg "gain_of" = some (.ref f)) {f_closed_list : Addr} {fd_closed_list : FuncData} (h_closed_list : Fd P w K mg base 4 "closed_list" ["web", "league"] f_closed_list fd_closed_list m_closed_list.fn) {f_end_of : Addr} {fd_end_of : FuncData} (h_end_of : Fd P w K mg base 2 "end_of" ["web", "league", "lot"] f_end_of fd_end_of m_end_of.fn) : Fd P w K mg base 5 "gain_of" ["web", "league"] f fd m_gain_of.fn := by
  refine fd_of (k := 4) (N := ["web", "league", "lot"]) (m := m_gain_of) F sc_gain_of g (F.bindsN fun _ _ _ _ _ _ us hl => match us, hl with | [_, _], _ => rfl) rfl rfl fun cdv A outer s H E hr tk => ?_
  have nd := sc_gain_of.nd
  have hu := hu65 hr
  show ∃ t o', MSs _ _ _ _ _ _ o' t b_gain_of
  unfold b_gain_of
  exact ⟨_, [], (mss_cons (ms_for (passes_of rfl) rfl (mi_seq (me_call tk h_closed_list (hr.mono (by decide)) (ma_cons (me_var 0) (ma_cons (me_var 1) ma_nil)))) (mg_name 2 nd) (mss_one (ms_if (mt_cmp (c_in hu) (me_call tk h_end_of (hr.mono (by decide)) (ma_cons (me_var 0) (ma_cons (me_var 1) (ma_cons (me_var 2) ma_nil)))) (me_tup (ma_cons me_str (ma_cons me_str ma_nil)))) (mss_one (ms_ret (me_var 2))) mss_nil))) (mss_one (ms_ret me_non)))⟩
abbrev s_gain_league : Stmt := top 38
theorem sc_gain_league : FnScope ["web", "league", "lot"] ["web"] (defScope s_gain_league) := ⟨rfl, rfl, rfl, by decide +kernel, rfl, by decide +kernel, by decide +kernel⟩
def b_gain_league : G.Env → Out := (mSeq (mDrop (mCallN 1 m_need_web.fn (mCons (mVar 0) mNil))) (mSeq (mFor (mSq D.seq (mCall (d1 D.sortT) (mCons (mCallN 1 m_all_lots.fn (mCons (m2 D.ix (mVar 0) (mC (.int 0))) mNil)) mNil))) (gnName 1) (mSeq (mSet 2 (mCallN 2 m_gain_of.fn (mCons (mVar 0) (mCons (mVar 1) mNil)))) (mIf (mB (m2 D.isnt (mVar 2) (mC .non))) (mRet (mTup (mCons (mVar 1) (mCons (mVar 2) mNil)))) mNext))) (mRet (mC .non))))
def m_gain_league : DefM := ⟨1, 2, b_gain_league⟩
theorem k_gain_league {P : Program} {w : World} {K : PySem.W.Frag} {mg : Str → Option Value} {base : Heap} {f : Addr} {fd : FuncData} (F : FnP K "gain_league" s_gain_league f fd) (g : mg "gain_league" = some (.ref f)) {f_need_web : Addr} {fd_need_web : FuncData} (h_need_web : Fd P w K mg base 5 "need_web" ["thing"] f_need_web fd_need_web m_need_web.fn) {f_all_lots : Addr} {fd_all_lots : FuncData} (h_all_lots : Fd P w K mg base 1 "all_lots" ["many"] f_all_lots fd_all_lots m_all_lots.fn) {f_gain_of : Addr} {fd_gain_of : FuncData} (h_gain_of : Fd P w K mg base 5 "gain_of" ["web", "league"] f_gain_of fd_gain_of m_gain_of.fn) (n_sorted : mg "sorted" = none) : Fd P w K mg base 6 "gain_league" ["web"] f fd m_gain_league.fn := by
  refine fd_of (k := 5) (N := ["web", "league", "lot"]) (m := m_gain_league) F sc_gain_league g (F.bindsN fun _ _ _ _ _ _ us hl => match us, hl with | [_], _ => rfl) rfl rfl fun cdv A outer s H E hr tk => ?_
  have nd := sc_gain_league.nd
  have hu := hu65 hr
  show ∃ t o', MSs _ _ _ _ _ _ o' t b_gain_league
  unfold b_gain_league
  exact ⟨_, [], (mss_cons (ms_expr (me_call tk h_need_web (hr.mono (by decide)) (ma_cons (me_var 0) ma_nil))) (mss_cons (ms_for (passes_of rfl) rfl (mi_seq (me_o (mo_cb pu_sortT (TpL.cr_soT hu) n_sorted b_sorted (ma_cons (me_call tk h_all_lots (hr.mono (by decide)) (ma_cons (me_ix (me_var 0) me_int) ma_nil)) ma_nil)))) (mg_name 1 nd) (mss_cons (ms_set 2 nd (me_call tk h_gain_of (hr.mono (by decide)) (ma_cons (me_var 0) (ma_cons (me_var 1) ma_nil)))) (mss_one (ms_if (mt_cmp c_isnt (me_var 2) me_non) (mss_one (ms_ret (me_tup (ma_cons (me_var 1) (ma_cons (me_var 2) ma_nil))))) mss_nil)))) (mss_one (ms_ret me_non))))⟩
abbrev s_need_full : Stmt := top 47
theorem sc_need_full : FnScope ["web", "row", "other", "there"] ["web"] (defScope s_need_full) := ⟨rfl, rfl, rfl, by decide +kernel, rfl, by decide +kernel, by decide +kernel⟩
def b_need_full : G.Env → Out := (mSeq (mDrop (mCallN 1 m_need_web.fn (mCons (mVar 0) mNil))) (mRet (mCall (d1 D.toTup) (mCons (mLc [1] (mSq D.seq (m2 D.ix (mVar 0) (mC (.int 1)))) (gnName 1) mYes (mCall (d1 D.toTup) (mCons (mLc [2, 3] (mSq (dEnum D.seq) (m2 D.ix (mVar 0) (mC (.int 1)))) (gnTup 2 (gnCons (gnName 2) (gnCons (gnName 3) gnNil))) (mB (m2 D.eq (m2 D.ix (mVar 3) (mC (.int 1))) (m2 D.ix (mVar 1) (mC (.int 0))))) (mVar 2)) mNil))) mNil))))
def m_need_full : DefM := ⟨1, 3, b_need_full⟩
theorem k_need_full {P : Program} {w : World} {K : PySem.W.Frag} {mg : Str → Option Value} {base : Heap} {f : Addr} {fd : FuncData} (F : FnP K "need_full" s_need_full f fd) (g : mg "need_full" = some (.ref f)) {f_need_web : Addr} {fd_need_web : FuncData} (h_need_web : Fd P w K mg base 5 "need_web" ["thing"] f_need_web fd_need_web m_need_web.fn) (n_tuple : mg "tuple" = none) (n_enumerate : mg "enumerate" = none) : Fd P w K mg base 6 "need_full" ["web"] f fd m_need_full.fn := by
  refine fd_of (k := 5) (N := ["web", "row", "other", "there"]) (m := m_need_full) F sc_need_full g (F.bindsN fun _ _ _ _ _ _ us hl => match us, hl with | [_], _ => rfl) rfl rfl fun cdv A outer s H E hr tk => ?_
  have nd := sc_need_full.nd
  have hu := hu65 hr
  show ∃ t o', MSs _ _ _ _ _ _ o' t b_need_full
  unfold b_need_full
  exact ⟨_, [], (mss_cons (ms_expr (me_call tk h_need_web (hr.mono (by decide)) (ma_cons (me_var 0) ma_nil))) (mss_one (ms_ret (me_ct pu_tuple call_tuple_of n_tuple b_tuple (ma_cons (me_o (mo_lc s H [("row", 1)] rfl nd (mi_seq (me_ix (me_var 0) me_int)) (by first | (show blkC ["web", "row", "other", "there"] (defScope s_need_full) _ _ = true; decide +kernel) | kernel_rfl) (fun _ _ _ _ _ => (mg_name 1 nd)) (fun _ _ _ _ _ => mts_nil) (fun _ _ _ _ _ => (me_ct pu_tuple call_tuple_of n_tuple b_tuple (ma_cons (me_o (mo_lc s H [("other", 2), ("there", 3)] rfl nd (mi_enum n_enumerate (me_ix (me_var 0) me_int)) (by first | (show blkC ["web", "row", "other", "there"] (defScope s_need_full) _ _ = true; decide +kernel) | kernel_rfl) (fun _ _ _ _ _ => (mg_tup rfl (mgs_cons (mg_name 2 nd) (mgs_cons (mg_name 3 nd) mgs_nil)))) (fun _ _ _ _ _ => (mts_one (mt_cmp (c_eq hu) (me_ix (me_var 3) me_int) (me_ix (me_var 1) me_int)))) (fun _ _ _ _ _ => (me_var 2)) gw2)) ma_nil))) gw1)) ma_nil)))))⟩
abbrev s__law_reach : Stmt := top 62
theorem sc__law_reach : FnScope ["web", "begin", "found", "step", "row"] ["web", "begin"] (defScope s__law_reach) := ⟨rfl, rfl, rfl, by decide +kernel, rfl, by decide +kernel, by decide +kernel⟩
def b__law_reach : G.Env → Out := (mSeq (mSet 2 (mLst (mCons (mVar 1) mNil))) (mSeq (mFor (mSq dRange1 (m2 D.ix (mVar 0) (mC (.int 0)))) (gnName 3) (mFor (mSq D.seq (m2 D.ix (mVar 0) (mC (.int 1)))) (gnName 4) (mIf (mAnd (mB (m2 D.isIn (m2 D.ix (mVar 4) (mC (.int 0))) (mVar 2))) (mB (m2 D.notIn (m2 D.ix (mVar 4) (mC (.int 1))) (mVar 2)))) (mMut "list" 2 dAppend (mCons (m2 D.ix (mVar 4) (mC (.int 1))) mNil) kDrop) mNext))) (mRet (mVar 2))))
def m__law_reach : DefM := ⟨2, 3, b__law_reach⟩
theorem k__law_reach {P : Program} {w : World} {K : PySem.W.Frag} {mg : Str → Option Value} {base : Heap} {f : Addr} {fd : FuncData} (F : FnP K "_law_reach" s__law_reach f fd) (g : mg "_law_reach" = some (.ref f)) (n_range : mg "range" = none) : Fd P w K mg base 1 "_law_reach" ["web", "begin"] f fd m__law_reach.fn := by
  refine fd_of (k := 0) (N := ["web", "begin", "found", "step", "row"]) (m := m__law_reach) F sc__law_reach g (F.bindsN fun _ _ _ _ _ _ us hl => match us, hl with | [_, _], _ => rfl) rfl rfl fun cdv A outer s H E hr tk => ?_
  have nd := sc__law_reach.nd
  have hu := hu65 hr
  show ∃ t o', MSs _ _ _ _ _ _ o' t b__law_reach
  unfold b__law_reach
  exact ⟨_, [], (mss_cons (ms_setO 2 nd (mo_lst (ma_cons (me_var 1) ma_nil))) (mss_cons (ms_weak [2] (ms_for (passes_of rfl) rfl (mi_range1 n_range (me_ix (me_var 0) me_int)) (mg_name 3 nd) (mss_one (ms_for (passes_of rfl) rfl (mi_seq (me_ix (me_var 0) me_int)) (mg_name 4 nd) (mss_one (ms_if (mt_w (mw_and (mt_bor 2 (mt_cmp (c_in hu) (me_ix (me_var 4) me_int) (me_var 2))) (mw_and1 (mt_bor 2 (mt_cmp (c_notIn hu) (me_ix (me_var 4) me_int) (me_var 2)))))) (mss_one (ms_mut m_append 2 (ma_cons (me_ix (me_var 4) me_int) ma_nil))) mss_nil)))))) (mss_one (ms_ret (me_var 2)))))⟩
abbrev s_are_under : Stmt := top 14
theorem sc_are_under : FnScope ["thing", "many", "one"] ["thing", "many"] (defScope s_are_under) := ⟨rfl, rfl, rfl, by decide +kernel, rfl, by decide +kernel, by decide +kernel⟩
def b_are_under : G.Env → Out := (mRet (mAndV (mCall (d2 D.isi) (mCons (mVar 0) (mCons (mC (.ty "tuple")) mNil))) (mCall (d1 D.all) (mCons (mLc [2] (mSq D.seq (mVar 0)) (gnName 2) mYes (mCall0 2 m_is_under.fn (mCons (mVar 2) (mCons (mVar 1) mNil)))) mNil))))
def m_are_under : DefM := ⟨2, 1, b_are_under⟩
theorem k_are_under {P : Program} {w : World} {K : PySem.W.Frag} {mg : Str → Option Value} {base : Heap} {f : Addr} {fd : FuncData} (F : FnP K "are_under" s_are_under f fd) (g : mg "are_under" = some (.ref f)) {f_is_under : Addr} {fd_is_under : FuncData} (h_is_under : Fd P w K mg base 2 "is_under" ["thing", "many"] f_is_under fd_is_under m_is_under.fn) (n_isinstance : mg "isinstance" = none) (n_tuple : mg "tuple" = none) (n_all : mg "all" = none) : Fd P w K mg base 3 "are_under" ["thing", "many"] f fd m_are_under.fn := by
  refine fd_of (k := 2) (N := ["thing", "many", "one"]) (m := m_are_under) F sc_are_under g (F.bindsN fun _ _ _ _ _ _ us hl => match us, hl with | [_, _], _ => rfl) rfl rfl fun cdv A outer s H E hr tk => ?_
  have nd := sc_are_under.nd
  have hu := hu65 hr
  show ∃ t o', MSs _ _ _ _ _ _ o' t b_are_under
  unfold b_are_under
  exact ⟨_, [], (mss_one (ms_ret (me_and (me_cb pu_isi call_isi n_isinstance b_isi (ma_cons (me_var 0) (ma_cons (me_ty n_tuple b_tuple) ma_nil))) (me_one (me_cb pu_all (cr_all rfl) n_all b_all (ma_cons (me_o (mo_lc s H [("one", 2)] rfl nd (mi_seq (me_var 0)) (by first | (show blkC ["thing", "many", "one"] (defScope s_are_under) _ _ = true; decide +kernel) | kernel_rfl) (fun _ _ _ _ _ => (mg_name 2 nd)) (fun _ _ _ _ _ => mts_nil) (fun _ _ _ _ _ => (me_callC h_is_under (hr.mono (by decide)) (ma_cons (me_var 2) (ma_cons (me_var 1) ma_nil)))) gw1)) ma_nil))))))⟩
abbrev s_is_lot : Stmt := top 15
theorem sc_is_lot : FnScope ["thing", "many", "at"] ["thing", "many"] (defScope s_is_lot) := ⟨rfl, rfl, rfl, by decide +kernel, rfl, by decide +kernel, by decide +kernel⟩
def b_is_lot : G.Env → Out := (mRet (mAndV (mCallN 2 m_are_under.fn (mCons (mVar 0) (mCons (mVar 1) mNil))) (mCall (d1 D.all) (mCons (mLc [2] (mRange2 (mC (.int 1)) (mCall (d1 D.len) (mCons (mVar 0) mNil))) (gnName 2) mYes (m2 D.lt (m2 D.ix (mVar 0) (m2 D.sub (mVar 2) (mC (.int 1)))) (m2 D.ix (mVar 0) (mVar 2)))) mNil))))
def m_is_lot : DefM := ⟨2, 1, b_is_lot⟩
theorem k_is_lot {P : Program} {w : World} {K : PySem.W.Frag} {mg : Str → Option Value} {base : Heap} {f : Addr} {fd : FuncData} (F : FnP K "is_lot" s_is_lot f fd) (g : mg "is_lot" = some (.ref f)) {f_are_under : Addr} {fd_are_under : FuncData} (h_are_under : Fd P w K mg base 3 "are_under" ["thing", "many"] f_are_under fd_are_under m_are_under.fn) (n_all : mg "all" = none) (n_range : mg "range" = none) (n_len : mg "len" = none) : Fd P w K mg base 4 "is_lot" ["thing", "many"] f fd m_is_lot.fn := by
  refine fd_of (k := 3) (N := ["thing", "many", "at"]) (m := m_is_lot) F sc_is_lot g (F.bindsN fun _ _ _ _ _ _ us hl => match us, hl with | [_, _], _ => rfl) rfl rfl fun cdv A outer s H E hr tk => ?_
  have nd := sc_is_lot.nd
  have hu := hu65 hr
  show ∃ t o', MSs _ _ _ _ _ _ o' t b_is_lot
  unfold b_is_lot
  exact ⟨_, [], (mss_one (ms_ret (me_and (me_call tk h_are_under (hr.mono (by decide)) (ma_cons (me_var 0) (ma_cons (me_var 1) ma_nil))) (me_one (me_cb pu_all (cr_all rfl) n_all b_all (ma_cons (me_o (mo_lc s H [("at", 2)] rfl nd (mi_range2 n_range me_int (me_cb pu_len call_lenAll n_len b_len (ma_cons (me_var 0) ma_nil))) (by first | (show blkC ["thing", "many", "at"] (defScope s_is_lot) _ _ = true; decide +kernel) | kernel_rfl) (fun _ _ _ _ _ => (mg_name 2 nd)) (fun _ _ _ _ _ => mts_nil) (fun _ _ _ _ _ => (me_cmp c_lt (me_ix (me_var 0) (me_sub (me_var 2) me_int)) (me_ix (me_var 0) (me_var 2)))) gw1)) ma_nil))))))⟩
abbrev s_is_need : Stmt := top 40
theorem sc_is_need : FnScope ["web", "number", "thing", "other"] ["web", "number", "thing"] (defScope s_is_need) := ⟨rfl, rfl, rfl, by decide +kernel, rfl, by decide +kernel, by decide +kernel⟩
def b_is_need : G.Env → Out := (mSeq (mIf (mNot (mB (mCallN 2 m_is_lot.fn (mCons (mVar 2) (mCons (mCall (d1 D.len) (mCons (m2 D.ix (mVar 0) (mC (.int 1))) mNil)) mNil))))) (mRet (mC (.bl false))) mNext) (mRet (mCall (d1 D.all) (mCons (mLc [3] (mSq D.seq (mVar 2)) (gnName 3) mYes (m2 D.eq (m2 D.ix (m2 D.ix (m2 D.ix (mVar 0) (mC (.int 1))) (mVar 3)) (mC (.int 1))) (m2 D.ix (m2 D.ix (m2 D.ix (mVar 0) (mC (.int 1))) (mVar 1)) (mC (.int 0))))) mNil))))
def m_is_need : DefM := ⟨3, 1, b_is_need⟩
theorem k_is_need {P : Program} {w : World} {K : PySem.W.Frag} {mg : Str → Option Value} {base : Heap} {f : Addr} {fd : FuncData} (F : FnP K "is_need" s_is_need f fd) (g : mg "is_need" = some (.ref f)) {f_is_lot : Addr} {fd_is_lot : FuncData} (h_is_lot : Fd P w K mg base 4 "is_lot" ["thing", "many"] f_is_lot fd_is_lot m_is_lot.fn) (n_len : mg "len" = none) (n_all : mg "all" = none) : Fd P w K mg base 5 "is_need" ["web", "number", "thing"] f fd m_is_need.fn := by
  refine fd_of (k := 4) (N := ["web", "number", "thing", "other"]) (m := m_is_need) F sc_is_need g (F.bindsN fun _ _ _ _ _ _ us hl => match us, hl with | [_, _, _], _ => rfl) rfl rfl fun cdv A outer s H E hr tk => ?_
  have nd := sc_is_need.nd
  have hu := hu65 hr
  show ∃ t o', MSs _ _ _ _ _ _ o' t b_is_need
  unfold b_is_need
  exact ⟨_, [], (mss_cons (ms_if (mt_not (mt_val (me_call tk h_is_lot (hr.mono (by decide)) (ma_cons (me_var 2) (ma_cons (me_cb pu_len call_lenAll n_len b_len (ma_cons (me_ix (me_var 0) me_int) ma_nil)) ma_nil))))) (mss_one (ms_ret me_bl)) mss_nil) (mss_one (ms_ret (me_cb pu_all (cr_all rfl) n_all b_all (ma_cons (me_o (mo_lc s H [("other", 3)] rfl nd (mi_seq (me_var 2)) (by first | (show blkC ["web", "number", "thing", "other"] (defScope s_is_need) _ _ = true; decide +kernel) | kernel_rfl) (fun _ _ _ _ _ => (mg_name 3 nd)) (fun _ _ _ _ _ => mts_nil) (fun _ _ _ _ _ => (me_cmp (c_eq hu) (me_ix (me_ix (me_ix (me_var 0) me_int) (me_var 3)) me_int) (me_ix (me_ix (me_ix (me_var 0) me_int) (me_var 1)) me_int))) gw1)) ma_nil)))))⟩
abbrev s_are_needs : Stmt := top 41
theorem sc_are_needs : FnScope ["web", "thing", "number", "one"] ["web", "thing"] (defScope s_are_needs) := ⟨rfl, rfl, rfl, by decide +kernel, rfl, by decide +kernel, by decide +kernel⟩
def b_are_needs : G.Env → Out := (mSeq (mIf (mNot (mB (mCallN 2 m_is_tuple_of.fn (mCons (mVar 1) (mCons (mCall (d1 D.len) (mCons (m2 D.ix (mVar 0) (mC (.int 1))) mNil)) mNil))))) (mRet (mC (.bl false))) mNext) (mRet (mCall (d1 D.all) (mCons (mLc [2, 3] (mSq (dEnum D.seq) (mVar 1)) (gnTup 2 (gnCons (gnName 2) (gnCons (gnName 3) gnNil))) mYes (mCall0 3 m_is_need.fn (mCons (mVar 0) (mCons (mVar 2) (mCons (mVar 3) mNil))))) mNil))))
def m_are_needs : DefM := ⟨2, 2, b_are_needs⟩
theorem k_are_needs {P : Program} {w : World} {K : PySem.W.Frag} {mg : Str → Option Value} {base : Heap} {f : Addr} {fd : FuncData} (F : FnP K "are_needs" s_are_needs f fd) (g : mg "are_needs" = some (.ref f)) {f_is_tuple_of : Addr} {fd_is_tuple_of : FuncData} (h_is_tuple_of : Fd P w K mg base 1 "is_tuple_of" ["thing", "many"] f_is_tuple_of fd_is_tuple_of m_is_tuple_of.fn) {f_is_need : Addr} {fd_is_need : FuncData} (h_is_need : Fd P w K mg base 5 "is_need" ["web", "number", "thing"] f_is_need fd_is_need m_is_need.fn) (n_len : mg "len" = none) (n_all : mg "all" = none) (n_enumerate : mg "enumerate" = none) : Fd P w K mg base 6 "are_needs" ["web", "thing"] f fd m_are_needs.fn := by
  refine fd_of (k := 5) (N := ["web", "thing", "number", "one"]) (m := m_are_needs) F sc_are_needs g (F.bindsN fun _ _ _ _ _ _ us hl => match us, hl with | [_, _], _ => rfl) rfl rfl fun cdv A outer s H E hr tk => ?_
  have nd := sc_are_needs.nd
  have hu := hu65 hr
  show ∃ t o', MSs _ _ _ _ _ _ o' t b_are_needs
  unfold b_are_needs
  exact ⟨_, [], (mss_cons (ms_if (mt_not (mt_val (me_call tk h_is_tuple_of (hr.mono (by decide)) (ma_cons (me_var 1) (ma_cons (me_cb pu_len call_lenAll n_len b_len (ma_cons (me_ix (me_var 0) me_int) ma_nil)) ma_nil))))) (mss_one (ms_ret me_bl)) mss_nil) (mss_one (ms_ret (me_cb pu_all (cr_all rfl) n_all b_all (ma_cons (me_o (mo_lc s H [("number", 2), ("one", 3)] rfl nd (mi_enum n_enumerate (me_var 1)) (by first | (show blkC ["web", "thing", "number", "one"] (defScope s_are_needs) _ _ = true; decide +kernel) | kernel_rfl) (fun _ _ _ _ _ => (mg_tup rfl (mgs_cons (mg_name 2 nd) (mgs_cons (mg_name 3 nd) mgs_nil)))) (fun _ _ _ _ _ => mts_nil) (fun _ _ _ _ _ => (me_callC h_is_need (hr.mono (by decide)) (ma_cons (me_var 0) (ma_cons (me_var 2) (ma_cons (me_var 3) ma_nil))))) gw2)) ma_nil)))))⟩
abbrev s_need_needs : Stmt := top 42
theorem sc_need_needs : FnScope ["web", "thing"] ["web", "thing"] (defScope s_need_needs) := ⟨rfl, rfl, rfl, by decide +kernel, rfl, by decide +kernel, by decide +kernel⟩
def b_need_needs : G.Env → Out := (mSeq (mDrop (mCallN 1 m_need_web.fn (mCons (mVar 0) mNil))) (mIf (mNot (mB (mCallN 2 m_are_needs.fn (mCons (mVar 0) (mCons (mVar 1) mNil))))) mBad mNext))
def m_need_needs : DefM := ⟨2, 0, b_need_needs⟩
theorem k_need_needs {P : Program} {w : World} {K : PySem.W.Frag} {mg : Str → Option Value} {base : Heap} {f : Addr} {fd : FuncData} (F : FnP K "need_needs" s_need_needs f fd) (g : mg "need_needs" = some (.ref f)) {f_need_web : Addr} {fd_need_web : FuncData} (h_need_web : Fd P w K mg base 5 "need_web" ["thing"] f_need_web fd_need_web m_need_web.fn) {f_are_needs : Addr} {fd_are_needs : FuncData} (h_are_needs : Fd P w K mg base 6 "are_needs" ["web", "thing"] f_are_needs fd_are_needs m_are_needs.fn) : Fd P w K mg base 7 "need_needs" ["web", "thing"] f fd m_need_needs.fn := by
  refine fd_of (k := 6) (N := ["web", "thing"]) (m := m_need_needs) F sc_need_needs g (F.bindsN fun _ _ _ _ _ _ us hl => match us, hl with | [_, _], _ => rfl) rfl rfl fun cdv A outer s H E hr tk => ?_
  have nd := sc_need_needs.nd
  have hu := hu65 hr
  show ∃ t o', MSs _ _ _ _ _ _ o' t b_need_needs
  unfold b_need_needs
  exact ⟨_, [], (mss_cons (ms_expr (me_call tk h_need_web (hr.mono (by decide)) (ma_cons (me_var 0) ma_nil))) (mss_one (ms_if (mt_not (mt_val (me_call tk h_are_needs (hr.mono (by decide)) (ma_cons (me_var 0) (ma_cons (me_var 1) ma_nil))))) (mss_one ms_bad) mss_nil)))⟩
abbrev s_grown_by : Stmt := top 45
theorem sc_grown_by : FnScope ["needs", "number", "found", "at", "other"] ["needs", "number"] (defScope s_grown_by) := ⟨rfl, rfl, rfl, by decide +kernel, rfl, by decide +kernel, by decide +kernel⟩
def b_grown_by : G.Env → Out := (mSeq (mSet 2 (mLst (mCons (mVar 1) mNil))) (mSeq (mSet 3 (mC (.int 0))) (mSeq (mWhile (mB (m2 D.lt (mVar 3) (mScal (mCall (d1 D.len) (mCons (mVar 2) mNil))))) (mSeq (mMut "list" 2 dExtend (mCons (mScalL (mLc [4] (mSq D.seq (m2 D.ix (mVar 0) (m2 D.ix (mVar 2) (mVar 3)))) (gnName 4) (mB (m2 D.notIn (mVar 4) (mVar 2))) (mVar 4))) mNil) kDrop) (mAug 3 (fun i j => i + j) (mC (.int 1))))) (mRet (mCall (d1 D.toTup) (mCons (mCall (d1 D.sortI') (mCons (mVar 2) mNil)) mNil))))))
def m_grown_by : DefM := ⟨2, 3, b_grown_by⟩
theorem k_grown_by {P : Program} {w : World} {K : PySem.W.Frag} {mg : Str → Option Value} {base : Heap} {f : Addr} {fd : FuncData} (F : FnP K "grown_by" s_grown_by f fd) (g : mg "grown_by" = some (.ref f)) (n_len : mg "len" = none) (n_tuple : mg "tuple" = none) (n_sorted : mg "sorted" = none) : Fd P w K mg base 1 "grown_by" ["needs", "number"] f fd m_grown_by.fn := by
  refine fd_of (k := 0) (N := ["needs", "number", "found", "at", "other"]) (m := m_grown_by) F sc_grown_by g (F.bindsN fun _ _ _ _ _ _ us hl => match us, hl with | [_, _], _ => rfl) rfl rfl fun cdv A outer s H E hr tk => ?_
  have nd := sc_grown_by.nd
  have hu := hu65 hr
  show ∃ t o', MSs _ _ _ _ _ _ o' t b_grown_by
  unfold b_grown_by
  exact ⟨_, [], (mss_cons (ms_setO 2 nd (mo_lst (ma_cons (me_var 1) ma_nil))) (mss_cons (ms_set 3 nd me_int) (mss_cons (ms_weak [2] (ms_while (passes_of rfl) (mt_cmp c_lt (me_var 3) (me_bor 2 (me_cb pu_len call_lenAll n_len b_len (ma_cons (me_var 2) ma_nil)))) (mss_cons (ms_mut m_extend 2 (ma_cons (me_o (mo_bor 2 (mo_lc s H [("other", 4)] rfl nd (mi_seq (me_ix (me_var 0) (me_ix (me_var 2) (me_var 3)))) (by first | (show blkC ["needs", "number", "found", "at", "other"] (defScope s_grown_by) _ _ = true; decide +kernel) | kernel_rfl) (fun _ _ _ _ _ => (mg_name 4 nd)) (fun _ _ _ _ _ => (mts_one (mt_cmp (c_notIn hu) (me_var 4) (me_var 2)))) (fun _ _ _ _ _ => (me_var 4)) gw1))) ma_nil)) (mss_one (ms_aug 3 nd a_add me_int))))) (mss_one (ms_ret (me_ct pu_tuple call_tuple_of n_tuple b_tuple (ma_cons (me_o (mo_cb pu_sortI' TpL.cr_soI n_sorted b_sorted (ma_cons (me_var 2) ma_nil))) ma_nil)))))))⟩
abbrev s_need_bound : Stmt := top 46
theorem sc_need_bound : FnScope ["web", "needs", "many", "grown", "found", "number", "lot", "other"] ["web", "needs"] (defScope s_need_bound) := ⟨rfl, rfl, rfl, by decide +kernel, rfl, by decide +kernel, by decide +kernel⟩
def b_need_bound : G.Env → Out := (mSeq (mDrop (mCallN 2 m_need_needs.fn (mCons (mVar 0) (mCons (mVar 1) mNil)))) (mSeq (mSet 2 (mCall (d1 D.len) (mCons (m2 D.ix (mVar 0) (mC (.int 1))) mNil))) (mSeq (mSet 3 (mLc [5] (mSq dRange1 (mVar 2)) (gnName 5) mYes (mCall0 2 m_grown_by.fn (mCons (mVar 1) (mCons (mVar 5) mNil))))) (mSeq (mSet 4 (mDic true)) (mSeq (mFor (mSq dRange1 (mVar 2)) (gnName 5) (mSeq (mSet 6 (mCall (d1 D.toTup) (mCons (mLc [7] (mSq D.seq (m2 D.ix (mVar 3) (mVar 5))) (gnName 7) (mB (m2 D.isIn (mVar 5) (m2 D.ix (mVar 3) (mVar 7)))) (mVar 7)) mNil))) (mIf (mB (m2 D.gt (mCall (d1 D.len) (mCons (mVar 6) mNil)) (mC (.int 1)))) (mDPut 4 (mVar 6) (mC (.bl true))) mNext))) (mRet (mCall (d1 D.toTup) (mCons (mCall (d1 D.sortK) (mCons (mVar 4) mNil)) mNil))))))))
def m_need_bound : DefM := ⟨2, 6, b_need_bound⟩
theorem k_need_bound {P : Program} {w : World} {K : PySem.W.Frag} {mg : Str → Option Value} {base : Heap} {f : Addr} {fd : FuncData} (F : FnP K "need_bound" s_need_bound f fd) (g : mg "need_bound" = some (.ref f)) {f_need_needs : Addr} {fd_need_needs : FuncData} (h_need_needs : Fd P w K mg base 7 "need_needs" ["web", "thing"] f_need_needs fd_need_needs m_need_needs.fn) {f_grown_by : Addr} {fd_grown_by : FuncData} (h_grown_by : Fd P w K mg base 1 "grown_by" ["needs", "number"] f_grown_by fd_grown_by m_grown_by.fn) (n_len : mg "len" = none) (n_range : mg "range" = none) (n_tuple : mg "tuple" = none) (n_sorted : mg "sorted" = none) : Fd P w K mg base 8 "need_bound" ["web", "needs"] f fd m_need_bound.fn := by
  refine fd_of (k := 7) (N := ["web", "needs", "many", "grown", "found", "number", "lot", "other"]) (m := m_need_bound) F sc_need_bound g (F.bindsN fun _ _ _ _ _ _ us hl => match us, hl with | [_, _], _ => rfl) rfl rfl fun cdv A outer s H E hr tk => ?_
  have nd := sc_need_bound.nd
  have hu := hu65 hr
  show ∃ t o', MSs _ _ _ _ _ _ o' t b_need_bound
  unfold b_need_bound
  exact ⟨_, [], (mss_cons (ms_expr (me_call tk h_need_needs (hr.mono (by decide)) (ma_cons (me_var 0) (ma_cons (me_var 1) ma_nil)))) (mss_cons (ms_set 2 nd (me_cb pu_len call_lenAll n_len b_len (ma_cons (me_ix (me_var 0) me_int) ma_nil))) (mss_cons (ms_set 3 nd (me_o (mo_lc s H [("number", 5)] rfl nd (mi_range1 n_range (me_var 2)) (by first | (show blkC ["web", "needs", "many", "grown", "found", "number", "lot", "other"] (defScope s_need_bound) _ _ = true; decide +kernel) | kernel_rfl) (fun _ _ _ _ _ => (mg_name 5 nd)) (fun _ _ _ _ _ => mts_nil) (fun _ _ _ _ _ => (me_callC h_grown_by (hr.mono (by decide)) (ma_cons (me_var 1) (ma_cons (me_var 5) ma_nil)))) gw1))) (mss_cons (ms_setO 4 nd mo_dicT) (mss_cons (ms_weak [4] (ms_for (passes_of rfl) rfl (mi_range1 n_range (me_var 2)) (mg_name 5 nd) (mss_cons (ms_set 6 nd (me_ct pu_tuple call_tuple_of n_tuple b_tuple (ma_cons (me_o (mo_lc s H [("other", 7)] rfl nd (mi_seq (me_ix (me_var 3) (me_var 5))) (by first | (show blkC ["web", "needs", "many", "grown", "found", "number", "lot", "other"] (defScope s_need_bound) _ _ = true; decide +kernel) | kernel_rfl) (fun _ _ _ _ _ => (mg_name 7 nd)) (fun _ _ _ _ _ => (mts_one (mt_cmp (c_in hu) (me_var 5) (me_ix (me_var 3) (me_var 7))))) (fun _ _ _ _ _ => (me_var 7)) gw1)) ma_nil))) (mss_one (ms_if (mt_cmp c_gt (me_cb pu_len call_lenAll n_len b_len (ma_cons (me_var 6) ma_nil)) me_int) (mss_one (ms_dput 4 (Nat.lt_of_le_of_lt (Nat.add_le_add_left (by decide : 1 ≤ 65) _) hu) me_bl (me_var 6))) mss_nil))))) (mss_one (ms_ret (me_ct pu_tuple call_tuple_of n_tuple b_tuple (ma_cons (me_o (mo_cb pu_sortK (cr_soD rfl hu) n_sorted b_sorted (ma_cons (me_var 4) ma_nil))) ma_nil)))))))))⟩
abbrev s__law_lot : Stmt := top 63
theorem sc__law_lot : FnScope ["cell", "many", "marks", "k"] ["cell", "many"] (defScope s__law_lot) := ⟨rfl, rfl, rfl, by decide +kernel, rfl, by decide +kernel, by decide +kernel⟩
def b__law_lot : G.Env → Out := (mSeq (mSet 2 (mCallN 3 m__law_row.fn (mCons (mVar 0) (mCons (mVar 1) (mCons (mC (.int 2)) mNil))))) (mRet (mCall (d1 D.toTup) (mCons (mLc [3] (mSq dRange1 (mVar 1)) (gnName 3) (mB (m2 D.eq (m2 D.ix (mVar 2) (mVar 3)) (mC (.int 1)))) (mVar 3)) mNil))))
def m__law_lot : DefM := ⟨2, 2, b__law_lot⟩
theorem k__law_lot {P : Program} {w : World} {K : PySem.W.Frag} {mg : Str → Option Value} {base : Heap} {f : Addr} {fd : FuncData} (F : FnP K "_law_lot" s__law_lot f fd) (g : mg "_law_lot" = some (.ref f)) {f__law_row : Addr} {fd__law_row : FuncData} (h__law_row : Fd P w K mg base 2 "_law_row" ["cell", "many", "top"] f__law_row fd__law_row m__law_row.fn) (n_tuple : mg "tuple" = none) (n_range : mg "range" = none) : Fd P w K mg base 3 "_law_lot" ["cell", "many"] f fd m__law_lot.fn := by
  refine fd_of (k := 2) (N := ["cell", "many", "marks", "k"]) (m := m__law_lot) F sc__law_lot g (F.bindsN fun _ _ _ _ _ _ us hl => match us, hl with | [_, _], _ => rfl) rfl rfl fun cdv A outer s H E hr tk => ?_
  have nd := sc__law_lot.nd
  have hu := hu65 hr
  show ∃ t o', MSs _ _ _ _ _ _ o' t b__law_lot
  unfold b__law_lot
  exact ⟨_, [], (mss_cons (ms_set 2 nd (me_call tk h__law_row (hr.mono (by decide)) (ma_cons (me_var 0) (ma_cons (me_var 1) (ma_cons me_int ma_nil))))) (mss_one (ms_ret (me_ct pu_tuple call_tuple_of n_tuple b_tuple (ma_cons (me_o (mo_lc s H [("k", 3)] rfl nd (mi_range1 n_range (me_var 1)) (by first | (show blkC ["cell", "many", "marks", "k"] (defScope s__law_lot) _ _ = true; decide +kernel) | kernel_rfl) (fun _ _ _ _ _ => (mg_name 3 nd)) (fun _ _ _ _ _ => (mts_one (mt_cmp (c_eq hu) (me_ix (me_var 2) (me_var 3)) me_int))) (fun _ _ _ _ _ => (me_var 3)) gw1)) ma_nil)))))⟩
abbrev s_are_deals : Stmt := top 52
theorem sc_are_deals : FnScope ["thing", "row"] ["thing"] (defScope s_are_deals) := ⟨rfl, rfl, rfl, by decide +kernel, rfl, by decide +kernel, by decide +kernel⟩
def b_are_deals : G.Env → Out := (mSeq (mIf (mOr (mNot (mB (mCallN 2 m_is_tuple_of.fn (mCons (mVar 0) (mCons (mC (.int 2)) mNil))))) (mNot (mB (mCallN 3 m_is_between.fn (mCons (m2 D.ix (mVar 0) (mC (.int 0))) (mCons (mC (.int (2))) (mCons (mC (.int (6))) mNil))))))) (mRet (mC (.bl false))) mNext) (mSeq (mIf (mOr (mNot (mB (mCall (d2 D.isi) (mCons (m2 D.ix (mVar 0) (mC (.int 1))) (mCons (mC (.ty "tuple")) mNil))))) (mNot (mB (mChain D.le D.le (mC (.int 1)) (mCall (d1 D.len) (mCons (m2 D.ix (mVar 0) (mC (.int 1))) mNil)) (mC (.int (10))))))) (mRet (mC (.bl false))) mNext) (mRet (mCall (d1 D.all) (mCons (mLc [1] (mSq D.seq (m2 D.ix (mVar 0) (mC (.int 1)))) (gnName 1) mYes (mAndV (mCall0 2 m_is_tuple_of.fn (mCons (mVar 1) (mCons (mC (.int 2)) mNil))) (mAndV (mCall0 2 m_is_under.fn (mCons (m2 D.ix (mVar 1) (mC (.int 0))) (mCons (m2 D.ix (mVar 0) (mC (.int 0))) mNil))) (mAndV (mCall0 2 m_is_under.fn (mCons (m2 D.ix (mVar 1) (mC (.int 1))) (mCons (m2 D.ix (mVar 0) (mC (.int 0))) mNil))) (m2 D.ne (m2 D.ix (mVar 1) (mC (.int 0))) (m2 D.ix (mVar 1) (mC (.int 1)))))))) mNil)))))
def m_are_deals : DefM := ⟨1, 1, b_are_deals⟩
theorem k_are_deals {P : Program} {w : World} {K : PySem.W.Frag} {mg : Str → Option Value} {base : Heap} {f : Addr} {fd : FuncData} (F : FnP K "are_deals" s_are_deals f fd) (g : mg "are_deals" = some (.ref f)) {f_is_tuple_of : Addr} {fd_is_tuple_of : FuncData} (h_is_tuple_of : Fd P w K mg base 1 "is_tuple_of" ["thing", "many"] f_is_tuple_of fd_is_tuple_of m_is_tuple_of.fn) {f_is_between : Addr} {fd_is_between : FuncData} (h_is_between : Fd P w K mg base 2 "is_between" ["thing", "least", "most"] f_is_between fd_is_between m_is_between.fn) {f_is_under : Addr} {fd_is_under : FuncData} (h_is_under : Fd P w K mg base 2 "is_under" ["thing", "many"] f_is_under fd_is_under m_is_under.fn) (n_isinstance : mg "isinstance" = none) (n_tuple : mg "tuple" = none) (n_len : mg "len" = none) (n_all : mg "all" = none) (c_FEWEST_PERSONS_agents : ∃ t, mg "FEWEST_PERSONS_agents" = some (.int (2) t)) (c_MOST_PERSONS_agents : ∃ t, mg "MOST_PERSONS_agents" = some (.int (6) t)) (c_MOST_DEALS : ∃ t, mg "MOST_DEALS" = some (.int (10) t)) : Fd P w K mg base 3 "are_deals" ["thing"] f fd m_are_deals.fn := by
  refine fd_of (k := 2) (N := ["thing", "row"]) (m := m_are_deals) F sc_are_deals g (F.bindsN fun _ _ _ _ _ _ us hl => match us, hl with | [_], _ => rfl) rfl rfl fun cdv A outer s H E hr tk => ?_
  have nd := sc_are_deals.nd
  have hu := hu65 hr
  show ∃ t o', MSs _ _ _ _ _ _ o' t b_are_deals
  unfold b_are_deals
  exact ⟨_, [], (mss_cons (ms_if (mt_w (mw_or (mt_not (mt_val (me_call tk h_is_tuple_of (hr.mono (by decide)) (ma_cons (me_var 0) (ma_cons me_int ma_nil))))) (mw_or1 (mt_not (mt_val (me_call tk h_is_between (hr.mono (by decide)) (ma_cons (me_ix (me_var 0) me_int) (ma_cons (me_gintE c_FEWEST_PERSONS_agents) (ma_cons (me_gintE c_MOST_PERSONS_agents) ma_nil))))))))) (mss_one (ms_ret me_bl)) mss_nil) (mss_cons (ms_if (mt_w (mw_or (mt_not (mt_val (me_cb pu_isi call_isi n_isinstance b_isi (ma_cons (me_ix (me_var 0) me_int) (ma_cons (me_ty n_tuple b_tuple) ma_nil))))) (mw_or1 (mt_not (mt_chain c_le c_le me_int (me_cb pu_len call_lenAll n_len b_len (ma_cons (me_ix (me_var 0) me_int) ma_nil)) (me_gintE c_MOST_DEALS)))))) (mss_one (ms_ret me_bl)) mss_nil) (mss_one (ms_ret (me_cb pu_all (cr_all rfl) n_all b_all (ma_cons (me_o (mo_lc s H [("row", 1)] rfl nd (mi_seq (me_ix (me_var 0) me_int)) (by first | (show blkC ["thing", "row"] (defScope s_are_deals) _ _ = true; decide +kernel) | kernel_rfl) (fun _ _ _ _ _ => (mg_name 1 nd)) (fun _ _ _ _ _ => mts_nil) (fun _ _ _ _ _ => (me_and (me_callC h_is_tuple_of (hr.mono (by decide)) (ma_cons (me_var 1) (ma_cons me_int ma_nil))) (me_and (me_callC h_is_under (hr.mono (by decide)) (ma_cons (me_ix (me_var 1) me_int) (ma_cons (me_ix (me_var 0) me_int) ma_nil))) (me_and (me_callC h_is_under (hr.mono (by decide)) (ma_cons (me_ix (me_var 1) me_int) (ma_cons (me_ix (me_var 0) me_int) ma_nil))) (me_one (me_cmp (c_ne hu) (me_ix (me_var 1) me_int) (me_ix (me_var 1) me_int))))))) gw1)) ma_nil))))))⟩
abbrev s_need_deals : Stmt := top 53
theorem sc_need_deals : FnScope ["thing"] ["thing"] (defScope s_need_deals) := ⟨rfl, rfl, rfl, by decide +kernel, rfl, by decide +kernel, by decide +kernel⟩
def b_need_deals : G.Env → Out := (mIf (mNot (mB (mCallN 1 m_are_deals.fn (mCons (mVar 0) mNil)))) mBad mNext)
def m_need_deals : DefM := ⟨1, 0, b_need_deals⟩
theorem k_need_deals {P : Program} {w : World} {K : PySem.W.Frag} {mg : Str → Option Value} {base : Heap} {f : Addr} {fd : FuncData} (F : FnP K "need_deals" s_need_deals f fd) (g : mg "need_deals" = some (.ref f)) {f_are_deals : Addr} {fd_are_deals : FuncData} (h_are_deals : Fd P w K mg base 3 "are_deals" ["thing"] f_are_deals fd_are_deals m_are_deals.fn) : Fd P w K mg base 4 "need_deals" ["thing"] f fd m_need_deals.fn := by
  refine fd_of (k := 3) (N := ["thing"]) (m := m_need_deals) F sc_need_deals g (F.bindsN fun _ _ _ _ _ _ us hl => match us, hl with | [_], _ => rfl) rfl rfl fun cdv A outer s H E hr tk => ?_
  have nd := sc_need_deals.nd
  have hu := hu65 hr
  show ∃ t o', MSs _ _ _ _ _ _ o' t b_need_deals
  unfold b_need_deals
  exact ⟨_, [], (mss_one (ms_if (mt_not (mt_val (me_call tk h_are_deals (hr.mono (by decide)) (ma_cons (me_var 0) ma_nil)))) (mss_one ms_bad) mss_nil))⟩
abbrev s_need_free : Stmt := top 54
theorem sc_need_free : FnScope ["deals", "thing"] ["deals", "thing"] (defScope s_need_free) := ⟨rfl, rfl, rfl, by decide +kernel, rfl, by decide +kernel, by decide +kernel⟩
def b_need_free : G.Env → Out := (mIf (mNot (mB (mCallN 2 m_is_lot.fn (mCons (mVar 1) (mCons (m2 D.ix (mVar 0) (mC (.int 0))) mNil))))) mBad mNext)
def m_need_free : DefM := ⟨2, 0, b_need_free⟩
theorem k_need_free {P : Program} {w : World} {K : PySem.W.Frag} {mg : Str → Option Value} {base : Heap} {f : Addr} {fd : FuncData} (F : FnP K "need_free" s_need_free f fd) (g : mg "need_free" = some (.ref f)) {f_is_lot : Addr} {fd_is_lot : FuncData} (h_is_lot : Fd P w K mg base 4 "is_lot" ["thing", "many"] f_is_lot fd_is_lot m_is_lot.fn) : Fd P w K mg base 5 "need_free" ["deals", "thing"] f fd m_need_free.fn := by
  refine fd_of (k := 4) (N := ["deals", "thing"]) (m := m_need_free) F sc_need_free g (F.bindsN fun _ _ _ _ _ _ us hl => match us, hl with | [_, _], _ => rfl) rfl rfl fun cdv A outer s H E hr tk => ?_
  have nd := sc_need_free.nd
  have hu := hu65 hr
  show ∃ t o', MSs _ _ _ _ _ _ o' t b_need_free
  unfold b_need_free
  exact ⟨_, [], (mss_one (ms_if (mt_not (mt_val (me_call tk h_is_lot (hr.mono (by decide)) (ma_cons (me_var 1) (ma_cons (me_ix (me_var 0) me_int) ma_nil))))) (mss_one ms_bad) mss_nil))⟩
abbrev s_deals_of : Stmt := top 55
theorem sc_deals_of : FnScope ["deals", "person", "number", "row"] ["deals", "person"] (defScope s_deals_of) := ⟨rfl, rfl, rfl, by decide +kernel, rfl, by decide +kernel, by decide +kernel⟩
def b_deals_of : G.Env → Out := (mRet (mLc [2, 3] (mSq (dEnum D.seq) (m2 D.ix (mVar 0) (mC (.int 1)))) (gnTup 2 (gnCons (gnName 2) (gnCons (gnName 3) gnNil))) (mB (m2 D.isIn (mVar 1) (mVar 3))) (mVar 2)))
def m_deals_of : DefM := ⟨2, 2, b_deals_of⟩
theorem k_deals_of {P : Program} {w : World} {K : PySem.W.Frag} {mg : Str → Option Value} {base : Heap} {f : Addr} {fd : FuncData} (F : FnP K "deals_of" s_deals_of f fd) (g : mg "deals_of" = some (.ref f)) (n_enumerate : mg "enumerate" = none) : Fd P w K mg base 1 "deals_of" ["deals", "person"] f fd m_deals_of.fn := by
  refine fd_of (k := 0) (N := ["deals", "person", "number", "row"]) (m := m_deals_of) F sc_deals_of g (F.bindsN fun _ _ _ _ _ _ us hl => match us, hl with | [_, _], _ => rfl) rfl rfl fun cdv A outer s H E hr tk => ?_
  have nd := sc_deals_of.nd
  have hu := hu65 hr
  show ∃ t o', MSs _ _ _ _ _ _ o' t b_deals_of
  unfold b_deals_of
  exact ⟨_, [], (mss_one (ms_ret (me_o (mo_lc s H [("number", 2), ("row", 3)] rfl nd (mi_enum n_enumerate (me_ix (me_var 0) me_int)) (by first | (show blkC ["deals", "person", "number", "row"] (defScope s_deals_of) _ _ = true; decide +kernel) | kernel_rfl) (fun _ _ _ _ _ => (mg_tup rfl (mgs_cons (mg_name 2 nd) (mgs_cons (mg_name 3 nd) mgs_nil)))) (fun _ _ _ _ _ => (mts_one (mt_cmp (c_in hu) (me_var 1) (me_var 3)))) (fun _ _ _ _ _ => (me_var 2)) gw2))))⟩
abbrev s_agent_torn : Stmt := top 56
theorem sc_agent_torn : FnScope ["deals", "free", "lot", "found", "person", "mine", "number"] ["deals", "free", "lot"] (defScope s_agent_torn) := ⟨rfl, rfl, rfl, by decide +kernel, rfl, by decide +kernel, by decide +kernel⟩
def b_agent_torn : G.Env → Out := (mSeq (mDrop (mCallN 1 m_need_deals.fn (mCons (mVar 0) mNil))) (mSeq (mDrop (mCallN 2 m_need_free.fn (mCons (mVar 0) (mCons (mVar 1) mNil)))) (mSeq (mIf (mNot (mB (mCallN 2 m_is_lot.fn (mCons (mVar 2) (mCons (mCall (d1 D.len) (mCons (m2 D.ix (mVar 0) (mC (.int 1))) mNil)) mNil))))) mBad mNext) (mSeq (mSet 3 (mLst mNil)) (mSeq (mFor (mSq dRange1 (m2 D.ix (mVar 0) (mC (.int 0)))) (gnName 4) (mSeq (mSet 5 (mLc [6] (mSq D.seq (mCallN 2 m_deals_of.fn (mCons (mVar 0) (mCons (mVar 4) mNil)))) (gnName 6) mYes (m2 D.isIn (mVar 6) (mVar 2)))) (mIf (mAnd (mB (m2 D.notIn (mVar 4) (mVar 1))) (mAnd (mB (mCall (d1 D.any) (mCons (mVar 5) mNil))) (mNot (mB (mCall (d1 D.all) (mCons (mVar 5) mNil)))))) (mMut "list" 3 dAppend (mCons (mVar 4) mNil) kDrop) mNext))) (mRet (mCall (d1 D.toTup) (mCons (mVar 3) mNil))))))))
def m_agent_torn : DefM := ⟨3, 4, b_agent_torn⟩
theorem k_agent_torn {P : Program} {w : World} {K : PySem.W.Frag} {mg : Str → Option Value} {base : Heap} {f : Addr} {fd : FuncData} (F : FnP K "agent_torn" s_agent_torn f fd) (g : mg "agent_torn" = some (.ref f)) {f_need_deals : Addr} {fd_need_deals : FuncData} (h_need_deals : Fd P w K mg base 4 "need_deals" ["thing"] f_need_deals fd_need_deals m_need_deals.fn) {f_need_free : Addr} {fd_need_free : FuncData} (h_need_free : Fd P w K mg base 5 "need_free" ["deals", "thing"] f_need_free fd_need_free m_need_free.fn) {f_is_lot : Addr} {fd_is_lot : FuncData} (h_is_lot : Fd P w K mg base 4 "is_lot" ["thing", "many"] f_is_lot fd_is_lot m_is_lot.fn) {f_deals_of : Addr} {fd_deals_of : FuncData} (h_deals_of : Fd P w K mg base 1 "deals_of" ["deals", "person"] f_deals_of fd_deals_of m_deals_of.fn) (n_len : mg "len" = none) (n_range : mg "range" = none) (n_any : mg "any" = none) (n_all : mg "all" = none) (n_tuple : mg "tuple" = none) : Fd P w K mg base 6 "agent_torn" ["deals", "free", "lot"] f fd m_agent_torn.fn := by
  refine fd_of (k := 5) (N := ["deals", "free", "lot", "found", "person", "mine", "number"]) (m := m_agent_torn) F sc_agent_torn g (F.bindsN fun _ _ _ _ _ _ us hl => match us, hl with | [_, _, _], _ => rfl) rfl rfl fun cdv A outer s H E hr tk => ?_
  have nd := sc_agent_torn.nd
  have hu := hu65 hr
  show ∃ t o', MSs _ _ _ _ _ _ o' t b_agent_torn
  unfold b_agent_torn
  exact ⟨_, [], (mss_cons (ms_expr (me_call tk h_need_deals (hr.mono (by decide)) (ma_cons (me_var 0) ma_nil))) (mss_cons (ms_expr (me_call tk h_need_free (hr.mono (by decide)) (ma_cons (me_var 0) (ma_cons (me_var 1) ma_nil)))) (mss_cons (ms_if (mt_not (mt_val (me_call tk h_is_lot (hr.mono (by decide)) (ma_cons (me_var 2) (ma_cons (me_cb pu_len call_lenAll n_len b_len (ma_cons (me_ix (me_var 0) me_int) ma_nil)) ma_nil))))) (mss_one ms_bad) mss_nil) (mss_cons (ms_setO 3 nd (mo_lst ma_nil)) (mss_cons (ms_weak [3] (ms_for (passes_of rfl) rfl (mi_range1 n_range (me_ix (me_var 0) me_int)) (mg_name 4 nd) (mss_cons (ms_weak [5] (ms_setLc 5 s H [("number", 6)] rfl nd (mi_seq (me_call tk h_deals_of (hr.mono (by decide)) (ma_cons (me_var 0) (ma_cons (me_var 4) ma_nil)))) (by first | (show blkC ["deals", "free", "lot", "found", "person", "mine", "number"] (defScope s_agent_torn) _ _ = true; decide +kernel) | kernel_rfl) (fun _ _ _ _ _ => (mg_name 6 nd)) (fun _ _ _ _ _ => mts_nil) (fun _ _ _ _ _ => (me_cmp (c_in hu) (me_var 6) (me_var 2))) gw1)) (mss_one (ms_if (mt_w (mw_and (mt_cmp (c_notIn hu) (me_var 4) (me_var 1)) (mw_and (mt_val (me_cb pu_any (cr_any rfl) n_any b_any (ma_cons (me_var 5) ma_nil))) (mw_and1 (mt_not (mt_val (me_cb pu_all (cr_all rfl) n_all b_all (ma_cons (me_var 5) ma_nil)))))))) (mss_one (ms_mut m_append 3 (ma_cons (me_var 4) ma_nil))) mss_nil))))) (mss_one (ms_ret (me_ct pu_tuple call_tuple_of n_tuple b_tuple (ma_cons (me_var 3) ma_nil)))))))))⟩
abbrev s__law_flag : Stmt := top 64
theorem sc__law_flag : FnScope ["found", "due"] ["found", "due"] (defScope s__law_flag) := ⟨rfl, rfl, rfl, by decide +kernel, rfl, by decide +kernel, by decide +kernel⟩
def b__law_flag : G.Env → Out := (mSeq (mIf (mB (mVar 1)) (mRet (m2 D.is (mVar 0) (mC (.bl true)))) mNext) (mRet (m2 D.is (mVar 0) (mC (.bl false)))))
def m__law_flag : DefM := ⟨2, 0, b__law_flag⟩
theorem k__law_flag {P : Program} {w : World} {K : PySem.W.Frag} {mg : Str → Option Value} {base : Heap} {f : Addr} {fd : FuncData} (F : FnP K "_law_flag" s__law_flag f fd) (g : mg "_law_flag" = some (.ref f)) : Fd P w K mg base 1 "_law_flag" ["found", "due"] f fd m__law_flag.fn := by
  refine fd_of (k := 0) (N := ["found", "due"]) (m := m__law_flag) F sc__law_flag g (F.bindsN fun _ _ _ _ _ _ us hl => match us, hl with | [_, _], _ => rfl) rfl rfl fun cdv A outer s H E hr tk => ?_
  have nd := sc__law_flag.nd
  have hu := hu65 hr
  show ∃ t o', MSs _ _ _ _ _ _ o' t b__law_flag
  unfold b__law_flag
  exact ⟨_, [], (mss_cons (ms_if (mt_val (me_var 1)) (mss_one (ms_ret (me_cmp c_is (me_var 0) me_bl))) mss_nil) (mss_one (ms_ret (me_cmp c_is (me_var 0) me_bl))))⟩
abbrev s_is_kept_lot : Stmt := top 43
theorem sc_is_kept_lot : FnScope ["needs", "lot", "number", "other"] ["needs", "lot"] (defScope s_is_kept_lot) := ⟨rfl, rfl, rfl, by decide +kernel, rfl, by decide +kernel, by decide +kernel⟩
def b_is_kept_lot : G.Env → Out := (mRet (mCall (d1 D.all) (mCons (mLc [2] (mSq D.seq (mVar 1)) (gnName 2) mYes (mCall (d1 D.all) (mCons (mLc [3] (mSq D.seq (m2 D.ix (mVar 0) (mVar 2))) (gnName 3) mYes (m2 D.isIn (mVar 3) (mVar 1))) mNil))) mNil)))
def m_is_kept_lot : DefM := ⟨2, 2, b_is_kept_lot⟩
theorem k_is_kept_lot {P : Program} {w : World} {K : PySem.W.Frag} {mg : Str → Option Value} {base : Heap} {f : Addr} {fd : FuncData} (F : FnP K "is_kept_lot" s_is_kept_lot f fd) (g : mg "is_kept_lot" = some (.ref f)) (n_all : mg "all" = none) : Fd P w K mg base 1 "is_kept_lot" ["needs", "lot"] f fd m_is_kept_lot.fn := by
  refine fd_of (k := 0) (N := ["needs", "lot", "number", "other"]) (m := m_is_kept_lot) F sc_is_kept_lot g (F.bindsN fun _ _ _ _ _ _ us hl => match us, hl with | [_, _], _ => rfl) rfl rfl fun cdv A outer s H E hr tk => ?_
  have nd := sc_is_kept_lot.nd
  have hu := hu65 hr
  show ∃ t o', MSs _ _ _ _ _ _ o' t b_is_kept_lot
  unfold b_is_kept_lot
  exact ⟨_, [], (mss_one (ms_ret (me_cb pu_all (cr_all rfl) n_all b_all (ma_cons (me_o (mo_lc s H [("number", 2)] rfl nd (mi_seq (me_var 1)) (by first | (show blkC ["needs", "lot", "number", "other"] (defScope s_is_kept_lot) _ _ = true; decide +kernel) | kernel_rfl) (fun _ _ _ _ _ => (mg_name 2 nd)) (fun _ _ _ _ _ => mts_nil) (fun _ _ _ _ _ => (me_cb pu_all (cr_all rfl) n_all b_all (ma_cons (me_o (mo_lc s H [("other", 3)] rfl nd (mi_seq (me_ix (me_var 0) (me_var 2))) (by first | (show blkC ["needs", "lot", "number", "other"] (defScope s_is_kept_lot) _ _ = true; decide +kernel) | kernel_rfl) (fun _ _ _ _ _ => (mg_name 3 nd)) (fun _ _ _ _ _ => mts_nil) (fun _ _ _ _ _ => (me_cmp (c_in hu) (me_var 3) (me_var 1))) gw1)) ma_nil))) gw1)) ma_nil))))⟩
abbrev s_is_need_kept : Stmt := top 44
theorem sc_is_need_kept : FnScope ["web", "needs", "thing"] ["web", "needs", "thing"] (defScope s_is_need_kept) := ⟨rfl, rfl, rfl, by decide +kernel, rfl, by decide +kernel, by decide +kernel⟩
def b_is_need_kept : G.Env → Out := (mSeq (mDrop (mCallN 2 m_need_needs.fn (mCons (mVar 0) (mCons (mVar 1) mNil)))) (mRet (mAndV (mCallN 2 m_is_lot.fn (mCons (mVar 2) (mCons (mCall (d1 D.len) (mCons (m2 D.ix (mVar 0) (mC (.int 1))) mNil)) mNil))) (mCallN 2 m_is_kept_lot.fn (mCons (mVar 1) (mCons (mVar 2) mNil))))))
def m_is_need_kept : DefM := ⟨3, 0, b_is_need_kept⟩
theorem k_is_need_kept {P : Program} {w : World} {K : PySem.W.Frag} {mg : Str → Option Value} {base : Heap} {f : Addr} {fd : FuncData} (F : FnP K "is_need_kept" s_is_need_kept f fd) (g : mg "is_need_kept" = some (.ref f)) {f_need_needs : Addr} {fd_need_needs : FuncData} (h_need_needs : Fd P w K mg base 7 "need_needs" ["web", "thing"] f_need_needs fd_need_needs m_need_needs.fn) {f_is_lot : Addr} {fd_is_lot : FuncData} (h_is_lot : Fd P w K mg base 4 "is_lot" ["thing", "many"] f_is_lot fd_is_lot m_is_lot.fn) {f_is_kept_lot : Addr} {fd_is_kept_lot : FuncData} (h_is_kept_lot : Fd P w K mg base 1 "is_kept_lot" ["needs", "lot"] f_is_kept_lot fd_is_kept_lot m_is_kept_lot.fn) (n_len : mg "len" = none) : Fd P w K mg base 8 "is_need_kept" ["web", "needs", "thing"] f fd m_is_need_kept.fn := by
  refine fd_of (k := 7) (N := ["web", "needs", "thing"]) (m := m_is_need_kept) F sc_is_need_kept g (F.bindsN fun _ _ _ _ _ _ us hl => match us, hl with | [_, _, _], _ => rfl) rfl rfl fun cdv A outer s H E hr tk => ?_
  have nd := sc_is_need_kept.nd
  have hu := hu65 hr
  show ∃ t o', MSs _ _ _ _ _ _ o' t b_is_need_kept
  unfold b_is_need_kept
  exact ⟨_, [], (mss_cons (ms_expr (me_call tk h_need_needs (hr.mono (by decide)) (ma_cons (me_var 0) (ma_cons (me_var 1) ma_nil)))) (mss_one (ms_ret (me_and (me_call tk h_is_lot (hr.mono (by decide)) (ma_cons (me_var 2) (ma_cons (me_cb pu_len call_lenAll n_len b_len (ma_cons (me_ix (me_var 0) me_int) ma_nil)) ma_nil))) (me_one (me_call tk h_is_kept_lot (hr.mono (by decide)) (ma_cons (me_var 1) (ma_cons (me_var 2) ma_nil))))))))⟩
abbrev s_need_league : Stmt := top 27
theorem sc_need_league : FnScope ["web", "thing"] ["web", "thing"] (defScope s_need_league) := ⟨rfl, rfl, rfl, by decide +kernel, rfl, by decide +kernel, by decide +kernel⟩
def b_need_league : G.Env → Out := (mIf (mNot (mB (mCallN 2 m_is_lot.fn (mCons (mVar 1) (mCons (m2 D.ix (mVar 0) (mC (.int 0))) mNil))))) mBad mNext)
def m_need_league : DefM := ⟨2, 0, b_need_league⟩
theorem k_need_league {P : Program} {w : World} {K : PySem.W.Frag} {mg : Str → Option Value} {base : Heap} {f : Addr} {fd : FuncData} (F : FnP K "need_league" s_need_league f fd) (g : mg "need_league" = some (.ref f)) {f_is_lot : Addr} {fd_is_lot : FuncData} (h_is_lot : Fd P w K mg base 4 "is_lot" ["thing", "many"] f_is_lot fd_is_lot m_is_lot.fn) : Fd P w K mg base 5 "need_league" ["web", "thing"] f fd m_need_league.fn := by
  refine fd_of (k := 4) (N := ["web", "thing"]) (m := m_need_league) F sc_need_league g (F.bindsN fun _ _ _ _ _ _ us hl => match us, hl with | [_, _], _ => rfl) rfl rfl fun cdv A outer s H E hr tk => ?_
  have nd := sc_need_league.nd
  have hu := hu65 hr
  show ∃ t o', MSs _ _ _ _ _ _ o' t b_need_league
  unfold b_need_league
  exact ⟨_, [], (mss_one (ms_if (mt_not (mt_val (me_call tk h_is_lot (hr.mono (by decide)) (ma_cons (me_var 1) (ma_cons (me_ix (me_var 0) me_int) ma_nil))))) (mss_one ms_bad) mss_nil))⟩
abbrev s_need_lot : Stmt := top 28
theorem sc_need_lot : FnScope ["web", "thing"] ["web", "thing"] (defScope s_need_lot) := ⟨rfl, rfl, rfl, by decide +kernel, rfl, by decide +kernel, by decide +kernel⟩
def b_need_lot : G.Env → Out := (mIf (mNot (mB (mCallN 2 m_is_lot.fn (mCons (mVar 1) (mCons (mCall (d1 D.len) (mCons (m2 D.ix (mVar 0) (mC (.int 1))) mNil)) mNil))))) mBad mNext)
def m_need_lot : DefM := ⟨2, 0, b_need_lot⟩
theorem k_need_lot {P : Program} {w : World} {K : PySem.W.Frag} {mg : Str → Option Value} {base : Heap} {f : Addr} {fd : FuncData} (F : FnP K "need_lot" s_need_lot f fd) (g : mg "need_lot" = some (.ref f)) {f_is_lot : Addr} {fd_is_lot : FuncData} (h_is_lot : Fd P w K mg base 4 "is_lot" ["thing", "many"] f_is_lot fd_is_lot m_is_lot.fn) (n_len : mg "len" = none) : Fd P w K mg base 5 "need_lot" ["web", "thing"] f fd m_need_lot.fn := by
  refine fd_of (k := 4) (N := ["web", "thing"]) (m := m_need_lot) F sc_need_lot g (F.bindsN fun _ _ _ _ _ _ us hl => match us, hl with | [_, _], _ => rfl) rfl rfl fun cdv A outer s H E hr tk => ?_
  have nd := sc_need_lot.nd
  have hu := hu65 hr
  show ∃ t o', MSs _ _ _ _ _ _ o' t b_need_lot
  unfold b_need_lot
  exact ⟨_, [], (mss_one (ms_if (mt_not (mt_val (me_call tk h_is_lot (hr.mono (by decide)) (ma_cons (me_var 1) (ma_cons (me_cb pu_len call_lenAll n_len b_len (ma_cons (me_ix (me_var 0) me_int) ma_nil)) ma_nil))))) (mss_one ms_bad) mss_nil))⟩
abbrev s_gain_harmed : Stmt := top 33
theorem sc_gain_harmed : FnScope ["web", "league", "lot"] ["web", "league", "lot"] (defScope s_gain_harmed) := ⟨rfl, rfl, rfl, by decide +kernel, rfl, by decide +kernel, by decide +kernel⟩
def b_gain_harmed : G.Env → Out := (mSeq (mDrop (mCallN 1 m_need_web.fn (mCons (mVar 0) mNil))) (mSeq (mDrop (mCallN 2 m_need_league.fn (mCons (mVar 0) (mCons (mVar 1) mNil)))) (mSeq (mDrop (mCallN 2 m_need_lot.fn (mCons (mVar 0) (mCons (mVar 2) mNil)))) (mRet (mCallN 3 m_first_harmed.fn (mCons (mVar 0) (mCons (mVar 1) (mCons (mVar 2) mNil))))))))
def m_gain_harmed : DefM := ⟨3, 0, b_gain_harmed⟩
theorem k_gain_harmed {P : Program} {w : World} {K : PySem.W.Frag} {mg : Str → Option Value} {base : Heap} {f : Addr} {fd : FuncData} (F : FnP K "gain_harmed" s_gain_harmed f fd) (g : mg "gain_harmed" = some (.ref f)) {f_need_web : Addr} {fd_need_web : FuncData} (h_need_web : Fd P w K mg base 5 "need_web" ["thing"] f_need_web fd_need_web m_need_web.fn) {f_need_league : Addr} {fd_need_league : FuncData} (h_need_league : Fd P w K mg base 5 "need_league" ["web", "thing"] f_need_league fd_need_league m_need_league.fn) {f_need_lot : Addr} {fd_need_lot : FuncData} (h_need_lot : Fd P w K mg base 5 "need_lot" ["web", "thing"] f_need_lot fd_need_lot m_need_lot.fn) {f_first_harmed : Addr} {fd_first_harmed : FuncData} (h_first_harmed : Fd P w K mg base 3 "first_harmed" ["web", "league", "lot"] f_first_harmed fd_first_harmed m_first_harmed.fn) : Fd P w K mg base 6 "gain_harmed" ["web", "league", "lot"] f fd m_gain_harmed.fn := by
  refine fd_of (k := 5) (N := ["web", "league", "lot"]) (m := m_gain_harmed) F sc_gain_harmed g (F.bindsN fun _ _ _ _ _ _ us hl => match us, hl with | [_, _, _], _ => rfl) rfl rfl fun cdv A outer s H E hr tk => ?_
  have nd := sc_gain_harmed.nd
  have hu := hu65 hr
  show ∃ t o', MSs _ _ _ _ _ _ o' t b_gain_harmed
  unfold b_gain_harmed
  exact ⟨_, [], (mss_cons (ms_expr (me_call tk h_need_web (hr.mono (by decide)) (ma_cons (me_var 0) ma_nil))) (mss_cons (ms_expr (me_call tk h_need_league (hr.mono (by decide)) (ma_cons (me_var 0) (ma_cons (me_var 1) ma_nil)))) (mss_cons (ms_expr (me_call tk h_need_lot (hr.mono (by decide)) (ma_cons (me_var 0) (ma_cons (me_var 2) ma_nil)))) (mss_one (ms_ret (me_call tk h_first_harmed (hr.mono (by decide)) (ma_cons (me_var 0) (ma_cons (me_var 1) (ma_cons (me_var 2) ma_nil)))))))))⟩
abbrev s_law : Stmt := top 65
theorem sc_law : FnScope ["script", "drawn", "names", "row", "person", "deals", "many", "rows", "web", "full", "joined", "reach", "lot", "k", "both", "torn", "hurt", "one"] ["script"] (defScope s_law) := ⟨rfl, rfl, rfl, by decide +kernel, rfl, by decide +kernel, by decide +kernel⟩
def b_law : G.Env → Out := (mSeq (mSet 1 (mCallN 2 m__law_deals.fn (mCons (mCallN 2 m__law_at.fn (mCons (mVar 0) (mCons (mC (.int 0)) mNil))) (mCons (mCallN 2 m__law_at.fn (mCons (mVar 0) (mCons (mC (.int 1)) mNil))) mNil)))) (mSeq (mSet 2 (mLst mNil)) (mSeq (mFor (mSq D.seq (mSl (m2 D.ix (mVar 1) (mC (.int 1))) mNoP (mPart (mC (.int 5))))) (gnName 3) (mFor (mSq D.seq (mVar 3)) (gnName 4) (mIf (mB (m2 D.notIn (mVar 4) (mVar 2))) (mMut "list" 2 dAppend (mCons (mVar 4) mNil) kDrop) mNext))) (mSeq (mSet 5 (mTup (mCons (mCall (d1 D.len) (mCons (mVar 2) mNil)) (mCons (mCall (d1 D.toTup) (mCons (mLc [3] (mSq D.seq (mSl (m2 D.ix (mVar 1) (mC (.int 1))) mNoP (mPart (mC (.int 5))))) (gnName 3) mYes (mTup (mCons (mIndex (mVar 2) (mCons (m2 D.ix (mVar 3) (mC (.int 0))) mNil)) (mCons (mIndex (mVar 2) (mCons (m2 D.ix (mVar 3) (mC (.int 1))) mNil)) mNil)))) mNil)) mNil)))) (mSeq (mSet 6 (mCall (d1 D.len) (mCons (m2 D.ix (mVar 5) (mC (.int 1))) mNil))) (mSeq (mSet 7 (mLst mNil)) (mSeq (mFor (mSq D.seq (m2 D.ix (mVar 5) (mC (.int 1)))) (gnName 3) (mSeq (mMut "list" 7 dAppend (mCons (mTup (mCons (m2 D.ix (mVar 3) (mC (.int 0))) (mCons (m2 D.ix (mVar 3) (mC (.int 1))) (mCons (mC (.int 1)) mNil)))) mNil) kDrop) (mMut "list" 7 dAppend (mCons (mTup (mCons (m2 D.ix (mVar 3) (mC (.int 1))) (mCons (m2 D.ix (mVar 3) (mC (.int 0))) (mCons (mC (.int 2)) mNil)))) mNil) kDrop))) (mSeq (mSet 8 (mTup (mCons (m2 D.ix (mVar 5) (mC (.int 0))) (mCons (mCall (d1 D.toTup) (mCons (mVar 7) mNil)) mNil)))) (mSeq (mIf (mB (m2 D.isnt (mCallN 1 m_gain_league.fn (mCons (mVar 8) mNil)) (mC .non))) (mRet (mC (.bl false))) mNext) (mSeq (mSet 9 (mCallN 1 m_need_full.fn (mCons (mVar 8) mNil))) (mSeq (mSet 10 (mLst mNil)) (mSeq (mFor (mSq dRange1 (m2 D.ix (mVar 5) (mC (.int 0)))) (gnName 4) (mSeq (mSet 11 (mCallN 2 m__law_reach.fn (mCons (mVar 8) (mCons (mVar 4) mNil)))) (mSeq (mSet 12 (mCall (d1 D.toTup) (mCons (mLc [13] (mSq dRange1 (m2 D.mul (mC (.int 2)) (mVar 6))) (gnName 13) (mB (m2 D.isIn (m2 D.ix (m2 D.ix (m2 D.ix (mVar 8) (mC (.int 1))) (mVar 13)) (mC (.int 0))) (mVar 11))) (mVar 13)) mNil))) (mIf (mB (m2 D.notIn (mVar 12) (mVar 10))) (mMut "list" 10 dAppend (mCons (mVar 12) mNil) kDrop) mNext)))) (mSeq (mIf (mB (m2 D.ne (mCallN 2 m_need_bound.fn (mCons (mVar 8) (mCons (mVar 9) mNil))) (mCall (d1 D.toTup) (mCons (mCall (d1 D.sortT) (mCons (mVar 10) mNil)) mNil)))) (mRet (mC (.bl false))) mNext) (mSeq (mFor (mSq dRange1 (mC (.int 4))) (gnName 13) (mSeq (mSet 12 (mCallN 2 m__law_lot.fn (mCons (mCallN 2 m__law_at.fn (mCons (mVar 0) (mCons (m2 D.add (mC (.int 2)) (mVar 13)) mNil))) (mCons (mVar 6) mNil)))) (mSeq (mIf (mB (m2 D.eq (mVar 13) (mC (.int 0)))) (mSet 12 (mCall (d1 D.toTup) (mCons (mLc [17] (mSq D.seq (m2 D.ix (mVar 10) (mC (.int 0)))) (gnName 17) (mB (m2 D.eq (m2 D.mod (mVar 17) (mC (.int 2))) (mC (.int 0)))) (m2 D.fdiv (mVar 17) (mC (.int 2)))) mNil))) mNext) (mSeq (mSet 14 (mCall (d1 D.toTup) (mCons (mCall (d1 D.sortI') (mCons (m2 D.add (mLc [17] (mSq D.seq (mVar 12)) (gnName 17) mYes (m2 D.mul (mC (.int 2)) (mVar 17))) (mLc [17] (mSq D.seq (mVar 12)) (gnName 17) mYes (m2 D.add (m2 D.mul (mC (.int 2)) (mVar 17)) (mC (.int 1))))) mNil)) mNil))) (mSeq (mSet 15 (mCallN 3 m_agent_torn.fn (mCons (mVar 5) (mCons (mTup mNil) (mCons (mVar 12) mNil))))) (mSeq (mIf (mNot (mB (mCallN 2 m__law_flag.fn (mCons (mCallN 3 m_is_need_kept.fn (mCons (mVar 8) (mCons (mVar 9) (mCons (mVar 14) mNil)))) (mCons (m2 D.eq (mVar 15) (mTup mNil)) mNil))))) (mRet (mC (.bl false))) mNext) (mSeq (mSet 16 (mCallN 3 m_gain_harmed.fn (mCons (mVar 8) (mCons (mTup mNil) (mCons (mVar 14) mNil))))) (mIf (mOr (mB (m2 D.ne (m2 D.is (mVar 16) (mC .non)) (m2 D.eq (mVar 15) (mTup mNil)))) (mAnd (mB (m2 D.isnt (mVar 16) (mC .non))) (mB (m2 D.ne (mVar 16) (m2 D.ix (mVar 15) (mC (.int 0))))))) (mRet (mC (.bl false))) mNext)))))))) (mRet (mC (.bl true)))))))))))))))))
def m_law : DefM := ⟨1, 17, b_law⟩
theorem k_law {P : Program} {w : World} {K : PySem.W.Frag} {mg : Str → Option Value} {base : Heap} {f : Addr} {fd : FuncData} (F : FnP K "law" s_law f fd) (g : mg "law" = some (.ref f)) {f__law_deals : Addr} {fd__law_deals : FuncData} (h__law_deals : Fd P w K mg base 3 "_law_deals" ["cell", "more"] f__law_deals fd__law_deals m__law_deals.fn) {f__law_at : Addr} {fd__law_at : FuncData} (h__law_at : Fd P w K mg base 1 "_law_at" ["script", "k"] f__law_at fd__law_at m__law_at.fn) {f_gain_league : Addr} {fd_gain_league : FuncData} (h_gain_league : Fd P w K mg base 6 "gain_league" ["web"] f_gain_league fd_gain_league m_gain_league.fn) {f_need_full : Addr} {fd_need_full : FuncData} (h_need_full : Fd P w K mg base 6 "need_full" ["web"] f_need_full fd_need_full m_need_full.fn) {f__law_reach : Addr} {fd__law_reach : FuncData} (h__law_reach : Fd P w K mg base 1 "_law_reach" ["web", "begin"] f__law_reach fd__law_reach m__law_reach.fn) {f_need_bound : Addr} {fd_need_bound : FuncData} (h_need_bound : Fd P w K mg base 8 "need_bound" ["web", "needs"] f_need_bound fd_need_bound m_need_bound.fn) {f__law_lot : Addr} {fd__law_lot : FuncData} (h__law_lot : Fd P w K mg base 3 "_law_lot" ["cell", "many"] f__law_lot fd__law_lot m__law_lot.fn) {f_agent_torn : Addr} {fd_agent_torn : FuncData} (h_agent_torn : Fd P w K mg base 6 "agent_torn" ["deals", "free", "lot"] f_agent_torn fd_agent_torn m_agent_torn.fn) {f__law_flag : Addr} {fd__law_flag : FuncData} (h__law_flag : Fd P w K mg base 1 "_law_flag" ["found", "due"] f__law_flag fd__law_flag m__law_flag.fn) {f_is_need_kept : Addr} {fd_is_need_kept : FuncData} (h_is_need_kept : Fd P w K mg base 8 "is_need_kept" ["web", "needs", "thing"] f_is_need_kept fd_is_need_kept m_is_need_kept.fn) {f_gain_harmed : Addr} {fd_gain_harmed : FuncData} (h_gain_harmed : Fd P w K mg base 6 "gain_harmed" ["web", "league", "lot"] f_gain_harmed fd_gain_harmed m_gain_harmed.fn) (n_len : mg "len" = none) (n_tuple : mg "tuple" = none) (n_range : mg "range" = none) (n_sorted : mg "sorted" = none) : Fd P w K mg base 9 "law" ["script"] f fd m_law.fn := by
  refine fd_of (k := 8) (N := ["script", "drawn", "names", "row", "person", "deals", "many", "rows", "web", "full", "joined", "reach", "lot", "k", "both", "torn", "hurt", "one"]) (m := m_law) F sc_law g (F.bindsN fun _ _ _ _ _ _ us hl => match us, hl with | [_], _ => rfl) rfl rfl fun cdv A outer s H E hr tk => ?_
  have nd := sc_law.nd
  have hu := hu65 hr
  show ∃ t o', MSs _ _ _ _ _ _ o' t b_law
  unfold b_law
  exact ⟨_, [], (mss_cons (ms_set 1 nd (me_call tk h__law_deals (hr.mono (by decide)) (ma_cons (me_call tk h__law_at (hr.mono (by decide)) (ma_cons (me_var 0) (ma_cons me_int ma_nil))) (ma_cons (me_call tk h__law_at (hr.mono (by decide)) (ma_cons (me_var 0) (ma_cons me_int ma_nil))) ma_nil)))) (mss_cons (ms_setO 2 nd (mo_lst ma_nil)) (mss_cons (ms_weak [2] (ms_for (passes_of rfl) rfl (mi_seq (me_slice (me_ix (me_var 1) me_int) mp_no (mp_some me_int))) (mg_name 3 nd) (mss_one (ms_for (passes_of rfl) rfl (mi_seq (me_var 3)) (mg_name 4 nd) (mss_one (ms_if (mt_bor 2 (mt_cmp (c_notIn hu) (me_var 4) (me_var 2))) (mss_one (ms_mut m_append 2 (ma_cons (me_var 4) ma_nil))) mss_nil)))))) (mss_cons (ms_set 5 nd (me_tup (ma_cons (me_cb pu_len call_lenAll n_len b_len (ma_cons (me_var 2) ma_nil)) (ma_cons (me_ct pu_tuple call_tuple_of n_tuple b_tuple (ma_cons (me_o (mo_lc s H [("row", 3)] rfl nd (mi_seq (me_slice (me_ix (me_var 1) me_int) mp_no (mp_some me_int))) (by first | (show blkC ["script", "drawn", "names", "row", "person", "deals", "many", "rows", "web", "full", "joined", "reach", "lot", "k", "both", "torn", "hurt", "one"] (defScope s_law) _ _ = true; decide +kernel) | kernel_rfl) (fun _ _ _ _ _ => (mg_name 3 nd)) (fun _ _ _ _ _ => mts_nil) (fun _ _ _ _ _ => (me_tup (ma_cons (me_index (me_var 2) (ma_cons (me_ix (me_var 3) me_int) ma_nil)) (ma_cons (me_index (me_var 2) (ma_cons (me_ix (me_var 3) me_int) ma_nil)) ma_nil)))) gw1)) ma_nil)) ma_nil)))) (mss_cons (ms_set 6 nd (me_cb pu_len call_lenAll n_len b_len (ma_cons (me_ix (me_var 5) me_int) ma_nil))) (mss_cons (ms_setO 7 nd (mo_lst ma_nil)) (mss_cons (ms_weak [7] (ms_for (passes_of rfl) rfl (mi_seq (me_ix (me_var 5) me_int)) (mg_name 3 nd) (mss_cons (ms_mut m_append 7 (ma_cons (me_tup (ma_cons (me_ix (me_var 3) me_int) (ma_cons (me_ix (me_var 3) me_int) (ma_cons me_int ma_nil)))) ma_nil)) (mss_one (ms_mut m_append 7 (ma_cons (me_tup (ma_cons (me_ix (me_var 3) me_int) (ma_cons (me_ix (me_var 3) me_int) (ma_cons me_int ma_nil)))) ma_nil)))))) (mss_cons (ms_set 8 nd (me_tup (ma_cons (me_ix (me_var 5) me_int) (ma_cons (me_ct pu_tuple call_tuple_of n_tuple b_tuple (ma_cons (me_var 7) ma_nil)) ma_nil)))) (mss_cons (ms_if (mt_cmp c_isnt (me_call tk h_gain_league (hr.mono (by decide)) (ma_cons (me_var 8) ma_nil)) me_non) (mss_one (ms_ret me_bl)) mss_nil) (mss_cons (ms_set 9 nd (me_call tk h_need_full (hr.mono (by decide)) (ma_cons (me_var 8) ma_nil))) (mss_cons (ms_setO 10 nd (mo_lst ma_nil)) (mss_cons (ms_weak [10] (ms_for (passes_of rfl) rfl (mi_range1 n_range (me_ix (me_var 5) me_int)) (mg_name 4 nd) (mss_cons (ms_set 11 nd (me_call tk h__law_reach (hr.mono (by decide)) (ma_cons (me_var 8) (ma_cons (me_var 4) ma_nil)))) (mss_cons (ms_set 12 nd (me_ct pu_tuple call_tuple_of n_tuple b_tuple (ma_cons (me_o (mo_lc s H [("k", 13)] rfl nd (mi_range1 n_range (me_mul me_int (me_var 6))) (by first | (show blkC ["script", "drawn", "names", "row", "person", "deals", "many", "rows", "web", "full", "joined", "reach", "lot", "k", "both", "torn", "hurt", "one"] (defScope s_law) _ _ = true; decide +kernel) | kernel_rfl) (fun _ _ _ _ _ => (mg_name 13 nd)) (fun _ _ _ _ _ => (mts_one (mt_cmp (c_in hu) (me_ix (me_ix (me_ix (me_var 8) me_int) (me_var 13)) me_int) (me_var 11)))) (fun _ _ _ _ _ => (me_var 13)) gw1)) ma_nil))) (mss_one (ms_if (mt_bor 10 (mt_cmp (c_notIn hu) (me_var 12) (me_var 10))) (mss_one (ms_mut m_append 10 (ma_cons (me_var 12) ma_nil))) mss_nil)))))) (mss_cons (ms_if (mt_cmp (c_ne hu) (me_call tk h_need_bound (hr.mono (by decide)) (ma_cons (me_var 8) (ma_cons (me_var 9) ma_nil))) (me_ct pu_tuple call_tuple_of n_tuple b_tuple (ma_cons (me_o (mo_cb pu_sortT (TpL.cr_soT hu) n_sorted b_sorted (ma_cons (me_var 10) ma_nil))) ma_nil))) (mss_one (ms_ret me_bl)) mss_nil) (mss_cons (ms_for (passes_of rfl) rfl (mi_range1 n_range me_int) (mg_name 13 nd) (mss_cons (ms_set 12 nd (me_call tk h__law_lot (hr.mono (by decide)) (ma_cons (me_call tk h__law_at (hr.mono (by decide)) (ma_cons (me_var 0) (ma_cons (me_add me_int (me_var 13)) ma_nil))) (ma_cons (me_var 6) ma_nil)))) (mss_cons (ms_if (mt_cmp (c_eq hu) (me_var 13) me_int) (mss_one (ms_set 12 nd (me_ct pu_tuple call_tuple_of n_tuple b_tuple (ma_cons (me_o (mo_lc s H [("one", 17)] rfl nd (mi_seq (me_ix (me_var 10) me_int)) (by first | (show blkC ["script", "drawn", "names", "row", "person", "deals", "many", "rows", "web", "full", "joined", "reach", "lot", "k", "both", "torn", "hurt", "one"] (defScope s_law) _ _ = true; decide +kernel) | kernel_rfl) (fun _ _ _ _ _ => (mg_name 17 nd)) (fun _ _ _ _ _ => (mts_one (mt_cmp (c_eq hu) (me_mod (me_var 17) me_int) me_int))) (fun _ _ _ _ _ => (me_fdiv (me_var 17) me_int)) gw1)) ma_nil)))) mss_nil) (mss_cons (ms_set 14 nd (me_ct pu_tuple call_tuple_of n_tuple b_tuple (ma_cons (me_o (mo_cb pu_sortI' TpL.cr_soI n_sorted b_sorted (ma_cons (me_add (me_o (mo_lc s H [("one", 17)] rfl nd (mi_seq (me_var 12)) (by first | (show blkC ["script", "drawn", "names", "row", "person", "deals", "many", "rows", "web", "full", "joined", "reach", "lot", "k", "both", "torn", "hurt", "one"] (defScope s_law) _ _ = true; decide +kernel) | kernel_rfl) (fun _ _ _ _ _ => (mg_name 17 nd)) (fun _ _ _ _ _ => mts_nil) (fun _ _ _ _ _ => (me_mul me_int (me_var 17))) gw1)) (me_o (mo_lc s H [("one", 17)] rfl nd (mi_seq (me_var 12)) (by first | (show blkC ["script", "drawn", "names", "row", "person", "deals", "many", "rows", "web", "full", "joined", "reach", "lot", "k", "both", "torn", "hurt", "one"] (defScope s_law) _ _ = true; decide +kernel) | kernel_rfl) (fun _ _ _ _ _ => (mg_name 17 nd)) (fun _ _ _ _ _ => mts_nil) (fun _ _ _ _ _ => (me_add (me_mul me_int (me_var 17)) me_int)) gw1))) ma_nil))) ma_nil))) (mss_cons (ms_set 15 nd (me_call tk h_agent_torn (hr.mono (by decide)) (ma_cons (me_var 5) (ma_cons (me_tup ma_nil) (ma_cons (me_var 12) ma_nil))))) (mss_cons (ms_if (mt_not (mt_val (me_call tk h__law_flag (hr.mono (by decide)) (ma_cons (me_call tk h_is_need_kept (hr.mono (by decide)) (ma_cons (me_var 8) (ma_cons (me_var 9) (ma_cons (me_var 14) ma_nil)))) (ma_cons (me_cmp (c_eq hu) (me_var 15) (me_tup ma_nil)) ma_nil))))) (mss_one (ms_ret me_bl)) mss_nil) (mss_cons (ms_set 16 nd (me_call tk h_gain_harmed (hr.mono (by decide)) (ma_cons (me_var 8) (ma_cons (me_tup ma_nil) (ma_cons (me_var 14) ma_nil))))) (mss_one (ms_if (mt_w (mw_or (mt_cmp (c_ne hu) (me_cmp c_is (me_var 16) me_non) (me_cmp (c_eq hu) (me_var 15) (me_tup ma_nil))) (mw_or1 (mt_w (mw_and (mt_cmp c_isnt (me_var 16) me_non) (mw_and1 (mt_cmp (c_ne hu) (me_var 16) (me_ix (me_var 15) me_int)))))))) (mss_one (ms_ret me_bl)) mss_nil))))))))) (mss_one (ms_ret me_bl))))))))))))))))⟩
end L
namespace L
open PySem L2 G
theorem f_int (i : Int) : m_is_integer.fn [.int i] = .ok (.bl true) := rfl
theorem f_between (i a b : Int) : m_is_between.fn [.int i, .int a, .int b] = .ok (.bl (decide (a ≤ i) && decide (i ≤ b))) := by
  rw [fn_run rfl]
  simp only [mSeq, mSet, mRet, mRetN, mNext, mDrop, mIf, mVar, mC, m1, m2, mCons, mNil, mCall, mCallN, mCall0, mB, mAnd, mOr, mNot, mAndV, mOrV, mNotV, mIte, mChain, mTg, mPar, gnName, gnTup, gnCons, gnNil, d1, d2, D.toB, oBind_ok, Out.seq_nx, Out.seq_rt, R.bind_ok, R.val, Out.res, List.length_cons, List.length_nil, List.map_cons, List.map_nil, List.replicate_succ, List.replicate_zero, List.cons_append, List.nil_append, List.getElem?_cons_zero, List.getElem?_cons_succ, List.set_cons_zero, List.set_cons_succ, Nat.reduceAdd, if_true, cond_true, cond_false, D.add, D.sub, dI0, D.toInt, Bool.not_true, Bool.not_false, id_eq, m_is_between, b_is_between, f_int, dle]
  cases h : decide (a ≤ i) <;> simp only [mSeq, mSet, mRet, mRetN, mNext, mDrop, mIf, mVar, mC, m1, m2, mCons, mNil, mCall, mCallN, mCall0, mB, mAnd, mOr, mNot, mAndV, mOrV, mNotV, mIte, mChain, mTg, mPar, gnName, gnTup, gnCons, gnNil, d1, d2, D.toB, oBind_ok, Out.seq_nx, Out.seq_rt, R.bind_ok, R.val, Out.res, List.length_cons, List.length_nil, List.map_cons, List.map_nil, List.replicate_succ, List.replicate_zero, List.cons_append, List.nil_append, List.getElem?_cons_zero, List.getElem?_cons_succ, List.set_cons_zero, List.set_cons_succ, Nat.reduceAdd, if_true, cond_true, cond_false, D.add, D.sub, dI0, D.toInt, Bool.not_true, Bool.not_false, id_eq, Bool.true_and, Bool.false_and]
theorem f_under (i n : Int) : m_is_under.fn [.int i, .int n] = .ok (.bl (decide (0 ≤ i) && decide (i < n))) := by
  rw [fn_run rfl]
  simp only [mSeq, mSet, mRet, mRetN, mNext, mDrop, mIf, mVar, mC, m1, m2, mCons, mNil, mCall, mCallN, mCall0, mB, mAnd, mOr, mNot, mAndV, mOrV, mNotV, mIte, mChain, mTg, mPar, gnName, gnTup, gnCons, gnNil, d1, d2, D.toB, oBind_ok, Out.seq_nx, Out.seq_rt, R.bind_ok, R.val, Out.res, List.length_cons, List.length_nil, List.map_cons, List.map_nil, List.replicate_succ, List.replicate_zero, List.cons_append, List.nil_append, List.getElem?_cons_zero, List.getElem?_cons_succ, List.set_cons_zero, List.set_cons_succ, Nat.reduceAdd, if_true, cond_true, cond_false, D.add, D.sub, dI0, D.toInt, Bool.not_true, Bool.not_false, id_eq, m_is_under, b_is_under, f_int, dle, dlt]
  cases h : decide (0 ≤ i) <;> simp only [mSeq, mSet, mRet, mRetN, mNext, mDrop, mIf, mVar, mC, m1, m2, mCons, mNil, mCall, mCallN, mCall0, mB, mAnd, mOr, mNot, mAndV, mOrV, mNotV, mIte, mChain, mTg, mPar, gnName, gnTup, gnCons, gnNil, d1, d2, D.toB, oBind_ok, Out.seq_nx, Out.seq_rt, R.bind_ok, R.val, Out.res, List.length_cons, List.length_nil, List.map_cons, List.map_nil, List.replicate_succ, List.replicate_zero, List.cons_append, List.nil_append, List.getElem?_cons_zero, List.getElem?_cons_succ, List.set_cons_zero, List.set_cons_succ, Nat.reduceAdd, if_true, cond_true, cond_false, D.add, D.sub, dI0, D.toInt, Bool.not_true, Bool.not_false, id_eq, Bool.true_and, Bool.false_and]
theorem f_tupleOf (ds : List D) (n : Int) : m_is_tuple_of.fn [.tup ds, .int n] = .ok (.bl (decide ((ds.length : Int) = n))) := by
  have h : D.isi (.tup ds) (.ty "tuple") = .ok (.bl true) := rfl
  rw [fn_run rfl]
  simp only [mSeq, mSet, mRet, mRetN, mNext, mDrop, mIf, mVar, mC, m1, m2, mCons, mNil, mCall, mCallN, mCall0, mB, mAnd, mOr, mNot, mAndV, mOrV, mNotV, mIte, mChain, mTg, mPar, gnName, gnTup, gnCons, gnNil, d1, d2, D.toB, oBind_ok, Out.seq_nx, Out.seq_rt, R.bind_ok, R.val, Out.res, List.length_cons, List.length_nil, List.map_cons, List.map_nil, List.replicate_succ, List.replicate_zero, List.cons_append, List.nil_append, List.getElem?_cons_zero, List.getElem?_cons_succ, List.set_cons_zero, List.set_cons_succ, Nat.reduceAdd, if_true, cond_true, cond_false, D.add, D.sub, dI0, D.toInt, Bool.not_true, Bool.not_false, id_eq, m_is_tuple_of, b_is_tuple_of, h, len_tup, deq]
/-- a lot as data -/
abbrev lotD (l : List Nat) : D := .tup (l.map nI)
theorem f_areUnder (l : List Nat) (n : Nat) (hl : l.length ≤ 1000) : m_are_under.fn [lotD l, .int n] = .ok (.bl (l.all fun x => decide (x < n))) := by
  have h : D.isi (.tup (l.map nI)) (.ty "tuple") = .ok (.bl true) := rfl
  rw [fn_run rfl]
  simp only [mSeq, mSet, mRet, mRetN, mNext, mDrop, mIf, mVar, mC, m1, m2, mCons, mNil, mCall, mCallN, mCall0, mB, mAnd, mOr, mNot, mAndV, mOrV, mNotV, mIte, mChain, mTg, mPar, gnName, gnTup, gnCons, gnNil, d1, d2, D.toB, oBind_ok, Out.seq_nx, Out.seq_rt, R.bind_ok, R.val, Out.res, List.length_cons, List.length_nil, List.map_cons, List.map_nil, List.replicate_succ, List.replicate_zero, List.cons_append, List.nil_append, List.getElem?_cons_zero, List.getElem?_cons_succ, List.set_cons_zero, List.set_cons_succ, Nat.reduceAdd, if_true, cond_true, cond_false, D.add, D.sub, dI0, D.toInt, Bool.not_true, Bool.not_false, id_eq, m_are_under, b_are_under, h]
  rw [mLc_map (emb := nI) (l := l) (r := fun a => [some (.tup (l.map nI)), some (.int n), some (nI a)]) (f := fun a => .bl (decide (a < n))) rfl (by omega) fun a _ => ⟨rfl, ?_⟩]
  · simp only [mSeq, mSet, mRet, mRetN, mNext, mDrop, mIf, mVar, mC, m1, m2, mCons, mNil, mCall, mCallN, mCall0, mB, mAnd, mOr, mNot, mAndV, mOrV, mNotV, mIte, mChain, mTg, mPar, gnName, gnTup, gnCons, gnNil, d1, d2, D.toB, oBind_ok, Out.seq_nx, Out.seq_rt, R.bind_ok, R.val, Out.res, List.length_cons, List.length_nil, List.map_cons, List.map_nil, List.replicate_succ, List.replicate_zero, List.cons_append, List.nil_append, List.getElem?_cons_zero, List.getElem?_cons_succ, List.set_cons_zero, List.set_cons_succ, Nat.reduceAdd, if_true, cond_true, cond_false, D.add, D.sub, dI0, D.toInt, Bool.not_true, Bool.not_false, id_eq, all_ok]
  · simp only [mSeq, mSet, mRet, mRetN, mNext, mDrop, mIf, mVar, mC, m1, m2, mCons, mNil, mCall, mCallN, mCall0, mB, mAnd, mOr, mNot, mAndV, mOrV, mNotV, mIte, mChain, mTg, mPar, gnName, gnTup, gnCons, gnNil, d1, d2, D.toB, oBind_ok, Out.seq_nx, Out.seq_rt, R.bind_ok, R.val, Out.res, List.length_cons, List.length_nil, List.map_cons, List.map_nil, List.replicate_succ, List.replicate_zero, List.cons_append, List.nil_append, List.getElem?_cons_zero, List.getElem?_cons_succ, List.set_cons_zero, List.set_cons_succ, Nat.reduceAdd, if_true, cond_true, cond_false, D.add, D.sub, dI0, D.toInt, Bool.not_true, Bool.not_false, id_eq, f_under]
    have e1 : decide (0 ≤ (a : Int)) = true := decide_eq_true (by omega)
    have e2 : decide ((a : Int) < (n : Int)) = decide (a < n) := bool_ext (by rw [decide_eq_true_iff, decide_eq_true_iff]; omega)
    rw [e1, e2]
    rfl
def Lot (n : Nat) (l : List Nat) : Prop := (∀ x ∈ l, x < n) ∧ l.Pairwise (· < ·)
theorem f_isLot {n : Nat} {l : List Nat} (h : Lot n l) (hl : l.length ≤ 1000) : m_is_lot.fn [lotD l, .int n] = .ok (.bl true) := by
  have e : (l.all fun x => decide (x < n)) = true := by
    rw [List.all_eq_true]
    exact fun x hx => decide_eq_true (h.1 x hx)
  rw [fn_run rfl]
  simp only [mSeq, mSet, mRet, mRetN, mNext, mDrop, mIf, mVar, mC, m1, m2, mCons, mNil, mCall, mCallN, mCall0, mB, mAnd, mOr, mNot, mAndV, mOrV, mNotV, mIte, mChain, mTg, mPar, gnName, gnTup, gnCons, gnNil, d1, d2, D.toB, oBind_ok, Out.seq_nx, Out.seq_rt, R.bind_ok, R.val, Out.res, List.length_cons, List.length_nil, List.map_cons, List.map_nil, List.replicate_succ, List.replicate_zero, List.cons_append, List.nil_append, List.getElem?_cons_zero, List.getElem?_cons_succ, List.set_cons_zero, List.set_cons_succ, Nat.reduceAdd, if_true, cond_true, cond_false, D.add, D.sub, dI0, D.toInt, Bool.not_true, Bool.not_false, id_eq, m_is_lot, b_is_lot, f_areUnder l n hl, e]
  rw [mLc_map (emb := fun i => nI (1 + i)) (l := List.range (l.length - 1)) (r := fun i => [some (lotD l), some (.int n), some (nI (1 + i))]) (f := fun i => .bl true) ?hi (by rw [List.length_range]; omega) fun i hi => ⟨rfl, ?hm⟩]
  case hi =>
    simp only [mSeq, mSet, mRet, mRetN, mNext, mDrop, mIf, mVar, mC, m1, m2, mCons, mNil, mCall, mCallN, mCall0, mB, mAnd, mOr, mNot, mAndV, mOrV, mNotV, mIte, mChain, mTg, mPar, gnName, gnTup, gnCons, gnNil, d1, d2, D.toB, oBind_ok, Out.seq_nx, Out.seq_rt, R.bind_ok, R.val, Out.res, List.length_cons, List.length_nil, List.map_cons, List.map_nil, List.replicate_succ, List.replicate_zero, List.cons_append, List.nil_append, List.getElem?_cons_zero, List.getElem?_cons_succ, List.set_cons_zero, List.set_cons_succ, Nat.reduceAdd, if_true, cond_true, cond_false, D.add, D.sub, dI0, D.toInt, Bool.not_true, Bool.not_false, id_eq, mRange2, len_tup, List.length_map]
    exact range2_nat (a := 1) (by omega) (by omega)
  case hm =>
    have hi := List.mem_range.mp hi
    have h1 : D.ix (lotD l) (.int (((1 + i : Nat) : Int) - 1)) = .ok (nI (l[i]'(by omega))) := ix_tup (by
      rw [atI_nat (n := i) (by omega) (by rw [List.length_map]; omega), List.getElem_map])
    have h2 : D.ix (lotD l) (nI (1 + i)) = .ok (nI (l[1 + i]'(by omega))) := ix_tup (by
      rw [atI_nat (n := 1 + i) rfl (by rw [List.length_map]; omega), List.getElem_map])
    simp only [mSeq, mSet, mRet, mRetN, mNext, mDrop, mIf, mVar, mC, m1, m2, mCons, mNil, mCall, mCallN, mCall0, mB, mAnd, mOr, mNot, mAndV, mOrV, mNotV, mIte, mChain, mTg, mPar, gnName, gnTup, gnCons, gnNil, d1, d2, D.toB, oBind_ok, Out.seq_nx, Out.seq_rt, R.bind_ok, R.val, Out.res, List.length_cons, List.length_nil, List.map_cons, List.map_nil, List.replicate_succ, List.replicate_zero, List.cons_append, List.nil_append, List.getElem?_cons_zero, List.getElem?_cons_succ, List.set_cons_zero, List.set_cons_succ, Nat.reduceAdd, if_true, cond_true, cond_false, D.add, D.sub, dI0, D.toInt, Bool.not_true, Bool.not_false, id_eq, h1, h2, dlt]
    have z := List.pairwise_iff_getElem.mp h.2 i (1 + i) (by omega) (by omega) (by omega)
    rw [decide_eq_true (by omega)]
  simp only [mSeq, mSet, mRet, mRetN, mNext, mDrop, mIf, mVar, mC, m1, m2, mCons, mNil, mCall, mCallN, mCall0, mB, mAnd, mOr, mNot, mAndV, mOrV, mNotV, mIte, mChain, mTg, mPar, gnName, gnTup, gnCons, gnNil, d1, d2, D.toB, oBind_ok, Out.seq_nx, Out.seq_rt, R.bind_ok, R.val, Out.res, List.length_cons, List.length_nil, List.map_cons, List.map_nil, List.replicate_succ, List.replicate_zero, List.cons_append, List.nil_append, List.getElem?_cons_zero, List.getElem?_cons_succ, List.set_cons_zero, List.set_cons_succ, Nat.reduceAdd, if_true, cond_true, cond_false, D.add, D.sub, dI0, D.toInt, Bool.not_true, Bool.not_false, id_eq]
  have z := all_ok (List.range (l.length - 1)) (fun _ => true)
  rw [z]
  simp only [mSeq, mSet, mRet, mRetN, mNext, mDrop, mIf, mVar, mC, m1, m2, mCons, mNil, mCall, mCallN, mCall0, mB, mAnd, mOr, mNot, mAndV, mOrV, mNotV, mIte, mChain, mTg, mPar, gnName, gnTup, gnCons, gnNil, d1, d2, D.toB, oBind_ok, Out.seq_nx, Out.seq_rt, R.bind_ok, R.val, Out.res, List.length_cons, List.length_nil, List.map_cons, List.map_nil, List.replicate_succ, List.replicate_zero, List.cons_append, List.nil_append, List.getElem?_cons_zero, List.getElem?_cons_succ, List.set_cons_zero, List.set_cons_succ, Nat.reduceAdd, if_true, cond_true, cond_false, D.add, D.sub, dI0, D.toInt, Bool.not_true, Bool.not_false, id_eq]
  have z2 : ((List.range (l.length - 1)).all fun _ => true) = true := List.all_eq_true.mpr fun _ _ => rfl
  rw [z2]
def mixed (c k : Int) : Int := ((c * 48271 + k * 69621 + 11) * 16807 + (c * 48271 + k * 69621 + 11).fdiv 8191).fmod 2147483647
theorem f_mixed (c k : Int) : m__law_mixed.fn [.int c, .int k] = .ok (.int (mixed c k)) := by
  rw [fn_run rfl]
  simp only [mSeq, mSet, mRet, mRetN, mNext, mDrop, mIf, mVar, mC, m1, m2, mCons, mNil, mCall, mCallN, mCall0, mB, mAnd, mOr, mNot, mAndV, mOrV, mNotV, mIte, mChain, mTg, mPar, gnName, gnTup, gnCons, gnNil, d1, d2, D.toB, oBind_ok, Out.seq_nx, Out.seq_rt, R.bind_ok, R.val, Out.res, List.length_cons, List.length_nil, List.map_cons, List.map_nil, List.replicate_succ, List.replicate_zero, List.cons_append, List.nil_append, List.getElem?_cons_zero, List.getElem?_cons_succ, List.set_cons_zero, List.set_cons_succ, Nat.reduceAdd, if_true, cond_true, cond_false, D.add, D.sub, dI0, D.toInt, Bool.not_true, Bool.not_false, id_eq, m__law_mixed, b__law_mixed]
  rw [mul_okR (by omega) (by omega), mul_okR (by omega) (by omega)]
  simp only [mSeq, mSet, mRet, mRetN, mNext, mDrop, mIf, mVar, mC, m1, m2, mCons, mNil, mCall, mCallN, mCall0, mB, mAnd, mOr, mNot, mAndV, mOrV, mNotV, mIte, mChain, mTg, mPar, gnName, gnTup, gnCons, gnNil, d1, d2, D.toB, oBind_ok, Out.seq_nx, Out.seq_rt, R.bind_ok, R.val, Out.res, List.length_cons, List.length_nil, List.map_cons, List.map_nil, List.replicate_succ, List.replicate_zero, List.cons_append, List.nil_append, List.getElem?_cons_zero, List.getElem?_cons_succ, List.set_cons_zero, List.set_cons_succ, Nat.reduceAdd, if_true, cond_true, cond_false, D.add, D.sub, dI0, D.toInt, Bool.not_true, Bool.not_false, id_eq]
  rw [mul_okR (by omega) (by omega), fdiv_ok (by omega) (by omega)]
  simp only [mSeq, mSet, mRet, mRetN, mNext, mDrop, mIf, mVar, mC, m1, m2, mCons, mNil, mCall, mCallN, mCall0, mB, mAnd, mOr, mNot, mAndV, mOrV, mNotV, mIte, mChain, mTg, mPar, gnName, gnTup, gnCons, gnNil, d1, d2, D.toB, oBind_ok, Out.seq_nx, Out.seq_rt, R.bind_ok, R.val, Out.res, List.length_cons, List.length_nil, List.map_cons, List.map_nil, List.replicate_succ, List.replicate_zero, List.cons_append, List.nil_append, List.getElem?_cons_zero, List.getElem?_cons_succ, List.set_cons_zero, List.set_cons_succ, Nat.reduceAdd, if_true, cond_true, cond_false, D.add, D.sub, dI0, D.toInt, Bool.not_true, Bool.not_false, id_eq]
  rw [mod_ok (by omega)]
  rfl
def rowB : G.Env → Out := (mIf (mB (mVar 5)) (mSeq (mMut "list" 3 dAppend (mCons (m2 D.mod (mCall (d1 D.toInt) (mCons (mVar 4) mNil)) (mVar 2)) mNil) kDrop) (mSet 4 (m2 D.fdiv (mVar 4) (mVar 2)))) (mMut "list" 3 dAppend (mCons (m2 D.mod (m2 D.fdiv (mCallN 2 m__law_mixed.fn (mCons (mVar 0) (mCons (mVar 6) mNil))) (mC (.int 7))) (mVar 2)) mNil) kDrop))
theorem f_row (c : Int) (many : Nat) (top : Int) (hm : many ≤ 1000) (h0 : 0 < top) (h1 : top < 1000000) : ∃ l : List Int, m__law_row.fn [.int c, .int many, .int top] = .ok (.lst (l.map D.int)) ∧ l.length = many ∧ ∀ x ∈ l, 0 ≤ x ∧ x < top := by
  have step : ∀ (ks : List Nat) (found : List Int) (left : Int) (g : Bool) (v : Option D), found.length + ks.length ≤ 2000 → ∃ (l : List Int) (left' : Int) (v' : Option D),
      loopD (stepD (gnName 6) rowB) (ks.map nI) [some (.int c), some (.int many), some (.int top), some (.lst (found.map D.int)), some (.int left), some (.bl g), v] = .nx [some (.int c), some (.int many), some (.int top), some (.lst ((found ++ l).map D.int)), some (.int left'), some (.bl g), v'] ∧ l.length = ks.length ∧ ∀ x ∈ l, 0 ≤ x ∧ x < top := by
    intro ks
    induction ks with
    | nil => intro found left g v _; exact ⟨[], left, v, by rw [List.append_nil]; rfl, rfl, fun _ h => by cases h⟩
    | cons k ks ih =>
      intro found left g v hl
      rw [List.length_cons] at hl
      cases g with
      | true =>
        obtain ⟨l, left', v', e, e2, e3⟩ := ih (found ++ [left.fmod top]) (left.fdiv top) true (some (nI k)) (by rw [List.length_append, List.length_singleton]; omega)
        refine ⟨left.fmod top :: l, left', v', loop_cons (ρ1 := [some (.int c), some (.int many), some (.int top), some (.lst (found.map D.int)), some (.int left), some (.bl true), some (nI k)]) (ρ2 := [some (.int c), some (.int many), some (.int top), some (.lst ((found ++ [left.fmod top]).map D.int)), some (.int (left.fdiv top)), some (.bl true), some (nI k)]) rfl ?_ ?_, by rw [List.length_cons, List.length_cons, e2], fun x hx => ?_⟩
        · refine if_t rfl (seq_nx (mut_append (xs := found.map D.int) (y := .int (left.fmod top)) rfl ?_ (by rw [List.length_map]; omega)) ?_)
          · simp only [mSeq, mSet, mRet, mRetN, mNext, mDrop, mIf, mVar, mC, m1, m2, mCons, mNil, mCall, mCallN, mCall0, mB, mAnd, mOr, mNot, mAndV, mOrV, mNotV, mIte, mChain, mTg, mPar, gnName, gnTup, gnCons, gnNil, d1, d2, D.toB, oBind_ok, Out.seq_nx, Out.seq_rt, R.bind_ok, R.val, Out.res, List.length_cons, List.length_nil, List.map_cons, List.map_nil, List.replicate_succ, List.replicate_zero, List.cons_append, List.nil_append, List.getElem?_cons_zero, List.getElem?_cons_succ, List.set_cons_zero, List.set_cons_succ, Nat.reduceAdd, if_true, cond_true, cond_false, D.add, D.sub, dI0, D.toInt, Bool.not_true, Bool.not_false, id_eq, mod_ok (i := left) (j := top) (by omega)]
          · refine (set_nx (d := .int (left.fdiv top)) ?_).trans ?_
            · simp only [mSeq, mSet, mRet, mRetN, mNext, mDrop, mIf, mVar, mC, m1, m2, mCons, mNil, mCall, mCallN, mCall0, mB, mAnd, mOr, mNot, mAndV, mOrV, mNotV, mIte, mChain, mTg, mPar, gnName, gnTup, gnCons, gnNil, d1, d2, D.toB, oBind_ok, Out.seq_nx, Out.seq_rt, R.bind_ok, R.val, Out.res, List.length_cons, List.length_nil, List.map_cons, List.map_nil, List.replicate_succ, List.replicate_zero, List.cons_append, List.nil_append, List.getElem?_cons_zero, List.getElem?_cons_succ, List.set_cons_zero, List.set_cons_succ, Nat.reduceAdd, if_true, cond_true, cond_false, D.add, D.sub, dI0, D.toInt, Bool.not_true, Bool.not_false, id_eq, fdiv_ok (i := left) (j := top) (by omega) (by omega)]
            · rw [List.map_append]; rfl
        · rw [e, List.append_assoc]; rfl
        · rcases List.mem_cons.mp hx with rfl | hx
          · exact fmod_rg h0
          · exact e3 x hx
      | false =>
        obtain ⟨l, left', v', e, e2, e3⟩ := ih (found ++ [((mixed c k).fdiv 7).fmod top]) left false (some (nI k)) (by rw [List.length_append, List.length_singleton]; omega)
        refine ⟨((mixed c k).fdiv 7).fmod top :: l, left', v', loop_cons (ρ1 := [some (.int c), some (.int many), some (.int top), some (.lst (found.map D.int)), some (.int left), some (.bl false), some (nI k)]) (ρ2 := [some (.int c), some (.int many), some (.int top), some (.lst ((found ++ [((mixed c k).fdiv 7).fmod top]).map D.int)), some (.int left), some (.bl false), some (nI k)]) rfl ?_ ?_, by rw [List.length_cons, List.length_cons, e2], fun x hx => ?_⟩
        · refine if_f rfl ((mut_append (xs := found.map D.int) (y := .int (((mixed c k).fdiv 7).fmod top)) rfl ?_ (by rw [List.length_map]; omega)).trans ?_)
          · simp only [mSeq, mSet, mRet, mRetN, mNext, mDrop, mIf, mVar, mC, m1, m2, mCons, mNil, mCall, mCallN, mCall0, mB, mAnd, mOr, mNot, mAndV, mOrV, mNotV, mIte, mChain, mTg, mPar, gnName, gnTup, gnCons, gnNil, d1, d2, D.toB, oBind_ok, Out.seq_nx, Out.seq_rt, R.bind_ok, R.val, Out.res, List.length_cons, List.length_nil, List.map_cons, List.map_nil, List.replicate_succ, List.replicate_zero, List.cons_append, List.nil_append, List.getElem?_cons_zero, List.getElem?_cons_succ, List.set_cons_zero, List.set_cons_succ, Nat.reduceAdd, if_true, cond_true, cond_false, D.add, D.sub, dI0, D.toInt, Bool.not_true, Bool.not_false, id_eq, f_mixed]
            rw [fdiv_ok (by omega) (by omega)]
            simp only [mSeq, mSet, mRet, mRetN, mNext, mDrop, mIf, mVar, mC, m1, m2, mCons, mNil, mCall, mCallN, mCall0, mB, mAnd, mOr, mNot, mAndV, mOrV, mNotV, mIte, mChain, mTg, mPar, gnName, gnTup, gnCons, gnNil, d1, d2, D.toB, oBind_ok, Out.seq_nx, Out.seq_rt, R.bind_ok, R.val, Out.res, List.length_cons, List.length_nil, List.map_cons, List.map_nil, List.replicate_succ, List.replicate_zero, List.cons_append, List.nil_append, List.getElem?_cons_zero, List.getElem?_cons_succ, List.set_cons_zero, List.set_cons_succ, Nat.reduceAdd, if_true, cond_true, cond_false, D.add, D.sub, dI0, D.toInt, Bool.not_true, Bool.not_false, id_eq, mod_ok (i := (mixed c k).fdiv 7) (j := top) (by omega)]
          · rw [List.map_append]; rfl
        · rw [e, List.append_assoc]; rfl
        · rcases List.mem_cons.mp hx with rfl | hx
          · exact fmod_rg h0
          · exact e3 x hx
  obtain ⟨l, left', v', e, e2, e3⟩ := step (List.range many) [] c (decide (1000000000000000000 ≤ c)) none (by rw [List.length_range, List.length_nil]; omega)
  refine ⟨l, ?_, by rw [e2, List.length_range], e3⟩
  rw [fn_run rfl]
  show (b__law_row [some (.int c), some (.int many), some (.int top), none, none, none, none]).res = _
  unfold b__law_row
  refine seq_res (set_nx (mLst_ok rfl (by decide))) ?_
  refine seq_res (set_nx rfl) ?_
  refine seq_res (set_nx rfl) ?_
  refine seq_res (for_nx (range1_ok (by omega)) e) ?_
  exact ret_res rfl
theorem f_at (ns : List Int) (k : Nat) (hn : ns.length ≤ 63) (hk : k ≤ 1000) : ∃ i : Int, m__law_at.fn [.scr (ns.map D.int), .int k] = .ok (.int i) := by
  rw [fn_run rfl]
  show ∃ i : Int, (b__law_at [some (.scr (ns.map D.int)), some (.int k)]).res = _
  unfold b__law_at
  by_cases h : k < ns.length
  · refine ⟨ns[k], ?_⟩
    have h1 : D.ix (.scr (ns.map D.int)) (.int (k : Int)) = .ok (.int ns[k]) := ix_scr (by rw [atI_nat (n := k) rfl (by rw [List.length_map]; exact h), List.getElem_map])
    have h2 : decide ((k : Int) < ((ns.map D.int).length : Int)) = true := decide_eq_true (by rw [List.length_map]; omega)
    have e : mIf (mB (m2 D.lt (mVar 1) (mCall (d1 D.len) (mCons (mVar 0) mNil)))) (mRet (mCall (d1 D.toInt) (mCons (m2 D.ix (mVar 0) (mVar 1)) mNil))) mNext [some (.scr (ns.map D.int)), some (.int k)] = .rt (.int ns[k]) := by
      refine if_t ?_ ?_
      · show R.ok (decide ((k : Int) < ((ns.map D.int).length : Int))) = _
        rw [h2]
      · simp only [mSeq, mSet, mRet, mRetN, mNext, mDrop, mIf, mVar, mC, m1, m2, mCons, mNil, mCall, mCallN, mCall0, mB, mAnd, mOr, mNot, mAndV, mOrV, mNotV, mIte, mChain, mTg, mPar, gnName, gnTup, gnCons, gnNil, d1, d2, D.toB, oBind_ok, Out.seq_nx, Out.seq_rt, R.bind_ok, R.val, Out.res, List.length_cons, List.length_nil, List.map_cons, List.map_nil, List.replicate_succ, List.replicate_zero, List.cons_append, List.nil_append, List.getElem?_cons_zero, List.getElem?_cons_succ, List.set_cons_zero, List.set_cons_succ, Nat.reduceAdd, if_true, cond_true, cond_false, D.add, D.sub, dI0, D.toInt, Bool.not_true, Bool.not_false, id_eq, h1]
    exact congrArg Out.res (seq_rt e)
  · refine ⟨5 + 3 * k, ?_⟩
    have h2 : decide ((k : Int) < ((ns.map D.int).length : Int)) = false := decide_eq_false (by rw [List.length_map]; omega)
    refine seq_res (ρ' := [some (.scr (ns.map D.int)), some (.int k)]) (if_f ?_ rfl) (ret_res ?_)
    · show R.ok (decide ((k : Int) < ((ns.map D.int).length : Int))) = _
      rw [h2]
    · simp only [mSeq, mSet, mRet, mRetN, mNext, mDrop, mIf, mVar, mC, m1, m2, mCons, mNil, mCall, mCallN, mCall0, mB, mAnd, mOr, mNot, mAndV, mOrV, mNotV, mIte, mChain, mTg, mPar, gnName, gnTup, gnCons, gnNil, d1, d2, D.toB, oBind_ok, Out.seq_nx, Out.seq_rt, R.bind_ok, R.val, Out.res, List.length_cons, List.length_nil, List.map_cons, List.map_nil, List.replicate_succ, List.replicate_zero, List.cons_append, List.nil_append, List.getElem?_cons_zero, List.getElem?_cons_succ, List.set_cons_zero, List.set_cons_succ, Nat.reduceAdd, if_true, cond_true, cond_false, D.add, D.sub, dI0, D.toInt, Bool.not_true, Bool.not_false, id_eq, mul_okL (i := 3) (j := (k : Int)) (by omega) (by omega)]
theorem fil_lot (n : Nat) (p : Nat → Bool) : Lot n ((List.range n).filter p) :=
  ⟨fun x hx => List.mem_range.mp (List.mem_filter.mp hx).1, List.Pairwise.filter _ List.pairwise_lt_range⟩
theorem f_lot (c : Int) (many : Nat) (hm : many ≤ 1000) : ∃ l : List Nat, m__law_lot.fn [.int c, .int many] = .ok (lotD l) ∧ Lot many l := by
  obtain ⟨marks, e, hl, _⟩ := f_row c many 2 hm (by omega) (by omega)
  refine ⟨(List.range many).filter fun k => decide (marks.getD k 0 = 1), ?_, fil_lot _ _⟩
  rw [fn_run rfl]
  show (b__law_lot [some (.int c), some (.int many), none, none]).res = _
  unfold b__law_lot
  refine seq_res (set_nx (d := .lst (marks.map D.int)) ?_) (ret_res ?_)
  · simp only [mSeq, mSet, mRet, mRetN, mNext, mDrop, mIf, mVar, mC, m1, m2, mCons, mNil, mCall, mCallN, mCall0, mB, mAnd, mOr, mNot, mAndV, mOrV, mNotV, mIte, mChain, mTg, mPar, gnName, gnTup, gnCons, gnNil, d1, d2, D.toB, oBind_ok, Out.seq_nx, Out.seq_rt, R.bind_ok, R.val, Out.res, List.length_cons, List.length_nil, List.map_cons, List.map_nil, List.replicate_succ, List.replicate_zero, List.cons_append, List.nil_append, List.getElem?_cons_zero, List.getElem?_cons_succ, List.set_cons_zero, List.set_cons_succ, Nat.reduceAdd, if_true, cond_true, cond_false, D.add, D.sub, dI0, D.toInt, Bool.not_true, Bool.not_false, id_eq, e]
  · simp only [mSeq, mSet, mRet, mRetN, mNext, mDrop, mIf, mVar, mC, m1, m2, mCons, mNil, mCall, mCallN, mCall0, mB, mAnd, mOr, mNot, mAndV, mOrV, mNotV, mIte, mChain, mTg, mPar, gnName, gnTup, gnCons, gnNil, d1, d2, D.toB, oBind_ok, Out.seq_nx, Out.seq_rt, R.bind_ok, R.val, Out.res, List.length_cons, List.length_nil, List.map_cons, List.map_nil, List.replicate_succ, List.replicate_zero, List.cons_append, List.nil_append, List.getElem?_cons_zero, List.getElem?_cons_succ, List.set_cons_zero, List.set_cons_succ, Nat.reduceAdd, if_true, cond_true, cond_false, D.add, D.sub, dI0, D.toInt, Bool.not_true, Bool.not_false, id_eq]
    rw [mLc_fil (emb := nI) (l := List.range many) (r := fun k => [some (.int c), some (.int many), some (.lst (marks.map D.int)), some (nI k)]) (p := fun k => decide (marks.getD k 0 = 1)) (f := nI) (range1_ok (by omega)) (by rw [List.length_range]; omega) fun k hk => ⟨rfl, ?_, fun _ => rfl⟩]
    · rfl
    · have hk := List.mem_range.mp hk
      have h1 : D.ix (.lst (marks.map D.int)) (nI k) = .ok (.int (marks.getD k 0)) := ix_lst (by
        rw [atI_nat (n := k) rfl (by rw [List.length_map]; omega), List.getElem_map, List.getD_eq_getElem?_getD, List.getElem?_eq_getElem (by omega)]
        rfl)
      simp only [mSeq, mSet, mRet, mRetN, mNext, mDrop, mIf, mVar, mC, m1, m2, mCons, mNil, mCall, mCallN, mCall0, mB, mAnd, mOr, mNot, mAndV, mOrV, mNotV, mIte, mChain, mTg, mPar, gnName, gnTup, gnCons, gnNil, d1, d2, D.toB, oBind_ok, Out.seq_nx, Out.seq_rt, R.bind_ok, R.val, Out.res, List.length_cons, List.length_nil, List.map_cons, List.map_nil, List.replicate_succ, List.replicate_zero, List.cons_append, List.nil_append, List.getElem?_cons_zero, List.getElem?_cons_succ, List.set_cons_zero, List.set_cons_succ, Nat.reduceAdd, if_true, cond_true, cond_false, D.add, D.sub, dI0, D.toInt, Bool.not_true, Bool.not_false, id_eq, h1, deq]
abbrev Row : Type := Nat × Nat × Nat
abbrev rowD (r : Row) : D := .tup [nI r.1, nI r.2.1, nI r.2.2]
abbrev webD (many : Nat) (rows : List Row) : D := .tup [nI many, .tup (rows.map rowD)]
theorem web0 (many : Nat) (rows : List Row) : D.ix (webD many rows) (.int 0) = .ok (nI many) := rfl
theorem web1 (many : Nat) (rows : List Row) : D.ix (webD many rows) (.int 1) = .ok (.tup (rows.map rowD)) := rfl
theorem row0 (r : Row) : D.ix (rowD r) (.int 0) = .ok (nI r.1) := rfl
theorem row1 (r : Row) : D.ix (rowD r) (.int 1) = .ok (nI r.2.1) := rfl
theorem rows_ix {rows : List Row} {k : Nat} (h : k < rows.length) : D.ix (.tup (rows.map rowD)) (nI k) = .ok (rowD rows[k]) := ix_tup (by
  rw [atI_nat (n := k) rfl (by rw [List.length_map]; exact h), List.getElem_map])
theorem deqN (a b : Nat) : D.eq (nI a) (nI b) = .ok (.bl (decide (a = b))) := by
  rw [deq]
  exact congrArg (fun z => R.ok (D.bl z)) (bool_ext (by rw [decide_eq_true_iff, decide_eq_true_iff]; omega))
def getsL (rows : List Row) (p : Nat) : List Nat := (List.range rows.length).filter fun k => decide ((rows.getD k (0, 0, 0)).2.1 = p)
theorem fmodN (a b : Nat) : Int.fmod (a : Int) (b : Int) = ((a % b : Nat) : Int) := (Int.ofNat_fmod a b).symm
theorem m2_ok {f : D → D → R D} {a b : G.Env → R D} {ρ : G.Env} {x y : D} {r : R D} (ha : a ρ = .ok x) (hb : b ρ = .ok y) (h : f x y = r) : m2 f a b ρ = r := by
  unfold m2
  rw [ha, hb]
  exact h
theorem cons_ok {a : G.Env → R D} {r : G.Env → R (List D)} {ρ : G.Env} {x : D} {xs : List D} (h1 : a ρ = .ok x) (h2 : r ρ = .ok xs) : mCons a r ρ = .ok (x :: xs) := by
  unfold mCons
  rw [h1, h2]
  rfl
theorem f_rowN (c : Int) (many top : Nat) (hm : many ≤ 1000) (h0 : 0 < top) (h1 : top < 1000000) : ∃ l : List Nat, m__law_row.fn [.int c, .int many, .int top] = .ok (.lst (l.map nI)) ∧ l.length = many ∧ ∀ x ∈ l, x < top := by
  obtain ⟨l, e, h2, h3⟩ := f_row c many top hm (by omega) (by omega)
  refine ⟨l.map Int.toNat, ?_, by rw [List.length_map, h2], fun x hx => ?_⟩
  · rw [e, List.map_map]
    refine congrArg (fun z => R.ok (D.lst z)) (List.map_congr_left fun x hx => ?_)
    have := h3 x hx
    show D.int x = D.int ((x.toNat : Nat) : Int)
    rw [Int.toNat_of_nonneg this.1]
  · obtain ⟨y, hy, rfl⟩ := List.mem_map.mp hx
    have := h3 y hy
    omega
theorem ixL {l : List Nat} {k : Nat} (h : k < l.length) : D.ix (.lst (l.map nI)) (nI k) = .ok (nI l[k]) := ix_lst (by
  rw [atI_nat (n := k) rfl (by rw [List.length_map]; exact h), List.getElem_map])
theorem modN {a b : Nat} (h : b ≠ 0) : D.mod (nI a) (nI b) = .ok (nI (a % b)) := by
  rw [mod_ok (by omega), fmodN]
theorem mulN {a b : Nat} (h : a < 1000) : D.mul (nI a) (nI b) = .ok (nI (a * b)) := by
  rw [mul_okL (by omega) (by omega)]
  rfl
theorem subN {a : Nat} (h : 1 ≤ a) : D.sub (nI a) (.int 1) = .ok (nI (a - 1)) := by
  show R.ok (D.int ((a : Int) - 1)) = R.ok (D.int ((a - 1 : Nat) : Int))
  rw [show ((a - 1 : Nat) : Int) = (a : Int) - 1 by omega]
def RowOk (many : Nat) (r : Row) : Prop := r.1 < many ∧ r.2.1 < many ∧ r.1 ≠ r.2.1 ∧ 1 ≤ r.2.2 ∧ r.2.2 ≤ 9
theorem int_ok {a : G.Env → R D} {ρ : G.Env} {i : Int} (h : a ρ = .ok (.int i)) : mCall (d1 D.toInt) (mCons a mNil) ρ = .ok (.int i) := by
  show ((mCons a mNil ρ).bind _) = _
  rw [cons_ok h rfl]
  rfl
theorem taker_ne {a x many : Nat} (h1 : a < many) (h2 : x < many - 1) : a ≠ (a + 1 + x) % many := by
  by_cases h : a + 1 + x < many
  · rw [Nat.mod_eq_of_lt h]; omega
  · rw [Nat.mod_eq_sub_mod (by omega), Nat.mod_eq_of_lt (by omega)]; omega
structure Valid (many : Nat) (rows : List Row) : Prop where
  m2 : 2 ≤ many
  m5 : many ≤ 6
  r1 : 1 ≤ rows.length
  r10 : rows.length ≤ 10
  ok : ∀ r ∈ rows, RowOk many r
  gv : ∀ p, p < many → ∃ r ∈ rows, r.1 = p
  tk : ∀ p, p < many → ∃ r ∈ rows, r.2.1 = p
theorem callN_ok {n : Nat} {fn : List D → R D} {ms : G.Env → R (List D)} {ρ : G.Env} {ds : List D} {r : R D} (h : ms ρ = .ok ds) (hl : ds.length = n) (hf : fn ds = r) : mCallN n fn ms ρ = r := by
  unfold mCallN
  rw [h, R.bind_ok, if_pos hl]
  exact hf
theorem call0_ok {n : Nat} {fn : List D → R D} {ms : G.Env → R (List D)} {ρ : G.Env} {ds : List D} {d : D} (h : ms ρ = .ok ds) (hl : ds.length = n) (hf : fn ds = .ok d) : mCall0 n fn ms ρ = .ok d := by
  unfold mCall0
  rw [h, R.bind_ok, if_pos hl, hf]
  rfl
theorem call1_ok {f : D → R D} {a : G.Env → R D} {ρ : G.Env} {x : D} {r : R D} (h : a ρ = .ok x) (hf : f x = r) : mCall (d1 f) (mCons a mNil) ρ = r := by
  show ((mCons a mNil ρ).bind _) = _
  rw [cons_ok h rfl]
  exact hf
theorem sq_ok {f : D → R (List D)} {m : G.Env → R D} {ρ : G.Env} {x : D} {r : R (List D)} (h : m ρ = .ok x) (hf : f x = r) : mSq f m ρ = r := by
  unfold mSq
  rw [h]
  exact hf
theorem and_tf {a b : G.Env → R Bool} {ρ : G.Env} {x y : Bool} (h1 : a ρ = .ok x) (h2 : b ρ = .ok y) : mAnd a b ρ = .ok (x && y) := by
  unfold mAnd
  rw [h1]
  show (bif x then b ρ else .ok false) = _
  cases x
  · rfl
  · rw [h2]; rfl
theorem b_ok {a : G.Env → R D} {ρ : G.Env} {x : Bool} (h : a ρ = .ok (.bl x)) : mB a ρ = .ok x := by
  unfold mB
  rw [h]
  rfl
theorem not_ok {a : G.Env → R Bool} {ρ : G.Env} {x : Bool} (h : a ρ = .ok x) : mNot a ρ = .ok (!x) := by
  unfold mNot
  rw [h]
  rfl
theorem or_tf {a b : G.Env → R Bool} {ρ : G.Env} {x y : Bool} (h1 : a ρ = .ok x) (h2 : b ρ = .ok y) : mOr a b ρ = .ok (x || y) := by
  unfold mOr
  rw [h1]
  show (bif x then .ok true else b ρ) = _
  cases x
  · rw [h2]; rfl
  · rfl
theorem andV_t {a b : G.Env → R D} {ρ : G.Env} {r : R D} (h1 : a ρ = .ok (.bl true)) (h2 : b ρ = r) : mAndV a b ρ = r := by
  unfold mAndV
  rw [h1]
  exact h2
theorem andV_f {a b : G.Env → R D} {ρ : G.Env} (h1 : a ρ = .ok (.bl false)) : mAndV a b ρ = .ok (.bl false) := by
  unfold mAndV
  rw [h1]
  rfl
theorem chain_t {f g : D → D → R D} {a b c : G.Env → R D} {ρ : G.Env} {x y z : D} {r : R D} (ha : a ρ = .ok x) (hb : b ρ = .ok y) (hf : f x y = .ok (.bl true)) (hc : c ρ = .ok z) (hg : g y z = r) : mChain f g a b c ρ = r := by
  unfold mChain
  rw [ha, hb]
  show ((f x y).bind _) = _
  rw [hf]
  show ((c ρ).bind _) = _
  rw [hc]
  exact hg
theorem drop_nx {a : G.Env → R D} {ρ : G.Env} {d : D} (h : a ρ = .ok d) : mDrop a ρ = .nx ρ := by
  unfold mDrop
  rw [h]
  rfl
theorem f_isRow {many : Nat} {r : Row} (h : RowOk many r) : m_is_row.fn [nI many, rowD r] = .ok (.bl true) := by
  obtain ⟨h1, h2, h3, h4, h5⟩ := h
  have u1 : m_is_under.fn [nI r.1, nI many] = .ok (.bl true) := by rw [f_under, decide_eq_true (by omega), decide_eq_true (by omega)]; rfl
  have u2 : m_is_under.fn [nI r.2.1, nI many] = .ok (.bl true) := by rw [f_under, decide_eq_true (by omega), decide_eq_true (by omega)]; rfl
  have u3 : m_is_between.fn [nI r.2.2, .int 1, .int 9] = .ok (.bl true) := by rw [f_between, decide_eq_true (by omega), decide_eq_true (by omega)]; rfl
  have u4 : m_is_tuple_of.fn [rowD r, .int 3] = .ok (.bl true) := by rw [f_tupleOf]; rfl
  rw [fn_run rfl]
  show (b_is_row [some (nI many), some (rowD r)]).res = _
  unfold b_is_row
  refine seq_res (ρ' := [some (nI many), some (rowD r)]) (if_f (or_tf (not_ok (b_ok (callN_ok (cons_ok rfl (cons_ok rfl rfl)) rfl u4))) (or_tf (not_ok (b_ok (callN_ok (cons_ok rfl (cons_ok rfl rfl)) rfl u1))) (not_ok (b_ok (callN_ok (cons_ok rfl (cons_ok rfl rfl)) rfl u2))))) rfl) ?_
  refine ret_res (andV_t (m2_ok rfl rfl ?_) (callN_ok (cons_ok rfl (cons_ok rfl (cons_ok rfl rfl))) rfl u3))
  rw [dne, decide_eq_false (by omega)]
  rfl
theorem f_isWeb {many : Nat} {rows : List Row} (h : Valid many rows) : m_is_web.fn [webD many rows] = .ok (.bl true) := by
  obtain ⟨a1, a2, a3, a4, a5, a6, a7⟩ := h
  have u1 : m_is_tuple_of.fn [webD many rows, .int 2] = .ok (.bl true) := by rw [f_tupleOf]; rfl
  have u2 : m_is_between.fn [nI many, .int 2, .int 6] = .ok (.bl true) := by rw [f_between, decide_eq_true (by omega), decide_eq_true (by omega)]; rfl
  rw [fn_run rfl]
  show (b_is_web [some (webD many rows), none, none, none, none, none, none]).res = _
  unfold b_is_web
  refine seq_res (if_f (or_tf (not_ok (b_ok (callN_ok (cons_ok rfl (cons_ok rfl rfl)) rfl u1))) (not_ok (b_ok (callN_ok (cons_ok rfl (cons_ok rfl (cons_ok rfl rfl))) rfl u2)))) rfl) ?_
  refine seq_res (ρ' := [some (webD many rows), some (nI many), some (.tup (rows.map rowD)), none, none, none, none]) rfl ?_
  refine seq_res (ρ' := [some (webD many rows), some (nI many), some (.tup (rows.map rowD)), none, none, none, none]) (if_f (or_tf (x := false) (y := false) (not_ok (x := true) rfl) (not_ok (x := true) (b_ok (chain_t rfl rfl ?_ rfl ?_)))) rfl) ?_
  · rw [dle, List.length_map, decide_eq_true (by omega)]
  · rw [dle, List.length_map, decide_eq_true (by omega)]
  refine seq_res (ρ' := [some (webD many rows), some (nI many), some (.tup (rows.map rowD)), none, none, none, none]) (if_f (not_ok (x := true) (b_ok (call1_ok (mLc_map (emb := rowD) (l := rows) (r := fun r => [some (webD many rows), some (nI many), some (.tup (rows.map rowD)), none, none, some (rowD r), none]) (f := fun _ => .bl true) (sq_ok rfl rfl) (by omega) fun r hr => ⟨rfl, call0_ok (cons_ok rfl (cons_ok rfl rfl)) rfl (f_isRow (a5 r hr))⟩) ?_))) rfl) ?_
  · rw [all_ok, List.all_eq_true.mpr fun _ _ => rfl]
  refine seq_res (ρ' := [some (webD many rows), some (nI many), some (.tup (rows.map rowD)), some (.lst (rows.map fun r => nI r.1)), some (.lst (rows.map fun r => nI r.2.1)), none, none]) ?_ ?_
  · have e : mTup (mCons (mLc [5] (mSq D.seq (mVar 2)) (gnName 5) mYes (m2 D.ix (mVar 5) (mC (.int 0)))) (mCons (mLc [5] (mSq D.seq (mVar 2)) (gnName 5) mYes (m2 D.ix (mVar 5) (mC (.int 1)))) mNil)) [some (webD many rows), some (nI many), some (.tup (rows.map rowD)), none, none, none, none] = .ok (.tup [.lst (rows.map fun r => nI r.1), .lst (rows.map fun r => nI r.2.1)]) :=
      mTup_ok (cons_ok (mLc_map (emb := rowD) (l := rows) (r := fun r => [some (webD many rows), some (nI many), some (.tup (rows.map rowD)), none, none, some (rowD r), none]) (f := fun r => nI r.1) (sq_ok rfl rfl) (by omega) fun r _ => ⟨rfl, rfl⟩) (cons_ok (mLc_map (emb := rowD) (l := rows) (r := fun r => [some (webD many rows), some (nI many), some (.tup (rows.map rowD)), none, none, some (rowD r), none]) (f := fun r => nI r.2.1) (sq_ok rfl rfl) (by omega) fun r _ => ⟨rfl, rfl⟩) rfl)) (by show 2 ≤ 16777216; omega)
    unfold mTg
    rw [e]
    rfl
  refine ret_res (call1_ok (mLc_map (emb := nI) (l := List.range many) (r := fun p => [some (webD many rows), some (nI many), some (.tup (rows.map rowD)), some (.lst (rows.map fun r => nI r.1)), some (.lst (rows.map fun r => nI r.2.1)), none, some (nI p)]) (f := fun _ => .bl true) (sq_ok rfl (range1_ok (by omega))) (by rw [List.length_range]; omega) fun p hp => ⟨rfl, ?_⟩) ?_)
  · have hp := List.mem_range.mp hp
    have i1 : D.isIn (nI p) (.lst (rows.map fun r => nI r.1)) = .ok (.bl true) := by
      rw [in_lst (n := 0) (by omega) okD_int (by rw [List.all_map, List.all_eq_true]; exact fun _ _ => okD_int)]
      obtain ⟨r, hr, e⟩ := a6 p hp
      rw [dIn_iff.mpr (List.mem_map.mpr ⟨r, hr, by rw [e]⟩)]
    have i2 : D.isIn (nI p) (.lst (rows.map fun r => nI r.2.1)) = .ok (.bl true) := by
      rw [in_lst (n := 0) (by omega) okD_int (by rw [List.all_map, List.all_eq_true]; exact fun _ _ => okD_int)]
      obtain ⟨r, hr, e⟩ := a7 p hp
      rw [dIn_iff.mpr (List.mem_map.mpr ⟨r, hr, by rw [e]⟩)]
    exact andV_t (m2_ok rfl rfl i1) (m2_ok rfl rfl i2)
  · rw [all_ok, List.all_eq_true.mpr fun _ _ => rfl]
theorem f_needWeb {many : Nat} {rows : List Row} (h : Valid many rows) : m_need_web.fn [webD many rows] = .ok .non := by
  rw [fn_run rfl]
  show (b_need_web [some (webD many rows)]).res = _
  unfold b_need_web
  exact (congrArg Out.res (if_f (not_ok (x := true) (b_ok (callN_ok (cons_ok rfl rfl) rfl (f_isWeb h)))) rfl)).trans rfl
abbrev needsD (needs : List (List Nat)) : D := .tup (needs.map lotD)
structure NOk (rows : List Row) (needs : List (List Nat)) : Prop where
  len : needs.length = rows.length
  sub : ∀ k, (needs.getD k []).Sublist (getsL rows (rows.getD k (0, 0, 0)).1)
theorem getsL_lot (rows : List Row) (p : Nat) : Lot rows.length (getsL rows p) := fil_lot _ _
theorem Lot.sub {n : Nat} {l m : List Nat} (h : Lot n m) (s : l.Sublist m) : Lot n l := ⟨fun x hx => h.1 x (s.subset hx), h.2.sublist s⟩
theorem NOk.lot {rows : List Row} {needs : List (List Nat)} (h : NOk rows needs) (k : Nat) : Lot rows.length (needs.getD k []) := (getsL_lot rows _).sub (h.sub k)
theorem Lot.nodup {n : Nat} {l : List Nat} (h : Lot n l) : l.Nodup := h.2.imp fun hlt => Nat.ne_of_lt hlt
theorem lot_len : ∀ (l : List Nat) (lo n : Nat), (∀ x ∈ l, lo ≤ x ∧ x < n) → l.Pairwise (· < ·) → l.length ≤ n - lo
  | [], _, _, _, _ => Nat.zero_le _
  | x :: xs, lo, n, h, hp => by
    obtain ⟨h1, h2⟩ := List.pairwise_cons.mp hp
    have ih := lot_len xs (x + 1) n (fun y hy => ⟨h1 y hy, (h y (.tail _ hy)).2⟩) h2
    have := h x (.head _)
    rw [List.length_cons]
    omega
theorem Lot.length {n : Nat} {l : List Nat} (h : Lot n l) : l.length ≤ n := lot_len l 0 n (fun x hx => ⟨Nat.zero_le _, h.1 x hx⟩) h.2
theorem need_ix {needs : List (List Nat)} {k : Nat} (h : k < needs.length) : D.ix (needsD needs) (nI k) = .ok (lotD (needs.getD k [])) := ix_tup (by
  rw [atI_nat (n := k) rfl (by rw [List.length_map]; exact h), List.getElem_map, List.getD_eq_getElem?_getD, List.getElem?_eq_getElem h]
  rfl)
theorem row_getD {rows : List Row} {k : Nat} (h : k < rows.length) : rows.getD k (0, 0, 0) = rows[k] := by
  rw [List.getD_eq_getElem?_getD, List.getElem?_eq_getElem h]
  rfl
theorem f_isNeed {many : Nat} {rows : List Row} {needs : List (List Nat)} (hr : rows.length ≤ 10) (h : NOk rows needs) {k : Nat} (hk : k < rows.length) : m_is_need.fn [webD many rows, nI k, lotD (needs.getD k [])] = .ok (.bl true) := by
  have hl := h.lot k
  have hll := hl.length
  have u1 : m_is_lot.fn [lotD (needs.getD k []), .int (rows.map rowD).length] = .ok (.bl true) := by
    rw [List.length_map]
    exact f_isLot hl (by omega)
  rw [fn_run rfl]
  show (b_is_need [some (webD many rows), some (nI k), some (lotD (needs.getD k [])), none]).res = _
  unfold b_is_need
  refine seq_res (ρ' := [some (webD many rows), some (nI k), some (lotD (needs.getD k [])), none]) (if_f (not_ok (x := true) (b_ok (callN_ok (cons_ok rfl (cons_ok (call1_ok (m2_ok rfl rfl (web1 _ _)) (len_tup _)) rfl)) rfl u1))) rfl) ?_
  refine ret_res (call1_ok (mLc_map (emb := nI) (l := needs.getD k []) (r := fun o => [some (webD many rows), some (nI k), some (lotD (needs.getD k [])), some (nI o)]) (f := fun _ => .bl true) (sq_ok rfl rfl) (by omega) fun o ho => ⟨rfl, ?_⟩) ?_)
  · have ho2 := hl.1 o ho
    have hm := (h.sub k).subset ho
    have hq := of_decide_eq_true (List.mem_filter.mp hm).2
    rw [row_getD ho2, row_getD hk] at hq
    refine m2_ok (m2_ok (m2_ok (m2_ok rfl rfl (web1 _ _)) rfl (rows_ix ho2)) rfl (row1 _)) (m2_ok (m2_ok (m2_ok rfl rfl (web1 _ _)) rfl (rows_ix hk)) rfl (row0 _)) ?_
    rw [deqN, decide_eq_true hq]
  · rw [all_ok, List.all_eq_true.mpr fun _ _ => rfl]
theorem enum_needs (needs : List (List Nat)) : dEnum D.seq (needsD needs) = .ok ((List.range needs.length).map fun i => .tup [nI i, lotD (needs.getD i [])]) := by
  show R.ok (enumD (needs.map lotD)) = _
  unfold enumD
  refine congrArg R.ok (List.ext_getElem ?_ fun i h1 h2 => ?_)
  · simp
  · have hi : i < needs.length := by simpa using h1
    simp [List.getD_eq_getElem?_getD, List.getElem?_eq_getElem hi]
theorem f_areNeeds {many : Nat} {rows : List Row} {needs : List (List Nat)} (hr : rows.length ≤ 10) (h : NOk rows needs) : m_are_needs.fn [webD many rows, needsD needs] = .ok (.bl true) := by
  have u1 : m_is_tuple_of.fn [needsD needs, .int (rows.map rowD).length] = .ok (.bl true) := by
    rw [f_tupleOf, List.length_map, List.length_map, h.len, decide_eq_true rfl]
  have hln := h.len
  rw [fn_run rfl]
  show (b_are_needs [some (webD many rows), some (needsD needs), none, none]).res = _
  unfold b_are_needs
  refine seq_res (ρ' := [some (webD many rows), some (needsD needs), none, none]) (if_f (not_ok (x := true) (b_ok (callN_ok (cons_ok rfl (cons_ok (call1_ok (m2_ok rfl rfl (web1 _ _)) (len_tup _)) rfl)) rfl u1))) rfl) ?_
  refine ret_res (call1_ok (mLc_map (emb := fun i => .tup [nI i, lotD (needs.getD i [])]) (l := List.range needs.length) (r := fun i => [some (webD many rows), some (needsD needs), some (nI i), some (lotD (needs.getD i []))]) (f := fun _ => .bl true) (sq_ok rfl (enum_needs needs)) (by rw [List.length_range]; omega) fun i hi => ⟨rfl, ?_⟩) ?_)
  · have hi := List.mem_range.mp hi
    exact call0_ok (cons_ok rfl (cons_ok rfl (cons_ok rfl rfl))) rfl (f_isNeed hr h (by omega))
  · rw [all_ok, List.all_eq_true.mpr fun _ _ => rfl]
theorem f_needNeeds {many : Nat} {rows : List Row} {needs : List (List Nat)} (hv : Valid many rows) (h : NOk rows needs) : m_need_needs.fn [webD many rows, needsD needs] = .ok .non := by
  rw [fn_run rfl]
  show (b_need_needs [some (webD many rows), some (needsD needs)]).res = _
  unfold b_need_needs
  refine seq_res (drop_nx (callN_ok (cons_ok rfl rfl) rfl (f_needWeb hv))) ?_
  exact (congrArg Out.res (if_f (not_ok (x := true) (b_ok (callN_ok (cons_ok rfl (cons_ok rfl rfl)) rfl (f_areNeeds hv.r10 h)))) rfl)).trans rfl
def keepsB (needs : List (List Nat)) (l : List Nat) : Bool := l.all fun k => (needs.getD k []).all fun o => decide (o ∈ l)
def lotsL : Nat → List (List Nat)
  | 0 => [[]]
  | n + 1 => lotsL n ++ (lotsL n).map fun l => l ++ [n]
theorem lotsL_len : ∀ n, (lotsL n).length = 2 ^ n
  | 0 => rfl
  | n + 1 => by rw [lotsL, List.length_append, List.length_map, lotsL_len n, Nat.pow_succ]; omega
theorem lotsL_le {n : Nat} (h : n ≤ 10) : (lotsL n).length ≤ 1024 := by
  rw [lotsL_len]
  exact Nat.le_trans (Nat.pow_le_pow_right (by omega) h) (by decide)
theorem lotsL_head : ∀ n, ∃ t, lotsL n = [] :: t
  | 0 => ⟨[], rfl⟩
  | n + 1 => by
    obtain ⟨t, e⟩ := lotsL_head n
    exact ⟨t ++ (lotsL n).map fun l => l ++ [n], by rw [lotsL]; rw [e]; rfl⟩
theorem mem_lots : ∀ (n : Nat) (l : List Nat), l ∈ lotsL n ↔ Lot n l
  | 0, l => by
    rw [lotsL, List.mem_singleton]
    constructor
    · rintro rfl; exact ⟨(fun _ h => by cases h), List.Pairwise.nil⟩
    · rintro ⟨h, _⟩
      cases l with
      | nil => rfl
      | cons a l => exact absurd (h a (.head _)) (by omega)
  | n + 1, l => by
    rw [lotsL, List.mem_append, mem_lots n l, List.mem_map]
    constructor
    · rintro (h | ⟨m, hm, rfl⟩)
      · exact ⟨fun x hx => by have := h.1 x hx; omega, h.2⟩
      · have hm := (mem_lots n m).mp hm
        refine ⟨fun x hx => ?_, ?_⟩
        · rcases List.mem_append.mp hx with h | h
          · have := hm.1 x h; omega
          · have := List.mem_singleton.mp h; omega
        · rw [List.pairwise_append]
          exact ⟨hm.2, List.pairwise_singleton _ _, fun x hx y hy => by have := hm.1 x hx; have := List.mem_singleton.mp hy; omega⟩
    · rintro ⟨h1, h2⟩
      rcases List.eq_nil_or_concat l with rfl | ⟨m, x, rfl⟩
      · exact .inl ⟨(fun _ h => by cases h), List.Pairwise.nil⟩
      · rw [List.concat_eq_append] at h1 h2 ⊢
        rw [List.pairwise_append] at h2
        have hx := h1 x (List.mem_append_right _ (List.mem_singleton.mpr rfl))
        have hlt : ∀ y ∈ m, y < x := fun y hy => h2.2.2 y hy x (List.mem_singleton.mpr rfl)
        by_cases e : x = n
        · subst e
          exact .inr ⟨m, (mem_lots x m).mpr ⟨hlt, h2.1⟩, rfl⟩
        · refine .inl ⟨fun y hy => ?_, List.pairwise_append.mpr h2⟩
          rcases List.mem_append.mp hy with h | h
          · have := hlt y h; omega
          · have := List.mem_singleton.mp h; omega
theorem add_lst {a b : List D} (h : a.length + b.length ≤ 16777216) : D.add (.lst a) (.lst b) = .ok (.lst (a ++ b)) := by
  show (if a.length + b.length ≤ sizeLine then _ else _) = _
  rw [if_pos (by rw [sizeLine_eq]; exact h)]
theorem add_tup {a b : List D} (h : a.length + b.length ≤ 16777216) : D.add (.tup a) (.tup b) = .ok (.tup (a ++ b)) := by
  show (if a.length + b.length ≤ sizeLine then _ else _) = _
  rw [if_pos (by rw [sizeLine_eq]; exact h)]
theorem lot_snoc {l : List Nat} {k : Nat} (h : l.length ≤ 1000) : D.add (lotD l) (.tup [nI k]) = .ok (lotD (l ++ [k])) := by
  rw [add_tup (by rw [List.length_map, List.length_singleton]; omega)]
  rw [show lotD (l ++ [k]) = .tup (l.map nI ++ [nI k]) by rw [← List.map_singleton, ← List.map_append]]
theorem lots_add {n : Nat} (h : n < 10) : D.add (.lst ((lotsL n).map lotD)) (.lst ((lotsL n).map fun l => lotD (l ++ [n]))) = .ok (.lst ((lotsL (n + 1)).map lotD)) := by
  have := lotsL_le (n := n) (by omega)
  rw [add_lst (by rw [List.length_map, List.length_map]; omega), lotsL, List.map_append, List.map_map]
  rfl
theorem lots_lt {n : Nat} {l : List Nat} (h : n ≤ 10) (hl : l ∈ lotsL n) : l.length ≤ 10 := Nat.le_trans ((mem_lots n l).mp hl).length h
theorem all_loop {c : Option D} : ∀ (j m : Nat) (v w : Option D), m + j ≤ 10 → ∃ v' : Option D, loopD (stepD (gnName 2) (mSet 1 (m2 D.add (mVar 1) (mLc [3] (mSq D.seq (mVar 1)) (gnName 3) mYes (m2 D.add (mVar 3) (mTup (mCons (mVar 2) mNil))))))) ((List.range' m j).map nI) [c, some (.lst ((lotsL m).map lotD)), v, w] = .nx [c, some (.lst ((lotsL (m + j)).map lotD)), v', w]
  | 0, m, v, w, _ => ⟨v, rfl⟩
  | j + 1, m, v, w, h => by
    obtain ⟨v', e⟩ := all_loop (c := c) j (m + 1) (some (nI m)) w (by omega)
    refine ⟨v', ?_⟩
    rw [List.range'_succ, List.map_cons]
    refine loop_cons (ρ1 := [c, some (.lst ((lotsL m).map lotD)), some (nI m), w]) (ρ2 := [c, some (.lst ((lotsL (m + 1)).map lotD)), some (nI m), w]) rfl (set_nx (m2_ok rfl (mLc_map (emb := lotD) (l := lotsL m) (r := fun l => [c, some (.lst ((lotsL m).map lotD)), some (nI m), some (lotD l)]) (f := fun l => lotD (l ++ [m])) (sq_ok rfl rfl) (by have := lotsL_le (n := m) (by omega); omega) fun l hl => ⟨rfl, m2_ok rfl (mTup_ok (cons_ok rfl rfl) (by show 1 ≤ 16777216; omega)) (lot_snoc (by have := lots_lt (by omega) hl; omega))⟩) (lots_add (by omega)))) ?_
    rw [e, show m + 1 + j = m + (j + 1) by omega]
theorem f_allLots {n : Nat} (h : n ≤ 10) : m_all_lots.fn [nI n] = .ok (.lst ((lotsL n).map lotD)) := by
  obtain ⟨v', e⟩ := all_loop (c := some (nI n)) n 0 none none (by omega)
  rw [Nat.zero_add] at e
  rw [fn_run rfl]
  show (b_all_lots [some (nI n), none, none, none]).res = _
  unfold b_all_lots
  refine seq_res (set_nx (mLst_ok (cons_ok (mTup_ok rfl (by show 0 ≤ 16777216; omega)) rfl) (by show 1 ≤ 16777216; omega))) ?_
  exact seq_res (for_nx (sq_ok rfl ((range1_ok (by omega)).trans (by rw [List.range_eq_range']))) e) (ret_res rfl)
theorem key_lot (l : List Nat) : (lotD l).key' = l.map fun (x : Nat) => (x : Int) := by
  show (D.ints (l.map nI)).getD [] = _
  rw [show l.map nI = (l.map fun (x : Nat) => (x : Int)).map D.int by rw [List.map_map]; rfl, ints_map]
  rfl
theorem lot_inj {l m : List Nat} (h : lotD l = lotD m) : l = m := by
  injection h with h
  exact map_nI_inj h
theorem key_inj {l m : List Nat} (h : (lotD l).key' = (lotD m).key') : l = m := by
  rw [key_lot, key_lot] at h
  have := congrArg (List.map Int.toNat) h
  rw [List.map_map, List.map_map] at this
  have e : ∀ l : List Nat, l.map (Int.toNat ∘ fun (x : Nat) => (x : Int)) = l := fun l => (List.map_congr_left fun x _ => Int.toNat_natCast x).trans (List.map_id l)
  rw [e, e] at this
  exact this
def leL (l m : List Nat) : Bool := leD (lotD l) (lotD m)
def sortL (X : List (List Nat)) : List (List Nat) := X.mergeSort leL
theorem sortL_pw (X : List (List Nat)) : (sortL X).Pairwise fun a b => leL a b = true := List.pairwise_mergeSort (le := leL) (fun a b c => leD_tr (lotD a) (lotD b) (lotD c)) (fun a b => leD_tot (lotD a) (lotD b)) X
theorem sort_fil (X : List (List Nat)) (p : List Nat → Bool) : sortD ((X.filter p).map lotD) = ((sortL X).filter p).map lotD := by
  symm
  refine sortD_eq (((List.mergeSort_perm X leL).filter p).map lotD) ?_ fun a ha b hb h => ?_
  · rw [List.pairwise_map]
    exact (sortL_pw X).filter p
  · obtain ⟨l, _, rfl⟩ := List.mem_map.mp ha
    obtain ⟨m, _, rfl⟩ := List.mem_map.mp hb
    rw [key_inj h]
theorem sort_all (X : List (List Nat)) : sortD (X.map lotD) = (sortL X).map lotD := by
  have := sort_fil X fun _ => true
  rw [List.filter_eq_self.mpr fun _ _ => rfl, List.filter_eq_self.mpr fun _ _ => rfl] at this
  exact this
theorem isTI_lot (X : List (List Nat)) : (X.map lotD).all D.isTI = true := by
  rw [List.all_map, List.all_eq_true]
  intro l _
  show allI (l.map nI) = true
  unfold allI
  rw [List.all_map, List.all_eq_true]
  exact fun _ _ => rfl
theorem sortT_lots {X t : List (List Nat)} (h : X = [] :: t) : D.sortT (.lst (X.map lotD)) = .ok (.lst (sortD (X.map lotD))) := by
  unfold D.sortT D.items
  dsimp only
  rw [if_pos]
  rw [isTI_lot, Bool.true_and, h]
  cases t with
  | nil => rfl
  | cons a t => rfl
theorem scalL_ok {m : G.Env → R D} {ρ : G.Env} {l : List Nat} (h : m ρ = .ok (.lst (l.map nI))) : mScalL m ρ = .ok (.lst (l.map nI)) := by
  unfold mScalL
  rw [h, R.bind_ok]
  dsimp only
  rw [if_pos]
  rw [List.all_map, List.all_eq_true]
  exact fun _ _ => rfl
theorem wh_step {c : G.Env → R Bool} {b : G.Env → Out} {n : Nat} {ρ ρ' : G.Env} {o : Out} (h1 : c ρ = .ok true) (h2 : b ρ = .nx ρ') (h3 : whileN c b n ρ' = o) : whileN c b (n + 1) ρ = o := by
  unfold whileN
  rw [h1]
  show (match b ρ with | .nx ρ' => whileN c b n ρ' | .ct ρ' => whileN c b n ρ' | .bk ρ' => .nx ρ' | x => x) = o
  rw [h2]
  exact h3
theorem wh_end {c : G.Env → R Bool} {b : G.Env → Out} {n : Nat} {ρ : G.Env} (h1 : c ρ = .ok false) : whileN c b (n + 1) ρ = .nx ρ := by
  unfold whileN
  rw [h1]
  rfl
structure NdOk (n : Nat) (needs : List (List Nat)) : Prop where
  len : needs.length = n
  n10 : n ≤ 10
  each : ∀ k, (needs.getD k []).length ≤ 10
/-- a web and its needs -/
structure Sit (many n : Nat) (rows : List Row) (needs : List (List Nat)) : Prop where
  v : Valid many rows
  hn : rows.length = n
  no : NOk rows needs
  nd : NdOk n needs
theorem Sit.mk' {many : Nat} {rows : List Row} {needs : List (List Nat)} (v : Valid many rows) (no : NOk rows needs) : Sit many rows.length rows needs :=
  ⟨v, rfl, no, ⟨no.len, v.r10, fun k => Nat.le_trans (no.lot k).length v.r10⟩⟩
theorem f_flag (a b : Bool) (h : a = b) : m__law_flag.fn [.bl a, .bl b] = .ok (.bl true) := by
  subst h
  cases a <;> rfl
theorem sortI_lot {l lot : List Nat} (hp : l.Perm lot) (hs : lot.Pairwise (· < ·)) : sortD (l.map nI) = lot.map nI := by
  have em : ∀ l : List Nat, l.map nI = (l.map fun (x : Nat) => (x : Int)).map D.int := fun l => by rw [List.map_map]; rfl
  rw [em, em]
  refine (sortI_ints (hp.symm.map _) ?_).symm
  rw [List.pairwise_map]
  exact hs.imp fun hlt => by omega
theorem sortI'_ok (l : List Nat) : D.sortI' (.tup (l.map nI)) = .ok (.lst (sortD (l.map nI))) := by
  unfold D.sortI' D.items
  dsimp only
  rw [if_pos]
  unfold allI
  rw [List.all_map, List.all_eq_true]
  exact fun _ _ => rfl
theorem notV_ok {a : G.Env → R D} {ρ : G.Env} {x : Bool} (h : a ρ = .ok (.bl x)) : mNotV a ρ = .ok (.bl (!x)) := by
  unfold mNotV
  rw [h]
  rfl
theorem andV_tf {a b : G.Env → R D} {ρ : G.Env} {x y : Bool} (h1 : a ρ = .ok (.bl x)) (h2 : b ρ = .ok (.bl y)) : mAndV a b ρ = .ok (.bl (x && y)) := by
  cases x with
  | true => exact (andV_t h1 h2).trans rfl
  | false => exact (andV_f h1).trans rfl
theorem mLc_mapN {α : Type} {vs : List Nat} {mi : G.Env → R (List D)} {i : Nat} {me : G.Env → R D} {ρ : G.Env} {emb : α → D} {l : List α} (f : α → D) (hi : mi ρ = .ok (l.map emb)) (hl : l.length ≤ 16777216)
    (h : ∀ a ∈ l, me ((wipeD ρ vs).set i (some (emb a))) = .ok (f a)) : mLc vs mi (gnName i) mYes me ρ = .ok (.lst (l.map f)) :=
  mLc_map (fun a => (wipeD ρ vs).set i (some (emb a))) f hi hl fun a ha => ⟨rfl, h a ha⟩
theorem mLc_filN {α : Type} {vs : List Nat} {mi : G.Env → R (List D)} {i : Nat} {mt : G.Env → R Bool} {me : G.Env → R D} {ρ : G.Env} {emb : α → D} {l : List α} (p : α → Bool) (f : α → D) (hi : mi ρ = .ok (l.map emb)) (hl : l.length ≤ 16777216)
    (h : ∀ a ∈ l, mt ((wipeD ρ vs).set i (some (emb a))) = .ok (p a) ∧ me ((wipeD ρ vs).set i (some (emb a))) = .ok (f a)) : mLc vs mi (gnName i) mt me ρ = .ok (.lst ((l.filter p).map f)) :=
  mLc_fil (fun a => (wipeD ρ vs).set i (some (emb a))) p f hi hl fun a ha => ⟨rfl, (h a ha).1, fun _ => (h a ha).2⟩
def srt (l : List Nat) : List Nat := l.mergeSort fun a b => decide (a ≤ b)
theorem srt_perm (l : List Nat) : (srt l).Perm l := List.mergeSort_perm l _
theorem srt_pw {l : List Nat} (h : l.Nodup) : (srt l).Pairwise (· < ·) := by
  have h1 : (srt l).Pairwise fun a b => decide (a ≤ b) = true := List.pairwise_mergeSort (fun a b c h1 h2 => by have := of_decide_eq_true h1; have := of_decide_eq_true h2; exact decide_eq_true (by omega)) (fun a b => by
    rcases Nat.le_total a b with h | h
    · rw [decide_eq_true h]; rfl
    · rw [decide_eq_true h, Bool.or_true]) l
  have h2 : (srt l).Nodup := (srt_perm l).nodup_iff.mpr h
  exact (h1.and h2).imp fun {a b} z => by have := of_decide_eq_true z.1; have := z.2; omega
theorem sortI_srt {l : List Nat} (h : l.Nodup) : sortD (l.map nI) = (srt l).map nI := sortI_lot (srt_perm l).symm (srt_pw h)
theorem lots_ok {X : List (List Nat)} : (X.map lotD).all (okD 1) = true := by
  rw [List.all_map, List.all_eq_true]
  exact fun l _ => nI_ok l
theorem dIn_lot (l : List Nat) (X : List (List Nat)) : dIn (lotD l) (X.map lotD) = decide (l ∈ X) := bool_ext (by
  rw [dIn_iff, decide_eq_true_iff, List.mem_map]
  constructor
  · rintro ⟨m, hm, e⟩
    exact (lot_inj e) ▸ hm
  · exact fun h => ⟨l, h, rfl⟩)
theorem lots_ix {X : List (List Nat)} {k : Nat} (h : k < X.length) : D.ix (.lst (X.map lotD)) (nI k) = .ok (lotD X[k]) := ix_lst (by
  rw [atI_nat (n := k) rfl (by rw [List.length_map]; exact h), List.getElem_map])
theorem find_loop {α : Type} {emb : α → D} {f : D → G.Env → Out} (I : G.Env → Prop) (p : α → Bool) (v : α → D) :
    ∀ (l : List α) (ρ : G.Env), I ρ → (∀ a ∈ l, ∀ ρ, I ρ → (p a = true → f (emb a) ρ = .rt (v a)) ∧ (p a = false → ∃ ρ', I ρ' ∧ f (emb a) ρ = .nx ρ')) →
    (∀ a, l.find? p = some a → loopD f (l.map emb) ρ = .rt (v a)) ∧ (l.find? p = none → ∃ ρ', I ρ' ∧ loopD f (l.map emb) ρ = .nx ρ')
  | [], ρ, hI, _ => And.intro (fun _ h => nomatch h) (fun _ => ⟨ρ, hI, rfl⟩)
  | a :: l, ρ, hI, h => by
    have h0 := h a (.head _) ρ hI
    have ef : (a :: l).find? p = if p a = true then some a else l.find? p := by
      rw [List.find?_cons]
      cases p a <;> rfl
    cases hp : p a with
    | true =>
      rw [ef, if_pos hp, List.map_cons]
      refine ⟨fun b hb => ?_, fun hb => by cases hb⟩
      cases hb
      show (match f (emb a) ρ with | .nx ρ' => loopD f (l.map emb) ρ' | .ct ρ' => loopD f (l.map emb) ρ' | .bk ρ' => .nx ρ' | x => x) = _
      rw [h0.1 hp]
    | false =>
      obtain ⟨ρ', hI', e⟩ := h0.2 hp
      have ih := find_loop I p v l ρ' hI' fun b hb => h b (.tail _ hb)
      have e2 : loopD f ((a :: l).map emb) ρ = loopD f (l.map emb) ρ' := by
        rw [List.map_cons]
        show (match f (emb a) ρ with | .nx ρ' => loopD f (l.map emb) ρ' | .ct ρ' => loopD f (l.map emb) ρ' | .bk ρ' => .nx ρ' | x => x) = _
        rw [e]
      rw [e2, ef, if_neg (by rw [hp]; exact Bool.false_ne_true)]
      exact ih
theorem for_ok {mi : G.Env → R (List D)} {mg : D → G.Env → R G.Env} {mb : G.Env → Out} {ρ : G.Env} {ds : List D} {o : Out} (hi : mi ρ = .ok ds) (hl : loopD (stepD mg mb) ds ρ = o) : mFor mi mg mb ρ = o := by
  unfold mFor
  rw [hi]
  exact hl
theorem res_rt {a b : G.Env → Out} {ρ : G.Env} {d : D} (h : a ρ = .rt d) : (mSeq a b ρ).res = .ok d := congrArg Out.res (seq_rt h)
theorem in_nat (x : Nat) (l : List Nat) : D.isIn (nI x) (lotD l) = .ok (.bl (decide (x ∈ l))) := by rw [in_tup (n := 0) (by omega) okD_int (nI_ok l), dIn_nI]
theorem notIn_nat (x : Nat) (l : List Nat) : D.notIn (nI x) (lotD l) = .ok (.bl (!decide (x ∈ l))) := by rw [notIn_tup (n := 0) (by omega) okD_int (nI_ok l), dIn_nI]
theorem in_natL (x : Nat) (l : List Nat) : D.isIn (nI x) (.lst (l.map nI)) = .ok (.bl (decide (x ∈ l))) := by rw [in_lst (n := 0) (by omega) okD_int (nI_ok l), dIn_nI]
theorem notIn_natL (x : Nat) (l : List Nat) : D.notIn (nI x) (.lst (l.map nI)) = .ok (.bl (!decide (x ∈ l))) := by rw [notIn_lst (n := 0) (by omega) okD_int (nI_ok l), dIn_nI]
def rowK (rows : List Row) (k : Nat) : Row := rows.getD k (0, 0, 0)
def fromL (rows : List Row) (q : Row → Bool) : List Nat := (List.range rows.length).filter fun k => q (rowK rows k)
theorem mem_fromL {rows : List Row} {q : Row → Bool} {k : Nat} : k ∈ fromL rows q ↔ k < rows.length ∧ q (rowK rows k) = true := by
  unfold fromL
  rw [List.mem_filter, List.mem_range]
theorem fromL_lot (rows : List Row) (q : Row → Bool) : Lot rows.length (fromL rows q) := fil_lot _ _
theorem enum_rows (rows : List Row) : dEnum D.seq (.tup (rows.map rowD)) = .ok ((List.range rows.length).map fun i => .tup [nI i, rowD (rowK rows i)]) := by
  show R.ok (enumD (rows.map rowD)) = _
  unfold enumD rowK
  refine congrArg R.ok (List.ext_getElem ?_ fun i h1 h2 => ?_)
  · simp
  · have hi : i < rows.length := by simpa using h1
    simp [List.getD_eq_getElem?_getD, List.getElem?_eq_getElem hi]
theorem fromL_ok {many : Nat} {rows : List Row} {x : D} {mt : G.Env → R Bool} {q : Row → Bool} (hr : rows.length ≤ 1000) (ht : ∀ k, k < rows.length → mt [some (webD many rows), some x, some (nI k), some (rowD (rowK rows k))] = .ok (q (rowK rows k))) :
    mLc [2, 3] (mSq (dEnum D.seq) (m2 D.ix (mVar 0) (mC (.int 1)))) (gnTup 2 (gnCons (gnName 2) (gnCons (gnName 3) gnNil))) mt (mVar 2) [some (webD many rows), some x, none, none] = .ok (.lst ((fromL rows q).map nI)) :=
  mLc_fil (emb := fun i => .tup [nI i, rowD (rowK rows i)]) (l := List.range rows.length) (r := fun k => [some (webD many rows), some x, some (nI k), some (rowD (rowK rows k))]) (p := fun k => q (rowK rows k)) (f := nI) (sq_ok (m2_ok rfl rfl (web1 _ _)) (enum_rows rows)) (by rw [List.length_range]; omega) fun k hk => ⟨rfl, ht k (List.mem_range.mp hk), fun _ => rfl⟩
def gvL (rows : List Row) (p : Nat) : List Nat := fromL rows fun r => decide (r.1 = p)
def gtL (rows : List Row) (p : Nat) : List Nat := fromL rows fun r => decide (r.2.1 = p)
theorem f_givenBy {many : Nat} {rows : List Row} (hr : rows.length ≤ 1000) (p : Nat) : m_given_by.fn [webD many rows, nI p] = .ok (.lst ((gvL rows p).map nI)) := by
  rw [fn_run rfl]
  show (b_given_by [some (webD many rows), some (nI p), none, none]).res = _
  unfold b_given_by
  exact ret_res (fromL_ok hr fun k hk => b_ok (m2_ok (m2_ok rfl rfl (row0 _)) rfl (deqN _ _)))
theorem f_gotBy {many : Nat} {rows : List Row} (hr : rows.length ≤ 1000) (p : Nat) : m_got_by.fn [webD many rows, nI p] = .ok (.lst ((gtL rows p).map nI)) := by
  rw [fn_run rfl]
  show (b_got_by [some (webD many rows), some (nI p), none, none]).res = _
  unfold b_got_by
  exact ret_res (fromL_ok hr fun k hk => b_ok (m2_ok (m2_ok rfl rfl (row1 _)) rfl (deqN _ _)))
/-- what the league gets from outside, what it gives there -/
def outL (rows : List Row) (L : List Nat) : List Nat := fromL rows fun r => !decide (r.1 ∈ L) && decide (r.2.1 ∈ L)
def givL (rows : List Row) (L : List Nat) : List Nat := fromL rows fun r => decide (r.1 ∈ L) && !decide (r.2.1 ∈ L)
theorem f_gotFrom {many : Nat} {rows : List Row} (hr : rows.length ≤ 1000) (L : List Nat) : m_got_from_outside.fn [webD many rows, lotD L] = .ok (.lst ((outL rows L).map nI)) := by
  rw [fn_run rfl]
  show (b_got_from_outside [some (webD many rows), some (lotD L), none, none]).res = _
  unfold b_got_from_outside
  exact ret_res (fromL_ok hr fun k hk => and_tf (b_ok (m2_ok (m2_ok rfl rfl (row0 _)) rfl (notIn_nat _ _))) (b_ok (m2_ok (m2_ok rfl rfl (row1 _)) rfl (in_nat _ _))))
theorem f_givenOut {many : Nat} {rows : List Row} (hr : rows.length ≤ 1000) (L : List Nat) : m_given_outside.fn [webD many rows, lotD L] = .ok (.lst ((givL rows L).map nI)) := by
  rw [fn_run rfl]
  show (b_given_outside [some (webD many rows), some (lotD L), none, none]).res = _
  unfold b_given_outside
  exact ret_res (fromL_ok hr fun k hk => and_tf (b_ok (m2_ok (m2_ok rfl rfl (row0 _)) rfl (in_nat _ _))) (b_ok (m2_ok (m2_ok rfl rfl (row1 _)) rfl (notIn_nat _ _))))
def harmB (rows : List Row) (lot : List Nat) (p : Nat) : Bool := ((gvL rows p).any fun k => decide (k ∈ lot)) && !((gtL rows p).all fun k => decide (k ∈ lot))
theorem fromL_le (rows : List Row) (q : Row → Bool) : (fromL rows q).length ≤ rows.length := (fromL_lot rows q).length
theorem f_isHarmed {many : Nat} {rows : List Row} (hr : rows.length ≤ 1000) (lot : List Nat) (p : Nat) : m_is_harmed.fn [webD many rows, lotD lot, nI p] = .ok (.bl (harmB rows lot p)) := by
  rw [fn_run rfl]
  show (b_is_harmed [some (webD many rows), some (lotD lot), some (nI p), none]).res = _
  unfold b_is_harmed
  exact ret_res (andV_tf (call1_ok (mLc_mapN (emb := nI) (l := gvL rows p) (fun k => .bl (decide (k ∈ lot))) (sq_ok (callN_ok (cons_ok rfl (cons_ok rfl rfl)) rfl (f_givenBy hr p)) rfl) (by have := fromL_le rows fun r => decide (r.1 = p); unfold gvL; omega) fun k _ => m2_ok rfl rfl (in_nat _ _)) (any_ok _ _))
    (notV_ok (call1_ok (mLc_mapN (emb := nI) (l := gtL rows p) (fun k => .bl (decide (k ∈ lot))) (sq_ok (callN_ok (cons_ok rfl (cons_ok rfl rfl)) rfl (f_gotBy hr p)) rfl) (by have := fromL_le rows fun r => decide (r.2.1 = p); unfold gtL; omega) fun k _ => m2_ok rfl rfl (in_nat _ _)) (all_ok _ _))))
def firstH (many : Nat) (rows : List Row) (L lot : List Nat) : Option Nat := (List.range many).find? fun p => !decide (p ∈ L) && harmB rows lot p
def optD : Option Nat → D
  | some p => nI p
  | none => .non
def harmBody : G.Env → Out := (mIf (mAnd (mB (m2 D.notIn (mVar 3) (mVar 1))) (mB (mCallN 3 m_is_harmed.fn (mCons (mVar 0) (mCons (mVar 2) (mCons (mVar 3) mNil)))))) (mRet (mVar 3)) mNext)
theorem f_firstHarmed {many : Nat} {rows : List Row} (hm : many ≤ 1000) (hr : rows.length ≤ 1000) (L lot : List Nat) : m_first_harmed.fn [webD many rows, lotD L, lotD lot] = .ok (optD (firstH many rows L lot)) := by
  rw [fn_run rfl]
  show (b_first_harmed [some (webD many rows), some (lotD L), some (lotD lot), none]).res = _
  unfold b_first_harmed
  have fl := find_loop (emb := nI) (f := stepD (gnName 3) harmBody) (fun ρ => ∃ w, ρ = [some (webD many rows), some (lotD L), some (lotD lot), w]) (fun p => !decide (p ∈ L) && harmB rows lot p) nI (List.range many) [some (webD many rows), some (lotD L), some (lotD lot), none] ⟨none, rfl⟩ fun a ha ρ hρ => by
    obtain ⟨w, rfl⟩ := hρ
    have hc : mAnd (mB (m2 D.notIn (mVar 3) (mVar 1))) (mB (mCallN 3 m_is_harmed.fn (mCons (mVar 0) (mCons (mVar 2) (mCons (mVar 3) mNil))))) [some (webD many rows), some (lotD L), some (lotD lot), some (nI a)] = .ok (!decide (a ∈ L) && harmB rows lot a) :=
      and_tf (b_ok (m2_ok rfl rfl (notIn_nat a L))) (b_ok (callN_ok (cons_ok rfl (cons_ok rfl (cons_ok rfl rfl))) rfl (f_isHarmed hr lot a)))
    refine ⟨fun hp => ?_, fun hp => ⟨_, ⟨some (nI a), rfl⟩, ?_⟩⟩
    · rw [hp] at hc
      exact if_t hc rfl
    · rw [hp] at hc
      exact if_f hc rfl
  unfold firstH
  cases h : (List.range many).find? fun p => !decide (p ∈ L) && harmB rows lot p with
  | some a => exact res_rt (for_ok (sq_ok (m2_ok rfl rfl (web0 _ _)) (range1_ok (by omega))) (fl.1 a h))
  | none =>
    obtain ⟨ρ', ⟨w, rfl⟩, e⟩ := fl.2 h
    exact seq_res (for_ok (sq_ok (m2_ok rfl rfl (web0 _ _)) (range1_ok (by omega))) e) (ret_res rfl)
def closedB (many : Nat) (rows : List Row) (L lot : List Nat) : Bool := (firstH many rows L lot).isNone
theorem is_opt (o : Option Nat) : D.is (optD o) .non = .ok (.bl o.isNone) := by cases o <;> rfl
def closedL (many : Nat) (rows : List Row) (L : List Nat) : List (List Nat) := (sortL (lotsL rows.length)).filter (closedB many rows L)
theorem closed_nil (many : Nat) (rows : List Row) (L : List Nat) : closedB many rows L [] = true := by
  unfold closedB firstH
  rw [Option.isNone_iff_eq_none, List.find?_eq_none]
  intro p _
  unfold harmB
  rw [show ((gvL rows p).any fun k => decide (k ∈ ([] : List Nat))) = false from List.any_eq_false.mpr fun x _ => by simp]
  simp
theorem f_closedList {many : Nat} {rows : List Row} (hm : many ≤ 1000) (hr : rows.length ≤ 10) (L : List Nat) : m_closed_list.fn [webD many rows, lotD L] = .ok (.lst ((closedL many rows L).map lotD)) := by
  obtain ⟨t, ht⟩ := lotsL_head rows.length
  have hf : ((lotsL rows.length).filter (closedB many rows L)) = [] :: t.filter (closedB many rows L) := by rw [ht, List.filter_cons_of_pos (closed_nil many rows L)]
  rw [fn_run rfl]
  show (b_closed_list [some (webD many rows), some (lotD L), none]).res = _
  unfold b_closed_list
  refine ret_res (call1_ok (mLc_filN (emb := lotD) (l := lotsL rows.length) (closedB many rows L) lotD (sq_ok (callN_ok (cons_ok (call1_ok (m2_ok rfl rfl (web1 _ _)) ((len_tup _).trans (by rw [List.length_map]))) rfl) rfl (f_allLots hr)) rfl) (by have := lotsL_le hr; omega) fun l _ => ⟨b_ok (m2_ok (call0_ok (cons_ok rfl (cons_ok rfl (cons_ok rfl rfl))) rfl (f_firstHarmed hm (by omega) L l)) rfl (is_opt _)), rfl⟩) ((sortT_lots hf).trans ?_))
  rw [sort_fil]
  rfl
theorem f_needLeague {many : Nat} {rows : List Row} {L : List Nat} (h10 : many ≤ 100) (hl : Lot many L) : m_need_league.fn [webD many rows, lotD L] = .ok .non := by
  have hll := hl.length
  rw [fn_run rfl]
  show (b_need_league [some (webD many rows), some (lotD L)]).res = _
  unfold b_need_league
  exact (congrArg Out.res (if_f (not_ok (x := true) (b_ok (callN_ok (cons_ok rfl (cons_ok (m2_ok rfl rfl (web0 _ _)) rfl)) rfl (f_isLot hl (by omega))))) rfl)).trans rfl
theorem f_isLotW {many : Nat} {rows : List Row} {lot : List Nat} (h10 : rows.length ≤ 100) (hl : Lot rows.length lot) : m_is_lot.fn [lotD lot, .int (rows.map rowD).length] = .ok (.bl true) := by
  have hll := hl.length
  rw [List.length_map]
  exact f_isLot hl (by omega)
theorem f_needLotG {many : Nat} {rows : List Row} {lot : List Nat} (h10 : rows.length ≤ 100) (hl : Lot rows.length lot) : m_need_lot.fn [webD many rows, lotD lot] = .ok .non := by
  rw [fn_run rfl]
  show (b_need_lot [some (webD many rows), some (lotD lot)]).res = _
  unfold b_need_lot
  exact (congrArg Out.res (if_f (not_ok (x := true) (b_ok (callN_ok (cons_ok rfl (cons_ok (call1_ok (m2_ok rfl rfl (web1 _ _)) (len_tup _)) rfl)) rfl (f_isLotW (many := many) h10 hl)))) rfl)).trans rfl
def allG (rows : List Row) (L lot : List Nat) : Bool := (outL rows L).all fun k => decide (k ∈ lot)
def allV (rows : List Row) (L lot : List Nat) : Bool := (givL rows L).all fun k => decide (k ∈ lot)
def anyG (rows : List Row) (L lot : List Nat) : Bool := (outL rows L).any fun k => decide (k ∈ lot)
def anyV (rows : List Row) (L lot : List Nat) : Bool := (givL rows L).any fun k => decide (k ∈ lot)
def endS (rows : List Row) (L lot : List Nat) : Str := bif allG rows L lot then (bif allV rows L lot then "deal" else "discount") else bif anyV rows L lot then "under" else bif anyG rows L lot then "free" else "none"
theorem ite_tf {c : G.Env → R Bool} {a b : G.Env → R D} {ρ : G.Env} {x : Bool} {d e : D} (h : c ρ = .ok x) (h1 : a ρ = .ok d) (h2 : b ρ = .ok e) : mIte c a b ρ = .ok (bif x then d else e) := by
  unfold mIte
  rw [h]
  cases x
  · exact h2
  · exact h1
theorem f_endOf {many : Nat} {rows : List Row} (hr : rows.length ≤ 1000) (L lot : List Nat) : m_end_of.fn [webD many rows, lotD L, lotD lot] = .ok (.str (endS rows L lot)) := by
  rw [fn_run rfl]
  show (b_end_of [some (webD many rows), some (lotD L), some (lotD lot), none, none, none]).res = _
  unfold b_end_of
  refine seq_res (set_nx (mLc_mapN (emb := nI) (l := outL rows L) (fun k => .bl (decide (k ∈ lot))) (sq_ok (callN_ok (cons_ok rfl (cons_ok rfl rfl)) rfl (f_gotFrom hr L)) rfl) (Nat.le_trans (fromL_le rows _) (by omega)) fun k _ => m2_ok rfl rfl (in_nat _ _))) ?_
  refine seq_res (set_nx (mLc_mapN (emb := nI) (l := givL rows L) (fun k => .bl (decide (k ∈ lot))) (sq_ok (callN_ok (cons_ok rfl (cons_ok rfl rfl)) rfl (f_givenOut hr L)) rfl) (Nat.le_trans (fromL_le rows _) (by omega)) fun k _ => m2_ok rfl rfl (in_nat _ _))) ?_
  unfold endS
  cases hG : allG rows L lot with
  | true =>
    refine res_rt (if_t (b_ok (call1_ok rfl ((all_ok _ _).trans (congrArg (fun z => R.ok (D.bl z)) hG)))) ?_)
    unfold mRet
    rw [ite_tf (x := allV rows L lot) (b_ok (call1_ok rfl (all_ok _ _))) rfl rfl]
    cases allV rows L lot <;> rfl
  | false =>
    refine seq_res (if_f (b_ok (call1_ok rfl ((all_ok _ _).trans (congrArg (fun z => R.ok (D.bl z)) hG)))) rfl) ?_
    cases hV : anyV rows L lot with
    | true => exact res_rt (if_t (b_ok (call1_ok rfl ((any_ok _ _).trans (congrArg (fun z => R.ok (D.bl z)) hV)))) rfl)
    | false =>
      refine seq_res (if_f (b_ok (call1_ok rfl ((any_ok _ _).trans (congrArg (fun z => R.ok (D.bl z)) hV)))) rfl) ?_
      refine ret_res ((ite_tf (x := anyG rows L lot) (b_ok (call1_ok rfl (any_ok _ _))) rfl rfl).trans ?_)
      cases anyG rows L lot <;> rfl
def gainB (rows : List Row) (L lot : List Nat) : Bool := bif allG rows L lot then !allV rows L lot else !anyV rows L lot && anyG rows L lot
theorem in_str (x y z : Str) (hx : PyData.strOk x = true) (hy : PyData.strOk y = true) (hz : PyData.strOk z = true) : D.isIn (.str x) (.tup [.str y, .str z]) = .ok (.bl (decide (x = y) || decide (x = z))) := by
  rw [in_tup (n := 0) (by omega) (okD_str.trans hx) (by rw [List.all_cons, List.all_cons, okD_str, okD_str, hy, hz]; rfl)]
  refine congrArg (fun w => R.ok (D.bl w)) (bool_ext ?_)
  rw [dIn_iff, Bool.or_eq_true, decide_eq_true_iff, decide_eq_true_iff]
  simp
theorem end_in (rows : List Row) (L lot : List Nat) : D.isIn (.str (endS rows L lot)) (.tup [.str "discount", .str "free"]) = .ok (.bl (gainB rows L lot)) := by
  unfold endS gainB
  cases allG rows L lot <;> cases allV rows L lot <;> cases anyV rows L lot <;> cases anyG rows L lot <;> exact (in_str _ _ _ (by decide +kernel) (by decide +kernel) (by decide +kernel)).trans (congrArg (fun w => R.ok (D.bl w)) (by decide +kernel))
theorem nodup1 {α : Type} (a : α) : [a].Nodup := List.nodup_cons.mpr ⟨fun h => (List.not_mem_nil h).elim, List.nodup_nil⟩
def optL : Option (List Nat) → D
  | some l => lotD l
  | none => .non
def gainOf (many : Nat) (rows : List Row) (L : List Nat) : Option (List Nat) := (closedL many rows L).find? (gainB rows L)
def gainOfBody : G.Env → Out := (mIf (mB (m2 D.isIn (mCallN 3 m_end_of.fn (mCons (mVar 0) (mCons (mVar 1) (mCons (mVar 2) mNil)))) (mTup (mCons (mC (.str "discount")) (mCons (mC (.str "free")) mNil))))) (mRet (mVar 2)) mNext)
theorem f_gainOf {many : Nat} {rows : List Row} (hm : many ≤ 1000) (hr : rows.length ≤ 10) (L : List Nat) : m_gain_of.fn [webD many rows, lotD L] = .ok (optL (gainOf many rows L)) := by
  rw [fn_run rfl]
  show (b_gain_of [some (webD many rows), some (lotD L), none]).res = _
  unfold b_gain_of
  have fl := find_loop (emb := lotD) (f := stepD (gnName 2) gainOfBody) (fun ρ => ∃ w, ρ = [some (webD many rows), some (lotD L), w]) (gainB rows L) lotD (closedL many rows L) [some (webD many rows), some (lotD L), none] ⟨none, rfl⟩ fun a ha ρ hρ => by
    obtain ⟨w, rfl⟩ := hρ
    have hc : mB (m2 D.isIn (mCallN 3 m_end_of.fn (mCons (mVar 0) (mCons (mVar 1) (mCons (mVar 2) mNil)))) (mTup (mCons (mC (.str "discount")) (mCons (mC (.str "free")) mNil)))) [some (webD many rows), some (lotD L), some (lotD a)] = .ok (gainB rows L a) :=
      b_ok (m2_ok (callN_ok (cons_ok rfl (cons_ok rfl (cons_ok rfl rfl))) rfl (f_endOf (by omega) L a)) (mTup_ok (cons_ok rfl (cons_ok rfl rfl)) (by show 2 ≤ 16777216; omega)) (end_in rows L a))
    refine ⟨fun hp => ?_, fun hp => ⟨_, ⟨some (lotD a), rfl⟩, ?_⟩⟩
    · rw [hp] at hc
      exact if_t hc rfl
    · rw [hp] at hc
      exact if_f hc rfl
  unfold gainOf
  cases h : (closedL many rows L).find? (gainB rows L) with
  | some a => exact res_rt (for_ok (sq_ok (callN_ok (cons_ok rfl (cons_ok rfl rfl)) rfl (f_closedList hm hr L)) rfl) (fl.1 a h))
  | none =>
    obtain ⟨ρ', ⟨w, rfl⟩, e⟩ := fl.2 h
    exact seq_res (for_ok (sq_ok (callN_ok (cons_ok rfl (cons_ok rfl rfl)) rfl (f_closedList hm hr L)) rfl) e) (ret_res rfl)
theorem isnt_optL (o : Option (List Nat)) : D.isnt (optL o) .non = .ok (.bl o.isSome) := by cases o <;> rfl
def gainLg (many : Nat) (rows : List Row) : Option (List Nat) := (sortL (lotsL many)).find? fun L => (gainOf many rows L).isSome
def gainLgD (many : Nat) (rows : List Row) : D := match gainLg many rows with
  | some L => .tup [lotD L, optL (gainOf many rows L)]
  | none => .non
def gainLgBody : G.Env → Out := (mSeq (mSet 2 (mCallN 2 m_gain_of.fn (mCons (mVar 0) (mCons (mVar 1) mNil)))) (mIf (mB (m2 D.isnt (mVar 2) (mC .non))) (mRet (mTup (mCons (mVar 1) (mCons (mVar 2) mNil)))) mNext))
theorem f_gainLeague {many : Nat} {rows : List Row} (v : Valid many rows) : m_gain_league.fn [webD many rows] = .ok (gainLgD many rows) := by
  have hm := v.m5
  have hr := v.r10
  obtain ⟨t, ht⟩ := lotsL_head many
  rw [fn_run rfl]
  show (b_gain_league [some (webD many rows), none, none]).res = _
  unfold b_gain_league
  refine seq_res (drop_nx (callN_ok (cons_ok rfl rfl) rfl (f_needWeb v))) ?_
  have fl := find_loop (emb := lotD) (f := stepD (gnName 1) gainLgBody) (fun ρ => ∃ w1 w2, ρ = [some (webD many rows), w1, w2]) (fun L => (gainOf many rows L).isSome) (fun L => .tup [lotD L, optL (gainOf many rows L)]) (sortL (lotsL many)) [some (webD many rows), none, none] ⟨none, none, rfl⟩ fun a ha ρ hρ => by
    obtain ⟨w1, w2, rfl⟩ := hρ
    have h1 : mSet 2 (mCallN 2 m_gain_of.fn (mCons (mVar 0) (mCons (mVar 1) mNil))) [some (webD many rows), some (lotD a), w2] = .nx [some (webD many rows), some (lotD a), some (optL (gainOf many rows a))] :=
      set_nx (callN_ok (cons_ok rfl (cons_ok rfl rfl)) rfl (f_gainOf (by omega) hr a))
    have hc : mB (m2 D.isnt (mVar 2) (mC .non)) [some (webD many rows), some (lotD a), some (optL (gainOf many rows a))] = .ok (gainOf many rows a).isSome := b_ok (m2_ok rfl rfl (isnt_optL _))
    refine ⟨fun hp => ?_, fun hp => ⟨_, ⟨some (lotD a), some (optL (gainOf many rows a)), rfl⟩, ?_⟩⟩
    · rw [hp] at hc
      exact seq_nx h1 (if_t hc (by unfold mRet; rw [mTup_ok (ds := [lotD a, optL (gainOf many rows a)]) (cons_ok rfl (cons_ok rfl rfl)) (by show 2 ≤ 16777216; omega)]; rfl))
    · rw [hp] at hc
      exact seq_nx h1 (if_f hc rfl)
  have hal : mSq D.seq (mCall (d1 D.sortT) (mCons (mCallN 1 m_all_lots.fn (mCons (m2 D.ix (mVar 0) (mC (.int 0))) mNil)) mNil)) [some (webD many rows), none, none] = .ok ((sortL (lotsL many)).map lotD) :=
    sq_ok (call1_ok (callN_ok (cons_ok (m2_ok rfl rfl (web0 _ _)) rfl) rfl (f_allLots (by omega))) ((sortT_lots ht).trans (by rw [sort_all]))) rfl
  unfold gainLgD gainLg
  cases h : (sortL (lotsL many)).find? fun L => (gainOf many rows L).isSome with
  | some a => exact res_rt (for_ok hal (fl.1 a h))
  | none =>
    obtain ⟨ρ', ⟨w1, w2, rfl⟩, e⟩ := fl.2 h
    exact seq_res (for_ok hal e) (ret_res rfl)
def stp (f : List Nat) (r : Row) : List Nat := if (decide (r.1 ∈ f) && !decide (r.2.1 ∈ f)) = true then f ++ [r.2.1] else f
def reachN (rows : List Row) : Nat → List Nat → List Nat
  | 0, f => f
  | n + 1, f => reachN rows n (rows.foldl stp f)
def reachBody : G.Env → Out := (mIf (mAnd (mB (m2 D.isIn (m2 D.ix (mVar 4) (mC (.int 0))) (mVar 2))) (mB (m2 D.notIn (m2 D.ix (mVar 4) (mC (.int 1))) (mVar 2)))) (mMut "list" 2 dAppend (mCons (m2 D.ix (mVar 4) (mC (.int 1))) mNil) kDrop) mNext)
def reachLoop : G.Env → Out := (mFor (mSq D.seq (m2 D.ix (mVar 0) (mC (.int 1)))) (gnName 4) (mIf (mAnd (mB (m2 D.isIn (m2 D.ix (mVar 4) (mC (.int 0))) (mVar 2))) (mB (m2 D.notIn (m2 D.ix (mVar 4) (mC (.int 1))) (mVar 2)))) (mMut "list" 2 dAppend (mCons (m2 D.ix (mVar 4) (mC (.int 1))) mNil) kDrop) mNext))
theorem stp_len (f : List Nat) (r : Row) : (stp f r).length ≤ f.length + 1 := by
  unfold stp
  split
  · rw [List.length_append, List.length_singleton]; omega
  · omega
theorem reach_in {W : D} {c1 v3 : Option D} : ∀ (rs : List Row) (f : List Nat) (v4 : Option D), f.length + rs.length ≤ 100000 → ∃ w4 : Option D,
    loopD (stepD (gnName 4) reachBody) (rs.map rowD) [some W, c1, some (.lst (f.map nI)), v3, v4] = .nx [some W, c1, some (.lst ((rs.foldl stp f).map nI)), v3, w4]
  | [], f, v4, _ => ⟨v4, rfl⟩
  | r :: rs, f, v4, hl => by
    rw [List.length_cons] at hl
    have hs := stp_len f r
    obtain ⟨w4, e⟩ := reach_in (W := W) (c1 := c1) (v3 := v3) rs (stp f r) (some (rowD r)) (by omega)
    refine ⟨w4, ?_⟩
    rw [List.foldl_cons, ← e, List.map_cons]
    refine loop_cons (ρ1 := [some W, c1, some (.lst (f.map nI)), v3, some (rowD r)]) rfl ?_ rfl
    have hc : mAnd (mB (m2 D.isIn (m2 D.ix (mVar 4) (mC (.int 0))) (mVar 2))) (mB (m2 D.notIn (m2 D.ix (mVar 4) (mC (.int 1))) (mVar 2))) [some W, c1, some (.lst (f.map nI)), v3, some (rowD r)] = .ok (decide (r.1 ∈ f) && !decide (r.2.1 ∈ f)) :=
      and_tf (b_ok (m2_ok (m2_ok rfl rfl (row0 _)) rfl (in_natL _ _))) (b_ok (m2_ok (m2_ok rfl rfl (row1 _)) rfl (notIn_natL _ _)))
    unfold stp
    cases hb : (decide (r.1 ∈ f) && !decide (r.2.1 ∈ f)) with
    | true =>
      rw [hb] at hc
      rw [if_pos rfl]
      refine if_t hc ((mut_append (xs := f.map nI) (y := nI r.2.1) rfl (cons_ok (m2_ok rfl rfl (row1 _)) rfl) (by rw [List.length_map]; omega)).trans ?_)
      rw [List.map_append]
      rfl
    | false =>
      rw [hb] at hc
      rw [if_neg Bool.false_ne_true]
      exact if_f hc rfl
theorem fold_len : ∀ (rs : List Row) (f : List Nat), (rs.foldl stp f).length ≤ f.length + rs.length
  | [], f => Nat.le_refl _
  | r :: rs, f => by
    have h1 := fold_len rs (stp f r)
    have h2 := stp_len f r
    rw [List.foldl_cons, List.length_cons]
    omega
theorem reach_out {many : Nat} {rows : List Row} {c1 : Option D} : ∀ (ks : List Nat) (f : List Nat) (v3 v4 : Option D), f.length + (ks.length + 1) * rows.length ≤ 100000 → ∃ w3 w4 : Option D,
    loopD (stepD (gnName 3) reachLoop) (ks.map nI) [some (webD many rows), c1, some (.lst (f.map nI)), v3, v4] = .nx [some (webD many rows), c1, some (.lst ((reachN rows ks.length f).map nI)), w3, w4]
  | [], f, v3, v4, _ => ⟨v3, v4, rfl⟩
  | k :: ks, f, v3, v4, hl => by
    have hlen : (List.length (k :: ks) + 1) * rows.length = (ks.length + 1) * rows.length + rows.length := by rw [List.length_cons, Nat.succ_mul]
    rw [hlen] at hl
    have h1 := fold_len rows f
    obtain ⟨y4, e1⟩ := reach_in (W := webD many rows) (c1 := c1) (v3 := some (nI k)) rows f v4 (by omega)
    obtain ⟨w3, w4, e⟩ := reach_out (many := many) (rows := rows) (c1 := c1) ks (rows.foldl stp f) (some (nI k)) y4 (by omega)
    refine ⟨w3, w4, ?_⟩
    rw [List.length_cons, reachN, ← e, List.map_cons]
    exact loop_cons (ρ1 := [some (webD many rows), c1, some (.lst (f.map nI)), some (nI k), v4]) rfl (for_ok (sq_ok (m2_ok rfl rfl (web1 _ _)) rfl) e1) rfl
theorem f_reach {many : Nat} {rows : List Row} (hm : many ≤ 100) (hr : rows.length ≤ 100) (p : Nat) : m__law_reach.fn [webD many rows, nI p] = .ok (.lst ((reachN rows many [p]).map nI)) := by
  have hb : (many + 1) * rows.length ≤ 101 * 100 := Nat.mul_le_mul (by omega) hr
  obtain ⟨w3, w4, e⟩ := reach_out (many := many) (rows := rows) (c1 := some (nI p)) (List.range many) [p] none none (by rw [List.length_range, List.length_singleton]; omega)
  rw [List.length_range] at e
  rw [fn_run rfl]
  show (b__law_reach [some (webD many rows), some (nI p), none, none, none]).res = _
  unfold b__law_reach
  refine seq_res (set_nx (mLst_ok (cons_ok rfl rfl) (by show 1 ≤ 16777216; omega))) ?_
  exact seq_res (for_ok (sq_ok (m2_ok rfl rfl (web0 _ _)) (range1_ok (by omega))) e) (ret_res rfl)
/-- closed for what transfers lead to -/
def ClosedP (rows : List Row) (C : Nat → Prop) : Prop := ∀ r ∈ rows, C r.1 → C r.2.1
theorem stp_cases (f : List Nat) (r : Row) : (stp f r = f ∧ (r.1 ∈ f → r.2.1 ∈ f)) ∨ (stp f r = f ++ [r.2.1] ∧ r.1 ∈ f ∧ r.2.1 ∉ f) := by
  unfold stp
  by_cases h1 : r.1 ∈ f
  · by_cases h2 : r.2.1 ∈ f
    · left; rw [decide_eq_true h2]; simp [h2]
    · right; rw [decide_eq_true h1, decide_eq_false h2]; exact ⟨rfl, h1, h2⟩
  · left; rw [decide_eq_false h1]; simp [h1]
theorem fold_least {rows : List Row} {C : Nat → Prop} (hC : ClosedP rows C) : ∀ (rs : List Row) (f : List Nat), (∀ r ∈ rs, r ∈ rows) → (∀ x ∈ f, C x) → ∀ x ∈ rs.foldl stp f, C x
  | [], f, _, h => h
  | r :: rs, f, hs, h => by
    rw [List.foldl_cons]
    refine fold_least hC rs (stp f r) (fun r' hr' => hs r' (.tail _ hr')) ?_
    rcases stp_cases f r with ⟨e, _⟩ | ⟨e, h1, _⟩
    · rw [e]; exact h
    · rw [e]
      intro x hx
      rcases List.mem_append.mp hx with hx | hx
      · exact h x hx
      · rw [List.mem_singleton.mp hx]; exact hC r (hs r (.head _)) (h _ h1)
theorem reach_least {rows : List Row} {C : Nat → Prop} (hC : ClosedP rows C) : ∀ (n : Nat) (f : List Nat), (∀ x ∈ f, C x) → ∀ x ∈ reachN rows n f, C x
  | 0, f, h => h
  | n + 1, f, h => reach_least hC n _ (fold_least hC rows f (fun _ h => h) h)
theorem fold_mono : ∀ (rs : List Row) (f : List Nat) (x : Nat), x ∈ f → x ∈ rs.foldl stp f
  | [], f, x, h => h
  | r :: rs, f, x, h => by
    rw [List.foldl_cons]
    refine fold_mono rs _ x ?_
    rcases stp_cases f r with ⟨e, _⟩ | ⟨e, _, _⟩
    · rw [e]; exact h
    · rw [e]; exact List.mem_append_left _ h
theorem reach_mono (rows : List Row) : ∀ (n : Nat) (f : List Nat) (x : Nat), x ∈ f → x ∈ reachN rows n f
  | 0, f, x, h => h
  | n + 1, f, x, h => reach_mono rows n _ x (fold_mono rows f x h)
theorem fold_nodup : ∀ (rs : List Row) (f : List Nat), f.Nodup → (rs.foldl stp f).Nodup
  | [], f, h => h
  | r :: rs, f, h => by
    rw [List.foldl_cons]
    refine fold_nodup rs _ ?_
    rcases stp_cases f r with ⟨e, _⟩ | ⟨e, _, h2⟩
    · rw [e]; exact h
    · rw [e, List.nodup_append]
      exact ⟨h, nodup1 _, fun a ha b hb z => h2 (by rw [← List.mem_singleton.mp hb, ← z]; exact ha)⟩
theorem reach_nodup (rows : List Row) : ∀ (n : Nat) (f : List Nat), f.Nodup → (reachN rows n f).Nodup
  | 0, f, h => h
  | n + 1, f, h => reach_nodup rows n _ (fold_nodup rows f h)
theorem fold_grow : ∀ (rs : List Row) (f : List Nat), f.length ≤ (rs.foldl stp f).length ∧ ((rs.foldl stp f).length = f.length → rs.foldl stp f = f ∧ ∀ r ∈ rs, r.1 ∈ f → r.2.1 ∈ f)
  | [], f => ⟨Nat.le_refl _, fun _ => ⟨rfl, fun _ h => by cases h⟩⟩
  | r :: rs, f => by
    rw [List.foldl_cons]
    obtain ⟨h1, h2⟩ := fold_grow rs (stp f r)
    rcases stp_cases f r with ⟨e, e2⟩ | ⟨e, _, _⟩
    · rw [e] at h1 h2 ⊢
      refine ⟨h1, fun hl => ?_⟩
      obtain ⟨q1, q2⟩ := h2 hl
      refine ⟨q1, fun s hs => ?_⟩
      rcases List.mem_cons.mp hs with rfl | hs
      · exact e2
      · exact q2 s hs
    · rw [e, List.length_append, List.length_singleton] at h1
      rw [e]
      exact ⟨by omega, fun hl => by omega⟩
theorem reach_fix {rows : List Row} {f : List Nat} (h : rows.foldl stp f = f) : ∀ n, reachN rows n f = f
  | 0 => rfl
  | n + 1 => by rw [reachN, h]; exact reach_fix h n
theorem reach_grow (rows : List Row) : ∀ (n : Nat) (f : List Nat), ClosedP rows (· ∈ reachN rows n f) ∨ f.length + n ≤ (reachN rows n f).length
  | 0, f => .inr (Nat.le_refl _)
  | n + 1, f => by
    rw [reachN]
    obtain ⟨h1, h2⟩ := fold_grow rows f
    by_cases hl : (rows.foldl stp f).length = f.length
    · obtain ⟨q1, q2⟩ := h2 hl
      left
      rw [q1, reach_fix q1]
      exact q2
    · rcases reach_grow rows n (rows.foldl stp f) with h | h
      · exact .inl h
      · exact .inr (by omega)
theorem nodup_le {n : Nat} {l : List Nat} (h : l.Nodup) (hb : ∀ x ∈ l, x < n) : l.length ≤ n := by
  have := List.Nodup.length_le_of_subset h (l₂ := List.range n) fun x hx => List.mem_range.mpr (hb x hx)
  rwa [List.length_range] at this
theorem reach_closed {many : Nat} {rows : List Row} (hok : ∀ r ∈ rows, RowOk many r) {p : Nat} (hp : p < many) : ClosedP rows (· ∈ reachN rows many [p]) := by
  rcases reach_grow rows many [p] with h | h
  · exact h
  · have h1 := reach_nodup rows many [p] (nodup1 _)
    have h2 : ∀ x ∈ reachN rows many [p], x < many := reach_least (C := fun x => x < many) (fun r hr _ => (hok r hr).2.1) many [p] (fun x hx => by rw [List.mem_singleton.mp hx]; exact hp)
    have h3 := nodup_le h1 h2
    rw [List.length_singleton] at h
    omega
def RoundP (rows : List Row) : Prop := ∀ r ∈ rows, ∀ C : Nat → Prop, ClosedP rows C → C r.2.1 → C r.1
def PC (rows : List Row) (L S : List Nat) : Prop := ∀ k ∈ S, ∀ j, j < rows.length → (rowK rows k).1 ∉ L → (rowK rows j).2.1 = (rowK rows k).1 → j ∈ S
theorem rowK_mem {rows : List Row} {k : Nat} (h : k < rows.length) : rowK rows k ∈ rows := by
  unfold rowK
  rw [row_getD h]
  exact List.getElem_mem h
theorem mem_rowK {rows : List Row} {r : Row} (h : r ∈ rows) : ∃ k, k < rows.length ∧ rowK rows k = r := by
  obtain ⟨k, hk, e⟩ := List.getElem_of_mem h
  refine ⟨k, hk, ?_⟩
  unfold rowK
  rw [row_getD hk, e]
theorem harm_iff {rows : List Row} {lot : List Nat} {p : Nat} : harmB rows lot p = true ↔ (∃ k, k < rows.length ∧ (rowK rows k).1 = p ∧ k ∈ lot) ∧ ∃ j, j < rows.length ∧ (rowK rows j).2.1 = p ∧ j ∉ lot := by
  unfold harmB gvL gtL
  rw [Bool.and_eq_true, List.any_eq_true, Bool.not_eq_true', List.all_eq_false]
  constructor
  · rintro ⟨⟨k, h1, h2⟩, ⟨j, h3, h4⟩⟩
    obtain ⟨a1, a2⟩ := mem_fromL.mp h1
    obtain ⟨b1, b2⟩ := mem_fromL.mp h3
    exact ⟨⟨k, a1, of_decide_eq_true a2, of_decide_eq_true h2⟩, ⟨j, b1, of_decide_eq_true b2, fun z => h4 (decide_eq_true z)⟩⟩
  · rintro ⟨⟨k, h1, h2, h3⟩, ⟨j, h4, h5, h6⟩⟩
    exact ⟨⟨k, mem_fromL.mpr ⟨h1, decide_eq_true h2⟩, decide_eq_true h3⟩, ⟨j, mem_fromL.mpr ⟨h4, decide_eq_true h5⟩, fun z => h6 (of_decide_eq_true z)⟩⟩
theorem closed_iff {many : Nat} {rows : List Row} {L S : List Nat} (hok : ∀ r ∈ rows, RowOk many r) (hS : ∀ x ∈ S, x < rows.length) : closedB many rows L S = true ↔ PC rows L S := by
  unfold closedB firstH
  rw [Option.isNone_iff_eq_none, List.find?_eq_none]
  constructor
  · intro h k hk j hj hL e
    by_cases hjS : j ∈ S
    · exact hjS
    · have hk2 := hS k hk
      have := h (rowK rows k).1 (List.mem_range.mpr (hok _ (rowK_mem hk2)).1)
      exact absurd (by rw [Bool.and_eq_true]; exact ⟨by rw [decide_eq_false hL]; rfl, harm_iff.mpr ⟨⟨k, hk2, rfl, hk⟩, ⟨j, hj, e, hjS⟩⟩⟩) this
  · intro h p _ z
    rw [Bool.and_eq_true] at z
    obtain ⟨⟨k, h1, h2, h3⟩, ⟨j, h4, h5, h6⟩⟩ := harm_iff.mp z.2
    have hp : p ∉ L := fun q => by rw [decide_eq_true q] at z; exact Bool.false_ne_true z.1
    exact h6 (h k h3 j h4 (by rw [h2]; exact hp) (by rw [h5, h2]))
theorem mem_closedL {many : Nat} {rows : List Row} {L S : List Nat} : S ∈ closedL many rows L ↔ Lot rows.length S ∧ closedB many rows L S = true := by
  unfold closedL
  rw [List.mem_filter, show S ∈ sortL (lotsL rows.length) ↔ S ∈ lotsL rows.length from (List.mergeSort_perm (lotsL rows.length) leL).mem_iff, mem_lots]
theorem nogain_iff {many : Nat} {rows : List Row} : (gainLg many rows).isNone = true ↔ ∀ L, Lot many L → ∀ S, Lot rows.length S → closedB many rows L S = true → gainB rows L S = false := by
  unfold gainLg
  rw [Option.isNone_iff_eq_none, List.find?_eq_none]
  constructor
  · intro h L hL S hS hc
    have := h L ((List.mergeSort_perm (lotsL many) leL).mem_iff.mpr ((mem_lots _ _).mpr hL))
    rw [Option.not_isSome_iff_eq_none] at this
    unfold gainOf at this
    rw [List.find?_eq_none] at this
    have := this S (mem_closedL.mpr ⟨hS, hc⟩)
    cases q : gainB rows L S
    · rfl
    · exact absurd q this
  · intro h L hL
    rw [Option.not_isSome_iff_eq_none]
    unfold gainOf
    rw [List.find?_eq_none]
    intro S hS
    obtain ⟨h1, h2⟩ := mem_closedL.mp hS
    rw [h L ((mem_lots _ _).mp ((List.mergeSort_perm (lotsL many) leL).mem_iff.mp hL)) S h1 h2]
    exact Bool.false_ne_true
theorem all_iff {l lot : List Nat} : (l.all fun k => decide (k ∈ lot)) = true ↔ ∀ k ∈ l, k ∈ lot := by
  rw [List.all_eq_true]
  exact ⟨fun h k hk => of_decide_eq_true (h k hk), fun h k hk => decide_eq_true (h k hk)⟩
theorem any_iff {l lot : List Nat} : (l.any fun k => decide (k ∈ lot)) = true ↔ ∃ k ∈ l, k ∈ lot := by
  rw [List.any_eq_true]
  exact ⟨fun ⟨k, hk, h⟩ => ⟨k, hk, of_decide_eq_true h⟩, fun ⟨k, hk, h⟩ => ⟨k, hk, decide_eq_true h⟩⟩
theorem mem_out {rows : List Row} {L : List Nat} {k : Nat} : k ∈ outL rows L ↔ k < rows.length ∧ (rowK rows k).1 ∉ L ∧ (rowK rows k).2.1 ∈ L := by
  unfold outL
  rw [mem_fromL, Bool.and_eq_true, Bool.not_eq_true', decide_eq_false_iff_not, decide_eq_true_iff]
theorem mem_giv {rows : List Row} {L : List Nat} {k : Nat} : k ∈ givL rows L ↔ k < rows.length ∧ (rowK rows k).1 ∈ L ∧ (rowK rows k).2.1 ∉ L := by
  unfold givL
  rw [mem_fromL, Bool.and_eq_true, Bool.not_eq_true', decide_eq_false_iff_not, decide_eq_true_iff]
theorem gain_iff {rows : List Row} {L S : List Nat} : gainB rows L S = true ↔ ((∀ k ∈ outL rows L, k ∈ S) ∧ ∃ k ∈ givL rows L, k ∉ S) ∨ ((¬ ∀ k ∈ outL rows L, k ∈ S) ∧ (∀ k ∈ givL rows L, k ∉ S) ∧ ∃ k ∈ outL rows L, k ∈ S) := by
  have h1 : allG rows L S = true ↔ _ := all_iff
  have h2 : allV rows L S = true ↔ _ := all_iff
  have h3 : anyG rows L S = true ↔ _ := any_iff
  have h4 : anyV rows L S = true ↔ _ := any_iff
  unfold gainB
  cases q : allG rows L S with
  | true =>
    have q1 := h1.mp q
    show (!allV rows L S) = true ↔ _
    rw [Bool.not_eq_true', ← Bool.not_eq_true, h2]
    constructor
    · intro h
      left
      refine ⟨q1, ?_⟩
      exact Classical.byContradiction fun z => h fun k hk => Classical.byContradiction fun w => z ⟨k, hk, w⟩
    · rintro (⟨_, k, hk, hn⟩ | ⟨z, _⟩)
      · exact fun h => hn (h k hk)
      · exact absurd q1 z
  | false =>
    have q1 : ¬ ∀ k ∈ outL rows L, k ∈ S := fun z => by rw [h1.mpr z] at q; cases q
    show (!anyV rows L S && anyG rows L S) = true ↔ _
    rw [Bool.and_eq_true, Bool.not_eq_true', ← Bool.not_eq_true, h4, h3]
    constructor
    · rintro ⟨a, b⟩
      exact .inr ⟨q1, fun k hk hs => a ⟨k, hk, hs⟩, b⟩
    · rintro (⟨z, _⟩ | ⟨_, a, b⟩)
      · exact absurd z q1
      · exact ⟨fun ⟨k, hk, hs⟩ => a k hk hs, b⟩
theorem nogain_round {many : Nat} {rows : List Row} (hok : ∀ r ∈ rows, RowOk many r) : (gainLg many rows).isNone = true ↔ RoundP rows := by
  rw [nogain_iff]
  constructor
  · intro h r hr C hC h1
    refine Classical.byContradiction fun h2 => ?_
    obtain ⟨k, hk, ek⟩ := mem_rowK hr
    have hLm : ∀ x, x ∈ (List.range many).filter (fun x => @decide (¬ C x) (Classical.propDecidable _)) ↔ x < many ∧ ¬ C x := fun x => by
      rw [List.mem_filter, List.mem_range, @decide_eq_true_iff _ (Classical.propDecidable _)]
    have hL := fil_lot many (fun x => @decide (¬ C x) (Classical.propDecidable _))
    have hg := h _ hL [] ⟨fun _ z => (List.not_mem_nil z).elim, List.Pairwise.nil⟩ (closed_nil _ _ _)
    have : gainB rows ((List.range many).filter fun x => @decide (¬ C x) (Classical.propDecidable _)) [] = true := by
      rw [gain_iff]
      left
      refine ⟨fun j hj => ?_, k, mem_giv.mpr ⟨hk, ?_, ?_⟩, fun z => (List.not_mem_nil z).elim⟩
      · obtain ⟨j1, j2, j3⟩ := mem_out.mp hj
        have hrj := rowK_mem j1
        have c1 : C (rowK rows j).1 := Classical.byContradiction fun z => j2 ((hLm _).mpr ⟨(hok _ hrj).1, z⟩)
        exact absurd (hC _ hrj c1) ((hLm _).mp j3).2
      · rw [ek]; exact (hLm _).mpr ⟨(hok r hr).1, h2⟩
      · rw [ek]; exact fun z => ((hLm _).mp z).2 h1
    rw [this] at hg
    cases hg
  · intro h L hL S hS hc
    have hP := (closed_iff hok hS.1).mp hc
    cases q : gainB rows L S with
    | false => rfl
    | true =>
      exfalso
      rcases gain_iff.mp q with ⟨hall, k, hk, hkS⟩ | ⟨hnot, hno, e, he, heS⟩
      · obtain ⟨k1, k2, k3⟩ := mem_giv.mp hk
        have := h _ (rowK_mem k1) (fun x => x ∉ L ∧ ∃ j, j < rows.length ∧ (rowK rows j).2.1 = x ∧ j ∉ S) (fun s hs hC => by
          obtain ⟨c1, j, j1, j2, j3⟩ := hC
          obtain ⟨i, i1, rfl⟩ := mem_rowK hs
          have hiS : i ∉ S := fun z => j3 (hP i z j j1 c1 j2)
          refine ⟨fun z => hiS (hall i (mem_out.mpr ⟨i1, c1, z⟩)), i, i1, rfl, hiS⟩) ⟨k3, k, k1, rfl, hkS⟩
        exact this.1 k2
      · obtain ⟨e1, e2, e3⟩ := mem_out.mp he
        have := h _ (rowK_mem e1) (fun x => x ∈ L ∨ ¬ ∃ j, j < rows.length ∧ (rowK rows j).1 = x ∧ j ∈ S) (fun s hs hC => by
          obtain ⟨i, i1, rfl⟩ := mem_rowK hs
          refine Classical.byContradiction fun z => ?_
          have z1 : (rowK rows i).2.1 ∉ L := fun w => z (.inl w)
          obtain ⟨j, j1, j2, j3⟩ : ∃ j, j < rows.length ∧ (rowK rows j).1 = (rowK rows i).2.1 ∧ j ∈ S := Classical.byContradiction fun w => z (.inr w)
          have hiS : i ∈ S := hP j j3 i i1 (by rw [j2]; exact z1) j2.symm
          rcases hC with hC | hC
          · exact hno i (mem_giv.mpr ⟨i1, hC, z1⟩) hiS
          · exact hC ⟨i, i1, rfl, hiS⟩) (.inl e3)
        rcases this with w | w
        · exact e2 w
        · exact w ⟨e, e1, rfl, heS⟩
theorem scal_int {m : G.Env → R D} {ρ : G.Env} {i : Int} (h : m ρ = .ok (.int i)) : mScal m ρ = .ok (.int i) := by
  unfold mScal
  rw [h]
  rfl
theorem mut_extend {ms : G.Env → R (List D)} {i : Nat} {ρ : G.Env} {xs ys : List D} (h1 : ρ[i]? = some (some (.lst xs))) (h2 : ms ρ = .ok [.lst ys]) (h3 : xs.length + ys.length ≤ 16777216) : mMut "list" i dExtend ms kDrop ρ = .nx (ρ.set i (some (.lst (xs ++ ys)))) := by
  unfold mMut
  rw [h1]
  dsimp only
  rw [if_pos (show tyOk "list" (.lst xs) = true from rfl), h2]
  show (match dExtend (.lst xs) [.lst ys] with | .ok (d', e) => kDrop e (ρ.set i (some d')) | _ => .bad) = _
  have e : dExtend (.lst xs) [.lst ys] = .ok (.lst (xs ++ ys), .non) := by
    unfold dExtend
    dsimp only
    rw [if_pos (by rw [sizeLine_eq]; exact h3)]
  rw [e]
  rfl
theorem mem_gtL {rows : List Row} {p k : Nat} : k ∈ gtL rows p ↔ k < rows.length ∧ (rowK rows k).2.1 = p := by
  unfold gtL
  rw [mem_fromL, decide_eq_true_iff]
theorem sortI_lst (l : List Nat) : D.sortI' (.lst (l.map nI)) = .ok (.lst (sortD (l.map nI))) :=
  (show D.sortI' (.lst (l.map nI)) = D.sortI' (.tup (l.map nI)) from rfl).trans (sortI'_ok l)
theorem lot_ok1 (l : List Nat) : okD 1 (lotD l) = true := nI_ok (n := 0) l
/-- a transfer of the web, read by its number -/
theorem rowAt {many : Nat} {rows : List Row} {ρ : G.Env} {i j : Nat} {k : Nat} (h0 : ρ[i]? = some (some (webD many rows))) (h1 : ρ[j]? = some (some (nI k))) (hk : k < rows.length) : m2 D.ix (m2 D.ix (mVar i) (mC (.int 1))) (mVar j) ρ = .ok (rowD (rowK rows k)) := by
  have e0 : mVar i ρ = .ok (webD many rows) := by unfold mVar; rw [h0]
  have e1 : mVar j ρ = .ok (nI k) := by unfold mVar; rw [h1]
  exact m2_ok (m2_ok e0 rfl (web1 _ _)) e1 ((rows_ix hk).trans (by rw [rowK, row_getD hk]))
theorem f_gainHarmed {many : Nat} {rows : List Row} {L lot : List Nat} (v : Valid many rows) (hl : Lot many L) (hs : Lot rows.length lot) : m_gain_harmed.fn [webD many rows, lotD L, lotD lot] = .ok (optD (firstH many rows L lot)) := by
  have hm := v.m5
  have hr := v.r10
  rw [fn_run rfl]
  show (b_gain_harmed [some (webD many rows), some (lotD L), some (lotD lot)]).res = _
  unfold b_gain_harmed
  refine seq_res (drop_nx (callN_ok (cons_ok rfl rfl) rfl (f_needWeb v))) ?_
  refine seq_res (drop_nx (callN_ok (cons_ok rfl (cons_ok rfl rfl)) rfl (f_needLeague (by omega) hl))) ?_
  refine seq_res (drop_nx (callN_ok (cons_ok rfl (cons_ok rfl rfl)) rfl (f_needLotG (by omega) hs))) ?_
  exact ret_res (callN_ok (cons_ok rfl (cons_ok rfl (cons_ok rfl rfl))) rfl (f_firstHarmed (by omega) (by omega) L lot))
def keepL (many : Nat) (L : List Nat) : List Nat := (List.range many).filter fun p => !decide (p ∈ L)
def hurtL (many : Nat) (rows : List Row) (L S : List Nat) : List Nat := (keepL many L).filter fun p => harmB rows S p
theorem firstH_eq (many : Nat) (rows : List Row) (L S : List Nat) : firstH many rows L S = (hurtL many rows L S).head? := by
  unfold firstH hurtL keepL
  rw [List.filter_filter, ← List.head?_filter]
  exact congrArg List.head? (List.filter_congr fun p _ => Bool.and_comm _ _)
theorem closedB_hurt (many : Nat) (rows : List Row) (L S : List Nat) : closedB many rows L S = (hurtL many rows L S).isEmpty := by
  unfold closedB
  rw [firstH_eq]
  cases hurtL many rows L S <;> rfl
theorem and_f {a b : G.Env → R Bool} {ρ : G.Env} (h : a ρ = .ok false) : mAnd a b ρ = .ok false := by
  unfold mAnd
  rw [h]
  rfl
theorem lot_ext {n : Nat} {a b : List Nat} (ha : Lot n a) (hb : Lot n b) (h : ∀ x, x ∈ a ↔ x ∈ b) : a = b := by
  have p : a.Perm b := (List.perm_ext_iff_of_nodup ha.nodup hb.nodup).mpr h
  have e1 := sortI_lot p hb.2
  have e2 := sortI_lot (List.Perm.refl a) ha.2
  exact map_nI_inj (e2.symm.trans e1)
abbrev prD (p : Nat × Nat) : D := lotD [p.1, p.2]
abbrev dealsD (m : Nat) (ps : List (Nat × Nat)) : D := .tup [nI m, .tup (ps.map prD)]
def dealsBody : G.Env → Out := (mSeq (mSet 6 (m2 D.mod (m2 D.ix (mVar 3) (m2 D.add (mC (.int 1)) (m2 D.mul (mC (.int 2)) (mVar 5)))) (mVar 2))) (mMut "list" 4 dAppend (mCons (mTup (mCons (mVar 6) (mCons (m2 D.mod (mCall (d1 D.toInt) (mCons (m2 D.add (m2 D.add (mVar 6) (mC (.int 1))) (m2 D.mod (m2 D.ix (mVar 3) (m2 D.add (mC (.int 2)) (m2 D.mul (mC (.int 2)) (mVar 5)))) (m2 D.sub (mVar 2) (mC (.int 1))))) mNil)) (mVar 2)) mNil))) mNil) kDrop))
theorem deals_loop {m : Nat} {dg : List Nat} {c0 c1 : Option D} (hm : 2 ≤ m) (hm6 : m ≤ 6) (hd : dg.length = 40) : ∀ (ks : List Nat) (found : List (Nat × Nat)) (v5 v6 : Option D), (∀ k ∈ ks, k < 7) → found.length + ks.length ≤ 100 → (∀ p ∈ found, p.1 < m ∧ p.2 < m ∧ p.1 ≠ p.2) →
    ∃ (out : List (Nat × Nat)) (w5 w6 : Option D), loopD (stepD (gnName 5) dealsBody) (ks.map nI) [c0, c1, some (nI m), some (.lst (dg.map nI)), some (.lst (found.map prD)), v5, v6] = .nx [c0, c1, some (nI m), some (.lst (dg.map nI)), some (.lst (out.map prD)), w5, w6] ∧ out.length = found.length + ks.length ∧ ∀ p ∈ out, p.1 < m ∧ p.2 < m ∧ p.1 ≠ p.2
  | [], found, v5, v6, _, _, h => ⟨found, v5, v6, rfl, rfl, h⟩
  | k :: ks, found, v5, v6, hk, hl, h => by
    have hk7 := hk k (.head _)
    rw [List.length_cons] at hl
    obtain ⟨a, ea⟩ : ∃ a, a = dg[1 + 2 * k]'(by omega) % m := ⟨_, rfl⟩
    obtain ⟨x, ex⟩ : ∃ x, x = dg[2 + 2 * k]'(by omega) % (m - 1) := ⟨_, rfl⟩
    have ha : a < m := by rw [ea]; exact Nat.mod_lt _ (by omega)
    have hx : x < m - 1 := by rw [ex]; exact Nat.mod_lt _ (by omega)
    obtain ⟨out, w5, w6, e, e2, e3⟩ := deals_loop (c0 := c0) (c1 := c1) hm hm6 hd ks (found ++ [(a, (a + 1 + x) % m)]) (some (nI k)) (some (nI a)) (fun j hj => hk j (.tail _ hj)) (by rw [List.length_append, List.length_singleton]; omega) (fun p hp => by
      rcases List.mem_append.mp hp with hp | hp
      · exact h p hp
      · rw [List.mem_singleton.mp hp]; exact ⟨ha, Nat.mod_lt _ (by omega), taker_ne ha hx⟩)
    refine ⟨out, w5, w6, ?_, by rw [e2, List.length_append, List.length_singleton, List.length_cons]; omega, e3⟩
    rw [List.map_cons]
    refine loop_cons (ρ1 := [c0, c1, some (nI m), some (.lst (dg.map nI)), some (.lst (found.map prD)), some (nI k), v6]) (ρ2 := [c0, c1, some (nI m), some (.lst (dg.map nI)), some (.lst ((found ++ [(a, (a + 1 + x) % m)]).map prD)), some (nI k), some (nI a)]) rfl ?_ e
    have s1 : mSet 6 (m2 D.mod (m2 D.ix (mVar 3) (m2 D.add (mC (.int 1)) (m2 D.mul (mC (.int 2)) (mVar 5)))) (mVar 2)) [c0, c1, some (nI m), some (.lst (dg.map nI)), some (.lst (found.map prD)), some (nI k), v6] = .nx [c0, c1, some (nI m), some (.lst (dg.map nI)), some (.lst (found.map prD)), some (nI k), some (nI a)] :=
      set_nx (Eq.trans (m2_ok (m2_ok rfl (m2_ok rfl (m2_ok rfl rfl (mulN (a := 2) (b := k) (by omega))) rfl) (ixL (k := 1 + 2 * k) (by omega))) rfl (modN (by omega))) (by rw [ea]))
    refine seq_nx s1 (Eq.trans (mut_append (xs := found.map prD) (y := prD (a, (a + 1 + x) % m)) rfl (cons_ok (mTup_ok (cons_ok rfl (cons_ok (m2_ok (int_ok (m2_ok (m2_ok rfl rfl rfl) (m2_ok (m2_ok rfl (m2_ok rfl (m2_ok rfl rfl (mulN (a := 2) (b := k) (by omega))) rfl) (ixL (k := 2 + 2 * k) (by omega))) (m2_ok rfl rfl (subN (by omega))) (Eq.trans (modN (by omega)) (by rw [← ex]))) rfl)) rfl (modN (a := a + 1 + x) (by omega))) rfl)) (by show 2 ≤ 16777216; omega)) rfl) (by rw [List.length_map]; omega)) ?_)
    rw [show (found ++ [(a, (a + 1 + x) % m)]).map prD = found.map prD ++ [prD (a, (a + 1 + x) % m)] from List.map_append]
    rfl
theorem f_deals (cell more : Int) : ∃ (m : Nat) (ps : List (Nat × Nat)), m__law_deals.fn [.int cell, .int more] = .ok (dealsD m ps) ∧ m ≤ 6 ∧ 1 ≤ ps.length ∧ ps.length ≤ 7 ∧ ∀ p ∈ ps, p.1 < m ∧ p.2 < m ∧ p.1 ≠ p.2 := by
  obtain ⟨l1, e1, hl1, hb1⟩ := f_rowN cell 1 5 (by omega) (by omega) (by omega)
  have hx0 := hb1 (l1[0]'(by omega)) (List.getElem_mem _)
  obtain ⟨dg, e3, hd, _⟩ := f_rowN more 40 60 (by omega) (by omega) (by omega)
  obtain ⟨m, em⟩ : ∃ m, m = 2 + l1[0]'(by omega) := ⟨_, rfl⟩
  have hq : dg[0]'(by omega) % 7 < 7 := Nat.mod_lt _ (by omega)
  obtain ⟨out, w5, w6, e, e2, e4⟩ := deals_loop (c0 := some (.int cell)) (c1 := some (.int more)) (m := m) (by omega) (by omega) hd (List.range (1 + dg[0]'(by omega) % 7)) [] none none (fun k hk => by have := List.mem_range.mp hk; omega) (by rw [List.length_range, List.length_nil]; omega) (fun _ h => nomatch h)
  rw [List.length_range, List.length_nil] at e2
  refine ⟨m, out, ?_, by omega, by omega, by omega, e4⟩
  rw [fn_run rfl]
  show (b__law_deals [some (.int cell), some (.int more), none, none, none, none, none]).res = _
  unfold b__law_deals
  refine seq_res (ρ' := [some (.int cell), some (.int more), some (nI m), none, none, none, none]) (set_nx (d := nI m) (Eq.trans (m2_ok rfl (m2_ok (callN_ok (cons_ok rfl (cons_ok rfl (cons_ok rfl rfl))) rfl e1) rfl (ixL (k := 0) (by omega))) rfl) (by rw [em]; rfl))) ?_
  refine seq_res (ρ' := [some (.int cell), some (.int more), some (nI m), some (.lst (dg.map nI)), none, none, none]) (set_nx (callN_ok (cons_ok rfl (cons_ok rfl (cons_ok rfl rfl))) rfl e3)) ?_
  refine seq_res (ρ' := [some (.int cell), some (.int more), some (nI m), some (.lst (dg.map nI)), some (.lst []), none, none]) (set_nx (mLst_ok rfl (by decide))) ?_
  refine seq_res (for_ok (sq_ok (m2_ok rfl (m2_ok (m2_ok rfl rfl (ixL (k := 0) (by omega))) rfl (modN (b := 7) (by omega))) rfl) (range1_ok (n := 1 + dg[0]'(by omega) % 7) (by omega))) e) ?_
  exact ret_res (mTup_ok (cons_ok rfl (cons_ok (call1_ok rfl rfl) rfl)) (by show 2 ≤ 16777216; omega))
structure DOk (m : Nat) (ps : List (Nat × Nat)) : Prop where
  m2 : 2 ≤ m
  m6 : m ≤ 6
  p1 : 1 ≤ ps.length
  p5 : ps.length ≤ 5
  ok : ∀ p ∈ ps, p.1 < m ∧ p.2 < m ∧ p.1 ≠ p.2
  all : ∀ q, q < m → ∃ p ∈ ps, p.1 = q ∨ p.2 = q
def addN (f : List Nat) (x : Nat) : List Nat := if x ∈ f then f else f ++ [x]
theorem mem_addN {f : List Nat} {x y : Nat} : y ∈ addN f x ↔ y ∈ f ∨ y = x := by
  unfold addN
  by_cases h : x ∈ f
  · rw [if_pos h]; exact ⟨.inl, fun z => z.elim id fun e => by rw [e]; exact h⟩
  · rw [if_neg h, List.mem_append, List.mem_singleton]
theorem addN_nodup {f : List Nat} {x : Nat} (h : f.Nodup) : (addN f x).Nodup := by
  unfold addN
  by_cases q : x ∈ f
  · rw [if_pos q]; exact h
  · rw [if_neg q, List.nodup_append]
    exact ⟨h, nodup1 _, fun a ha b hb e => q (by rw [← List.mem_singleton.mp hb, ← e]; exact ha)⟩
theorem addN_len (f : List Nat) (x : Nat) : (addN f x).length ≤ f.length + 1 := by
  unfold addN
  split
  · omega
  · rw [List.length_append, List.length_singleton]; omega
def namesL : List (Nat × Nat) → List Nat → List Nat
  | [], f => f
  | p :: ps, f => namesL ps (addN (addN f p.1) p.2)
theorem mem_names : ∀ {ps : List (Nat × Nat)} {f : List Nat} {y : Nat}, y ∈ namesL ps f ↔ y ∈ f ∨ ∃ p ∈ ps, p.1 = y ∨ p.2 = y
  | [], f, y => ⟨.inl, fun z => z.elim id fun ⟨_, h, _⟩ => nomatch h⟩
  | p :: ps, f, y => by
    show y ∈ namesL ps (addN (addN f p.1) p.2) ↔ _
    rw [mem_names, mem_addN, mem_addN]
    constructor
    · rintro (((h | h) | h) | ⟨q, h1, h2⟩)
      · exact .inl h
      · exact .inr ⟨p, .head _, .inl h.symm⟩
      · exact .inr ⟨p, .head _, .inr h.symm⟩
      · exact .inr ⟨q, .tail _ h1, h2⟩
    · rintro (h | ⟨q, h1, h2⟩)
      · exact .inl (.inl (.inl h))
      · rcases List.mem_cons.mp h1 with e | h1
        · subst e
          rcases h2 with h2 | h2
          · exact .inl (.inl (.inr h2.symm))
          · exact .inl (.inr h2.symm)
        · exact .inr ⟨q, h1, h2⟩
theorem names_nodup : ∀ (ps : List (Nat × Nat)) (f : List Nat), f.Nodup → (namesL ps f).Nodup
  | [], _, h => h
  | _ :: ps, _, h => names_nodup ps _ (addN_nodup (addN_nodup h))
def named (d : List (Nat × Nat)) : List (Nat × Nat) := d.map fun p => ((namesL d []).idxOf p.1, (namesL d []).idxOf p.2)
theorem named_ok {m0 : Nat} {d : List (Nat × Nat)} (h6 : m0 ≤ 6) (h1 : 1 ≤ d.length) (h5 : d.length ≤ 5) (ok : ∀ p ∈ d, p.1 < m0 ∧ p.2 < m0 ∧ p.1 ≠ p.2) : DOk (namesL d []).length (named d) := by
  have hn := names_nodup d [] List.nodup_nil
  have hm : ∀ y, y ∈ namesL d [] ↔ ∃ p ∈ d, p.1 = y ∨ p.2 = y := fun y => mem_names.trans ⟨fun z => z.elim (fun h => nomatch h) id, .inr⟩
  have hlt := nodup_le hn (n := m0) fun x hx => by
    obtain ⟨p, hp, e | e⟩ := (hm x).mp hx
    · rw [← e]; exact (ok p hp).1
    · rw [← e]; exact (ok p hp).2.1
  have hi : ∀ {x}, x ∈ namesL d [] → (namesL d []).idxOf x < (namesL d []).length := fun h => List.idxOf_lt_length_iff.mpr h
  have hinj : ∀ {x y}, x ∈ namesL d [] → y ∈ namesL d [] → (namesL d []).idxOf x = (namesL d []).idxOf y → x = y := fun {x y} hx hy e => by
    have a := List.getElem_idxOf (hi hx)
    have b := List.getElem_idxOf (hi hy)
    have g : ∀ (i j : Nat) (hi : i < (namesL d []).length) (hj : j < (namesL d []).length), i = j → (namesL d [])[i] = (namesL d [])[j] := fun i j _ _ e => by subst e; rfl
    exact a.symm.trans ((g _ _ (hi hx) (hi hy) e).trans b)
  have hbody : ∀ p ∈ d, (namesL d []).idxOf p.1 < (namesL d []).length ∧ (namesL d []).idxOf p.2 < (namesL d []).length ∧ (namesL d []).idxOf p.1 ≠ (namesL d []).idxOf p.2 := fun p hp => by
    have m1 := (hm p.1).mpr ⟨p, hp, .inl rfl⟩
    have m2 := (hm p.2).mpr ⟨p, hp, .inr rfl⟩
    exact ⟨hi m1, hi m2, fun e => (ok p hp).2.2 (hinj m1 m2 e)⟩
  refine ⟨?_, by omega, by unfold named; rw [List.length_map]; exact h1, by unfold named; rw [List.length_map]; exact h5, fun q hq => ?_, fun q hq => ?_⟩
  · obtain ⟨p, hp⟩ := List.exists_mem_of_length_pos (l := d) (by omega)
    have := hbody p hp
    omega
  · obtain ⟨p, hp, rfl⟩ := List.mem_map.mp hq
    exact hbody p hp
  · obtain ⟨p, hp, e⟩ := (hm _).mp (List.getElem_mem hq)
    have ix : ∀ x, x = (namesL d [])[q] → (namesL d []).idxOf x = q := fun x e => by
      rw [e]
      exact hn.idxOf_getElem q hq
    refine ⟨_, List.mem_map.mpr ⟨p, hp, rfl⟩, ?_⟩
    rcases e with e | e
    · exact .inl (ix _ e)
    · exact .inr (ix _ e)
theorem idx_map : ∀ (l : List Nat) (a : Nat), (l.map fun (x : Nat) => (x : Int)).idxOf (a : Int) = l.idxOf a
  | [], _ => rfl
  | b :: l, a => by
    rw [List.map_cons, List.idxOf_cons, List.idxOf_cons, idx_map l a]
    have e : ((b : Int) == (a : Int)) = (b == a) := by
      by_cases h : b = a
      · subst h; rw [beq_self_eq_true, beq_self_eq_true]
      · rw [beq_eq_false_iff_ne.mpr h, beq_eq_false_iff_ne.mpr (show ¬ (b : Int) = (a : Int) by omega)]
    rw [e]
theorem index_ok {m1 : G.Env → R D} {m2 : G.Env → R (List D)} {ρ : G.Env} {l : List Nat} {a : Nat} (h1 : m1 ρ = .ok (.lst (l.map nI))) (h2 : m2 ρ = .ok [nI a]) (ha : a ∈ l) : mIndex m1 m2 ρ = .ok (nI (l.idxOf a)) := by
  unfold mIndex
  rw [h1]
  show (m2 ρ).bind (fun xs => D.indexI (l.map nI) xs) = _
  rw [h2]
  have em : l.map nI = (l.map fun (x : Nat) => (x : Int)).map D.int := by rw [List.map_map]; rfl
  show (match D.ints (l.map nI) with | some ns => if (a : Int) ∈ ns then R.ok (D.int (ns.idxOf (a : Int) : Nat)) else .bad | none => .bad) = _
  rw [em, ints_map]
  show (if (a : Int) ∈ (l.map fun (x : Nat) => (x : Int)) then R.ok (D.int ((l.map fun (x : Nat) => (x : Int)).idxOf (a : Int) : Nat)) else .bad) = _
  rw [if_pos (List.mem_map.mpr ⟨a, ha, rfl⟩), idx_map]
def rowsOf : List (Nat × Nat) → List Row
  | [] => []
  | p :: ps => (p.1, p.2, 1) :: (p.2, p.1, 2) :: rowsOf ps
theorem rowsOf_len : ∀ ps, (rowsOf ps).length = 2 * ps.length
  | [] => rfl
  | p :: ps => by rw [rowsOf, List.length_cons, List.length_cons, rowsOf_len ps, List.length_cons]; omega
theorem mem_rowsOf : ∀ {ps : List (Nat × Nat)} {r : Row}, r ∈ rowsOf ps ↔ ∃ p ∈ ps, r = (p.1, p.2, 1) ∨ r = (p.2, p.1, 2)
  | [], r => ⟨fun h => (nomatch h), fun ⟨_, h, _⟩ => (nomatch h)⟩
  | p :: ps, r => by
    rw [rowsOf, List.mem_cons, List.mem_cons, mem_rowsOf]
    constructor
    · rintro (h | h | ⟨q, h1, h2⟩)
      · exact ⟨p, .head _, .inl h⟩
      · exact ⟨p, .head _, .inr h⟩
      · exact ⟨q, .tail _ h1, h2⟩
    · rintro ⟨q, h1, h2⟩
      rcases List.mem_cons.mp h1 with e | h1
      · subst e
        exact h2.elim .inl fun z => .inr (.inl z)
      · exact .inr (.inr ⟨q, h1, h2⟩)
theorem rowsOf_at : ∀ (ps : List (Nat × Nat)) (i : Nat) (h : i < ps.length), rowK (rowsOf ps) (2 * i) = (ps[i].1, ps[i].2, 1) ∧ rowK (rowsOf ps) (2 * i + 1) = (ps[i].2, ps[i].1, 2)
  | p :: ps, 0, _ => ⟨rfl, rfl⟩
  | p :: ps, i + 1, h => by
    obtain ⟨h1, h2⟩ := rowsOf_at ps i (by simpa using h)
    have e1 : 2 * (i + 1) = 2 * i + 1 + 1 := by omega
    rw [e1]
    exact ⟨h1, h2⟩
theorem valid_of {m : Nat} {ps : List (Nat × Nat)} (d : DOk m ps) : Valid m (rowsOf ps) := by
  have hl := rowsOf_len ps
  have h1 := d.p1
  have h5 := d.p5
  refine ⟨d.m2, d.m6, by omega, by omega, fun r hr => ?_, fun q hq => ?_, fun q hq => ?_⟩
  · obtain ⟨p, hp, e | e⟩ := mem_rowsOf.mp hr
    · obtain ⟨a, b, c⟩ := d.ok p hp
      subst e; exact ⟨a, b, c, (by show 1 ≤ 1; omega), (by show 1 ≤ 9; omega)⟩
    · obtain ⟨a, b, c⟩ := d.ok p hp
      subst e; exact ⟨b, a, fun z => c z.symm, (by show 1 ≤ 2; omega), (by show 2 ≤ 9; omega)⟩
  · obtain ⟨p, hp, e | e⟩ := d.all q hq
    · exact ⟨_, mem_rowsOf.mpr ⟨p, hp, .inl rfl⟩, e⟩
    · exact ⟨_, mem_rowsOf.mpr ⟨p, hp, .inr rfl⟩, e⟩
  · obtain ⟨p, hp, e | e⟩ := d.all q hq
    · exact ⟨_, mem_rowsOf.mpr ⟨p, hp, .inr rfl⟩, e⟩
    · exact ⟨_, mem_rowsOf.mpr ⟨p, hp, .inl rfl⟩, e⟩
/-- the transfer the other way -/
theorem back_row {ps : List (Nat × Nat)} {r : Row} (h : r ∈ rowsOf ps) : ∃ r' ∈ rowsOf ps, r'.1 = r.2.1 ∧ r'.2.1 = r.1 := by
  obtain ⟨p, hp, e | e⟩ := mem_rowsOf.mp h
  · subst e; exact ⟨_, mem_rowsOf.mpr ⟨p, hp, .inr rfl⟩, rfl, rfl⟩
  · subst e; exact ⟨_, mem_rowsOf.mpr ⟨p, hp, .inl rfl⟩, rfl, rfl⟩
theorem round_of (ps : List (Nat × Nat)) : RoundP (rowsOf ps) := fun r hr C hC h => by
  obtain ⟨r', h1, h2, h3⟩ := back_row hr
  have := hC r' h1
  rw [h2, h3] at this
  exact this h
def fullL (rows : List Row) : List (List Nat) := rows.map fun r => gtL rows r.1
theorem full_at {rows : List Row} {k : Nat} (h : k < rows.length) : (fullL rows).getD k [] = gtL rows (rowK rows k).1 := by
  unfold fullL rowK
  rw [row_getD h, List.getD_eq_getElem?_getD, List.getElem?_map, List.getElem?_eq_getElem h]
  rfl
theorem full_ok (rows : List Row) : NOk rows (fullL rows) := by
  refine ⟨List.length_map _, fun k => ?_⟩
  by_cases h : k < rows.length
  · rw [full_at h]
    exact List.Sublist.refl _
  · rw [List.getD_eq_getElem?_getD, List.getElem?_eq_none (by unfold fullL; rw [List.length_map]; omega)]
    exact List.nil_sublist _
theorem f_needFull {many : Nat} {rows : List Row} (v : Valid many rows) : m_need_full.fn [webD many rows] = .ok (needsD (fullL rows)) := by
  have hr := v.r10
  rw [fn_run rfl]
  show (b_need_full [some (webD many rows), none, none, none]).res = _
  unfold b_need_full
  refine seq_res (drop_nx (callN_ok (cons_ok rfl rfl) rfl (f_needWeb v))) ?_
  refine ret_res (call1_ok (x := .lst ((fullL rows).map lotD)) (Eq.trans (mLc_mapN (emb := rowD) (l := rows) (fun r => lotD (gtL rows r.1)) (sq_ok (m2_ok rfl rfl (web1 _ _)) rfl) (by omega) fun r _ => call1_ok (mLc_fil (emb := fun i => .tup [nI i, rowD (rowK rows i)]) (l := List.range rows.length) (r := fun k => [some (webD many rows), some (rowD r), some (nI k), some (rowD (rowK rows k))]) (p := fun k => decide ((rowK rows k).2.1 = r.1)) (f := nI) (sq_ok (m2_ok rfl rfl (web1 _ _)) (enum_rows rows)) (by rw [List.length_range]; omega) fun k _ => ⟨rfl, b_ok (m2_ok (m2_ok rfl rfl (row1 _)) (m2_ok rfl rfl (row0 _)) (deqN _ _)), fun _ => rfl⟩) rfl) (by unfold fullL; rw [List.map_map]; rfl)) rfl)
def KC (needs : List (List Nat)) (S : List Nat) : Prop := ∀ k ∈ S, ∀ o ∈ needs.getD k [], o ∈ S
structure GrN (n : Nat) (needs : List (List Nat)) (k0 : Nat) (f : List Nat) (at_ : Nat) : Prop where
  nd : f.Nodup
  lt : ∀ x ∈ f, x < n
  le : at_ ≤ f.length
  dn : ∀ i, (h : i < f.length) → i < at_ → ∀ o ∈ needs.getD f[i] [], o ∈ f
  sub : k0 ∈ f
  min : ∀ S, KC needs S → k0 ∈ S → ∀ x ∈ f, x ∈ S
def newN (needs : List (List Nat)) (f : List Nat) (k : Nat) : List Nat := (needs.getD k []).filter fun o => !decide (o ∈ f)
theorem mem_newN {needs : List (List Nat)} {f : List Nat} {k o : Nat} : o ∈ newN needs f k ↔ o ∈ needs.getD k [] ∧ o ∉ f := by
  unfold newN
  rw [List.mem_filter, Bool.not_eq_true', decide_eq_false_iff_not]
theorem GrN.grow {n : Nat} {needs : List (List Nat)} {k0 : Nat} {f : List Nat} {a : Nat} (hn : ∀ k, (needs.getD k []).Nodup ∧ ∀ o ∈ needs.getD k [], o < n) (g : GrN n needs k0 f a) (h : a < f.length) : GrN n needs k0 (f ++ newN needs f f[a]) (a + 1) where
  nd := by
    rw [List.nodup_append]
    refine ⟨g.nd, (hn f[a]).1.sublist List.filter_sublist, fun x hx y hy e => ?_⟩
    subst e
    exact (mem_newN.mp hy).2 hx
  lt := fun x hx => by
    rcases List.mem_append.mp hx with hx | hx
    · exact g.lt x hx
    · exact (hn f[a]).2 x (mem_newN.mp hx).1
  le := by rw [List.length_append]; omega
  dn := fun i hi hia o ho => by
    have hif : i < f.length := by omega
    rw [List.getElem_append_left hif] at ho
    by_cases q : o ∈ f
    · exact List.mem_append_left _ q
    · by_cases e2 : i = a
      · subst e2
        exact List.mem_append_right _ (mem_newN.mpr ⟨ho, q⟩)
      · exact absurd (g.dn i hif (by omega) o ho) q
  sub := List.mem_append_left _ g.sub
  min := fun S hS hs x hx => by
    rcases List.mem_append.mp hx with hx | hx
    · exact g.min S hS hs x hx
    · exact hS f[a] (g.min S hS hs _ (List.getElem_mem _)) x (mem_newN.mp hx).1
def grnC : G.Env → R Bool := (mB (m2 D.lt (mVar 3) (mScal (mCall (d1 D.len) (mCons (mVar 2) mNil)))))
def grnB : G.Env → Out := (mSeq (mMut "list" 2 dExtend (mCons (mScalL (mLc [4] (mSq D.seq (m2 D.ix (mVar 0) (m2 D.ix (mVar 2) (mVar 3)))) (gnName 4) (mB (m2 D.notIn (mVar 4) (mVar 2))) (mVar 4))) mNil) kDrop) (mAug 3 (fun i j => i + j) (mC (.int 1))))
theorem grn_loop {n : Nat} {needs : List (List Nat)} {k0 : Nat} (nd : NdOk n needs) (hn : ∀ k, (needs.getD k []).Nodup ∧ ∀ o ∈ needs.getD k [], o < n) : ∀ (fuel N : Nat) (f : List Nat) (a : Nat) (v4 : Option D), GrN n needs k0 f a → n - a ≤ fuel → fuel + 2 ≤ N → ∃ (g : List Nat) (b : Nat), GrN n needs k0 g b ∧ g.length ≤ b ∧
    whileN grnC grnB N [some (needsD needs), some (nI k0), some (.lst (f.map nI)), some (nI a), v4] = .nx [some (needsD needs), some (nI k0), some (.lst (g.map nI)), some (nI b), v4] := by
  have h10 := nd.n10
  intro fuel
  induction fuel with
  | zero =>
    intro N f a v4 g hf hN
    obtain ⟨m, rfl⟩ : ∃ m, N = m + 1 := ⟨N - 1, by omega⟩
    have hfl := nodup_le g.nd g.lt
    have hge : f.length ≤ a := by omega
    refine ⟨f, a, g, hge, wh_end (b_ok (m2_ok rfl (scal_int (call1_ok rfl (len_lst _))) ?_))⟩
    rw [dlt, List.length_map, decide_eq_false (by omega)]
  | succ fuel ih =>
    intro N f a v4 g hf hN
    obtain ⟨m, rfl⟩ : ∃ m, N = m + 1 := ⟨N - 1, by omega⟩
    have hfl := nodup_le g.nd g.lt
    by_cases ha : a < f.length
    · have hk := g.lt f[a] (List.getElem_mem _)
      have hc : grnC [some (needsD needs), some (nI k0), some (.lst (f.map nI)), some (nI a), v4] = .ok true :=
        b_ok (m2_ok rfl (scal_int (call1_ok rfl (len_lst _))) (by rw [dlt, List.length_map, decide_eq_true (by omega)]))
      obtain ⟨g2, b, q1, q2, q3⟩ := ih m (f ++ newN needs f f[a]) (a + 1) v4 (g.grow hn ha) (by omega) (by omega)
      have he := nd.each f[a]
      have hnl : (newN needs f f[a]).length ≤ 10 := Nat.le_trans (List.length_filter_le _ _) he
      have em : mMut "list" 2 dExtend (mCons (mScalL (mLc [4] (mSq D.seq (m2 D.ix (mVar 0) (m2 D.ix (mVar 2) (mVar 3)))) (gnName 4) (mB (m2 D.notIn (mVar 4) (mVar 2))) (mVar 4))) mNil) kDrop [some (needsD needs), some (nI k0), some (.lst (f.map nI)), some (nI a), v4] = .nx [some (needsD needs), some (nI k0), some (.lst ((f ++ newN needs f f[a]).map nI)), some (nI a), v4] := by
        refine Eq.trans (mut_extend (xs := f.map nI) (ys := (newN needs f f[a]).map nI) rfl (cons_ok (scalL_ok (mLc_filN (emb := nI) (l := needs.getD f[a] []) (fun o => !decide (o ∈ f)) nI (sq_ok (m2_ok rfl (m2_ok rfl rfl (ixL ha)) (need_ix (by rw [nd.len]; exact hk))) rfl) (by omega) fun o _ => ⟨b_ok (m2_ok rfl rfl (notIn_natL _ _)), rfl⟩)) rfl) (by rw [List.length_map, List.length_map]; omega)) ?_
        rw [List.map_append]
        rfl
      exact ⟨g2, b, q1, q2, wh_step hc (seq_nx em rfl) q3⟩
    · refine ⟨f, a, g, by omega, wh_end (b_ok (m2_ok rfl (scal_int (call1_ok rfl (len_lst _))) ?_))⟩
      rw [dlt, List.length_map, decide_eq_false (by omega)]
structure GrownN (n : Nat) (needs : List (List Nat)) (k : Nat) (g : List Nat) : Prop where
  isL : Lot n g
  sub : k ∈ g
  kc : KC needs g
  min : ∀ S, KC needs S → k ∈ S → ∀ x ∈ g, x ∈ S
theorem f_grownBy {n : Nat} {needs : List (List Nat)} {k : Nat} (nd : NdOk n needs) (hn : ∀ k, (needs.getD k []).Nodup ∧ ∀ o ∈ needs.getD k [], o < n) (hk : k < n) : ∃ g, m_grown_by.fn [needsD needs, nI k] = .ok (lotD g) ∧ GrownN n needs k g := by
  have h10 := nd.n10
  have g0 : GrN n needs k [k] 0 := ⟨nodup1 _, fun x hx => by rw [List.mem_singleton.mp hx]; exact hk, Nat.zero_le _, fun i _ h => absurd h (by omega), .head _, fun S _ h x hx => by rw [List.mem_singleton.mp hx]; exact h⟩
  obtain ⟨g, b, q1, q2, q3⟩ := grn_loop nd hn n bigN [k] 0 none g0 (by omega) (by show n + 2 ≤ 1000000000; omega)
  have hm : ∀ x, x ∈ srt g ↔ x ∈ g := fun x => (srt_perm g).mem_iff
  refine ⟨srt g, ?_, ⟨fun x hx => q1.lt x ((hm x).mp hx), srt_pw q1.nd⟩, (hm k).mpr q1.sub, fun j hj o ho => ?_, fun S h1 h2 x hx => q1.min S h1 h2 x ((hm x).mp hx)⟩
  · rw [fn_run rfl]
    show (b_grown_by [some (needsD needs), some (nI k), none, none, none]).res = _
    unfold b_grown_by
    refine seq_res (ρ' := [some (needsD needs), some (nI k), some (.lst ([k].map nI)), none, none]) (set_nx (mLst_ok (cons_ok rfl rfl) (by show 1 ≤ 16777216; omega))) ?_
    refine seq_res (ρ' := [some (needsD needs), some (nI k), some (.lst ([k].map nI)), some (nI 0), none]) (set_nx rfl) ?_
    refine seq_res q3 ?_
    exact ret_res (call1_ok (call1_ok rfl (Eq.trans (sortI_lst g) (by rw [sortI_srt q1.nd]))) rfl)
  · obtain ⟨i, hi, e2⟩ := List.getElem_of_mem ((hm j).mp hj)
    exact (hm o).mpr (q1.dn i hi (by omega) o (by rw [e2]; exact ho))
def compOf (m : Nat) (rows : List Row) (p : Nat) : List Nat := (List.range rows.length).filter fun j => decide ((rowK rows j).1 ∈ reachN rows m [p])
theorem mem_comp {m : Nat} {rows : List Row} {p j : Nat} : j ∈ compOf m rows p ↔ j < rows.length ∧ (rowK rows j).1 ∈ reachN rows m [p] := by
  unfold compOf
  rw [List.mem_filter, List.mem_range, decide_eq_true_iff]
/-- each transfer has one the other way -/
def Both (rows : List Row) : Prop := ∀ r ∈ rows, ∃ r' ∈ rows, r'.1 = r.2.1 ∧ r'.2.1 = r.1
theorem back_at {rows : List Row} (hb : Both rows) {j : Nat} (hj : j < rows.length) : ∃ i, i < rows.length ∧ (rowK rows i).1 = (rowK rows j).2.1 ∧ (rowK rows i).2.1 = (rowK rows j).1 := by
  obtain ⟨r', h1, h2, h3⟩ := hb _ (rowK_mem hj)
  obtain ⟨i, hi, e⟩ := mem_rowK h1
  exact ⟨i, hi, by rw [e, h2], by rw [e, h3]⟩
theorem grown_comp {m : Nat} {rows : List Row} (hok : ∀ r ∈ rows, RowOk m r) (hb : Both rows) {k : Nat} (hk : k < rows.length) {g : List Nat} (h : GrownN rows.length (fullL rows) k g) : g = compOf m rows (rowK rows k).1 := by
  have hp := (hok _ (rowK_mem hk)).1
  have hcl := reach_closed hok hp
  refine lot_ext h.isL (fil_lot _ _) fun x => ⟨?_, ?_⟩
  · refine h.min _ (fun j hj o ho => ?_) (mem_comp.mpr ⟨hk, reach_mono rows m _ _ (.head _)⟩) x
    obtain ⟨h1, h2⟩ := mem_comp.mp hj
    rw [full_at h1] at ho
    obtain ⟨h3, h4⟩ := mem_gtL.mp ho
    obtain ⟨i, hi, e1, e2⟩ := back_at hb h3
    refine mem_comp.mpr ⟨h3, ?_⟩
    rw [← e2]
    exact hcl _ (rowK_mem hi) (by rw [e1, h4]; exact h2)
  · intro hx
    obtain ⟨h1, h2⟩ := mem_comp.mp hx
    -- of whom one transfer is in, all are
    have into : ∀ j ∈ g, ∀ o, o < rows.length → (rowK rows o).2.1 = (rowK rows j).1 → o ∈ g := fun j hj o ho e => h.kc j hj o (by rw [full_at (h.isL.1 j hj)]; exact mem_gtL.mpr ⟨ho, e⟩)
    have all : ∀ j ∈ g, ∀ o, o < rows.length → (rowK rows o).1 = (rowK rows j).1 → o ∈ g := fun j hj o ho e => by
      obtain ⟨i, hi, e1, e2⟩ := back_at hb ho
      have hig := into j hj i hi (by rw [e2, e])
      exact into i hig o ho e1.symm
    have := reach_least (rows := rows) (C := fun z => ∀ j, j < rows.length → (rowK rows j).1 = z → j ∈ g) (fun r hr hC => by
      obtain ⟨j, hj, e⟩ := mem_rowK hr
      subst e
      have hjg := hC j hj rfl
      obtain ⟨i, hi, e1, e2⟩ := back_at hb hj
      have hig := into j hjg i hi e2
      intro o ho e3
      exact all i hig o ho (e3.trans e1.symm)) m [(rowK rows k).1] (fun z hz j hj e => by
      rw [List.mem_singleton.mp hz] at e
      exact all k h.sub j hj e) _ h2
    exact this x h1 rfl
theorem reach_sym {m : Nat} {rows : List Row} (hok : ∀ r ∈ rows, RowOk m r) (hb : Both rows) {p x : Nat} (hx : x < m) (h : x ∈ reachN rows m [p]) : p ∈ reachN rows m [x] := by
  refine Classical.byContradiction fun hn => ?_
  have hc := reach_closed hok hx
  have := reach_least (rows := rows) (C := fun z => z ∉ reachN rows m [x]) (fun r hr h1 h2 => by
    obtain ⟨r', h3, h4, h5⟩ := hb r hr
    exact h1 (by rw [← h5]; exact hc r' h3 (by rw [h4]; exact h2))) m [p] (fun z hz => by rw [List.mem_singleton.mp hz]; exact hn) x h
  exact this (reach_mono rows m _ _ (.head _))
def addL (f : List (List Nat)) (x : List Nat) : List (List Nat) := if x ∈ f then f else f ++ [x]
theorem mem_addL {f : List (List Nat)} {x y : List Nat} : y ∈ addL f x ↔ y ∈ f ∨ y = x := by
  unfold addL
  by_cases h : x ∈ f
  · rw [if_pos h]; exact ⟨.inl, fun z => z.elim id fun e => by rw [e]; exact h⟩
  · rw [if_neg h, List.mem_append, List.mem_singleton]
theorem addL_nodup {f : List (List Nat)} {x : List Nat} (h : f.Nodup) : (addL f x).Nodup := by
  unfold addL
  by_cases q : x ∈ f
  · rw [if_pos q]; exact h
  · rw [if_neg q, List.nodup_append]
    exact ⟨h, nodup1 _, fun a ha b hb e => q (by rw [← List.mem_singleton.mp hb, ← e]; exact ha)⟩
theorem addL_len (f : List (List Nat)) (x : List Nat) : (addL f x).length ≤ f.length + 1 := by
  unfold addL
  split
  · omega
  · rw [List.length_append, List.length_singleton]; omega
def foldA (g : Nat → List Nat) (ks : List Nat) (f : List (List Nat)) : List (List Nat) := ks.foldl (fun a k => addL a (g k)) f
theorem mem_foldA {g : Nat → List Nat} : ∀ {ks : List Nat} {f : List (List Nat)} {y : List Nat}, y ∈ foldA g ks f ↔ y ∈ f ∨ ∃ k ∈ ks, y = g k
  | [], f, y => ⟨.inl, fun z => z.elim id fun ⟨_, h, _⟩ => (nomatch h)⟩
  | k :: ks, f, y => by
    show y ∈ foldA g ks (addL f (g k)) ↔ _
    rw [mem_foldA, mem_addL]
    constructor
    · rintro ((h | h) | ⟨j, h1, h2⟩)
      · exact .inl h
      · exact .inr ⟨k, .head _, h⟩
      · exact .inr ⟨j, .tail _ h1, h2⟩
    · rintro (h | ⟨j, h1, h2⟩)
      · exact .inl (.inl h)
      · rcases List.mem_cons.mp h1 with e | h1
        · subst e; exact .inl (.inr h2)
        · exact .inr ⟨j, h1, h2⟩
theorem foldA_nodup {g : Nat → List Nat} : ∀ (ks : List Nat) (f : List (List Nat)), f.Nodup → (foldA g ks f).Nodup
  | [], _, h => h
  | _ :: ks, _, h => foldA_nodup ks _ (addL_nodup h)
theorem foldA_len {g : Nat → List Nat} : ∀ (ks : List Nat) (f : List (List Nat)), (foldA g ks f).length ≤ f.length + ks.length
  | [], _ => Nat.le_refl _
  | k :: ks, f => by
    have h1 := foldA_len (g := g) ks (addL f (g k))
    have h2 := addL_len f (g k)
    rw [List.length_cons]
    show (foldA g ks (addL f (g k))).length ≤ _
    omega
def kL (l : List Nat) : List Key := l.map fun (x : Nat) => Sum.inl (x : Int)
def kD (l : List Nat) : DK := .t (kL l)
def bndD (kl : List (List Nat)) : D := .dic true (kl.map kD) (kl.map fun _ => .bl true)
theorem keyL_lot : ∀ l : List Nat, D.keyL (l.map nI) = some (kL l)
  | [] => rfl
  | x :: l => by
    rw [List.map_cons]
    unfold D.keyL
    rw [keyL_lot l]
    rfl
theorem lot_key (l : List Nat) : (lotD l).key = some (kD l) := by
  show (D.keyL (l.map nI)).map DK.t = _
  rw [keyL_lot]
  rfl
theorem kL_inj : ∀ {l m : List Nat}, kL l = kL m → l = m
  | [], [], _ => rfl
  | [], _ :: _, h => nomatch h
  | _ :: _, [], h => nomatch h
  | x :: l, y :: m, h => by
    unfold kL at h
    rw [List.map_cons, List.map_cons] at h
    injection h with h1 h2
    injection h1 with h1
    rw [kL_inj (l := l) (m := m) h2, Int.ofNat.inj h1]
theorem kD_inj {l m : List Nat} (h : kD l = kD m) : l = m := kL_inj (by injection h)
theorem dhas_kD (kl : List (List Nat)) (x : List Nat) : dhas (kl.map kD) (kD x) = decide (x ∈ kl) := bool_ext (by
  unfold dhas
  rw [List.any_map, List.any_eq_true, decide_eq_true_iff]
  constructor
  · rintro ⟨y, hy, e⟩
    exact (kD_inj (of_decide_eq_true e)) ▸ hy
  · exact fun h => ⟨x, h, decide_eq_true rfl⟩)
theorem dputV_same (x : DK) : ∀ kl : List (List Nat), dputV (kl.map kD) (kl.map fun _ => D.bl true) x (.bl true) = kl.map fun _ => D.bl true
  | [] => rfl
  | k :: kl => by
    rw [List.map_cons, List.map_cons]
    show (if kD k = x then D.bl true else D.bl true) :: dputV (kl.map kD) (kl.map fun _ => D.bl true) x (.bl true) = _
    rw [dputV_same x kl]
    split <;> rfl
theorem dput_kD (kl : List (List Nat)) (x : List Nat) : dput (kl.map kD) (kl.map fun _ => D.bl true) (kD x) (.bl true) = ((addL kl x).map kD, (addL kl x).map fun _ => D.bl true) := by
  unfold dput addL
  rw [dhas_kD]
  by_cases h : x ∈ kl
  · rw [if_pos (decide_eq_true h), if_pos h, dputV_same]
  · rw [if_neg (by rw [decide_eq_false h]; exact Bool.false_ne_true), if_neg h, List.map_append, List.map_append]
    rfl
theorem bnd_put {i : Nat} {ρ : G.Env} {kl : List (List Nat)} {x : List Nat} {mk mv : G.Env → R D} (h1 : ρ[i]? = some (some (bndD kl))) (hk : mk ρ = .ok (lotD x)) (hv : mv ρ = .ok (.bl true)) (hl : kl.length ≤ 1000) :
    mDPut i mk mv ρ = .nx (ρ.set i (some (bndD (addL kl x)))) := by
  unfold mDPut
  rw [hv]
  show (match ρ[i]? with
    | some (some (.dic t ks ds)) => oBind (mk ρ) ρ fun j => (match j.key with
      | some k => if isKind t k = true ∧ ks.length < sizeLine then Out.nx (ρ.set i (some (.dic t (dput ks ds k (.bl true)).1 (dput ks ds k (.bl true)).2))) else .bad
      | none => .bad)
    | _ => .bad) = _
  rw [h1]
  show oBind (mk ρ) ρ _ = _
  rw [hk]
  show (match (lotD x).key with
      | some k => if isKind true k = true ∧ (kl.map kD).length < sizeLine then Out.nx (ρ.set i (some (.dic true (dput (kl.map kD) (kl.map fun _ => D.bl true) k (.bl true)).1 (dput (kl.map kD) (kl.map fun _ => D.bl true) k (.bl true)).2))) else .bad
      | none => .bad) = _
  rw [lot_key]
  dsimp only
  rw [if_pos ⟨rfl, by rw [List.length_map, sizeLine_eq]; omega⟩, dput_kD]
  rfl
theorem kInts_kL : ∀ l : List Nat, kInts (kL l) = some (l.map fun (x : Nat) => (x : Int))
  | [] => rfl
  | x :: l => by
    show (kInts (kL l)).map ((x : Int) :: ·) = _
    rw [kInts_kL l]
    rfl
theorem allInts_kD : ∀ kl : List (List Nat), allInts (kl.map kD) = some (kl.map fun (l : List Nat) => l.map fun (x : Nat) => (x : Int))
  | [] => rfl
  | l :: kl => by
    rw [List.map_cons]
    show (match kInts (kL l), allInts (kl.map kD) with
      | some ns, some nss => some (ns :: nss)
      | _, _ => none) = _
    rw [kInts_kL, allInts_kD kl]
    rfl
theorem sortK_bnd {kl : List (List Nat)} (h : ∀ l ∈ kl, l ≠ []) : D.sortK (bndD kl) = .ok (.lst (sortD (kl.map lotD))) := by
  show (match allInts (kl.map kD) with
    | some (nss : List (List Int)) => if nss.all (fun (ns : List Int) => ns != []) = true then R.ok (D.lst (sortD (nss.map fun (ns : List Int) => D.tup (ns.map D.int)))) else .bad
    | none => .bad) = _
  rw [allInts_kD]
  dsimp only
  rw [if_pos, List.map_map]
  · congr 3
    refine List.map_congr_left fun l _ => ?_
    show D.tup ((l.map fun (x : Nat) => (x : Int)).map D.int) = lotD l
    rw [List.map_map]
    rfl
  · rw [List.all_map, List.all_eq_true]
    intro l hl
    have := h l hl
    cases l with
    | nil => exact absurd rfl this
    | cons a l => rfl
theorem sortT_bnd {kl : List (List Nat)} (h : ∀ l ∈ kl, l ≠ []) : D.sortT (.lst (kl.map lotD)) = .ok (.lst (sortD (kl.map lotD))) := by
  unfold D.sortT D.items
  dsimp only
  rw [if_pos]
  rw [isTI_lot, Bool.true_and, Bool.or_eq_true]
  refine .inr ?_
  rw [List.all_map, List.all_eq_true]
  intro l hl
  have := h l hl
  show ((lotD l).key' != []) = true
  rw [key_lot]
  cases l with
  | nil => exact absurd rfl this
  | cons a l => rfl
theorem two_mem {l : List Nat} {a b : Nat} (h1 : a ∈ l) (h2 : b ∈ l) (h : a ≠ b) : 1 < l.length := by
  match l, h1, h2 with
  | [x], h1, h2 => exact absurd ((List.mem_singleton.mp h1).trans (List.mem_singleton.mp h2).symm) h
  | _ :: _ :: _, _, _ => rw [List.length_cons, List.length_cons]; omega
/-- the transfers joined with the transfer k -/
def cmpK (m : Nat) (rows : List Row) (k : Nat) : List Nat := compOf m rows (rowK rows k).1
theorem cmp_self {m : Nat} {rows : List Row} {k : Nat} (h : k < rows.length) : k ∈ cmpK m rows k := mem_comp.mpr ⟨h, reach_mono rows m _ _ (.head _)⟩
theorem cmp_two {m : Nat} {rows : List Row} (hok : ∀ r ∈ rows, RowOk m r) (hb : Both rows) {k : Nat} (h : k < rows.length) : 1 < (cmpK m rows k).length := by
  obtain ⟨i, hi, e1, e2⟩ := back_at hb h
  have hr := hok _ (rowK_mem h)
  refine two_mem (cmp_self h) (b := i) (mem_comp.mpr ⟨hi, ?_⟩) fun e => ?_
  · rw [e1]
    exact reach_closed hok hr.1 _ (rowK_mem h) (reach_mono rows m _ _ (.head _))
  · subst e
    exact hr.2.2.1 e1
theorem cmp_lot (m : Nat) (rows : List Row) (k : Nat) : Lot rows.length (cmpK m rows k) := fil_lot _ _
theorem cmp_sym {m : Nat} {rows : List Row} (hok : ∀ r ∈ rows, RowOk m r) (hb : Both rows) {k o : Nat} (hk : k < rows.length) (ho : o ∈ cmpK m rows k) : k ∈ cmpK m rows o := by
  obtain ⟨h1, h2⟩ := mem_comp.mp ho
  exact mem_comp.mpr ⟨hk, reach_sym hok hb (hok _ (rowK_mem h1)).1 h2⟩
theorem f_grownC {m : Nat} {rows : List Row} (v : Valid m rows) (hb : Both rows) {k : Nat} (hk : k < rows.length) : m_grown_by.fn [needsD (fullL rows), nI k] = .ok (lotD (cmpK m rows k)) := by
  obtain ⟨g, e, h⟩ := f_grownBy (Sit.mk' v (full_ok rows)).nd (fun k => ⟨((full_ok rows).lot k).nodup, ((full_ok rows).lot k).1⟩) hk
  rw [e, grown_comp v.ok hb hk h]
  rfl
def bndB : G.Env → Out := (mSeq (mSet 6 (mCall (d1 D.toTup) (mCons (mLc [7] (mSq D.seq (m2 D.ix (mVar 3) (mVar 5))) (gnName 7) (mB (m2 D.isIn (mVar 5) (m2 D.ix (mVar 3) (mVar 7)))) (mVar 7)) mNil))) (mIf (mB (m2 D.gt (mCall (d1 D.len) (mCons (mVar 6) mNil)) (mC (.int 1)))) (mDPut 4 (mVar 6) (mC (.bl true))) mNext))
abbrev gnL (m : Nat) (rows : List Row) : List (List Nat) := (List.range rows.length).map (cmpK m rows)
theorem gn_ix {m : Nat} {rows : List Row} {k : Nat} (h : k < rows.length) : D.ix (.lst ((gnL m rows).map lotD)) (nI k) = .ok (lotD (cmpK m rows k)) := by
  rw [lots_ix (X := gnL m rows) (k := k) (by rw [List.length_map, List.length_range]; exact h)]
  rw [List.getElem_map, List.getElem_range]
theorem bnd_loop {m : Nat} {rows : List Row} {N8 : D} (v : Valid m rows) (hb : Both rows) : ∀ (ks : List Nat) (kl : List (List Nat)) (v5 v6 : Option D), (∀ k ∈ ks, k < rows.length) → kl.length + ks.length ≤ 100 →
    ∃ w5 w6 : Option D, loopD (stepD (gnName 5) bndB) (ks.map nI) [some (webD m rows), some (needsD (fullL rows)), some N8, some (.lst ((gnL m rows).map lotD)), some (bndD kl), v5, v6, none] = .nx [some (webD m rows), some (needsD (fullL rows)), some N8, some (.lst ((gnL m rows).map lotD)), some (bndD (foldA (cmpK m rows) ks kl)), w5, w6, none]
  | [], kl, v5, v6, _, _ => ⟨v5, v6, rfl⟩
  | k :: ks, kl, v5, v6, hk, hl => by
    have hkn := hk k (.head _)
    have h10 := v.r10
    rw [List.length_cons] at hl
    have hal := addL_len kl (cmpK m rows k)
    obtain ⟨w5, w6, e⟩ := bnd_loop (N8 := N8) v hb ks (addL kl (cmpK m rows k)) (some (nI k)) (some (lotD (cmpK m rows k))) (fun j hj => hk j (.tail _ hj)) (by omega)
    refine ⟨w5, w6, ?_⟩
    rw [List.map_cons]
    refine loop_cons (ρ1 := [some (webD m rows), some (needsD (fullL rows)), some N8, some (.lst ((gnL m rows).map lotD)), some (bndD kl), some (nI k), v6, none]) (ρ2 := [some (webD m rows), some (needsD (fullL rows)), some N8, some (.lst ((gnL m rows).map lotD)), some (bndD (addL kl (cmpK m rows k))), some (nI k), some (lotD (cmpK m rows k)), none]) rfl ?_ e
    have hle := (cmp_lot m rows k).length
    have e1 : mCall (d1 D.toTup) (mCons (mLc [7] (mSq D.seq (m2 D.ix (mVar 3) (mVar 5))) (gnName 7) (mB (m2 D.isIn (mVar 5) (m2 D.ix (mVar 3) (mVar 7)))) (mVar 7)) mNil) [some (webD m rows), some (needsD (fullL rows)), some N8, some (.lst ((gnL m rows).map lotD)), some (bndD kl), some (nI k), v6, none] = .ok (lotD (cmpK m rows k)) := by
      refine call1_ok (x := .lst ((cmpK m rows k).map nI)) (Eq.trans (mLc_filN (emb := nI) (l := cmpK m rows k) (fun _ => true) nI (sq_ok (m2_ok rfl rfl (gn_ix hkn)) rfl) (by omega) fun o ho => ⟨b_ok (m2_ok rfl (m2_ok rfl rfl (gn_ix ((cmp_lot m rows k).1 o ho))) (Eq.trans (in_nat _ _) (by rw [decide_eq_true (cmp_sym v.ok hb hkn ho)]))), rfl⟩) (by rw [List.filter_eq_self.mpr fun _ _ => rfl])) rfl
    refine seq_nx (ρ' := [some (webD m rows), some (needsD (fullL rows)), some N8, some (.lst ((gnL m rows).map lotD)), some (bndD kl), some (nI k), some (lotD (cmpK m rows k)), none]) (set_nx e1) ?_
    refine if_t (b_ok (m2_ok (call1_ok rfl (Eq.trans (len_tup _) (by rw [List.length_map]))) rfl (Eq.trans (dgt _ _) (by rw [decide_eq_true (by have := cmp_two v.ok hb hkn; omega)])))) ?_
    exact bnd_put (kl := kl) (x := cmpK m rows k) rfl rfl rfl (by omega)
def bndL (m : Nat) (rows : List Row) : List (List Nat) := foldA (cmpK m rows) (List.range rows.length) []
theorem mem_bnd {m : Nat} {rows : List Row} {l : List Nat} : l ∈ bndL m rows ↔ ∃ k, k < rows.length ∧ l = cmpK m rows k := by
  unfold bndL
  rw [mem_foldA]
  exact ⟨fun z => z.elim (fun h => nomatch h) fun ⟨k, h1, h2⟩ => ⟨k, List.mem_range.mp h1, h2⟩, fun ⟨k, h1, h2⟩ => .inr ⟨k, List.mem_range.mpr h1, h2⟩⟩
theorem f_needBound {m : Nat} {rows : List Row} (v : Valid m rows) (hb : Both rows) : m_need_bound.fn [webD m rows, needsD (fullL rows)] = .ok (.tup (sortD ((bndL m rows).map lotD))) := by
  have h10 := v.r10
  obtain ⟨w5, w6, e⟩ := bnd_loop (N8 := nI rows.length) v hb (List.range rows.length) [] none none (fun k hk => List.mem_range.mp hk) (by rw [List.length_range, List.length_nil]; omega)
  rw [fn_run rfl]
  show (b_need_bound [some (webD m rows), some (needsD (fullL rows)), none, none, none, none, none, none]).res = _
  unfold b_need_bound
  refine seq_res (drop_nx (callN_ok (cons_ok rfl (cons_ok rfl rfl)) rfl (f_needNeeds v (full_ok rows)))) ?_
  refine seq_res (ρ' := [some (webD m rows), some (needsD (fullL rows)), some (nI rows.length), none, none, none, none, none]) (set_nx (d := nI rows.length) (call1_ok (m2_ok rfl rfl (web1 _ _)) (Eq.trans (len_tup _) (by rw [List.length_map])))) ?_
  refine seq_res (ρ' := [some (webD m rows), some (needsD (fullL rows)), some (nI rows.length), some (.lst ((gnL m rows).map lotD)), none, none, none, none]) (set_nx (d := .lst ((gnL m rows).map lotD)) (Eq.trans (mLc_mapN (emb := nI) (l := List.range rows.length) (fun k => lotD (cmpK m rows k)) (sq_ok rfl (range1_ok (by omega))) (by rw [List.length_range]; omega) fun k hk => call0_ok (cons_ok rfl (cons_ok rfl rfl)) rfl (f_grownC v hb (List.mem_range.mp hk))) (by rw [List.map_map]; rfl))) ?_
  refine seq_res (ρ' := [some (webD m rows), some (needsD (fullL rows)), some (nI rows.length), some (.lst ((gnL m rows).map lotD)), some (bndD []), none, none, none]) (set_nx rfl) ?_
  refine seq_res (for_ok (sq_ok rfl (range1_ok (by omega))) e) ?_
  refine ret_res (call1_ok (call1_ok rfl (sortK_bnd (kl := bndL m rows) fun l hl => ?_)) rfl)
  obtain ⟨k, hk, e2⟩ := mem_bnd.mp hl
  subst e2
  exact fun z => by have := cmp_self (m := m) hk; rw [z] at this; exact nomatch this
theorem deals0 (m : Nat) (ps : List (Nat × Nat)) : D.ix (dealsD m ps) (.int 0) = .ok (nI m) := rfl
theorem deals1 (m : Nat) (ps : List (Nat × Nat)) : D.ix (dealsD m ps) (.int 1) = .ok (.tup (ps.map prD)) := rfl
theorem pr0 (p : Nat × Nat) : D.ix (prD p) (.int 0) = .ok (nI p.1) := rfl
theorem pr1 (p : Nat × Nat) : D.ix (prD p) (.int 1) = .ok (nI p.2) := rfl
theorem f_areDeals {m : Nat} {ps : List (Nat × Nat)} (h : DOk m ps) : m_are_deals.fn [dealsD m ps] = .ok (.bl true) := by
  have a1 := h.m2
  have a2 := h.m6
  have a3 := h.p1
  have a4 := h.p5
  have u1 : m_is_tuple_of.fn [dealsD m ps, .int 2] = .ok (.bl true) := by rw [f_tupleOf]; rfl
  have u2 : m_is_between.fn [nI m, .int 2, .int 6] = .ok (.bl true) := by rw [f_between, decide_eq_true (by omega), decide_eq_true (by omega)]; rfl
  rw [fn_run rfl]
  show (b_are_deals [some (dealsD m ps), none]).res = _
  unfold b_are_deals
  refine seq_res (ρ' := [some (dealsD m ps), none]) (if_f (or_tf (x := false) (y := false) (not_ok (x := true) (b_ok (callN_ok (cons_ok rfl (cons_ok rfl rfl)) rfl u1))) (not_ok (x := true) (b_ok (callN_ok (cons_ok (m2_ok rfl rfl (deals0 _ _)) (cons_ok rfl (cons_ok rfl rfl))) rfl u2)))) rfl) ?_
  refine seq_res (ρ' := [some (dealsD m ps), none]) (if_f (or_tf (x := false) (y := false) (not_ok (x := true) rfl) (not_ok (x := true) (b_ok (chain_t (y := nI ps.length) rfl (call1_ok (m2_ok rfl rfl (deals1 _ _)) (Eq.trans (len_tup _) (by rw [List.length_map]))) (Eq.trans (dle _ _) (by rw [decide_eq_true (by omega)])) rfl (Eq.trans (dle _ _) (by rw [decide_eq_true (by omega)])))))) rfl) ?_
  refine ret_res (call1_ok (mLc_mapN (emb := prD) (l := ps) (fun _ => .bl true) (sq_ok (m2_ok rfl rfl (deals1 _ _)) rfl) (by omega) fun p hp => ?_) ?_)
  · obtain ⟨b1, b2, b3⟩ := h.ok p hp
    have v1 : m_is_under.fn [nI p.1, nI m] = .ok (.bl true) := by rw [f_under, decide_eq_true (by omega), decide_eq_true (by omega)]; rfl
    have v2 : m_is_under.fn [nI p.2, nI m] = .ok (.bl true) := by rw [f_under, decide_eq_true (by omega), decide_eq_true (by omega)]; rfl
    have v3 : m_is_tuple_of.fn [prD p, .int 2] = .ok (.bl true) := by rw [f_tupleOf]; rfl
    refine andV_t (call0_ok (cons_ok rfl (cons_ok rfl rfl)) rfl v3) (andV_t (call0_ok (cons_ok (m2_ok rfl rfl (pr0 _)) (cons_ok (m2_ok rfl rfl (deals0 _ _)) rfl)) rfl v1) (andV_t (call0_ok (cons_ok (m2_ok rfl rfl (pr1 _)) (cons_ok (m2_ok rfl rfl (deals0 _ _)) rfl)) rfl v2) (m2_ok (m2_ok rfl rfl (pr0 _)) (m2_ok rfl rfl (pr1 _)) (Eq.trans (dne _ _) (by rw [decide_eq_false (by omega)]; rfl)))))
  · rw [all_ok, List.all_eq_true.mpr fun _ _ => rfl]
theorem f_needDeals {m : Nat} {ps : List (Nat × Nat)} (h : DOk m ps) : m_need_deals.fn [dealsD m ps] = .ok .non := by
  rw [fn_run rfl]
  show (b_need_deals [some (dealsD m ps)]).res = _
  unfold b_need_deals
  exact (congrArg Out.res (if_f (not_ok (x := true) (b_ok (callN_ok (cons_ok rfl rfl) rfl (f_areDeals h)))) rfl)).trans rfl
theorem lot_nil (n : Nat) : Lot n [] := ⟨fun _ h => (nomatch h), .nil⟩
theorem f_needFree (m : Nat) (ps : List (Nat × Nat)) : m_need_free.fn [dealsD m ps, lotD []] = .ok .non := by
  rw [fn_run rfl]
  show (b_need_free [some (dealsD m ps), some (lotD [])]).res = _
  unfold b_need_free
  exact (congrArg Out.res (if_f (not_ok (x := true) (b_ok (callN_ok (cons_ok rfl (cons_ok (m2_ok rfl rfl (deals0 _ _)) rfl)) rfl (f_isLot (lot_nil m) (by show 0 ≤ 1000; omega))))) rfl)).trans rfl
def prK (ps : List (Nat × Nat)) (i : Nat) : Nat × Nat := ps.getD i (0, 0)
theorem prK_at {ps : List (Nat × Nat)} {i : Nat} (h : i < ps.length) : prK ps i = ps[i] := by
  unfold prK
  rw [List.getD_eq_getElem?_getD, List.getElem?_eq_getElem h]
  rfl
theorem enum_prs (ps : List (Nat × Nat)) : dEnum D.seq (.tup (ps.map prD)) = .ok ((List.range ps.length).map fun i => .tup [nI i, prD (prK ps i)]) := by
  show R.ok (enumD (ps.map prD)) = _
  unfold enumD prK
  refine congrArg R.ok (List.ext_getElem ?_ fun i h1 h2 => ?_)
  · simp
  · have hi : i < ps.length := by simpa using h1
    simp [List.getD_eq_getElem?_getD, List.getElem?_eq_getElem hi]
def dlL (ps : List (Nat × Nat)) (p : Nat) : List Nat := (List.range ps.length).filter fun i => decide (p ∈ [(prK ps i).1, (prK ps i).2])
theorem mem_dl {ps : List (Nat × Nat)} {p i : Nat} : i ∈ dlL ps p ↔ i < ps.length ∧ ((prK ps i).1 = p ∨ (prK ps i).2 = p) := by
  unfold dlL
  rw [List.mem_filter, List.mem_range, decide_eq_true_iff, List.mem_cons, List.mem_singleton]
  exact ⟨fun z => ⟨z.1, z.2.imp Eq.symm Eq.symm⟩, fun z => ⟨z.1, z.2.imp Eq.symm Eq.symm⟩⟩
theorem f_dealsOf {m : Nat} {ps : List (Nat × Nat)} (h : ps.length ≤ 1000) (p : Nat) : m_deals_of.fn [dealsD m ps, nI p] = .ok (.lst ((dlL ps p).map nI)) := by
  rw [fn_run rfl]
  show (b_deals_of [some (dealsD m ps), some (nI p), none, none]).res = _
  unfold b_deals_of
  exact ret_res (mLc_fil (emb := fun i => .tup [nI i, prD (prK ps i)]) (l := List.range ps.length) (r := fun k => [some (dealsD m ps), some (nI p), some (nI k), some (prD (prK ps k))]) (p := fun k => decide (p ∈ [(prK ps k).1, (prK ps k).2])) (f := nI) (sq_ok (m2_ok rfl rfl (deals1 _ _)) (enum_prs ps)) (by rw [List.length_range]; omega) fun k _ => ⟨rfl, b_ok (m2_ok rfl rfl (in_nat p [(prK ps k).1, (prK ps k).2])), fun _ => rfl⟩)
def tornB (ps : List (Nat × Nat)) (lot : List Nat) (p : Nat) : Bool := ((dlL ps p).any fun k => decide (k ∈ lot)) && !((dlL ps p).all fun k => decide (k ∈ lot))
def tornL (m : Nat) (ps : List (Nat × Nat)) (lot : List Nat) : List Nat := (List.range m).filter (tornB ps lot)
def tornBody : G.Env → Out := (mSeq (mSet 5 (mLc [6] (mSq D.seq (mCallN 2 m_deals_of.fn (mCons (mVar 0) (mCons (mVar 4) mNil)))) (gnName 6) mYes (m2 D.isIn (mVar 6) (mVar 2)))) (mIf (mAnd (mB (m2 D.notIn (mVar 4) (mVar 1))) (mAnd (mB (mCall (d1 D.any) (mCons (mVar 5) mNil))) (mNot (mB (mCall (d1 D.all) (mCons (mVar 5) mNil)))))) (mMut "list" 3 dAppend (mCons (mVar 4) mNil) kDrop) mNext))
theorem torn_loop {m : Nat} {ps : List (Nat × Nat)} {lot : List Nat} (h : ps.length ≤ 1000) : ∀ (ks f : List Nat) (v4 v5 : Option D), f.length + ks.length ≤ 1000 → ∃ w4 w5 : Option D,
    loopD (stepD (gnName 4) tornBody) (ks.map nI) [some (dealsD m ps), some (lotD []), some (lotD lot), some (.lst (f.map nI)), v4, v5, none] = .nx [some (dealsD m ps), some (lotD []), some (lotD lot), some (.lst ((f ++ ks.filter (tornB ps lot)).map nI)), w4, w5, none]
  | [], f, v4, v5, _ => ⟨v4, v5, by rw [List.filter_nil, List.append_nil]; rfl⟩
  | k :: ks, f, v4, v5, hl => by
    rw [List.length_cons] at hl
    have hd : (dlL ps k).length ≤ 1000 := by
      have := List.length_filter_le (fun i => decide (k ∈ [(prK ps i).1, (prK ps i).2])) (List.range ps.length)
      rw [List.length_range] at this
      unfold dlL
      omega
    have e5 : mSet 5 (mLc [6] (mSq D.seq (mCallN 2 m_deals_of.fn (mCons (mVar 0) (mCons (mVar 4) mNil)))) (gnName 6) mYes (m2 D.isIn (mVar 6) (mVar 2))) [some (dealsD m ps), some (lotD []), some (lotD lot), some (.lst (f.map nI)), some (nI k), v5, none] = .nx [some (dealsD m ps), some (lotD []), some (lotD lot), some (.lst (f.map nI)), some (nI k), some (.lst ((dlL ps k).map fun i => .bl (decide (i ∈ lot)))), none] :=
      set_nx (mLc_mapN (emb := nI) (l := dlL ps k) (fun i => .bl (decide (i ∈ lot))) (sq_ok (callN_ok (cons_ok rfl (cons_ok rfl rfl)) rfl (f_dealsOf h k)) rfl) (by omega) fun i _ => m2_ok rfl rfl (in_nat _ _))
    have hc : (mAnd (mB (m2 D.notIn (mVar 4) (mVar 1))) (mAnd (mB (mCall (d1 D.any) (mCons (mVar 5) mNil))) (mNot (mB (mCall (d1 D.all) (mCons (mVar 5) mNil)))))) [some (dealsD m ps), some (lotD []), some (lotD lot), some (.lst (f.map nI)), some (nI k), some (.lst ((dlL ps k).map fun i => .bl (decide (i ∈ lot)))), none] = .ok (tornB ps lot k) :=
      Eq.trans (and_tf (x := true) (y := tornB ps lot k) (b_ok (m2_ok rfl rfl (notIn_nat k []))) (and_tf (b_ok (call1_ok rfl (any_ok _ _))) (not_ok (b_ok (call1_ok rfl (all_ok _ _)))))) rfl
    rw [List.map_cons, List.filter_cons]
    cases ht : tornB ps lot k with
    | true =>
      rw [ht] at hc
      obtain ⟨w4, w5, e⟩ := torn_loop (m := m) (lot := lot) h ks (f ++ [k]) (some (nI k)) (some (.lst ((dlL ps k).map fun i => .bl (decide (i ∈ lot))))) (by rw [List.length_append, List.length_singleton]; omega)
      refine ⟨w4, w5, loop_cons (ρ1 := [some (dealsD m ps), some (lotD []), some (lotD lot), some (.lst (f.map nI)), some (nI k), v5, none]) (ρ2 := [some (dealsD m ps), some (lotD []), some (lotD lot), some (.lst ((f ++ [k]).map nI)), some (nI k), some (.lst ((dlL ps k).map fun i => .bl (decide (i ∈ lot)))), none]) rfl (seq_nx e5 (if_t hc (Eq.trans (mut_append (xs := f.map nI) (y := nI k) rfl (cons_ok rfl rfl) (by rw [List.length_map]; omega)) (by rw [List.map_append]; rfl)))) (e.trans ?_)⟩
      rw [if_pos rfl, List.append_assoc]
      rfl
    | false =>
      rw [ht] at hc
      obtain ⟨w4, w5, e⟩ := torn_loop (m := m) (lot := lot) h ks f (some (nI k)) (some (.lst ((dlL ps k).map fun i => .bl (decide (i ∈ lot))))) (by omega)
      refine ⟨w4, w5, loop_cons (ρ1 := [some (dealsD m ps), some (lotD []), some (lotD lot), some (.lst (f.map nI)), some (nI k), v5, none]) (ρ2 := [some (dealsD m ps), some (lotD []), some (lotD lot), some (.lst (f.map nI)), some (nI k), some (.lst ((dlL ps k).map fun i => .bl (decide (i ∈ lot)))), none]) rfl (seq_nx e5 (if_f hc rfl)) (e.trans ?_)⟩
      rw [if_neg Bool.false_ne_true]
theorem f_isLotP {ps : List (Nat × Nat)} {lot : List Nat} (h : ps.length ≤ 100) (hl : Lot ps.length lot) : m_is_lot.fn [lotD lot, .int (ps.map prD).length] = .ok (.bl true) := by
  have hll := hl.length
  rw [List.length_map]
  exact f_isLot hl (by omega)
theorem f_agentTorn {m : Nat} {ps : List (Nat × Nat)} {lot : List Nat} (h : DOk m ps) (hl : Lot ps.length lot) : m_agent_torn.fn [dealsD m ps, lotD [], lotD lot] = .ok (lotD (tornL m ps lot)) := by
  have a2 := h.m6
  have a4 := h.p5
  obtain ⟨w4, w5, e⟩ := torn_loop (m := m) (lot := lot) (ps := ps) (by omega) (List.range m) [] none none (by rw [List.length_range, List.length_nil]; omega)
  rw [fn_run rfl]
  show (b_agent_torn [some (dealsD m ps), some (lotD []), some (lotD lot), none, none, none, none]).res = _
  unfold b_agent_torn
  refine seq_res (drop_nx (callN_ok (cons_ok rfl rfl) rfl (f_needDeals h))) ?_
  refine seq_res (drop_nx (callN_ok (cons_ok rfl (cons_ok rfl rfl)) rfl (f_needFree m ps))) ?_
  refine seq_res (ρ' := [some (dealsD m ps), some (lotD []), some (lotD lot), none, none, none, none]) (if_f (not_ok (x := true) (b_ok (callN_ok (cons_ok rfl (cons_ok (call1_ok (m2_ok rfl rfl (deals1 _ _)) (len_tup _)) rfl)) rfl (f_isLotP (by omega) hl)))) rfl) ?_
  refine seq_res (ρ' := [some (dealsD m ps), some (lotD []), some (lotD lot), some (.lst ([].map nI)), none, none, none]) (set_nx (mLst_ok rfl (by show 0 ≤ 16777216; omega))) ?_
  refine seq_res (for_ok (sq_ok (m2_ok rfl rfl (deals0 _ _)) (range1_ok (by omega))) e) ?_
  exact ret_res (call1_ok rfl rfl)
def bothN (lot : List Nat) : List Nat := srt (lot.map (fun x => 2 * x) ++ lot.map fun x => 2 * x + 1)
theorem raw_nodup {lot : List Nat} (h : lot.Nodup) : (lot.map (fun x => 2 * x) ++ lot.map fun x => 2 * x + 1).Nodup := by
  rw [List.nodup_append]
  refine ⟨?_, ?_, fun a ha b hb => ?_⟩
  · exact h.map (f := fun x => 2 * x) (fun a b (h1 : a ≠ b) => fun (h2 : 2 * a = 2 * b) => h1 (by omega))
  · exact h.map (f := fun x => 2 * x + 1) (fun a b (h1 : a ≠ b) => fun (h2 : 2 * a + 1 = 2 * b + 1) => h1 (by omega))
  · obtain ⟨x, _, rfl⟩ := List.mem_map.mp ha
    obtain ⟨y, _, rfl⟩ := List.mem_map.mp hb
    omega
theorem mem_bothN {lot : List Nat} {j : Nat} : j ∈ bothN lot ↔ j / 2 ∈ lot := by
  unfold bothN
  rw [(srt_perm _).mem_iff, List.mem_append, List.mem_map, List.mem_map]
  constructor
  · rintro (⟨x, hx, e⟩ | ⟨x, hx, e⟩)
    · rw [show j / 2 = x by omega]; exact hx
    · rw [show j / 2 = x by omega]; exact hx
  · intro h
    rcases Nat.mod_two_eq_zero_or_one j with e | e
    · exact .inl ⟨j / 2, h, by omega⟩
    · exact .inr ⟨j / 2, h, by omega⟩
theorem lot_bothN {n : Nat} {lot : List Nat} (h : Lot n lot) : Lot (2 * n) (bothN lot) :=
  ⟨fun x hx => by have := h.1 _ (mem_bothN.mp hx); omega, srt_pw (raw_nodup h.nodup)⟩
theorem ex_give {ps : List (Nat × Nat)} {p : Nat} {Q : Nat → Prop} : (∃ k, k < (rowsOf ps).length ∧ (rowK (rowsOf ps) k).1 = p ∧ Q (k / 2)) ↔ ∃ i, i < ps.length ∧ ((prK ps i).1 = p ∨ (prK ps i).2 = p) ∧ Q i := by
  rw [rowsOf_len]
  constructor
  · rintro ⟨k, h1, h2, h3⟩
    have hi : k / 2 < ps.length := by omega
    obtain ⟨e1, e2⟩ := rowsOf_at ps (k / 2) hi
    refine ⟨k / 2, hi, ?_, h3⟩
    rw [prK_at hi]
    rcases Nat.mod_two_eq_zero_or_one k with e | e
    · rw [show 2 * (k / 2) = k by omega] at e1
      rw [e1] at h2; exact .inl h2
    · rw [show 2 * (k / 2) + 1 = k by omega] at e2
      rw [e2] at h2; exact .inr h2
  · rintro ⟨i, h1, h2, h3⟩
    obtain ⟨e1, e2⟩ := rowsOf_at ps i h1
    rw [prK_at h1] at h2
    rcases h2 with h2 | h2
    · exact ⟨2 * i, by omega, by rw [e1]; exact h2, by rw [show 2 * i / 2 = i by omega]; exact h3⟩
    · exact ⟨2 * i + 1, by omega, by rw [e2]; exact h2, by rw [show (2 * i + 1) / 2 = i by omega]; exact h3⟩
theorem ex_take {ps : List (Nat × Nat)} {p : Nat} {Q : Nat → Prop} : (∃ k, k < (rowsOf ps).length ∧ (rowK (rowsOf ps) k).2.1 = p ∧ Q (k / 2)) ↔ ∃ i, i < ps.length ∧ ((prK ps i).1 = p ∨ (prK ps i).2 = p) ∧ Q i := by
  rw [rowsOf_len]
  constructor
  · rintro ⟨k, h1, h2, h3⟩
    have hi : k / 2 < ps.length := by omega
    obtain ⟨e1, e2⟩ := rowsOf_at ps (k / 2) hi
    refine ⟨k / 2, hi, ?_, h3⟩
    rw [prK_at hi]
    rcases Nat.mod_two_eq_zero_or_one k with e | e
    · rw [show 2 * (k / 2) = k by omega] at e1
      rw [e1] at h2; exact .inr h2
    · rw [show 2 * (k / 2) + 1 = k by omega] at e2
      rw [e2] at h2; exact .inl h2
  · rintro ⟨i, h1, h2, h3⟩
    obtain ⟨e1, e2⟩ := rowsOf_at ps i h1
    rw [prK_at h1] at h2
    rcases h2 with h2 | h2
    · exact ⟨2 * i + 1, by omega, by rw [e2]; exact h2, by rw [show (2 * i + 1) / 2 = i by omega]; exact h3⟩
    · exact ⟨2 * i, by omega, by rw [e1]; exact h2, by rw [show 2 * i / 2 = i by omega]; exact h3⟩
theorem torn_iff {ps : List (Nat × Nat)} {lot : List Nat} {p : Nat} : tornB ps lot p = true ↔ (∃ i, i < ps.length ∧ ((prK ps i).1 = p ∨ (prK ps i).2 = p) ∧ i ∈ lot) ∧ ∃ i, i < ps.length ∧ ((prK ps i).1 = p ∨ (prK ps i).2 = p) ∧ i ∉ lot := by
  unfold tornB
  rw [Bool.and_eq_true, List.any_eq_true, Bool.not_eq_true', List.all_eq_false]
  constructor
  · rintro ⟨⟨k, h1, h2⟩, ⟨j, h3, h4⟩⟩
    obtain ⟨a1, a2⟩ := mem_dl.mp h1
    obtain ⟨b1, b2⟩ := mem_dl.mp h3
    exact ⟨⟨k, a1, a2, of_decide_eq_true h2⟩, ⟨j, b1, b2, fun z => h4 (decide_eq_true z)⟩⟩
  · rintro ⟨⟨k, h1, h2, h3⟩, ⟨j, h4, h5, h6⟩⟩
    exact ⟨⟨k, mem_dl.mpr ⟨h1, h2⟩, decide_eq_true h3⟩, ⟨j, mem_dl.mpr ⟨h4, h5⟩, fun z => h6 (of_decide_eq_true z)⟩⟩
theorem harm_torn {ps : List (Nat × Nat)} {lot : List Nat} {p : Nat} : harmB (rowsOf ps) (bothN lot) p = tornB ps lot p := bool_ext (by
  rw [harm_iff, torn_iff]
  have h1 := ex_give (ps := ps) (p := p) (Q := fun i => i ∈ lot)
  have h2 := ex_take (ps := ps) (p := p) (Q := fun i => i ∉ lot)
  rw [← h1, ← h2]
  constructor
  · rintro ⟨⟨k, a1, a2, a3⟩, ⟨j, b1, b2, b3⟩⟩
    exact ⟨⟨k, a1, a2, mem_bothN.mp a3⟩, ⟨j, b1, b2, fun z => b3 (mem_bothN.mpr z)⟩⟩
  · rintro ⟨⟨k, a1, a2, a3⟩, ⟨j, b1, b2, b3⟩⟩
    exact ⟨⟨k, a1, a2, mem_bothN.mpr a3⟩, ⟨j, b1, b2, fun z => b3 (mem_bothN.mp z)⟩⟩)
theorem hurt_torn (m : Nat) (ps : List (Nat × Nat)) (lot : List Nat) : hurtL m (rowsOf ps) [] (bothN lot) = tornL m ps lot := by
  have hk : keepL m [] = List.range m := List.filter_eq_self.mpr fun _ _ => rfl
  unfold hurtL tornL
  rw [hk]
  exact List.filter_congr fun p _ => harm_torn
theorem keeps_closed {m : Nat} {rows : List Row} {S : List Nat} (hok : ∀ r ∈ rows, RowOk m r) (hS : ∀ x ∈ S, x < rows.length) : keepsB (fullL rows) S = closedB m rows [] S := bool_ext (by
  rw [closed_iff hok hS]
  unfold keepsB
  rw [List.all_eq_true]
  constructor
  · intro h k hk j hj _ e
    have := List.all_eq_true.mp (h k hk) j (by rw [full_at (hS k hk)]; exact mem_gtL.mpr ⟨hj, e⟩)
    exact of_decide_eq_true this
  · intro h k hk
    rw [List.all_eq_true]
    intro o ho
    rw [full_at (hS k hk)] at ho
    obtain ⟨h3, h4⟩ := mem_gtL.mp ho
    exact decide_eq_true (h k hk o h3 (fun z => nomatch z) h4))
theorem eq_nilD (l : List Nat) : D.eq (lotD l) (.tup []) = .ok (.bl l.isEmpty) := by
  rw [show (D.tup [] : D) = lotD [] from rfl, eq_ok (n := 1) (by omega) (lot_ok1 l) (lot_ok1 [])]
  refine congrArg (fun b => R.ok (D.bl b)) (bool_ext ?_)
  rw [dq_iff, List.isEmpty_iff]
  exact ⟨lot_inj, fun e => by rw [e]⟩
theorem ne_blD (a b : Bool) : D.ne (.bl a) (.bl b) = .ok (.bl (!(a == b))) := by
  cases a <;> cases b <;> simp [D.ne, D.eq2, D.py, SeqAt.shaped, PyData.canLay0, PyData.depth, PyData.eqv]
theorem perm_sort {X Y : List (List Nat)} (h : X.Perm Y) : sortD (X.map lotD) = sortD (Y.map lotD) := by
  refine sortD_eq ((List.mergeSort_perm _ _).trans (h.map lotD)) ?_ fun a ha b hb e => ?_
  · rw [sort_all, List.pairwise_map]
    exact sortL_pw X
  · obtain ⟨l, _, rfl⟩ := List.mem_map.mp ha
    obtain ⟨m, _, rfl⟩ := List.mem_map.mp hb
    rw [key_inj e]
def joinL (m : Nat) (rows : List Row) : List (List Nat) := foldA (compOf m rows) (List.range m) []
theorem mem_join {m : Nat} {rows : List Row} {l : List Nat} : l ∈ joinL m rows ↔ ∃ p, p < m ∧ l = compOf m rows p := by
  unfold joinL
  rw [mem_foldA]
  exact ⟨fun z => z.elim (fun h => nomatch h) fun ⟨k, h1, h2⟩ => ⟨k, List.mem_range.mp h1, h2⟩, fun ⟨k, h1, h2⟩ => .inr ⟨k, List.mem_range.mpr h1, h2⟩⟩
theorem join_bnd {m : Nat} {rows : List Row} (v : Valid m rows) : sortD ((bndL m rows).map lotD) = sortD ((joinL m rows).map lotD) := by
  refine perm_sort ((List.perm_ext_iff_of_nodup (foldA_nodup _ _ List.nodup_nil) (foldA_nodup _ _ List.nodup_nil)).mpr fun l => ?_)
  show l ∈ bndL m rows ↔ l ∈ joinL m rows
  rw [mem_bnd, mem_join]
  constructor
  · rintro ⟨k, h1, h2⟩
    exact ⟨_, (v.ok _ (rowK_mem h1)).1, h2⟩
  · rintro ⟨p, h1, h2⟩
    obtain ⟨r, hr, e⟩ := v.gv p h1
    obtain ⟨k, hk, e2⟩ := mem_rowK hr
    exact ⟨k, hk, by rw [h2]; unfold cmpK; rw [e2, e]⟩
theorem join_ne {m : Nat} {rows : List Row} (v : Valid m rows) : ∀ l ∈ joinL m rows, l ≠ [] := fun l hl z => by
  obtain ⟨p, h1, h2⟩ := mem_join.mp hl
  obtain ⟨r, hr, e⟩ := v.gv p h1
  obtain ⟨k, hk, e2⟩ := mem_rowK hr
  have : k ∈ l := by rw [h2]; exact mem_comp.mpr ⟨hk, by rw [e2, e]; exact reach_mono rows m _ _ (.head _)⟩
  rw [z] at this
  exact nomatch this
theorem tups_ne (X Y : List D) (h : X = Y) (hX : X.all (okD 1) = true) : D.ne (.tup X) (.tup Y) = .ok (.bl false) := by
  subst h
  rw [ne_ok (n := 2) (by omega) (show okD 2 (.tup X) = true from hX) (show okD 2 (.tup X) = true from hX), dq_iff.mpr rfl]
  rfl
theorem half_lot {n : Nat} {l : List Nat} (h : Lot (2 * n) l) : Lot n ((l.filter fun x => decide (x % 2 = 0)).map fun x => x / 2) := by
  refine ⟨fun x hx => ?_, ?_⟩
  · obtain ⟨y, hy, rfl⟩ := List.mem_map.mp hx
    have := h.1 y (List.mem_filter.mp hy).1
    omega
  · rw [List.pairwise_map]
    refine List.Pairwise.imp_of_mem (R := fun a b => a < b) (fun {a b} ha hb hab => ?_) (h.2.filter _)
    have e1 := of_decide_eq_true (List.mem_filter.mp ha).2
    have e2 := of_decide_eq_true (List.mem_filter.mp hb).2
    omega
theorem fdivN {a b : Nat} (h : b ≠ 0) (h2 : b < 1000000) : D.fdiv (nI a) (nI b) = .ok (nI (a / b)) := by
  rw [show (nI a : D) = .int (a : Int) from rfl, show (nI b : D) = .int (b : Int) from rfl, fdiv_ok (by omega) (by omega)]
  exact congrArg (fun z => R.ok (D.int z)) (Int.ofNat_fdiv a b).symm
theorem mul2 (x : Nat) : D.mul (.int 2) (nI x) = .ok (nI (2 * x)) := mulN (a := 2) (by omega)
theorem cut_tup (ds : List D) (k : Nat) : D.cut (.tup ds) none (some (k : Int)) = .ok (.tup (ds.take k)) := by
  show R.ok (D.tup ((ds.drop (HT.sIx ds.length 0 none)).take (HT.sIx ds.length ds.length (some (k : Int)) - HT.sIx ds.length 0 none))) = _
  rw [HT.sIx_none, HT.sIx_nat, List.drop_zero, Nat.sub_zero]
  rcases Nat.le_total k ds.length with h | h
  · rw [Nat.min_eq_left h]
  · rw [Nat.min_eq_right h, List.take_length, List.take_of_length_le h]
theorem f_keptO {n : Nat} {needs : List (List Nat)} {l : List Nat} (hn : needs.length = n) (h10 : n ≤ 10) (hk : ∀ k, (needs.getD k []).length ≤ 10) (hl : ∀ x ∈ l, x < n) (hll : l.length ≤ 1000) : m_is_kept_lot.fn [needsD needs, lotD l] = .ok (.bl (keepsB needs l)) := by
  rw [fn_run rfl]
  show (b_is_kept_lot [some (needsD needs), some (lotD l), none, none]).res = _
  unfold b_is_kept_lot
  refine ret_res (call1_ok (mLc_map (emb := nI) (l := l) (r := fun k => [some (needsD needs), some (lotD l), some (nI k), none]) (f := fun k => .bl ((needs.getD k []).all fun o => decide (o ∈ l))) (sq_ok rfl rfl) (by omega) fun k hkl => ⟨rfl, ?_⟩) (all_ok _ _))
  refine call1_ok (mLc_map (emb := nI) (l := needs.getD k []) (r := fun o => [some (needsD needs), some (lotD l), some (nI k), some (nI o)]) (f := fun o => .bl (decide (o ∈ l))) (sq_ok (m2_ok rfl rfl (need_ix (by rw [hn]; exact hl k hkl))) rfl) (by have := hk k; omega) fun o _ => ⟨rfl, m2_ok rfl rfl ?_⟩) (all_ok _ _)
  rw [in_tup (n := 0) (by omega) okD_int (nI_ok l), dIn_nI]
theorem f_isNeedKept {many n : Nat} {rows : List Row} {needs : List (List Nat)} (s : Sit many n rows needs) {lot : List Nat} (hl : Lot n lot) : m_is_need_kept.fn [webD many rows, needsD needs, lotD lot] = .ok (.bl (keepsB needs lot)) := by
  have hll := hl.length
  have h10 := s.nd.n10
  have u1 : m_is_lot.fn [lotD lot, .int (rows.map rowD).length] = .ok (.bl true) := by
    rw [List.length_map, s.hn]
    exact f_isLot hl (by omega)
  rw [fn_run rfl]
  show (b_is_need_kept [some (webD many rows), some (needsD needs), some (lotD lot)]).res = _
  unfold b_is_need_kept
  refine seq_res (drop_nx (callN_ok (cons_ok rfl (cons_ok rfl rfl)) rfl (f_needNeeds s.v s.no))) ?_
  exact ret_res (andV_t (callN_ok (cons_ok rfl (cons_ok (call1_ok (m2_ok rfl rfl (web1 _ _)) (len_tup _)) rfl)) rfl u1) (callN_ok (cons_ok rfl (cons_ok rfl rfl)) rfl (f_keptO s.nd.len h10 s.nd.each hl.1 (by omega))))
theorem lotD_ix {l : List Nat} {k : Nat} (h : k < l.length) : D.ix (lotD l) (nI k) = .ok (nI l[k]) := ix_tup (by
  rw [atI_nat (n := k) rfl (by rw [List.length_map]; exact h), List.getElem_map])
theorem nil_ok {ρ : G.Env} : mTup mNil ρ = .ok (lotD []) := mTup_ok rfl (by show 0 ≤ 16777216; omega)
theorem sl5 {m0 : Nat} {d : List (Nat × Nat)} {c0 c2 c3 c4 c5 c6 c7 c8 c9 c10 c11 c12 c13 c14 c15 c16 c17 : Option D} : mSl (m2 D.ix (mVar 1) (mC (.int 1))) mNoP (mPart (mC (.int 5))) [c0, some (dealsD m0 d), c2, c3, c4, c5, c6, c7, c8, c9, c10, c11, c12, c13, c14, c15, c16, c17] = .ok (.tup ((d.take 5).map prD)) := by
  show D.cut (.tup (d.map prD)) none (some ((5 : Nat) : Int)) = _
  rw [cut_tup, List.map_take]
def lawNI : G.Env → Out := (mIf (mB (m2 D.notIn (mVar 4) (mVar 2))) (mMut "list" 2 dAppend (mCons (mVar 4) mNil) kDrop) mNext)
def lawNB : G.Env → Out := (mFor (mSq D.seq (mVar 3)) (gnName 4) (mIf (mB (m2 D.notIn (mVar 4) (mVar 2))) (mMut "list" 2 dAppend (mCons (mVar 4) mNil) kDrop) mNext))
theorem name_step {c0 c1 c3 c5 c6 c7 c8 c9 c10 c11 c12 c13 c14 c15 c16 c17 : Option D} (f : List Nat) (x : Nat) (h : f.length ≤ 1000) : lawNI [c0, c1, some (.lst ((f).map nI)), c3, some (nI x), c5, c6, c7, c8, c9, c10, c11, c12, c13, c14, c15, c16, c17] = .nx [c0, c1, some (.lst ((addN f x).map nI)), c3, some (nI x), c5, c6, c7, c8, c9, c10, c11, c12, c13, c14, c15, c16, c17] := by
  have hc : mB (m2 D.notIn (mVar 4) (mVar 2)) [c0, c1, some (.lst ((f).map nI)), c3, some (nI x), c5, c6, c7, c8, c9, c10, c11, c12, c13, c14, c15, c16, c17] = .ok (!decide (x ∈ f)) := b_ok (m2_ok rfl rfl (notIn_natL _ _))
  unfold addN
  by_cases q : x ∈ f
  · rw [if_pos q]
    rw [decide_eq_true q] at hc
    exact if_f hc rfl
  · rw [if_neg q]
    rw [decide_eq_false q] at hc
    exact if_t hc (Eq.trans (mut_append (xs := f.map nI) (y := nI x) rfl (cons_ok rfl rfl) (by rw [List.length_map]; omega)) (by rw [List.map_append]; rfl))
theorem names_loop {c0 c1 c5 c6 c7 c8 c9 c10 c11 c12 c13 c14 c15 c16 c17 : Option D} : ∀ (ps : List (Nat × Nat)) (f : List Nat) (v3 v4 : Option D), f.length + 2 * ps.length ≤ 1000 → ∃ w3 w4 : Option D,
    loopD (stepD (gnName 3) lawNB) (ps.map prD) [c0, c1, some (.lst ((f).map nI)), v3, v4, c5, c6, c7, c8, c9, c10, c11, c12, c13, c14, c15, c16, c17] = .nx [c0, c1, some (.lst ((namesL ps f).map nI)), w3, w4, c5, c6, c7, c8, c9, c10, c11, c12, c13, c14, c15, c16, c17]
  | [], f, v3, v4, _ => ⟨v3, v4, rfl⟩
  | p :: ps, f, v3, v4, h => by
    rw [List.length_cons] at h
    have h1 := addN_len f p.1
    have h2 := addN_len (addN f p.1) p.2
    obtain ⟨w3, w4, e⟩ := names_loop (c0 := c0) (c1 := c1) (c5 := c5) (c6 := c6) (c7 := c7) (c8 := c8) (c9 := c9) (c10 := c10) (c11 := c11) (c12 := c12) (c13 := c13) (c14 := c14) (c15 := c15) (c16 := c16) (c17 := c17) ps (addN (addN f p.1) p.2) (some (prD p)) (some (nI p.2)) (by omega)
    refine ⟨w3, w4, ?_⟩
    rw [List.map_cons]
    refine loop_cons (ρ1 := [c0, c1, some (.lst ((f).map nI)), some (prD p), v4, c5, c6, c7, c8, c9, c10, c11, c12, c13, c14, c15, c16, c17]) (ρ2 := [c0, c1, some (.lst ((addN (addN f p.1) p.2).map nI)), some (prD p), some (nI p.2), c5, c6, c7, c8, c9, c10, c11, c12, c13, c14, c15, c16, c17]) rfl (for_ok (ds := [nI p.1, nI p.2]) (sq_ok rfl rfl) ?_) e
    refine loop_cons (ρ1 := [c0, c1, some (.lst ((f).map nI)), some (prD p), some (nI p.1), c5, c6, c7, c8, c9, c10, c11, c12, c13, c14, c15, c16, c17]) (ρ2 := [c0, c1, some (.lst ((addN f p.1).map nI)), some (prD p), some (nI p.1), c5, c6, c7, c8, c9, c10, c11, c12, c13, c14, c15, c16, c17]) rfl (name_step f p.1 (by omega)) ?_
    refine loop_cons (ρ1 := [c0, c1, some (.lst ((addN f p.1).map nI)), some (prD p), some (nI p.2), c5, c6, c7, c8, c9, c10, c11, c12, c13, c14, c15, c16, c17]) (ρ2 := [c0, c1, some (.lst ((addN (addN f p.1) p.2).map nI)), some (prD p), some (nI p.2), c5, c6, c7, c8, c9, c10, c11, c12, c13, c14, c15, c16, c17]) rfl (name_step _ p.2 (by omega)) rfl
def lawRB : G.Env → Out := (mSeq (mMut "list" 7 dAppend (mCons (mTup (mCons (m2 D.ix (mVar 3) (mC (.int 0))) (mCons (m2 D.ix (mVar 3) (mC (.int 1))) (mCons (mC (.int 1)) mNil)))) mNil) kDrop) (mMut "list" 7 dAppend (mCons (mTup (mCons (m2 D.ix (mVar 3) (mC (.int 1))) (mCons (m2 D.ix (mVar 3) (mC (.int 0))) (mCons (mC (.int 2)) mNil)))) mNil) kDrop))
theorem rows_loop {c0 c1 c2 c4 c5 c6 c8 c9 c10 c11 c12 c13 c14 c15 c16 c17 : Option D} : ∀ (ps : List (Nat × Nat)) (rs : List Row) (v3 : Option D), rs.length + 2 * ps.length ≤ 1000 → ∃ w3 : Option D,
    loopD (stepD (gnName 3) lawRB) (ps.map prD) [c0, c1, c2, v3, c4, c5, c6, some (.lst ((rs).map rowD)), c8, c9, c10, c11, c12, c13, c14, c15, c16, c17] = .nx [c0, c1, c2, w3, c4, c5, c6, some (.lst ((rs ++ rowsOf ps).map rowD)), c8, c9, c10, c11, c12, c13, c14, c15, c16, c17]
  | [], rs, v3, _ => ⟨v3, by rw [show rowsOf [] = [] from rfl, List.append_nil]; rfl⟩
  | p :: ps, rs, v3, h => by
    rw [List.length_cons] at h
    obtain ⟨w3, e⟩ := rows_loop (c0 := c0) (c1 := c1) (c2 := c2) (c4 := c4) (c5 := c5) (c6 := c6) (c8 := c8) (c9 := c9) (c10 := c10) (c11 := c11) (c12 := c12) (c13 := c13) (c14 := c14) (c15 := c15) (c16 := c16) (c17 := c17) ps (rs ++ [(p.1, p.2, 1), (p.2, p.1, 2)]) (some (prD p)) (by rw [List.length_append]; show rs.length + 2 + 2 * ps.length ≤ 1000; omega)
    refine ⟨w3, ?_⟩
    rw [List.map_cons]
    rw [show rs ++ rowsOf (p :: ps) = rs ++ [(p.1, p.2, 1), (p.2, p.1, 2)] ++ rowsOf ps by rw [List.append_assoc]; rfl]
    refine loop_cons (ρ1 := [c0, c1, c2, some (prD p), c4, c5, c6, some (.lst ((rs).map rowD)), c8, c9, c10, c11, c12, c13, c14, c15, c16, c17]) (ρ2 := [c0, c1, c2, some (prD p), c4, c5, c6, some (.lst ((rs ++ [(p.1, p.2, 1), (p.2, p.1, 2)]).map rowD)), c8, c9, c10, c11, c12, c13, c14, c15, c16, c17]) rfl ?_ e
    refine seq_nx (ρ' := [c0, c1, c2, some (prD p), c4, c5, c6, some (.lst ((rs ++ [(p.1, p.2, 1)]).map rowD)), c8, c9, c10, c11, c12, c13, c14, c15, c16, c17]) (Eq.trans (mut_append (xs := rs.map rowD) (y := rowD (p.1, p.2, 1)) rfl (cons_ok (mTup_ok (cons_ok (m2_ok rfl rfl (pr0 _)) (cons_ok (m2_ok rfl rfl (pr1 _)) (cons_ok rfl rfl))) (by show 3 ≤ 16777216; omega)) rfl) (by rw [List.length_map]; omega)) (by rw [List.map_append]; rfl)) ?_
    refine Eq.trans (mut_append (xs := (rs ++ [(p.1, p.2, 1)]).map rowD) (y := rowD (p.2, p.1, 2)) rfl (cons_ok (mTup_ok (cons_ok (m2_ok rfl rfl (pr1 _)) (cons_ok (m2_ok rfl rfl (pr0 _)) (cons_ok rfl rfl))) (by show 3 ≤ 16777216; omega)) rfl) (by rw [List.length_map, List.length_append, List.length_singleton]; omega)) ?_
    rw [show rs ++ [(p.1, p.2, 1), (p.2, p.1, 2)] = rs ++ [(p.1, p.2, 1)] ++ [(p.2, p.1, 2)] by rw [List.append_assoc]; rfl, List.map_append (l₁ := rs ++ [(p.1, p.2, 1)])]
    rfl
def lawJB : G.Env → Out := (mSeq (mSet 11 (mCallN 2 m__law_reach.fn (mCons (mVar 8) (mCons (mVar 4) mNil)))) (mSeq (mSet 12 (mCall (d1 D.toTup) (mCons (mLc [13] (mSq dRange1 (m2 D.mul (mC (.int 2)) (mVar 6))) (gnName 13) (mB (m2 D.isIn (m2 D.ix (m2 D.ix (m2 D.ix (mVar 8) (mC (.int 1))) (mVar 13)) (mC (.int 0))) (mVar 11))) (mVar 13)) mNil))) (mIf (mB (m2 D.notIn (mVar 12) (mVar 10))) (mMut "list" 10 dAppend (mCons (mVar 12) mNil) kDrop) mNext)))
theorem join_loop {m n : Nat} {rows : List Row} {c0 c1 c2 c3 c5 c7 c9 c14 c15 c16 c17 : Option D} (hm : m ≤ 100) (hr : rows.length ≤ 100) (hn : rows.length = 2 * n) : ∀ (ks : List Nat) (f : List (List Nat)) (v4 v11 v12 : Option D), f.length + ks.length ≤ 1000 → ∃ w4 w11 w12 : Option D,
    loopD (stepD (gnName 4) lawJB) (ks.map nI) [c0, c1, c2, c3, v4, c5, some (nI n), c7, some (webD m rows), c9, some (.lst ((f).map lotD)), v11, v12, none, c14, c15, c16, c17] = .nx [c0, c1, c2, c3, w4, c5, some (nI n), c7, some (webD m rows), c9, some (.lst ((foldA (compOf m rows) ks f).map lotD)), w11, w12, none, c14, c15, c16, c17]
  | [], f, v4, v11, v12, _ => ⟨v4, v11, v12, rfl⟩
  | k :: ks, f, v4, v11, v12, h => by
    rw [List.length_cons] at h
    have h1 := addL_len f (compOf m rows k)
    obtain ⟨w4, w11, w12, e⟩ := join_loop (c0 := c0) (c1 := c1) (c2 := c2) (c3 := c3) (c5 := c5) (c7 := c7) (c9 := c9) (c14 := c14) (c15 := c15) (c16 := c16) (c17 := c17) hm hr hn ks (addL f (compOf m rows k)) (some (nI k)) (some (.lst ((reachN rows m [k]).map nI))) (some (lotD (compOf m rows k))) (by omega)
    refine ⟨w4, w11, w12, ?_⟩
    rw [List.map_cons]
    refine loop_cons (ρ1 := [c0, c1, c2, c3, some (nI k), c5, some (nI n), c7, some (webD m rows), c9, some (.lst ((f).map lotD)), v11, v12, none, c14, c15, c16, c17]) (ρ2 := [c0, c1, c2, c3, some (nI k), c5, some (nI n), c7, some (webD m rows), c9, some (.lst ((addL f (compOf m rows k)).map lotD)), some (.lst ((reachN rows m [k]).map nI)), some (lotD (compOf m rows k)), none, c14, c15, c16, c17]) rfl ?_ e
    refine seq_nx (ρ' := [c0, c1, c2, c3, some (nI k), c5, some (nI n), c7, some (webD m rows), c9, some (.lst ((f).map lotD)), some (.lst ((reachN rows m [k]).map nI)), v12, none, c14, c15, c16, c17]) (set_nx (callN_ok (cons_ok rfl (cons_ok rfl rfl)) rfl (f_reach hm hr k))) ?_
    refine seq_nx (ρ' := [c0, c1, c2, c3, some (nI k), c5, some (nI n), c7, some (webD m rows), c9, some (.lst ((f).map lotD)), some (.lst ((reachN rows m [k]).map nI)), some (lotD (compOf m rows k)), none, c14, c15, c16, c17]) (set_nx (d := lotD (compOf m rows k)) (call1_ok (x := .lst ((compOf m rows k).map nI)) (Eq.trans (mLc_filN (emb := nI) (l := List.range (2 * n)) (fun j => decide ((rowK rows j).1 ∈ reachN rows m [k])) nI (sq_ok (m2_ok rfl rfl (mul2 n)) (range1_ok (by omega))) (by rw [List.length_range]; omega) fun j hj => ⟨b_ok (m2_ok (m2_ok (rowAt rfl rfl (by rw [hn]; exact List.mem_range.mp hj)) rfl (row0 _)) rfl (in_natL _ _)), rfl⟩) (by unfold compOf; rw [hn])) rfl)) ?_
    have hc : mB (m2 D.notIn (mVar 12) (mVar 10)) [c0, c1, c2, c3, some (nI k), c5, some (nI n), c7, some (webD m rows), c9, some (.lst ((f).map lotD)), some (.lst ((reachN rows m [k]).map nI)), some (lotD (compOf m rows k)), none, c14, c15, c16, c17] = .ok (!decide (compOf m rows k ∈ f)) := b_ok (m2_ok rfl rfl (Eq.trans (notIn_lst (n := 1) (by omega) (lot_ok1 _) lots_ok) (by rw [dIn_lot])))
    unfold addL
    by_cases q : compOf m rows k ∈ f
    · rw [if_pos q]
      rw [decide_eq_true q] at hc
      exact if_f hc rfl
    · rw [if_neg q]
      rw [decide_eq_false q] at hc
      exact if_t hc (Eq.trans (mut_append (xs := f.map lotD) (y := lotD (compOf m rows k)) rfl (cons_ok rfl rfl) (by rw [List.length_map]; omega)) (by rw [List.map_append]; rfl))
def lawKR : G.Env → Out := (mSeq (mSet 14 (mCall (d1 D.toTup) (mCons (mCall (d1 D.sortI') (mCons (m2 D.add (mLc [17] (mSq D.seq (mVar 12)) (gnName 17) mYes (m2 D.mul (mC (.int 2)) (mVar 17))) (mLc [17] (mSq D.seq (mVar 12)) (gnName 17) mYes (m2 D.add (m2 D.mul (mC (.int 2)) (mVar 17)) (mC (.int 1))))) mNil)) mNil))) (mSeq (mSet 15 (mCallN 3 m_agent_torn.fn (mCons (mVar 5) (mCons (mTup mNil) (mCons (mVar 12) mNil))))) (mSeq (mIf (mNot (mB (mCallN 2 m__law_flag.fn (mCons (mCallN 3 m_is_need_kept.fn (mCons (mVar 8) (mCons (mVar 9) (mCons (mVar 14) mNil)))) (mCons (m2 D.eq (mVar 15) (mTup mNil)) mNil))))) (mRet (mC (.bl false))) mNext) (mSeq (mSet 16 (mCallN 3 m_gain_harmed.fn (mCons (mVar 8) (mCons (mTup mNil) (mCons (mVar 14) mNil))))) (mIf (mOr (mB (m2 D.ne (m2 D.is (mVar 16) (mC .non)) (m2 D.eq (mVar 15) (mTup mNil)))) (mAnd (mB (m2 D.isnt (mVar 16) (mC .non))) (mB (m2 D.ne (mVar 16) (m2 D.ix (mVar 15) (mC (.int 0))))))) (mRet (mC (.bl false))) mNext)))))
def lawKB : G.Env → Out := (mSeq (mSet 12 (mCallN 2 m__law_lot.fn (mCons (mCallN 2 m__law_at.fn (mCons (mVar 0) (mCons (m2 D.add (mC (.int 2)) (mVar 13)) mNil))) (mCons (mVar 6) mNil)))) (mSeq (mIf (mB (m2 D.eq (mVar 13) (mC (.int 0)))) (mSet 12 (mCall (d1 D.toTup) (mCons (mLc [17] (mSq D.seq (m2 D.ix (mVar 10) (mC (.int 0)))) (gnName 17) (mB (m2 D.eq (m2 D.mod (mVar 17) (mC (.int 2))) (mC (.int 0)))) (m2 D.fdiv (mVar 17) (mC (.int 2)))) mNil))) mNext) (mSeq (mSet 14 (mCall (d1 D.toTup) (mCons (mCall (d1 D.sortI') (mCons (m2 D.add (mLc [17] (mSq D.seq (mVar 12)) (gnName 17) mYes (m2 D.mul (mC (.int 2)) (mVar 17))) (mLc [17] (mSq D.seq (mVar 12)) (gnName 17) mYes (m2 D.add (m2 D.mul (mC (.int 2)) (mVar 17)) (mC (.int 1))))) mNil)) mNil))) (mSeq (mSet 15 (mCallN 3 m_agent_torn.fn (mCons (mVar 5) (mCons (mTup mNil) (mCons (mVar 12) mNil))))) (mSeq (mIf (mNot (mB (mCallN 2 m__law_flag.fn (mCons (mCallN 3 m_is_need_kept.fn (mCons (mVar 8) (mCons (mVar 9) (mCons (mVar 14) mNil)))) (mCons (m2 D.eq (mVar 15) (mTup mNil)) mNil))))) (mRet (mC (.bl false))) mNext) (mSeq (mSet 16 (mCallN 3 m_gain_harmed.fn (mCons (mVar 8) (mCons (mTup mNil) (mCons (mVar 14) mNil))))) (mIf (mOr (mB (m2 D.ne (m2 D.is (mVar 16) (mC .non)) (m2 D.eq (mVar 15) (mTup mNil)))) (mAnd (mB (m2 D.isnt (mVar 16) (mC .non))) (mB (m2 D.ne (mVar 16) (m2 D.ix (mVar 15) (mC (.int 0))))))) (mRet (mC (.bl false))) mNext)))))))
theorem law_rest {m : Nat} {ps : List (Nat × Nat)} {c0 c1 c2 c3 c4 c7 c10 c11 : Option D} (h : DOk m ps) {lot : List Nat} (hl : Lot ps.length lot) (v13 v14 v15 v16 : Option D) : ∃ w14 w15 w16 : Option D, lawKR [c0, c1, c2, c3, c4, some (dealsD m ps), some (nI ps.length), c7, some (webD m (rowsOf ps)), some (needsD (fullL (rowsOf ps))), c10, c11, some (lotD lot), v13, v14, v15, v16, none] = .nx [c0, c1, c2, c3, c4, some (dealsD m ps), some (nI ps.length), c7, some (webD m (rowsOf ps)), some (needsD (fullL (rowsOf ps))), c10, c11, some (lotD lot), v13, w14, w15, w16, none] := by
  have v := valid_of h
  have hp5 := h.p5
  have hll := hl.length
  have hb : Lot (rowsOf ps).length (bothN lot) := by rw [rowsOf_len]; exact lot_bothN hl
  have hk : keepsB (fullL (rowsOf ps)) (bothN lot) = (tornL m ps lot).isEmpty := by rw [keeps_closed v.ok hb.1, closedB_hurt, hurt_torn]
  have hf : firstH m (rowsOf ps) [] (bothN lot) = (tornL m ps lot).head? := by rw [firstH_eq, hurt_torn]
  have et := f_agentTorn h hl
  have eh := f_gainHarmed v (lot_nil m) hb
  rw [hf] at eh
  obtain ⟨T, eT⟩ : ∃ T, T = tornL m ps lot := ⟨_, rfl⟩
  rw [← eT] at hk eh et
  refine ⟨some (lotD (bothN lot)), some (lotD T), some (optD T.head?), ?_⟩
  refine seq_nx (ρ' := [c0, c1, c2, c3, c4, some (dealsD m ps), some (nI ps.length), c7, some (webD m (rowsOf ps)), some (needsD (fullL (rowsOf ps))), c10, c11, some (lotD lot), v13, some (lotD (bothN lot)), v15, v16, none]) (set_nx (d := lotD (bothN lot)) (call1_ok (x := .lst ((bothN lot).map nI)) (call1_ok (x := .lst ((lot.map (fun x => 2 * x) ++ lot.map fun x => 2 * x + 1).map nI)) (m2_ok (Eq.trans (mLc_mapN (emb := nI) (l := lot) (fun x => nI (2 * x)) (sq_ok rfl rfl) (by omega) fun x _ => m2_ok rfl rfl (mul2 x)) (show _ = R.ok (D.lst ((lot.map fun x => 2 * x).map nI)) by rw [List.map_map]; rfl)) (Eq.trans (mLc_mapN (emb := nI) (l := lot) (fun x => nI (2 * x + 1)) (sq_ok rfl rfl) (by omega) fun x _ => m2_ok (m2_ok rfl rfl (mul2 x)) rfl rfl) (show _ = R.ok (D.lst ((lot.map fun x => 2 * x + 1).map nI)) by rw [List.map_map]; rfl)) (Eq.trans (add_lst (by rw [List.length_map, List.length_map, List.length_map, List.length_map]; omega)) (by rw [List.map_append (f := nI)]))) (Eq.trans (sortI_lst _) (by rw [sortI_srt (raw_nodup hl.nodup)]; rfl))) rfl)) ?_
  refine seq_nx (ρ' := [c0, c1, c2, c3, c4, some (dealsD m ps), some (nI ps.length), c7, some (webD m (rowsOf ps)), some (needsD (fullL (rowsOf ps))), c10, c11, some (lotD lot), v13, some (lotD (bothN lot)), some (lotD T), v16, none]) (set_nx (callN_ok (cons_ok rfl (cons_ok nil_ok (cons_ok rfl rfl))) rfl et)) ?_
  refine seq_nx (ρ' := [c0, c1, c2, c3, c4, some (dealsD m ps), some (nI ps.length), c7, some (webD m (rowsOf ps)), some (needsD (fullL (rowsOf ps))), c10, c11, some (lotD lot), v13, some (lotD (bothN lot)), some (lotD T), v16, none]) (if_f (not_ok (x := true) (b_ok (callN_ok (cons_ok (callN_ok (cons_ok rfl (cons_ok rfl (cons_ok rfl rfl))) rfl (f_isNeedKept (Sit.mk' v (full_ok _)) hb)) (cons_ok (m2_ok rfl nil_ok (eq_nilD T)) rfl)) rfl (f_flag _ _ hk)))) rfl) ?_
  refine seq_nx (ρ' := [c0, c1, c2, c3, c4, some (dealsD m ps), some (nI ps.length), c7, some (webD m (rowsOf ps)), some (needsD (fullL (rowsOf ps))), c10, c11, some (lotD lot), v13, some (lotD (bothN lot)), some (lotD T), some (optD T.head?), none]) (set_nx (callN_ok (cons_ok rfl (cons_ok nil_ok (cons_ok rfl rfl))) rfl eh)) ?_
  refine if_f ?_ rfl
  cases T with
  | nil => exact or_tf (x := false) (y := false) (b_ok (m2_ok (m2_ok rfl rfl (is_opt _)) (m2_ok rfl nil_ok (eq_nilD _)) (ne_blD _ _))) (and_f (b_ok (m2_ok rfl rfl rfl)))
  | cons p t => exact or_tf (x := false) (y := false) (b_ok (m2_ok (m2_ok rfl rfl (is_opt _)) (m2_ok rfl nil_ok (eq_nilD _)) (ne_blD _ _))) (and_tf (x := true) (y := false) (b_ok (m2_ok rfl rfl rfl)) (b_ok (m2_ok rfl (m2_ok rfl rfl (show D.ix (lotD (p :: t)) (.int 0) = .ok (nI p) from lotD_ix (l := p :: t) (k := 0) (by rw [List.length_cons]; omega))) (show D.ne (nI p) (nI p) = .ok (.bl false) from Eq.trans (dne _ _) (by rw [decide_eq_true rfl]; rfl)))))
theorem law_last {ns : List Int} {m : Nat} {ps : List (Nat × Nat)} {X : List (List Nat)} {c1 c2 c3 c4 c7 c11 : Option D} (hns : ns.length ≤ 63) (h : DOk m ps) (h0 : 0 < X.length) (hX : ∀ l ∈ X, Lot (2 * ps.length) l) : ∀ (ks : List Nat) (v12 v13 v14 v15 v16 : Option D), (∀ k ∈ ks, k < 4) → ∃ w12 w13 w14 w15 w16 : Option D,
    loopD (stepD (gnName 13) lawKB) (ks.map nI) [some (.scr (ns.map D.int)), c1, c2, c3, c4, some (dealsD m ps), some (nI ps.length), c7, some (webD m (rowsOf ps)), some (needsD (fullL (rowsOf ps))), some (.lst ((X).map lotD)), c11, v12, v13, v14, v15, v16, none] = .nx [some (.scr (ns.map D.int)), c1, c2, c3, c4, some (dealsD m ps), some (nI ps.length), c7, some (webD m (rowsOf ps)), some (needsD (fullL (rowsOf ps))), some (.lst ((X).map lotD)), c11, w12, w13, w14, w15, w16, none]
  | [], v12, v13, v14, v15, v16, _ => ⟨v12, v13, v14, v15, v16, rfl⟩
  | k :: ks, v12, v13, v14, v15, v16, hk => by
    have hk4 := hk k (.head _)
    have hp5 := h.p5
    obtain ⟨i, ai⟩ := f_at ns (2 + k) hns (by omega)
    obtain ⟨lot0, el, hl0⟩ := f_lot i ps.length (by omega)
    have hc : mB (m2 D.eq (mVar 13) (mC (.int 0))) [some (.scr (ns.map D.int)), c1, c2, c3, c4, some (dealsD m ps), some (nI ps.length), c7, some (webD m (rowsOf ps)), some (needsD (fullL (rowsOf ps))), some (.lst ((X).map lotD)), c11, some (lotD lot0), some (nI k), v14, v15, v16, none] = .ok (decide (k = 0)) := b_ok (m2_ok rfl rfl (deqN k 0))
    have s1 : mSet 12 (mCallN 2 m__law_lot.fn (mCons (mCallN 2 m__law_at.fn (mCons (mVar 0) (mCons (m2 D.add (mC (.int 2)) (mVar 13)) mNil))) (mCons (mVar 6) mNil))) [some (.scr (ns.map D.int)), c1, c2, c3, c4, some (dealsD m ps), some (nI ps.length), c7, some (webD m (rowsOf ps)), some (needsD (fullL (rowsOf ps))), some (.lst ((X).map lotD)), c11, v12, some (nI k), v14, v15, v16, none] = .nx [some (.scr (ns.map D.int)), c1, c2, c3, c4, some (dealsD m ps), some (nI ps.length), c7, some (webD m (rowsOf ps)), some (needsD (fullL (rowsOf ps))), some (.lst ((X).map lotD)), c11, some (lotD lot0), some (nI k), v14, v15, v16, none] := set_nx (callN_ok (cons_ok (callN_ok (cons_ok rfl (cons_ok rfl rfl)) rfl ai) (cons_ok rfl rfl)) rfl el)
    have s2 : ∃ lot, Lot ps.length lot ∧ (mIf (mB (m2 D.eq (mVar 13) (mC (.int 0)))) (mSet 12 (mCall (d1 D.toTup) (mCons (mLc [17] (mSq D.seq (m2 D.ix (mVar 10) (mC (.int 0)))) (gnName 17) (mB (m2 D.eq (m2 D.mod (mVar 17) (mC (.int 2))) (mC (.int 0)))) (m2 D.fdiv (mVar 17) (mC (.int 2)))) mNil))) mNext) [some (.scr (ns.map D.int)), c1, c2, c3, c4, some (dealsD m ps), some (nI ps.length), c7, some (webD m (rowsOf ps)), some (needsD (fullL (rowsOf ps))), some (.lst ((X).map lotD)), c11, some (lotD lot0), some (nI k), v14, v15, v16, none] = .nx [some (.scr (ns.map D.int)), c1, c2, c3, c4, some (dealsD m ps), some (nI ps.length), c7, some (webD m (rowsOf ps)), some (needsD (fullL (rowsOf ps))), some (.lst ((X).map lotD)), c11, some (lotD lot), some (nI k), v14, v15, v16, none] := by
      by_cases q : k = 0
      · rw [decide_eq_true q] at hc
        have hL := hX X[0] (List.getElem_mem _)
        have hLl := hL.length
        refine ⟨_, half_lot hL, if_t hc (set_nx (d := lotD ((X[0].filter fun x => decide (x % 2 = 0)).map fun x => x / 2)) (call1_ok (x := .lst (((X[0].filter fun x => decide (x % 2 = 0)).map fun x => x / 2).map nI)) (Eq.trans (mLc_filN (emb := nI) (l := X[0]) (fun x => decide (x % 2 = 0)) (fun x => nI (x / 2)) (sq_ok (m2_ok rfl rfl (lots_ix (k := 0) h0)) rfl) (by omega) fun x _ => ⟨b_ok (m2_ok (m2_ok rfl rfl (modN (b := 2) (by omega))) rfl (deqN _ 0)), m2_ok rfl rfl (fdivN (b := 2) (by omega) (by omega))⟩) (by rw [List.map_map]; rfl)) rfl))⟩
      · rw [decide_eq_false q] at hc
        exact ⟨lot0, hl0, if_f hc rfl⟩
    obtain ⟨lot, hl, e2⟩ := s2
    obtain ⟨w14, w15, w16, e3⟩ := law_rest (c0 := some (.scr (ns.map D.int))) (c1 := c1) (c2 := c2) (c3 := c3) (c4 := c4) (c7 := c7) (c10 := some (.lst ((X).map lotD))) (c11 := c11) h hl (some (nI k)) v14 v15 v16
    obtain ⟨u12, u13, u14, u15, u16, e⟩ := law_last (c1 := c1) (c2 := c2) (c3 := c3) (c4 := c4) (c7 := c7) (c11 := c11) hns h h0 hX ks (some (lotD lot)) (some (nI k)) w14 w15 w16 fun j hj => hk j (.tail _ hj)
    refine ⟨u12, u13, u14, u15, u16, ?_⟩
    rw [List.map_cons]
    exact loop_cons (ρ1 := [some (.scr (ns.map D.int)), c1, c2, c3, c4, some (dealsD m ps), some (nI ps.length), c7, some (webD m (rowsOf ps)), some (needsD (fullL (rowsOf ps))), some (.lst ((X).map lotD)), c11, v12, some (nI k), v14, v15, v16, none]) (ρ2 := [some (.scr (ns.map D.int)), c1, c2, c3, c4, some (dealsD m ps), some (nI ps.length), c7, some (webD m (rowsOf ps)), some (needsD (fullL (rowsOf ps))), some (.lst ((X).map lotD)), c11, some (lotD lot), some (nI k), w14, w15, w16, none]) rfl (seq_nx s1 (seq_nx e2 e3)) e
theorem law_true (ns : List Int) (h : ns.length ≤ 63) : m_law.fn [.scr (ns.map D.int)] = .ok (.bl true) := by
  obtain ⟨i0, a0⟩ := f_at ns 0 h (by omega)
  obtain ⟨i1, a1⟩ := f_at ns 1 h (by omega)
  obtain ⟨m0, d, ed, h6, h1, h7, hok⟩ := f_deals i0 i1
  have hdl : (d.take 5).length ≤ 5 := by rw [List.length_take]; omega
  have hd1 : 1 ≤ (d.take 5).length := by rw [List.length_take]; omega
  have hdok : ∀ p ∈ d.take 5, p.1 < m0 ∧ p.2 < m0 ∧ p.1 ≠ p.2 := fun p hp => hok p (List.mem_of_mem_take hp)
  have hD := named_ok h6 hd1 hdl hdok
  have hmem : ∀ p ∈ d.take 5, p.1 ∈ namesL (d.take 5) [] ∧ p.2 ∈ namesL (d.take 5) [] := fun p hp => ⟨mem_names.mpr (.inr ⟨p, hp, .inl rfl⟩), mem_names.mpr (.inr ⟨p, hp, .inr rfl⟩)⟩
  obtain ⟨nm, enm⟩ : ∃ nm, nm = namesL (d.take 5) [] := ⟨_, rfl⟩
  obtain ⟨ps, eps⟩ : ∃ ps, ps = named (d.take 5) := ⟨_, rfl⟩
  have eps2 : ps = (d.take 5).map fun p => (nm.idxOf p.1, nm.idxOf p.2) := by rw [eps, enm]; rfl
  rw [← enm, ← eps] at hD
  rw [← enm] at hmem
  have hp5 := hD.p5
  have hm6 := hD.m6
  have hm2 := hD.m2
  have v := valid_of hD
  have hrl := rowsOf_len ps
  have hg : gainLgD nm.length (rowsOf ps) = .non := by
    have := (nogain_round v.ok).mpr (round_of ps)
    unfold gainLgD
    rw [Option.isNone_iff_eq_none.mp this]
  have egl := f_gainLeague v
  rw [hg] at egl
  have hbk : Both (rowsOf ps) := fun r hr => back_row hr
  obtain ⟨X, eX⟩ : ∃ X, X = joinL nm.length (rowsOf ps) := ⟨_, rfl⟩
  have hX : ∀ l ∈ X, Lot (2 * ps.length) l := fun l hl => by
    rw [eX] at hl
    obtain ⟨p, _, e⟩ := mem_join.mp hl
    rw [e, ← hrl]
    exact fil_lot _ _
  have hX0 : 0 < X.length := List.length_pos_of_mem (a := compOf nm.length (rowsOf ps) 0) (by rw [eX]; exact mem_join.mpr ⟨0, by omega, rfl⟩)
  have hXn : ∀ l ∈ X, l ≠ [] := by rw [eX]; exact join_ne v
  have hXb : sortD ((bndL nm.length (rowsOf ps)).map lotD) = sortD (X.map lotD) := by rw [eX]; exact join_bnd v
  have hok1 : (sortD ((bndL nm.length (rowsOf ps)).map lotD)).all (okD 1) = true := by rw [sort_all]; exact lots_ok
  obtain ⟨x3, x4, enl⟩ := names_loop (c0 := some (.scr (ns.map D.int))) (c1 := some (dealsD m0 d)) (c5 := none) (c6 := none) (c7 := none) (c8 := none) (c9 := none) (c10 := none) (c11 := none) (c12 := none) (c13 := none) (c14 := none) (c15 := none) (c16 := none) (c17 := none) (d.take 5) [] none none (by rw [List.length_nil]; omega)
  rw [← enm] at enl
  obtain ⟨y3, erl⟩ := rows_loop (c0 := some (.scr (ns.map D.int))) (c1 := some (dealsD m0 d)) (c2 := some (.lst ((nm).map nI))) (c4 := x4) (c5 := some (dealsD nm.length ps)) (c6 := some (nI ps.length)) (c8 := none) (c9 := none) (c10 := none) (c11 := none) (c12 := none) (c13 := none) (c14 := none) (c15 := none) (c16 := none) (c17 := none) ps [] x3 (by rw [List.length_nil]; omega)
  rw [List.nil_append] at erl
  obtain ⟨z4, z11, z12, ejl⟩ := join_loop (c0 := some (.scr (ns.map D.int))) (c1 := some (dealsD m0 d)) (c2 := some (.lst ((nm).map nI))) (c3 := y3) (c5 := some (dealsD nm.length ps)) (c7 := some (.lst ((rowsOf ps).map rowD))) (c9 := some (needsD (fullL (rowsOf ps)))) (c14 := none) (c15 := none) (c16 := none) (c17 := none) (show nm.length ≤ 100 by omega) (show (rowsOf ps).length ≤ 100 by omega) hrl (List.range nm.length) [] x4 none none (by rw [List.length_range, List.length_nil]; omega)
  rw [show foldA (compOf nm.length (rowsOf ps)) (List.range nm.length) [] = X from eX.symm] at ejl
  obtain ⟨u12, u13, u14, u15, u16, ell⟩ := law_last (c1 := some (dealsD m0 d)) (c2 := some (.lst ((nm).map nI))) (c3 := y3) (c4 := z4) (c7 := some (.lst ((rowsOf ps).map rowD))) (c11 := z11) h hD hX0 hX (List.range 4) z12 none none none none fun k hk => List.mem_range.mp hk
  rw [fn_run rfl]
  show (b_law [some (.scr (ns.map D.int)), none, none, none, none, none, none, none, none, none, none, none, none, none, none, none, none, none]).res = _
  unfold b_law
  refine seq_res (ρ' := [some (.scr (ns.map D.int)), some (dealsD m0 d), none, none, none, none, none, none, none, none, none, none, none, none, none, none, none, none]) (set_nx (d := dealsD m0 d) (callN_ok (cons_ok (callN_ok (cons_ok rfl (cons_ok rfl rfl)) rfl a0) (cons_ok (callN_ok (cons_ok rfl (cons_ok rfl rfl)) rfl a1) rfl)) rfl ed)) ?_
  refine seq_res (ρ' := [some (.scr (ns.map D.int)), some (dealsD m0 d), some (.lst (([] : List Nat).map nI)), none, none, none, none, none, none, none, none, none, none, none, none, none, none, none]) (set_nx (d := .lst (([] : List Nat).map nI)) (mLst_ok rfl (by show 0 ≤ 16777216; omega))) ?_
  refine seq_res (ρ' := [some (.scr (ns.map D.int)), some (dealsD m0 d), some (.lst (nm.map nI)), x3, x4, none, none, none, none, none, none, none, none, none, none, none, none, none]) (for_ok (sq_ok sl5 rfl) enl) ?_
  refine seq_res (ρ' := [some (.scr (ns.map D.int)), some (dealsD m0 d), some (.lst (nm.map nI)), x3, x4, some (dealsD nm.length ps), none, none, none, none, none, none, none, none, none, none, none, none]) (set_nx (d := dealsD nm.length ps) (mTup_ok (cons_ok (call1_ok rfl (Eq.trans (len_lst _) (by rw [List.length_map]))) (cons_ok (call1_ok (x := .lst (ps.map prD)) (Eq.trans (mLc_mapN (emb := prD) (l := d.take 5) (fun p => prD (nm.idxOf p.1, nm.idxOf p.2)) (sq_ok sl5 rfl) (by omega) fun p hp => mTup_ok (cons_ok (index_ok rfl (cons_ok (m2_ok rfl rfl (pr0 _)) rfl) (hmem p hp).1) (cons_ok (index_ok rfl (cons_ok (m2_ok rfl rfl (pr1 _)) rfl) (hmem p hp).2) rfl)) (by show 2 ≤ 16777216; omega)) (by rw [eps2, List.map_map]; rfl)) rfl) rfl)) (by show 2 ≤ 16777216; omega))) ?_
  refine seq_res (ρ' := [some (.scr (ns.map D.int)), some (dealsD m0 d), some (.lst (nm.map nI)), x3, x4, some (dealsD nm.length ps), some (nI ps.length), none, none, none, none, none, none, none, none, none, none, none]) (set_nx (d := nI ps.length) (call1_ok (m2_ok rfl rfl (deals1 _ _)) (Eq.trans (len_tup _) (by rw [List.length_map])))) ?_
  refine seq_res (ρ' := [some (.scr (ns.map D.int)), some (dealsD m0 d), some (.lst (nm.map nI)), x3, x4, some (dealsD nm.length ps), some (nI ps.length), some (.lst (([] : List Row).map rowD)), none, none, none, none, none, none, none, none, none, none]) (set_nx (d := .lst (([] : List Row).map rowD)) (mLst_ok rfl (by show 0 ≤ 16777216; omega))) ?_
  refine seq_res (ρ' := [some (.scr (ns.map D.int)), some (dealsD m0 d), some (.lst (nm.map nI)), y3, x4, some (dealsD nm.length ps), some (nI ps.length), some (.lst ((rowsOf ps).map rowD)), none, none, none, none, none, none, none, none, none, none]) (for_ok (sq_ok (m2_ok rfl rfl (deals1 _ _)) rfl) erl) ?_
  refine seq_res (ρ' := [some (.scr (ns.map D.int)), some (dealsD m0 d), some (.lst (nm.map nI)), y3, x4, some (dealsD nm.length ps), some (nI ps.length), some (.lst ((rowsOf ps).map rowD)), some (webD nm.length (rowsOf ps)), none, none, none, none, none, none, none, none, none]) (set_nx (d := webD nm.length (rowsOf ps)) (mTup_ok (cons_ok (m2_ok rfl rfl (deals0 _ _)) (cons_ok (call1_ok rfl rfl) rfl)) (by show 2 ≤ 16777216; omega))) ?_
  refine seq_res (ρ' := [some (.scr (ns.map D.int)), some (dealsD m0 d), some (.lst (nm.map nI)), y3, x4, some (dealsD nm.length ps), some (nI ps.length), some (.lst ((rowsOf ps).map rowD)), some (webD nm.length (rowsOf ps)), none, none, none, none, none, none, none, none, none]) (if_f (b_ok (m2_ok (callN_ok (cons_ok rfl rfl) rfl egl) rfl rfl)) rfl) ?_
  refine seq_res (ρ' := [some (.scr (ns.map D.int)), some (dealsD m0 d), some (.lst (nm.map nI)), y3, x4, some (dealsD nm.length ps), some (nI ps.length), some (.lst ((rowsOf ps).map rowD)), some (webD nm.length (rowsOf ps)), some (needsD (fullL (rowsOf ps))), none, none, none, none, none, none, none, none]) (set_nx (d := needsD (fullL (rowsOf ps))) (callN_ok (cons_ok rfl rfl) rfl (f_needFull v))) ?_
  refine seq_res (ρ' := [some (.scr (ns.map D.int)), some (dealsD m0 d), some (.lst (nm.map nI)), y3, x4, some (dealsD nm.length ps), some (nI ps.length), some (.lst ((rowsOf ps).map rowD)), some (webD nm.length (rowsOf ps)), some (needsD (fullL (rowsOf ps))), some (.lst (([] : List (List Nat)).map lotD)), none, none, none, none, none, none, none]) (set_nx (d := .lst (([] : List (List Nat)).map lotD)) (mLst_ok rfl (by show 0 ≤ 16777216; omega))) ?_
  refine seq_res (ρ' := [some (.scr (ns.map D.int)), some (dealsD m0 d), some (.lst (nm.map nI)), y3, z4, some (dealsD nm.length ps), some (nI ps.length), some (.lst ((rowsOf ps).map rowD)), some (webD nm.length (rowsOf ps)), some (needsD (fullL (rowsOf ps))), some (.lst (X.map lotD)), z11, z12, none, none, none, none, none]) (for_ok (sq_ok (m2_ok rfl rfl (deals0 _ _)) (range1_ok (by omega))) ejl) ?_
  refine seq_res (ρ' := [some (.scr (ns.map D.int)), some (dealsD m0 d), some (.lst (nm.map nI)), y3, z4, some (dealsD nm.length ps), some (nI ps.length), some (.lst ((rowsOf ps).map rowD)), some (webD nm.length (rowsOf ps)), some (needsD (fullL (rowsOf ps))), some (.lst (X.map lotD)), z11, z12, none, none, none, none, none]) (if_f (b_ok (m2_ok (callN_ok (cons_ok rfl (cons_ok rfl rfl)) rfl (f_needBound v hbk)) (call1_ok (call1_ok rfl (sortT_bnd hXn)) rfl) (tups_ne _ _ hXb hok1))) rfl) ?_
  refine seq_res (ρ' := [some (.scr (ns.map D.int)), some (dealsD m0 d), some (.lst (nm.map nI)), y3, z4, some (dealsD nm.length ps), some (nI ps.length), some (.lst ((rowsOf ps).map rowD)), some (webD nm.length (rowsOf ps)), some (needsD (fullL (rowsOf ps))), some (.lst (X.map lotD)), z11, u12, u13, u14, u15, u16, none]) (for_ok (sq_ok rfl (range1_ok (n := 4) (by omega))) ell) ?_
  exact ret_res rfl
end L
namespace L
open PySem PySem.Spec PyProof.Rows L2 G
def d__law_mixed : He.DefD := ⟨("_law_mixed", none), "_law_mixed", "_law_mixed", defArgs s__law_mixed, defBody s__law_mixed, defScope s__law_mixed, [], []⟩
def d__law_row : He.DefD := ⟨("_law_row", none), "_law_row", "_law_row", defArgs s__law_row, defBody s__law_row, defScope s__law_row, [], []⟩
def d__law_deals : He.DefD := ⟨("_law_deals", none), "_law_deals", "_law_deals", defArgs s__law_deals, defBody s__law_deals, defScope s__law_deals, [], []⟩
def d__law_at : He.DefD := ⟨("_law_at", none), "_law_at", "_law_at", defArgs s__law_at, defBody s__law_at, defScope s__law_at, [], []⟩
def d_is_tuple_of : He.DefD := ⟨("is_tuple_of", none), "is_tuple_of", "is_tuple_of", defArgs s_is_tuple_of, defBody s_is_tuple_of, defScope s_is_tuple_of, [], []⟩
def d_is_integer : He.DefD := ⟨("is_integer", none), "is_integer", "is_integer", defArgs s_is_integer, defBody s_is_integer, defScope s_is_integer, [], []⟩
def d_is_between : He.DefD := ⟨("is_between", none), "is_between", "is_between", defArgs s_is_between, defBody s_is_between, defScope s_is_between, [], []⟩
def d_is_under : He.DefD := ⟨("is_under", none), "is_under", "is_under", defArgs s_is_under, defBody s_is_under, defScope s_is_under, [], []⟩
def d_is_row : He.DefD := ⟨("is_row", none), "is_row", "is_row", defArgs s_is_row, defBody s_is_row, defScope s_is_row, [], []⟩
def d_is_web : He.DefD := ⟨("is_web", none), "is_web", "is_web", defArgs s_is_web, defBody s_is_web, defScope s_is_web, [], []⟩
def d_need_web : He.DefD := ⟨("need_web", none), "need_web", "need_web", defArgs s_need_web, defBody s_need_web, defScope s_need_web, [], []⟩
def d_all_lots : He.DefD := ⟨("all_lots", none), "all_lots", "all_lots", defArgs s_all_lots, defBody s_all_lots, defScope s_all_lots, [], []⟩
def d_given_by : He.DefD := ⟨("given_by", none), "given_by", "given_by", defArgs s_given_by, defBody s_given_by, defScope s_given_by, [], []⟩
def d_got_by : He.DefD := ⟨("got_by", none), "got_by", "got_by", defArgs s_got_by, defBody s_got_by, defScope s_got_by, [], []⟩
def d_is_harmed : He.DefD := ⟨("is_harmed", none), "is_harmed", "is_harmed", defArgs s_is_harmed, defBody s_is_harmed, defScope s_is_harmed, [], []⟩
def d_first_harmed : He.DefD := ⟨("first_harmed", none), "first_harmed", "first_harmed", defArgs s_first_harmed, defBody s_first_harmed, defScope s_first_harmed, [], []⟩
def d_closed_list : He.DefD := ⟨("closed_list", none), "closed_list", "closed_list", defArgs s_closed_list, defBody s_closed_list, defScope s_closed_list, [], []⟩
def d_got_from_outside : He.DefD := ⟨("got_from_outside", none), "got_from_outside", "got_from_outside", defArgs s_got_from_outside, defBody s_got_from_outside, defScope s_got_from_outside, [], []⟩
def d_given_outside : He.DefD := ⟨("given_outside", none), "given_outside", "given_outside", defArgs s_given_outside, defBody s_given_outside, defScope s_given_outside, [], []⟩
def d_end_of : He.DefD := ⟨("end_of", none), "end_of", "end_of", defArgs s_end_of, defBody s_end_of, defScope s_end_of, [], []⟩
def d_gain_of : He.DefD := ⟨("gain_of", none), "gain_of", "gain_of", defArgs s_gain_of, defBody s_gain_of, defScope s_gain_of, [], []⟩
def d_gain_league : He.DefD := ⟨("gain_league", none), "gain_league", "gain_league", defArgs s_gain_league, defBody s_gain_league, defScope s_gain_league, [], []⟩
def d_need_full : He.DefD := ⟨("need_full", none), "need_full", "need_full", defArgs s_need_full, defBody s_need_full, defScope s_need_full, [], []⟩
def d__law_reach : He.DefD := ⟨("_law_reach", none), "_law_reach", "_law_reach", defArgs s__law_reach, defBody s__law_reach, defScope s__law_reach, [], []⟩
def d_are_under : He.DefD := ⟨("are_under", none), "are_under", "are_under", defArgs s_are_under, defBody s_are_under, defScope s_are_under, [], []⟩
def d_is_lot : He.DefD := ⟨("is_lot", none), "is_lot", "is_lot", defArgs s_is_lot, defBody s_is_lot, defScope s_is_lot, [], []⟩
def d_is_need : He.DefD := ⟨("is_need", none), "is_need", "is_need", defArgs s_is_need, defBody s_is_need, defScope s_is_need, [], []⟩
def d_are_needs : He.DefD := ⟨("are_needs", none), "are_needs", "are_needs", defArgs s_are_needs, defBody s_are_needs, defScope s_are_needs, [], []⟩
def d_need_needs : He.DefD := ⟨("need_needs", none), "need_needs", "need_needs", defArgs s_need_needs, defBody s_need_needs, defScope s_need_needs, [], []⟩
def d_grown_by : He.DefD := ⟨("grown_by", none), "grown_by", "grown_by", defArgs s_grown_by, defBody s_grown_by, defScope s_grown_by, [], []⟩
def d_need_bound : He.DefD := ⟨("need_bound", none), "need_bound", "need_bound", defArgs s_need_bound, defBody s_need_bound, defScope s_need_bound, [], []⟩
def d__law_lot : He.DefD := ⟨("_law_lot", none), "_law_lot", "_law_lot", defArgs s__law_lot, defBody s__law_lot, defScope s__law_lot, [], []⟩
def d_are_deals : He.DefD := ⟨("are_deals", none), "are_deals", "are_deals", defArgs s_are_deals, defBody s_are_deals, defScope s_are_deals, [], []⟩
def d_need_deals : He.DefD := ⟨("need_deals", none), "need_deals", "need_deals", defArgs s_need_deals, defBody s_need_deals, defScope s_need_deals, [], []⟩
def d_need_free : He.DefD := ⟨("need_free", none), "need_free", "need_free", defArgs s_need_free, defBody s_need_free, defScope s_need_free, [], []⟩
def d_deals_of : He.DefD := ⟨("deals_of", none), "deals_of", "deals_of", defArgs s_deals_of, defBody s_deals_of, defScope s_deals_of, [], []⟩
def d_agent_torn : He.DefD := ⟨("agent_torn", none), "agent_torn", "agent_torn", defArgs s_agent_torn, defBody s_agent_torn, defScope s_agent_torn, [], []⟩
def d__law_flag : He.DefD := ⟨("_law_flag", none), "_law_flag", "_law_flag", defArgs s__law_flag, defBody s__law_flag, defScope s__law_flag, [], []⟩
def d_is_kept_lot : He.DefD := ⟨("is_kept_lot", none), "is_kept_lot", "is_kept_lot", defArgs s_is_kept_lot, defBody s_is_kept_lot, defScope s_is_kept_lot, [], []⟩
def d_is_need_kept : He.DefD := ⟨("is_need_kept", none), "is_need_kept", "is_need_kept", defArgs s_is_need_kept, defBody s_is_need_kept, defScope s_is_need_kept, [], []⟩
def d_need_league : He.DefD := ⟨("need_league", none), "need_league", "need_league", defArgs s_need_league, defBody s_need_league, defScope s_need_league, [], []⟩
def d_need_lot : He.DefD := ⟨("need_lot", none), "need_lot", "need_lot", defArgs s_need_lot, defBody s_need_lot, defScope s_need_lot, [], []⟩
def d_gain_harmed : He.DefD := ⟨("gain_harmed", none), "gain_harmed", "gain_harmed", defArgs s_gain_harmed, defBody s_gain_harmed, defScope s_gain_harmed, [], []⟩
def d_law : He.DefD := ⟨("law", none), "law", "law", defArgs s_law, defBody s_law, defScope s_law, [], []⟩
def fnL : List He.DefD := [d__law_mixed, d__law_row, d__law_deals, d__law_at, d_is_tuple_of, d_is_integer, d_is_between, d_is_under, d_is_row, d_is_web, d_need_web, d_all_lots, d_given_by, d_got_by, d_is_harmed, d_first_harmed, d_closed_list, d_got_from_outside, d_given_outside, d_end_of, d_gain_of, d_gain_league, d_need_full, d__law_reach, d_are_under, d_is_lot, d_is_need, d_are_needs, d_need_needs, d_grown_by, d_need_bound, d__law_lot, d_are_deals, d_need_deals, d_need_free, d_deals_of, d_agent_torn, d__law_flag, d_is_kept_lot, d_is_need_kept, d_need_league, d_need_lot, d_gain_harmed, d_law]
def faL : List He.Fa := [.glo "_law_mixed", .glo "_law_row", .glo "_law_deals", .glo "_law_at", .glo "is_tuple_of", .glo "is_integer", .glo "is_between", .glo "is_under", .glo "is_row", .glo "is_web", .glo "need_web", .glo "all_lots", .glo "given_by", .glo "got_by", .glo "is_harmed", .glo "first_harmed", .glo "closed_list", .glo "got_from_outside", .glo "given_outside", .glo "end_of", .glo "gain_of", .glo "gain_league", .glo "need_full", .glo "_law_reach", .glo "are_under", .glo "is_lot", .glo "is_need", .glo "are_needs", .glo "need_needs", .glo "grown_by", .glo "need_bound", .glo "_law_lot", .glo "are_deals", .glo "need_deals", .glo "need_free", .glo "deals_of", .glo "agent_torn", .glo "_law_flag", .glo "is_kept_lot", .glo "is_need_kept", .glo "need_league", .glo "need_lot", .glo "gain_harmed", .glo "law", .free "int", .free "range", .free "tuple", .free "len", .free "isinstance", .free "bool", .free "all", .free "enumerate", .free "any", .free "sorted", .int "MOST_DELAY" (9), .int "FEWEST_PERSONS_webs" (2), .int "MOST_PERSONS_webs" (6), .int "MOST_TRANSFERS" (10), .int "FEWEST_PERSONS_agents" (2), .int "MOST_PERSONS_agents" (6), .int "MOST_DEALS" (10)]
def exL (K : PySem.W.Frag) : Bool := true
abbrev RL : PySem.W.OpenRow := PySem.W.OpenLaw.row PySem.Challenge.rw_chesthours_k96_two_way_deals
abbrev hkL : PySem.W.Hook := G.hookE 4 faL fnL exL
def obL (s : PySem.W.SharedT) : He.AlD × Bool := G.obsEG 4 faL fnL exL (HandSHeadRun.getT s)
theorem obL_eq (s : PySem.W.SharedT) : obL s = hkL.obs s.abs := G.obsEG_eq (HandSHeadRun.getT_eq s)
def looseL : List PySem.Str := (["__name__", "ChestError", "NoWeb", "NoLot", "NoLeague", "NoConduct", "NoNeeds", "NoDeals", "NoFree", "is_integer", "is_between", "is_under", "is_tuple_of", "are_under", "is_lot", "FEWEST_PERSONS_webs", "MOST_PERSONS_webs", "MOST_TRANSFERS", "MOST_DELAY", "is_row"] : List PySem.Str) ++ (["is_web", "need_web", "given_by", "got_by", "need_league", "need_lot", "got_from_outside", "given_outside", "is_harmed", "first_harmed", "gain_harmed", "all_lots", "closed_list", "end_of", "gain_of", "gain_league", "is_need", "are_needs", "need_needs", "is_kept_lot"] : List PySem.Str) ++ (["is_need_kept", "grown_by", "need_bound", "need_full", "FEWEST_PERSONS_agents", "MOST_PERSONS_agents", "MOST_DEALS", "are_deals", "need_deals", "need_free", "deals_of", "agent_torn", "_law_mixed", "_law_row", "_law_deals", "_law_at", "_law_reach", "_law_lot", "_law_flag"] : List PySem.Str)
theorem runL (w : World) : HandSHeadRun.RunEq RL (PySem.W.view RL.prog [65]) hkL obL 4000 looseL w := by
  intro os
  kernel_rfl
theorem factsL {P : Program} {w : World} {K : PySem.W.Frag} {h : Heap} {mg : Str → Option Value} {f : Addr} (X : K.In h) (G : h.Ns mainGlobals mg) (hfa : mg ("law" : Str) = some (.ref f)) (c : He.SaysD faL fnL K) (cx : exL K = true) :
    ∃ fd : FuncData, (∀ (s : Shared) (v : Value), BindsTo s fd ⟨[v], []⟩ [("script", v)]) ∧ ∀ base : Heap, Fd P w K mg base 9 "law" ["script"] f fd m_law.fn := by
  obtain ⟨fd__law_mixed, F__law_mixed⟩ := c.def_ 0 (d := d__law_mixed) rfl
  obtain ⟨fd__law_row, F__law_row⟩ := c.def_ 1 (d := d__law_row) rfl
  obtain ⟨fd__law_deals, F__law_deals⟩ := c.def_ 2 (d := d__law_deals) rfl
  obtain ⟨fd__law_at, F__law_at⟩ := c.def_ 3 (d := d__law_at) rfl
  obtain ⟨fd_is_tuple_of, F_is_tuple_of⟩ := c.def_ 4 (d := d_is_tuple_of) rfl
  obtain ⟨fd_is_integer, F_is_integer⟩ := c.def_ 5 (d := d_is_integer) rfl
  obtain ⟨fd_is_between, F_is_between⟩ := c.def_ 6 (d := d_is_between) rfl
  obtain ⟨fd_is_under, F_is_under⟩ := c.def_ 7 (d := d_is_under) rfl
  obtain ⟨fd_is_row, F_is_row⟩ := c.def_ 8 (d := d_is_row) rfl
  obtain ⟨fd_is_web, F_is_web⟩ := c.def_ 9 (d := d_is_web) rfl
  obtain ⟨fd_need_web, F_need_web⟩ := c.def_ 10 (d := d_need_web) rfl
  obtain ⟨fd_all_lots, F_all_lots⟩ := c.def_ 11 (d := d_all_lots) rfl
  obtain ⟨fd_given_by, F_given_by⟩ := c.def_ 12 (d := d_given_by) rfl
  obtain ⟨fd_got_by, F_got_by⟩ := c.def_ 13 (d := d_got_by) rfl
  obtain ⟨fd_is_harmed, F_is_harmed⟩ := c.def_ 14 (d := d_is_harmed) rfl
  obtain ⟨fd_first_harmed, F_first_harmed⟩ := c.def_ 15 (d := d_first_harmed) rfl
  obtain ⟨fd_closed_list, F_closed_list⟩ := c.def_ 16 (d := d_closed_list) rfl
  obtain ⟨fd_got_from_outside, F_got_from_outside⟩ := c.def_ 17 (d := d_got_from_outside) rfl
  obtain ⟨fd_given_outside, F_given_outside⟩ := c.def_ 18 (d := d_given_outside) rfl
  obtain ⟨fd_end_of, F_end_of⟩ := c.def_ 19 (d := d_end_of) rfl
  obtain ⟨fd_gain_of, F_gain_of⟩ := c.def_ 20 (d := d_gain_of) rfl
  obtain ⟨fd_gain_league, F_gain_league⟩ := c.def_ 21 (d := d_gain_league) rfl
  obtain ⟨fd_need_full, F_need_full⟩ := c.def_ 22 (d := d_need_full) rfl
  obtain ⟨fd__law_reach, F__law_reach⟩ := c.def_ 23 (d := d__law_reach) rfl
  obtain ⟨fd_are_under, F_are_under⟩ := c.def_ 24 (d := d_are_under) rfl
  obtain ⟨fd_is_lot, F_is_lot⟩ := c.def_ 25 (d := d_is_lot) rfl
  obtain ⟨fd_is_need, F_is_need⟩ := c.def_ 26 (d := d_is_need) rfl
  obtain ⟨fd_are_needs, F_are_needs⟩ := c.def_ 27 (d := d_are_needs) rfl
  obtain ⟨fd_need_needs, F_need_needs⟩ := c.def_ 28 (d := d_need_needs) rfl
  obtain ⟨fd_grown_by, F_grown_by⟩ := c.def_ 29 (d := d_grown_by) rfl
  obtain ⟨fd_need_bound, F_need_bound⟩ := c.def_ 30 (d := d_need_bound) rfl
  obtain ⟨fd__law_lot, F__law_lot⟩ := c.def_ 31 (d := d__law_lot) rfl
  obtain ⟨fd_are_deals, F_are_deals⟩ := c.def_ 32 (d := d_are_deals) rfl
  obtain ⟨fd_need_deals, F_need_deals⟩ := c.def_ 33 (d := d_need_deals) rfl
  obtain ⟨fd_need_free, F_need_free⟩ := c.def_ 34 (d := d_need_free) rfl
  obtain ⟨fd_deals_of, F_deals_of⟩ := c.def_ 35 (d := d_deals_of) rfl
  obtain ⟨fd_agent_torn, F_agent_torn⟩ := c.def_ 36 (d := d_agent_torn) rfl
  obtain ⟨fd__law_flag, F__law_flag⟩ := c.def_ 37 (d := d__law_flag) rfl
  obtain ⟨fd_is_kept_lot, F_is_kept_lot⟩ := c.def_ 38 (d := d_is_kept_lot) rfl
  obtain ⟨fd_is_need_kept, F_is_need_kept⟩ := c.def_ 39 (d := d_is_need_kept) rfl
  obtain ⟨fd_need_league, F_need_league⟩ := c.def_ 40 (d := d_need_league) rfl
  obtain ⟨fd_need_lot, F_need_lot⟩ := c.def_ 41 (d := d_need_lot) rfl
  obtain ⟨fd_gain_harmed, F_gain_harmed⟩ := c.def_ 42 (d := d_gain_harmed) rfl
  obtain ⟨fd_law, F_law⟩ := c.def_ 43 (d := d_law) rfl
  have g__law_mixed := He.glo_ok X G (c.fact 0 (f := .glo "_law_mixed") rfl)
  have g__law_row := He.glo_ok X G (c.fact 1 (f := .glo "_law_row") rfl)
  have g__law_deals := He.glo_ok X G (c.fact 2 (f := .glo "_law_deals") rfl)
  have g__law_at := He.glo_ok X G (c.fact 3 (f := .glo "_law_at") rfl)
  have g_is_tuple_of := He.glo_ok X G (c.fact 4 (f := .glo "is_tuple_of") rfl)
  have g_is_integer := He.glo_ok X G (c.fact 5 (f := .glo "is_integer") rfl)
  have g_is_between := He.glo_ok X G (c.fact 6 (f := .glo "is_between") rfl)
  have g_is_under := He.glo_ok X G (c.fact 7 (f := .glo "is_under") rfl)
  have g_is_row := He.glo_ok X G (c.fact 8 (f := .glo "is_row") rfl)
  have g_is_web := He.glo_ok X G (c.fact 9 (f := .glo "is_web") rfl)
  have g_need_web := He.glo_ok X G (c.fact 10 (f := .glo "need_web") rfl)
  have g_all_lots := He.glo_ok X G (c.fact 11 (f := .glo "all_lots") rfl)
  have g_given_by := He.glo_ok X G (c.fact 12 (f := .glo "given_by") rfl)
  have g_got_by := He.glo_ok X G (c.fact 13 (f := .glo "got_by") rfl)
  have g_is_harmed := He.glo_ok X G (c.fact 14 (f := .glo "is_harmed") rfl)
  have g_first_harmed := He.glo_ok X G (c.fact 15 (f := .glo "first_harmed") rfl)
  have g_closed_list := He.glo_ok X G (c.fact 16 (f := .glo "closed_list") rfl)
  have g_got_from_outside := He.glo_ok X G (c.fact 17 (f := .glo "got_from_outside") rfl)
  have g_given_outside := He.glo_ok X G (c.fact 18 (f := .glo "given_outside") rfl)
  have g_end_of := He.glo_ok X G (c.fact 19 (f := .glo "end_of") rfl)
  have g_gain_of := He.glo_ok X G (c.fact 20 (f := .glo "gain_of") rfl)
  have g_gain_league := He.glo_ok X G (c.fact 21 (f := .glo "gain_league") rfl)
  have g_need_full := He.glo_ok X G (c.fact 22 (f := .glo "need_full") rfl)
  have g__law_reach := He.glo_ok X G (c.fact 23 (f := .glo "_law_reach") rfl)
  have g_are_under := He.glo_ok X G (c.fact 24 (f := .glo "are_under") rfl)
  have g_is_lot := He.glo_ok X G (c.fact 25 (f := .glo "is_lot") rfl)
  have g_is_need := He.glo_ok X G (c.fact 26 (f := .glo "is_need") rfl)
  have g_are_needs := He.glo_ok X G (c.fact 27 (f := .glo "are_needs") rfl)
  have g_need_needs := He.glo_ok X G (c.fact 28 (f := .glo "need_needs") rfl)
  have g_grown_by := He.glo_ok X G (c.fact 29 (f := .glo "grown_by") rfl)
  have g_need_bound := He.glo_ok X G (c.fact 30 (f := .glo "need_bound") rfl)
  have g__law_lot := He.glo_ok X G (c.fact 31 (f := .glo "_law_lot") rfl)
  have g_are_deals := He.glo_ok X G (c.fact 32 (f := .glo "are_deals") rfl)
  have g_need_deals := He.glo_ok X G (c.fact 33 (f := .glo "need_deals") rfl)
  have g_need_free := He.glo_ok X G (c.fact 34 (f := .glo "need_free") rfl)
  have g_deals_of := He.glo_ok X G (c.fact 35 (f := .glo "deals_of") rfl)
  have g_agent_torn := He.glo_ok X G (c.fact 36 (f := .glo "agent_torn") rfl)
  have g__law_flag := He.glo_ok X G (c.fact 37 (f := .glo "_law_flag") rfl)
  have g_is_kept_lot := He.glo_ok X G (c.fact 38 (f := .glo "is_kept_lot") rfl)
  have g_is_need_kept := He.glo_ok X G (c.fact 39 (f := .glo "is_need_kept") rfl)
  have g_need_league := He.glo_ok X G (c.fact 40 (f := .glo "need_league") rfl)
  have g_need_lot := He.glo_ok X G (c.fact 41 (f := .glo "need_lot") rfl)
  have g_gain_harmed := He.glo_ok X G (c.fact 42 (f := .glo "gain_harmed") rfl)
  have g_law := He.glo_ok X G (c.fact 43 (f := .glo "law") rfl)
  have n_int : mg "int" = none := He.free_ok X G (c.fact 44 (f := .free "int") rfl)
  have n_range : mg "range" = none := He.free_ok X G (c.fact 45 (f := .free "range") rfl)
  have n_tuple : mg "tuple" = none := He.free_ok X G (c.fact 46 (f := .free "tuple") rfl)
  have n_len : mg "len" = none := He.free_ok X G (c.fact 47 (f := .free "len") rfl)
  have n_isinstance : mg "isinstance" = none := He.free_ok X G (c.fact 48 (f := .free "isinstance") rfl)
  have n_bool : mg "bool" = none := He.free_ok X G (c.fact 49 (f := .free "bool") rfl)
  have n_all : mg "all" = none := He.free_ok X G (c.fact 50 (f := .free "all") rfl)
  have n_enumerate : mg "enumerate" = none := He.free_ok X G (c.fact 51 (f := .free "enumerate") rfl)
  have n_any : mg "any" = none := He.free_ok X G (c.fact 52 (f := .free "any") rfl)
  have n_sorted : mg "sorted" = none := He.free_ok X G (c.fact 53 (f := .free "sorted") rfl)
  have c_MOST_DELAY : ∃ t, mg "MOST_DELAY" = some (.int (9) t) := He.int_ok X G (c.fact 54 (f := .int "MOST_DELAY" (9)) rfl)
  have c_FEWEST_PERSONS_webs : ∃ t, mg "FEWEST_PERSONS_webs" = some (.int (2) t) := He.int_ok X G (c.fact 55 (f := .int "FEWEST_PERSONS_webs" (2)) rfl)
  have c_MOST_PERSONS_webs : ∃ t, mg "MOST_PERSONS_webs" = some (.int (6) t) := He.int_ok X G (c.fact 56 (f := .int "MOST_PERSONS_webs" (6)) rfl)
  have c_MOST_TRANSFERS : ∃ t, mg "MOST_TRANSFERS" = some (.int (10) t) := He.int_ok X G (c.fact 57 (f := .int "MOST_TRANSFERS" (10)) rfl)
  have c_FEWEST_PERSONS_agents : ∃ t, mg "FEWEST_PERSONS_agents" = some (.int (2) t) := He.int_ok X G (c.fact 58 (f := .int "FEWEST_PERSONS_agents" (2)) rfl)
  have c_MOST_PERSONS_agents : ∃ t, mg "MOST_PERSONS_agents" = some (.int (6) t) := He.int_ok X G (c.fact 59 (f := .int "MOST_PERSONS_agents" (6)) rfl)
  have c_MOST_DEALS : ∃ t, mg "MOST_DEALS" = some (.int (10) t) := He.int_ok X G (c.fact 60 (f := .int "MOST_DEALS" (10)) rfl)
  have e := hfa.symm.trans g_law
  cases e
  have b := FunD.bindsA (ps := ["script"]) F_law fun _ _ _ _ _ _ us hl => match us, hl with | [_], _ => rfl
  refine ⟨fd_law, fun s v => b s [v] rfl, fun base => ?_⟩
  have h__law_mixed := k__law_mixed (P := P) (w := w) (base := base) F__law_mixed g__law_mixed n_int
  have h__law_row := k__law_row (P := P) (w := w) (base := base) F__law_row g__law_row h__law_mixed n_int n_range
  have h__law_deals := k__law_deals (P := P) (w := w) (base := base) F__law_deals g__law_deals h__law_row n_range n_int n_tuple
  have h__law_at := k__law_at (P := P) (w := w) (base := base) F__law_at g__law_at n_len n_int
  have h_is_tuple_of := k_is_tuple_of (P := P) (w := w) (base := base) F_is_tuple_of g_is_tuple_of n_isinstance n_tuple n_len
  have h_is_integer := k_is_integer (P := P) (w := w) (base := base) F_is_integer g_is_integer n_isinstance n_int n_bool
  have h_is_between := k_is_between (P := P) (w := w) (base := base) F_is_between g_is_between h_is_integer
  have h_is_under := k_is_under (P := P) (w := w) (base := base) F_is_under g_is_under h_is_integer
  have h_is_row := k_is_row (P := P) (w := w) (base := base) F_is_row g_is_row h_is_tuple_of h_is_under h_is_between c_MOST_DELAY
  have h_is_web := k_is_web (P := P) (w := w) (base := base) F_is_web g_is_web h_is_tuple_of h_is_between h_is_row n_isinstance n_tuple n_len n_all n_range c_FEWEST_PERSONS_webs c_MOST_PERSONS_webs c_MOST_TRANSFERS
  have h_need_web := k_need_web (P := P) (w := w) (base := base) F_need_web g_need_web h_is_web
  have h_all_lots := k_all_lots (P := P) (w := w) (base := base) F_all_lots g_all_lots n_range
  have h_given_by := k_given_by (P := P) (w := w) (base := base) F_given_by g_given_by n_enumerate
  have h_got_by := k_got_by (P := P) (w := w) (base := base) F_got_by g_got_by n_enumerate
  have h_is_harmed := k_is_harmed (P := P) (w := w) (base := base) F_is_harmed g_is_harmed h_given_by h_got_by n_any n_all
  have h_first_harmed := k_first_harmed (P := P) (w := w) (base := base) F_first_harmed g_first_harmed h_is_harmed n_range
  have h_closed_list := k_closed_list (P := P) (w := w) (base := base) F_closed_list g_closed_list h_all_lots h_first_harmed n_sorted n_len
  have h_got_from_outside := k_got_from_outside (P := P) (w := w) (base := base) F_got_from_outside g_got_from_outside n_enumerate
  have h_given_outside := k_given_outside (P := P) (w := w) (base := base) F_given_outside g_given_outside n_enumerate
  have h_end_of := k_end_of (P := P) (w := w) (base := base) F_end_of g_end_of h_got_from_outside h_given_outside n_all n_any
  have h_gain_of := k_gain_of (P := P) (w := w) (base := base) F_gain_of g_gain_of h_closed_list h_end_of
  have h_gain_league := k_gain_league (P := P) (w := w) (base := base) F_gain_league g_gain_league h_need_web h_all_lots h_gain_of n_sorted
  have h_need_full := k_need_full (P := P) (w := w) (base := base) F_need_full g_need_full h_need_web n_tuple n_enumerate
  have h__law_reach := k__law_reach (P := P) (w := w) (base := base) F__law_reach g__law_reach n_range
  have h_are_under := k_are_under (P := P) (w := w) (base := base) F_are_under g_are_under h_is_under n_isinstance n_tuple n_all
  have h_is_lot := k_is_lot (P := P) (w := w) (base := base) F_is_lot g_is_lot h_are_under n_all n_range n_len
  have h_is_need := k_is_need (P := P) (w := w) (base := base) F_is_need g_is_need h_is_lot n_len n_all
  have h_are_needs := k_are_needs (P := P) (w := w) (base := base) F_are_needs g_are_needs h_is_tuple_of h_is_need n_len n_all n_enumerate
  have h_need_needs := k_need_needs (P := P) (w := w) (base := base) F_need_needs g_need_needs h_need_web h_are_needs
  have h_grown_by := k_grown_by (P := P) (w := w) (base := base) F_grown_by g_grown_by n_len n_tuple n_sorted
  have h_need_bound := k_need_bound (P := P) (w := w) (base := base) F_need_bound g_need_bound h_need_needs h_grown_by n_len n_range n_tuple n_sorted
  have h__law_lot := k__law_lot (P := P) (w := w) (base := base) F__law_lot g__law_lot h__law_row n_tuple n_range
  have h_are_deals := k_are_deals (P := P) (w := w) (base := base) F_are_deals g_are_deals h_is_tuple_of h_is_between h_is_under n_isinstance n_tuple n_len n_all c_FEWEST_PERSONS_agents c_MOST_PERSONS_agents c_MOST_DEALS
  have h_need_deals := k_need_deals (P := P) (w := w) (base := base) F_need_deals g_need_deals h_are_deals
  have h_need_free := k_need_free (P := P) (w := w) (base := base) F_need_free g_need_free h_is_lot
  have h_deals_of := k_deals_of (P := P) (w := w) (base := base) F_deals_of g_deals_of n_enumerate
  have h_agent_torn := k_agent_torn (P := P) (w := w) (base := base) F_agent_torn g_agent_torn h_need_deals h_need_free h_is_lot h_deals_of n_len n_range n_any n_all n_tuple
  have h__law_flag := k__law_flag (P := P) (w := w) (base := base) F__law_flag g__law_flag 
  have h_is_kept_lot := k_is_kept_lot (P := P) (w := w) (base := base) F_is_kept_lot g_is_kept_lot n_all
  have h_is_need_kept := k_is_need_kept (P := P) (w := w) (base := base) F_is_need_kept g_is_need_kept h_need_needs h_is_lot h_is_kept_lot n_len
  have h_need_league := k_need_league (P := P) (w := w) (base := base) F_need_league g_need_league h_is_lot
  have h_need_lot := k_need_lot (P := P) (w := w) (base := base) F_need_lot g_need_lot h_is_lot n_len
  have h_gain_harmed := k_gain_harmed (P := P) (w := w) (base := base) F_gain_harmed g_gain_harmed h_need_web h_need_league h_need_lot h_first_harmed
  have h_law := k_law (P := P) (w := w) (base := base) F_law g_law h__law_deals h__law_at h_gain_league h_need_full h__law_reach h_need_bound h__law_lot h_agent_torn h__law_flag h_is_need_kept h_gain_harmed n_len n_tuple n_range n_sorted
  exact h_law
end L
open PySem PySem.W PySem.Calls PyProof.Rows
theorem PySem.Challenge.cw_chesthours_k96_two_way_deals_holds : PySem.Challenge.rw_chesthours_k96_two_way_deals.Holds := by
  w_on; o_law
  refine HandSHeadRun.head_any (r := OpenLaw.row PySem.Challenge.rw_chesthours_k96_two_way_deals) (q := view (OpenLaw.row PySem.Challenge.rw_chesthours_k96_two_way_deals).prog [65]) (H := L.hkL) (ob := L.obL) (M := 4000) (loose := L.looseL) (d := HandSHeadRun.topDef (OpenLaw.row PySem.Challenge.rw_chesthours_k96_two_way_deals).prog 65) (kwd := []) L.obL_eq
    (by kernel_rfl) (fun s => by kernel_rfl) L.runL (by kernel_rfl) (by kernel_rfl) (by kernel_rfl) (by rfl) (by first | assumption | decide +kernel) (by decide +kernel) ⟨rfl, rfl, rfl, rfl, rfl, by decide +kernel⟩ ?hw ?hc
  case hw => w_witness2
  case hc =>
    refine L2.walk_ofE (l := PySem.Challenge.rw_chesthours_k96_two_way_deals) (n := 63) (k := 9) (x := "script") (CX := L2.CX0) rfl (G.sl_le (by omega)) (by kernel_rfl) ⟨rfl, by decide, by decide⟩ ?F (fun _ _ _ _ z => z)
    intro w mg fa h Y GN hmg0
    obtain ⟨K, KX, c, cx⟩ := Y
    have hmg : mg ("law" : PySem.Str) = some (.ref fa) := by
      have e : (HandSHeadRun.topDef (OpenLaw.row PySem.Challenge.rw_chesthours_k96_two_way_deals).prog 65).name = ("law" : PySem.Str) := by kernel_rfl
      rw [← e]
      exact hmg0
    obtain ⟨fd, hb, hF⟩ := L.factsL (P := (PySem.Challenge.rw_chesthours_k96_two_way_deals).prog) (w := w) KX GN hmg c cx
    exact ⟨K, fd, fun vs H Q _ => G.spM ⟨K, mg⟩ 1 L.m_law.fn vs H Q fun _ _ _ => False, KX, hb, fun H a ns hl _ hS => G.law_end hS (L.law_true ns hl), fun base _ _ => G.FnOk.quiet (hF base).ok⟩
