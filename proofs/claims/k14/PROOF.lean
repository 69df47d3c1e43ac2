import PyProof.Rows.All
import Wide.All
import OpenK.AllK
import Wide.FinOn
import HandS.ForMost
import HandS.TupAny
import HandS.TupMul
import HandS.Zip
import HandS.IsInst
import HandS.NoneIn
import HandS.Wide
import HandS.More
import HandS.TryOnly
import HandS.Base
import HandS.AnyAll
import HandS.GenList
import HandS.Comp
import HandS.EndTab
import HandS.Iter
import KE.GoesEnum
import HandS.Dict
import HandS.ExcOwn
import HandS.WordsExc
import HandS.ExcField
import HandS.Deep
import KE.KExcSuper
import HandS.ExcInit
import HandS.TryMany
import KE.RegKSuper
import PySem.Challenge.RW_foresightenough_k14_foresights
set_option Elab.async false
set_option linter.all false
set_option maxRecDepth 100000
section
set_option maxHeartbeats 4000000
/-! DN: the names of the defs that hold generator expressions (each law has its own). -/
namespace DL
def genNames : List PySem.Str := ["is_foresight"]
end DL
end
section
set_option maxHeartbeats 4000000
/-! DL0: values as trees over the hand layer. A tuple is a tree; a list, a dict is an address of the store M. -/
namespace DL
open PySem L2

inductive D where
  | non | bl (b : Bool) | int (i : Int) | str (x : Str) | tup (ds : List D) | ref (a : Addr) | fl (ds : List D)

/-- a read-only list: locked, or written at the top -/
def RdL (K : PySem.W.Frag) (H : Hp) (a : Addr) (xs : List V) : Prop :=
  (∃ o, H a = some (.frz o (.lst xs))) ∨
    ∃ (its : Array Value) (n : Nat), K.lookup a = some { cls := .type "list", data := .seq its n } ∧ its.size ≤ sizeLine ∧ Vals xs its.toList
theorem RdL.sq {K : PySem.W.Frag} {H : Hp} {a : Addr} {xs : List V} (h : RdL K H a xs) : SqL K H a xs := by
  rcases h with ⟨o, h⟩ | h
  · exact .inl (.inr ⟨o, h⟩)
  · obtain ⟨its, n, h1, h2, h3⟩ := h
    exact .inr ⟨_, its, n, h1, rfl, rfl, rfl, h2, h3⟩

mutual
inductive Rep (K : PySem.W.Frag) (H : Hp) : V → D → Prop
  | non : Rep K H .non .non
  | bl (b : Bool) : Rep K H (.bl b) (.bl b)
  | int (i : Int) : Rep K H (.int i) (.int i)
  | str (x : Str) : Rep K H (.str x) (.str x)
  | ref (a : Addr) : Rep K H (.ref a) (.ref a)
  | tup {a : Addr} {vs : List V} {ds : List D} : SqT K H a vs → Reps K H vs ds → Rep K H (.ref a) (.tup ds)
  | fl {a : Addr} {vs : List V} {ds : List D} : RdL K H a vs → Reps K H vs ds → Rep K H (.ref a) (.fl ds)
inductive Reps (K : PySem.W.Frag) (H : Hp) : List V → List D → Prop
  | nil : Reps K H [] []
  | cons {v : V} {vs : List V} {d : D} {ds : List D} : Rep K H v d → Reps K H vs ds → Reps K H (v :: vs) (d :: ds)
end

/-- what stands at an address of the store -/
inductive MO where
  | lst (ds : List D)
  | dct (kvs : List (Key × D))
abbrev St (α : Type) := α
abbrev Mp := Addr → Option MO
def mupd (M : Mp) (a : Addr) (o : MO) : Mp := fun b => if b = a then some o else M b
theorem mupd_same {M : Mp} {a : Addr} {o : MO} : mupd M a o a = some o := by unfold mupd; rw [if_pos rfl]
theorem mupd_ne {M : Mp} {a b : Addr} {o : MO} (h : b ≠ a) : mupd M a o b = M b := by unfold mupd; rw [if_neg h]
theorem mupd_upd {M : Mp} {a : Addr} {o u : MO} : mupd (mupd M a o) a u = mupd M a u := by
  funext b; unfold mupd; split <;> rfl

inductive KReps (K : PySem.W.Frag) (H : Hp) : List (Key × V) → List (Key × D) → Prop
  | nil : KReps K H [] []
  | cons {k : Key} {v : V} {d : D} {vs : List (Key × V)} {ds : List (Key × D)} : Rep K H v d → KReps K H vs ds → KReps K H ((k, v) :: vs) ((k, d) :: ds)

def RepO (K : PySem.W.Frag) (H : Hp) (a : Addr) : MO → Prop
  | .lst ds => ∃ vs, H a = some (.lst vs) ∧ Reps K H vs ds
  | .dct kvs => ∃ ks, H a = some (.dK ks) ∧ KReps K H ks kvs
/-- the code object of the def of this name, its table -/
def tabQ (K : PySem.W.Frag) (n : Str) : Option (Addr × Addr) := match PySem.W.nsIn K mainGlobals n with
  | some (some (.ref f)) => match K.lookup f with
    | some o => match o.data with
      | .func fd => match fd.code with
        | .ref c => match K.lookup c with
          | some oc => match oc.data with
            | .fields vs => match (vs[11]? : Option Value) with
              | some (Value.ref P) => some (c, P)
              | _ => none
            | _ => none
          | none => none
        | _ => none
      | _ => none
    | none => none
  | _ => none
/-- P: the table of such a def's code object; the table may grow -/
def TabOf (K : PySem.W.Frag) (P : Addr) : Prop := ∃ n ∈ genNames, ∃ c, tabQ K n = some (c, P)
def TabsOk (K : PySem.W.Frag) (H : Hp) : Prop := ∀ P, TabOf K P → GxR.TabG H P
theorem TabsOk.upd {K : PySem.W.Frag} {H : Hp} {p : Addr} {o : HO} (h : TabsOk K H) (hp : ∀ ps, H p ≠ some (.tbl ps)) : TabsOk K (upd H p o) := fun P hP => by
  obtain ⟨ps, e, t⟩ := h P hP
  exact ⟨ps, by rw [upd_ne (fun z => hp ps (by rw [← z]; exact e))]; exact e, t⟩
def RepM (K : PySem.W.Frag) (H : Hp) (M : Mp) : Prop := TabsOk K H ∧ ∀ a o, M a = some o → RepO K H a o

/-- what is not of the store stands as it stood, and does not come to it -/
def Step (M : Mp) (H : Hp) (M' : Mp) (H' : Hp) : Prop := ∀ a o, H a = some o → M a = none → (∀ ps, o ≠ .tbl ps) → H' a = some o ∧ M' a = none
theorem Step.refl {M : Mp} {H : Hp} : Step M H M H := fun _ _ h m _ => ⟨h, m⟩
theorem Step.trans {M M1 M2 : Mp} {H H1 H2 : Hp} (a : Step M H M1 H1) (b : Step M1 H1 M2 H2) : Step M H M2 H2 := fun x o h m n =>
  b x o (a x o h m n).1 (a x o h m n).2 n

section
variable {K : PySem.W.Frag} {M M' : Mp} {H H' : Hp}
theorem RepM.tupNone {a : Addr} {xs : List V} (hM : RepM K H M) (h : Rd H a (.tup xs)) : M a = none := by
  cases e : M a with
  | none => rfl
  | some o =>
    have r := hM.2 a o e
    cases o with
    | lst ds =>
      obtain ⟨vs, h1, _⟩ := r
      rcases h with h | ⟨o, h⟩ <;> rw [h] at h1 <;> cases h1
    | dct kvs =>
      obtain ⟨ks, h1, _⟩ := r
      rcases h with h | ⟨o, h⟩ <;> rw [h] at h1 <;> cases h1
theorem SqT.step {a : Addr} {xs : List V} (hM : RepM K H M) (st : Step M H M' H') (h : SqT K H a xs) : SqT K H' a xs := by
  rcases h with h | h
  · have hn := hM.tupNone h
    rcases h with h | ⟨o, h⟩
    · exact .inl (.inl (st _ _ h hn (by intro ps z; cases z)).1)
    · exact .inl (.inr ⟨o, (st _ _ h hn (by intro ps z; cases z)).1⟩)
  · exact .inr h
theorem RepM.frzNone {a : Addr} {o : Obj} {u : HO} (hM : RepM K H M) (h : H a = some (.frz o u)) : M a = none := by
  cases e : M a with
  | none => rfl
  | some o =>
    have r := hM.2 a o e
    cases o with
    | lst ds => obtain ⟨vs, h1, _⟩ := r; rw [h] at h1; cases h1
    | dct kvs => obtain ⟨ks, h1, _⟩ := r; rw [h] at h1; cases h1
theorem RdL.step {a : Addr} {xs : List V} (hM : RepM K H M) (st : Step M H M' H') (h : RdL K H a xs) : RdL K H' a xs := by
  rcases h with ⟨o, h⟩ | h
  · exact .inl ⟨o, (st _ _ h (hM.frzNone h) (by intro ps z; cases z)).1⟩
  · exact .inr h
mutual
theorem Rep.step (hM : RepM K H M) (st : Step M H M' H') : ∀ {v : V} {d : D}, Rep K H v d → Rep K H' v d
  | _, _, .non => .non
  | _, _, .bl b => .bl b
  | _, _, .int i => .int i
  | _, _, .str x => .str x
  | _, _, .ref a => .ref a
  | _, _, .tup h r => .tup (SqT.step hM st h) (Reps.step hM st r)
  | _, _, .fl h r => .fl (RdL.step hM st h) (Reps.step hM st r)
theorem Reps.step (hM : RepM K H M) (st : Step M H M' H') : ∀ {vs : List V} {ds : List D}, Reps K H vs ds → Reps K H' vs ds
  | _, _, .nil => .nil
  | _, _, .cons r t => .cons (Rep.step hM st r) (Reps.step hM st t)
end
theorem KReps.step (hM : RepM K H M) (st : Step M H M' H') {vs : List (Key × V)} {ds : List (Key × D)} (h : KReps K H vs ds) : KReps K H' vs ds := by
  induction h with
  | nil => exact .nil
  | cons r _ ih => exact .cons (Rep.step hM st r) ih
theorem Reps.length : ∀ {vs : List V} {ds : List D}, Reps K H vs ds → vs.length = ds.length
  | _, _, .nil => rfl
  | _, _, .cons _ t => by rw [List.length_cons, List.length_cons, Reps.length t]
theorem Reps.append : ∀ {vs ws : List V} {ds es : List D}, Reps K H vs ds → Reps K H ws es → Reps K H (vs ++ ws) (ds ++ es)
  | _, _, _, _, .nil, s => s
  | _, _, _, _, .cons r t, s => .cons r (Reps.append t s)
theorem Reps.get : ∀ {vs : List V} {ds : List D} {i : Nat} {d : D}, Reps K H vs ds → ds[i]? = some d → ∃ v, vs[i]? = some v ∧ Rep K H v d
  | _, _, _, _, .nil, e => by simp at e
  | _, _, 0, d, .cons r _, e => by simp at e; subst e; exact ⟨_, rfl, r⟩
  | _, _, i + 1, d, .cons _ t, e => by
    obtain ⟨v, h1, h2⟩ := Reps.get (i := i) (d := d) t (by simpa using e)
    exact ⟨v, by simpa using h1, h2⟩
theorem Reps.getV : ∀ {vs : List V} {ds : List D} {i : Nat} {v : V}, Reps K H vs ds → vs[i]? = some v → ∃ d, ds[i]? = some d ∧ Rep K H v d
  | _, _, _, _, .nil, e => by simp at e
  | _, _, 0, d, .cons r _, e => by simp at e; subst e; exact ⟨_, rfl, r⟩
  | _, _, i + 1, v, .cons _ t, e => by
    obtain ⟨d, h1, h2⟩ := Reps.getV (i := i) (v := v) t (by simpa using e)
    exact ⟨d, by simpa using h1, h2⟩
theorem Reps.set {v : V} {d : D} (r : Rep K H v d) : ∀ {vs : List V} {ds : List D} (i : Nat), Reps K H vs ds → Reps K H (vs.set i v) (ds.set i d)
  | _, _, _, .nil => .nil
  | _, _, 0, .cons _ t => .cons r t
  | _, _, i + 1, .cons q t => .cons q (Reps.set r i t)
theorem Reps.take : ∀ {vs : List V} {ds : List D} (n : Nat), Reps K H vs ds → Reps K H (vs.take n) (ds.take n)
  | _, _, 0, _ => .nil
  | _, _, _ + 1, .nil => .nil
  | _, _, n + 1, .cons r t => .cons r (Reps.take n t)
theorem Reps.drop : ∀ {vs : List V} {ds : List D} (n : Nat), Reps K H vs ds → Reps K H (vs.drop n) (ds.drop n)
  | _, _, 0, r => r
  | _, _, _ + 1, .nil => .nil
  | _, _, n + 1, .cons _ t => Reps.drop n t
theorem Reps.dropLast {vs : List V} {ds : List D} (h : Reps K H vs ds) : Reps K H vs.dropLast ds.dropLast := by
  rw [List.dropLast_eq_take, List.dropLast_eq_take, h.length]
  exact h.take _
theorem Reps.rep {vs : List V} {ds : List D} (h : Reps K H vs ds) : ∀ n : Nat, Reps K H (List.replicate n vs).flatten (List.replicate n ds).flatten
  | 0 => .nil
  | n + 1 => by
    rw [List.replicate_succ, List.replicate_succ, List.flatten_cons, List.flatten_cons]
    exact h.append (Reps.rep h n)
theorem Reps.nilV {ds : List D} (h : Reps K H [] ds) : ds = [] := by cases h; rfl
theorem Reps.nilD {vs : List V} (h : Reps K H vs []) : vs = [] := by cases h; rfl

/-- the store behind a step: every object of it stands again -/
theorem RepM.sub (hM : RepM K H M) (h : ∀ a o, M' a = some o → M a = some o) : RepM K H M' := ⟨hM.1, fun a o e => hM.2 a o (h a o e)⟩
theorem RepM.fresh (hM : RepM K H M) {p : Addr} (hp : H p = none) : M p = none := by
  cases e : M p with
  | none => rfl
  | some o =>
    have r := hM.2 p o e
    cases o with
    | lst ds =>
      obtain ⟨vs, h1, _⟩ := r
      rw [hp] at h1
      cases h1
    | dct kvs =>
      obtain ⟨vs, h1, _⟩ := r
      rw [hp] at h1
      cases h1
theorem fresh_ne {p a : Addr} {o : MO} (h : M p = none) (e : M a = some o) : a ≠ p := by
  intro z; subst z
  rw [e] at h; cases h
/-- a new object, not of the store (a tuple) -/
theorem Step.new {p : Addr} {o : HO} (hp : H p = none) : Step M H M (upd H p o) := fun a u e m _ => ⟨by rw [upd_ne (ne_of_none e hp)]; exact e, m⟩
/-- a new object of the store -/
theorem Step.newM {p : Addr} {o : HO} {u : MO} (hp : H p = none) : Step M H (mupd M p u) (upd H p o) := fun a v e m _ => by
  have hn : a ≠ p := ne_of_none e hp
  exact ⟨by rw [upd_ne hn]; exact e, by rw [mupd_ne hn]; exact m⟩
/-- an object of the store turns -/
theorem Step.mut {p : Addr} {o : HO} {u v : MO} (hp : M p = some v) : Step M H (mupd M p u) (upd H p o) := fun a w e m _ => by
  have hn : a ≠ p := fun z => by subst z; rw [hp] at m; cases m
  exact ⟨by rw [upd_ne hn]; exact e, by rw [mupd_ne hn]; exact m⟩
theorem RepO.step (hM : RepM K H M) (st : Step M H M' H') {a : Addr} {o : MO} (h : RepO K H a o) (e : H' a = H a) : RepO K H' a o := by
  cases o with
  | lst ds => obtain ⟨vs, h1, h2⟩ := h; exact ⟨vs, e.trans h1, h2.step hM st⟩
  | dct kvs => obtain ⟨vs, h1, h2⟩ := h; exact ⟨vs, e.trans h1, h2.step hM st⟩
theorem RepM.new (hM : RepM K H M) {p : Addr} {o : HO} (hp : H p = none) : RepM K (upd H p o) M := ⟨hM.1.upd (by rw [hp]; intro ps z; cases z), fun a u e => by
  have hn : a ≠ p := fresh_ne (hM.fresh hp) e
  exact RepO.step hM (Step.new hp) (hM.2 a u e) (upd_ne hn)⟩
theorem RepM.newM (hM : RepM K H M) {p : Addr} {o : HO} {u : MO} (hp : H p = none) (r : RepO K (upd H p o) p u) : RepM K (upd H p o) (mupd M p u) := ⟨hM.1.upd (by rw [hp]; intro ps z; cases z), fun a v e => by
  by_cases hn : a = p
  · subst hn
    rw [mupd_same] at e
    cases e
    exact r
  · rw [mupd_ne hn] at e
    exact RepO.step hM (Step.newM (u := u) hp) (hM.2 a v e) (upd_ne hn)⟩
theorem RepM.mut (hM : RepM K H M) {p : Addr} {o : HO} {u v : MO} (hp : M p = some v) (r : RepO K (upd H p o) p u) : RepM K (upd H p o) (mupd M p u) := ⟨hM.1.upd (fun ps z => by
    have r := hM.2 p v hp
    cases v with
    | lst ds => obtain ⟨vs, h1, _⟩ := r; rw [z] at h1; cases h1
    | dct kvs => obtain ⟨vs, h1, _⟩ := r; rw [z] at h1; cases h1), fun a w e => by
  by_cases hn : a = p
  · subst hn
    rw [mupd_same] at e
    cases e
    exact r
  · rw [mupd_ne hn] at e
    exact RepO.step hM (Step.mut (u := u) hp) (hM.2 a w e) (upd_ne hn)⟩
end
/-! ### what is kept of tuples -/
def KT (H H' : Hp) : Prop := (∀ a xs, H a = some (.tup xs) → H' a = some (.tup xs)) ∧ ∀ a o u, H a = some (.frz o u) → H' a = some (.frz o u)
theorem KT.sq {K : PySem.W.Frag} {H H' : Hp} (k : KT H H') {a : Addr} {xs : List V} (h : SqT K H a xs) : SqT K H' a xs := by
  rcases h with (h | ⟨o, h⟩) | h
  · exact .inl (.inl (k.1 _ _ h))
  · exact .inl (.inr ⟨o, k.2 _ _ _ h⟩)
  · exact .inr h
mutual
theorem Rep.kt {K : PySem.W.Frag} {H H' : Hp} (k : KT H H') : ∀ {v : V} {d : D}, Rep K H v d → Rep K H' v d
  | _, _, .non => .non
  | _, _, .bl b => .bl b
  | _, _, .int i => .int i
  | _, _, .str x => .str x
  | _, _, .ref a => .ref a
  | _, _, .tup h r => .tup (k.sq h) (Reps.kt k r)
  | _, _, .fl h r => .fl (by rcases h with ⟨o, h⟩ | h; exact .inl ⟨o, k.2 _ _ _ h⟩; exact .inr h) (Reps.kt k r)
theorem Reps.kt {K : PySem.W.Frag} {H H' : Hp} (k : KT H H') : ∀ {vs : List V} {ds : List D}, Reps K H vs ds → Reps K H' vs ds
  | _, _, .nil => .nil
  | _, _, .cons r t => .cons (Rep.kt k r) (Reps.kt k t)
end
theorem KReps.kt {K : PySem.W.Frag} {H H' : Hp} (k : KT H H') {vs : List (Key × V)} {ds : List (Key × D)} (h : KReps K H vs ds) : KReps K H' vs ds := by
  induction h with
  | nil => exact .nil
  | cons r _ ih => exact .cons (Rep.kt k r) ih
theorem RepO.kt {K : PySem.W.Frag} {H H' : Hp} (k : KT H H') {a : Addr} {o : MO} (h : RepO K H a o) (e : H' a = H a) : RepO K H' a o := by
  cases o with
  | lst ds => obtain ⟨vs, h1, h2⟩ := h; exact ⟨vs, e.trans h1, h2.kt k⟩
  | dct kvs => obtain ⟨vs, h1, h2⟩ := h; exact ⟨vs, e.trans h1, h2.kt k⟩
/-- a list that is not of the store turns -/
theorem KT.lst {H : Hp} {L : Addr} {vs : List V} {u : HO} (h : H L = some (.lst vs)) : KT H (upd H L u) :=
  ⟨fun a xs e => by rw [upd_ne (ne_of e h (by intro z; cases z))]; exact e, fun a o w e => by rw [upd_ne (ne_of e h (by intro z; cases z))]; exact e⟩

theorem KT.trans {H H1 H2 : Hp} (a : KT H H1) (b : KT H1 H2) : KT H H2 := ⟨fun x xs e => b.1 _ _ (a.1 _ _ e), fun x o u e => b.2 _ _ _ (a.2 _ _ _ e)⟩
theorem KT.refl {H : Hp} : KT H H := ⟨fun _ _ e => e, fun _ _ _ e => e⟩
theorem Step.kt {K : PySem.W.Frag} {M M' : Mp} {H H' : Hp} (hM : RepM K H M) (s : Step M H M' H') : KT H H' := ⟨fun a xs e => (s _ _ e (hM.tupNone (.inl e)) (by intro ps z; cases z)).1, fun a o u e => (s _ _ e (hM.frzNone e) (by intro ps z; cases z)).1⟩
theorem RdL.kt {K : PySem.W.Frag} {H H' : Hp} (k : KT H H') {a : Addr} {xs : List V} (h : RdL K H a xs) : RdL K H' a xs := by
  rcases h with ⟨o, h⟩ | h
  · exact .inl ⟨o, k.2 _ _ _ h⟩
  · exact .inr h
end DL
end
section
set_option maxHeartbeats 4000000
/-! DL1: the judgements over trees: expressions, tests, arguments, statements. -/
namespace DL
open PySem L2

abbrev Gm := List (Option D)
def gv : Gm → Nat → Option D
  | [], _ => none
  | o :: _, 0 => o
  | _ :: r, n + 1 => gv r n
theorem gv_get : ∀ {Γ : Gm} {i : Nat} {d : D}, gv Γ i = some d → Γ[i]? = some (some d)
  | [], _, _, h => by cases h
  | o :: r, 0, d, h => by
    have h' : o = some d := h
    simp [h']
  | _ :: r, n + 1, d, h => by
    have h' : gv r n = some d := h
    simpa using gv_get h'
/-- a slot changed -/
def sv : Gm → Nat → D → Gm
  | [], _, _ => []
  | _ :: r, 0, d => some d :: r
  | o :: r, n + 1, d => o :: sv r n d
theorem sv_set : ∀ (Γ : Gm) (i : Nat) (d : D), sv Γ i d = Γ.set i (some d)
  | [], _, _ => rfl
  | _ :: _, 0, _ => rfl
  | o :: r, n + 1, d => by show o :: sv r n d = o :: r.set n (some d); rw [sv_set]
def RG (K : PySem.W.Frag) (H : Hp) (σ : L2.St) (Γ : Gm) : Prop := σ.length = Γ.length ∧ ∀ (i : Nat) (d : D), Γ[i]? = some (some d) → ∃ v, σ[i]? = some (some v) ∧ Rep K H v d

abbrev DK := D → Mp → Prop
abbrev DE := Gm → Mp → DK → Prop
abbrev DT := Gm → Mp → (Bool → Mp → Prop) → Prop
abbrev DA := Gm → Mp → (List D → Mp → Prop) → Prop
abbrev DO := Gm → Mp → (Option Int → Mp → Prop) → Prop
def Lift (K : PySem.W.Frag) (M : Mp) (H : Hp) (Qd : DK) (Q : VK) : Prop := ∀ d M' v H', Qd d M' → Step M H M' H' → Rep K H' v d → RepM K H' M' → Q v H'
def SE (K : PySem.W.Frag) (te : TE) (t : DE) : Prop := ∀ σ H Γ M Qd Q, RG K H σ Γ → RepM K H M → t Γ M Qd → Lift K M H Qd Q → te σ H Q
def ST (K : PySem.W.Frag) (te : TT) (t : DT) : Prop := ∀ σ H Γ M (Qd : Bool → Mp → Prop) (Q : Bool → Hp → Prop), RG K H σ Γ → RepM K H M → t Γ M Qd → (∀ b M' H', Qd b M' → Step M H M' H' → RepM K H' M' → Q b H') → te σ H Q
def SA (K : PySem.W.Frag) (te : TA) (t : DA) : Prop := ∀ σ H Γ M (Qd : List D → Mp → Prop) (Q : List V → Hp → Prop), RG K H σ Γ → RepM K H M → t Γ M Qd → (∀ ds M' vs H', Qd ds M' → Step M H M' H' → Reps K H' vs ds → RepM K H' M' → Q vs H') → te σ H Q
def SO (K : PySem.W.Frag) (te : TO) (t : DO) : Prop := ∀ σ H Γ M (Qd : Option Int → Mp → Prop) (Q : Option Int → Hp → Prop), RG K H σ Γ → RepM K H M → t Γ M Qd → (∀ o M' H', Qd o M' → Step M H M' H' → RepM K H' M' → Q o H') → te σ H Q
structure PD (X : Cx) (K : PySem.W.Frag) (e : Expr) (s : TE) (t : DE) : Prop where
  hK : X.K = K
  pe : PE X e s
  se : SE K s t
structure PDT (X : Cx) (K : PySem.W.Frag) (e : Expr) (s : TT) (t : DT) : Prop where
  hK : X.K = K
  pe : PT X e s
  se : ST K s t
structure PDW (X : Cx) (K : PySem.W.Frag) (e : Expr) (s : TT) (t : DT) : Prop where
  hK : X.K = K
  pe : PW X e s
  se : ST K s t
structure PDA (X : Cx) (K : PySem.W.Frag) (es : List Expr) (s : TA) (t : DA) : Prop where
  hK : X.K = K
  pe : PA X es s
  se : SA K s t
structure PDO (X : Cx) (K : PySem.W.Frag) (e : Option Expr) (s : TO) (t : DO) : Prop where
  hK : X.K = K
  pe : PO X e s
  se : SO K s t
/-- a statement -/
structure DEnds where
  nx : Gm → Mp → Prop
  rt : DK
  bk : Gm → Mp → Prop := fun _ _ => False
  ct : Gm → Mp → Prop := fun _ _ => False
abbrev DS := DEnds → Gm → Mp → Prop
def LiftG (K : PySem.W.Frag) (M : Mp) (H : Hp) (f : Gm → Mp → Prop) (g : L2.St → Hp → Prop) : Prop := ∀ Γ' M' σ' H', f Γ' M' → Step M H M' H' → RG K H' σ' Γ' → RepM K H' M' → g σ' H'
structure LiftS (K : PySem.W.Frag) (M : Mp) (H : Hp) (F : DEnds) (E : Ends) : Prop where
  nx : LiftG K M H F.nx E.nx
  rt : Lift K M H F.rt E.rt
  bk : LiftG K M H F.bk E.bk
  ct : LiftG K M H F.ct E.ct
def SS (K : PySem.W.Frag) (ts : TS) (t : DS) : Prop := ∀ σ H Γ M F E, RG K H σ Γ → RepM K H M → t F Γ M → LiftS K M H F E → ts E σ H
structure PDS (X : Cx) (K : PySem.W.Frag) (st : Stmt) (s : TS) (t : DS) : Prop where
  hK : X.K = K
  pe : PS X st s
  se : SS K s t
structure PDSs (X : Cx) (K : PySem.W.Frag) (st : List Stmt) (s : TS) (t : DS) : Prop where
  hK : X.K = K
  pe : PSs X st s
  se : SS K s t

section
variable {K : PySem.W.Frag} {M M1 M2 : Mp} {H H1 H2 : Hp} {σ : L2.St} {Γ : Gm}
theorem RG.step (hM : RepM K H M) (st : Step M H M1 H1) (h : RG K H σ Γ) : RG K H1 σ Γ := ⟨h.1, fun i d e => by
  obtain ⟨v, h1, h2⟩ := h.2 i d e
  exact ⟨v, h1, h2.step hM st⟩⟩
theorem RG.set {v : V} {d : D} (h : RG K H σ Γ) (r : Rep K H v d) (i : Nat) : RG K H (σ.set i (some v)) (sv Γ i d) := by
  rw [sv_set]
  refine ⟨by rw [List.length_set, List.length_set]; exact h.1, fun j e hj => ?_⟩
  rw [List.getElem?_set] at hj ⊢
  by_cases q : i = j
  · subst q
    rw [if_pos rfl] at hj ⊢
    by_cases l : i < Γ.length
    · rw [if_pos l] at hj
      rw [if_pos (by rw [h.1]; exact l)]
      cases hj
      exact ⟨v, rfl, r⟩
    · rw [if_neg l] at hj
      cases hj
  · rw [if_neg q] at hj ⊢
    exact h.2 j e hj
theorem Lift.step {Qd : DK} {Q : VK} (h : Lift K M H Qd Q) (st : Step M H M1 H1) : Lift K M1 H1 Qd Q := fun d M' v H' q s r m => h d M' v H' q (st.trans s) r m
theorem LiftG.step {f : Gm → Mp → Prop} {g : L2.St → Hp → Prop} (h : LiftG K M H f g) (st : Step M H M1 H1) : LiftG K M1 H1 f g := fun d M' v H' q s r m => h d M' v H' q (st.trans s) r m
theorem LiftS.step {F : DEnds} {E : Ends} (h : LiftS K M H F E) (st : Step M H M1 H1) : LiftS K M1 H1 F E := ⟨h.nx.step st, h.rt.step st, h.bk.step st, h.ct.step st⟩
end

section
variable {X : Cx} {K : PySem.W.Frag} {a b c e : Expr} {sta stb ste : TE} {stt stu : TT} {ta tb te : DE} {tt tu : DT} {pos : Pos}

/-- a bool, and what is wanted of it -/
def asB (d : D) (f : Bool → Prop) : Prop := match d with
  | .bl c => f c
  | _ => False
theorem bool_of {K : PySem.W.Frag} {H : Hp} {x : V} {d : D} {f : Bool → Prop} (r : Rep K H x d) (h : asB d f) : ∃ c, x = .bl c ∧ d = .bl c ∧ f c := by
  cases r with
  | bl c => exact ⟨c, rfl, rfl, h⟩
  | non => exact h.elim
  | int => exact h.elim
  | str => exact h.elim
  | ref => exact h.elim
  | tup => exact h.elim
  | fl => exact h.elim

/-! ### names, constants -/
def dVar (i : Nat) : DE := fun Γ M Q => match gv Γ i with
  | some d => Q d M
  | none => False
theorem pd_pe {i : Nat} (h : PE X e (tVar i)) (hK : X.K = K := by rfl) : PD X K e (tVar i) (dVar i) := by
  subst hK
  exact ⟨rfl, h, fun σ H Γ M Qd Q hg hM ht hL => by
  unfold dVar at ht
  cases q : gv Γ i with
  | none => rw [q] at ht; exact ht.elim
  | some d =>
    rw [q] at ht
    obtain ⟨v, h1, h2⟩ := hg.2 i d (gv_get q)
    exact ⟨v, h1, hL d M v H ht Step.refl h2 hM⟩⟩
theorem dv (i : Nat) {x : Str} {pos : Pos} (hN : X.N[i]? = some x := by rfl) (hv : Vis X.env.scope x := by first | exact Or.inl rfl | exact Or.inr (Or.inl rfl) | exact Or.inr (Or.inr rfl)) (hd : (x == ("__debug__" : Str)) = false := by decide)
    (hcd : (x == ("__classdict__" : Str)) = false := by decide) (hK : X.K = K := by rfl) : PD X K (.Name x pos) (tVar i) (dVar i) := pd_pe (pe_var hN hv hd hcd) hK
def dC (d : D) : DE := fun _ M Q => Q d M
theorem se_c {v : V} {d : D} (r : ∀ K H, Rep K H v d) (K : PySem.W.Frag) : SE K (tC v) (dC d) := fun σ H Γ M Qd Q hg hM ht hL => hL d M v H ht Step.refl (r K H) hM
theorem dint {i j} (hK : X.K = K := by rfl) : PD X K (.Constant (.int i) j pos) (tC (.int i)) (dC (.int i)) := by
  subst hK
  exact ⟨rfl, pe_int, se_c (fun _ _ => .int i) _⟩
theorem dbl {i j} (hK : X.K = K := by rfl) : PD X K (.Constant (.bool i) j pos) (tC (.bl i)) (dC (.bl i)) := by
  subst hK
  exact ⟨rfl, pe_bl, se_c (fun _ _ => .bl i) _⟩
theorem dnon {j} (hK : X.K = K := by rfl) : PD X K (.Constant .none j pos) (tC .non) (dC .non) := by
  subst hK
  exact ⟨rfl, pe_non, se_c (fun _ _ => .non) _⟩
theorem dstr {x j} (hK : X.K = K := by rfl) : PD X K (.Constant (.str x) j pos) (tC (.str x)) (dC (.str x)) := by
  subst hK
  exact ⟨rfl, pe_str, se_c (fun _ _ => .str x) _⟩
/-- a constant of the module (an int) -/
theorem dglobI {x : Str} {i : Int} {t : Tok} (hg : Gl X x) (hm : X.mg x = some (.int i t)) (hd : (x == ("__debug__" : Str)) = false := by decide) (hK : X.K = K := by rfl) : PD X K (.Name x pos) (tC (.int i)) (dC (.int i)) := by
  subst hK
  exact ⟨rfl, pe_glob (v := .int i) hg hm ⟨_, rfl⟩ hd, se_c (fun _ _ => .int i) _⟩

/-! ### two-place operations by values -/
abbrev O2 := D → D → Mp → DK → Prop
def SOp (K : PySem.W.Frag) (r : R2) (o : O2) : Prop := ∀ x y d e H M Qd Q, Rep K H x d → Rep K H y e → RepM K H M → o d e M Qd → Lift K M H Qd Q → r x y H Q
structure POp (X : Cx) (K : PySem.W.Frag) (f : Value → Value → Sem Value) (r : R2) (o : O2) : Prop where
  hK : X.K = K
  pe : OpR X f r
  se : SOp K r o
def dOp (o : O2) (ta tb : DE) : DE := fun Γ M Q => ta Γ M fun d M1 => tb Γ M1 fun e M2 => o d e M2 Q
theorem se_op {K : PySem.W.Frag} {r : R2} {o : O2} {sa sb : TE} (ho : SOp K r o) (ha : SE K sa ta) (hb : SE K sb tb) : SE K (tOp r sa sb) (dOp o ta tb) := fun σ H Γ M Qd Q hg hM ht hL =>
  ha σ H Γ M _ _ hg hM ht fun d M1 x H1 h1 s1 r1 m1 => hb σ H1 Γ M1 _ _ (hg.step hM s1) m1 h1 fun e M2 y H2 h2 s2 r2 m2 =>
    ho x y d e H2 M2 Qd Q (r1.step m1 s2) r2 m2 h2 (hL.step (s1.trans s2))
theorem dop {ro : R2} {op : Operator} {o : O2} (ho : POp X K (binaryOp op) ro o) (ha : PD X K a sta ta) (hb : PD X K b stb tb) : PD X K (.BinOp a op b pos) (tOp ro sta stb) (dOp o ta tb) := by
  have hK := ho.hK; subst hK
  obtain ⟨_, h1, h2⟩ := ho
  obtain ⟨_, p1, p2⟩ := ha
  obtain ⟨_, q1, q2⟩ := hb
  exact ⟨rfl, pe_op h1 p1 q1, se_op h2 p2 q2⟩
theorem dcmp {ro : R2} {op : CmpOp} {o : O2} (ho : POp X K (compareOp op) ro o) (ha : PD X K a sta ta) (hb : PD X K b stb tb) (hm : behindInMarks op b = false := by first | exact nomark _ | rfl) : PD X K (.Compare a [op] [b] pos) (tOp ro sta stb) (dOp o ta tb) := by
  have hK := ho.hK; subst hK
  obtain ⟨_, h1, h2⟩ := ho
  obtain ⟨_, p1, p2⟩ := ha
  obtain ⟨_, q1, q2⟩ := hb
  exact ⟨rfl, pe_cmpR h1 p1 q1 hm, se_op h2 p2 q2⟩
/-- a value that is a bool, as a test -/
def dB (t : DE) : DT := fun Γ M Q => t Γ M fun d M1 => asB d fun c => Q c M1
theorem st_test {K : PySem.W.Frag} {sa : TE} (ha : SE K sa ta) : ST K (tTest sa) (dB ta) := fun σ H Γ M Qd Q hg hM ht hL =>
  ha σ H Γ M _ _ hg hM ht fun d M1 x H1 h1 s1 r1 m1 => by
    obtain ⟨c, rfl, rfl, h1⟩ := bool_of r1 h1
    exact ⟨c, rfl, hL c M1 H1 h1 s1 m1⟩
theorem tcmp {ro : R2} {op : CmpOp} {o : O2} (ho : POp X K (compareOp op) ro o) (ha : PD X K a sta ta) (hb : PD X K b stb tb) (hm : behindInMarks op b = false := by first | exact nomark _ | rfl) : PDT X K (.Compare a [op] [b] pos) (tTest (tOp ro sta stb)) (dB (dOp o ta tb)) := by
  have hK := ho.hK; subst hK
  obtain ⟨_, h1, h2⟩ := ho
  obtain ⟨_, p1, p2⟩ := ha
  obtain ⟨_, q1, q2⟩ := hb
  exact ⟨rfl, pt_cmpR h1 p1 q1 hm, st_test (se_op h2 p2 q2)⟩
theorem tval (h : PD X K e ste te) (he : ∀ whole, isTrue e X.env whole = (do let v ← whole; standAt e.pos; holding [v] (truthy v)) := by intro _; rfl) : PDT X K e (tB ste) (dB te) := by
  have hK := h.hK; subst hK
  obtain ⟨_, p1, p2⟩ := h
  exact ⟨rfl, pt_val p1 he, st_test p2⟩
/-- truth of any value -/
def DTru (d : D) (M : Mp) (Q : Bool → Mp → Prop) : Prop := match d with
  | .non => Q false M
  | .bl b => Q b M
  | .int i => Q (i != 0) M
  | .str y => y.length ≤ sizeLine ∧ Q ((y.length : Int) != 0) M
  | .tup ds => Q (!ds.isEmpty) M
  | .fl ds => Q (!ds.isEmpty) M
  | .ref a => match M a with
    | some (.lst ds) => Q (!ds.isEmpty) M
    | some (.dct kvs) => Q (!kvs.isEmpty) M
    | none => False
def dTru (t : DE) : DT := fun Γ M Q => t Γ M fun d M1 => DTru d M1 Q
theorem reps_isEmpty {K : PySem.W.Frag} {H : Hp} {vs : List V} {ds : List D} (h : Reps K H vs ds) : (!vs.isEmpty) = (!ds.isEmpty) := by cases h <;> rfl
theorem kreps_isEmpty {K : PySem.W.Frag} {H : Hp} {vs : List (Key × V)} {ds : List (Key × D)} (h : KReps K H vs ds) : (!vs.isEmpty) = (!ds.isEmpty) := by cases h <;> rfl
theorem tru_of {K : PySem.W.Frag} {x : V} {d : D} {M : Mp} {H : Hp} {Qd : Bool → Mp → Prop} (r : Rep K H x d) (m : RepM K H M) (h : DTru d M Qd) : ∃ k, TruV K x H k ∧ Qd k M := by
  cases r with
  | non => exact ⟨false, rfl, h⟩
  | bl b => exact ⟨b, rfl, h⟩
  | int i => exact ⟨_, rfl, h⟩
  | str y => exact ⟨_, ⟨h.1, rfl⟩, h.2⟩
  | tup q r => exact ⟨_, .inr (.inl ⟨_, q, (reps_isEmpty r).symm⟩), h⟩
  | fl q r => exact ⟨_, .inl ⟨_, q.sq, (reps_isEmpty r).symm⟩, h⟩
  | ref a =>
    unfold DTru at h
    dsimp only at h
    cases e : M a with
    | none => rw [e] at h; exact h.elim
    | some o =>
      have ro := m.2 a o e
      rw [e] at h
      cases o with
      | lst ds =>
        obtain ⟨vs, h1, h2⟩ := ro
        exact ⟨_, .inl ⟨_, SqL.of h1, (reps_isEmpty h2).symm⟩, h⟩
      | dct kvs =>
        obtain ⟨ks, h1, h2⟩ := ro
        exact ⟨_, .inr (.inr ⟨_, h1, (kreps_isEmpty h2).symm⟩), h⟩
theorem ttru (h : PD X K e ste te) (he : ∀ whole, isTrue e X.env whole = (do let v ← whole; standAt e.pos; holding [v] (truthy v)) := by intro _; rfl) : PDT X K e (fun σ H Q => ste σ H fun x H1 => ∃ k, TruV K x H1 k ∧ Q k H1) (dTru te) := by
  have hK := h.hK; subst hK
  obtain ⟨_, p1, p2⟩ := h
  refine ⟨rfl, pt_truth p1 he, fun σ H Γ M Qd Q hg hM ht hL => ?_⟩
  refine p2 σ H Γ M _ _ hg hM ht fun d M1 x H1 h1 s1 r1 m1 => ?_
  obtain ⟨k, h2, h3⟩ := tru_of r1 m1 h1
  exact ⟨k, h2, hL k M1 H1 h3 s1 m1⟩

/-! ### and, or, not, if-else -/
def dAnd (t u : DT) : DT := fun Γ M Q => t Γ M fun c M1 => if c = true then u Γ M1 Q else Q false M1
def dOr (t u : DT) : DT := fun Γ M Q => t Γ M fun c M1 => if c = true then Q true M1 else u Γ M1 Q
def dNot (t : DT) : DT := fun Γ M Q => t Γ M fun c M1 => Q (!c) M1
theorem st_and {K : PySem.W.Frag} {s u : TT} (hs : ST K s tt) (hu : ST K u tu) : ST K (tAnd s u) (dAnd tt tu) := fun σ H Γ M Qd Q hg hM ht hL =>
  hs σ H Γ M _ _ hg hM ht fun c M1 H1 h1 s1 m1 => by
    cases c with
    | true =>
      rw [if_pos rfl] at h1 ⊢
      exact hu σ H1 Γ M1 _ _ (hg.step hM s1) m1 h1 fun b M2 H2 h2 s2 m2 => hL b M2 H2 h2 (s1.trans s2) m2
    | false =>
      rw [if_neg Bool.false_ne_true] at h1 ⊢
      exact hL false M1 H1 h1 s1 m1
theorem st_or {K : PySem.W.Frag} {s u : TT} (hs : ST K s tt) (hu : ST K u tu) : ST K (tOr s u) (dOr tt tu) := fun σ H Γ M Qd Q hg hM ht hL =>
  hs σ H Γ M _ _ hg hM ht fun c M1 H1 h1 s1 m1 => by
    cases c with
    | false =>
      rw [if_neg Bool.false_ne_true] at h1 ⊢
      exact hu σ H1 Γ M1 _ _ (hg.step hM s1) m1 h1 fun b M2 H2 h2 s2 m2 => hL b M2 H2 h2 (s1.trans s2) m2
    | true =>
      rw [if_pos rfl] at h1 ⊢
      exact hL true M1 H1 h1 s1 m1
theorem wand1 (ha : PDT X K a stt tt) : PDW X K (.BoolOp .And [a] pos) stt tt := by have hK := ha.hK; subst hK; obtain ⟨_, h1, h2⟩ := ha; exact ⟨rfl, pw_and1 h1, h2⟩
theorem wor1 (ha : PDT X K a stt tt) : PDW X K (.BoolOp .Or [a] pos) stt tt := by have hK := ha.hK; subst hK; obtain ⟨_, h1, h2⟩ := ha; exact ⟨rfl, pw_or1 h1, h2⟩
variable {rest : List Expr}
theorem wand (ha : PDT X K a stt tt) (hb : PDW X K (.BoolOp .And (b :: rest) pos) stu tu) : PDW X K (.BoolOp .And (a :: b :: rest) pos) (tAnd stt stu) (dAnd tt tu) := by
  have hK := ha.hK; subst hK
  obtain ⟨_, h1, h2⟩ := ha
  obtain ⟨_, g1, g2⟩ := hb
  exact ⟨rfl, pw_and h1 g1, st_and h2 g2⟩
theorem wor (ha : PDT X K a stt tt) (hb : PDW X K (.BoolOp .Or (b :: rest) pos) stu tu) : PDW X K (.BoolOp .Or (a :: b :: rest) pos) (tOr stt stu) (dOr tt tu) := by
  have hK := ha.hK; subst hK
  obtain ⟨_, h1, h2⟩ := ha
  obtain ⟨_, g1, g2⟩ := hb
  exact ⟨rfl, pw_or h1 g1, st_or h2 g2⟩
theorem PDW.pt (h : PDW X K e stt tt) : PDT X K e stt tt := by have hK := h.hK; subst hK; obtain ⟨_, h1, h2⟩ := h; exact ⟨rfl, h1.pt, h2⟩
theorem tnot (ha : PDT X K a stt tt) : PDT X K (.UnaryOp .Not a pos) (tNot stt) (dNot tt) := by
  have hK := ha.hK; subst hK
  obtain ⟨_, h1, h2⟩ := ha
  exact ⟨rfl, pt_not h1, fun σ H Γ M Qd Q hg hM ht hL => h2 σ H Γ M _ _ hg hM ht fun c M1 H1 h1 s1 m1 => hL _ M1 H1 h1 s1 m1⟩
def dAndV (ta tb : DE) : DE := fun Γ M Q => ta Γ M fun d M1 => asB d fun c => if c = true then tb Γ M1 Q else Q (.bl false) M1
def dOrV (ta tb : DE) : DE := fun Γ M Q => ta Γ M fun d M1 => asB d fun c => if c = true then Q (.bl true) M1 else tb Γ M1 Q
def dNotV (ta : DE) : DE := fun Γ M Q => ta Γ M fun d M1 => asB d fun c => Q (.bl (!c)) M1
theorem done1 {op} (h : PD X K a sta ta) : PD X K (.BoolOp op [a] pos) sta ta := by have hK := h.hK; subst hK; obtain ⟨_, h1, h2⟩ := h; exact ⟨rfl, pe_one h1, h2⟩
theorem dand (ha : PD X K a sta ta) (hb : PD X K (.BoolOp .And (b :: rest) pos) stb tb) : PD X K (.BoolOp .And (a :: b :: rest) pos) (tAndV sta stb) (dAndV ta tb) := by
  have hK := ha.hK; subst hK
  obtain ⟨_, p1, p2⟩ := ha
  obtain ⟨_, q1, q2⟩ := hb
  refine ⟨rfl, pe_and p1 q1, fun σ H Γ M Qd Q hg hM ht hL => p2 σ H Γ M _ _ hg hM ht fun d M1 x H1 h1 s1 r1 m1 => ?_⟩
  obtain ⟨c, rfl, rfl, h9⟩ := bool_of r1 h1
  refine ⟨c, rfl, ?_⟩
  cases c with
  | true =>
    rw [if_pos rfl] at h9 ⊢
    exact q2 σ H1 Γ M1 _ _ (hg.step hM s1) m1 h9 (hL.step s1)
  | false =>
    rw [if_neg Bool.false_ne_true] at h9 ⊢
    exact hL _ M1 _ H1 h9 s1 (.bl false) m1
theorem dor (ha : PD X K a sta ta) (hb : PD X K (.BoolOp .Or (b :: rest) pos) stb tb) : PD X K (.BoolOp .Or (a :: b :: rest) pos) (tOrV sta stb) (dOrV ta tb) := by
  have hK := ha.hK; subst hK
  obtain ⟨_, p1, p2⟩ := ha
  obtain ⟨_, q1, q2⟩ := hb
  refine ⟨rfl, pe_or p1 q1, fun σ H Γ M Qd Q hg hM ht hL => p2 σ H Γ M _ _ hg hM ht fun d M1 x H1 h1 s1 r1 m1 => ?_⟩
  obtain ⟨c, rfl, rfl, h9⟩ := bool_of r1 h1
  refine ⟨c, rfl, ?_⟩
  cases c with
  | false =>
    rw [if_neg Bool.false_ne_true] at h9 ⊢
    exact q2 σ H1 Γ M1 _ _ (hg.step hM s1) m1 h9 (hL.step s1)
  | true =>
    rw [if_pos rfl] at h9 ⊢
    exact hL _ M1 _ H1 h9 s1 (.bl true) m1
theorem dnot (ha : PD X K a sta ta) : PD X K (.UnaryOp .Not a pos) (tNotV sta) (dNotV ta) := by
  have hK := ha.hK; subst hK
  obtain ⟨_, p1, p2⟩ := ha
  refine ⟨rfl, pe_not p1, fun σ H Γ M Qd Q hg hM ht hL => p2 σ H Γ M _ _ hg hM ht fun d M1 x H1 h1 s1 r1 m1 => ?_⟩
  obtain ⟨c, rfl, rfl, h1⟩ := bool_of r1 h1
  exact ⟨c, rfl, hL _ M1 _ H1 h1 s1 (.bl _) m1⟩
def dIf (t : DT) (ta tb : DE) : DE := fun Γ M Q => t Γ M fun c M1 => if c = true then ta Γ M1 Q else tb Γ M1 Q
theorem dif (hc : PDT X K c stt tt) (ha : PD X K a sta ta) (hb : PD X K b stb tb) : PD X K (.IfExp c a b pos) (tIf stt sta stb) (dIf tt ta tb) := by
  have hK := hc.hK; subst hK
  obtain ⟨_, g1, g2⟩ := hc
  obtain ⟨_, p1, p2⟩ := ha
  obtain ⟨_, q1, q2⟩ := hb
  refine ⟨rfl, pe_ifExp g1 p1 q1, fun σ H Γ M Qd Q hg hM ht hL => g2 σ H Γ M _ _ hg hM ht fun c M1 H1 h1 s1 m1 => ?_⟩
  cases c with
  | true =>
    rw [if_pos rfl] at h1 ⊢
    exact p2 σ H1 Γ M1 _ _ (hg.step hM s1) m1 h1 (hL.step s1)
  | false =>
    rw [if_neg Bool.false_ne_true] at h1 ⊢
    exact q2 σ H1 Γ M1 _ _ (hg.step hM s1) m1 h1 (hL.step s1)

/-! ### arguments, displays -/
def dNil : DA := fun _ M Q => Q [] M
def dCons (ta : DE) (tr : DA) : DA := fun Γ M Q => ta Γ M fun d M1 => tr Γ M1 fun ds M2 => Q (d :: ds) M2
variable {es : List Expr} {str : TA} {tr : DA}
theorem anil (hK : X.K = K := by rfl) : PDA X K [] tNil dNil := by
  subst hK
  exact ⟨rfl, pa_nil, fun σ H Γ M Qd Q hg hM ht hL => hL [] M [] H ht Step.refl .nil hM⟩
theorem acons (ha : PD X K e sta ta) (hr : PDA X K es str tr) (hs : starEach (e :: es) X.env = (false, eval e X.env) :: starEach es X.env := by rfl) : PDA X K (e :: es) (tCons sta str) (dCons ta tr) := by
  have hK := ha.hK; subst hK
  obtain ⟨_, p1, p2⟩ := ha
  obtain ⟨_, q1, q2⟩ := hr
  exact ⟨rfl, pa_cons p1 q1 hs, fun σ H Γ M Qd Q hg hM ht hL => p2 σ H Γ M _ _ hg hM ht fun d M1 x H1 h1 s1 r1 m1 =>
    q2 σ H1 Γ M1 _ _ (hg.step hM s1) m1 h1 fun ds M2 vs H2 h2 s2 r2 m2 => hL _ M2 _ H2 h2 (s1.trans s2) (.cons (r1.step m1 s2) r2) m2⟩
def dTup (tr : DA) : DE := fun Γ M Q => tr Γ M fun ds M1 => ds.length ≤ sizeLine ∧ Q (.tup ds) M1
def dLst (tr : DA) : DE := fun Γ M Q => tr Γ M fun ds M1 => ds.length ≤ sizeLine ∧ ∀ p, M1 p = none → Q (.ref p) (mupd M1 p (.lst ds))
/-- a new tuple -/
theorem Lift.newTup {K : PySem.W.Frag} {M : Mp} {H : Hp} {Qd : DK} {Q : VK} {vs : List V} {ds : List D} (hL : Lift K M H Qd Q) (hM : RepM K H M) (r : Reps K H vs ds) (q : Qd (.tup ds) M) : ∀ p, H p = none → Q (.ref p) (upd H p (.tup vs)) := fun p hp =>
  hL _ M _ _ q (Step.new hp) (.tup (SqT.of upd_same) (r.step hM (Step.new hp))) (hM.new hp)
theorem Lift.newLst {K : PySem.W.Frag} {M : Mp} {H : Hp} {Qd : DK} {Q : VK} {vs : List V} {ds : List D} (hL : Lift K M H Qd Q) (hM : RepM K H M) (r : Reps K H vs ds) (q : ∀ p, M p = none → Qd (.ref p) (mupd M p (.lst ds))) : ∀ p, H p = none → Q (.ref p) (upd H p (.lst vs)) := fun p hp =>
  hL _ _ _ _ (q p (hM.fresh hp)) (Step.newM hp) (.ref p) (hM.newM hp ⟨vs, upd_same, r.step hM (Step.new hp)⟩)
theorem dtup {x1} (h : PDA X K es str tr) : PD X K (.Tuple es x1 pos) (tTup str) (dTup tr) := by
  have hK := h.hK; subst hK
  obtain ⟨_, q1, q2⟩ := h
  exact ⟨rfl, pe_tup q1, fun σ H Γ M Qd Q hg hM ht hL => q2 σ H Γ M _ _ hg hM ht fun ds M1 vs H1 h1 s1 r1 m1 =>
    ⟨by rw [r1.length]; exact h1.1, (hL.step s1).newTup m1 r1 h1.2⟩⟩
theorem dlst (h : PDA X K es str tr) : PD X K (.List es pos) (tLst str) (dLst tr) := by
  have hK := h.hK; subst hK
  obtain ⟨_, q1, q2⟩ := h
  exact ⟨rfl, pe_lst q1, fun σ H Γ M Qd Q hg hM ht hL => q2 σ H Γ M _ _ hg hM ht fun ds M1 vs H1 h1 s1 r1 m1 =>
    ⟨by rw [r1.length]; exact h1.1, (hL.step s1).newLst m1 r1 h1.2⟩⟩

/-! ### built-ins by values -/
abbrev OC := List D → Mp → DK → Prop
def SCall (K : PySem.W.Frag) (r : List V → Hp → VK → Prop) (o : OC) : Prop := ∀ vs ds H M Qd Q, Reps K H vs ds → RepM K H M → o ds M Qd → Lift K M H Qd Q → r vs H Q
structure PCall (X : Cx) (K : PySem.W.Frag) (f : Value) (r : List V → Hp → VK → Prop) (o : OC) : Prop where
  hK : X.K = K
  pe : CallR X f r
  se : SCall K r o
def dCB (o : OC) (tr : DA) : DE := fun Γ M Q => tr Γ M fun ds M1 => o ds M1 Q
variable {x : Str} {p : Pos} {id T : String} {ro : List V → Hp → VK → Prop} {o : OC}
theorem se_cb {K : PySem.W.Frag} {r : List V → Hp → VK → Prop} {sr : TA} (h : SCall K r o) (hr : SA K sr tr) : SE K (tCB r sr) (dCB o tr) := fun σ H Γ M Qd Q hg hM ht hL =>
  hr σ H Γ M _ _ hg hM ht fun ds M1 vs H1 h1 s1 r1 m1 => h vs ds H1 M1 Qd Q r1 m1 h1 (hL.step s1)
theorem dcallB (hc : PCall X K (.builtin id) ro o) (hg : Gl X x) (hm : X.mg x = none) (hv : bootBuiltins x = some (.builtin id)) (ha : PDA X K (e :: es) str tr) (hn : x ≠ "__name__" := by decide) (hdb : (x == ("__debug__" : Str)) = false := by decide)
    (he : starEach (e :: es) X.env = (false, eval e X.env) :: starEach es X.env := by rfl) (hpl : (backTo pos (starEach es X.env)).any (·.1) = false := by rfl) : PD X K (.Call (.Name x p) (e :: es) [] pos) (tCB ro str) (dCB o tr) := by
  have hK := hc.hK; subst hK
  obtain ⟨_, h1, h2⟩ := hc
  obtain ⟨_, q1, q2⟩ := ha
  exact ⟨rfl, pe_callB h1 hg hm hv q1 hn hdb he hpl, se_cb h2 q2⟩
theorem dcallTy (hc : PCall X K (.type T) ro o) (hg : Gl X x) (hm : X.mg x = none) (hv : bootBuiltins x = some (.type T)) (ha : PDA X K (e :: es) str tr) (hn : x ≠ "__name__" := by decide) (hdb : (x == ("__debug__" : Str)) = false := by decide)
    (he : starEach (e :: es) X.env = (false, eval e X.env) :: starEach es X.env := by rfl) (hpl : (backTo pos (starEach es X.env)).any (·.1) = false := by rfl) : PD X K (.Call (.Name x p) (e :: es) [] pos) (tCB ro str) (dCB o tr) := by
  have hK := hc.hK; subst hK
  obtain ⟨_, h1, h2⟩ := hc
  obtain ⟨_, q1, q2⟩ := ha
  exact ⟨rfl, pe_callTy h1 hg hm hv q1 hn hdb he hpl, se_cb h2 q2⟩

/-! ### calls of own defs -/
/-- what an exception bears: its class, its fields -/
abbrev DXK := Value → List (Str × D) → Mp → Prop
abbrev DSp := List D → Mp → DK → DXK → Prop
inductive FReps (K : PySem.W.Frag) (H : Hp) : List (Str × V) → List (Str × D) → Prop
  | nil : FReps K H [] []
  | cons {k : Str} {v : V} {d : D} {vs : List (Str × V)} {ds : List (Str × D)} : Rep K H v d → FReps K H vs ds → FReps K H ((k, v) :: vs) ((k, d) :: ds)
end
end DL
end
section
set_option maxHeartbeats 4000000
/-! DL2: operators, built-ins, subscripts, methods over trees. -/
namespace DL
open PySem L2

/-! ### plain data -/
mutual
def toPy : D → PyData
  | .non => .none
  | .bl b => .bool b
  | .int i => .int i
  | .str x => .str x
  | .tup ds => .tuple (toPys ds)
  | .ref _ => .none
  | .fl ds => .list (toPys ds)
def toPys : List D → List PyData
  | [] => []
  | d :: r => toPy d :: toPys r
end
mutual
def plain : D → Bool
  | .tup ds => plains ds
  | .fl ds => plains ds
  | .ref _ => false
  | _ => true
def plains : List D → Bool
  | [] => true
  | d :: r => plain d && plains r
end
mutual
def eqD : D → D → Bool
  | .non, .non => true
  | .bl a, .bl b => a == b
  | .bl a, .int j => (if a then 1 else 0) == j
  | .int i, .bl b => i == (if b then 1 else 0)
  | .int i, .int j => i == j
  | .str x, .str y => decide (x = y)
  | .tup a, .tup b => eqDs a b
  | .fl a, .fl b => eqDs a b
  | _, _ => false
def eqDs : List D → List D → Bool
  | [], [] => true
  | x :: xs, y :: ys => eqD x y && eqDs xs ys
  | _, _ => false
end
theorem str_beq (x y : Str) : (x == y) = decide (x = y) := by
  by_cases h : x = y
  · subst h; simp
  · rw [decide_eq_false h]; exact beq_eq_false_iff_ne.mpr h
mutual
theorem eqv_eqD : ∀ (d e : D), plain d = true → plain e = true → PyData.eqv (toPy d) (toPy e) = eqD d e
  | .non, e, _, h => by cases e <;> first | rfl | cases h
  | .bl b, e, _, h => by cases e <;> first | rfl | cases h
  | .int i, e, _, h => by cases e <;> first | rfl | cases h
  | .str x, e, _, h => by
    cases e with
    | str y => exact str_beq x y
    | ref => cases h
    | _ => rfl
  | .tup ds, e, h1, h => by
    cases e with
    | tup es => exact eqv_eqDs ds es h1 h
    | ref => cases h
    | _ => rfl
  | .fl ds, e, h1, h => by
    cases e with
    | fl es => exact eqv_eqDs ds es h1 h
    | ref => cases h
    | _ => rfl
  | .ref _, _, h, _ => by cases h
theorem eqv_eqDs : ∀ (ds es : List D), plains ds = true → plains es = true → PyData.eqvAll (toPys ds) (toPys es) = eqDs ds es
  | [], [], _, _ => rfl
  | [], _ :: _, _, _ => rfl
  | _ :: _, [], _, _ => rfl
  | d :: ds, e :: es, h1, h2 => by
    have a := Bool.and_eq_true_iff.mp (show (plain d && plains ds) = true from h1)
    have b := Bool.and_eq_true_iff.mp (show (plain e && plains es) = true from h2)
    show (PyData.eqv (toPy d) (toPy e) && PyData.eqvAll (toPys ds) (toPys es)) = (eqD d e && eqDs ds es)
    rw [eqv_eqD d e a.1 b.1, eqv_eqDs ds es a.2 b.2]
end
mutual
theorem Rep.dp {K : PySem.W.Frag} {H : Hp} : ∀ {v : V} {d : D}, Rep K H v d → plain d = true → Dp K H v (toPy d)
  | _, _, .non, _ => .non
  | _, _, .bl b, _ => .bl b
  | _, _, .int i, _ => .int i
  | _, _, .str x, _ => .str x
  | _, _, .ref a, h => by cases h
  | _, _, .tup q r, h => .tup q (Reps.dp r h)
  | _, _, .fl q r, h => .lst q.sq (Reps.dp r h)
theorem Reps.dp {K : PySem.W.Frag} {H : Hp} : ∀ {vs : List V} {ds : List D}, Reps K H vs ds → plains ds = true → DpAll K H vs (toPys ds)
  | _, _, .nil, _ => .nil
  | _, _, .cons r t, h => by
    have a := Bool.and_eq_true_iff.mp (show (plain _ && plains _) = true from h)
    exact .cons (Rep.dp r a.1) (Reps.dp t a.2)
end
def shp (d : D) : Bool := plain d && SeqAt.shaped (toPy d)
def scaD : D → Bool
  | .non => true
  | .bl _ => true
  | .int _ => true
  | .str _ => true
  | _ => false
def eqOk (d e : D) : Bool := (scaD d && scaD e) || (shp d && shp e)

/-! ### operators -/
def oAdd : O2 := fun d e M Q => match d, e with
  | .int i, .int j => Q (.int (i + j)) M
  | .str a, .str b => a.length + b.length ≤ sizeLine ∧ Q (.str (a ++ b)) M
  | .tup a, .tup b => a.length + b.length ≤ sizeLine ∧ Q (.tup (a ++ b)) M
  | .ref a, .ref b => ∃ xs ys, M a = some (.lst xs) ∧ M b = some (.lst ys) ∧ xs.length + ys.length ≤ sizeLine ∧ ∀ p, M p = none → Q (.ref p) (mupd M p (.lst (xs ++ ys)))
  | _, _ => False
def MulOk (i j : Int) : Prop := CMul i j ∨ CMulW i j
def oMul : O2 := fun d e M Q => match d, e with
  | .int i, .int j => MulOk i j ∧ Q (.int (i * j)) M
  | .tup a, .int k => (a ≠ [] ∧ 2 ≤ k ∧ k ≤ 1000 ∧ a.length ≤ 1000) ∧ Q (.tup (List.replicate k.toNat a).flatten) M
  | .ref a, .int k => ∃ xs, M a = some (.lst xs) ∧ -(2 ^ 63) ≤ k ∧ k < 2 ^ 63 ∧ xs.length * k.toNat ≤ sizeLine ∧ ∀ p, M p = none → Q (.ref p) (mupd M p (.lst (List.replicate k.toNat xs).flatten))
  | _, _ => False
def oI (C : Int → Int → Prop) (g : Int → Int → Int) : O2 := fun d e M Q => match d, e with
  | .int i, .int j => C i j ∧ Q (.int (g i j)) M
  | _, _ => False
def oI0 (g : Int → Int → Int) : O2 := fun d e M Q => match d, e with
  | .int i, .int j => Q (.int (g i j)) M
  | _, _ => False
def oB0 (g : Int → Int → Bool) : O2 := fun d e M Q => match d, e with
  | .int i, .int j => Q (.bl (g i j)) M
  | _, _ => False
def DivOk (i j : Int) : Prop := CDiv i j ∨ CDivW i j
abbrev oSub : O2 := oI0 fun i j => i - j
abbrev oFdiv : O2 := oI DivOk fun i j => i / j
abbrev oMod : O2 := oI (fun _ j => 0 < j) fun i j => i % j
abbrev oPow : O2 := oI CPow fun i j => i ^ j.toNat
abbrev oShl : O2 := oI CPow fun i j => i * 2 ^ j.toNat
abbrev oShr : O2 := oI (fun _ j => 0 ≤ j) fun i j => i / 2 ^ j.toNat
abbrev oLt : O2 := oB0 fun i j => decide (i < j)
abbrev oLe : O2 := oB0 fun i j => decide (i ≤ j)
abbrev oGt : O2 := oB0 fun i j => decide (j < i)
abbrev oGe : O2 := oB0 fun i j => decide (j ≤ i)
def oEq : O2 := fun d e M Q => eqOk d e = true ∧ Q (.bl (eqD d e)) M
def oNe : O2 := fun d e M Q => eqOk d e = true ∧ Q (.bl (!eqD d e)) M
def isNon : D → Bool
  | .non => true
  | _ => false
def oIs : O2 := fun d e M Q => match e with
  | .non => Q (.bl (isNon d)) M
  | _ => False
def oIsNot : O2 := fun d e M Q => match e with
  | .non => Q (.bl (!isNon d)) M
  | _ => False

section
variable {K : PySem.W.Frag}
theorem sop_or1 {r r' : R2} {o : O2} (h : SOp K r o) : SOp K (fun x y H Q => r x y H Q ∨ r' x y H Q) o := fun x y d e H M Qd Q a b m q l => .inl (h x y d e H M Qd Q a b m q l)
theorem sop_i0 {g : Int → Int → Int} : SOp K (rI0 fun i j => .int (g i j)) (oI0 g) := by
  intro x y d e H M Qd Q r s m q l
  cases r <;> cases s <;> first | exact q.elim | skip
  exact ⟨_, _, rfl, rfl, l _ M _ H q Step.refl (.int _) m⟩
theorem sop_b0 {g : Int → Int → Bool} : SOp K (rI0 fun i j => .bl (g i j)) (oB0 g) := by
  intro x y d e H M Qd Q r s m q l
  cases r <;> cases s <;> first | exact q.elim | skip
  exact ⟨_, _, rfl, rfl, l _ M _ H q Step.refl (.bl _) m⟩
theorem sop_i {C : Int → Int → Prop} {g : Int → Int → Int} : SOp K (rI C fun i j => .int (g i j)) (oI C g) := by
  intro x y d e H M Qd Q r s m q l
  cases r <;> cases s <;> first | exact q.elim | skip
  exact ⟨_, _, rfl, rfl, q.1, l _ M _ H q.2 Step.refl (.int _) m⟩
end

def rFdivA : R2 := fun x y H Q => (rI CDiv fun i j => .int (i / j)) x y H Q ∨ (rI CDivW fun i j => .int (i / j)) x y H Q
def rAddA (K : PySem.W.Frag) : R2 := fun x y H Q => (rI0 fun i j => .int (i + j)) x y H Q ∨ (∃ i j, x = .str i ∧ y = .str j ∧ i.length + j.length ≤ sizeLine ∧ Q (.str (i ++ j)) H) ∨ rCatA K x y H Q ∨ rCat x y H Q
def rMulA (K : PySem.W.Frag) : R2 := fun x y H Q => (rI CMul fun i j => .int (i * j)) x y H Q ∨ (rI CMulW fun i j => .int (i * j)) x y H Q ∨ rRepT K x y H Q ∨ rRep x y H Q
def rEqA (K : PySem.W.Frag) : R2 := fun x y H Q => rEq x y H Q ∨ rEqD K x y H Q
def rNeA (K : PySem.W.Frag) : R2 := fun x y H Q => rNe x y H Q ∨ rNeD K x y H Q
def rIsN : R2 := fun x y H Q => y = .non ∧ Q (.bl (decide (x = .non))) H
def rNotN : R2 := fun x y H Q => y = .non ∧ Q (.bl (!decide (x = .non))) H
section
variable {X : Cx} {K : PySem.W.Frag}
theorem o_sub (hK : X.K = K := by rfl) : POp X K (binaryOp .Sub) (rI0 fun i j => .int (i - j)) oSub := by
  subst hK
  exact ⟨rfl, op_sub, sop_i0⟩
theorem o_mod (hK : X.K = K := by rfl) : POp X K (binaryOp .Mod) (rI (fun _ j => 0 < j) fun i j => .int (i % j)) oMod := by
  subst hK
  exact ⟨rfl, op_mod, sop_i⟩
theorem o_pow (hK : X.K = K := by rfl) : POp X K (binaryOp .Pow) (rI CPow fun i j => .int (i ^ j.toNat)) oPow := by
  subst hK
  exact ⟨rfl, op_pow, sop_i⟩
theorem o_shl (hK : X.K = K := by rfl) : POp X K (binaryOp .LShift) (rI CPow fun i j => .int (i * 2 ^ j.toNat)) oShl := by
  subst hK
  exact ⟨rfl, op_shl, sop_i⟩
theorem o_shr (hK : X.K = K := by rfl) : POp X K (binaryOp .RShift) (rI (fun _ j => 0 ≤ j) fun i j => .int (i / 2 ^ j.toNat)) oShr := by
  subst hK
  exact ⟨rfl, op_shr, sop_i⟩
theorem o_lt (hK : X.K = K := by rfl) : POp X K (compareOp .Lt) (rI0 fun i j => .bl (decide (i < j))) oLt := by
  subst hK
  exact ⟨rfl, op_lt, sop_b0⟩
theorem o_le (hK : X.K = K := by rfl) : POp X K (compareOp .LtE) (rI0 fun i j => .bl (decide (i ≤ j))) oLe := by
  subst hK
  exact ⟨rfl, op_le, sop_b0⟩
theorem o_gt (hK : X.K = K := by rfl) : POp X K (compareOp .Gt) (rI0 fun i j => .bl (decide (j < i))) oGt := by
  subst hK
  exact ⟨rfl, op_gt, sop_b0⟩
theorem o_ge (hK : X.K = K := by rfl) : POp X K (compareOp .GtE) (rI0 fun i j => .bl (decide (j ≤ i))) oGe := by
  subst hK
  exact ⟨rfl, op_ge, sop_b0⟩
theorem o_fdiv (hK : X.K = K := by rfl) : POp X K (binaryOp .FloorDiv) rFdivA oFdiv := by
  subst hK
  refine ⟨rfl, op_fdiv.or op_fdivW, ?_⟩
  intro x y d e H M Qd Q r s m q l
  cases r <;> cases s <;> first | exact q.elim | skip
  obtain ⟨c, q⟩ := q
  have w := l _ M _ H q Step.refl (.int _) m
  rcases c with c | c
  · exact .inl ⟨_, _, rfl, rfl, c, w⟩
  · exact .inr ⟨_, _, rfl, rfl, c, w⟩
theorem o_add (hK : X.K = K := by rfl) : POp X K (binaryOp .Add) (rAddA K) oAdd := by
  subst hK
  refine ⟨rfl, op_add.or (op_add_str.or (op_catA.or op_cat)), ?_⟩
  intro x y d e H M Qd Q r s m q l
  cases r <;> cases s <;> first | exact q.elim | skip
  · exact .inl ⟨_, _, rfl, rfl, l _ M _ H q Step.refl (.int _) m⟩
  · exact .inr (.inl ⟨_, _, rfl, rfl, q.1, l _ M _ H q.2 Step.refl (.str _) m⟩)
  · obtain ⟨xs, ys, h1, h2, h3, q⟩ := q
    obtain ⟨vs, g1, r1⟩ := m.2 _ _ h1
    obtain ⟨ws, g2, r2⟩ := m.2 _ _ h2
    exact .inr (.inr (.inr ⟨_, _, _, _, rfl, rfl, g1, g2, by rw [r1.length, r2.length]; exact h3, l.newLst m (r1.append r2) q⟩))
  · rename_i a vs ds h1 r1 b ws es h2 r2
    refine .inr (.inr (.inl ⟨_, _, _, _, rfl, rfl, h1, h2, by rw [r1.length, r2.length]; exact q.1, fun e => ?_, fun _ e => ?_, fun _ _ => l.newTup m (r1.append r2) q.2⟩))
    · subst e
      have e2 := r1.nilV
      subst e2
      exact l _ M _ H q.2 Step.refl (.tup h2 r2) m
    · subst e
      have e2 := r2.nilV
      subst e2
      have e3 := q.2
      rw [List.append_nil] at e3
      exact l _ M _ H e3 Step.refl (.tup h1 r1) m
theorem o_mul (hK : X.K = K := by rfl) : POp X K (binaryOp .Mult) (rMulA K) oMul := by
  subst hK
  refine ⟨rfl, op_mul.or (op_mulW.or (op_repT.or op_rep)), ?_⟩
  intro x y d e H M Qd Q r s m q l
  cases r <;> cases s <;> first | exact q.elim | skip
  · obtain ⟨c, q⟩ := q
    have w := l _ M _ H q Step.refl (.int _) m
    rcases c with c | c
    · exact .inl ⟨_, _, rfl, rfl, c, w⟩
    · exact .inr (.inl ⟨_, _, rfl, rfl, c, w⟩)
  · obtain ⟨xs, h1, h2, h3, h4, q⟩ := q
    obtain ⟨vs, g1, r1⟩ := m.2 _ _ h1
    exact .inr (.inr (.inr ⟨_, _, _, rfl, rfl, g1, h2, h3, by rw [r1.length]; exact h4, l.newLst m (r1.rep _) q⟩))
  · rename_i a vs ds h1 r1 k
    obtain ⟨⟨h2, h3, h4, h5⟩, q⟩ := q
    exact .inr (.inr (.inl ⟨_, _, _, rfl, rfl, h1, fun z => h2 (by subst z; exact r1.nilV), h3, h4, by rw [r1.length]; exact h5, l.newTup m (r1.rep _) q⟩))
theorem eq_sca {K : PySem.W.Frag} {H : Hp} {x y : V} {d e : D} (r : Rep K H x d) (s : Rep K H y e) (h1 : scaD d = true) (h2 : scaD e = true) : (scal x y = true ∧ decide (x = y) = eqD d e) ∨ (shp d = true ∧ shp e = true) := by
  cases r <;> cases s <;> first | (cases h1; done) | (cases h2; done) | skip
  all_goals first
    | (refine .inl ⟨rfl, ?_⟩; first | rfl | exact dec_int | exact dec_bl | (rename_i a b; show decide (V.str a = V.str b) = decide (a = b); rw [dec_str, str_beq]) | (show decide (_ = _) = false; exact decide_eq_false (fun z => nomatch z)))
    | exact .inr ⟨rfl, rfl⟩
theorem o_eq (hu : X.A.units + 64 < cLine) (hK : X.K = K := by rfl) : POp X K (compareOp .Eq) (rEqA K) oEq := by
  subst hK
  refine ⟨rfl, op_eq.or (op_eqD hu), ?_⟩
  intro x y d e H M Qd Q r s m q l
  obtain ⟨ok, q⟩ := q
  have w := l _ M _ H q Step.refl (.bl _) m
  have deep : shp d = true ∧ shp e = true → _ := fun ⟨a, b⟩ => by
    obtain ⟨a1, a2⟩ := Bool.and_eq_true_iff.mp a
    obtain ⟨b1, b2⟩ := Bool.and_eq_true_iff.mp b
    exact (⟨toPy d, toPy e, r.dp a1, s.dp b1, a2, b2, by rw [eqv_eqD d e a1 b1]; exact w⟩ : rEqD X.K x y H Q)
  rcases Bool.or_eq_true_iff.mp ok with ok | ok
  · obtain ⟨a, b⟩ := Bool.and_eq_true_iff.mp ok
    rcases eq_sca r s a b with ⟨h1, h2⟩ | h
    · exact .inl ⟨h1, by rw [h2]; exact w⟩
    · exact .inr (deep h)
  · exact .inr (deep (Bool.and_eq_true_iff.mp ok))
theorem o_ne (hu : X.A.units + 64 < cLine) (hK : X.K = K := by rfl) : POp X K (compareOp .NotEq) (rNeA K) oNe := by
  subst hK
  refine ⟨rfl, op_ne.or (op_neD hu), ?_⟩
  intro x y d e H M Qd Q r s m q l
  obtain ⟨ok, q⟩ := q
  have w := l _ M _ H q Step.refl (.bl _) m
  have deep : shp d = true ∧ shp e = true → _ := fun ⟨a, b⟩ => by
    obtain ⟨a1, a2⟩ := Bool.and_eq_true_iff.mp a
    obtain ⟨b1, b2⟩ := Bool.and_eq_true_iff.mp b
    exact (⟨toPy d, toPy e, r.dp a1, s.dp b1, a2, b2, by rw [eqv_eqD d e a1 b1]; exact w⟩ : rNeD X.K x y H Q)
  rcases Bool.or_eq_true_iff.mp ok with ok | ok
  · obtain ⟨a, b⟩ := Bool.and_eq_true_iff.mp ok
    rcases eq_sca r s a b with ⟨h1, h2⟩ | h
    · exact .inl ⟨h1, by rw [h2]; exact w⟩
    · exact .inr (deep h)
  · exact .inr (deep (Bool.and_eq_true_iff.mp ok))
theorem isNon_dec {K : PySem.W.Frag} {H : Hp} {x : V} {d : D} (r : Rep K H x d) : decide (x = V.non) = isNon d := by
  cases r <;> first | rfl | exact decide_eq_false (fun z => nomatch z)
theorem o_is (hK : X.K = K := by rfl) : POp X K (compareOp .Is) rIsN oIs := by
  subst hK
  refine ⟨rfl, op_isN, ?_⟩
  intro x y d e H M Qd Q r s m q l
  cases s <;> first | exact q.elim | skip
  exact ⟨rfl, by rw [isNon_dec r]; exact l _ M _ H q Step.refl (.bl _) m⟩
theorem o_isnot (hK : X.K = K := by rfl) : POp X K (compareOp .IsNot) rNotN oIsNot := by
  subst hK
  refine ⟨rfl, op_notN, ?_⟩
  intro x y d e H M Qd Q r s m q l
  cases s <;> first | exact q.elim | skip
  exact ⟨rfl, by rw [isNon_dec r]; exact l _ M _ H q Step.refl (.bl _) m⟩
end

/-! ### -x -/
def dNeg (ta : DE) : DE := fun Γ M Q => ta Γ M fun d M1 => match d with
  | .int i => Q (.int (-i)) M1
  | _ => False
section
variable {X : Cx} {K : PySem.W.Frag} {a b e : Expr} {sta stb ste : TE} {ta tb te : DE} {pos : Pos}
theorem dneg (ha : PD X K a sta ta) : PD X K (.UnaryOp .USub a pos) (tUn (rU fun i => .int (-i)) sta) (dNeg ta) := by
  have hK := ha.hK; subst hK
  obtain ⟨_, p1, p2⟩ := ha
  refine ⟨rfl, pe_un un_neg p1, fun σ H Γ M Qd Q hg hM ht hL => p2 σ H Γ M _ _ hg hM ht fun d M1 x H1 h1 s1 r1 m1 => ?_⟩
  cases r1 <;> first | exact h1.elim | skip
  exact ⟨_, rfl, hL _ M1 _ H1 h1 s1 (.int _) m1⟩

def rLenA (K : PySem.W.Frag) : List V → Hp → VK → Prop := fun xs H Q => (∃ p ys, xs = [.ref p] ∧ (SqL K H p ys ∨ SqT K H p ys) ∧ Q (.int ys.length) H) ∨ ∃ z, xs = [.str z] ∧ z.length ≤ sizeLine ∧ Q (.int z.length) H
def rTupleA (K : PySem.W.Frag) : List V → Hp → VK → Prop := fun xs H Q => ∃ p ys, xs = [.ref p] ∧ ((SqL K H p ys ∧ ∀ l, H l = none → Q (.ref l) (upd H l (.tup ys))) ∨ (SqT K H p ys ∧ Q (.ref p) H))
def rListA (K : PySem.W.Frag) : List V → Hp → VK → Prop := fun xs H Q => ∃ p ys, xs = [.ref p] ∧ (SqL K H p ys ∨ SqT K H p ys) ∧ ∀ l, H l = none → Q (.ref l) (upd H l (.lst ys))
def rIntA : List V → Hp → VK → Prop := fun xs H Q => (∃ i, xs = [.int i] ∧ Q (.int i) H) ∨ ∃ k, xs = [.bl k] ∧ Q (.int (if k then 1 else 0)) H
def rAbsA : List V → Hp → VK → Prop := fun xs H Q => ∃ i, xs = [.int i] ∧ Q (.int (if i < 0 then -i else i)) H
def rMaxA (K : PySem.W.Frag) : List V → Hp → VK → Prop := fun xs H Q => (∃ i j, xs = [.int i, .int j] ∧ Q (.int (if j > i then j else i)) H) ∨ rMax K xs H Q
def rMinA (K : PySem.W.Frag) : List V → Hp → VK → Prop := fun xs H Q => (∃ i j, xs = [.int i, .int j] ∧ Q (.int (if j < i then j else i)) H) ∨ rMin K xs H Q
/-! ### built-ins -/
/-- what a value that is walked or measured holds -/
def itemsD (d : D) (M : Mp) : Option (List D) := match d with
  | .tup ds => some ds
  | .fl ds => some ds
  | .ref a => match M a with
    | some (.lst ds) => some ds
    | _ => none
  | _ => none
theorem items_sq {K : PySem.W.Frag} {H : Hp} {x : V} {d : D} {M : Mp} {ds : List D} (r : Rep K H x d) (m : RepM K H M) (h : itemsD d M = some ds) : ∃ p vs, x = .ref p ∧ (SqL K H p vs ∨ SqT K H p vs) ∧ Reps K H vs ds := by
  cases r with
  | non => cases h
  | bl => cases h
  | int => cases h
  | str => cases h
  | tup q r => cases h; exact ⟨_, _, rfl, .inr q, r⟩
  | fl q r => cases h; exact ⟨_, _, rfl, .inl q.sq, r⟩
  | ref a =>
    unfold itemsD at h
    dsimp only at h
    cases e : M a with
    | none => rw [e] at h; cases h
    | some o =>
      have ro := m.2 a o e
      rw [e] at h
      cases o with
      | lst ds =>
        cases h
        obtain ⟨vs, h1, h2⟩ := ro
        exact ⟨_, _, rfl, .inl (SqL.of h1), h2⟩
      | dct kvs => cases h
theorem reps1 {K : PySem.W.Frag} {H : Hp} {vs : List V} {d : D} (h : Reps K H vs [d]) : ∃ v, vs = [v] ∧ Rep K H v d := by
  cases h with
  | cons r t => cases t; exact ⟨_, rfl, r⟩
theorem reps2 {K : PySem.W.Frag} {H : Hp} {vs : List V} {d e : D} (h : Reps K H vs [d, e]) : ∃ v w, vs = [v, w] ∧ Rep K H v d ∧ Rep K H w e := by
  cases h with
  | cons r t => cases t with
    | cons s u => cases u; exact ⟨_, _, rfl, r, s⟩
def oLen : OC := fun ds M Q => match ds with
  | [.str y] => y.length ≤ sizeLine ∧ Q (.int y.length) M
  | [d] => ∃ es, itemsD d M = some es ∧ Q (.int es.length) M
  | _ => False
theorem one_of {ds : List D} {f : D → Prop} (h : match ds with | [d] => f d | _ => False) : ∃ d, ds = [d] ∧ f d := by
  cases ds with
  | nil => exact h.elim
  | cons d r => cases r with
    | nil => exact ⟨d, rfl, h⟩
    | cons => exact h.elim
theorem c_len (hK : X.K = K := by rfl) : PCall X K (.builtin "len") (rLenA K) oLen := by
  subst hK
  refine ⟨rfl, call_len_seq.or call_len_str, ?_⟩
  intro vs ds H M Qd Q rr m q l
  cases ds with
  | nil => exact q.elim
  | cons d t => cases t with
    | cons => cases d <;> exact q.elim
    | nil =>
      obtain ⟨v, rfl, r⟩ := reps1 rr
      have seq : (∃ es, itemsD d M = some es ∧ Qd (.int es.length) M) → (∃ p ys, [v] = [V.ref p] ∧ (SqL X.K H p ys ∨ SqT X.K H p ys) ∧ Q (.int ys.length) H) ∨ ∃ z, [v] = [V.str z] ∧ z.length ≤ sizeLine ∧ Q (.int z.length) H := fun ⟨es, h1, h2⟩ => by
        obtain ⟨p, ws, rfl, h3, h4⟩ := items_sq r m h1
        exact .inl ⟨p, ws, rfl, h3, by rw [h4.length]; exact l _ M _ H h2 Step.refl (.int _) m⟩
      cases r with
      | str y => exact .inr ⟨y, rfl, q.1, l _ M _ H q.2 Step.refl (.int _) m⟩
      | non => exact seq q
      | bl => exact seq q
      | int => exact seq q
      | tup => exact seq q
      | fl => exact seq q
      | ref => exact seq q
def oTuple : OC := fun ds M Q => match ds with
  | [d] => ∃ es, itemsD d M = some es ∧ Q (.tup es) M
  | _ => False
theorem c_tuple (hK : X.K = K := by rfl) : PCall X K (.type "tuple") (rTupleA K) oTuple := by
  subst hK
  refine ⟨rfl, call_tuple_of, ?_⟩
  intro vs ds H M Qd Q rr m q l
  obtain ⟨d, rfl, es, h1, h2⟩ := one_of q
  obtain ⟨v, rfl, r⟩ := reps1 rr
  obtain ⟨p, ws, rfl, h3, h4⟩ := items_sq r m h1
  refine ⟨p, ws, rfl, ?_⟩
  rcases h3 with h3 | h3
  · exact .inl ⟨h3, l.newTup m h4 h2⟩
  · exact .inr ⟨h3, l _ M _ H h2 Step.refl (.tup h3 h4) m⟩
def oList : OC := fun ds M Q => match ds with
  | [d] => ∃ es, itemsD d M = some es ∧ ∀ p, M p = none → Q (.ref p) (mupd M p (.lst es))
  | _ => False
theorem c_list (hK : X.K = K := by rfl) : PCall X K (.type "list") (rListA K) oList := by
  subst hK
  refine ⟨rfl, call_list_of, ?_⟩
  intro vs ds H M Qd Q rr m q l
  obtain ⟨d, rfl, es, h1, h2⟩ := one_of q
  obtain ⟨v, rfl, r⟩ := reps1 rr
  obtain ⟨p, ws, rfl, h3, h4⟩ := items_sq r m h1
  exact ⟨p, ws, rfl, h3, l.newLst m h4 h2⟩
def oInt : OC := fun ds M Q => match ds with
  | [.int i] => Q (.int i) M
  | [.bl b] => Q (.int (if b then 1 else 0)) M
  | _ => False
theorem c_int (hK : X.K = K := by rfl) : PCall X K (.type "int") rIntA oInt := by
  subst hK
  refine ⟨rfl, call_int1, ?_⟩
  intro vs ds H M Qd Q rr m q l
  cases ds with
  | nil => exact q.elim
  | cons d t => cases t with
    | cons => cases d <;> exact q.elim
    | nil =>
      obtain ⟨v, rfl, r⟩ := reps1 rr
      cases r <;> first | exact q.elim | skip
      all_goals first | exact .inr ⟨_, rfl, l _ M _ H q Step.refl (.int _) m⟩ | exact .inl ⟨_, rfl, l _ M _ H q Step.refl (.int _) m⟩
def oAbs : OC := fun ds M Q => match ds with
  | [.int i] => Q (.int (if i < 0 then -i else i)) M
  | _ => False
theorem c_abs (hK : X.K = K := by rfl) : PCall X K (.builtin "abs") rAbsA oAbs := by
  subst hK
  refine ⟨rfl, call_abs, ?_⟩
  intro vs ds H M Qd Q rr m q l
  cases ds with
  | nil => exact q.elim
  | cons d t => cases t with
    | cons => cases d <;> exact q.elim
    | nil =>
      obtain ⟨v, rfl, r⟩ := reps1 rr
      cases r <;> first | exact q.elim | skip
      exact ⟨_, rfl, l _ M _ H q Step.refl (.int _) m⟩
/-- the ints of a row -/
def intsOf : List D → Option (List Int)
  | [] => some []
  | .int i :: r => (intsOf r).map (i :: ·)
  | _ :: _ => none
theorem ints_reps {K : PySem.W.Frag} {H : Hp} : ∀ {vs : List V} {ds : List D} {ns : List Int}, Reps K H vs ds → intsOf ds = some ns → vs = ns.map V.int
  | _, _, _, .nil, h => by cases h; rfl
  | _, d :: ds, ns, .cons r t, h => by
    cases d <;> first | (cases h; done) | skip
    rename_i i
    have h' : (intsOf ds).map (i :: ·) = some ns := h
    cases e : intsOf ds with
    | none => rw [e] at h'; cases h'
    | some ms =>
      rw [e] at h'
      cases h'
      cases r
      rw [ints_reps t e]
      rfl
def oMax : OC := fun ds M Q => match ds with
  | [.int i, .int j] => Q (.int (if j > i then j else i)) M
  | [.ref a] => ∃ es ns, M a = some (.lst es) ∧ intsOf es = some ns ∧ 0 < ns.length ∧ ∀ m, m ∈ ns → (∀ y, y ∈ ns → y ≤ m) → Q (.int m) M
  | _ => False
theorem c_max (hc : X.calm = true) (hK : X.K = K := by rfl) : PCall X K (.builtin "max") (rMaxA K) oMax := by
  subst hK
  refine ⟨rfl, (call_max2 hc).or (cr_max hc), ?_⟩
  intro vs ds H M Qd Q rr m q l
  cases ds with
  | nil => exact q.elim
  | cons d t => cases t with
    | nil =>
      obtain ⟨v, rfl, r⟩ := reps1 rr
      cases d <;> first | exact q.elim | skip
      obtain ⟨es, ns, h1, h2, h3, h4⟩ := q
      obtain ⟨ws, g1, g2⟩ := m.2 _ _ h1
      cases r
      exact .inr ⟨_, ns, rfl, by rw [← ints_reps g2 h2]; exact SqL.of g1, h3, fun k hk hm => l _ M _ H (h4 k hk hm) Step.refl (.int _) m⟩
    | cons e t => cases t with
      | cons => cases d <;> first | exact q.elim | (cases e <;> exact q.elim)
      | nil =>
        obtain ⟨v, w, rfl, r, s⟩ := reps2 rr
        cases r <;> first | exact q.elim | skip
        cases s <;> first | exact q.elim | skip
        exact .inl ⟨_, _, rfl, l _ M _ H q Step.refl (.int _) m⟩
def oMin : OC := fun ds M Q => match ds with
  | [.int i, .int j] => Q (.int (if j < i then j else i)) M
  | [.ref a] => ∃ es ns, M a = some (.lst es) ∧ intsOf es = some ns ∧ 0 < ns.length ∧ ∀ m, m ∈ ns → (∀ y, y ∈ ns → m ≤ y) → Q (.int m) M
  | _ => False
theorem c_min (hc : X.calm = true) (hK : X.K = K := by rfl) : PCall X K (.builtin "min") (rMinA K) oMin := by
  subst hK
  refine ⟨rfl, (call_min2 hc).or (cr_min hc), ?_⟩
  intro vs ds H M Qd Q rr m q l
  cases ds with
  | nil => exact q.elim
  | cons d t => cases t with
    | nil =>
      obtain ⟨v, rfl, r⟩ := reps1 rr
      cases d <;> first | exact q.elim | skip
      obtain ⟨es, ns, h1, h2, h3, h4⟩ := q
      obtain ⟨ws, g1, g2⟩ := m.2 _ _ h1
      cases r
      exact .inr ⟨_, ns, rfl, by rw [← ints_reps g2 h2]; exact SqL.of g1, h3, fun k hk hm => l _ M _ H (h4 k hk hm) Step.refl (.int _) m⟩
    | cons e t => cases t with
      | cons => cases d <;> first | exact q.elim | (cases e <;> exact q.elim)
      | nil =>
        obtain ⟨v, w, rfl, r, s⟩ := reps2 rr
        cases r <;> first | exact q.elim | skip
        cases s <;> first | exact q.elim | skip
        exact .inl ⟨_, _, rfl, l _ M _ H q Step.refl (.int _) m⟩
def oSum : OC := fun ds M Q => match ds with
  | [.ref a] => ∃ es ns, M a = some (.lst es) ∧ intsOf es = some ns ∧ Q (.int ns.sum) M
  | _ => False
theorem c_sum (hc : X.calm = true) (hK : X.K = K := by rfl) : PCall X K (.builtin "sum") (rSum K) oSum := by
  subst hK
  refine ⟨rfl, cr_sum hc, ?_⟩
  intro vs ds H M Qd Q rr m q l
  cases ds with
  | nil => exact q.elim
  | cons d t => cases t with
    | cons => cases d <;> exact q.elim
    | nil =>
      obtain ⟨v, rfl, r⟩ := reps1 rr
      cases d <;> first | exact q.elim | skip
      obtain ⟨es, ns, h1, h2, h3⟩ := q
      obtain ⟨ws, g1, g2⟩ := m.2 _ _ h1
      cases r
      exact ⟨_, ns, rfl, by rw [← ints_reps g2 h2]; exact SqL.of g1, l _ M _ H h3 Step.refl (.int _) m⟩
end
end DL
end
section
set_option maxHeartbeats 4000000
/-! DL3: subscripts, slices, methods of lists, dicts, isinstance, calls of own defs. -/
namespace DL
open PySem L2

/-! ### o[i] -/
theorem ixN_len {n m : Nat} {i : Int} (h : n = m) : ixN n i = ixN m i := by rw [h]
theorem atI_reps {K : PySem.W.Frag} {H : Hp} {vs : List V} {ds : List D} {i : Int} {d : D} (r : Reps K H vs ds) (h : atI ds i = some d) : ∃ v, atI vs i = some v ∧ Rep K H v d := by
  unfold atI at h ⊢
  rw [r.length]
  cases e : ixN ds.length i with
  | none => rw [e] at h; cases h
  | some j =>
    rw [e] at h
    exact r.get (show ds[j]? = some d from h)
def oIx : O2 := fun d e M Q => match d, e with
  | .str z, .int i => z.length ≤ sizeLine ∧ ∃ c, atI z.cps.toList i = some c ∧ Q (.str ⟨#[c]⟩) M
  | d, .int i => ∃ es, itemsD d M = some es ∧ ∃ y, atI es i = some y ∧ Q y M
  | _, _ => False
section
variable {X : Cx} {K : PySem.W.Frag} {a b e : Expr} {sta stb ste : TE} {ta tb te : DE} {pos : Pos}
theorem sop_ix {K : PySem.W.Frag} : SOp K (rIx K) oIx := by
  intro x y d e H M Qd Q r s m q l
  have seq : ∀ (i : Int), (∃ es, itemsD d M = some es ∧ ∃ z, atI es i = some z ∧ Qd z M) → rIx K x (.int i) H Q := fun i ⟨es, h1, z, h2, h3⟩ => by
    obtain ⟨p, ws, rfl, h4, h5⟩ := items_sq r m h1
    obtain ⟨v, h6, h7⟩ := atI_reps h5 h2
    have w := l _ M _ H h3 Step.refl h7 m
    rcases h4 with h4 | h4
    · exact .inl ⟨p, ws, i, v, rfl, rfl, h4, h6, w⟩
    · exact .inr (.inl ⟨p, ws, i, v, rfl, rfl, h4, h6, w⟩)
  cases s <;> first | (cases r <;> exact q.elim) | skip
  rename_i i
  cases r with
  | str z =>
    obtain ⟨h1, c, h2, h3⟩ := q
    exact .inr (.inr ⟨z, i, c, rfl, rfl, h1, h2, l _ M _ H h3 Step.refl (.str _) m⟩)
  | non => exact seq i q
  | bl => exact seq i q
  | int => exact seq i q
  | ref => exact seq i q
  | tup => exact seq i q
  | fl => exact seq i q
theorem dix (ha : PD X K a sta ta) (hb : PD X K b stb tb) (hs : PlainIx b := by intro _ _; rfl) : PD X K (.Subscript a b pos) (tOp (rIx K) sta stb) (dOp oIx ta tb) := by
  have hK := ha.hK; subst hK
  obtain ⟨_, p1, p2⟩ := ha
  obtain ⟨_, q1, q2⟩ := hb
  exact ⟨rfl, pe_ix ix_seq p1 q1 hs, se_op sop_ix p2 q2⟩

/-! ### o[lo:hi] -/
def dNo : DO := fun _ M Q => Q none M
def dPart (t : DE) : DO := fun Γ M Q => t Γ M fun d M1 => match d with
  | .int i => Q (some i) M1
  | _ => False
theorem pno (hK : X.K = K := by rfl) : PDO X K none tNoPart dNo := by
  subst hK
  exact ⟨rfl, po_none, fun σ H Γ M Qd Q hg hM ht hL => hL none M H ht Step.refl hM⟩
theorem psome (h : PD X K e ste te) : PDO X K (some e) (tPart ste) (dPart te) := by
  have hK := h.hK; subst hK
  obtain ⟨_, p1, p2⟩ := h
  refine ⟨rfl, po_some p1, fun σ H Γ M Qd Q hg hM ht hL => p2 σ H Γ M _ _ hg hM ht fun d M1 x H1 h1 s1 r1 m1 => ?_⟩
  cases r1 <;> first | exact h1.elim | skip
  exact ⟨_, rfl, hL _ M1 H1 h1 s1 m1⟩
theorem items_sl {K : PySem.W.Frag} {H : Hp} {x : V} {d : D} {M : Mp} {ds : List D} (r : Rep K H x d) (m : RepM K H M) (h : itemsD d M = some ds) (hn : ∀ es, d ≠ .tup es) : ∃ p vs, x = .ref p ∧ SqL K H p vs ∧ Reps K H vs ds := by
  cases r with
  | non => cases h
  | bl => cases h
  | int => cases h
  | str => cases h
  | tup q r => exact absurd rfl (hn _)
  | fl q r => cases h; exact ⟨_, _, rfl, q.sq, r⟩
  | ref a =>
    unfold itemsD at h
    dsimp only at h
    cases e : M a with
    | none => rw [e] at h; cases h
    | some o =>
      have ro := m.2 a o e
      rw [e] at h
      cases o with
      | lst ds =>
        cases h
        obtain ⟨vs, h1, h2⟩ := ro
        exact ⟨_, _, rfl, SqL.of h1, h2⟩
      | dct kvs => cases h
def cutD {α : Type} (xs : List α) (lo hi : Option Int) : List α := (xs.drop (HT.sIx xs.length 0 lo)).take (HT.sIx xs.length xs.length hi - HT.sIx xs.length 0 lo)
theorem cutD_reps {K : PySem.W.Frag} {H : Hp} {vs : List V} {ds : List D} (r : Reps K H vs ds) (lo hi : Option Int) : Reps K H (cutV vs lo hi) (cutD ds lo hi) := by
  unfold cutV cutD
  rw [r.length]
  exact (r.drop _).take _
def dSl (t : DE) (tl th : DO) : DE := fun Γ M Q => t Γ M fun d M1 => tl Γ M1 fun lo M2 => th Γ M2 fun hi M3 => match d with
  | .tup ds => Q (.tup (cutD ds lo hi)) M3
  | d => ∃ es, itemsD d M3 = some es ∧ ∀ p, M3 p = none → Q (.ref p) (mupd M3 p (.lst (cutD es lo hi)))
variable {lo hi : Option Expr} {stl sth : TO} {tl th : DO} {p2 : Pos}
theorem dsl (he : PD X K e ste te) (hl : PDO X K lo stl tl) (hu : PDO X K hi sth th) : PD X K (.Subscript e (.Slice lo hi none p2) pos) (tSl (fun x lo hi H Q => rSlL K x lo hi H Q ∨ rSlA K x lo hi H Q) ste stl sth) (dSl te tl th) := by
  have hK := he.hK; subst hK
  obtain ⟨_, g1, g2⟩ := he
  obtain ⟨_, k1, k2⟩ := hl
  obtain ⟨_, j1, j2⟩ := hu
  refine ⟨rfl, pe_slice (sl_list.or sl_tupA) g1 k1 j1, fun σ H Γ M Qd Q hg hM ht hL => g2 σ H Γ M _ _ hg hM ht fun d M1 x H1 h1 s1 r1 m1 =>
    k2 σ H1 Γ M1 _ _ (hg.step hM s1) m1 h1 fun lo M2 H2 h2 s2 m2 => j2 σ H2 Γ M2 _ _ ((hg.step hM s1).step m1 s2) m2 h2 fun hi M3 H3 h3 s3 m3 => ?_⟩
  have r3 := (r1.step m1 s2).step m2 s3
  have L := hL.step ((s1.trans s2).trans s3)
  have seq : (∀ ds, d ≠ .tup ds) → (∃ es, itemsD d M3 = some es ∧ ∀ p, M3 p = none → Qd (.ref p) (mupd M3 p (.lst (cutD es lo hi)))) → rSlL X.K x lo hi H3 Q := fun hn ⟨es, g1, g2⟩ => by
    obtain ⟨p, ws, rfl, h4, h5⟩ := items_sl r3 m3 g1 hn
    exact ⟨p, ws, rfl, h4, L.newLst m3 (cutD_reps h5 lo hi) g2⟩
  cases r3 with
  | tup q r =>
    refine .inr ⟨_, _, rfl, q, fun hw => ?_, fun _ => L.newTup m3 (cutD_reps r lo hi) h3⟩
    have e : ∀ {α : Type} (xs : List α), HT.sIx xs.length 0 lo = 0 → HT.sIx xs.length xs.length hi = xs.length → cutD xs lo hi = xs := fun xs a b => by
      unfold cutD
      rw [a, b, List.drop_zero, Nat.sub_zero, List.take_length]
    rw [r.length] at hw
    refine L _ M3 _ H3 h3 Step.refl ?_ m3
    rw [e _ hw.1 hw.2]
    exact .tup q r
  | non => exact .inl (seq (fun _ z => nomatch z) h3)
  | bl => exact .inl (seq (fun _ z => nomatch z) h3)
  | int => exact .inl (seq (fun _ z => nomatch z) h3)
  | str => exact .inl (seq (fun _ z => nomatch z) h3)
  | ref => exact .inl (seq (fun _ z => nomatch z) h3)
  | fl => exact .inl (seq (fun _ z => nomatch z) h3)

/-! ### methods of lists -/
abbrev OM := Addr → List D → List D → Mp → DK → Prop
def dLM (o : OM) (ta : DE) (tr : DA) : DE := fun Γ M Q => ta Γ M fun d M1 => match d with
  | .ref a => (∃ es, M1 a = some (.lst es)) ∧ tr Γ M1 fun ds M2 => ∃ es, M2 a = some (.lst es) ∧ o a es ds M2 Q
  | _ => False
def SMt (K : PySem.W.Frag) (r : V → List V → Hp → VK → Prop) (o : OM) : Prop := ∀ a es vs ds H M Qd Q, M a = some (.lst es) → Reps K H vs ds → RepM K H M → o a es ds M Qd → Lift K M H Qd Q → r (.ref a) vs H Q
structure PMt (X : Cx) (K : PySem.W.Frag) (id : String) (r : V → List V → Hp → VK → Prop) (o : OM) : Prop where
  hK : X.K = K
  pe : MtR X id r
  se : SMt K r o
theorem se_lm {K : PySem.W.Frag} {r : V → List V → Hp → VK → Prop} {o : OM} {sa : TE} {sr : TA} {tr : DA} (ho : SMt K r o) (ha : SE K sa ta) (hr : SA K sr tr) : SE K (tBM K "list" r sa sr) (dLM o ta tr) := fun σ H Γ M Qd Q hg hM ht hL =>
  ha σ H Γ M _ _ hg hM ht fun d M1 x H1 h1 s1 r1 m1 => by
    cases r1 <;> first | exact h1.elim | skip
    rename_i a
    obtain ⟨⟨es, h2⟩, h3⟩ := h1
    obtain ⟨ws, g1, g2⟩ := m1.2 _ _ h2
    refine ⟨.inl ⟨rfl, ws, SqL.of g1⟩, hr σ H1 Γ M1 _ _ (hg.step hM s1) m1 h3 fun ds M2 vs H2 ⟨es2, h4, h5⟩ s2 r2 m2 => ?_⟩
    exact ho a es2 vs ds H2 M2 Qd Q h4 r2 m2 h5 (hL.step (s1.trans s2))
theorem se_lm0 {K : PySem.W.Frag} {r : V → List V → Hp → VK → Prop} {o : OM} {sa : TE} (ho : SMt K r o) (ha : SE K sa ta) : SE K (tBM0 K "list" r sa) (dLM o ta dNil) := fun σ H Γ M Qd Q hg hM ht hL =>
  ha σ H Γ M _ _ hg hM ht fun d M1 x H1 h1 s1 r1 m1 => by
    cases r1 <;> first | exact h1.elim | skip
    rename_i a
    obtain ⟨⟨es, h2⟩, es2, h4, h5⟩ := h1
    obtain ⟨ws, g1, g2⟩ := m1.2 _ _ h2
    exact ⟨.inl ⟨rfl, ws, SqL.of g1⟩, ho a es2 [] [] H1 M1 Qd Q h4 .nil m1 h5 (hL.step s1)⟩
def oAppend : OM := fun a es ds M Q => match ds with
  | [d] => es.length < sizeLine ∧ Q .non (mupd M a (.lst (es ++ [d])))
  | _ => False
theorem Lift.mut {K : PySem.W.Frag} {M : Mp} {H : Hp} {Qd : DK} {Q : VK} {a : Addr} {u : MO} {vs : List V} {es : List D} {v : V} {d : D} (l : Lift K M H Qd Q) (m : RepM K H M) (h : M a = some u) (r : Reps K H vs es) (rv : Rep K H v d)
    (q : Qd d (mupd M a (.lst es))) : Q v (upd H a (.lst vs)) := by
  have hs : Step M H (mupd M a (.lst es)) (upd H a (.lst vs)) := Step.mut h
  exact l _ _ _ _ q hs (rv.step m hs) (m.mut h ⟨vs, upd_same, r.step m hs⟩)
theorem m_append (hK : X.K = K := by rfl) : PMt X K "list.append" rAppend oAppend := by
  subst hK
  refine ⟨rfl, mt_append, ?_⟩
  intro a es vs ds H M Qd Q h rr m q l
  obtain ⟨d, rfl, h1, h2⟩ := one_of q
  obtain ⟨v, rfl, r⟩ := reps1 rr
  obtain ⟨ws, g1, g2⟩ := m.2 _ _ h
  exact ⟨a, ws, v, rfl, rfl, g1, by rw [g2.length]; exact h1, l.mut m h (g2.append (.cons r .nil)) .non h2⟩
def oExtend : OM := fun a es ds M Q => match ds with
  | [.ref b] => ∃ fs, M b = some (.lst fs) ∧ es.length + fs.length ≤ sizeLine ∧ Q .non (mupd M a (.lst (es ++ fs)))
  | _ => False
theorem m_extend (hK : X.K = K := by rfl) : PMt X K "list.extend" rExtend oExtend := by
  subst hK
  refine ⟨rfl, mt_extend, ?_⟩
  intro a es vs ds H M Qd Q h rr m q l
  cases ds with
  | nil => exact q.elim
  | cons d t => cases t with
    | cons => cases d <;> exact q.elim
    | nil =>
      obtain ⟨v, rfl, r⟩ := reps1 rr
      cases d <;> first | exact q.elim | skip
      obtain ⟨fs, h1, h2, h3⟩ := q
      cases r
      obtain ⟨ws, g1, g2⟩ := m.2 _ _ h
      obtain ⟨zs, k1, k2⟩ := m.2 _ _ h1
      exact ⟨a, _, ws, zs, rfl, rfl, g1, k1, by rw [g2.length, k2.length]; exact h2, l.mut m h (g2.append k2) .non h3⟩
def oPop : OM := fun a es ds M Q => match ds with
  | [] => ∃ y, es[es.length - 1]? = some y ∧ Q y (mupd M a (.lst es.dropLast))
  | _ => False
theorem m_pop (hK : X.K = K := by rfl) : PMt X K "list.pop" rPop oPop := by
  subst hK
  refine ⟨rfl, mt_pop, ?_⟩
  intro a es vs ds H M Qd Q h rr m q l
  cases ds with
  | cons => exact q.elim
  | nil =>
    obtain ⟨y, h1, h2⟩ := q
    cases rr
    obtain ⟨ws, g1, g2⟩ := m.2 _ _ h
    obtain ⟨v, h3, h4⟩ := g2.get h1
    exact ⟨a, ws, v, rfl, rfl, g1, by rw [g2.length]; exact h3, l.mut m h g2.dropLast h4 h2⟩
theorem Reps.eraseIdx {K : PySem.W.Frag} {H : Hp} : ∀ {vs : List V} {ds : List D} (n : Nat), Reps K H vs ds → Reps K H (vs.eraseIdx n) (ds.eraseIdx n)
  | _, _, _, .nil => .nil
  | _, _, 0, .cons _ t => t
  | _, _, n + 1, .cons r t => .cons r (Reps.eraseIdx n t)
def oPopAt : OM := fun a es ds M Q => match ds with
  | [.int i] => -(2 ^ 63) ≤ i ∧ i < 2 ^ 63 ∧ ∃ k y, seqIndex? i es.length = some k ∧ es[k]? = some y ∧ Q y (mupd M a (.lst (es.eraseIdx k)))
  | _ => False
theorem m_popAt (hK : X.K = K := by rfl) : PMt X K "list.pop" rPopAt oPopAt := by
  subst hK
  refine ⟨rfl, mt_popAt, ?_⟩
  intro a es vs ds H M Qd Q h rr m q l
  cases ds with
  | nil => exact q.elim
  | cons d t => cases t with
    | cons => cases d <;> exact q.elim
    | nil =>
      obtain ⟨v, rfl, r⟩ := reps1 rr
      cases d <;> first | exact q.elim | skip
      obtain ⟨h0, h00, k, y, h1, h2, h3⟩ := q
      cases r
      obtain ⟨ws, g1, g2⟩ := m.2 _ _ h
      obtain ⟨v, h4, h5⟩ := g2.get h2
      exact ⟨a, ws, _, k, v, rfl, rfl, g1, h0, h00, by rw [g2.length]; exact h1, h4, l.mut m h (g2.eraseIdx k) h5 h3⟩
def oInsert : OM := fun a es ds M Q => match ds with
  | [.int i, d] => es.length < sizeLine ∧ 0 ≤ i ∧ i < 2 ^ 63 ∧ Q .non (mupd M a (.lst (es.take i.toNat ++ [d] ++ es.drop i.toNat)))
  | _ => False
def rInsertA : V → List V → Hp → VK → Prop := fun x vs H Q => ∃ (l : Addr) (xs : List V) (i : Int) (y : V), x = .ref l ∧ vs = [.int i, y] ∧ H l = some (.lst xs) ∧ xs.length < sizeLine ∧ 0 ≤ i ∧ i < 2 ^ 63 ∧
    Q .non (upd H l (.lst (xs.take i.toNat ++ [y] ++ xs.drop i.toNat)))
theorem m_insert (hK : X.K = K := by rfl) : PMt X K "list.insert" rInsertA oInsert := by
  subst hK
  refine ⟨rfl, mt_insert, ?_⟩
  intro a es vs ds H M Qd Q h rr m q l
  cases ds with
  | nil => exact q.elim
  | cons d t => cases t with
    | nil => cases d <;> exact q.elim
    | cons e t => cases t with
      | cons => cases d <;> exact q.elim
      | nil =>
        obtain ⟨v, w, rfl, r, s⟩ := reps2 rr
        cases d <;> first | exact q.elim | skip
        obtain ⟨h1, h2, h3, h4⟩ := q
        cases r
        obtain ⟨ws, g1, g2⟩ := m.2 _ _ h
        exact ⟨a, ws, _, w, rfl, rfl, g1, by rw [g2.length]; exact h1, h2, h3, l.mut m h (((g2.take _).append (.cons s .nil)).append (g2.drop _)) .non h4⟩
variable {es : List Expr} {str : TA} {tr : DA} {rm : V → List V → Hp → VK → Prop} {o : OM} {id : String} {name : Str} {apos cpos : Pos}
theorem dlm (pa : PlainAttrs "list") (slot : Slot "list" name id) (hty : typeOf (.builtin id) = pure (.type "method_descriptor")) (hm : PMt X K id rm o) (ha : PD X K a sta ta) (hr : PDA X K (e :: es) str tr)
    (hbase : attributeBase a name X.env (eval a X.env) = eval a X.env := by rfl)
    (hfew : ((backTo cpos (starEach (e :: es) X.env)).all (fun x => !x.1) && (backToKw cpos (keywordEach [] X.env)).all (fun x => x.1.isSome)
      && decide ((e :: es).length + ([] : List Keyword).length + (if ([] : List Keyword).isEmpty then 0 else 1) < 30)) = true := by rfl)
    (hline : (apos.endLine == cpos.line) = true := by rfl) (hs : starEach (e :: es) X.env = (false, eval e X.env) :: starEach es X.env := by rfl) (hplain : (backTo cpos (starEach es X.env)).any (·.1) = false := by rfl) :
    PD X K (.Call (.Attribute a name apos) (e :: es) [] cpos) (tBM K "list" rm sta str) (dLM o ta tr) := by
  have hK := hm.hK; subst hK
  obtain ⟨_, h1, h2⟩ := hm
  obtain ⟨_, p1, p2⟩ := ha
  obtain ⟨_, q1, q2⟩ := hr
  exact ⟨rfl, pe_bm pa slot hty h1 p1 q1 hbase hfew hline hs hplain, se_lm h2 p2 q2⟩
theorem dlm0 (pa : PlainAttrs "list") (slot : Slot "list" name id) (hty : typeOf (.builtin id) = pure (.type "method_descriptor")) (hm : PMt X K id rm o) (ha : PD X K a sta ta)
    (hbase : attributeBase a name X.env (eval a X.env) = eval a X.env := by rfl) (hline : (apos.endLine == cpos.line) = true := by rfl) :
    PD X K (.Call (.Attribute a name apos) [] [] cpos) (tBM0 K "list" rm sta) (dLM o ta dNil) := by
  have hK := hm.hK; subst hK
  obtain ⟨_, h1, h2⟩ := hm
  obtain ⟨_, p1, p2⟩ := ha
  exact ⟨rfl, pe_bm0 pa slot hty h1 p1 hbase hline, se_lm0 h2 p2⟩

/-! ### isinstance(e, T), T a built-in type -/
def tyD (d : D) (M : Mp) : Option String := match d with
  | .non => some "NoneType"
  | .bl _ => some "bool"
  | .int _ => some "int"
  | .str _ => some "str"
  | .tup _ => some "tuple"
  | .fl _ => some "list"
  | .ref a => match M a with
    | some (.lst _) => some "list"
    | some (.dct _) => some "dict"
    | none => none
theorem ty_of {K : PySem.W.Frag} {H : Hp} {x : V} {d : D} {M : Mp} {T : String} (r : Rep K H x d) (m : RepM K H M) (h : tyD d M = some T) : TyX K H x (.type T) := by
  cases r with
  | non => cases h; exact .base .non
  | bl b => cases h; exact .base (.bl b)
  | int i => cases h; exact .base (.int i)
  | str y => cases h; exact .base (.str y)
  | tup q r =>
    cases h
    rcases q with (q | ⟨o, q⟩) | ⟨o, its, n, q1, q2, _⟩
    · exact .base (.tup q)
    · exact .fTuple q
    · exact .kTuple q1 q2
  | fl q r =>
    cases h
    rcases q with ⟨o, q⟩ | ⟨its, n, q1, _⟩
    · exact .base (.frz q)
    · exact .kList q1 rfl
  | ref a =>
    unfold tyD at h
    dsimp only at h
    cases e : M a with
    | none => rw [e] at h; cases h
    | some o =>
      have ro := m.2 a o e
      rw [e] at h
      cases o with
      | lst ds => cases h; obtain ⟨vs, h1, _⟩ := ro; exact .base (.lst h1)
      | dct kvs => cases h; obtain ⟨vs, h1, _⟩ := ro; exact .base (.dK h1)
def dIsi (T : String) (te : DE) : DE := fun Γ M Q => te Γ M fun d M1 => ∃ S b, tyD d M1 = some S ∧ kitB S T = some b ∧ Q (.bl b) M1
theorem disi {T : String} {x : Str} {p pt : Pos} (he : PD X K e ste te) (hg : Gl X "isinstance") (hm : X.mg "isinstance" = none) (hv : bootBuiltins "isinstance" = some (.builtin "isinstance")) (hg2 : Gl X x) (hm2 : X.mg x = none) (hv2 : bootBuiltins x = some (.type T))
    (hn : x ≠ "__name__" := by decide) (hd : (x == ("__debug__" : Str)) = false := by decide) (h1 : starEach [e, .Name x pt] X.env = (false, eval e X.env) :: starEach [.Name x pt] X.env := by rfl) (h2 : starEach [.Name x pt] X.env = (false, eval (.Name x pt) X.env) :: starEach [] X.env := by rfl)
    (hpl : (backTo pos (starEach [.Name x pt] X.env)).any (·.1) = false := by rfl) : PD X K (.Call (.Name "isinstance" p) [e, .Name x pt] [] pos) (tCB (rIsi K) (tCons ste (tCons (tC (.ty T)) tNil))) (dIsi T te) := by
  have hK := he.hK; subst hK
  obtain ⟨_, p1, p2⟩ := he
  refine ⟨rfl, pe_callB call_isi hg hm hv (pa_cons p1 (pa_cons (pe_bltn (v := .ty T) hg2 hm2 hv2 rfl hn hd) pa_nil h2) h1) (by decide) (by decide) h1 hpl, fun σ H Γ M Qd Q hg hM ht hL => p2 σ H Γ M _ _ hg hM ht fun d M1 x H1 h1 s1 r1 m1 => ?_⟩
  obtain ⟨S, b, h3, h4, h5⟩ := h1
  exact ⟨_, _, _, _, b, rfl, .ty T, ty_of r1 m1 h3, kit_ty h4, hL _ M1 _ H1 h5 s1 (.bl b) m1⟩

/-! ### dicts with written keys -/
def valD (kvs : List (Key × D)) (k : Key) : Option D := (kvs.find? fun kv => decide (kv.1 = k)).map (·.2)
def putD (kvs : List (Key × D)) (k : Key) (v : D) : List (Key × D) := if kvs.any (fun kv => decide (kv.1 = k)) then kvs.map (fun kv => if kv.1 = k then (kv.1, v) else kv) else kvs ++ [(k, v)]
def keyD : D → Option Key
  | .int i => some (.inl i)
  | .str x => some (.inr x)
  | _ => none
theorem kreps_val {K : PySem.W.Frag} {H : Hp} {k : Key} : ∀ {vs : List (Key × V)} {ds : List (Key × D)} {d : D}, KReps K H vs ds → valD ds k = some d → ∃ v, valV vs k = some v ∧ Rep K H v d := by
  intro vs ds d h
  induction h with
  | nil => intro e; cases e
  | @cons j v d' vs ds r t ih =>
    intro e
    by_cases hk : j = k
    · have e1 : valD ((j, d') :: ds) k = some d' := by simp [valD, List.find?_cons, hk]
      rw [e1] at e; cases e
      exact ⟨v, valV_pos hk, r⟩
    · have e1 : valD ((j, d') :: ds) k = valD ds k := by simp [valD, List.find?_cons, hk]
      rw [e1] at e
      rw [valV_neg hk]
      exact ih e
theorem key_rep {K : PySem.W.Frag} {H : Hp} {v : V} {d : D} {k : Key} (r : Rep K H v d) (h : keyD d = some k) : v = kV k := by
  cases r <;> cases h <;> rfl
def dDGet (td ty : DE) : DE := fun Γ M Q => td Γ M fun d M1 => ty Γ M1 fun e M2 => match d with
  | .ref a => ∃ kvs k v, M2 a = some (.dct kvs) ∧ keyD e = some k ∧ valD kvs k = some v ∧ Q v M2
  | _ => False
theorem ddget (hu : X.A.units + 1 < cLine) (ha : PD X K a sta ta) (hb : PD X K b stb tb) (hs : NoSl b := by intro _ _; rfl) : PD X K (.Subscript a b pos) (tDGet sta stb) (dDGet ta tb) := by
  have hK := ha.hK; subst hK
  obtain ⟨_, p1, p2⟩ := ha
  obtain ⟨_, q1, q2⟩ := hb
  refine ⟨rfl, pe_dget hu p1 q1 hs, fun σ H Γ M Qd Q hg hM ht hL => p2 σ H Γ M _ _ hg hM ht fun d M1 x H1 h1 s1 r1 m1 => q2 σ H1 Γ M1 _ _ (hg.step hM s1) m1 h1 fun e M2 y H2 h2 s2 r2 m2 => ?_⟩
  cases d <;> first | exact h2.elim | skip
  cases r1
  obtain ⟨kvs, k, v, h3, h4, h5, h6⟩ := h2
  obtain ⟨ks, g1, g2⟩ := m2.2 _ _ h3
  obtain ⟨u, g3, g4⟩ := kreps_val g2 h5
  refine ⟨_, u, rfl, ?_, hL _ M2 _ H2 h6 (s1.trans s2) g4 m2⟩
  rw [key_rep r2 h4, ← g3]
  exact DGet.k g1
end
end DL
end
section
set_option maxHeartbeats 4000000
/-! DL4: statements, targets, loops, comprehensions, calls of own defs over trees. -/
namespace DL
open PySem PySem.Spec PyProof.Rows L2

section
variable {X : Cx} {K : PySem.W.Frag} {st : Stmt} {rest : List Stmt} {st' su : TS} {t u : DS} {e : Expr} {ste : TE} {te : DE} {pos : Pos}
/-! ### blocks -/
def dNext : DS := fun F Γ M => F.nx Γ M
def dSeq (t u : DS) : DS := fun F Γ M => t { F with nx := u F } Γ M
theorem snil (hK : X.K = K := by rfl) : PDSs X K [] tNext dNext := by
  subst hK
  exact ⟨rfl, pss_nil, fun σ H Γ M F E hg hM ht hL => hL.nx Γ M σ H ht Step.refl hg hM⟩
theorem scons (h1 : PDS X K st st' t) (h2 : PDSs X K rest su u) : PDSs X K (st :: rest) (tSeq st' su) (dSeq t u) := by
  have hK := h1.hK; subst hK
  obtain ⟨_, p1, p2⟩ := h1
  obtain ⟨_, q1, q2⟩ := h2
  exact ⟨rfl, pss_cons p1 q1, fun σ H Γ M F E hg hM ht hL => p2 σ H Γ M { F with nx := u F } { E with nx := su E } hg hM ht
    ⟨fun Γ' M' σ' H' h st hg' hM' => q2 σ' H' Γ' M' F E hg' hM' h (hL.step st), hL.rt, hL.bk, hL.ct⟩⟩
theorem sone (h1 : PDS X K st st' t) : PDSs X K [st] st' t := by have hK := h1.hK; subst hK; obtain ⟨_, p1, p2⟩ := h1; exact ⟨rfl, pss_one p1, p2⟩
def dBreak : DS := fun F Γ M => F.bk Γ M
def dCont : DS := fun F Γ M => F.ct Γ M
theorem sbreak (hK : X.K = K := by rfl) : PDS X K (.Break pos) tBreak dBreak := by
  subst hK
  exact ⟨rfl, ps_break, fun σ H Γ M F E hg hM ht hL => hL.bk Γ M σ H ht Step.refl hg hM⟩
theorem scontinue (hK : X.K = K := by rfl) : PDS X K (.Continue pos) tCont dCont := by
  subst hK
  exact ⟨rfl, ps_continue, fun σ H Γ M F E hg hM ht hL => hL.ct Γ M σ H ht Step.refl hg hM⟩
theorem spass (hK : X.K = K := by rfl) : PDS X K (.Pass pos) tNext dNext := by
  subst hK
  exact ⟨rfl, ps_pass, fun σ H Γ M F E hg hM ht hL => hL.nx Γ M σ H ht Step.refl hg hM⟩
def dDrop (te : DE) : DS := fun F Γ M => te Γ M fun _ M1 => F.nx Γ M1
theorem sexpr (he : PD X K e ste te) (hs : swapsWith e none pos.line X.env = pure false := by rfl) : PDS X K (.Expr e pos) (tDrop ste) (dDrop te) := by
  have hK := he.hK; subst hK
  obtain ⟨_, p1, p2⟩ := he
  exact ⟨rfl, ps_expr p1 hs, fun σ H Γ M F E hg hM ht hL => p2 σ H Γ M _ _ hg hM ht fun d M1 v H1 h s r m => hL.nx Γ M1 σ H1 h s (hg.step hM s) m⟩
def dRet (te : DE) : DS := fun F Γ M => te Γ M F.rt
theorem sret (he : PD X K e ste te) : PDS X K (.Return (some e) pos) (tRet ste) (dRet te) := by
  have hK := he.hK; subst hK
  obtain ⟨_, p1, p2⟩ := he
  exact ⟨rfl, ps_ret p1, fun σ H Γ M F E hg hM ht hL => p2 σ H Γ M _ _ hg hM ht hL.rt⟩
def dRetN : DS := fun F _ M => F.rt .non M
theorem sretN (hK : X.K = K := by rfl) : PDS X K (.Return none pos) tRetN dRetN := by
  subst hK
  exact ⟨rfl, ps_retN, fun σ H Γ M F E hg hM ht hL => hL.rt _ M _ H ht Step.refl .non hM⟩
def dIfS (c : DT) (t u : DS) : DS := fun F Γ M => c Γ M fun b M1 => if b = true then t F Γ M1 else u F Γ M1
theorem sif {stc : TT} {c : Expr} {a b : List Stmt} {tc : DT} (hc : PDT X K c stc tc) (ha : PDSs X K a st' t) (hb : PDSs X K b su u) : PDS X K (.If c a b pos) (tIfS stc st' su) (dIfS tc t u) := by
  have hK := hc.hK; subst hK
  obtain ⟨_, g1, g2⟩ := hc
  obtain ⟨_, p1, p2⟩ := ha
  obtain ⟨_, q1, q2⟩ := hb
  refine ⟨rfl, ps_if g1 p1 q1, fun σ H Γ M F E hg hM ht hL => g2 σ H Γ M _ _ hg hM ht fun c M1 H1 h s m => ?_⟩
  cases c with
  | true =>
    rw [if_pos rfl] at h ⊢
    exact p2 σ H1 Γ M1 F E (hg.step hM s) m h (hL.step s)
  | false =>
    rw [if_neg Bool.false_ne_true] at h ⊢
    exact q2 σ H1 Γ M1 F E (hg.step hM s) m h (hL.step s)

/-! ### targets -/
abbrev DG := D → Gm → Mp → (Gm → Mp → Prop) → Prop
/-- slots outside of own stand -/
def But (own : List Nat) (σ σ' : L2.St) : Prop := σ'.length = σ.length ∧ ∀ j, j ∉ own → σ'[j]? = σ[j]?
def SG (K : PySem.W.Frag) (own : List Nat) (tg : TG) (g : DG) : Prop := ∀ v d σ H Γ M Qd (Q : L2.St → Hp → Prop), Rep K H v d → RG K H σ Γ → RepM K H M → g d Γ M Qd →
  (∀ Γ' M' σ' H', Qd Γ' M' → Step M H M' H' → RG K H' σ' Γ' → RepM K H' M' → But own σ σ' → Q σ' H') → tg v σ H Q
structure PDG (X : Cx) (K : PySem.W.Frag) (own : List Nat) (target : Expr) (s : TG) (g : DG) : Prop where
  hK : X.K = K
  pe : PG X target s
  se : SG K own s g
def dgN (i : Nat) : DG := fun d Γ M Q => Q (sv Γ i d) M
theorem But.set {own : List Nat} {σ : L2.St} {i : Nat} {x : Option V} (h : i ∈ own) : But own σ (σ.set i x) := ⟨List.length_set .., fun j hj => List.getElem?_set_ne (fun e => hj (by rw [← e]; exact h))⟩
theorem But.trans {own : List Nat} {a b c : L2.St} (x : But own a b) (y : But own b c) : But own a c := ⟨y.1.trans x.1, fun j hj => (y.2 j hj).trans (x.2 j hj)⟩
theorem gname {own : List Nat} {i : Nat} {x : Str} (hN : X.N.Nodup) (hi : X.N[i]? = some x := by rfl) (ho : i ∈ own := by decide) (hx : Loc X.env.scope x := by first | exact .inl rfl | exact .inr rfl) (hf : X.fn x = true ∨ X.env.scope.names.lookup x = some .local := by first | exact .inl rfl | exact .inr rfl | assumption) (hK : X.K = K := by rfl) :
    PDG X K own (.Name x pos) (gName i) (dgN i) := by
  subst hK
  exact ⟨rfl, pg_name hN hi hx hf, fun v d σ H Γ M Qd Q r hg hM h k => k _ M _ H h Step.refl (hg.set r i) hM (But.set ho)⟩
def dgAll : List DG → List D → Gm → Mp → (Gm → Mp → Prop) → Prop
  | [], [], Γ, M, Q => Q Γ M
  | g :: gs, d :: ds, Γ, M, Q => g d Γ M fun Γ1 M1 => dgAll gs ds Γ1 M1 Q
  | _, _, _, _, _ => False
structure PDGs (X : Cx) (K : PySem.W.Frag) (own : List Nat) (ts : List Expr) (tg : TGs) (gs : List DG) : Prop where
  hK : X.K = K
  pe : PGs X ts tg
  se : ∀ vs ds σ H Γ M Qd (Q : L2.St → Hp → Prop), Reps K H vs ds → RG K H σ Γ → RepM K H M → dgAll gs ds Γ M Qd →
    (∀ Γ' M' σ' H', Qd Γ' M' → Step M H M' H' → RG K H' σ' Γ' → RepM K H' M' → But own σ σ' → Q σ' H') → tg vs σ H Q
theorem gsnil {own : List Nat} (hK : X.K = K := by rfl) : PDGs X K own [] gNil [] := by
  subst hK
  exact ⟨rfl, pgs_nil, fun vs ds σ H Γ M Qd Q r hg hM h k => by
  cases r with
  | nil => exact ⟨rfl, k _ M _ H h Step.refl hg hM ⟨rfl, fun _ _ => rfl⟩⟩
  | cons => exact h.elim⟩
theorem gscons {sg : TG} {sgs : TGs} {own : List Nat} {e : Expr} {es : List Expr} {g : DG} {gs : List DG} (h1 : PDG X K own e sg g) (h2 : PDGs X K own es sgs gs)
    (hs : (assignEach (e :: es) X.env).map (·.2) = assign e X.env :: (assignEach es X.env).map (·.2) := by rfl) : PDGs X K own (e :: es) (gCons sg sgs) (g :: gs) := by
  have hK := h1.hK; subst hK
  obtain ⟨_, p1, p2⟩ := h1
  obtain ⟨_, q1, q2⟩ := h2
  refine ⟨rfl, pgs_cons p1 q1 hs, fun vs ds σ H Γ M Qd Q r hg hM h k => ?_⟩
  cases r with
  | nil => exact h.elim
  | cons r rs =>
    refine ⟨_, _, rfl, p2 _ _ σ H Γ M _ _ r hg hM h fun Γ1 M1 σ1 H1 h1 s1 g1 m1 b1 => ?_⟩
    exact q2 _ _ σ1 H1 Γ1 M1 _ _ (rs.step hM s1) g1 m1 h1 fun Γ2 M2 σ2 H2 h2 s2 g2 m2 b2 => k Γ2 M2 σ2 H2 h2 (s1.trans s2) g2 m2 (b1.trans b2)
def dgT (gs : List DG) : DG := fun d Γ M Q => match d with
  | .tup ds => ds.length = gs.length ∧ dgAll gs ds Γ M Q
  | .ref a => match M a with
    | some (.lst ds) => ds.length = gs.length ∧ dgAll gs ds Γ M Q
    | _ => False
  | _ => False
def gTL (K : PySem.W.Frag) (n : Nat) (t : TGs) : TG := fun v σ H Q => gTup K n t v σ H Q ∨ gLst K n t v σ H Q
theorem gtup {sgs : TGs} {own : List Nat} {es : List Expr} {k : Nat} {gs : List DG} (hc : X.calm = true) (h : PDGs X K own es sgs gs)
    (hn : (assignEach es X.env).length = gs.length := by rfl) (hst : (assignEach es X.env).findIdx? (·.1) = none := by rfl) : PDG X K own (.Tuple es k pos) (gTL K gs.length sgs) (dgT gs) := by
  have hK := h.hK; subst hK
  obtain ⟨_, p1, p2⟩ := h
  refine ⟨rfl, ⟨fun pins s σ H v u Q I r hw => hw.elim (fun hw => (pg_tup hc p1 hn hst).run pins s σ H v u Q I r hw) fun hw => (pg_lst hc p1 hn hst).run pins s σ H v u Q I r hw⟩, fun v d σ H Γ M Qd Q r hg hM h k => ?_⟩
  obtain ⟨ds, e1, e2, e3⟩ : ∃ ds, itemsD d M = some ds ∧ ds.length = gs.length ∧ dgAll gs ds Γ M Qd := by
    cases d with
    | tup ds => exact ⟨ds, rfl, h.1, h.2⟩
    | ref a =>
      unfold dgT at h
      dsimp only at h
      cases e : M a with
      | none => rw [e] at h; exact h.elim
      | some o => cases o with
        | lst ds =>
          rw [e] at h
          exact ⟨ds, by unfold itemsD; dsimp only; rw [e], h.1, h.2⟩
        | dct kvs => rw [e] at h; exact h.elim
    | _ => exact h.elim
  obtain ⟨p, vs, rfl, hq, rs⟩ := items_sq r hM e1
  rcases hq with hq | hq
  · exact .inr ⟨_, _, rfl, hq, by rw [rs.length]; exact e2, p2 _ _ σ H Γ M _ _ rs hg hM e3 k⟩
  · exact .inl ⟨_, _, rfl, hq, by rw [rs.length]; exact e2, p2 _ _ σ H Γ M _ _ rs hg hM e3 k⟩

/-! ### assignments -/
def dAsg (te : DE) (g : DG) : DS := fun F Γ M => te Γ M fun d M1 => g d Γ M1 F.nx
theorem ss_asg {K : PySem.W.Frag} {own : List Nat} {s1 : TE} {tg : TG} {g : DG} (p2 : SE K s1 te) (q2 : SG K own tg g) : SS K (tAsg s1 tg) (dAsg te g) := fun σ H Γ M F E hg hM ht hL =>
  p2 σ H Γ M _ _ hg hM ht fun d M1 v H1 h s r m => q2 v d σ H1 Γ M1 _ _ r (hg.step hM s) m h fun Γ' M' σ' H' h' s' g' m' _ => hL.nx Γ' M' σ' H' h' (s.trans s') g' m'
theorem sasg {sg : TG} {own : List Nat} {tg : Expr} {g : DG} (he : PD X K e ste te) (hg : PDG X K own tg sg g) (hs : swapsWithSole [tg] e pos.line X.env = pure false := by rfl) (hw : swappedStores [tg] e X.env = pure none := by rfl)
    (h1 : (assignEach [tg] X.env).map (·.2) = [assign tg X.env] := by rfl) : PDS X K (.Assign [tg] e pos) (tAsg ste sg) (dAsg te g) := by
  have hK := he.hK; subst hK
  obtain ⟨_, p1, p2⟩ := he
  obtain ⟨_, q1, q2⟩ := hg
  exact ⟨rfl, ps_asg p1 q1 hs hw h1, ss_asg p2 q2⟩
theorem sset {i : Nat} {x : Str} {pos' : Pos} (hN : X.N.Nodup) (he : PD X K e ste te) (hi : X.N[i]? = some x := by rfl) (hx : Loc X.env.scope x := by first | exact .inl rfl | exact .inr rfl) (hs : swapsWith e (some (.Name x pos')) pos.line X.env = pure false := by rfl) (hf : X.fn x = true ∨ X.env.scope.names.lookup x = some .local := by first | exact .inl rfl | exact .inr rfl | assumption) :
    PDS X K (.Assign [.Name x pos'] e pos) (tAsg ste (gName i)) (dAsg te (dgN i)) := by
  have hK := he.hK; subst hK
  obtain ⟨_, p1, p2⟩ := he
  exact ⟨rfl, ps_set hN hi hx p1 hs hf, ss_asg (own := [i]) p2 (fun v d σ H Γ M Qd Q r hg hM h k => k _ M _ H h Step.refl (hg.set r i) hM (But.set (by simp)))⟩
/-- xs[i] = e -/
def dSetL (to ti te : DE) : DS := fun F Γ M => te Γ M fun d M1 => to Γ M1 fun o M2 => ti Γ M2 fun j M3 => match o, j with
  | .ref a, .int k => ∃ es n, M3 a = some (.lst es) ∧ ixN es.length k = some n ∧ F.nx Γ (mupd M3 a (.lst (es.set n d)))
  | _, _ => False
theorem ssetL {sto sti : TE} {o i : Expr} {to ti : DE} {pos' : Pos} (ho : PD X K o sto to) (hi : PD X K i sti ti) (he : PD X K e ste te) (hs : swapsWithSole [.Subscript o i pos'] e pos.line X.env = pure false := by rfl) (hw : swappedStores [.Subscript o i pos'] e X.env = pure none := by rfl)
    (h1 : (assignEach [.Subscript o i pos'] X.env).map (·.2) = [assign (.Subscript o i pos') X.env] := by rfl) (ha : ∀ v, assign (.Subscript o i pos') X.env v = (do
      let ov ← holding [v] (eval o X.env)
      let iv ← holding [v, ov] (eval i X.env)
      standAt pos'
      holding [v, ov, iv] (setItem ov iv v)
      release [v, ov, iv] []) := by intro _; rfl) : PDS X K (.Assign [.Subscript o i pos'] e pos) (tAsg ste (gSub sto sti rSetL)) (dSetL to ti te) := by
  have hK := ho.hK; subst hK
  obtain ⟨_, p1, p2⟩ := he
  obtain ⟨_, q1, q2⟩ := ho
  obtain ⟨_, k1, k2⟩ := hi
  refine ⟨rfl, ps_asg p1 (pg_sub q1 k1 set_list ha) hs hw h1, fun σ H Γ M F E hg hM ht hL => p2 σ H Γ M _ _ hg hM ht fun d M1 v H1 h s r m =>
    q2 σ H1 Γ M1 _ _ (hg.step hM s) m h fun o M2 w H2 h2 st2 r2 m2 => k2 σ H2 Γ M2 _ _ ((hg.step hM s).step m st2) m2 h2 fun j M3 z H3 h3 st3 r3 m3 => ?_⟩
  have rv := (r.step m st2).step m2 st3
  cases o <;> cases j <;> first | exact h3.elim | skip
  cases r2
  cases r3
  obtain ⟨es, n, g1, g2, g3⟩ := h3
  obtain ⟨ws, f1, f2⟩ := m3.2 _ _ g1
  have hs3 : Step M3 H3 _ (upd H3 _ (.lst (ws.set n v))) := Step.mut (u := .lst (es.set n d)) g1
  have hst := (s.trans st2).trans st3
  refine ⟨_, ws, _, n, rfl, rfl, f1, by rw [f2.length]; exact g2, hL.nx _ _ σ _ g3 (hst.trans hs3) ((((hg.step hM s).step m st2).step m2 st3).step m3 hs3) (m3.mut g1 ⟨_, upd_same, (f2.set rv n).step m3 hs3⟩)⟩

/-! ### what is walked -/
abbrev DI := Gm → Mp → (List D → (Mp → Prop) → Mp → Prop) → Prop
/-- J yields the items, as long as inv holds of the store -/
def Gives (K : PySem.W.Frag) (H1 : Hp) (J : It) (items : List D) (inv : Mp → Prop) : Prop := ∀ M2 H2, KT H1 H2 → RepM K H2 M2 → inv M2 →
  (∀ i d, items[i]? = some d → J.go i H2 ∧ ∀ x H3, J.yld i H2 x H3 → Rep K H3 x d ∧ Step M2 H2 M2 H3 ∧ RepM K H3 M2) ∧ J.stop items.length H2
def SI (K : PySem.W.Frag) (wi : TI) (t : DI) : Prop := ∀ σ H Γ M Qd (R : It → Hp → Prop), RG K H σ Γ → RepM K H M → t Γ M Qd →
  (∀ items inv M' J H', Qd items inv M' → Step M H M' H' → RepM K H' M' → Gives K H' J items inv → R J H') → wi σ H R
structure PDI (X : Cx) (K : PySem.W.Frag) (tg iter : Expr) (s : TI) (t : DI) : Prop where
  hK : X.K = K
  pe : PI X tg iter s
  se : SI K s t
def iSeq (K : PySem.W.Frag) (tl : TE) : TI := fun σ H R => tl σ H fun x H1 => ∃ a, x = .ref a ∧ ((∃ xs, SqL K H1 a xs ∧ R (Itl K a) H1) ∨ ∃ xs, SqT K H1 a xs ∧ R (Itt K a) H1)
theorem pi_seq {tg l : Expr} {tl : TE} (hl : PE X l tl) : PI X tg l (iSeq X.K tl) := by
  refine ⟨fun pins s σ H R I h => ?_⟩
  refine thn (hl.run pins s σ H _ I h) fun v s1 ⟨x, H1, I1, r1, q1⟩ => ?_
  obtain ⟨a, e, q⟩ := q1
  subst e
  cases r1
  rcases q with ⟨xs, hq, q⟩ | ⟨xs, hq, q⟩
  · obtain ⟨its, rv, p, hz⟩ := I1.list hq
    refine wpAny_pyIter_list p.isList ?_
    refine ⟨s1.heap.objs.size, [s1.heap.objs.size], _, _, H1, rfl, I1.kept (t' := s1.toks) fun b o e => Heap.get?_push_of_some _ e, turn_list a _, ⟨_, Heap.get?_push_size _ rfl, rfl, rfl⟩, fun b hb => ?_, q⟩
    have e : b = s1.heap.objs.size := by simpa using hb
    subst e
    exact I1.fpOk (Nat.le_refl _) (I1.hok.fresh (Nat.le_refl _))
  · obtain ⟨its, rv, p, hz⟩ := I1.tuple hq
    refine wpAny_pyIter_tuple (show s1.heap.IsTuple a its.toArray from p) ?_
    refine ⟨s1.heap.objs.size, [s1.heap.objs.size], _, _, H1, rfl, I1.kept (t' := s1.toks) fun b o e => Heap.get?_push_of_some _ e, turn_tuple a _, ⟨_, Heap.get?_push_size _ rfl, rfl, rfl⟩, fun b hb => ?_, q⟩
    have e : b = s1.heap.objs.size := by simpa using hb
    subst e
    exact I1.fpOk (Nat.le_refl _) (I1.hok.fresh (Nat.le_refl _))
/-- the items stand as they stood -/
def same (d : D) (es : List D) : Mp → Prop := match d with
  | .ref a => fun M => M a = some (.lst es)
  | _ => fun _ => True
def diSeq (te : DE) : DI := fun Γ M Q => te Γ M fun d M1 => ∃ es, itemsD d M1 = some es ∧ Q es (same d es) M1
theorem gives_l {K : PySem.W.Frag} {H1 : Hp} {p : Addr} {es : List D} {inv : Mp → Prop} (h : ∀ M2 H2, KT H1 H2 → RepM K H2 M2 → inv M2 → ∃ vs, SqL K H2 p vs ∧ Reps K H2 vs es) : Gives K H1 (Itl K p) es inv := fun M2 H2 s m v => by
  obtain ⟨vs, h1, h2⟩ := h M2 H2 s m v
  refine ⟨fun i d e => ?_, vs, h1, by rw [h2.length]; exact Nat.le_refl _⟩
  obtain ⟨w, g1, g2⟩ := h2.get e
  refine ⟨⟨vs, w, h1, g1⟩, fun x H3 y => ?_⟩
  obtain ⟨rfl, y⟩ := y
  have e2 := y vs h1
  rw [g1] at e2
  cases e2
  exact ⟨g2, Step.refl, m⟩
theorem gives_t {K : PySem.W.Frag} {H1 : Hp} {p : Addr} {es : List D} {inv : Mp → Prop} (h : ∀ M2 H2, KT H1 H2 → RepM K H2 M2 → inv M2 → ∃ vs, SqT K H2 p vs ∧ Reps K H2 vs es) : Gives K H1 (Itt K p) es inv := fun M2 H2 s m v => by
  obtain ⟨vs, h1, h2⟩ := h M2 H2 s m v
  refine ⟨fun i d e => ?_, vs, h1, by rw [h2.length]; exact Nat.le_refl _⟩
  obtain ⟨w, g1, g2⟩ := h2.get e
  refine ⟨⟨vs, w, h1, g1⟩, fun x H3 y => ?_⟩
  obtain ⟨rfl, y⟩ := y
  have e2 := y vs h1
  rw [g1] at e2
  cases e2
  exact ⟨g2, Step.refl, m⟩
theorem iseq {tg : Expr} (he : PD X K e ste te) : PDI X K tg e (iSeq K ste) (diSeq te) := by
  have hK := he.hK; subst hK
  obtain ⟨_, p1, p2⟩ := he
  refine ⟨rfl, pi_seq p1, fun σ H Γ M Qd R hg hM ht hL => p2 σ H Γ M _ _ hg hM ht fun d M1 v H1 h s r m => ?_⟩
  obtain ⟨es, h1, h2⟩ := h
  cases r with
  | non => cases h1
  | bl => cases h1
  | int => cases h1
  | str => cases h1
  | tup q r =>
    cases h1
    exact ⟨_, rfl, .inr ⟨_, q, hL es _ M1 _ H1 h2 s m (gives_t fun M2 H2 s2 m2 _ => ⟨_, s2.sq q, r.kt s2⟩)⟩⟩
  | fl q r =>
    cases h1
    exact ⟨_, rfl, .inl ⟨_, q.sq, hL es _ M1 _ H1 h2 s m (gives_l fun M2 H2 s2 m2 _ => ⟨_, (RdL.kt s2 q).sq, r.kt s2⟩)⟩⟩
  | ref a =>
    unfold itemsD at h1
    dsimp only at h1
    cases q : M1 a with
    | none => rw [q] at h1; cases h1
    | some o =>
      have ro := m.2 a o q
      rw [q] at h1
      cases o with
      | dct => cases h1
      | lst ds =>
        cases h1
        obtain ⟨vs, g1, g2⟩ := ro
        exact ⟨_, rfl, .inl ⟨_, SqL.of g1, hL es _ M1 _ H1 h2 s m (gives_l fun M2 H2 s2 m2 i2 => by
          obtain ⟨ws, k1, k2⟩ := m2.2 a _ i2
          exact ⟨ws, SqL.of k1, k2⟩)⟩⟩
def rgD (lo : Int) (n : Nat) : List D := (List.range n).map fun i => .int (lo + (i : Nat))
theorem rgD_len (lo : Int) (n : Nat) : (rgD lo n).length = n := by unfold rgD; rw [List.length_map, List.length_range]
theorem rgD_get {lo : Int} {n i : Nat} {d : D} (h : (rgD lo n)[i]? = some d) : i < n ∧ d = .int (lo + (i : Nat)) := by
  unfold rgD at h
  rw [List.getElem?_map] at h
  have hl : i < n := by
    cases e : (List.range n)[i]? with
    | none => rw [e] at h; cases h
    | some j =>
      have := (List.getElem?_eq_some_iff.mp e).1
      simpa using this
  rw [List.getElem?_range hl] at h
  cases h
  exact ⟨hl, rfl⟩
theorem gives_r {K : PySem.W.Frag} {H1 : Hp} {lo : Int} {n : Nat} : Gives K H1 (Itr lo n) (rgD lo n) (fun _ => True) := fun M2 H2 s m _ => by
  refine ⟨fun i d e => ?_, by rw [rgD_len]; exact Nat.le_refl _⟩
  obtain ⟨h1, rfl⟩ := rgD_get e
  refine ⟨h1, fun x H3 y => ?_⟩
  obtain ⟨rfl, rfl⟩ := y
  exact ⟨.int _, Step.refl, m⟩
def diR1 (tr : DA) : DI := fun Γ M Q => tr Γ M fun ds M1 => match ds with
  | [.int j] => (-(2 ^ 62) ≤ j ∧ j < 2 ^ 62) ∧ Q (rgD 0 j.toNat) (fun _ => True) M1
  | _ => False
def diR2 (tr : DA) : DI := fun Γ M Q => tr Γ M fun ds M1 => match ds with
  | [.int i, .int j] => (-(2 ^ 62) ≤ i ∧ i < 2 ^ 62 ∧ -(2 ^ 62) ≤ j ∧ j < 2 ^ 62) ∧ Q (rgD i (j - i).toNat) (fun _ => True) M1
  | _ => False
theorem irange1 {str : TA} {tg a : Expr} {tr : DA} {p : Pos} (hg : Gl X "range") (hm : X.mg "range" = none) (ha : PDA X K [a] str tr) (hs : starEach [a] X.env = [(false, eval a X.env)] := by rfl) : PDI X K tg (.Call (.Name "range" p) [a] [] pos) (iRng1 str) (diR1 tr) := by
  have hK := ha.hK; subst hK
  obtain ⟨_, p1, p2⟩ := ha
  refine ⟨rfl, pi_range1 hg hm p1 hs, fun σ H Γ M Qd R hg hM ht hL => p2 σ H Γ M _ _ hg hM ht fun ds M1 vs H1 h s r m => ?_⟩
  cases ds with
  | nil => exact h.elim
  | cons d t => cases t with
    | cons => cases d <;> exact h.elim
    | nil =>
      obtain ⟨v, rfl, r1⟩ := reps1 r
      cases r1 <;> first | exact h.elim | skip
      exact ⟨_, rfl, h.1.1, h.1.2, hL _ _ M1 _ H1 h.2 s m gives_r⟩
theorem irange2 {str : TA} {tg a b : Expr} {tr : DA} {p : Pos} (hg : Gl X "range") (hm : X.mg "range" = none) (ha : PDA X K [a, b] str tr) (hs : starEach [a, b] X.env = [(false, eval a X.env), (false, eval b X.env)] := by rfl) (hs2 : starEach [b] X.env = [(false, eval b X.env)] := by rfl) :
    PDI X K tg (.Call (.Name "range" p) [a, b] [] pos) (iRng2 str) (diR2 tr) := by
  have hK := ha.hK; subst hK
  obtain ⟨_, p1, p2⟩ := ha
  refine ⟨rfl, pi_range2 hg hm p1 hs hs2, fun σ H Γ M Qd R hg hM ht hL => p2 σ H Γ M _ _ hg hM ht fun ds M1 vs H1 h s r m => ?_⟩
  cases ds with
  | nil => exact h.elim
  | cons d t => cases t with
    | nil => cases d <;> exact h.elim
    | cons e t => cases t with
      | cons => cases d <;> first | exact h.elim | (cases e <;> exact h.elim)
      | nil =>
        obtain ⟨v, w, rfl, r1, r2⟩ := reps2 r
        cases r1 <;> first | exact h.elim | skip
        cases r2 <;> first | exact h.elim | skip
        exact ⟨_, _, rfl, h.1, hL _ _ M1 _ H1 h.2 s m gives_r⟩

/-! ### for -/
def dLoop (g : DG) (tb : DS) (inv : Mp → Prop) (F : DEnds) : List D → Gm → Mp → Prop
  | [], Γ, M => inv M ∧ F.nx Γ M
  | d :: ds, Γ, M => inv M ∧ g d Γ M fun Γ1 M1 => tb { nx := dLoop g tb inv F ds, rt := F.rt, bk := F.nx, ct := dLoop g tb inv F ds } Γ1 M1
def dFor (ti : DI) (g : DG) (tb : DS) : DS := fun F Γ M => ti Γ M fun items inv M1 => dLoop g tb inv F items Γ M1
theorem ss_for {K : PySem.W.Frag} {own : List Nat} {wi : TI} {tg : TG} {ts : TS} {ti : DI} {g : DG} {tb : DS} (hi : SI K wi ti) (hg : SG K own tg g) (hb : SS K ts tb) : SS K (tFor wi tg ts) (dFor ti g tb) := fun σ H Γ M F E hΓ hM ht hL =>
  hi σ H Γ M _ _ hΓ hM ht fun items inv M1 J H1 h s m gv => by
    refine ⟨fun i k σ2 H2 => ∃ Γ2 M2, k = items.length - i ∧ i ≤ items.length ∧ Step M1 H1 M2 H2 ∧ RG K H2 σ2 Γ2 ∧ RepM K H2 M2 ∧ dLoop g tb inv F (items.drop i) Γ2 M2, ⟨items.length, Γ, M1, by simp, Nat.zero_le _, Step.refl, hΓ.step hM s, m, by simpa using h⟩, ?_⟩
    rintro i k σ2 H2 ⟨Γ2, M2, rfl, hi, s2, g2, m2, h2⟩
    by_cases hlt : i < items.length
    · have e : items.drop i = items[i] :: items.drop (i + 1) := List.drop_eq_getElem_cons hlt
      rw [e] at h2
      obtain ⟨v2, h2⟩ := h2
      obtain ⟨q1, q2⟩ := (gv M2 H2 (s2.kt m) m2 v2).1 i items[i] (by simp [hlt])
      refine .inr ⟨q1, fun σ3 H3 => ∃ Γ3 M3, Step M1 H1 M3 H3 ∧ RG K H3 σ3 Γ3 ∧ RepM K H3 M3 ∧ dLoop g tb inv F (items.drop (i + 1)) Γ3 M3, fun σ' H' ⟨Γ3, M3, s3, g3, m3, h3⟩ => ⟨_, by omega, Γ3, M3, rfl, hlt, s3, g3, m3, h3⟩, fun x H3 y => ?_⟩
      obtain ⟨r3, s3, m3⟩ := q2 x H3 y
      refine hg x _ σ2 H3 Γ2 M2 _ _ r3 (g2.step m2 s3) m3 h2 fun Γ4 M4 σ4 H4 h4 s4 g4 m4 _ => ?_
      have st4 := (s2.trans s3).trans s4
      refine hb σ4 H4 Γ4 M4 _ _ g4 m4 h4 ⟨fun Γ' M' σ' H' h' s' g' m' => ⟨Γ', M', st4.trans s', g', m', h'⟩, fun d M' v H' h' s' r' m' => hL.rt d M' v H' h' (s.trans (st4.trans s')) r' m',
        fun Γ' M' σ' H' h' s' g' m' => hL.nx Γ' M' σ' H' h' (s.trans (st4.trans s')) g' m', fun Γ' M' σ' H' h' s' g' m' => ⟨Γ', M', st4.trans s', g', m', h'⟩⟩
    · have e : i = items.length := by omega
      subst e
      rw [List.drop_length] at h2
      exact .inl ⟨(gv M2 H2 (s2.kt m) m2 h2.1).2, hL.nx Γ2 M2 σ2 H2 h2.2 (s.trans s2) g2 m2⟩
theorem sfor {sti : TI} {sg : TG} {stb : TS} {own : List Nat} {tg iter : Expr} {body : List Stmt} {ti : DI} {g : DG} {tb : DS} (hp : PassesOwn (model X.prog X.w) X.A X.env X.xe) (hc : X.calm = true) (hi : PDI X K tg iter sti ti) (hg : PDG X K own tg sg g) (hb : PDSs X K body stb tb)
    (hs : ∀ x, foldedSetIterable iter X.env x = pure x := by intro _; rfl) : PDS X K (.For tg iter body [] pos) (tFor sti sg stb) (dFor ti g tb) := by
  have hK := hi.hK; subst hK
  obtain ⟨_, i1, i2⟩ := hi
  obtain ⟨_, g1, g2⟩ := hg
  obtain ⟨_, b1, b2⟩ := hb
  exact ⟨rfl, ps_for hp hc i1 g1 b1 hs, ss_for i2 g2 b2⟩
end
end DL
end
section
set_option maxHeartbeats 4000000
/-! DL5: comprehensions, calls of own defs, a def's body, dicts stored, while. -/
namespace DL
open PySem PySem.Spec PyProof.Rows L2

/-! ### list comprehensions -/
structure PDTs (X : Cx) (K : PySem.W.Frag) (ifs : List Expr) (s : TT) (t : DT) : Prop where
  hK : X.K = K
  pe : PTs X ifs s
  se : ST K s t
def dYes : DT := fun _ M Q => Q true M
theorem wipe_in {σ : L2.St} {i : Nat} : ∀ {vs : List Nat}, i ∈ vs → i < σ.length → (wipe σ vs)[i]? = some none
  | v :: vs, h, hl => by
    unfold wipe
    by_cases e : v = i
    · subst e
      rw [List.getElem?_set_self (by rw [wipe_length]; exact hl)]
    · rw [List.getElem?_set_ne e]
      rcases List.mem_cons.mp h with h | h
      · exact absurd h.symm e
      · exact wipe_in h hl
theorem wipe_but {own : List Nat} {σ σ' : L2.St} (h : But own (wipe σ own) σ') : wipe σ' own = wipe σ own := by
  apply List.ext_getElem?
  intro i
  have hl : σ'.length = σ.length := by rw [h.1, wipe_length]
  by_cases hi : i ∈ own
  · by_cases l : i < σ.length
    · rw [wipe_in hi (by rw [hl]; exact l), wipe_in hi l]
    · rw [List.getElem?_eq_none (by rw [wipe_length, hl]; omega), List.getElem?_eq_none (by rw [wipe_length]; omega)]
  · rw [wipe_out hi, h.2 i hi]
def wipeG (Γ : Gm) : List Nat → Gm
  | [] => Γ
  | v :: vs => nv (wipeG Γ vs) v
where nv : Gm → Nat → Gm
  | [], _ => []
  | _ :: r, 0 => none :: r
  | o :: r, n + 1 => o :: nv r n
theorem nv_set : ∀ (Γ : Gm) (i : Nat), wipeG.nv Γ i = Γ.set i none
  | [], _ => rfl
  | _ :: _, 0 => rfl
  | o :: r, n + 1 => by show o :: wipeG.nv r n = o :: r.set n none; rw [nv_set]
theorem RG.wipe {K : PySem.W.Frag} {H : Hp} {σ : L2.St} {Γ : Gm} (h : RG K H σ Γ) : ∀ vs : List Nat, RG K H (L2.wipe σ vs) (wipeG Γ vs)
  | [] => h
  | v :: vs => by
    have q := RG.wipe h vs
    unfold L2.wipe wipeG
    rw [nv_set]
    refine ⟨by rw [List.length_set, List.length_set]; exact q.1, fun i d e => ?_⟩
    rw [List.getElem?_set] at e ⊢
    by_cases hi : v = i
    · subst hi
      rw [if_pos rfl] at e
      split at e <;> cases e
    · rw [if_neg hi] at e ⊢
      exact q.2 i d e
/-- the rest of the turns: acc is made so far -/
def dCL (g : DG) (tt : DT) (te : DE) (inv : Mp → Prop) (Γ : Gm) : List D → List D → Mp → (List D → Mp → Prop) → Prop
  | [], acc, M, Q => inv M ∧ Q acc M
  | d :: ds, acc, M, Q => inv M ∧ g d Γ M fun Γ1 M1 => tt Γ1 M1 fun b M2 => if b = true then te Γ1 M2 fun y M3 => acc.length < sizeLine ∧ dCL g tt te inv Γ ds (acc ++ [y]) M3 Q else dCL g tt te inv Γ ds acc M2 Q
def dLc (ti : DI) (g : DG) (tt : DT) (te : DE) (own : List Nat) : DE := fun Γ M Q => ti Γ M fun items inv M1 => dCL g tt te inv (wipeG Γ own) items [] M1 fun acc M2 => ∀ p, M2 p = none → Q (.ref p) (mupd M2 p (.lst acc))
theorem se_lc {K : PySem.W.Frag} {own : List Nat} {wi : TI} {tg : TG} {stt : TT} {ste : TE} {ti : DI} {g : DG} {tt : DT} {te : DE} (hi : SI K wi ti) (hg : SG K own tg g) (htt : ST K stt tt) (he : SE K ste te) : SE K (tLc wi tg stt ste own) (dLc ti g tt te own) := fun σ H Γ M Qd Q hΓ hM ht hL =>
  hi σ H Γ M _ _ hΓ hM ht fun items inv M1 J H1 h s m gv L hD => by
    have hΓ1 := hΓ.step hM s
    refine ⟨fun i k H2 => ∃ M2 acc vs, k = items.length - i ∧ i ≤ items.length ∧ Step M1 H1 M2 H2 ∧ RepM K H2 M2 ∧ H2 L = some (.lst vs) ∧ M2 L = none ∧ Reps K H2 vs acc ∧
      dCL g tt te inv (wipeG Γ own) (items.drop i) acc M2 fun acc M2 => ∀ p, M2 p = none → Qd (.ref p) (mupd M2 p (.lst acc)), ⟨items.length, M1, [], [], by simp, Nat.zero_le _, Step.new hD, m.new hD, upd_same, m.fresh hD, .nil, by simpa using h⟩, ?_⟩
    rintro i k H2 ⟨M2, acc, vs, rfl, hi, s2, m2, hL2, hM2, ra, h2⟩
    by_cases hlt : i < items.length
    · have e : items.drop i = items[i] :: items.drop (i + 1) := List.drop_eq_getElem_cons hlt
      rw [e] at h2
      obtain ⟨v2, h2⟩ := h2
      obtain ⟨q1, q2⟩ := (gv M2 H2 (s2.kt m) m2 v2).1 i items[i] (by simp [hlt])
      refine .inr ⟨q1, fun H3 => ∃ M3 acc vs, Step M1 H1 M3 H3 ∧ RepM K H3 M3 ∧ H3 L = some (.lst vs) ∧ M3 L = none ∧ Reps K H3 vs acc ∧ dCL g tt te inv (wipeG Γ own) (items.drop (i + 1)) acc M3 fun acc M2 => ∀ p, M2 p = none → Qd (.ref p) (mupd M2 p (.lst acc)),
        fun H' ⟨M3, acc, vs, s3, m3, a, b, c, d⟩ => ⟨_, by omega, M3, acc, vs, rfl, hlt, s3, m3, a, b, c, d⟩, fun x H3 y => ?_⟩
      obtain ⟨r3, s3, m3⟩ := q2 x H3 y
      refine hg x _ (wipe σ own) H3 (wipeG Γ own) M2 _ _ r3 (((hΓ1.wipe own).step m s2).step m2 s3) m3 h2 fun Γ4 M4 σ4 H4 h4 s4 g4 m4 b4 => ⟨wipe_but b4, ?_⟩
      have st4 := s3.trans s4
      refine htt σ4 H4 Γ4 M4 _ _ g4 m4 h4 fun b M5 H5 h5 s5 m5 => ?_
      have st5 := st4.trans s5
      cases b with
      | true =>
        rw [if_pos rfl] at h5 ⊢
        refine he σ4 H5 Γ4 M5 _ _ (g4.step m4 s5) m5 h5 fun d M6 z H6 h6 s6 r6 m6 => ?_
        have st6 := st5.trans s6
        obtain ⟨e1, e2⟩ := st6 L _ hL2 hM2 (by intro ps z; cases z)
        refine ⟨vs, e1, by rw [ra.length]; exact h6.1, M6, acc ++ [d], vs ++ [z], ?_, ?_, upd_same, e2, ?_, h6.2⟩
        · have w := s2.trans st6
          exact fun a o ha hm nt => by
            obtain ⟨w1, w2⟩ := w a o ha hm nt
            have hn : a ≠ L := ne_of_none ha hD
            exact ⟨by rw [upd_ne hn]; exact w1, w2⟩
        · exact ⟨m6.1.upd (by rw [e1]; intro ps z; cases z), fun a o ha => (m6.2 a o ha).kt (KT.lst e1) (upd_ne fun z => by rw [z, e2] at ha; cases ha)⟩
        · exact ((ra.step m2 st6).append (.cons r6 .nil)).kt (KT.lst e1)
      | false =>
        rw [if_neg Bool.false_ne_true] at h5 ⊢
        obtain ⟨e1, e2⟩ := st5 L _ hL2 hM2 (by intro ps z; cases z)
        exact ⟨M5, acc, vs, s2.trans st5, m5, e1, e2, ra.step m2 st5, h5⟩
    · have e : i = items.length := by omega
      subst e
      rw [List.drop_length] at h2
      refine .inl ⟨(gv M2 H2 (s2.kt m) m2 h2.1).2, hL _ _ _ _ (h2.2 L hM2) ?_ (.ref L) ?_⟩
      · exact fun a o ha hm nt => by
          obtain ⟨w1, w2⟩ := (s.trans s2) a o ha hm nt
          refine ⟨w1, ?_⟩
          have hn : a ≠ L := fun z => by
            subst z
            have := (s _ _ ha hm nt).1
            rw [hD] at this
            cases this
          rw [mupd_ne hn]
          exact w2
      · refine ⟨m2.1, fun a o ha => ?_⟩
        · by_cases hn : a = L
          · subst hn
            rw [mupd_same] at ha
            cases ha
            exact ⟨vs, hL2, ra⟩
          · rw [mupd_ne hn] at ha
            exact m2.2 a o ha
section
variable {X : Cx} {K : PySem.W.Frag} {e : Expr} {pos : Pos}
theorem tsnil (hK : X.K = K := by rfl) : PDTs X K [] tYes dYes := by
  subst hK
  exact ⟨rfl, pts_nil, fun σ H Γ M Qd Q hg hM ht hL => hL true M H ht Step.refl hM⟩
theorem tsone {c : Expr} {s : TT} {t : DT} (h : PDT X K c s t) : PDTs X K [c] s t := by
  have hK := h.hK; subst hK
  exact ⟨rfl, pts_one h.pe, h.se⟩
theorem dlc {elt tg iter : Expr} {ifs : List Expr} {scope : Scope} {own : List (Str × Nat)} {sti : TI} {sg : TG} {stt : TT} {ste : TE} {ti : DI} {g : DG} {tt : DT} {te : DE} (hc : X.calm = true) (hN : X.N.Nodup) (hi : PDI X K tg iter sti ti) (ok : blkC X.N X.env.scope scope own = true)
    (hg : ∀ (s : Shared) (H : Hp) (C : Addr) (cl : List (Str × Addr)) (fp : List Addr), PDG (X.blk s H scope (compEnvC scope cl C X.env) fp) K (own.map (·.2)) tg sg g)
    (ht : ∀ (s : Shared) (H : Hp) (C : Addr) (cl : List (Str × Addr)) (fp : List Addr), PDTs (X.blk s H scope (compEnvC scope cl C X.env) fp) K ifs stt tt)
    (he : ∀ (s : Shared) (H : Hp) (C : Addr) (cl : List (Str × Addr)) (fp : List Addr), PD (X.blk s H scope (compEnvC scope cl C X.env) fp) K elt ste te) (hs : ∀ x, foldedSetIterable iter X.env x = pure x := by intro _; rfl) :
    PD X K (.ListComp elt [⟨tg, iter, ifs, 0⟩] scope pos) (tLc sti sg stt ste (own.map (·.2))) (dLc ti g tt te (own.map (·.2))) := by
  have hK := hi.hK; subst hK
  exact ⟨rfl, pe_lc hc hN hi.pe (blkOk_by ok) (fun s H C cl fp => (hg s H C cl fp).pe) (fun s H C cl fp => (ht s H C cl fp).pe) (fun s H C cl fp => (he s H C cl fp).pe) hs,
    se_lc hi.se (hg X.s_0 (fun _ => none) 0 [] []).se (ht X.s_0 (fun _ => none) 0 [] []).se (he X.s_0 (fun _ => none) 0 [] []).se⟩
end

/-! ### a def's promise over trees -/
def LiftX (K : PySem.W.Frag) (M : Mp) (H : Hp) (Ed : DXK) (E : XK) : Prop := ∀ c fs M' d vs H', Ed c fs M' → Step M H M' H' → H' d = some (.xd vs) → FReps K H' vs fs → RepM K H' M' → E c (some d) H'
def toSp (K : PySem.W.Frag) (sp : DSp) : Sp := fun vs H Q E => ∃ ds M Qd Ed, Reps K H vs ds ∧ RepM K H M ∧ sp ds M Qd Ed ∧ Lift K M H Qd Q ∧ LiftX K M H Ed E
def E0d : DXK := fun _ _ _ => False
def dCall (sp : DSp) (tr : DA) : DE := fun Γ M Q => tr Γ M fun ds M1 => sp ds M1 Q E0d
section
variable {X : Cx} {K : PySem.W.Frag} {k : Nat} {f : Addr} {fd : FuncData} {ps : List Str} {sp : DSp} {x : Str} {p pos : Pos} {e : Expr} {es : List Expr} {str stk : TA} {tr tk : DA}
theorem liftX0 {K : PySem.W.Frag} {M : Mp} {H : Hp} {E : XK} : LiftX K M H E0d E := fun _ _ _ _ _ _ h => h.elim
theorem dcall (F : FnOk X.prog X.w K X.mg X.base CX0 k f fd ps (toSp K sp)) (hr : Room k X.A) (hg : Gl X x) (hm : X.mg x = some (.ref f)) (hk : PySem.W.keepIn K (.ref f) = true) (hb : Binds K fd ps [])
    (ha : PDA X K (e :: es) str tr) (hdb : (x == ("__debug__" : Str)) = false := by decide) (he : starEach (e :: es) X.env = (false, eval e X.env) :: starEach es X.env := by rfl) (hpl : (backTo pos (starEach es X.env)).any (·.1) = false := by rfl) :
    PD X K (.Call (.Name x p) (e :: es) [] pos) (tCall (toSp K sp) [] E0 str) (dCall sp tr) := by
  have hK := ha.hK; subst hK
  exact ⟨rfl, pe_call F hr hg hm hk hb .nil pass0 ha.pe hdb he hpl, fun σ H Γ M Qd Q hΓ hM ht hL => ha.se σ H Γ M _ _ hΓ hM ht fun ds M1 vs H1 h s r m =>
    ⟨ds, M1, Qd, E0d, by rw [List.append_nil]; exact r, m, h, hL.step s, liftX0⟩⟩
theorem dcall0 (F : FnOk X.prog X.w K X.mg X.base CX0 k f fd ps (toSp K sp)) (hr : Room k X.A) (hg : Gl X x) (hm : X.mg x = some (.ref f)) (hk : PySem.W.keepIn K (.ref f) = true) (hb : Binds K fd ps [])
    (hdb : (x == ("__debug__" : Str)) = false := by decide) (hK : X.K = K := by rfl) : PD X K (.Call (.Name x p) [] [] pos) (fun σ H Q => toSp K sp [] H Q E0) (fun _ M Q => sp [] M Q E0d) := by
  subst hK
  exact ⟨rfl, by
    have h := pe_call0 (p := p) (pos := pos) F hr hg hm hk hb .nil (pass0 (X := X)) hdb
    refine ⟨fun pins s σ H Q I q => h.run pins s σ H Q I ?_⟩
    exact q, fun σ H Γ M Qd Q hΓ hM ht hL => ⟨[], M, Qd, E0d, .nil, hM, ht, hL, liftX0⟩⟩

/-! ### keywords -/
structure PDK (X : Cx) (K : PySem.W.Frag) (kws : List Keyword) (s : TA) (t : DA) : Prop where
  hK : X.K = K
  pe : PK X kws s
  se : SA K s t
variable {kws : List Keyword} {nm : Option Str} {kpos : Pos} {ste : TE} {te : DE}
theorem knil (hK : X.K = K := by rfl) : PDK X K [] tNil dNil := by
  subst hK
  exact ⟨rfl, pk_nil, fun σ H Γ M Qd Q hg hM ht hL => hL [] M [] H ht Step.refl .nil hM⟩
theorem kcons (ha : PD X K e ste te) (hr : PDK X K kws stk tk) : PDK X K (⟨nm, e, kpos⟩ :: kws) (tCons ste stk) (dCons te tk) := by
  have hK := ha.hK; subst hK
  exact ⟨rfl, pk_cons ha.pe hr.pe, fun σ H Γ M Qd Q hg hM ht hL => ha.se σ H Γ M _ _ hg hM ht fun d M1 x H1 h1 s1 r1 m1 =>
    hr.se σ H1 Γ M1 _ _ (hg.step hM s1) m1 h1 fun ds M2 vs H2 h2 s2 r2 m2 => hL _ M2 _ H2 h2 (s1.trans s2) (.cons (r1.step m1 s2) r2) m2⟩
variable {ks : List Str} {g : List Value → List Value → List Value} {gV : List V → List V → List V}
def dCallK (sp : DSp) (gD : List D → List D → List D) (tr tk : DA) : DE := fun Γ M Q => tr Γ M fun ds M1 => tk Γ M1 fun zs M2 => sp (gD ds zs) M2 Q E0d
/-- the order of parameters, over trees -/
def OrdOk (gV : List V → List V → List V) (gD : List D → List D → List D) : Prop := ∀ K H vs ds ws es, Reps K H vs ds → Reps K H ws es → Reps K H (gV vs ws) (gD ds es)
theorem dcallK {gD : List D → List D → List D} (F : FnOk X.prog X.w K X.mg X.base CX0 k f fd ps (toSp K sp)) (hr : Room k X.A) (hg : Gl X x) (hm : X.mg x = some (.ref f)) (hk : PySem.W.keepIn K (.ref f) = true) (hb : KBinds K fd ps ks g gV) (ho : OrdOk gV gD)
    (ha : PDA X K (e :: es) str tr) (hkw : PDK X K kws stk tk) (hall : (backToKw pos (keywordEach kws X.env)).all (·.1.isSome) = true := by rfl) (hks : (backToKw pos (keywordEach kws X.env)).filterMap (·.1) = ks := by rfl)
    (hdb : (x == ("__debug__" : Str)) = false := by decide) (he : starEach (e :: es) X.env = (false, eval e X.env) :: starEach es X.env := by rfl)
    (hpl : ((backTo pos (starEach (e :: es) X.env)).any (·.1) || (backToKw pos (keywordEach kws X.env)).any (·.1.isNone)) = false := by rfl) :
    PD X K (.Call (.Name x p) (e :: es) kws pos) (tCallK (toSp K sp) gV E0 str stk) (dCallK sp gD tr tk) := by
  have hK := ha.hK; subst hK
  exact ⟨rfl, pe_callK F hr hg hm hk hb pass0 ha.pe hkw.pe hall hks hdb he hpl, fun σ H Γ M Qd Q hΓ hM ht hL => ha.se σ H Γ M _ _ hΓ hM ht fun ds M1 vs H1 h s r m =>
    hkw.se σ H1 Γ M1 _ _ (hΓ.step hM s) m h fun zs M2 ws H2 h2 s2 r2 m2 => ⟨gD ds zs, M2, Qd, E0d, ho _ _ _ _ _ _ (r.step m s2) r2, m2, h2, hL.step (s.trans s2), liftX0⟩⟩
theorem pe_callK0 {sp : Sp} (F : FnOk X.prog X.w X.K X.mg X.base CX0 k f fd ps sp) (hr : Room k X.A) (hg : Gl X x) (hm : X.mg x = some (.ref f)) (hk : PySem.W.keepIn X.K (.ref f) = true) (hb : KBinds X.K fd ps ks g gV)
    (hkw : PK X kws stk) (hall : (backToKw pos (keywordEach kws X.env)).all (·.1.isSome) = true := by rfl) (hks : (backToKw pos (keywordEach kws X.env)).filterMap (·.1) = ks := by rfl)
    (hdb : (x == ("__debug__" : Str)) = false := by decide) (hpl : ((backTo pos (starEach [] X.env)).any (·.1) || (backToKw pos (keywordEach kws X.env)).any (·.1.isNone)) = false := by rfl) :
    PE X (.Call (.Name x p) [] kws pos) (tCallK sp gV E0 tNil stk) := by
  refine ⟨fun pins s σ H Q I h => ?_⟩
  refine wpAny_Call_Name_kw (ld_glob I hg hm ?_ hdb)
  refine PySem.W.callWith_KW0 (h₀ := X.base) I.ok.mod.kin hk hall ?_ hpl
  refine thn (hkw.run pos pins s σ H _ I h) fun ws s2 ⟨zs, H2, I2, rz, q2⟩ => ⟨I2.kIn, ?_⟩
  rw [hks]
  exact run_fnk F hr hb pass0 I2 .nil rz q2
theorem dcallK0 {gD : List D → List D → List D} (F : FnOk X.prog X.w K X.mg X.base CX0 k f fd ps (toSp K sp)) (hr : Room k X.A) (hg : Gl X x) (hm : X.mg x = some (.ref f)) (hk : PySem.W.keepIn K (.ref f) = true) (hb : KBinds K fd ps ks g gV) (ho : OrdOk gV gD)
    (hkw : PDK X K kws stk tk) (hall : (backToKw pos (keywordEach kws X.env)).all (·.1.isSome) = true := by rfl) (hks : (backToKw pos (keywordEach kws X.env)).filterMap (·.1) = ks := by rfl)
    (hdb : (x == ("__debug__" : Str)) = false := by decide) (hpl : ((backTo pos (starEach [] X.env)).any (·.1) || (backToKw pos (keywordEach kws X.env)).any (·.1.isNone)) = false := by rfl) :
    PD X K (.Call (.Name x p) [] kws pos) (tCallK (toSp K sp) gV E0 tNil stk) (dCallK sp gD dNil tk) := by
  have hK := hkw.hK; subst hK
  exact ⟨rfl, pe_callK0 F hr hg hm hk hb hkw.pe hall hks hdb hpl, fun σ H Γ M Qd Q hΓ hM ht hL =>
    hkw.se σ H Γ M _ _ hΓ hM ht fun zs M2 ws H2 h2 s2 r2 m2 => ⟨gD [] zs, M2, Qd, E0d, ho _ _ _ _ _ _ .nil r2, m2, h2, hL.step s2, liftX0⟩⟩

/-! ### a def's body -/
def startG (N : List Str) (ds : List D) : Gm := ds.map some ++ List.replicate (N.length - ds.length) none
theorem rg_start {K : PySem.W.Frag} {H : Hp} {N : List Str} {vs : List V} {ds : List D} (r : Reps K H vs ds) : RG K H (L2.start N vs) (startG N ds) := by
  unfold L2.start startG
  refine ⟨by simp [r.length], fun i d e => ?_⟩
  rw [List.getElem?_append] at e ⊢
  rw [List.length_map] at e ⊢
  by_cases h : i < ds.length
  · rw [if_pos h] at e
    rw [if_pos (by rw [r.length]; exact h)]
    rw [List.getElem?_map] at e ⊢
    cases q : ds[i]? with
    | none => rw [q] at e; cases e
    | some d' =>
      rw [q] at e
      cases e
      obtain ⟨v, h1, h2⟩ := r.get q
      exact ⟨v, by rw [h1]; rfl, h2⟩
  · rw [if_neg h] at e
    have : ∀ (n j : Nat), (List.replicate n (none : Option D))[j]? ≠ some (some d) := fun n j z => by
      rw [List.getElem?_replicate] at z
      split at z <;> cases z
    exact absurd e (this _ _)
end
section
variable {P : Program} {w : World} {K : PySem.W.Frag} {mg : Str → Option Value} {base : Heap}
/-- what is of no more use in the store may be left out where a def ends -/
def Wk (Q : DK) : DK := fun d M' => ∃ M'' : Mp, (∀ a o, M'' a = some o → M' a = some o) ∧ Q d M''
theorem Wk.of {Q : DK} {d : D} {M : Mp} (h : Q d M) : Wk Q d M := ⟨M, fun _ _ e => e, h⟩
theorem Lift.wk {K : PySem.W.Frag} {M : Mp} {H : Hp} {Qd : DK} {Q : VK} (l : Lift K M H Qd Q) : Lift K M H (Wk Qd) Q := fun d M' v H' ⟨M'', hs, q⟩ s r m => l d M'' v H' q (fun a o e n nt => by
  obtain ⟨e1, e2⟩ := s a o e n nt
  refine ⟨e1, ?_⟩
  cases z : M'' a with
  | none => rfl
  | some u => rw [hs a u z] at e2; cases e2) r (m.sub hs)
/-- THE RULE for a def: its body's term, then its promise from the body's reading -/
theorem okD {x qual : Str} {st : Stmt} {f : Addr} {fd : FuncData} {N ps : List Str} {k : Nat} {sp : DSp} (F : Fun K x qual st f fd) (S : FnScope N ps (defScope st)) (len : ∀ ds M Q E, sp ds M Q E → ds.length = ps.length)
    (hbody : ∀ (cdv : Value) (A : Around) (outer : List Env) (s : Shared) (H : Hp) (E : XK), Room k (A.deeper (envOfC qual (defScope st) s.heap.objs.size f cdv)) →
      ∃ ts t, PDSs (cxOf CX0 P w K mg base N qual (defScope st) f cdv A outer s H E).nox K (defBody st) ts t ∧ ∀ ds M Q E, sp ds M Q E → t { nx := fun _ M' => Wk Q .non M', rt := Wk Q } (startG N ds) M) :
    FnOk P w K mg base CX0 (k + 1) f fd ps (toSp K sp) := by
  refine F.ok S (fun vs H Q E h => ?_) (fun cdv A outer s H vs Q E hr h => ?_)
  · obtain ⟨ds, M, Qd, Ed, r, _, q, _⟩ := h
    rw [r.length]
    exact len _ _ _ _ q
  · obtain ⟨ds, M, Qd, Ed, r, m, q, l, _⟩ := h
    obtain ⟨ts, t, h1, h2⟩ := hbody cdv A outer s H E hr
    refine ⟨ts, h1.pe, h1.se _ _ _ _ { nx := fun _ M' => Wk Qd .non M', rt := Wk Qd } _ (rg_start r) m (h2 ds M Qd Ed q) ⟨fun Γ' M' σ' H' h s r m => l.wk _ _ _ _ h s .non m, l.wk, fun _ _ _ _ h => h.elim, fun _ _ _ _ h => h.elim⟩⟩
end
end DL
end
section
set_option maxHeartbeats 4000000
/-! DL6: zip, comprehensions of two clauses, name = [..], pairs stored at once, chains of comparisons. -/
namespace DL
open PySem PySem.Spec PyProof.Rows L2 RZ

/-! ### zip -/
def zipD (xs ys : List D) : List D := List.zipWith (fun x y => .tup [x, y]) xs ys
theorem zipD_get {xs ys : List D} {i : Nat} {d : D} (h : (zipD xs ys)[i]? = some d) : ∃ x y, xs[i]? = some x ∧ ys[i]? = some y ∧ d = .tup [x, y] := by
  unfold zipD at h
  rw [List.getElem?_zipWith] at h
  cases e1 : xs[i]? with
  | none => rw [e1] at h; cases h
  | some x =>
    cases e2 : ys[i]? with
    | none => rw [e1, e2] at h; cases h
    | some y => rw [e1, e2] at h; cases h; exact ⟨x, y, rfl, rfl, rfl⟩
theorem zipD_len (xs ys : List D) : (zipD xs ys).length = min xs.length ys.length := by unfold zipD; simp
theorem zip_step {K : PySem.W.Frag} {M : Mp} {H : Hp} {T : Addr} {x y : V} {d e : D} (m : RepM K H M) (hT : H T = none) (r1 : Rep K H x d) (r2 : Rep K H y e) :
    Rep K (upd H T (.tup [x, y])) (.ref T) (.tup [d, e]) ∧ Step M H M (upd H T (.tup [x, y])) ∧ RepM K (upd H T (.tup [x, y])) M :=
  ⟨.tup (SqT.of upd_same) ((Reps.cons r1 (.cons r2 .nil)).step m (Step.new hT)), Step.new hT, m.new hT⟩
def diZip (tr : DA) : DI := fun Γ M Q => tr Γ M fun ds M1 => match ds with
  | [.tup xs, .tup ys] => Q (zipD xs ys) (fun _ => True) M1
  | [.ref a, .ref b] => ∃ xs ys, M1 a = some (.lst xs) ∧ M1 b = some (.lst ys) ∧ Q (zipD xs ys) (fun M => M a = some (.lst xs) ∧ M b = some (.lst ys)) M1
  | _ => False
section
variable {X : Cx} {K : PySem.W.Frag} {e e2 : Expr} {str : TA} {tr : DA} {p pos tpos : Pos}
theorem izip {elts : List Expr} {kk : Nat} (hg : Gl X "zip") (hm : X.mg "zip" = none) (ha : PDA X K [e, e2] str tr)
    (hs : starEach [e, e2] X.env = (false, eval e X.env) :: starEach [e2] X.env := by rfl) (hpl : (backTo pos (starEach [e2] X.env)).any (·.1) = false := by rfl) :
    PDI X K (.Tuple elts kk tpos) (.Call (.Name "zip" p) [e, e2] [] pos) (iZipA K str) (diZip tr) := by
  have hK := ha.hK; subst hK
  refine ⟨rfl, pi_zipA hg hm ha.pe hs hpl, fun σ H Γ M Qd R hΓ hM ht hL => ha.se σ H Γ M _ _ hΓ hM ht fun ds M1 vs H1 h s r m => ?_⟩
  cases ds with
  | nil => exact h.elim
  | cons d t => cases t with
    | nil => cases d <;> exact h.elim
    | cons d2 t => cases t with
      | cons => cases d <;> first | exact h.elim | (cases d2 <;> exact h.elim)
      | nil =>
        obtain ⟨v, w, rfl, r1, r2⟩ := reps2 r
        cases d <;> first | exact h.elim | skip
        · cases d2 <;> first | exact h.elim | skip
          cases r1 with
          | tup q1 rs1 => cases r2 with
            | tup q2 rs2 =>
              refine ⟨_, _, _, _, rfl, .inr ⟨q1, q2, hL _ _ M1 _ H1 h s m fun M2 H2 s2 m2 _ => ⟨fun i d e => ?_, ?_⟩⟩⟩
              · obtain ⟨x, y, h1, h2, rfl⟩ := zipD_get e
                obtain ⟨a, k1, k2⟩ := (rs1.kt s2).get h1
                obtain ⟨b, k3, k4⟩ := (rs2.kt s2).get h2
                refine ⟨⟨_, _, a, b, s2.sq q1, s2.sq q2, k1, k3⟩, fun x' H3 yy => ?_⟩
                obtain ⟨T, x1, y1, rfl, hT, rfl, e1, e2⟩ := yy
                have f1 := e1 _ (s2.sq q1)
                have f2 := e2 _ (s2.sq q2)
                rw [k1] at f1; cases f1
                rw [k3] at f2; cases f2
                exact zip_step m2 hT k2 k4
              · refine ⟨_, _, s2.sq q1, s2.sq q2, ?_⟩
                rw [zipD_len, rs1.length, rs2.length]
                omega
        · cases d2 <;> first | exact h.elim | skip
          obtain ⟨xs, ys, h1, h2, h3⟩ := h
          cases r1
          cases r2
          obtain ⟨vs1, g1, g2⟩ := m.2 _ _ h1
          obtain ⟨vs2, g3, g4⟩ := m.2 _ _ h2
          refine ⟨_, _, _, _, rfl, .inl ⟨SqL.of g1, SqL.of g3, hL _ _ M1 _ H1 h3 s m fun M2 H2 s2 m2 i2 => ?_⟩⟩
          obtain ⟨us1, j1, j2⟩ := m2.2 _ _ i2.1
          obtain ⟨us2, j3, j4⟩ := m2.2 _ _ i2.2
          refine ⟨fun i d e => ?_, _, _, SqL.of j1, SqL.of j3, by rw [zipD_len, j2.length, j4.length]; omega⟩
          obtain ⟨x, y, h1, h2, rfl⟩ := zipD_get e
          obtain ⟨a, k1, k2⟩ := j2.get h1
          obtain ⟨b, k3, k4⟩ := j4.get h2
          refine ⟨⟨_, _, a, b, SqL.of j1, SqL.of j3, k1, k3⟩, fun x' H3 yy => ?_⟩
          obtain ⟨T, x1, y1, rfl, hT, rfl, e1, e2⟩ := yy
          have f1 := e1 _ (SqL.of j1)
          have f2 := e2 _ (SqL.of j3)
          rw [k1] at f1; cases f1
          rw [k3] at f2; cases f2
          exact zip_step m2 hT k2 k4
end

/-! ### two clauses -/
def dCL2 (g : DG) (tt : DT) (ti1 : DI) (g1 : DG) (tt1 : DT) (te : DE) (vs1 : List Nat) (inv : Mp → Prop) (Γ : Gm) : List D → List D → Mp → (List D → Mp → Prop) → Prop
  | [], acc, M, Q => inv M ∧ Q acc M
  | d :: ds, acc, M, Q => inv M ∧ g d Γ M fun Γ1 M1 => tt Γ1 M1 fun b M2 => if b = true then ti1 Γ1 M2 fun items1 inv1 M3 => dCL g1 tt1 te inv1 (wipeG Γ1 vs1) items1 acc M3 fun acc' M4 => dCL2 g tt ti1 g1 tt1 te vs1 inv Γ ds acc' M4 Q
    else dCL2 g tt ti1 g1 tt1 te vs1 inv Γ ds acc M2 Q
def dLc2 (ti : DI) (g : DG) (tt : DT) (ti1 : DI) (g1 : DG) (tt1 : DT) (te : DE) (own vs1 : List Nat) : DE := fun Γ M Q => ti Γ M fun items inv M1 => dCL2 g tt ti1 g1 tt1 te vs1 inv (wipeG Γ own) items [] M1 fun acc M2 => ∀ p, M2 p = none → Q (.ref p) (mupd M2 p (.lst acc))
/-- what is made so far stands at L, aside of the store -/
structure Acc (K : PySem.W.Frag) (L : Addr) (M1 : Mp) (H1 : Hp) (M2 : Mp) (H2 : Hp) (acc : List D) : Prop where
  st : Step M1 H1 M2 H2
  kt : KT H1 H2
  m : RepM K H2 M2
  at_ : ∃ vs, H2 L = some (.lst vs) ∧ Reps K H2 vs acc
  no : M2 L = none
theorem Acc.step {K : PySem.W.Frag} {L : Addr} {M1 M2 M3 : Mp} {H1 H2 H3 : Hp} {acc : List D} (a : Acc K L M1 H1 M2 H2 acc) (s : Step M2 H2 M3 H3) (m3 : RepM K H3 M3) : Acc K L M1 H1 M3 H3 acc := by
  obtain ⟨st, kt, m, ⟨vs, h1, h2⟩, no⟩ := a
  obtain ⟨e1, e2⟩ := s L _ h1 no (by intro ps z; cases z)
  exact ⟨st.trans s, kt.trans (s.kt m), m3, ⟨vs, e1, h2.step m s⟩, e2⟩
theorem Acc.put {K : PySem.W.Frag} {L : Addr} {M1 M2 : Mp} {H1 H2 : Hp} {acc : List D} {z : V} {d : D} (a : Acc K L M1 H1 M2 H2 acc) (hD : H1 L = none) (r : Rep K H2 z d) :
    ∃ vs, H2 L = some (.lst vs) ∧ vs.length = acc.length ∧ Acc K L M1 H1 M2 (upd H2 L (.lst (vs ++ [z]))) (acc ++ [d]) := by
  obtain ⟨st, kt, m, ⟨vs, h1, h2⟩, no⟩ := a
  refine ⟨vs, h1, h2.length, fun a o ha hm nt => ?_, kt.trans (KT.lst h1), ⟨m.1.upd (by rw [h1]; intro ps z; cases z), fun a o ha => (m.2 a o ha).kt (KT.lst h1) (upd_ne fun z => by rw [z, no] at ha; cases ha)⟩, ⟨_, upd_same, (h2.append (.cons r .nil)).kt (KT.lst h1)⟩, no⟩
  obtain ⟨w1, w2⟩ := st a o ha hm nt
  exact ⟨by rw [upd_ne (ne_of_none ha hD)]; exact w1, w2⟩
theorem RG.kt {K : PySem.W.Frag} {H H1 : Hp} {σ : L2.St} {Γ : Gm} (h : RG K H σ Γ) (k : KT H H1) : RG K H1 σ Γ := ⟨h.1, fun i d e => by
  obtain ⟨v, h1, h2⟩ := h.2 i d e
  exact ⟨v, h1, h2.kt k⟩⟩
theorem se_lc2 {K : PySem.W.Frag} {own vs1 : List Nat} {wi wi1 : TI} {tg tg1 : TG} {stt stt1 : TT} {ste : TE} {ti ti1 : DI} {g g1 : DG} {tt tt1 : DT} {te : DE} (hi : SI K wi ti) (hg : SG K own tg g) (htt : ST K stt tt)
    (hi1 : SI K wi1 ti1) (hg1 : SG K vs1 tg1 g1) (htt1 : ST K stt1 tt1) (he : SE K ste te) : SE K (tLc2 wi tg stt wi1 tg1 stt1 ste own vs1) (dLc2 ti g tt ti1 g1 tt1 te own vs1) := fun σ H Γ M Qd Q hΓ hM ht hL =>
  hi σ H Γ M _ _ hΓ hM ht fun items inv M1 J H1 h s m gv L hD => by
    have hΓ1 := hΓ.step hM s
    refine ⟨fun i k H2 => ∃ M2 acc, k = items.length - i ∧ i ≤ items.length ∧ Acc K L M1 H1 M2 H2 acc ∧
      dCL2 g tt ti1 g1 tt1 te vs1 inv (wipeG Γ own) (items.drop i) acc M2 fun acc M2 => ∀ p, M2 p = none → Qd (.ref p) (mupd M2 p (.lst acc)), ⟨items.length, M1, [], by simp, Nat.zero_le _, ⟨Step.new hD, (Step.new (M := M1) hD).kt m, m.new hD, ⟨[], upd_same, .nil⟩, m.fresh hD⟩, by simpa using h⟩, ?_⟩
    rintro i k H2 ⟨M2, acc, rfl, hi, A, h2⟩
    by_cases hlt : i < items.length
    · have e : items.drop i = items[i] :: items.drop (i + 1) := List.drop_eq_getElem_cons hlt
      rw [e] at h2
      obtain ⟨v2, h2⟩ := h2
      obtain ⟨q1, q2⟩ := (gv M2 H2 A.kt A.m v2).1 i items[i] (by simp [hlt])
      refine .inr ⟨q1, fun H3 => ∃ M3 acc, Acc K L M1 H1 M3 H3 acc ∧ dCL2 g tt ti1 g1 tt1 te vs1 inv (wipeG Γ own) (items.drop (i + 1)) acc M3 fun acc M2 => ∀ p, M2 p = none → Qd (.ref p) (mupd M2 p (.lst acc)),
        fun H' ⟨M3, acc, a, b⟩ => ⟨_, by omega, M3, acc, rfl, hlt, a, b⟩, fun x H3 y => ?_⟩
      obtain ⟨r3, s3, m3⟩ := q2 x H3 y
      refine hg x _ (wipe σ own) H3 (wipeG Γ own) M2 _ _ r3 (((hΓ1.wipe own).step m A.st).step A.m s3) m3 h2 fun Γ4 M4 σ4 H4 h4 s4 g4 m4 b4 => ⟨wipe_but b4, ?_⟩
      have A4 := (A.step s3 m3).step s4 m4
      refine htt σ4 H4 Γ4 M4 _ _ g4 m4 h4 fun b M5 H5 h5 s5 m5 => ?_
      have A5 := A4.step s5 m5
      cases b with
      | false =>
        rw [if_neg Bool.false_ne_true] at h5 ⊢
        exact ⟨M5, acc, A5, h5⟩
      | true =>
        rw [if_pos rfl] at h5 ⊢
        refine hi1 σ4 H5 Γ4 M5 _ _ (g4.step m4 s5) m5 h5 fun items1 inv1 M6 J1 H6 h6 s6 m6 gv1 => ?_
        have A6 := A5.step s6 m6
        have g6 := (g4.step m4 s5).step m5 s6
        refine ⟨fun j k H7 => ∃ M7 acc, k = items1.length - j ∧ j ≤ items1.length ∧ Acc K L M1 H1 M7 H7 acc ∧ KT H6 H7 ∧
          dCL g1 tt1 te inv1 (wipeG Γ4 vs1) (items1.drop j) acc M7 fun acc' M4 => dCL2 g tt ti1 g1 tt1 te vs1 inv (wipeG Γ own) (items.drop (i + 1)) acc' M4 fun acc M2 => ∀ p, M2 p = none → Qd (.ref p) (mupd M2 p (.lst acc)),
          ⟨items1.length, M6, acc, by simp, Nat.zero_le _, A6, KT.refl, by simpa using h6⟩, ?_⟩
        rintro j k H7 ⟨M7, acc7, rfl, hj, A7, s7, h7⟩
        by_cases hlt1 : j < items1.length
        · have e : items1.drop j = items1[j] :: items1.drop (j + 1) := List.drop_eq_getElem_cons hlt1
          rw [e] at h7
          obtain ⟨v7, h7⟩ := h7
          obtain ⟨q1, q2⟩ := (gv1 M7 H7 s7 A7.m v7).1 j items1[j] (by simp [hlt1])
          refine .inr ⟨q1, fun H8 => ∃ M8 acc, Acc K L M1 H1 M8 H8 acc ∧ KT H6 H8 ∧ dCL g1 tt1 te inv1 (wipeG Γ4 vs1) (items1.drop (j + 1)) acc M8 fun acc' M4 => dCL2 g tt ti1 g1 tt1 te vs1 inv (wipeG Γ own) (items.drop (i + 1)) acc' M4 fun acc M2 => ∀ p, M2 p = none → Qd (.ref p) (mupd M2 p (.lst acc)),
            fun H' ⟨M3, acc, a, b, c⟩ => ⟨_, by omega, M3, acc, rfl, hlt1, a, b, c⟩, fun x H8 y => ?_⟩
          obtain ⟨r8, s8, m8⟩ := q2 x H8 y
          refine hg1 x _ (wipe σ4 vs1) H8 (wipeG Γ4 vs1) M7 _ _ r8 (((g6.wipe vs1).kt s7).step A7.m s8) m8 h7 fun Γ9 M9 σ9 H9 h9 s9 g9 m9 b9 => ⟨wipe_but b9, ?_⟩
          have A9 := (A7.step s8 m8).step s9 m9
          refine htt1 σ9 H9 Γ9 M9 _ _ g9 m9 h9 fun b M10 H10 h10 s10 m10 => ?_
          have A10 := A9.step s10 m10
          have s67 := ((s7.trans (s8.kt A7.m)).trans (s9.kt m8)).trans (s10.kt m9)
          cases b with
          | false =>
            rw [if_neg Bool.false_ne_true] at h10 ⊢
            exact ⟨M10, acc7, A10, s67, h10⟩
          | true =>
            rw [if_pos rfl] at h10 ⊢
            refine he σ9 H10 Γ9 M10 _ _ (g9.step m9 s10) m10 h10 fun d M11 z H11 h11 s11 r11 m11 => ?_
            obtain ⟨vs, f1, f2, f3⟩ := (A10.step s11 m11).put hD r11
            exact ⟨vs, f1, by rw [f2]; exact h11.1, M11, _, f3, (s67.trans (s11.kt m10)).trans (KT.lst f1), h11.2⟩
        · have e : j = items1.length := by omega
          subst e
          rw [List.drop_length] at h7
          exact .inl ⟨(gv1 M7 H7 s7 A7.m h7.1).2, M7, acc7, A7, h7.2⟩
    · have e : i = items.length := by omega
      subst e
      rw [List.drop_length] at h2
      obtain ⟨st, kt2, m2, ⟨vs, hL2, ra⟩, hM2⟩ := A
      refine .inl ⟨(gv M2 H2 kt2 m2 h2.1).2, hL _ _ _ _ (h2.2 L hM2) ?_ (.ref L) ?_⟩
      · exact fun a o ha hm nt => by
          obtain ⟨w1, w2⟩ := (s.trans st) a o ha hm nt
          refine ⟨w1, ?_⟩
          have hn : a ≠ L := fun z => by
            subst z
            have := (s _ _ ha hm nt).1
            rw [hD] at this
            cases this
          rw [mupd_ne hn]
          exact w2
      · refine ⟨m2.1, fun a o ha => ?_⟩
        · by_cases hn : a = L
          · subst hn
            rw [mupd_same] at ha
            cases ha
            exact ⟨vs, hL2, ra⟩
          · rw [mupd_ne hn] at ha
            exact m2.2 a o ha

section
variable {X : Cx} {K : PySem.W.Frag} {e : Expr} {pos : Pos}
abbrev Blk (X : Cx) (f : Cx → Prop) (scope : Scope) : Prop := ∀ (s : Shared) (H : Hp) (C : Addr) (cl : List (Str × Addr)) (fp : List Addr), f (X.blk s H scope (compEnvC scope cl C X.env) fp)
theorem Blk.get {f : Cx → Prop} {scope : Scope} (h : Blk X f scope) : f (X.blk X.s_0 (fun _ => none) scope (compEnvC scope [] 0 X.env) []) := h _ _ _ _ _
theorem dlc2 {tg iter tg1 iter1 : Expr} {ifs ifs1 : List Expr} {scope : Scope} {own : List (Str × Nat)} {vs1 : List Nat} {sti sti1 : TI} {sg sg1 : TG} {stt stt1 : TT} {ste : TE} {ti ti1 : DI} {g g1 : DG} {tt tt1 : DT} {te : DE} (hc : X.calm = true) (hN : X.N.Nodup) (hi : PDI X K tg iter sti ti) (ok : blkC X.N X.env.scope scope own = true) (hv : ∀ i ∈ vs1, i ∈ own.map (·.2))
    (hg : ∀ (s : Shared) (H : Hp) (C : Addr) (cl : List (Str × Addr)) (fp : List Addr), PDG (X.blk s H scope (compEnvC scope cl C X.env) fp) K (own.map (·.2)) tg sg g)
    (ht : ∀ (s : Shared) (H : Hp) (C : Addr) (cl : List (Str × Addr)) (fp : List Addr), PDTs (X.blk s H scope (compEnvC scope cl C X.env) fp) K ifs stt tt)
    (hi1 : ∀ (s : Shared) (H : Hp) (C : Addr) (cl : List (Str × Addr)) (fp : List Addr), PDI (X.blk s H scope (compEnvC scope cl C X.env) fp) K tg1 iter1 sti1 ti1)
    (hg1 : ∀ (s : Shared) (H : Hp) (C : Addr) (cl : List (Str × Addr)) (fp : List Addr), PDG (X.blk s H scope (compEnvC scope cl C X.env) fp) K vs1 tg1 sg1 g1)
    (ht1 : ∀ (s : Shared) (H : Hp) (C : Addr) (cl : List (Str × Addr)) (fp : List Addr), PDTs (X.blk s H scope (compEnvC scope cl C X.env) fp) K ifs1 stt1 tt1)
    (he : ∀ (s : Shared) (H : Hp) (C : Addr) (cl : List (Str × Addr)) (fp : List Addr), PD (X.blk s H scope (compEnvC scope cl C X.env) fp) K e ste te) (hs : ∀ x, foldedSetIterable iter X.env x = pure x := by intro _; rfl) (hs1 : ∀ env x, foldedSetIterable iter1 env x = pure x := by intro _ _; rfl) :
    PD X K (.ListComp e [⟨tg, iter, ifs, 0⟩, ⟨tg1, iter1, ifs1, 0⟩] scope pos) (tLc2 sti sg stt sti1 sg1 stt1 ste (own.map (·.2)) vs1) (dLc2 ti g tt ti1 g1 tt1 te (own.map (·.2)) vs1) := by
  have hK := hi.hK; subst hK
  exact ⟨rfl, pe_lc2 hc hN hi.pe (blkOk_by ok) hv (fun s H C cl fp => (hg s H C cl fp).pe) (fun s H C cl fp => (ht s H C cl fp).pe) (fun s H C cl fp => (hi1 s H C cl fp).pe) (fun s H C cl fp => (hg1 s H C cl fp).pe) (fun s H C cl fp => (ht1 s H C cl fp).pe) (fun s H C cl fp => (he s H C cl fp).pe) hs hs1,
    se_lc2 hi.se (hg X.s_0 (fun _ => none) 0 [] []).se (ht X.s_0 (fun _ => none) 0 [] []).se (hi1 X.s_0 (fun _ => none) 0 [] []).se (hg1 X.s_0 (fun _ => none) 0 [] []).se (ht1 X.s_0 (fun _ => none) 0 [] []).se (he X.s_0 (fun _ => none) 0 [] []).se⟩
/-- name = [..] on one line, the name a local -/
theorem ssetLc {i : Nat} {y : Str} {py : Pos} {elt tg iter : Expr} {ifs : List Expr} {scope : Scope} {own : List (Str × Nat)} {spos : Pos} {sti : TI} {sg : TG} {stt : TT} {ste : TE} {ti : DI} {g : DG} {tt : DT} {te : DE} (hc : X.calm = true) (hN : X.N.Nodup)
    (hi : PDI X K tg iter sti ti) (ok : blkC X.N X.env.scope scope own = true)
    (hg : ∀ (s : Shared) (H : Hp) (C : Addr) (cl : List (Str × Addr)) (fp : List Addr), PDG (X.blk s H scope (compEnvC scope cl C X.env) fp) K (own.map (·.2)) tg sg g)
    (ht : ∀ (s : Shared) (H : Hp) (C : Addr) (cl : List (Str × Addr)) (fp : List Addr), PDTs (X.blk s H scope (compEnvC scope cl C X.env) fp) K ifs stt tt)
    (he : ∀ (s : Shared) (H : Hp) (C : Addr) (cl : List (Str × Addr)) (fp : List Addr), PD (X.blk s H scope (compEnvC scope cl C X.env) fp) K elt ste te)
    (hy : X.N[i]? = some y := by rfl) (hyl : X.env.scope.names.lookup y = some .local := by rfl)
    (hsw : swapsWith (.ListComp elt [⟨tg, iter, ifs, 0⟩] scope pos) (some (.Name y py)) spos.line X.env = pure true := by exact sw_true rfl rfl rfl (by decide +kernel)) (hs : ∀ x, foldedSetIterable iter X.env x = pure x := by intro _; rfl) :
    PDS X K (.Assign [.Name y py] (.ListComp elt [⟨tg, iter, ifs, 0⟩] scope pos) spos) (tAsg (tLc sti sg stt ste (own.map (·.2))) (gName i)) (dAsg (dLc ti g tt te (own.map (·.2))) (dgN i)) := by
  have hK := hi.hK; subst hK
  exact ⟨rfl, ps_setLc hc hN hy hyl hsw hi.pe (blkOk_by ok) (fun s H C cl fp => (hg s H C cl fp).pe) (fun s H C cl fp => (ht s H C cl fp).pe) (fun s H C cl fp => (he s H C cl fp).pe) hs,
    ss_asg (own := [i]) (se_lc hi.se (hg X.s_0 (fun _ => none) 0 [] []).se (ht X.s_0 (fun _ => none) 0 [] []).se (he X.s_0 (fun _ => none) 0 [] []).se) (fun v d σ H Γ M Qd Q r hg hM h k => k _ M _ H h Step.refl (hg.set r i) hM (But.set (by simp)))⟩
/-- a, b = x, y -/
def dPar (i j : Nat) (tr : DA) : DS := fun F Γ M => tr Γ M fun ds M1 => match ds with
  | [d, e] => F.nx (sv (sv Γ i d) j e) M1
  | _ => False
theorem spar {i j : Nat} {x y : Str} {a b : Expr} {str : TA} {tr : DA} {px py pt : Pos} {kt k2 pt2} (hc : X.calm = true) (hN : X.N.Nodup) (ha : PDA X K [a, b] str tr) (hi : X.N[i]? = some x := by rfl) (hj : X.N[j]? = some y := by rfl) (hij : i ≠ j := by decide)
    (hx : X.env.scope.names.lookup x = some .local := by rfl) (hy : X.env.scope.names.lookup y = some .local := by rfl)
    (hw : swappedStores [.Tuple [.Name x px, .Name y py] kt pt] (.Tuple [a, b] k2 pt2) X.env = pure (some [x, y]) := by rfl)
    (hs : swapsWithSole [.Tuple [.Name x px, .Name y py] kt pt] (.Tuple [a, b] k2 pt2) pos.line X.env = pure false := by rfl) : PDS X K (.Assign [.Tuple [.Name x px, .Name y py] kt pt] (.Tuple [a, b] k2 pt2) pos) (tPar i j str) (dPar i j tr) := by
  have hK := ha.hK; subst hK
  exact ⟨rfl, ps_par hc hN hi hj hij hx hy ha.pe hw hs, fun σ H Γ M F E hΓ hM ht hL => ha.se σ H Γ M _ _ hΓ hM ht fun ds M1 vs H1 h s r m => by
    cases ds with
    | nil => exact h.elim
    | cons d t => cases t with
      | nil => exact h.elim
      | cons e t => cases t with
        | cons => exact h.elim
        | nil =>
          obtain ⟨v, w, rfl, r1, r2⟩ := reps2 r
          exact ⟨v, w, rfl, hL.nx _ M1 _ H1 h s (((hΓ.step hM s).set r1 i).set r2 j) m⟩⟩
/-- a op b op' c -/
def dChain (o o' : O2) (ta tb tc : DE) : DE := fun Γ M Q => ta Γ M fun d M1 => tb Γ M1 fun e M2 => o d e M2 fun z M3 => asB z fun k => if k = true then tc Γ M3 fun f M4 => o' e f M4 Q else Q (.bl false) M3
variable {a b c : Expr} {sta stb stc : TE} {ta tb tc : DE} {ro ro' : R2} {o o' : O2}
theorem se_chain {K : PySem.W.Frag} (ho : SOp K ro o) (ho' : SOp K ro' o') (ha : SE K sta ta) (hb : SE K stb tb) (hc : SE K stc tc) : SE K (tChain ro ro' sta stb stc) (dChain o o' ta tb tc) := fun σ H Γ M Qd Q hg hM ht hL =>
  ha σ H Γ M _ _ hg hM ht fun d M1 x H1 h1 s1 r1 m1 => hb σ H1 Γ M1 _ _ (hg.step hM s1) m1 h1 fun e M2 y H2 h2 s2 r2 m2 =>
    ho x y d e H2 M2 _ _ (r1.step m1 s2) r2 m2 h2 fun z M3 w H3 h3 s3 r3 m3 => by
      obtain ⟨k, rfl, rfl, h9⟩ := bool_of r3 h3
      refine ⟨k, rfl, ?_⟩
      have st := (s1.trans s2).trans s3
      cases k with
      | true =>
        rw [if_pos rfl] at h9 ⊢
        exact hc σ H3 Γ M3 _ _ (hg.step hM st) m3 h9 fun f M4 u H4 h4 s4 r4 m4 => ho' y u e f H4 M4 Qd Q ((r2.step m2 s3).step m3 s4) r4 m4 h4 (hL.step (st.trans s4))
      | false =>
        rw [if_neg Bool.false_ne_true] at h9 ⊢
        exact hL _ M3 _ H3 h9 st (.bl false) m3
theorem dchain {op op' : CmpOp} (ho : POp X K (compareOp op) ro o) (ho' : POp X K (compareOp op') ro' o') (ha : PD X K a sta ta) (hb : PD X K b stb tb) (hc : PD X K c stc tc) (hm : lastMarks [op, op'] [b, c] = false := by with_unfolding_all rfl) :
    PD X K (.Compare a [op, op'] [b, c] pos) (tChain ro ro' sta stb stc) (dChain o o' ta tb tc) := by
  have hK := ho.hK; subst hK
  exact ⟨rfl, pe_chain ho.pe ho'.pe ha.pe hb.pe hc.pe hm, se_chain ho.se ho'.se ha.se hb.se hc.se⟩
theorem tchain {op op' : CmpOp} (ho : POp X K (compareOp op) ro o) (ho' : POp X K (compareOp op') ro' o') (ha : PD X K a sta ta) (hb : PD X K b stb tb) (hc : PD X K c stc tc) (hm : lastMarks [op, op'] [b, c] = false := by with_unfolding_all rfl) :
    PDT X K (.Compare a [op, op'] [b, c] pos) (tTest (tChain ro ro' sta stb stc)) (dB (dChain o o' ta tb tc)) := by
  have hK := ho.hK; subst hK
  exact ⟨rfl, pt_chain ho.pe ho'.pe ha.pe hb.pe hc.pe hm, st_test (se_chain ho.se ho'.se ha.se hb.se hc.se)⟩
end

/-! ### a def of the text that keeps its promise, as a caller sees it -/
def Cal (P : Program) (w : World) (K : PySem.W.Frag) (mg : Str → Option Value) (base : Heap) (k : Nat) (x : Str) (st : Stmt) (ps : List Str) (sp : DSp) : Prop :=
  ∃ (f : Addr) (fd : FuncData), FnOk P w K mg base CX0 k f fd ps (toSp K sp) ∧ Fun K x x st f fd ∧ mg x = some (.ref f) ∧ PySem.W.keepIn K (.ref f) = true
end DL
end
section
set_option maxHeartbeats 4000000
/-! DG0: all(), any() of a generator whose turns run with an invariant of their own: the consumer. -/
namespace GX
open PySem PySem.Spec PyProof.Rows L2 GenW

/-- v's truth is b -/
def TrV (v : Value) (b : Bool) : Prop := v = .bool b ∨ ∃ n t, v = .int n t ∧ b = (n != 0)
theorem tru_run {P : Program} {w : World} {A : Around} {v : Value} {b : Bool} {Q : Bool → Shared → Prop} {E : Value → Shared → Prop} {s : Shared} (h : TrV v b) (q : Q b s) : wpAny (model P w) A (truthy v) Q E s := by
  rcases h with rfl | ⟨n, t, rfl, rfl⟩
  · exact wpAny_truthy_bool q
  · exact PySem.P.truthy_int q
/-- while the generator sleeps nothing but its own state turns -/
structure Woke (s s' : Shared) : Prop where
  os : s'.os = s.os
  bare : AllBare s'.gens
  keep : ∀ b o, s.heap.get? b = some o → s'.heap.get? b = some o
/-- the turns' ends; End: all items have come, Early: the item that decides has come (its truth is stop) -/
def RX (Fin : Shared → Prop) : GenEnd := fun _ _ r s => ((r = .ok (.ret .none) ∨ r = .ok .next) ∧ Fin s) ∨ ∃ e, r = .error e ∧ False
def YX (stop : Bool) (a : Addr) (g : Nat) (Early : Shared → Prop) : Protocol := fun _ _ v s kap =>
  AllBare s.gens ∧ s.heap.NoLimit ∧ s.heap.IsGen a g ∧ ∃ b, TrV v b ∧ (b = stop → Early s) ∧ (b ≠ stop → ∀ s', Woke s s' → kap (.send .none) s')
structure Ended (Fin Early : Shared → Prop) : Prop where
  fin : ∀ s g h', Fin s → (∀ b o, s.heap.get? b = some o → h'.get? b = some o) → Fin { s.setGen g .finished with heap := h' }
  early : ∀ s g gs, Early s → gs.bare = true → Early (s.setGen g gs)
section
variable {P : Program} {w : World} {stop : Bool} {Fin Early : Shared → Prop} {R : Result → Shared → Prop} {a : Addr} {g : Nat} {A : Around}
theorem loop_all (hst : stop = false) (hh : A.handled = none) (hd : A.depth < recursionLimit) (hE : Ended Fin Early) (h1 : ∀ s, Fin s → R (.ok (.ret (.bool true))) s) (h2 : ∀ s, Early s → R (.ok (.ret (.bool false))) s) :
    ∀ (n : Nat) (s : Shared), AllBare s.gens → s.heap.IsGen a g → s.heap.NoLimit → (∃ gs, s.gens[g]? = some gs ∧ gs.Goes (model P w) A.in1.in1 (RX Fin) (YX stop a g Early) n (.send .none) (s.setGen g .running)) →
      codeAny (model P w) A (.builtin "all.loop" ⟨[.ref a], []⟩) R s := by
  subst hst
  intro n
  induction n with
  | zero =>
    intro s hb hg hl ⟨gs, e, go⟩
    refine codeAny_builtin F.entry_all_loop ?_
    rw [Around.under_plainId F.plain_all_loop _]
    show wpAny _ A.in1 (pyNext (.ref a) >>= _) _ _ s
    refine wpAny_bind (next_genG (A := A.in1) (F := fun _ _ s => Fin s) (Er := fun _ _ => False) hh hl hd hg e go (fun v s1 gs' gb hv => ?_) (fun s1 hp h' hk => ?_) fun e s1 z => z.elim)
    · obtain ⟨b1, l1, g1, b, ht, q1, q2⟩ := hv
      refine wpAny_bind (wpAny_holding (tru_run ht (wpAny_bind (wpAny_letGo ?_))))
      cases b with
      | false =>
        rw [if_neg Bool.false_ne_true]
        exact wpAny_bind (wpAny_rule (wpAny_pure (h2 _ (hE.early _ _ _ (q1 rfl) gb))))
      | true => exact (q2 (by decide) _ ⟨rfl, b1, fun _ _ z => z⟩).elim
    · exact wpAny_bind (wpAny_rule (wpAny_pure (h1 _ (hE.fin _ _ _ hp hk))))
  | succ n ih =>
    intro s hb hg hl ⟨gs, e, go⟩
    have hgl : g < s.gens.size := (Array.getElem?_eq_some_iff.mp e).1
    refine codeAny_builtin F.entry_all_loop ?_
    rw [Around.under_plainId F.plain_all_loop _]
    show wpAny _ A.in1 (pyNext (.ref a) >>= _) _ _ s
    refine wpAny_bind (wpAny_gsz (n := g + 1) hgl (next_genG (A := A.in1) (F := fun _ _ s => Fin s) (Er := fun _ _ => False) hh hl hd hg e go (fun v s1 gs' gb hv => ?_) (fun s1 hp h' hk => ?_) fun e s1 z => z.elim))
    · intro hsz
      obtain ⟨b1, l1, g1, b, ht, q1, q2⟩ := hv
      refine wpAny_bind (wpAny_holding (tru_run ht (wpAny_bind (wpAny_letGo ?_))))
      cases b with
      | false =>
        rw [if_neg Bool.false_ne_true]
        exact wpAny_bind (wpAny_rule (wpAny_pure (h2 _ (hE.early _ _ _ (q1 rfl) gb))))
      | true =>
        rw [if_pos rfl]
        have hs1 : g < s1.gens.size := by
          have : (s1.setGen g gs').gens.size = s1.gens.size := setGen_size _ _ _
          omega
        have ab : AllBare (s1.setGen g gs').gens := allBare_setGen b1 gb
        exact wpAny_pure ⟨plainId_quiet F.plain_all_loop _, ih _ ab g1 l1 ⟨gs', setGen_at hs1, q2 (by decide) _ ⟨rfl, allBare_setGen ab rfl, fun _ _ z => z⟩⟩⟩
    · intro hsz
      exact wpAny_bind (wpAny_rule (wpAny_pure (h1 _ (hE.fin _ _ _ hp hk))))
theorem loop_any (hst : stop = true) (hh : A.handled = none) (hd : A.depth < recursionLimit) (hE : Ended Fin Early) (h1 : ∀ s, Fin s → R (.ok (.ret (.bool false))) s) (h2 : ∀ s, Early s → R (.ok (.ret (.bool true))) s) :
    ∀ (n : Nat) (s : Shared), AllBare s.gens → s.heap.IsGen a g → s.heap.NoLimit → (∃ gs, s.gens[g]? = some gs ∧ gs.Goes (model P w) A.in1.in1 (RX Fin) (YX stop a g Early) n (.send .none) (s.setGen g .running)) →
      codeAny (model P w) A (.builtin "any.loop" ⟨[.ref a], []⟩) R s := by
  subst hst
  intro n
  induction n with
  | zero =>
    intro s hb hg hl ⟨gs, e, go⟩
    refine codeAny_builtin F.entry_any_loop ?_
    rw [Around.under_plainId F.plain_any_loop _]
    show wpAny _ A.in1 (pyNext (.ref a) >>= _) _ _ s
    refine wpAny_bind (next_genG (A := A.in1) (F := fun _ _ s => Fin s) (Er := fun _ _ => False) hh hl hd hg e go (fun v s1 gs' gb hv => ?_) (fun s1 hp h' hk => ?_) fun e s1 z => z.elim)
    · obtain ⟨b1, l1, g1, b, ht, q1, q2⟩ := hv
      refine wpAny_bind (wpAny_holding (tru_run ht (wpAny_bind (wpAny_letGo ?_))))
      cases b with
      | true =>
        rw [if_pos rfl]
        exact wpAny_bind (wpAny_rule (wpAny_pure (h2 _ (hE.early _ _ _ (q1 rfl) gb))))
      | false => exact (q2 (by decide) _ ⟨rfl, b1, fun _ _ z => z⟩).elim
    · exact wpAny_bind (wpAny_rule (wpAny_pure (h1 _ (hE.fin _ _ _ hp hk))))
  | succ n ih =>
    intro s hb hg hl ⟨gs, e, go⟩
    have hgl : g < s.gens.size := (Array.getElem?_eq_some_iff.mp e).1
    refine codeAny_builtin F.entry_any_loop ?_
    rw [Around.under_plainId F.plain_any_loop _]
    show wpAny _ A.in1 (pyNext (.ref a) >>= _) _ _ s
    refine wpAny_bind (wpAny_gsz (n := g + 1) hgl (next_genG (A := A.in1) (F := fun _ _ s => Fin s) (Er := fun _ _ => False) hh hl hd hg e go (fun v s1 gs' gb hv => ?_) (fun s1 hp h' hk => ?_) fun e s1 z => z.elim))
    · intro hsz
      obtain ⟨b1, l1, g1, b, ht, q1, q2⟩ := hv
      refine wpAny_bind (wpAny_holding (tru_run ht (wpAny_bind (wpAny_letGo ?_))))
      cases b with
      | true =>
        rw [if_pos rfl]
        exact wpAny_bind (wpAny_rule (wpAny_pure (h2 _ (hE.early _ _ _ (q1 rfl) gb))))
      | false =>
        rw [if_neg Bool.false_ne_true]
        have hs1 : g < s1.gens.size := by
          have : (s1.setGen g gs').gens.size = s1.gens.size := setGen_size _ _ _
          omega
        have ab : AllBare (s1.setGen g gs').gens := allBare_setGen b1 gb
        exact wpAny_pure ⟨plainId_quiet F.plain_any_loop _, ih _ ab g1 l1 ⟨gs', setGen_at hs1, q2 (by decide) _ ⟨rfl, allBare_setGen ab rfl, fun _ _ z => z⟩⟩⟩
    · intro hsz
      exact wpAny_bind (wpAny_rule (wpAny_pure (h1 _ (hE.fin _ _ _ hp hk))))

/-- all(g), any(g) -/
theorem call_all (hh : A.handled = none) (hd : A.depth < recursionLimit) (hE : Ended Fin Early) {Q : Value → Shared → Prop} {E : Value → Shared → Prop} (h1 : ∀ s, Fin s → Q (.bool true) s) (h2 : ∀ s, Early s → Q (.bool false) s)
    {n : Nat} {s : Shared} (hb : AllBare s.gens) (hg : s.heap.IsGen a g) (hl : s.heap.NoLimit) (go : ∃ gs, s.gens[g]? = some gs ∧ gs.Goes (model P w) A.in1.in1 (RX Fin) (YX false a g Early) n (.send .none) (s.setGen g .running)) :
    wpAny (model P w) A (call (.builtin "all") [.ref a]) Q E s := by
  refine call_function_tree F.kind_all F.plain_all F.entry_all (F.args_all1 _) ?_
  show wpAny _ A.in1 (oneArg "all" _ >>= _) _ _ s
  refine wpAny_bind (m := oneArg "all" _) (wpAny_pure (wpAny_bind (wpAny_pyIter_gen hg ?_)))
  exact wpAny_pure ⟨plainId_quiet F.plain_all_loop _, loop_all (A := A) rfl hh hd hE h1 h2 n s hb hg hl go⟩
theorem call_any (hh : A.handled = none) (hd : A.depth < recursionLimit) (hE : Ended Fin Early) {Q : Value → Shared → Prop} {E : Value → Shared → Prop} (h1 : ∀ s, Fin s → Q (.bool false) s) (h2 : ∀ s, Early s → Q (.bool true) s)
    {n : Nat} {s : Shared} (hb : AllBare s.gens) (hg : s.heap.IsGen a g) (hl : s.heap.NoLimit) (go : ∃ gs, s.gens[g]? = some gs ∧ gs.Goes (model P w) A.in1.in1 (RX Fin) (YX true a g Early) n (.send .none) (s.setGen g .running)) :
    wpAny (model P w) A (call (.builtin "any") [.ref a]) Q E s := by
  refine call_function_tree F.kind_any F.plain_any F.entry_any (F.args_any1 _) ?_
  show wpAny _ A.in1 (oneArg "any" _ >>= _) _ _ s
  refine wpAny_bind (m := oneArg "any" _) (wpAny_pure (wpAny_bind (wpAny_pyIter_gen hg ?_)))
  exact wpAny_pure ⟨plainId_quiet F.plain_any_loop _, loop_any (A := A) rfl hh hd hE h1 h2 n s hb hg hl go⟩
end
end GX
end
section
set_option maxHeartbeats 4000000
/-! DG1: the frame of a generator expression as a context. -/
namespace GX
open PySem PySem.Spec PyProof.Rows L2 GenW

def gcx (X : Cx) (scope : Scope) (C : Addr) (code : Value) (A' : Around) (s4 : Shared) (H4 : Hp) (ex : List Addr) : Cx where
  prog := X.prog
  w := X.w
  K := X.K
  mg := X.mg
  base := X.base
  A := A'
  N := X.N
  s_0 := s4
  H_0 := H4
  env := genEnv scope (cloFrom X.env.cells scope.names []) C code builtinsNs X.env
  outer := X.stack
  stack := genEnv scope (cloFrom X.env.cells scope.names []) C code builtinsNs X.env :: X.stack
  ex := ex
  fn := fun _ => false
  calm := true
  pn := []
  xe := fun _ _ => False
structure GScp (X : Cx) (scope : Scope) : Prop where
  kind : scope.kind = .function
  co : scope.isCoroutine = false
  cell : ∀ y ∈ scope.names, y.2 ≠ .cell
  dot : scope.names.lookup (".0" : Str) = some NameKind.local
  free : ∀ y ∈ scope.names, y.2 = .free → X.env.scope.names.lookup y.1 = some .cell ∨ X.env.scope.names.lookup y.1 = some .free
section
variable {X : Cx} {pins : List (Addr × Obj)} {σ σ' : L2.St} {H : Hp} {s s5 : Shared} {scope : Scope}
theorem GScp.has (G : GScp X scope) (ok : X.Ok) : ∀ y ∈ scope.names, y.2 = .free → ∃ c, X.env.cells.lookup y.1 = some c := fun y hy e => ok.has _ (G.free y hy e)
theorem GScp.clo (G : GScp X scope) (ok : X.Ok) {x : Str} {c : Addr} (h : (cloFrom X.env.cells scope.names []).lookup x = some c) : (x, .free) ∈ scope.names ∧ X.env.cells.lookup x = some c := by
  rcases cloFrom_mem (PySem.mem_of_lookup h) with z | ⟨z1, z2⟩
  · cases z
  · obtain ⟨c', e⟩ := G.has ok _ z1 rfl
    rw [e] at z2
    exact ⟨z1, by rw [e, z2]; rfl⟩
theorem GScp.get (G : GScp X scope) (ok : X.Ok) {x : Str} (h : (x, .free) ∈ scope.names) : ∃ c, (cloFrom X.env.cells scope.names []).lookup x = some c ∧ X.env.cells.lookup x = some c := by
  obtain ⟨c, e⟩ := mem_lookup (cloFrom_has (cells := X.env.cells) (acc := []) h)
  exact ⟨c, e, (G.clo ok e).2⟩
theorem inv_gen (I : Inv X pins σ H s) (G : GScp X scope) (hl : σ'.length = X.N.length) (hσ : ∀ (i : Nat) (x : Str) (v : V), X.N[i]? = some x → σ'[i]? = some (some v) → σ[i]? = some (some v) ∧ scope.names.lookup x ≠ some .local)
    {A' : Around} {code : Value} (hA : A'.handled = none) (hf : A'.frames = some (genEnv scope (cloFrom X.env.cells scope.names []) s.heap.objs.size code builtinsNs X.env :: X.stack)) {ex : List Addr}
    (hex : ∀ b ∈ ex, FpOk X pins H b ∧ b < s.heap.objs.size) (hos : s5.os = s.os) (hb : AllBare s5.gens) (hk : ∀ b o, s.heap.get? b = some o → s5.heap.get? b = some o) {m : Str → Option Value} (hn : s5.heap.Ns s.heap.objs.size m)
    {pins' : List (Addr × Obj)} (hp : ∀ p ∈ pins', s5.heap.get? p.1 = some p.2 ∧ s.heap.objs.size < p.1 ∧ ∀ v, p.2.data ≠ .cell v) :
    Inv (gcx X scope s.heap.objs.size code A' s H ex) pins' σ' H s5 where
  ok := {
    mod := I.ok.mod
    kind := G.kind
    glob := I.ok.glob
    blt := rfl
    above := Nat.le_refl _
    inj := fun x y c h1 h2 => I.ok.inj x y c (G.clo I.ok h1).2 (G.clo I.ok h2).2
    has := fun x h => by
      rcases h with h | h
      · exact absurd rfl (G.cell _ (PySem.mem_of_lookup h))
      · obtain ⟨c, e, _⟩ := G.get I.ok (PySem.mem_of_lookup h)
        exact ⟨c, e⟩
    cab := fun x c h _ => by cases h
    hd := fun _ => hA
    frames := hf
    stk := .inr ⟨rfl, rfl⟩
    exf := fun b hb => by
      obtain ⟨q, lt⟩ := hex b hb
      refine ⟨fun z => ?_, fun x c e => q.2.2.2.2.1 x c (G.clo I.ok e).2⟩
      have z : b = s.heap.objs.size := z
      rw [z] at lt
      exact Nat.lt_irrefl _ lt
    bs := I.bs
    bsz := Nat.le_trans I.ok.bsz I.sz
    noex := fun b o e hb => by
      obtain ⟨q, lt⟩ := hex b hb
      rcases q.2.2.2.1 with z | z
      · exact I.ok.noex b o e z
      · exact absurd (Nat.lt_of_lt_of_le (Heap.lt_size e) (Nat.le_trans I.ok.bsz z)) (Nat.lt_irrefl _)
    exfs := fun b hb hm => by
      obtain ⟨q, lt⟩ := hex b hb
      rcases List.mem_cons.mp (I.stkSub b hm) with z | z
      · exact q.2.1 z
      · exact q.2.2.1 z
    funs := I.stack
    frf := I.stkFree }
  os := hos
  bare := hb
  base := Un.kept hk
  loc := ⟨m, hn, fun i x v h1 h2 hv => by
    obtain ⟨h3, h4⟩ := hσ i x v h1 h2
    rcases hv with hv | hv | hv
    · exact absurd hv h4
    · exact absurd rfl (G.cell _ (PySem.mem_of_lookup hv))
    · have hm := PySem.mem_of_lookup hv
      have hf := G.free _ hm rfl
      obtain ⟨c, e1, e2⟩ := G.get I.ok hm
      obtain ⟨m0, hm0, look⟩ := I.loc
      obtain ⟨u, ru, lk⟩ := look i x v h1 h3 (.inr hf)
      refine ⟨u, ru, .inr ⟨.inr hv, c, e1, ?_⟩⟩
      rcases lk with ⟨k, _⟩ | ⟨_, c', e3, ic⟩
      · have k : X.env.scope.names.lookup x = some .local := k
        rcases hf with z | z <;> rw [z] at k <;> cases k
      · rw [e2] at e3; cases e3
        exact ic.keeps hk⟩
  cell := fun x c e => by
    obtain ⟨v, q⟩ := I.cell x c (G.clo I.ok e).2
    exact ⟨v, q.keeps hk⟩
  free := I.hok.fresh (Nat.le_refl _)
  freeC := fun x c e => I.freeC x c (G.clo I.ok e).2
  pin := fun p hq => by
    obtain ⟨a1, a2, a3⟩ := hp p (show p ∈ [] ++ pins' from hq)
    refine ⟨a1, I.hok.fresh (Nat.le_of_lt a2), Nat.ne_of_gt a2, fun hm => ?_, a3⟩
    rcases List.mem_cons.mp (I.stkSub _ hm) with z | z
    · rw [z] at a2; exact absurd (Nat.lt_trans a2 I.lt) (Nat.lt_irrefl _)
    · exact I.nofs (Nat.le_of_lt a2) z
  hok := I.hok.kept hk
  len := hl
end
end GX
end
section
set_option maxHeartbeats 4000000
/-! DG2: the turns of a generator expression. -/
namespace GX
open PySem PySem.Spec PyProof.Rows L2 GenW

/-- y's truth is b -/
def TrH (y : V) (b : Bool) : Prop := y = .bl b ∨ ∃ n, y = .int n ∧ b = (n != 0)
theorem TrH.v {y : V} {v : Value} {b : Bool} (h : TrH y b) (r : RelV y v) : TrV v b := by
  rcases h with rfl | ⟨n, rfl, rfl⟩
  · exact .inl r
  · obtain ⟨t, e⟩ := r
    exact .inr ⟨n, t, e, rfl⟩
section
variable {X : Cx} {pins : List (Addr × Obj)} {σ : L2.St} {H : Hp} {s : Shared}
theorem Inv.woke {s' : Shared} (I : Inv X pins σ H s) (w : Woke s s') : Inv X pins σ H s' :=
  I.call' (ch := []) w.os (Un.kept w.keep) (I.hok.kept w.keep) w.bare fun b z => (nomatch z)
end
def FinX (X : Cx) (pins : List (Addr × Obj)) (F : Hp → Prop) (s : Shared) : Prop := ∃ σ H, Inv X pins σ H s ∧ F H
theorem seg_turns {X : Cx} {A : Around} {elt tg iter : Expr} {scope : Scope} {pos : Pos} {a : Addr} {g : Nat} {stop : Bool} {pins : List (Addr × Obj)} {J : It} {fp : List Addr} {it : Addr} {tn : Nat → Heap → Prop} {tgt : TG} {te : TE} {W : Nat → L2.St → Hp → Prop} {n₀ : Nat} {FinH EarlyH : Hp → Prop}
    (hov : A.over (.compLoop (.GeneratorExp elt [⟨tg, iter, [], 0⟩] scope pos) 0 (.ref it) .none X.env) [] = X.A) (hcalm : X.calm = true) (hco : X.env.scope.isCoroutine = false) (hxe : X.xe = fun _ _ => False)
    (T : Turn X.prog X.w X.K tg J fp it tn) (hg : PG X tg tgt) (he : PE X elt te) (hgen : ∀ {σ H s}, Inv X pins σ H s → s.heap.IsGen a g)
    (hstop : ∀ σ H, W n₀ σ H → J.stop n₀ H ∧ FinH H)
    (hgo : ∀ i σ H, i < n₀ → W i σ H → J.go i H ∧ ∀ x H1, J.yld i H x H1 → tgt x σ H1 fun σ1 H2 => te σ1 H2 fun y H3 => ∃ b, TrH y b ∧ (b = stop → EarlyH H3) ∧ (b ≠ stop → W (i + 1) σ1 H3)) :
    ∀ (r i : Nat) (s₀ s : Shared) (σ : L2.St) (H : Hp), i + r = n₀ → Inv X pins σ H s → (∀ b ∈ fp, FpOk X pins H b) → tn i s.heap → W i σ H →
      Seg (model X.prog X.w) A (RX (FinX X pins FinH)) (YX stop a g (FinX X pins EarlyH)) r s₀ (.compLoop (.GeneratorExp elt [⟨tg, iter, [], 0⟩] scope pos) 0 (.ref it) .none X.env)
        ((model X.prog X.w).den (.compLoop (.GeneratorExp elt [⟨tg, iter, [], 0⟩] scope pos) 0 (.ref it) .none X.env)) [] s := by
  have noX : ∀ {α : Type} {m : Sem α} {Q : α → Shared → Prop} {E : Value → Shared → Prop} {s : Shared}, wpAny (model X.prog X.w) X.A m Q X.xe s → wpAny (model X.prog X.w) X.A m Q E s := fun h =>
    wpAny_mono h (fun _ _ q => q) fun e s' q => by rw [hxe] at q; exact q.elim
  intro r
  induction r with
  | zero =>
    intro i s₀ s σ H hi I hfp ht hW
    have e : i = n₀ := by omega
    subst e
    obtain ⟨j1, j2⟩ := hstop σ H hW
    show Seg _ A _ _ _ s₀ _ ((compTurn (.GeneratorExp elt [⟨tg, iter, [], 0⟩] scope pos) 0 (.ref it) .none X.env).onRaise (leaving X.env)) [] s
    rw [compTurn_gen, Sem.onRaise_eq_wrap]
    refine seg_bind_wrap (wpAny_standAt ?_)
    refine seg_bind_wrap ?_
    rw [hov]
    refine wpAny_mono (T.done X rfl rfl rfl hcalm i pins s σ H (fun _ _ => False) I hfp ht j1) (fun o s1 h1 => ?_) fun _ _ z => z.elim
    obtain ⟨rfl, I1⟩ := h1
    exact seg_end (.ok .next) (.inl ⟨.inr rfl, σ, H, I1, j2⟩)
  | succ r ih =>
    intro i s₀ s σ H hi I hfp ht hW
    obtain ⟨j1, j2⟩ := hgo i σ H (by omega) hW
    show Seg _ A _ _ _ s₀ _ ((compTurn (.GeneratorExp elt [⟨tg, iter, [], 0⟩] scope pos) 0 (.ref it) .none X.env).onRaise (leaving X.env)) [] s
    rw [compTurn_gen, Sem.onRaise_eq_wrap]
    refine seg_bind_wrap (wpAny_standAt ?_)
    refine seg_bind_wrap ?_
    rw [hov]
    refine wpAny_mono (T.item X rfl rfl rfl hcalm i pins s σ H (fun _ _ => False) I hfp ht j1) (fun o s1 h1 => ?_) fun _ _ z => z.elim
    obtain ⟨u, rfl, h1⟩ := h1
    refine seg_bind_wrap ?_
    rw [hov]
    refine wpAny_mono h1 (fun _ s2 h2 => ?_) fun _ _ z => z.elim
    obtain ⟨x, H1, I1, rx, jy, ht1, hn1⟩ := h2
    have hfp1 : ∀ b ∈ fp, FpOk X pins H1 b := fun b hb => ⟨hn1 b hb, (hfp b hb).2⟩
    have I1p := I1.pinned hfp1 (T.obj (i + 1) s2.heap ht1)
    refine seg_bind_wrap ?_
    rw [hov]
    refine wpAny_mono (noX (E := fun _ _ => False) (hg.run _ s2 σ H1 x u _ I1p rx (j2 x H1 jy))) (fun _ s3 h3 => ?_) fun _ _ z => z.elim
    obtain ⟨σ1, H2, I2, q2⟩ := h3
    refine seg_bind_wrap (wpAny_pure ?_)
    rw [if_pos rfl]
    have hy : ∀ v, yieldOut X.env v = yieldValue v := fun v => by simp only [yieldOut, hco, Bool.false_eq_true, if_false]
    simp only [hy]
    rw [Sem.bind_eq_wrap', Sem.bind_eq_wrap', Sem.wrap_wrap, Sem.wrap_wrap]
    refine seg_wrap ?_
    rw [hov]
    refine wpAny_mono (noX (E := fun _ _ => False) (he.run _ s3 σ1 H2 _ I2 q2)) (fun v s4 h4 => ?_) fun _ _ z => z.elim
    obtain ⟨y, H3, I3, ry, b, tb, e1, e2⟩ := h4
    have I3' : L2.Inv X pins σ1 H3 s4 := I3.unpinned
    have ht4 : tn (i + 1) s4.heap := T.keep _ _ _ ht1 fun b hb o e => (I3.pin (b, o) (List.mem_append_right _ (List.mem_append_right _ (mem_pinsAt hb e)))).1
    have hfp3 : ∀ b ∈ fp, FpOk X pins H3 b := fun b hb => by
      obtain ⟨o, e, _⟩ := T.obj (i + 1) s2.heap ht1 b hb
      exact ⟨(I3.pin (b, o) (List.mem_append_right _ (List.mem_append_right _ (mem_pinsAt hb e)))).2.1, (hfp b hb).2⟩
    refine seg_at (seg_yield rfl rfl rfl ⟨I3'.bare, I3'.nolimit, hgen I3', b, tb.v ry, fun z => ⟨σ1, H3, I3', e1 z⟩, fun z s5 w => ?_⟩)
    exact seg_again rfl (ih (i + 1) s5 s5 σ1 H3 (by omega) (Inv.woke I3' w) hfp3 (T.keep _ _ _ ht4 fun b _ o e => w.keep b o e) (e2 z))
end GX
end
section
set_option maxHeartbeats 4000000
/-! DG3: all(..), any(..) of a generator expression. -/
namespace GX
open PySem PySem.Spec PyProof.Rows L2 GenW GxR

abbrev lpC (elt tg iter : Expr) (scope : Scope) (pos : Pos) (it : Addr) (env : Env) : Code := .compLoop (.GeneratorExp elt [⟨tg, iter, [], 0⟩] scope pos) 0 (.ref it) .none env
theorem seg_start {P : Program} {w : World} {A : Around} {elt tg iter : Expr} {scope : Scope} {pos : Pos} {it : Addr} {env : Env} {R : GenEnd} {Y : Protocol} {n : Nat} {s₀ s : Shared}
    (hself : ∀ (A : Around) (Q : Value → Shared → Prop) (E : Value → Shared → Prop), Q (.ref it) s → wpAny (model P w) A (pyIter (.ref it)) Q E s)
    (loop : Seg (model P w) A R Y n s₀ (lpC elt tg iter scope pos it env) ((model P w).den (lpC elt tg iter scope pos it env)) [] s) :
    Seg (model P w) A R Y n s₀ (.compStart (.GeneratorExp elt [⟨tg, iter, [], 0⟩] scope pos) 0 (.ref it) .none env)
      ((model P w).den (.compStart (.GeneratorExp elt [⟨tg, iter, [], 0⟩] scope pos) 0 (.ref it) .none env)) [] s := by
  show Seg _ A _ _ _ s₀ _ ((compStart (.GeneratorExp elt [⟨tg, iter, [], 0⟩] scope pos) 0 (.ref it) .none env).onRaise (leaving env)) [] s
  unfold compStart
  rw [Sem.onRaise_eq_wrap]
  show Seg _ A _ _ _ s₀ _ ((ask >>= _).wrap _ _ _ _) [] s
  refine seg_bind_wrap (wpAny_askSetting ?_)
  split
  · exact seg_again rfl loop
  · refine seg_bind_wrap (wpAny_rule ?_)
    show Seg _ A _ _ _ s₀ _ ((standAt iter.pos >>= _).wrap _ _ _ _) [] s
    exact seg_bind_wrap (wpAny_standAt (seg_bind_wrap (hself _ _ _ (seg_again rfl loop))))

/-- the around of a turn -/
abbrev turnA (A : Around) (elt tg iter : Expr) (scope : Scope) (pos : Pos) (it : Addr) (env : Env) : Around := A.in1.in1.over (lpC elt tg iter scope pos it env) []
theorem turn_frames {A : Around} {l : List Env} {elt tg iter : Expr} {scope : Scope} {pos : Pos} {it : Addr} {env : Env} (h : A.frames = some l) : (turnA A elt tg iter scope pos it env).frames = some (env :: l) := by
  show pushEnvs [env] (pushEnvs [] A.frames) = _
  rw [h]; rfl
theorem turn_room {k : Nat} {A : Around} {elt tg iter : Expr} {scope : Scope} {pos : Pos} {it : Addr} {env : Env} (h : Room (k + 1) A) : Room k (turnA A elt tg iter scope pos it env) where
  hd := h.hd
  dp := by
    have := h.dp
    show A.depth + 0 + 1 + 3 * k + 5 < _
    omega
  un := by
    have := h.un
    show A.units + 1 + 1 + 0 + 3 + 16 * k + 200 < _
    omega

/-- what all(..), any(..) of a generator expression ask: stop = the truth that ends it early -/
def tGen (stop : Bool) (P : Addr) (wi : TI) (wp : L2.St → L2.St) (tgt : TG) (te : TE) : TE := fun σ H Q => wi σ H fun J H1 => TabG H1 P ∧ ∀ H2, Tabbed P H1 H2 → ∃ (W : Nat → L2.St → Hp → Prop) (n₀ : Nat), W 0 (wp σ) H2 ∧
  (∀ σ H, W n₀ σ H → J.stop n₀ H ∧ Q (.bl (!stop)) H) ∧ ∀ i σ H, i < n₀ → W i σ H → J.go i H ∧ ∀ x H1, J.yld i H x H1 → tgt x σ H1 fun σ1 H2 => te σ1 H2 fun y H3 => ∃ b, TrH y b ∧ (b = stop → Q (.bl stop) H3) ∧ (b ≠ stop → W (i + 1) σ1 H3)
section
variable {X : Cx} {pins : List (Addr × Obj)} {σ : L2.St} {H : Hp} {s : Shared}
/-- the generator object, not begun: its first turn may be taken -/
def Made (X : Cx) (pins : List (Addr × Obj)) (σ : L2.St) (stop : Bool) (Q : VK) (a : Addr) (s5 : Shared) : Prop :=
  ∃ (g n : Nat) (Fin Early : Shared → Prop), AllBare s5.gens ∧ s5.heap.IsGen a g ∧ s5.heap.NoLimit ∧ Ended Fin Early ∧ (∀ s, Fin s → EP X pins σ Q (.bool (!stop)) s) ∧ (∀ s, Early s → EP X pins σ Q (.bool stop) s) ∧
    ∃ gs, s5.gens[g]? = some gs ∧ gs.Goes (model X.prog X.w) X.A.in1.in1 (RX Fin) (YX stop a g Early) n (.send .none) (s5.setGen g .running)
/-- behind the last turn: the def's own frame again -/
theorem ep_back {C : Addr} {code : Value} {A' : Around} {scope : Scope} {ex : List Addr} {pins' : List (Addr × Obj)} {σ' : L2.St} {H' : Hp} {s' : Shared} {Q : VK} {v : V} {u : Value} (I : Inv X pins σ H s) (hex : ∀ b ∈ ex, FpOk X pins H b) (I' : Inv (gcx X scope C code A' s H ex) pins' σ' H' s')
    (r : RelV v u) (q : Q v H') : EP X pins σ Q u s' :=
  ⟨v, H', I.call' (ch := ex) I'.os I'.base I'.hok I'.bare fun b hb => ⟨(hex b hb).2.2.2.1, (hex b hb).2.1, (hex b hb).2.2.2.2.1, (hex b hb).2.2.2.2.2⟩, r, q⟩
theorem gen_any {c P : Addr} {elt tg iter : Expr} {gpos : Pos} {scope : Scope} {wi : TI} {wp : L2.St → L2.St} {tgt : TG} {te : TE} {k : Nat} {stop : Bool} {Q : VK} {Q' : Value → Shared → Prop}
    (hr : Room (k + 1) X.A) (TB : TabB X.base X.mg c P) (hcode : X.env.code = .ref c) (G : GScp X scope) (hi : PI X tg iter wi)
    (hw1 : ∀ σ : L2.St, (wp σ).length = σ.length) (hw2 : ∀ (σ : L2.St) (i : Nat) (x : Str) (v : V), X.N[i]? = some x → (wp σ)[i]? = some (some v) → σ[i]? = some (some v) ∧ scope.names.lookup x ≠ some .local)
    (hg : ∀ C code A' s4 H4 ex, Room k A' → PG (gcx X scope C code A' s4 H4 ex) tg tgt) (he : ∀ C code A' s4 H4 ex, Room k A' → PE (gcx X scope C code A' s4 H4 ex) elt te)
    (hs : ∀ v, genFold iter X.env v = pure v) (I : Inv X pins σ H s) (h : tGen stop P wi wp tgt te σ H Q) (hQ : ∀ a s5, Made X pins σ stop Q a s5 → Q' (.ref a) s5) :
    wpAny (model X.prog X.w) X.A (eval (.GeneratorExp elt [⟨tg, iter, [], 0⟩] scope gpos) X.env) Q' X.xe s := by
  refine wpAny_GeneratorExp_make G.co (closure_ok (G.has I.ok)) G.cell G.dot G.kind (by have := hr.dp; omega) ?_ hs
  refine wpAny_mono (hi.run pins s σ H _ I h) (fun xv s1 h1 => wpAny_mono h1 (fun itv s2 h2 => ?_) fun _ _ e => e) fun _ _ e => e
  obtain ⟨it, fp, tn, J, H1, rfl, I1, T, ht, hfp, ⟨ps, hP, htr⟩, hW⟩ := h2
  refine ⟨I1.nolimit, ?_⟩
  have hPs : s2.heap.get? P = some { cls := .none, data := .fields ps } := I1.hok P _ hP
  have cd : PySem.W.CodeHd s2.heap c P := TB.code.keeps I1.bk
  have cont : ∀ (code : Value) (h3 : Heap) (tk : Nat) (more : Array Value), Heap.ExtBut P s2.heap h3 → h3.get? P = some { cls := .none, data := .fields (ps ++ more) } → TriplesOk (ps ++ more).toList →
      wpAny (model X.prog X.w) X.A (builtinsFor X.env.globals X.env.builtins) (fun bi s₄ =>
        ∀ h', h'.Ns s₄.heap.objs.size (fun y => if y = ".0" then some (Value.ref it) else none) → Heap.SameBut s₄.heap.objs.size (s₄.heap.push { cls := .type "frame", data := .dict #[] }) h' →
          Q' (.ref h'.objs.size) { s₄ with
            gens := s₄.gens.push (.fresh (.compStart (.GeneratorExp elt [⟨tg, iter, [], 0⟩] scope gpos) 0 (.ref it) .none (genEnv scope (cloFrom X.env.cells scope.names []) s₄.heap.objs.size code bi X.env))),
            toks := s₄.toks + 1 + 1 + 1,
            heap := h'.push { cls := .type "generator", data := .fields #[.int s₄.gens.size 0, .str "<genexpr>" (s₄.toks + 1), .str (X.env.qual ++ "<genexpr>") (s₄.toks + 1 + 1)] } }) X.xe { s2 with heap := h3, toks := tk } := by
    intro code h3 tk more hx hP3 ht3
    obtain ⟨bm, ob, e1, e2, e3, e4, e5, e6, e7, e8⟩ := TB.bm
    have J4 : Inv X pins σ (upd H1 P (.tbl (ps ++ more))) { s2 with heap := h3, toks := tk } := inv_tab (d' := s2.drawn) I1 hP (fun b o hb e => hx b o hb e) hP3 I1.bare
    refine wpAny_builtinsFor (m := X.mg) (by rw [I1.ok.glob]; exact (I1.mod.glob.keeps I1.bk).extBut hx TB.gP) e1 e2 (hx _ _ e4 (I1.bk _ _ e5)) e6 e7 e8 ?_
    intro h' hn' hs'
    obtain ⟨W, n₀, w0, wstop, wgo⟩ := hW (upd H1 P (.tbl (ps ++ more))) ⟨⟨_, upd_same, ht3⟩, fun b hb => upd_ne hb⟩
    have hsz : h'.objs.size = h3.objs.size + 1 := by rw [hs'.1]; exact Heap.size_push ..
    have hk' : ∀ b o, h3.get? b = some o → h'.get? b = some o := fun b o e => hs'.extBut b o (Nat.ne_of_lt (Heap.lt_size e)) (Heap.get?_push_of_some _ e)
    have nP : ∀ b ∈ fp, b ≠ P := fun b hb z => by have := (hfp b hb).1; rw [z, hP] at this; cases this
    have hex : ∀ b ∈ fp, FpOk X pins (upd H1 P (.tbl (ps ++ more))) b := fun b hb => ⟨by rw [upd_ne (nP b hb)]; exact (hfp b hb).1, (hfp b hb).2⟩
    have hlt : ∀ b ∈ fp, b < h3.objs.size := fun b hb => by
      obtain ⟨o, e, _⟩ := T.obj 0 _ ht b hb
      exact Heap.lt_size (hx b o (nP b hb) e)
    generalize hgo : ({ cls := .type "generator", data := .fields #[.int s2.gens.size 0, .str "<genexpr>" (tk + 1), .str (X.env.qual ++ "<genexpr>") (tk + 1 + 1)] } : Obj) = go
    have hgen : ∀ h : Heap, h.get? h'.objs.size = some go → h.IsGen h'.objs.size s2.gens.size := fun h e => ⟨go, _, _, e, by rw [← hgo], by rw [← hgo], by rw [← hgo]⟩
    have hpush : (h'.push go).get? h'.objs.size = some go := by rw [← hgo]; exact Heap.get?_push_size _ rfl
    have hk5 : ∀ b o, h3.get? b = some o → (h'.push go).get? b = some o := fun b o e => Heap.get?_push_of_some _ (hk' b o e)
    have hgd : ∀ v, go.data ≠ .cell v := fun v z => by rw [← hgo] at z; cases z
    generalize hA' : turnA X.A elt tg iter scope gpos it (genEnv scope (cloFrom X.env.cells scope.names []) h3.objs.size code builtinsNs X.env) = A'
    have hrA : Room k A' := by rw [← hA']; exact turn_room hr
    have hfr : A'.frames = some (genEnv scope (cloFrom X.env.cells scope.names []) h3.objs.size code builtinsNs X.env :: X.stack) := by rw [← hA']; exact turn_frames I1.ok.frames
    have lim5 : (h'.push go).NoLimit := J4.nolimit.keeps hk5
    have ab5 : AllBare (s2.gens.push (.fresh (.compStart (.GeneratorExp elt [⟨tg, iter, [], 0⟩] scope gpos) 0 (.ref it) .none (genEnv scope (cloFrom X.env.cells scope.names []) h3.objs.size code builtinsNs X.env)))) := AllBare.push I1.bare rfl
    have ended : ∀ (F : Hp → Prop) (s : Shared), FinX (gcx X scope h3.objs.size code A' { s2 with heap := h3, toks := tk } (upd H1 P (.tbl (ps ++ more))) fp) [(h'.objs.size, go)] F s → ∀ s', Woke s s' → FinX (gcx X scope h3.objs.size code A' { s2 with heap := h3, toks := tk } (upd H1 P (.tbl (ps ++ more))) fp) [(h'.objs.size, go)] F s' :=
      fun F s ⟨σ, H, I, q⟩ s' w => ⟨σ, H, Inv.woke I w, q⟩
    refine hQ _ _ ⟨s2.gens.size, n₀, FinX (gcx X scope h3.objs.size code A' { s2 with heap := h3, toks := tk } (upd H1 P (.tbl (ps ++ more))) fp) [(h'.objs.size, go)] (fun H => Q (.bl (!stop)) H),
      FinX (gcx X scope h3.objs.size code A' { s2 with heap := h3, toks := tk } (upd H1 P (.tbl (ps ++ more))) fp) [(h'.objs.size, go)] (fun H => Q (.bl stop) H), ab5, hgen _ hpush, lim5, ⟨fun s g h'' hF hk => ?_, fun s g gs hF hb => ?_⟩,
      fun s ⟨σ', H', I', q⟩ => ep_back (v := .bl (!stop)) J4 hex I' rfl q, fun s ⟨σ', H', I', q⟩ => ep_back (v := .bl stop) J4 hex I' rfl q, _, Array.getElem?_push_size .., rfl, ?_⟩
    · obtain ⟨σ', H', I', q⟩ := id hF
      exact ended _ _ hF _ ⟨rfl, allBare_setGen I'.bare rfl, hk⟩
    · obtain ⟨σ', H', I', q⟩ := id hF
      exact ended _ _ hF _ ⟨rfl, allBare_setGen I'.bare hb, fun _ _ e => e⟩
    · refine seg_start (fun A'' Q'' E'' q => T.self A'' 0 _ Q'' E'' (T.keep _ _ _ ht fun b hb o e => hk5 b o (hx b o (nP b hb) e)) q) ?_
      refine seg_turns (X := gcx X scope h3.objs.size code A' { s2 with heap := h3, toks := tk } (upd H1 P (.tbl (ps ++ more))) fp) (A := X.A.in1.in1) (pins := [(h'.objs.size, go)]) (σ := wp σ) (H := upd H1 P (.tbl (ps ++ more))) (W := W) (n₀ := n₀) hA' rfl G.co rfl T (hg _ _ _ _ _ _ hrA) (he _ _ _ _ _ _ hrA)
        (fun I => hgen _ (I.pin (h'.objs.size, go) (List.mem_append_right _ (List.mem_singleton.mpr rfl))).1) wstop wgo n₀ 0 _ _ (Nat.zero_add _) ?_ (fun b hb => ?_) (T.keep _ _ _ ht fun b hb o e => hk5 b o (hx b o (nP b hb) e)) w0
      · refine inv_gen J4 G ((hw1 σ).trans I1.len) (hw2 σ) hrA.hd hfr (fun b hb => ⟨hex b hb, hlt b hb⟩) ?_ ?_ hk5 (hn'.push _) fun p hp => ?_
        · rfl
        · exact allBare_setGen ab5 rfl
        · rw [List.mem_singleton.mp hp]
          exact ⟨hpush, by show h3.objs.size < h'.objs.size; rw [hsz]; exact Nat.lt_succ_self _, hgd⟩
      · obtain ⟨f1, f2, f3, f4, f5, f6⟩ := hex b hb
        have hl := hlt b hb
        refine ⟨f1, Nat.ne_of_lt hl, fun hm => ?_, .inl hb, fun x c e => f5 x c (G.clo I.ok e).2, fun p hp => ?_⟩
        · rcases List.mem_cons.mp (I1.stkSub b hm) with z | z
          · exact f2 z
          · exact f3 z
        · rw [List.mem_singleton.mp (show p ∈ [(h'.objs.size, go)] from hp)]
          exact Nat.ne_of_gt (Nat.lt_of_lt_of_le hl (by rw [hsz]; exact Nat.le_succ _))
  cases hf : codeAmong gpos ps.toList with
  | none =>
    refine wpAny_genexprCodeX hcode (cd.code hPs htr) (cd.tab hPs) hf fun c' h' tk hx hge hlt hco' _ htab' _ => ?_
    obtain ⟨o1, vs, f1, tf, fl, tg', inF, tx, tt, op, _, _, _, _, _, _, _, _, _, htr', _⟩ := hco'
    exact cont _ h' tk _ hx htab'.2 htr'
  | some cv =>
    refine wpAny_genexprCode_hit hcode (cd.code hPs htr) hf ?_
    exact cont cv s2.heap s2.toks #[] (Heap.ExtBut.refl _ _) (by rw [Array.append_empty]; exact hPs) (by rw [Array.append_empty]; exact htr)

theorem pe_allG {c P : Addr} {elt tg iter : Expr} {p pos gpos : Pos} {scope : Scope} {wi : TI} {wp : L2.St → L2.St} {tgt : TG} {te : TE} {k : Nat}
    (hr : Room (k + 1) X.A) (hgl : Gl X "all") (hm : X.mg "all" = none) (hb : bootBuiltins "all" = some (.builtin "all")) (TB : TabB X.base X.mg c P) (hcode : X.env.code = .ref c) (G : GScp X scope) (hi : PI X tg iter wi)
    (hw1 : ∀ σ : L2.St, (wp σ).length = σ.length) (hw2 : ∀ (σ : L2.St) (i : Nat) (x : Str) (v : V), X.N[i]? = some x → (wp σ)[i]? = some (some v) → σ[i]? = some (some v) ∧ scope.names.lookup x ≠ some .local)
    (hg : ∀ C code A' s4 H4 ex, Room k A' → PG (gcx X scope C code A' s4 H4 ex) tg tgt) (he' : ∀ C code A' s4 H4 ex, Room k A' → PE (gcx X scope C code A' s4 H4 ex) elt te)
    (hs : ∀ v, genFold iter X.env v = pure v)
    (he : starEach [.GeneratorExp elt [⟨tg, iter, [], 0⟩] scope gpos] X.env = (false, eval (.GeneratorExp elt [⟨tg, iter, [], 0⟩] scope gpos) X.env) :: starEach [] X.env := by rfl) :
    PE X (.Call (.Name "all" p) [.GeneratorExp elt [⟨tg, iter, [], 0⟩] scope gpos] [] pos) (tGen false P wi wp tgt te) := by
  refine ⟨fun pins s σ H Q I h => ?_⟩
  refine wpAny_Call_Name_kw (ld_blt I hgl hm hb ?_)
  refine PyProof.Rows.callWith_builtin1 ?_ he (by rfl)
  rw [he]
  refine Calls.spliced_cons (gen_any (stop := false) hr TB hcode G hi hw1 hw2 hg he' hs I h fun a s5 hM => ?_)
  refine Calls.spliced_nil ?_
  obtain ⟨g, n, F, E, m1, m2, m3, m4, m5, m6, m7⟩ := hM
  exact call_all hr.hd (by have := hr.dp; omega) m4 m5 m6 m1 m2 m3 m7

theorem pe_anyG {c P : Addr} {elt tg iter : Expr} {p pos gpos : Pos} {scope : Scope} {wi : TI} {wp : L2.St → L2.St} {tgt : TG} {te : TE} {k : Nat}
    (hr : Room (k + 1) X.A) (hgl : Gl X "any") (hm : X.mg "any" = none) (hb : bootBuiltins "any" = some (.builtin "any")) (TB : TabB X.base X.mg c P) (hcode : X.env.code = .ref c) (G : GScp X scope) (hi : PI X tg iter wi)
    (hw1 : ∀ σ : L2.St, (wp σ).length = σ.length) (hw2 : ∀ (σ : L2.St) (i : Nat) (x : Str) (v : V), X.N[i]? = some x → (wp σ)[i]? = some (some v) → σ[i]? = some (some v) ∧ scope.names.lookup x ≠ some .local)
    (hg : ∀ C code A' s4 H4 ex, Room k A' → PG (gcx X scope C code A' s4 H4 ex) tg tgt) (he' : ∀ C code A' s4 H4 ex, Room k A' → PE (gcx X scope C code A' s4 H4 ex) elt te)
    (hs : ∀ v, genFold iter X.env v = pure v)
    (he : starEach [.GeneratorExp elt [⟨tg, iter, [], 0⟩] scope gpos] X.env = (false, eval (.GeneratorExp elt [⟨tg, iter, [], 0⟩] scope gpos) X.env) :: starEach [] X.env := by rfl) :
    PE X (.Call (.Name "any" p) [.GeneratorExp elt [⟨tg, iter, [], 0⟩] scope gpos] [] pos) (tGen true P wi wp tgt te) := by
  refine ⟨fun pins s σ H Q I h => ?_⟩
  refine wpAny_Call_Name_kw (ld_blt I hgl hm hb ?_)
  refine PyProof.Rows.callWith_builtin1 ?_ he (by rfl)
  rw [he]
  refine Calls.spliced_cons (gen_any (stop := true) hr TB hcode G hi hw1 hw2 hg he' hs I h fun a s5 hM => ?_)
  refine Calls.spliced_nil ?_
  obtain ⟨g, n, F, E, m1, m2, m3, m4, m5, m6, m7⟩ := hM
  exact call_any hr.hd (by have := hr.dp; omega) m4 m5 m6 m1 m2 m3 m7
end
end GX
end
section
set_option maxHeartbeats 4000000
/-! DL11: all(..), any(..) of a generator expression over trees. -/
namespace DL
open PySem PySem.Spec PyProof.Rows L2

/-- an item's truth -/
def dTr : D → Option Bool
  | .bl b => some b
  | .int n => some (n != 0)
  | _ => none
/-- the turns: stop = the truth that ends them early -/
def dAG (stop : Bool) (g : DG) (te : DE) (inv : Mp → Prop) (Γ : Gm) : List D → Mp → DK → Prop
  | [], M, Q => inv M ∧ Q (.bl (!stop)) M
  | d :: ds, M, Q => inv M ∧ g d Γ M fun Γ1 M1 => te Γ1 M1 fun y M2 => match dTr y with
    | some b => if b = stop then Q (.bl stop) M2 else dAG stop g te inv Γ ds M2 Q
    | none => False
def dGen (stop : Bool) (ti : DI) (g : DG) (te : DE) (own : List Nat) : DE := fun Γ M Q => ti Γ M fun items inv M1 => dAG stop g te inv (wipeG Γ own) items M1 Q
theorem dTr_ok {K : PySem.W.Frag} {H : Hp} {v : V} {d : D} {b : Bool} (r : Rep K H v d) (h : dTr d = some b) : GX.TrH v b := by
  cases r <;> first | cases h | skip
  · exact .inl rfl
  · exact .inr ⟨_, rfl, rfl⟩
theorem rg_but {K : PySem.W.Frag} {H : Hp} {σ σ' : L2.St} {Γ : Gm} {own : List Nat} (h : RG K H (wipe σ own) Γ) (b : But own (wipe σ own) σ') : RG K H σ' Γ :=
  ⟨b.1.trans h.1, fun i d e => by
    obtain ⟨v, h1, h2⟩ := h.2 i d e
    have hi : i ∉ own := fun z => by
      have hl : i < σ.length := by
        have := (List.getElem?_eq_some_iff.mp h1).1
        rwa [wipe_length] at this
      rw [wipe_in z hl] at h1
      cases h1
    exact ⟨v, by rw [b.2 i hi]; exact h1, h2⟩⟩
theorem tabbed_step {K : PySem.W.Frag} {M : Mp} {H H' : Hp} {P : Addr} (m : RepM K H M) (hP : GxR.TabG H P) (t : GxR.Tabbed P H H') : Step M H M H' ∧ RepM K H' M := by
  obtain ⟨ps, e, _⟩ := hP
  have st : Step M H M H' := fun a o h n nt => ⟨by rw [t.2 a (fun z => by rw [z, e] at h; cases h; exact nt ps rfl)]; exact h, n⟩
  refine ⟨st, fun P' hP' => ?_, fun a o h => ?_⟩
  · by_cases z : P' = P
    · rw [z]; exact t.1
    · obtain ⟨qs, e2, h2⟩ := m.1 P' hP'
      exact ⟨qs, by rw [t.2 P' z]; exact e2, h2⟩
  · refine RepO.step m st (m.2 a o h) (t.2 a fun z => ?_)
    have r := m.2 a o h
    rw [z] at r
    cases o with
    | lst => obtain ⟨vs, h1, _⟩ := r; rw [e] at h1; cases h1
    | dct => obtain ⟨vs, h1, _⟩ := r; rw [e] at h1; cases h1
theorem se_gen {K : PySem.W.Frag} {P : Addr} {stop : Bool} {own : List Nat} {wi : TI} {tg : TG} {ste : TE} {ti : DI} {g : DG} {te : DE} (hP : TabOf K P) (hi : SI K wi ti) (hg : SG K own tg g) (he : SE K ste te) : SE K (GX.tGen stop P wi (fun σ => wipe σ own) tg ste) (dGen stop ti g te own) := fun σ H Γ M Qd Q hΓ hM ht hL =>
  hi σ H Γ M _ _ hΓ hM ht fun items inv M1 J H1 h s m gv => by
    refine ⟨m.1 P hP, fun H2 tb => ?_⟩
    obtain ⟨st2, m2⟩ := tabbed_step m (m.1 P hP) tb
    have hΓ1 := hΓ.step hM s
    refine ⟨fun i σ3 H3 => ∃ M3, i ≤ items.length ∧ Step M1 H1 M3 H3 ∧ RepM K H3 M3 ∧ But own (wipe σ own) σ3 ∧ dAG stop g te inv (wipeG Γ own) (items.drop i) M3 Qd, items.length, ⟨M1, Nat.zero_le _, st2, m2, ⟨rfl, fun _ _ => rfl⟩, by simpa using h⟩, ?_, ?_⟩
    · rintro σ3 H3 ⟨M3, _, s3, m3, b3, h3⟩
      rw [List.drop_length] at h3
      exact ⟨(gv M3 H3 (s3.kt m) m3 h3.1).2, hL _ M3 _ H3 h3.2 (s.trans s3) (.bl _) m3⟩
    · rintro i σ3 H3 hlt ⟨M3, _, s3, m3, b3, h3⟩
      have e : items.drop i = items[i] :: items.drop (i + 1) := List.drop_eq_getElem_cons hlt
      rw [e] at h3
      obtain ⟨v3, h3⟩ := h3
      obtain ⟨q1, q2⟩ := (gv M3 H3 (s3.kt m) m3 v3).1 i items[i] (by simp [hlt])
      refine ⟨q1, fun x H4 y => ?_⟩
      obtain ⟨r4, s4, m4⟩ := q2 x H4 y
      have g3 : RG K H3 σ3 (wipeG Γ own) := rg_but ((hΓ1.wipe own).step m s3) b3
      refine hg x _ σ3 H4 (wipeG Γ own) M3 _ _ r4 (g3.step m3 s4) m4 h3 fun Γ5 M5 σ5 H5 h5 s5 g5 m5 b5 => ?_
      refine he σ5 H5 Γ5 M5 _ _ g5 m5 h5 fun d M6 z H6 h6 s6 r6 m6 => ?_
      cases hd : dTr d with
      | none => rw [hd] at h6; exact h6.elim
      | some b =>
        rw [hd] at h6
        have st6 := (s4.trans s5).trans s6
        refine ⟨b, dTr_ok r6 hd, fun hb => ?_, fun hb => ?_⟩
        · dsimp only at h6
          rw [if_pos hb] at h6
          exact hL _ M6 _ H6 h6 ((s.trans s3).trans st6) (.bl _) m6
        · dsimp only at h6
          rw [if_neg hb] at h6
          exact ⟨M6, hlt, s3.trans st6, m6, b3.trans b5, h6⟩
section
variable {X : Cx} {K : PySem.W.Frag}
theorem own_wp {scope : Scope} {own : List Nat} (h : ∀ i x, X.N[i]? = some x → scope.names.lookup x = some .local → i ∈ own) (σ : L2.St) (i : Nat) (x : Str) (v : V) (h1 : X.N[i]? = some x) (h2 : (wipe σ own)[i]? = some (some v)) : σ[i]? = some (some v) ∧ scope.names.lookup x ≠ some .local := by
  have hi : i ∉ own := fun z => by
    have hl : i < σ.length := by
      have := (List.getElem?_eq_some_iff.mp h2).1
      rwa [wipe_length] at this
    rw [wipe_in z hl] at h2
    cases h2
  exact ⟨by rw [wipe_out hi] at h2; exact h2, fun z => hi (h i x h1 z)⟩
/-- the scopes fit: the generator expression's own names stand at own, the others are cells of the def -/
def genC (N : List Str) (sc scope : Scope) (own : List Nat) : Bool :=
  decide (scope.kind = .function) && decide (scope.isCoroutine = false) && decide (∀ y ∈ scope.names, y.2 ≠ .cell) && decide (scope.names.lookup (".0" : Str) = some NameKind.local) &&
  decide (∀ y ∈ scope.names, y.2 = .free → sc.names.lookup y.1 = some .cell ∨ sc.names.lookup y.1 = some .free) && ((List.range N.length).all fun i => match N[i]? with
    | some x => !(decide (scope.names.lookup x = some NameKind.local)) || decide (i ∈ own)
    | none => true)
theorem genC_ok {scope : Scope} {own : List Nat} (h : genC X.N X.env.scope scope own = true) : GX.GScp X scope ∧ ∀ i x, X.N[i]? = some x → scope.names.lookup x = some .local → i ∈ own := by
  unfold genC at h
  simp only [Bool.and_eq_true, decide_eq_true_eq, List.all_eq_true] at h
  obtain ⟨⟨⟨⟨⟨h1, h2⟩, h3⟩, h4⟩, h5⟩, h6⟩ := h
  refine ⟨⟨h1, h2, h3, h4, h5⟩, fun i x e hl => ?_⟩
  have := h6 i (List.mem_range.mpr (List.getElem?_eq_some_iff.mp e).1)
  rw [e] at this
  simp only [hl, decide_true, Bool.not_true, Bool.false_or, decide_eq_true_eq] at this
  exact this
theorem dgen_all {c P : Addr} {elt tg iter : Expr} {p pos gpos : Pos} {scope : Scope} {own : List Nat} {wi : TI} {ti : DI} {sg : TG} {g : DG} {ste : TE} {te : DE} {k : Nat}
    (hr : Room (k + 1) X.A) (hgl : Gl X "all") (hm : X.mg "all" = none) (TB : GxR.TabB X.base X.mg c P) (TO : TabOf K P) (hcode : X.env.code = .ref c) (ok : genC X.N X.env.scope scope own = true) (hi : PDI X K tg iter wi ti)
    (hg : ∀ C code A' s4 H4 ex, Room k A' → PDG (GX.gcx X scope C code A' s4 H4 ex) K own tg sg g) (he : ∀ C code A' s4 H4 ex, Room k A' → PD (GX.gcx X scope C code A' s4 H4 ex) K elt ste te)
    (hs : ∀ v, genFold iter X.env v = pure v := by intro _; rfl) (hst : starEach [.GeneratorExp elt [⟨tg, iter, [], 0⟩] scope gpos] X.env = (false, eval (.GeneratorExp elt [⟨tg, iter, [], 0⟩] scope gpos) X.env) :: starEach [] X.env := by rfl) :
    PD X K (.Call (.Name "all" p) [.GeneratorExp elt [⟨tg, iter, [], 0⟩] scope gpos] [] pos) (GX.tGen false P wi (fun σ => wipe σ own) sg ste) (dGen false ti g te own) := by
  have hK := hi.hK; subst hK
  obtain ⟨G, ho⟩ := genC_ok ok
  have hr0 : Room k X.A := hr.mono (Nat.le_succ k)
  exact ⟨rfl, GX.pe_allG hr hgl hm PyProof.Rows.boot_all TB hcode G hi.pe (fun σ => wipe_length σ own) (own_wp ho) (fun C code A' s4 H4 ex h => (hg C code A' s4 H4 ex h).pe) (fun C code A' s4 H4 ex h => (he C code A' s4 H4 ex h).pe) hs hst,
    se_gen TO hi.se (hg 0 .none X.A X.s_0 (fun _ => none) [] hr0).se (he 0 .none X.A X.s_0 (fun _ => none) [] hr0).se⟩
theorem dgen_any {c P : Addr} {elt tg iter : Expr} {p pos gpos : Pos} {scope : Scope} {own : List Nat} {wi : TI} {ti : DI} {sg : TG} {g : DG} {ste : TE} {te : DE} {k : Nat}
    (hr : Room (k + 1) X.A) (hgl : Gl X "any") (hm : X.mg "any" = none) (TB : GxR.TabB X.base X.mg c P) (TO : TabOf K P) (hcode : X.env.code = .ref c) (ok : genC X.N X.env.scope scope own = true) (hi : PDI X K tg iter wi ti)
    (hg : ∀ C code A' s4 H4 ex, Room k A' → PDG (GX.gcx X scope C code A' s4 H4 ex) K own tg sg g) (he : ∀ C code A' s4 H4 ex, Room k A' → PD (GX.gcx X scope C code A' s4 H4 ex) K elt ste te)
    (hs : ∀ v, genFold iter X.env v = pure v := by intro _; rfl) (hst : starEach [.GeneratorExp elt [⟨tg, iter, [], 0⟩] scope gpos] X.env = (false, eval (.GeneratorExp elt [⟨tg, iter, [], 0⟩] scope gpos) X.env) :: starEach [] X.env := by rfl) :
    PD X K (.Call (.Name "any" p) [.GeneratorExp elt [⟨tg, iter, [], 0⟩] scope gpos] [] pos) (GX.tGen true P wi (fun σ => wipe σ own) sg ste) (dGen true ti g te own) := by
  have hK := hi.hK; subst hK
  obtain ⟨G, ho⟩ := genC_ok ok
  have hr0 : Room k X.A := hr.mono (Nat.le_succ k)
  exact ⟨rfl, GX.pe_anyG hr hgl hm PyProof.Rows.boot_any TB hcode G hi.pe (fun σ => wipe_length σ own) (own_wp ho) (fun C code A' s4 H4 ex h => (hg C code A' s4 H4 ex h).pe) (fun C code A' s4 H4 ex h => (he C code A' s4 H4 ex h).pe) hs hst,
    se_gen TO hi.se (hg 0 .none X.A X.s_0 (fun _ => none) [] hr0).se (he 0 .none X.A X.s_0 (fun _ => none) [] hr0).se⟩
end
/-- the code object and the table of a def that holds generator expressions -/
def GenTab (K : PySem.W.Frag) (base : Heap) (mg : Str → Option Value) (fd : FuncData) : Prop := ∃ c P, fd.code = .ref c ∧ GxR.TabB base mg c P ∧ TabOf K P
section
variable {P : Program} {w : World} {K : PySem.W.Frag} {mg : Str → Option Value} {base : Heap}
/-- THE RULE for a def that holds generator expressions -/
theorem okDG {x qual : Str} {st : Stmt} {f : Addr} {fd : FuncData} {N ps : List Str} {k : Nat} {sp : DSp} (F : Fun K x qual st f fd) (GT : GenTab K base mg fd) (S : FnScope N ps (defScope st)) (len : ∀ ds M Q E, sp ds M Q E → ds.length = ps.length)
    (hbody : ∀ (c Pt : Addr) (A : Around) (outer : List Env) (s : Shared) (H : Hp) (E : XK), GxR.TabB base mg c Pt → TabOf K Pt → Room k (A.deeper (envOfC qual (defScope st) s.heap.objs.size f (.ref c))) →
      ∃ ts t, PDSs (cxOf CX0 P w K mg base N qual (defScope st) f (.ref c) A outer s H E).nox K (defBody st) ts t ∧ ∀ ds M Q E, sp ds M Q E → t { nx := fun _ M' => Wk Q .non M', rt := Wk Q } (startG N ds) M) :
    FnOk P w K mg base CX0 (k + 1) f fd ps (toSp K sp) := by
  obtain ⟨oc, od, kV, doc, pm, an, cdv, ct, osl, rfl, lk, hcd⟩ := F.ex
  obtain ⟨c, Pt, e, tb, to⟩ := GT
  obtain rfl : cdv = .ref c := e
  refine fn_of lk hcd S (fun vs H Q E h => ?_) fun A outer s H vs Q E hr h => ?_
  · obtain ⟨ds, M, Qd, Ed, r, _, q, _⟩ := h
    rw [r.length]
    exact len _ _ _ _ q
  · obtain ⟨ds, M, Qd, Ed, r, m, q, l, _⟩ := h
    obtain ⟨ts, t, h1, h2⟩ := hbody c Pt A outer s H E tb to hr
    exact ⟨ts, h1.pe.nox, h1.se _ _ _ _ { nx := fun _ M' => Wk Qd .non M', rt := Wk Qd } _ (rg_start r) m (h2 ds M Qd Ed q) ⟨fun Γ' M' σ' H' h s r m => l.wk _ _ _ _ h s .non m, l.wk, fun _ _ _ _ h => h.elim, fun _ _ _ _ h => h.elim⟩⟩
end
end DL
end
section
set_option maxHeartbeats 4000000
/-! DL7: the ends: a law's promise, a recursion's start. -/
namespace DL
open PySem PySem.Spec PyProof.Rows L2

/-- the script: a read-only list, or a list of the store -/
def Scr (ns : List Int) (d : D) (M : Mp) : Prop := d = .fl (ns.map D.int) ∨ ∃ a, d = .ref a ∧ M a = some (.lst (ns.map D.int))
/-- the law's promise: a list of at most 63 ints; True comes back -/
def spLaw : DSp := fun ds M Q _ => ∃ (ns : List Int) (d : D), ds = [d] ∧ Scr ns d M ∧ ns.length ≤ 63 ∧ ∀ M', Q (.bl true) M'
theorem reps_ints {K : PySem.W.Frag} {H : Hp} : ∀ ns : List Int, Reps K H (ns.map V.int) (ns.map D.int)
  | [] => .nil
  | n :: ns => .cons (.int n) (reps_ints ns)
theorem spLaw_of {K : PySem.W.Frag} {H : Hp} {a : Addr} {ns : List Int} (hl : ns.length ≤ 63) (hT : TabsOk K H) (hk : ∀ o, K.lookup a = some o → ∃ its n, o = { cls := .type "list", data := .seq its n }) (h : SqL K H a (ns.map V.int)) : toSp K spLaw [.ref a] H (fun v _ => v = .bl true) fun _ _ _ => False := by
  have go : ∀ (d : D) (M : Mp), Rep K H (.ref a) d → RepM K H M → Scr ns d M → toSp K spLaw [.ref a] H (fun v _ => v = .bl true) fun _ _ _ => False := fun d M r m s => by
    refine ⟨[d], M, fun d _ => d = .bl true, E0d, .cons r .nil, m, ⟨ns, d, rfl, s, hl, fun _ => rfl⟩, fun d M' v H' h _ r _ => ?_, liftX0⟩
    cases h
    cases r
    rfl
  rcases h with (h | ⟨o, h⟩) | h
  · refine go (.ref a) (fun b => if b = a then some (.lst (ns.map D.int)) else none) (.ref a) ⟨hT, fun b u e => ?_⟩ (.inr ⟨a, rfl, if_pos rfl⟩)
    dsimp only at e
    by_cases z : b = a
    · rw [if_pos z] at e
      cases e
      exact ⟨_, by rw [z]; exact h, reps_ints ns⟩
    · rw [if_neg z] at e; cases e
  · exact go (.fl (ns.map D.int)) (fun _ => none) (.fl (.inl ⟨o, h⟩) (reps_ints ns)) ⟨hT, fun _ _ e => by cases e⟩ (.inl rfl)
  · obtain ⟨o, its, n, h1, h2, h3, h4, h5, h6⟩ := h
    obtain ⟨its', n', e⟩ := hk o h1
    subst e
    cases h4
    exact go (.fl (ns.map D.int)) (fun _ => none) (.fl (.inr ⟨its, n, h1, h5, h6⟩) (reps_ints ns)) ⟨hT, fun _ _ e => by cases e⟩ (.inl rfl)
theorem tabQ_some {K : PySem.W.Frag} {n : Str} {p : Addr × Addr} (h : tabQ K n = some p) : ∃ f o fd oc vs, PySem.W.nsIn K mainGlobals n = some (some (.ref f)) ∧ K.lookup f = some o ∧ o.data = .func fd ∧ fd.code = .ref p.1 ∧ K.lookup p.1 = some oc ∧ oc.data = .fields vs ∧ (vs[11]? : Option Value) = some (Value.ref p.2) := by
  unfold tabQ at h
  split at h <;> try cases h
  rename_i f e1
  split at h <;> try cases h
  rename_i o e2
  split at h <;> try cases h
  rename_i fd e3
  split at h <;> try cases h
  rename_i c e4
  split at h <;> try cases h
  rename_i oc e5
  split at h <;> try cases h
  rename_i vs e6
  split at h <;> try cases h
  rename_i P e7
  exact ⟨f, o, fd, oc, vs, e1, e2, e3, e4, e5, e6, e7⟩
theorem fnOk_no {P : Program} {w : World} {K : PySem.W.Frag} {mg : Str → Option Value} {base : Heap} {k : Nat} {f : Addr} {fd : FuncData} {ps : List Str} {sp : DSp} (h : ∀ ds M Q E, ¬ sp ds M Q E) : FnOk P w K mg base CX0 k f fd ps (toSp K sp) :=
  ⟨fun vs H Q E ⟨ds, M, Qd, Ed, _, _, q, _⟩ => (h _ _ _ _ q).elim, fun A outer s H args us vs Q E _ _ _ _ ⟨ds, M, Qd, Ed, _, _, q, _⟩ => (h _ _ _ _ q).elim⟩
/-- the defs that hold generator expressions: their code objects and tables -/
def tabsL (K : PySem.W.Frag) : List (Addr × Addr) := genNames.filterMap (tabQ K)
theorem walkD {l : PySem.W.OpenLaw} {k : Nat} {q : Program} {loose : List Str} {XP : (Str → Option Value) → Heap → Prop} {YP : World → Heap → Prop} {d : DefRec} {K : Params → PySem.W.Frag} (hn : l.most = some 63) (hdf : d.params.defaults = []) (hr : Room k callerA)
    (hY : ∀ (w : World) (h : Heap), YP w h → (K w.params).In h)
    (hrec : (genNames.all fun n => (recsOf q).any fun e => e.name == n) = true) (hK : ∀ w : World, ∀ p ∈ tabsL (K w.params), (K w.params).lookup p.2 = none)
    (F : ∀ (w : World) (mg : Str → Option Value) (fa : Addr) (h : Heap), (K w.params).In h → h.Ns mainGlobals mg → mg d.name = some (.ref fa) →
      ∃ fd : FuncData, (∀ (s : Shared) (u : Value), BindsTo s fd ⟨[u], []⟩ [("script", u)]) ∧ ∀ base : Heap, (K w.params).In base → base.Ns mainGlobals mg → (∀ p ∈ tabsL (K w.params), GxR.TabB base mg p.1 p.2) → FnOk l.prog w (K w.params) mg base CX0 k fa fd ["script"] (toSp (K w.params) spLaw)) :
    PySem.W.WalkO q loose XP YP l.row.toRowW d [] (fun f vs => PySem.call f vs) := by
  refine Att.attach_callB hn hdf fun w s₀ s₁ mg mb fa o pm cd doc a vs ns G Y ho hd hcd hmg hobj hints hlen hbits hg => ?_
  have KX := hY w _ Y
  obtain ⟨fd, hb, hF⟩ := F w mg fa _ KX G.T.g hmg
  have tabs : ∀ p ∈ tabsL (K w.params), s₁.heap.IsCode p.1 p.2 #[] ∧ s₁.heap.TableAt p.1 p.2 #[] := fun p hp => by
    obtain ⟨n, hn', hq⟩ := List.mem_filterMap.mp hp
    obtain ⟨f, o1, fd1, oc, vs1, e1, e2, e3, e4, e5, e6, e7⟩ := tabQ_some hq
    obtain ⟨dL, hd1, hd2⟩ := List.any_eq_true.mp (List.all_eq_true.mp hrec n hn')
    have hd3 : dL.name = n := beq_iff_eq.mp hd2
    obtain ⟨a', o', fd', c', P', h1, h2, h3, h4, h5, h6⟩ := G.T.tab dL hd1
    rw [hd3, PySem.W.mg_of KX G.T.g e1] at h1
    cases h1
    rw [KX _ _ e2] at h2
    cases h2
    rw [e3] at h3
    cases h3
    rw [e4] at h4
    cases h4
    obtain ⟨⟨ob, vb, g1, g2, g3, g4⟩, g5⟩ := id h6
    rw [KX _ _ e5] at g1
    cases g1
    rw [e6] at g3
    cases g3
    rw [e7] at g4
    cases g4
    exact ⟨h5, h6⟩
  refine LamX.law_callTs (CX := CX0) (cs := tabsL (K w.params)) KX G.T.g G.T.b G.T.builtins G.T.nolimit hg (fun p hp => ?_) (hK w) (fun p hp => PySem.W.CodeHd.of (tabs p hp).1 (tabs p hp).2) G.T.bmain hobj hints (Nat.le_trans hlen (by decide)) hr (fun base KB nb hT => hF base KB nb fun p hp => ⟨(hT p hp).code, (hT p hp).bm, (hT p hp).gP⟩) hb (fun H hH hS => ?_) fun _ _ _ z => z
  · obtain ⟨⟨ob, vb, g1, g2, g3, g4⟩, g5⟩ := (tabs p hp).2
    exact g5
  · refine spLaw_of hlen (fun P hP => ?_) (fun o e => ⟨_, _, Option.some.inj ((KX _ _ e).symm.trans hobj)⟩) hS
    obtain ⟨n, hn', c, hq⟩ := hP
    exact ⟨#[], hH (c, P) (List.mem_filterMap.mpr ⟨n, hn', hq⟩), trivial⟩
end DL
end
section
set_option maxHeartbeats 4000000
/-! DL8: tools for the readings: loops by an invariant, comprehensions whose elements leave the store. -/
namespace DL
open PySem L2

theorem dLoop_inv {g : DG} {tb : DS} {inv : Mp → Prop} {F : DEnds} {items : List D} (I : Nat → Gm → Mp → Prop)
    (step : ∀ i d Γ M (N : Gm → Mp → Prop), items[i]? = some d → I i Γ M → (∀ Γ' M', I (i + 1) Γ' M' → N Γ' M') → inv M ∧ g d Γ M fun Γ1 M1 => tb { nx := N, rt := F.rt, bk := F.nx, ct := N } Γ1 M1)
    (done : ∀ Γ M, I items.length Γ M → inv M ∧ F.nx Γ M) {Γ : Gm} {M : Mp} (h0 : I 0 Γ M) : dLoop g tb inv F items Γ M := by
  have core : ∀ (k i : Nat), items.length - i = k → i ≤ items.length → ∀ Γ M, I i Γ M → dLoop g tb inv F (items.drop i) Γ M := by
    intro k
    induction k with
    | zero =>
      intro i hk hi Γ M h
      have e : i = items.length := by omega
      subst e
      rw [List.drop_length]
      exact done Γ M h
    | succ k ih =>
      intro i hk hi Γ M h
      have hlt : i < items.length := by omega
      rw [List.drop_eq_getElem_cons hlt]
      exact step i items[i] Γ M _ (by simp [hlt]) h fun Γ' M' h' => ih (i + 1) (by omega) hlt Γ' M' h'
  have := core _ 0 rfl (Nat.zero_le _) Γ M h0
  rwa [List.drop_zero] at this
theorem dCL_inv {g : DG} {tt : DT} {te : DE} {inv : Mp → Prop} {Γ : Gm} {items : List D} {Q : List D → Mp → Prop} (I : Nat → List D → Mp → Prop)
    (step : ∀ i d acc M (Ny : D → Mp → Prop) (Nn : Mp → Prop), items[i]? = some d → I i acc M → (∀ y M', I (i + 1) (acc ++ [y]) M' → acc.length < sizeLine ∧ Ny y M') → (∀ M', I (i + 1) acc M' → Nn M') →
      inv M ∧ g d Γ M fun Γ1 M1 => tt Γ1 M1 fun b M2 => if b = true then te Γ1 M2 Ny else Nn M2)
    (small : ∀ i acc M, I i acc M → acc.length ≤ sizeLine) (done : ∀ acc M, I items.length acc M → inv M ∧ Q acc M) {M : Mp} (h0 : I 0 [] M) : dCL g tt te inv Γ items [] M Q := by
  have core : ∀ (k i : Nat), items.length - i = k → i ≤ items.length → ∀ acc M, I i acc M → dCL g tt te inv Γ (items.drop i) acc M Q := by
    intro k
    induction k with
    | zero =>
      intro i hk hi acc M h
      have e : i = items.length := by omega
      subst e
      rw [List.drop_length]
      exact done acc M h
    | succ k ih =>
      intro i hk hi acc M h
      have hlt : i < items.length := by omega
      rw [List.drop_eq_getElem_cons hlt]
      have q := step i items[i] acc M (fun y M3 => acc.length < sizeLine ∧ dCL g tt te inv Γ (items.drop (i + 1)) (acc ++ [y]) M3 Q) (fun M2 => dCL g tt te inv Γ (items.drop (i + 1)) acc M2 Q) (by simp [hlt]) h
        (fun y M' h' => ⟨by have := small _ _ _ h'; rw [List.length_append, List.length_singleton] at this; omega, by have := small _ _ _ h'; rw [List.length_append, List.length_singleton] at this; omega, ih (i + 1) (by omega) hlt _ M' h'⟩) fun M' h' => ih (i + 1) (by omega) hlt acc M' h'
      exact q
  have := core _ 0 rfl (Nat.zero_le _) [] M h0
  rwa [List.drop_zero] at this
/-- the elements are reckoned and leave the store as it is -/
theorem dCL_pure {g : DG} {tt : DT} {te : DE} {inv : Mp → Prop} {Γ : Gm} {items acc : List D} {M : Mp} {Q : List D → Mp → Prop} (f : D → Option D) (hl : acc.length + items.length ≤ sizeLine) (hi : inv M)
    (h : ∀ d ∈ items, ∀ (Ny : D → Mp → Prop) (Nn : Mp → Prop), (∀ y, f d = some y → Ny y M) → (f d = none → Nn M) → g d Γ M fun Γ1 M1 => tt Γ1 M1 fun b M2 => if b = true then te Γ1 M2 Ny else Nn M2)
    (q : Q (acc ++ items.filterMap f) M) : dCL g tt te inv Γ items acc M Q := by
  induction items generalizing acc with
  | nil => exact ⟨hi, by simpa using q⟩
  | cons d ds ih =>
    rw [List.length_cons] at hl
    refine ⟨hi, h d List.mem_cons_self _ _ (fun y e => ⟨by omega, ih (by rw [List.length_append, List.length_singleton]; omega) (fun d hd => h d (List.mem_cons_of_mem _ hd)) ?_⟩) fun e => ih (by omega) (fun d hd => h d (List.mem_cons_of_mem _ hd)) ?_⟩
    · rw [List.filterMap_cons_some e] at q
      rw [List.append_assoc]
      exact q
    · rw [List.filterMap_cons_none e] at q
      exact q
theorem dCL2_pure {g : DG} {tt : DT} {ti1 : DI} {g1 : DG} {tt1 : DT} {te : DE} {vs1 : List Nat} {inv : Mp → Prop} {Γ : Gm} {items acc : List D} {M : Mp} {Q : List D → Mp → Prop} (f : D → List D) (hl : acc.length + (items.flatMap f).length ≤ sizeLine) (hi : inv M)
    (h : ∀ d ∈ items, ∀ (acc : List D) (N : List D → Mp → Prop) (Nn : Mp → Prop), acc.length + (f d).length ≤ sizeLine → N (acc ++ f d) M → g d Γ M fun Γ1 M1 => tt Γ1 M1 fun b M2 => if b = true then ti1 Γ1 M2 fun items1 inv1 M3 => dCL g1 tt1 te inv1 (wipeG Γ1 vs1) items1 acc M3 N else Nn M2)
    (q : Q (acc ++ items.flatMap f) M) : dCL2 g tt ti1 g1 tt1 te vs1 inv Γ items acc M Q := by
  induction items generalizing acc with
  | nil => exact ⟨hi, by simpa using q⟩
  | cons d ds ih =>
    rw [List.flatMap_cons, List.length_append] at hl
    refine ⟨hi, h d List.mem_cons_self acc (fun acc' M4 => dCL2 g tt ti1 g1 tt1 te vs1 inv Γ ds acc' M4 Q) _ (by omega) ?_⟩
    refine ih (by rw [List.length_append]; omega) (fun d hd => h d (List.mem_cons_of_mem _ hd)) ?_
    rw [List.flatMap_cons, ← List.append_assoc] at q
    exact q
theorem atI_nn {α : Type} {xs : List α} {i : Int} (h0 : 0 ≤ i) (h1 : i < xs.length) : atI xs i = xs[i.toNat]? := by
  unfold atI ixN
  rw [if_pos h0, if_pos h1]
  rfl
theorem atI_some {α : Type} {xs : List α} {i : Int} (h0 : 0 ≤ i) (h1 : i < xs.length) : ∃ x, atI xs i = some x ∧ xs[i.toNat]? = some x := by
  have hl : i.toNat < xs.length := by omega
  exact ⟨xs[i.toNat], by rw [atI_nn h0 h1]; simp [hl], by simp [hl]⟩
theorem ixN_nn {n : Nat} {i : Int} (h0 : 0 ≤ i) (h1 : i < n) : ixN n i = some i.toNat := by
  unfold ixN
  rw [if_pos h0, if_pos h1]
theorem cut_take {α : Type} (xs : List α) (k : Nat) : cutD xs none (some (k : Int)) = xs.take k := by
  unfold cutD
  rw [HT.sIx_none, HT.sIx_nat, List.drop_zero, Nat.sub_zero]
  rcases Nat.le_total k xs.length with h | h
  · rw [Nat.min_eq_left h]
  · rw [Nat.min_eq_right h, List.take_of_length_le h, List.take_of_length_le (Nat.le_refl _)]
theorem cut_drop {α : Type} (xs : List α) (k : Nat) : cutD xs (some (k : Int)) none = xs.drop k := by
  unfold cutD
  rw [HT.sIx_none, HT.sIx_nat]
  rcases Nat.le_total k xs.length with h | h
  · rw [Nat.min_eq_left h, List.take_of_length_le (by rw [List.length_drop]; omega)]
  · rw [Nat.min_eq_right h, Nat.sub_self, List.take_zero, List.drop_of_length_le h]
theorem sz {n : Nat} (h : n ≤ 16777216) : n ≤ sizeLine := by rw [sizeLine_eq]; exact h
theorem szl {n : Nat} (h : n < 16777216) : n < sizeLine := by rw [sizeLine_eq]; exact h
end DL
end
section
set_option maxHeartbeats 4000000
/-! DL9: the readings' equations (for simp only). -/
namespace DL
open PySem L2
section
variable {a b c d e : D} {r ds es : List D} {M : Mp} {Q : DK} {x y : Str} {i j : Int}
theorem ix_t0 : oIx (.tup (a :: r)) (.int 0) M Q = Q a M := by
  apply propext; constructor
  · rintro ⟨es, h1, y, h2, h3⟩
    cases h1
    have e : atI (a :: r) 0 = some a := atI_nat (j := 0) rfl
    rw [e] at h2; cases h2; exact h3
  · exact fun h => ⟨_, rfl, a, atI_nat (j := 0) rfl, h⟩
theorem ix_t1 : oIx (.tup (a :: b :: r)) (.int 1) M Q = Q b M := by
  apply propext; constructor
  · rintro ⟨es, h1, y, h2, h3⟩
    cases h1
    have e : atI (a :: b :: r) 1 = some b := atI_nat (j := 1) rfl
    rw [e] at h2; cases h2; exact h3
  · exact fun h => ⟨_, rfl, b, atI_nat (j := 1) rfl, h⟩
theorem ix_t2 : oIx (.tup (a :: b :: c :: r)) (.int 2) M Q = Q c M := by
  apply propext; constructor
  · rintro ⟨es, h1, y, h2, h3⟩
    cases h1
    have e : atI (a :: b :: c :: r) 2 = some c := atI_nat (j := 2) rfl
    rw [e] at h2; cases h2; exact h3
  · exact fun h => ⟨_, rfl, c, atI_nat (j := 2) rfl, h⟩
theorem ix_t3 : oIx (.tup (a :: b :: c :: d :: r)) (.int 3) M Q = Q d M := by
  apply propext; constructor
  · rintro ⟨es, h1, y, h2, h3⟩
    cases h1
    have e : atI (a :: b :: c :: d :: r) 3 = some d := atI_nat (j := 3) rfl
    rw [e] at h2; cases h2; exact h3
  · exact fun h => ⟨_, rfl, d, atI_nat (j := 3) rfl, h⟩
theorem ix_t4 : oIx (.tup (a :: b :: c :: d :: e :: r)) (.int 4) M Q = Q e M := by
  apply propext; constructor
  · rintro ⟨es, h1, y, h2, h3⟩
    cases h1
    have e' : atI (a :: b :: c :: d :: e :: r) 4 = some e := atI_nat (j := 4) rfl
    rw [e'] at h2; cases h2; exact h3
  · exact fun h => ⟨_, rfl, e, atI_nat (j := 4) rfl, h⟩
/-- an item of a tuple at a place that is reckoned -/
theorem ix_tup (h : atI ds i = some a) : oIx (.tup ds) (.int i) M Q = Q a M := by
  apply propext; constructor
  · rintro ⟨es, h1, y, h2, h3⟩
    cases h1
    rw [h] at h2; cases h2; exact h3
  · exact fun q => ⟨_, rfl, a, h, q⟩
theorem ix_lst {p : Addr} (hM : M p = some (.lst ds)) (h : atI ds i = some a) : oIx (.ref p) (.int i) M Q = Q a M := by
  have e : itemsD (.ref p) M = some ds := by unfold itemsD; dsimp only; rw [hM]
  apply propext; constructor
  · rintro ⟨es, h1, y, h2, h3⟩
    rw [e] at h1; cases h1
    rw [h] at h2; cases h2; exact h3
  · exact fun q => ⟨_, e, a, h, q⟩
theorem eq_ss : oEq (.str x) (.str y) M Q = Q (.bl (decide (x = y))) M := propext ⟨fun h => h.2, fun h => ⟨rfl, h⟩⟩
theorem eq_ii : oEq (.int i) (.int j) M Q = Q (.bl (i == j)) M := propext ⟨fun h => h.2, fun h => ⟨rfl, h⟩⟩
theorem eq_si : oEq (.str x) (.int j) M Q = Q (.bl false) M := propext ⟨fun h => h.2, fun h => ⟨rfl, h⟩⟩
theorem eq_is : oEq (.int i) (.str x) M Q = Q (.bl false) M := propext ⟨fun h => h.2, fun h => ⟨rfl, h⟩⟩
theorem eq_bb {p q : Bool} : oEq (.bl p) (.bl q) M Q = Q (.bl (p == q)) M := propext ⟨fun h => h.2, fun h => ⟨rfl, h⟩⟩
theorem ne_ss : oNe (.str x) (.str y) M Q = Q (.bl (!decide (x = y))) M := propext ⟨fun h => h.2, fun h => ⟨rfl, h⟩⟩
theorem ne_ii : oNe (.int i) (.int j) M Q = Q (.bl (!(i == j))) M := propext ⟨fun h => h.2, fun h => ⟨rfl, h⟩⟩
theorem ne_si : oNe (.str x) (.int j) M Q = Q (.bl true) M := propext ⟨fun h => h.2, fun h => ⟨rfl, h⟩⟩
theorem ne_is : oNe (.int i) (.str x) M Q = Q (.bl true) M := propext ⟨fun h => h.2, fun h => ⟨rfl, h⟩⟩
theorem ne_bb {p q : Bool} : oNe (.bl p) (.bl q) M Q = Q (.bl (!(p == q))) M := propext ⟨fun h => h.2, fun h => ⟨rfl, h⟩⟩
theorem add_ii : oAdd (.int i) (.int j) M Q = Q (.int (i + j)) M := rfl
theorem add_ss : oAdd (.str x) (.str y) M Q = (x.length + y.length ≤ sizeLine ∧ Q (.str (x ++ y)) M) := rfl
theorem add_tt : oAdd (.tup ds) (.tup es) M Q = (ds.length + es.length ≤ sizeLine ∧ Q (.tup (ds ++ es)) M) := rfl
theorem add_ll {p q : Addr} (h1 : M p = some (.lst ds)) (h2 : M q = some (.lst es)) : oAdd (.ref p) (.ref q) M Q = (ds.length + es.length ≤ sizeLine ∧ ∀ l, M l = none → Q (.ref l) (mupd M l (.lst (ds ++ es)))) := by
  apply propext; constructor
  · rintro ⟨xs, ys, a, b, c, d⟩
    rw [h1] at a; rw [h2] at b; cases a; cases b; exact ⟨c, d⟩
  · exact fun ⟨c, d⟩ => ⟨_, _, h1, h2, c, d⟩
theorem mul_ii : oMul (.int i) (.int j) M Q = (MulOk i j ∧ Q (.int (i * j)) M) := rfl
theorem mul_li {p : Addr} (h1 : M p = some (.lst ds)) : oMul (.ref p) (.int i) M Q = (-(2 ^ 63) ≤ i ∧ i < 2 ^ 63 ∧ ds.length * i.toNat ≤ sizeLine ∧ ∀ l, M l = none → Q (.ref l) (mupd M l (.lst (List.replicate i.toNat ds).flatten))) := by
  apply propext; constructor
  · rintro ⟨xs, a, b⟩
    rw [h1] at a; cases a; exact b
  · exact fun b => ⟨_, h1, b⟩
theorem mul_ti : oMul (.tup ds) (.int i) M Q = ((ds ≠ [] ∧ 2 ≤ i ∧ i ≤ 1000 ∧ ds.length ≤ 1000) ∧ Q (.tup (List.replicate i.toNat ds).flatten) M) := rfl
theorem oI_ii {C : Int → Int → Prop} {g : Int → Int → Int} : oI C g (.int i) (.int j) M Q = (C i j ∧ Q (.int (g i j)) M) := rfl
theorem oI0_ii {g : Int → Int → Int} : oI0 g (.int i) (.int j) M Q = Q (.int (g i j)) M := rfl
theorem oB0_ii {g : Int → Int → Bool} : oB0 g (.int i) (.int j) M Q = Q (.bl (g i j)) M := rfl
theorem is_non : oIs d .non M Q = Q (.bl (isNon d)) M := rfl
theorem isnot_non : oIsNot d .non M Q = Q (.bl (!isNon d)) M := rfl
theorem isNon_non : isNon .non = true := rfl
theorem isNon_int : isNon (.int i) = false := rfl
theorem isNon_str : isNon (.str x) = false := rfl
theorem isNon_bl {p : Bool} : isNon (.bl p) = false := rfl
theorem isNon_tup : isNon (.tup ds) = false := rfl
theorem len_tup : oLen [.tup ds] M Q = Q (.int ds.length) M := propext ⟨fun ⟨es, h, q⟩ => by cases h; exact q, fun q => ⟨_, rfl, q⟩⟩
theorem len_fl : oLen [.fl ds] M Q = Q (.int ds.length) M := propext ⟨fun ⟨es, h, q⟩ => by cases h; exact q, fun q => ⟨_, rfl, q⟩⟩
theorem len_str : oLen [.str x] M Q = (x.length ≤ sizeLine ∧ Q (.int x.length) M) := rfl
theorem items_lst {p : Addr} (hM : M p = some (.lst ds)) : itemsD (.ref p) M = some ds := by unfold itemsD; dsimp only; rw [hM]
theorem items_tup : itemsD (.tup ds) M = some ds := rfl
theorem items_fl : itemsD (.fl ds) M = some ds := rfl
theorem len_lst {p : Addr} (hM : M p = some (.lst ds)) : oLen [.ref p] M Q = Q (.int ds.length) M := propext ⟨fun ⟨es, h, q⟩ => by rw [items_lst hM] at h; cases h; exact q, fun q => ⟨_, items_lst hM, q⟩⟩
theorem tuple_lst {p : Addr} (hM : M p = some (.lst ds)) : oTuple [.ref p] M Q = Q (.tup ds) M := propext ⟨fun ⟨es, h, q⟩ => by rw [items_lst hM] at h; cases h; exact q, fun q => ⟨_, items_lst hM, q⟩⟩
theorem tuple_tup : oTuple [.tup ds] M Q = Q (.tup ds) M := propext ⟨fun ⟨es, h, q⟩ => by cases h; exact q, fun q => ⟨_, rfl, q⟩⟩
theorem int_i : oInt [.int i] M Q = Q (.int i) M := rfl
theorem int_b {p : Bool} : oInt [.bl p] M Q = Q (.int (if p then 1 else 0)) M := rfl
theorem abs_i : oAbs [.int i] M Q = Q (.int (if i < 0 then -i else i)) M := rfl
theorem max_ii : oMax [.int i, .int j] M Q = Q (.int (if j > i then j else i)) M := rfl
theorem min_ii : oMin [.int i, .int j] M Q = Q (.int (if j < i then j else i)) M := rfl
theorem asB_b {p : Bool} {f : Bool → Prop} : asB (.bl p) f = f p := rfl
theorem gv_0 {o : Option D} {Γ : Gm} : gv (o :: Γ) 0 = o := rfl
theorem gv_s {o : Option D} {Γ : Gm} {n : Nat} : gv (o :: Γ) (n + 1) = gv Γ n := rfl
theorem sv_0 {o : Option D} {Γ : Gm} : sv (o :: Γ) 0 d = some d :: Γ := rfl
theorem sv_s {o : Option D} {Γ : Gm} {n : Nat} : sv (o :: Γ) (n + 1) d = o :: sv Γ n d := rfl
theorem dVar_some {Γ : Gm} {n : Nat} (h : gv Γ n = some d) : dVar n Γ M Q = Q d M := by unfold dVar; rw [h]
theorem slice_t {Γ : Gm} {tl th : DO} {te : DE} : dSl te tl th Γ M Q = te Γ M fun d M1 => tl Γ M1 fun lo M2 => th Γ M2 fun hi M3 => match d with
  | .tup ds => Q (.tup (cutD ds lo hi)) M3
  | d => ∃ es, itemsD d M3 = some es ∧ ∀ p, M3 p = none → Q (.ref p) (mupd M3 p (.lst (cutD es lo hi))) := rfl
end
theorem cut_1 {a : D} {r : List D} : cutD (a :: r) (some 1) none = r := cut_drop (a :: r) 1
/-- one store within another -/
def Sub (M M' : Mp) : Prop := ∀ a o, M a = some o → M' a = some o
theorem Sub.refl {M : Mp} : Sub M M := fun _ _ h => h
theorem Sub.trans {M M1 M2 : Mp} (a : Sub M M1) (b : Sub M1 M2) : Sub M M2 := fun x o h => b x o (a x o h)
theorem Sub.drop {M M' : Mp} {p : Addr} {o : MO} (h : M p = none) (s : Sub M M') : Sub M (mupd M' p o) := fun a u e => by
  rw [mupd_ne (fresh_ne h e)]
  exact s a u e
theorem Sub.upd {M M' : Mp} {p : Addr} {o : MO} (s : Sub M M') : Sub (mupd M p o) (mupd M' p o) := fun a u e => by
  by_cases h : a = p
  · subst h; rw [mupd_same] at e ⊢; exact e
  · rw [mupd_ne h] at e ⊢; exact s a u e
theorem Wk.sub {Q : DK} {d : D} {M M' : Mp} (s : Sub M M') (h : Q d M) : Wk Q d M' := ⟨M, s, h⟩
theorem none_of_upd {M : Mp} {p q : Addr} {o : MO} (h : mupd M p o q = none) : q ≠ p ∧ M q = none := by
  by_cases e : q = p
  · subst e; rw [mupd_same] at h; cases h
  · rw [mupd_ne e] at h; exact ⟨e, h⟩
theorem append_at {a : Addr} {es : List D} {d : D} {M : Mp} {Q : DK} : oAppend a es [d] M Q = (es.length < sizeLine ∧ Q .non (mupd M a (.lst (es ++ [d])))) := rfl
theorem extend_at {a b : Addr} {es fs : List D} {M : Mp} {Q : DK} (h : M b = some (.lst fs)) : oExtend a es [.ref b] M Q = (es.length + fs.length ≤ sizeLine ∧ Q .non (mupd M a (.lst (es ++ fs)))) := by
  apply propext; constructor
  · rintro ⟨x, e, r⟩; rw [h] at e; cases e; exact r
  · exact fun r => ⟨fs, h, r⟩
theorem lm_at {o : OM} {ta : DE} {tr : DA} {Γ : Gm} {M : Mp} {Q : DK} {a : Addr} {es : List D} (h1 : ∀ K, ta Γ M K = K (.ref a) M) (h : M a = some (.lst es)) : dLM o ta tr Γ M Q = tr Γ M fun ds M2 => ∃ es, M2 a = some (.lst es) ∧ o a es ds M2 Q := by
  unfold dLM
  rw [h1]
  dsimp only
  apply propext; constructor
  · exact fun x => x.2
  · exact fun x => ⟨⟨es, h⟩, x⟩
end DL
end
section
set_option maxHeartbeats 4000000
/-! DL10: the readings' equations that look the store up. -/
namespace DL
open PySem L2
/-- an item wanted -/
def wantI (o : Option D) (Q : D → Prop) : Prop := match o with
  | some d => Q d
  | none => False
/-- a list wanted -/
def wantL (o : Option MO) (Q : List D → Prop) : Prop := match o with
  | some (.lst ds) => Q ds
  | _ => False
def wantK (o : Option MO) (Q : List (Key × D) → Prop) : Prop := match o with
  | some (.dct ds) => Q ds
  | _ => False
theorem wantI_some {d : D} {Q : D → Prop} : wantI (some d) Q = Q d := rfl
theorem wantL_some {ds : List D} {Q : List D → Prop} : wantL (some (.lst ds)) Q = Q ds := rfl
theorem wantK_some {ds : List (Key × D)} {Q : List (Key × D) → Prop} : wantK (some (.dct ds)) Q = Q ds := rfl
theorem mupd_app {M : Mp} {a b : Addr} {o : MO} : mupd M a o b = if b = a then some o else M b := rfl
section
variable {p q : Addr} {i : Int} {d e : D} {M : Mp} {Q : DK} {Γ : Gm} {ds : List D}
theorem items_ref_iff {R : List D → Prop} : (∃ es, itemsD (.ref p) M = some es ∧ R es) = wantL (M p) R := by
  unfold itemsD wantL
  dsimp only
  apply propext
  generalize M p = o
  cases o with
  | none => exact ⟨fun ⟨_, h, _⟩ => (nomatch h), fun h => h.elim⟩
  | some o => cases o with
    | lst ds => exact ⟨fun ⟨_, h, r⟩ => by cases h; exact r, fun r => ⟨_, rfl, r⟩⟩
    | dct => exact ⟨fun ⟨_, h, _⟩ => (nomatch h), fun h => h.elim⟩
theorem want_iff {o : Option D} {R : D → Prop} : (∃ y, o = some y ∧ R y) = wantI o R := by
  apply propext
  cases o with
  | none => exact ⟨fun ⟨_, h, _⟩ => (nomatch h), fun h => h.elim⟩
  | some d => exact ⟨fun ⟨_, h, r⟩ => by cases h; exact r, fun r => ⟨_, rfl, r⟩⟩
theorem ix_ref : oIx (.ref p) (.int i) M Q = wantL (M p) fun es => wantI (atI es i) fun y => Q y M := by
  show (∃ es, itemsD (.ref p) M = some es ∧ ∃ y, atI es i = some y ∧ Q y M) = _
  rw [items_ref_iff]
  congr 1
  funext es
  exact want_iff
theorem ix_tupA : oIx (.tup ds) (.int i) M Q = wantI (atI ds i) fun y => Q y M := by
  show (∃ es, some ds = some es ∧ ∃ y, atI es i = some y ∧ Q y M) = _
  rw [← want_iff]
  apply propext
  exact ⟨fun ⟨_, h, r⟩ => by cases h; exact r, fun r => ⟨_, rfl, r⟩⟩
theorem len_ref : oLen [.ref p] M Q = wantL (M p) fun es => Q (.int es.length) M := items_ref_iff
theorem tuple_ref : oTuple [.ref p] M Q = wantL (M p) fun es => Q (.tup es) M := items_ref_iff
theorem list_ref : oList [.ref p] M Q = wantL (M p) fun es => ∀ l, M l = none → Q (.ref l) (mupd M l (.lst es)) := items_ref_iff
theorem list_tup : oList [.tup ds] M Q = ∀ l, M l = none → Q (.ref l) (mupd M l (.lst ds)) := propext ⟨fun ⟨_, h, r⟩ => by cases h; exact r, fun r => ⟨_, rfl, r⟩⟩
theorem list_fl : oList [.fl ds] M Q = ∀ l, M l = none → Q (.ref l) (mupd M l (.lst ds)) := propext ⟨fun ⟨_, h, r⟩ => by cases h; exact r, fun r => ⟨_, rfl, r⟩⟩
theorem sl_ref {te : DE} {tl th : DO} : dSl te tl th Γ M Q = te Γ M fun d M1 => tl Γ M1 fun lo M2 => th Γ M2 fun hi M3 => match d with
  | .tup ds => Q (.tup (cutD ds lo hi)) M3
  | .fl ds => ∀ p, M3 p = none → Q (.ref p) (mupd M3 p (.lst (cutD ds lo hi)))
  | .ref a => wantL (M3 a) fun es => ∀ p, M3 p = none → Q (.ref p) (mupd M3 p (.lst (cutD es lo hi)))
  | d => ∃ es, itemsD d M3 = some es ∧ ∀ p, M3 p = none → Q (.ref p) (mupd M3 p (.lst (cutD es lo hi))) := by
  unfold dSl
  congr 1
  funext d M1
  congr 1
  funext lo M2
  congr 1
  funext hi M3
  cases d <;> try rfl
  · exact items_ref_iff
  · exact propext ⟨fun ⟨_, h, r⟩ => by cases h; exact r, fun r => ⟨_, rfl, r⟩⟩
theorem mul_ref : oMul (.ref p) (.int i) M Q = wantL (M p) fun xs => -(2 ^ 63) ≤ i ∧ i < 2 ^ 63 ∧ xs.length * i.toNat ≤ sizeLine ∧ ∀ p, M p = none → Q (.ref p) (mupd M p (.lst (List.replicate i.toNat xs).flatten)) := by
  unfold oMul wantL
  apply propext
  dsimp only
  cases M p with
  | none => exact ⟨fun ⟨_, h, _⟩ => (nomatch h), fun h => h.elim⟩
  | some o => cases o with
    | lst ds => exact ⟨fun ⟨_, h, r⟩ => by cases h; exact r, fun r => ⟨_, rfl, r⟩⟩
    | dct => exact ⟨fun ⟨_, h, _⟩ => (nomatch h), fun h => h.elim⟩
theorem add_ref : oAdd (.ref p) (.ref q) M Q = wantL (M p) fun xs => wantL (M q) fun ys => xs.length + ys.length ≤ sizeLine ∧ ∀ l, M l = none → Q (.ref l) (mupd M l (.lst (xs ++ ys))) := by
  unfold oAdd wantL
  apply propext
  dsimp only
  constructor
  · rintro ⟨xs, ys, h1, h2, r⟩
    rw [h1, h2]; exact r
  · intro h
    cases h1 : M p with
    | none => rw [h1] at h; exact h.elim
    | some o => cases o with
      | dct => rw [h1] at h; exact h.elim
      | lst xs =>
        rw [h1] at h
        dsimp only at h
        cases h2 : M q with
        | none => rw [h2] at h; exact h.elim
        | some o => cases o with
          | dct => rw [h2] at h; exact h.elim
          | lst ys => rw [h2] at h; exact ⟨xs, ys, rfl, rfl, h⟩
theorem seq_ref {te : DE} {R : List D → (Mp → Prop) → Mp → Prop} : diSeq te Γ M R = te Γ M fun d M1 => match d with
  | .tup ds => R ds (fun _ => True) M1
  | .fl ds => R ds (fun _ => True) M1
  | .ref a => wantL (M1 a) fun es => R es (fun M => M a = some (.lst es)) M1
  | d => ∃ es, itemsD d M1 = some es ∧ R es (same d es) M1 := by
  unfold diSeq
  congr 1
  funext d M1
  cases d <;> try rfl
  · exact propext ⟨fun ⟨_, h, r⟩ => by cases h; exact r, fun r => ⟨_, rfl, r⟩⟩
  · exact items_ref_iff
  · exact propext ⟨fun ⟨_, h, r⟩ => by cases h; exact r, fun r => ⟨_, rfl, r⟩⟩
theorem setL_ref {to ti te : DE} {F : DEnds} : dSetL to ti te F Γ M = te Γ M fun d M1 => to Γ M1 fun o M2 => ti Γ M2 fun j M3 => match o, j with
  | .ref a, .int k => wantL (M3 a) fun es => match ixN es.length k with
    | some n => F.nx Γ (mupd M3 a (.lst (es.set n d)))
    | none => False
  | _, _ => False := by
  unfold dSetL
  congr 1
  funext d M1
  congr 1
  funext o M2
  congr 1
  funext j M3
  cases o <;> try rfl
  cases j <;> try rfl
  rename_i a k
  dsimp only
  unfold wantL
  apply propext
  constructor
  · rintro ⟨es, n, h1, h2, r⟩
    rw [h1]
    dsimp only
    rw [h2]
    exact r
  · intro h
    cases h1 : M3 a with
    | none => rw [h1] at h; exact h.elim
    | some o => cases o with
      | dct => rw [h1] at h; exact h.elim
      | lst xs =>
        rw [h1] at h
        dsimp only at h
        cases h2 : ixN xs.length k with
        | none => rw [h2] at h; exact h.elim
        | some n => rw [h2] at h; exact ⟨xs, n, rfl, h2, h⟩
theorem lm_ref {o : OM} {ta : DE} {tr : DA} : dLM o ta tr Γ M Q = ta Γ M fun d M1 => match d with
  | .ref a => wantL (M1 a) fun _ => tr Γ M1 fun ds M2 => wantL (M2 a) fun es => o a es ds M2 Q
  | _ => False := by
  unfold dLM
  congr 1
  funext d M1
  cases d <;> try rfl
  rename_i a
  dsimp only
  unfold wantL
  apply propext
  have e : (fun ds M2 => ∃ es, M2 a = some (.lst es) ∧ o a es ds M2 Q) = (fun ds (M2 : Mp) => match M2 a with | some (.lst es) => o a es ds M2 Q | _ => False) := by
    funext ds M2
    apply propext
    cases M2 a with
    | none => exact ⟨fun ⟨_, h, _⟩ => (nomatch h), fun h => h.elim⟩
    | some o => cases o with
      | lst ds => exact ⟨fun ⟨_, h, r⟩ => by cases h; exact r, fun r => ⟨_, rfl, r⟩⟩
      | dct => exact ⟨fun ⟨_, h, _⟩ => (nomatch h), fun h => h.elim⟩
  rw [e]
  cases M1 a with
  | none => exact ⟨fun ⟨⟨_, h⟩, _⟩ => (nomatch h), fun h => h.elim⟩
  | some o => cases o with
    | lst ds => exact ⟨fun x => x.2, fun x => ⟨⟨_, rfl⟩, x⟩⟩
    | dct => exact ⟨fun ⟨⟨_, h⟩, _⟩ => (nomatch h), fun h => h.elim⟩
theorem extend_ref {a b : Addr} {es : List D} : oExtend a es [.ref b] M Q = wantL (M b) fun fs => es.length + fs.length ≤ sizeLine ∧ Q .non (mupd M a (.lst (es ++ fs))) := by
  unfold oExtend wantL
  apply propext
  dsimp only
  cases M b with
  | none => exact ⟨fun ⟨_, h, _⟩ => (nomatch h), fun h => h.elim⟩
  | some o => cases o with
    | lst ds => exact ⟨fun ⟨_, h, r⟩ => by cases h; exact r, fun r => ⟨_, rfl, r⟩⟩
    | dct => exact ⟨fun ⟨_, h, _⟩ => (nomatch h), fun h => h.elim⟩
theorem dget_ref {td ty : DE} : dDGet td ty Γ M Q = td Γ M fun d M1 => ty Γ M1 fun e M2 => match d with
  | .ref a => wantK (M2 a) fun kvs => match keyD e with
    | some k => wantI (valD kvs k) fun v => Q v M2
    | none => False
  | _ => False := by
  unfold dDGet
  congr 1
  funext d M1
  congr 1
  funext e M2
  cases d <;> try rfl
  rename_i a
  dsimp only
  unfold wantK
  apply propext
  constructor
  · rintro ⟨kvs, k, v, h1, h2, h3, r⟩
    rw [h1]
    dsimp only
    rw [h2]
    dsimp only
    rw [h3]
    exact r
  · intro h
    cases h1 : M2 a with
    | none => rw [h1] at h; exact h.elim
    | some o => cases o with
      | lst => rw [h1] at h; exact h.elim
      | dct kvs =>
        rw [h1] at h
        dsimp only at h
        cases h2 : keyD e with
        | none => rw [h2] at h; exact h.elim
        | some k =>
          rw [h2] at h
          dsimp only at h
          cases h3 : valD kvs k with
          | none => rw [h3] at h; exact h.elim
          | some v => rw [h3] at h; exact ⟨kvs, k, v, rfl, rfl, h3, h⟩
theorem sum_ref : oSum [.ref p] M Q = wantL (M p) fun es => match intsOf es with
  | some ns => Q (.int ns.sum) M
  | none => False := by
  unfold oSum wantL
  apply propext
  dsimp only
  constructor
  · rintro ⟨es, ns, h1, h2, r⟩
    rw [h1]; dsimp only; rw [h2]; exact r
  · intro h
    cases h1 : M p with
    | none => rw [h1] at h; exact h.elim
    | some o => cases o with
      | dct => rw [h1] at h; exact h.elim
      | lst xs =>
        rw [h1] at h
        dsimp only at h
        cases h2 : intsOf xs with
        | none => rw [h2] at h; exact h.elim
        | some n => rw [h2] at h; exact ⟨xs, n, rfl, h2, h⟩
theorem max_ref : oMax [.ref p] M Q = wantL (M p) fun es => match intsOf es with
  | some ns => 0 < ns.length ∧ ∀ m, m ∈ ns → (∀ y, y ∈ ns → y ≤ m) → Q (.int m) M
  | none => False := by
  unfold oMax wantL
  apply propext
  dsimp only
  constructor
  · rintro ⟨es, ns, h1, h2, r⟩
    rw [h1]; dsimp only; rw [h2]; exact r
  · intro h
    cases h1 : M p with
    | none => rw [h1] at h; exact h.elim
    | some o => cases o with
      | dct => rw [h1] at h; exact h.elim
      | lst xs =>
        rw [h1] at h
        dsimp only at h
        cases h2 : intsOf xs with
        | none => rw [h2] at h; exact h.elim
        | some n => rw [h2] at h; exact ⟨xs, n, rfl, h2, h⟩
theorem min_ref : oMin [.ref p] M Q = wantL (M p) fun es => match intsOf es with
  | some ns => 0 < ns.length ∧ ∀ m, m ∈ ns → (∀ y, y ∈ ns → m ≤ y) → Q (.int m) M
  | none => False := by
  unfold oMin wantL
  apply propext
  dsimp only
  constructor
  · rintro ⟨es, ns, h1, h2, r⟩
    rw [h1]; dsimp only; rw [h2]; exact r
  · intro h
    cases h1 : M p with
    | none => rw [h1] at h; exact h.elim
    | some o => cases o with
      | dct => rw [h1] at h; exact h.elim
      | lst xs =>
        rw [h1] at h
        dsimp only at h
        cases h2 : intsOf xs with
        | none => rw [h2] at h; exact h.elim
        | some n => rw [h2] at h; exact ⟨xs, n, rfl, h2, h⟩
end
section
variable {α : Type} {a b c d e : α} {r : List α}
theorem at_0 : atI (a :: r) 0 = some a := atI_nat (j := 0) rfl
theorem at_1 : atI (a :: b :: r) 1 = some b := atI_nat (j := 1) rfl
theorem at_2 : atI (a :: b :: c :: r) 2 = some c := atI_nat (j := 2) rfl
theorem at_3 : atI (a :: b :: c :: d :: r) 3 = some d := atI_nat (j := 3) rfl
theorem at_4 : atI (a :: b :: c :: d :: e :: r) 4 = some e := atI_nat (j := 4) rfl
theorem at_m1 {xs : List α} : atI (xs ++ [a]) (-1) = some a := atI_last xs a
end
theorem tyD_int {i : Int} {M : Mp} : tyD (.int i) M = some "int" := rfl
theorem tyD_bl {b : Bool} {M : Mp} : tyD (.bl b) M = some "bool" := rfl
theorem tyD_str {x : Str} {M : Mp} : tyD (.str x) M = some "str" := rfl
theorem tyD_tup {ds : List D} {M : Mp} : tyD (.tup ds) M = some "tuple" := rfl
theorem tyD_non {M : Mp} : tyD .non M = some "NoneType" := rfl
theorem isi_ty {S T : String} {b : Bool} {d : D} {te : DE} {Γ : Gm} {M : Mp} {Q : DK} (ht : te Γ M = fun K => K d M) (h1 : tyD d M = some S) (h2 : kitB S T = some b) : dIsi T te Γ M Q = Q (.bl b) M := by
  unfold dIsi
  rw [ht]
  apply propext
  constructor
  · rintro ⟨S', b', e1, e2, r⟩
    rw [h1] at e1; cases e1
    rw [h2] at e2; cases e2
    exact r
  · exact fun r => ⟨S, b, h1, h2, r⟩
def wantB (o : Option Bool) (Q : Bool → Prop) : Prop := match o with
  | some d => Q d
  | none => False
theorem wantB_some {b : Bool} {Q : Bool → Prop} : wantB (some b) Q = Q b := rfl
theorem isi_eq {T : String} {te : DE} {Γ : Gm} {M : Mp} {Q : DK} : dIsi T te Γ M Q = te Γ M fun d M1 => match tyD d M1 with
  | some S => wantB (kitB S T) fun b => Q (.bl b) M1
  | none => False := by
  unfold dIsi
  congr 1
  funext d M1
  apply propext
  cases h1 : tyD d M1 with
  | none => exact ⟨fun ⟨_, _, h, _⟩ => (nomatch h), fun h => h.elim⟩
  | some S =>
    dsimp only
    unfold wantB
    cases h2 : kitB S T with
    | none => exact ⟨fun ⟨_, _, h, h', _⟩ => (by cases h; rw [h2] at h'; cases h'), fun h => h.elim⟩
    | some b => exact ⟨fun ⟨_, _, h, h', r⟩ => (by cases h; rw [h2] at h'; cases h'; exact r), fun r => ⟨S, b, rfl, h2, r⟩⟩
theorem kit_ii : kitB "int" "int" = some true := by decide +kernel
theorem kit_ib : kitB "int" "bool" = some false := by decide +kernel
theorem kit_is : kitB "int" "str" = some false := by decide +kernel
theorem kit_it : kitB "int" "tuple" = some false := by decide +kernel
theorem kit_bi : kitB "bool" "int" = some true := by decide +kernel
theorem kit_bb : kitB "bool" "bool" = some true := by decide +kernel
theorem kit_bs : kitB "bool" "str" = some false := by decide +kernel
theorem kit_bt : kitB "bool" "tuple" = some false := by decide +kernel
theorem kit_si : kitB "str" "int" = some false := by decide +kernel
theorem kit_sb : kitB "str" "bool" = some false := by decide +kernel
theorem kit_ss : kitB "str" "str" = some true := by decide +kernel
theorem kit_st : kitB "str" "tuple" = some false := by decide +kernel
theorem kit_ti : kitB "tuple" "int" = some false := by decide +kernel
theorem kit_tb : kitB "tuple" "bool" = some false := by decide +kernel
theorem kit_ts : kitB "tuple" "str" = some false := by decide +kernel
theorem kit_tt : kitB "tuple" "tuple" = some true := by decide +kernel
theorem kit_ni : kitB "NoneType" "int" = some false := by decide +kernel
theorem kit_nb : kitB "NoneType" "bool" = some false := by decide +kernel
theorem kit_ns : kitB "NoneType" "str" = some false := by decide +kernel
theorem kit_nt : kitB "NoneType" "tuple" = some false := by decide +kernel
theorem kit_li : kitB "list" "int" = some false := by decide +kernel
theorem kit_lb : kitB "list" "bool" = some false := by decide +kernel
theorem kit_ls : kitB "list" "str" = some false := by decide +kernel
theorem kit_lt : kitB "list" "tuple" = some false := by decide +kernel
end DL
end
section
set_option maxHeartbeats 4000000
/-! DE0: enumerate(t), t a tuple. -/
namespace GX
open PySem PySem.Spec PyProof.Rows L2

theorem enumNew {v : Value} {o : Obj} {H : Heap → Prop} (B : Begins v o H) :
    Meets (Builtin.«enumerate.__new__» ⟨[.type "enumerate", v], []⟩) (fun _ R s => H s.heap ∧ R (.ok (.ret (.ref (s.heap.push o).objs.size)))
      { s with heap := (s.heap.push o).push { cls := .type "enumerate", data := .fields #[.none, .bool false, .ref s.heap.objs.size, rawInt 0, .none, .none] } }) :=
  .of_wp fun prog w A R s h => by
    obtain ⟨hp, g, d, tk, os⟩ := s
    obtain ⟨h1, h⟩ := h
    have hsub := sub_enumerate
    have q1 : ∀ {A' : Around} {E : Value → Shared → Prop} {Q : Value → Shared → Prop}, Q (.ref hp.objs.size) ⟨hp.push o, g, d, tk, os⟩ → wpAny (model prog w) A' (pyIter v) Q E ⟨hp, g, d, tk, os⟩ := fun q =>
      B.iter prog w _ _ ⟨hp, g, d, tk, os⟩ _ h1 q
    wp_walk using q1
    refine wpAny_stack_any fun st => wpAny_pure ?_
    split
    · rename_i c _ _ _ _ _
      cases (c == Value.type "enumerate") <;> (wp_walk using q1; exact ⟨_, rfl, h⟩)
    · wp_walk using q1
      exact ⟨_, rfl, h⟩

theorem enum1 {prog : Program} {w : World} {A : Around} {E : Value → Shared → Prop} {s : Shared} {v : Value} {o : Obj} {H : Heap → Prop} {Q : Value → Shared → Prop} (B : Begins v o H) (h1 : H s.heap)
    (h : ∀ h', IsEnum h' (s.heap.objs.size + 1) s.heap.objs.size 0 .none → h'.get? s.heap.objs.size = some o → h'.objs.size = s.heap.objs.size + 2 → (∀ b o, s.heap.get? b = some o → h'.get? b = some o) → Q (.ref (s.heap.objs.size + 1)) { s with heap := h' }) :
    wpAny (model prog w) A (call (.type "enumerate") [v]) Q E s := by
  refine callType_new F.called_enumerate (by decide) (F.typeCall_enumerate_1 _) (F.newCall_enumerate_1 _) (fun obj => F.args_object_init_2 obj _) F.entry_enumerate_new (enumNew B) ⟨h1, ?_⟩
  have sz : (s.heap.push o).objs.size = s.heap.objs.size + 1 := Heap.size_push ..
  have he := Heap.get?_push_size (s.heap.push o) (o := { cls := .type "enumerate", data := .fields #[.none, .bool false, .ref s.heap.objs.size, rawInt 0, .none, .none] }) rfl
  rw [sz] at he
  show _ ∧ _
  rw [sz]
  exact ⟨⟨_, he, rfl⟩, h _ he (Heap.get?_push_of_some _ (Heap.get?_push_size _ B.free)) (by rw [Heap.size_push, sz]) fun b u x => Heap.get?_push_of_some _ (Heap.get?_push_of_some _ x)⟩
/-- the tuple at a, each item in a new pair -/
def IteT (K : PySem.W.Frag) (a : Addr) : It where
  go := fun i H => ∃ (xs : List V) (x : V), SqT K H a xs ∧ xs[i]? = some x
  yld := fun i H v H' => ∃ T x, v = .ref T ∧ H T = none ∧ H' = upd H T (.tup [.int (i : Nat), x]) ∧ ∀ xs, SqT K H a xs → xs[i]? = some x
  stop := fun i H => ∃ xs : List V, SqT K H a xs ∧ xs.length = i
theorem turn_enumT {P : Program} {w : World} {K : PySem.W.Frag} {elts : List Expr} {kk : Nat} {tpos : Pos} (a e it : Addr) (hat : a ≠ it) (hae : a ≠ e) :
    Turn P w K (.Tuple elts kk tpos) (IteT K a) [e, it] e (fun i h => (∃ old, IsEnum h e it ((i : Nat) : Int) old) ∧ h.IsTupleIter it a i ∧ e ≠ it) where
  mem := List.mem_cons_self
  obj := fun i h st b hb => by
    obtain ⟨⟨old, he⟩, ⟨o, ho, hc, hd⟩, _⟩ := st
    simp only [List.mem_cons, List.not_mem_nil, or_false] at hb
    rcases hb with z | z <;> rw [z]
    · exact ⟨_, he, fun v q => nomatch q⟩
    · exact ⟨o, ho, fun v q => by rw [hd] at q; cases q⟩
  keep := fun i h h' ⟨⟨old, he⟩, hi, hne⟩ k => ⟨⟨old, k e (by simp) _ he⟩, hi.at fun o q => k it (by simp) o q, hne⟩
  item := by
    intro X hP hw hK hc i pins s σ H E I hf st hg
    subst hP hw hK
    obtain ⟨⟨old, he⟩, hit, hne⟩ := st
    obtain ⟨xs, x, hq, hx⟩ := hg
    obtain ⟨its, rv, p, hz⟩ := I.tuple hq
    obtain ⟨u, hu, ru⟩ := rv.get hx
    have hlt : i < its.toArray.size := by
      have := (List.getElem?_eq_some_iff.mp hu).1
      simpa using this
    have hel : e < s.heap.objs.size := Heap.lt_size he
    have hil : it < s.heap.objs.size := by obtain ⟨_, q, _⟩ := hit; exact Heap.lt_size q
    have hef : e ∉ [it, a] := by simp [hne, hae.symm]
    refine wpAny_pyNext_enum_itemC (Draws.tuple (A := X.A.in1) (I.ok.hd hc) it a hat its.toArray) he ⟨hit, p⟩ hlt hne hef fun y h' tk hy ho hit' hT hsz hk => ?_
    have ey : y = u := by
      have : its.toArray[i]? = some u := by simpa using hu
      rw [this] at hy; exact (Option.some.inj hy).symm
    subst ey
    refine ⟨_, rfl, wpAny_letOwnedTupleGo_enum (s := { s with heap := h', toks := tk + 1 }) ho fun h'' he' sb => ?_⟩
    have hT2 : h''.get? s.heap.objs.size = some { cls := .type "tuple", data := .seq #[.int i tk, y] } := (sb.2 _ (Nat.ne_of_gt hel)).trans hT
    have new : ObjOk X.prog X.w (upd H s.heap.objs.size (.tup [.int (i : Nat), x])) h'' s.heap.objs.size (.tup [.int (i : Nat), x]) :=
      ⟨by show 2 ≤ sizeLine; decide, [.int i tk, y], .cons ⟨_, rfl⟩ (.cons ru .nil), ⟨_, hT2, rfl, _, rfl⟩⟩
    have I1 : Inv X pins σ (upd H s.heap.objs.size (.tup [.int (i : Nat), x])) { s with heap := h'', toks := tk + 1 } :=
      I.turnedNew (ch := [e, it]) (fun b ob hb q => by
        have n1 : b ≠ e := fun z => hb (by simp [z])
        have n2 : b ≠ it := fun z => hb (by simp [z])
        exact (sb.2 b n1).trans (hk b ob n1 n2 q)) hf (Nat.le_refl _) new
    refine ⟨.ref s.heap.objs.size, _, I1, rfl, ⟨_, x, rfl, I.hok.fresh (Nat.le_refl _), rfl, fun ys hy => by rw [I.tuple_inj hy hq]; exact hx⟩, ⟨⟨y, ?_⟩, hit'.1.at fun o q => (sb.2 it (Ne.symm hne)).trans q, hne⟩, fun b hb => ?_⟩
    · rw [show ((i + 1 : Nat) : Int) = (i : Int) + 1 from by omega]; exact he'
    · have hb' : b < s.heap.objs.size := by
        simp only [List.mem_cons, List.not_mem_nil, or_false] at hb
        rcases hb with z | z <;> rw [z]
        · exact hel
        · exact hil
      rw [upd_ne (Nat.ne_of_lt hb')]
      exact (hf b hb).1
  done := by
    intro X hP hw hK hc i pins s σ H E I hf st hg
    subst hP hw hK
    obtain ⟨⟨old, he⟩, hit, hne⟩ := st
    obtain ⟨xs, hq, hx⟩ := hg
    obtain ⟨its, rv, p, hz⟩ := I.tuple hq
    obtain ⟨f0, f1, f2, f3, f4, f5⟩ := hf it (by simp)
    have hn : its.toArray.size = i := by rw [List.size_toArray, ← rv.length, hx]
    have hl : s.heap.IsTupleIter it a its.toArray.size := by rw [hn]; exact hit
    exact wpAny_pyNext_enum_endD (Draws.tuple (A := X.A.in1) (I.ok.hd hc) it a hat its.toArray) he ⟨hl, p⟩ fun h' eb => ⟨rfl, I.turned (t' := s.toks) (fun b o hb q => eb b o hb q) f0 f1 f3 f4 f5⟩
  self := fun A i s Q E ⟨⟨_, he⟩, _⟩ h => wpAny_pyIter_enum he h

def iEnumT (K : PySem.W.Frag) (ta : TA) : TI := fun σ H R => ta σ H fun vs H1 => ∃ a xs, vs = [.ref a] ∧ SqT K H1 a xs ∧ R (IteT K a) H1
theorem pi_enumT {X : Cx} {e : Expr} {ta : TA} {p pos tpos : Pos} {elts : List Expr} {kk : Nat} (hg : Gl X "enumerate") (hm : X.mg "enumerate" = none) (ha : PA X [e] ta) (hs : starEach [e] X.env = [(false, eval e X.env)] := by rfl) :
    PI X (.Tuple elts kk tpos) (.Call (.Name "enumerate" p) [e] [] pos) (iEnumT X.K ta) := by
  refine ⟨fun pins s σ H R I h => ?_⟩
  refine Call_ (ld_blt I hg hm boot_enumerate (PyProof.Rows.callWith_type1 (thn (ha.run pos pins s σ H _ I h) fun us s1 ⟨vs, H1, I1, r1, a, xs, ex, hq, q⟩ => ?_) hs rfl))
  subst ex
  cases r1 with
  | cons r rr =>
    cases rr
    cases r
    obtain ⟨its, rv, p', hz⟩ := I1.tuple hq
    have la : a < s1.heap.objs.size := by obtain ⟨_, e, _⟩ := p'; exact Heap.lt_size e
    refine enum1 (begins_tuple a its.toArray) p' fun h' he hit hsz hk => wpAny_pyIter_enum he ?_
    refine ⟨s1.heap.objs.size + 1, [s1.heap.objs.size + 1, s1.heap.objs.size], _, _, H1, rfl, I1.kept (t' := s1.toks) hk, turn_enumT a (s1.heap.objs.size + 1) s1.heap.objs.size (Nat.ne_of_lt la) (Nat.ne_of_lt (Nat.lt_succ_of_lt la)), ⟨⟨.none, he⟩, ⟨_, hit, rfl, rfl⟩, Nat.succ_ne_self _⟩, fun b hb => ?_, q⟩
    have hle : s1.heap.objs.size ≤ b := by
      simp only [List.mem_cons, List.not_mem_nil, or_false] at hb
      rcases hb with z | z <;> rw [z]
      · exact Nat.le_succ _
      · exact Nat.le_refl _
    exact I1.fpOk hle (I1.hok.fresh hle)
end GX
end
section
set_option maxHeartbeats 4000000
/-! DL12: enumerate over trees, dicts written out, entries stored. -/
namespace DL
open PySem PySem.Spec PyProof.Rows L2

/-! ### enumerate -/
def enumD : Nat → List D → List D
  | _, [] => []
  | n, x :: xs => .tup [.int n, x] :: enumD (n + 1) xs
theorem enumD_get : ∀ {xs : List D} {n i : Nat} {d : D}, (enumD n xs)[i]? = some d → ∃ x, xs[i]? = some x ∧ d = .tup [.int ((n + i : Nat) : Int), x]
  | [], n, i, d, h => by simp [enumD] at h
  | x :: xs, n, 0, d, h => by
    simp only [enumD, List.getElem?_cons_zero, Option.some.injEq] at h
    exact ⟨x, rfl, h.symm⟩
  | x :: xs, n, i + 1, d, h => by
    simp only [enumD, List.getElem?_cons_succ] at h
    obtain ⟨y, h1, h2⟩ := enumD_get h
    exact ⟨y, by simpa using h1, by rw [h2, show n + 1 + i = n + (i + 1) from by omega]⟩
theorem enumD_len : ∀ (xs : List D) (n : Nat), (enumD n xs).length = xs.length
  | [], _ => rfl
  | _ :: xs, n => by simp only [enumD, List.length_cons, enumD_len xs]
def diEnumT (tr : DA) : DI := fun Γ M Q => tr Γ M fun ds M1 => match ds with
  | [.tup xs] => Q (enumD 0 xs) (fun _ => True) M1
  | _ => False
section
variable {X : Cx} {K : PySem.W.Frag} {e : Expr} {str : TA} {tr : DA} {p pos tpos : Pos}
theorem ienumT {elts : List Expr} {kk : Nat} (hg : Gl X "enumerate") (hm : X.mg "enumerate" = none) (ha : PDA X K [e] str tr) (hs : starEach [e] X.env = [(false, eval e X.env)] := by rfl) :
    PDI X K (.Tuple elts kk tpos) (.Call (.Name "enumerate" p) [e] [] pos) (GX.iEnumT K str) (diEnumT tr) := by
  have hK := ha.hK; subst hK
  refine ⟨rfl, GX.pi_enumT hg hm ha.pe hs, fun σ H Γ M Qd R hΓ hM ht hL => ha.se σ H Γ M _ _ hΓ hM ht fun ds M1 vs H1 h s r m => ?_⟩
  cases ds with
  | nil => exact h.elim
  | cons d t => cases t with
    | cons => cases d <;> exact h.elim
    | nil =>
      obtain ⟨v, rfl, r1⟩ := reps1 r
      cases d <;> first | exact h.elim | skip
      cases r1 with
      | tup q1 rs1 =>
        refine ⟨_, _, rfl, q1, hL _ _ M1 _ H1 h s m fun M2 H2 s2 m2 _ => ⟨fun i d e => ?_, ?_⟩⟩
        · obtain ⟨x, h1, rfl⟩ := enumD_get e
          obtain ⟨a, k1, k2⟩ := (rs1.kt s2).get h1
          refine ⟨⟨_, a, s2.sq q1, k1⟩, fun x' H3 yy => ?_⟩
          obtain ⟨T, x1, rfl, hT, rfl, e1⟩ := yy
          have f1 := e1 _ (s2.sq q1)
          rw [k1] at f1; cases f1
          rw [Nat.zero_add]
          exact zip_step m2 hT (.int _) k2
        · exact ⟨_, s2.sq q1, by rw [enumD_len, rs1.length]⟩
end

/-! ### dicts -/
theorem kreps_any {K : PySem.W.Frag} {H : Hp} {k : Key} {vs : List (Key × V)} {ds : List (Key × D)} (h : KReps K H vs ds) : (vs.any fun kv => decide (kv.1 = k)) = (ds.any fun kv => decide (kv.1 = k)) := by
  induction h with
  | nil => rfl
  | cons _ _ ih => rw [List.any_cons, List.any_cons, ih]
theorem kreps_map {K : PySem.W.Frag} {H : Hp} {k : Key} {v : V} {d : D} (r : Rep K H v d) {vs : List (Key × V)} {ds : List (Key × D)} (h : KReps K H vs ds) :
    KReps K H (vs.map fun kv => if kv.1 = k then (kv.1, v) else kv) (ds.map fun kv => if kv.1 = k then (kv.1, d) else kv) := by
  induction h with
  | nil => exact .nil
  | @cons j w e _ _ q _ ih =>
    rw [List.map_cons, List.map_cons]
    by_cases z : j = k
    · simp only [z, if_true]; exact .cons r ih
    · simp only [z, if_false]; exact .cons q ih
theorem kreps_end {K : PySem.W.Frag} {H : Hp} {k : Key} {v : V} {d : D} (r : Rep K H v d) {vs : List (Key × V)} {ds : List (Key × D)} (h : KReps K H vs ds) : KReps K H (vs ++ [(k, v)]) (ds ++ [(k, d)]) := by
  induction h with
  | nil => exact .cons r .nil
  | cons q _ ih => exact .cons q ih
theorem kreps_put {K : PySem.W.Frag} {H : Hp} {k : Key} {v : V} {d : D} (r : Rep K H v d) {vs : List (Key × V)} {ds : List (Key × D)} (h : KReps K H vs ds) : KReps K H (putK vs k v) (putD ds k d) := by
  unfold putK putD
  rw [kreps_any h]
  split
  · exact kreps_map r h
  · exact kreps_end r h
theorem kreps_len {K : PySem.W.Frag} {H : Hp} {vs : List (Key × V)} {ds : List (Key × D)} (h : KReps K H vs ds) : vs.length = ds.length := by
  induction h with
  | nil => rfl
  | cons _ _ ih => rw [List.length_cons, List.length_cons, ih]
def dDPut (td ty te : DE) : DS := fun F Γ M => te Γ M fun v M1 => td Γ M1 fun o M2 => ty Γ M2 fun y M3 => match o with
  | .ref a => ∃ kvs k, M3 a = some (.dct kvs) ∧ keyD y = some k ∧ kvs.length < sizeLine ∧ F.nx Γ (mupd M3 a (.dct (putD kvs k v)))
  | _ => False
section
variable {X : Cx} {K : PySem.W.Frag} {o i value : Expr} {pos pos' : Pos} {sto sti stv : TE} {to ti tv : DE}
theorem sdput (hu : X.A.units + 1 < cLine) (ho : PD X K o sto to) (hi : PD X K i sti ti) (hv : PD X K value stv tv) (hs : swapsWith value (some (.Subscript o i pos')) pos.line X.env = pure false := by rfl) :
    PDS X K (.Assign [.Subscript o i pos'] value pos) (sDPut sto sti stv) (dDPut to ti tv) := by
  have hK := ho.hK; subst hK
  refine ⟨rfl, ps_dput hu ho.pe hi.pe hv.pe hs, fun σ H Γ M F E hg hM ht hL => hv.se σ H Γ M _ _ hg hM ht fun v M1 w H1 h1 s1 r1 m1 => ho.se σ H1 Γ M1 _ _ (hg.step hM s1) m1 h1 fun d M2 x H2 h2 s2 r2 m2 => hi.se σ H2 Γ M2 _ _ ((hg.step hM s1).step m1 s2) m2 h2 fun y M3 z H3 h3 s3 r3 m3 => ?_⟩
  cases d <;> first | exact h3.elim | skip
  have r2' := r2.step m2 s3
  cases r2'
  rename_i a
  obtain ⟨kvs, k, e1, e2, e3, h4⟩ := h3
  obtain ⟨ks, g1, g2⟩ := m3.2 _ _ e1
  have rw' := (r1.step m1 s2).step m2 s3
  have st := Step.mut (M := M3) (H := H3) (o := .dK (putK ks k w)) (u := .dct (putD kvs k v)) e1
  refine ⟨a, _, rfl, ?_, hL.nx Γ _ σ _ h4 (((s1.trans s2).trans s3).trans st) ((((hg.step hM s1).step m1 s2).step m2 s3).step m3 st) (m3.mut e1 ⟨_, upd_same, (kreps_put rw' g2).step m3 st⟩)⟩
  rw [key_rep r3 e2]
  exact DPut.k g1 (by rw [kreps_len g2]; exact e3)
end

/-! ### dicts written out -/
def dPrs : List (DE × DE) → Gm → Mp → (List (D × D) → Mp → Prop) → Prop
  | [], _, M, Q => Q [] M
  | (k, v) :: r, Γ, M, Q => k Γ M fun x M1 => v Γ M1 fun y M2 => dPrs r Γ M2 fun ps M3 => Q ((x, y) :: ps) M3
def keysD : List (D × D) → Option (List (Key × D))
  | [] => some []
  | (k, v) :: r => match keyD k, keysD r with
    | some k, some r => some ((k, v) :: r)
    | _, _ => none
def mergeD (acc more : List (Key × D)) : List (Key × D) := more.foldl (fun acc kv => putD acc kv.1 kv.2) acc
def dDisp (prs : List (DE × DE)) : DE := fun Γ M Q => dPrs prs Γ M fun ps M2 => match keysD ps with
  | some kds => kds.length ≤ 15 ∧ ∀ p, M2 p = none → Q (.ref p) (mupd M2 p (.dct (mergeD [] kds)))
  | none => False
inductive PReps (K : PySem.W.Frag) (H : Hp) : List (V × V) → List (D × D) → Prop
  | nil : PReps K H [] []
  | cons {k v : V} {x y : D} {r : List (V × V)} {t : List (D × D)} : Rep K H k x → Rep K H v y → PReps K H r t → PReps K H ((k, v) :: r) ((x, y) :: t)
theorem preps_keys {K : PySem.W.Frag} {H : Hp} {vs : List (V × V)} {ps : List (D × D)} (h : PReps K H vs ps) : ∀ {kds : List (Key × D)}, keysD ps = some kds → ∃ kvs : List (Key × V), vs = kvs.map (fun kv => (kV kv.1, kv.2)) ∧ KReps K H kvs kds := by
  induction h with
  | nil => intro kds e; cases e; exact ⟨[], rfl, .nil⟩
  | @cons k v x y r t rk rv _ ih =>
    intro kds e
    unfold keysD at e
    cases e1 : keyD x with
    | none => rw [e1] at e; cases e
    | some j =>
      cases e2 : keysD t with
      | none => rw [e1, e2] at e; cases e
      | some q =>
        rw [e1, e2] at e
        cases e
        obtain ⟨kvs, e3, e4⟩ := ih e2
        exact ⟨(j, v) :: kvs, by rw [List.map_cons, ← e3, key_rep rk e1], .cons rv e4⟩
theorem kreps_merge {K : PySem.W.Frag} {H : Hp} {more : List (Key × V)} {mored : List (Key × D)} (h : KReps K H more mored) : ∀ {acc : List (Key × V)} {accd : List (Key × D)}, KReps K H acc accd → KReps K H (mergeK acc more) (mergeD accd mored) := by
  induction h with
  | nil => exact fun a => a
  | cons r _ ih => exact fun a => ih (kreps_put r a)
theorem preps_step {K : PySem.W.Frag} {M M' : Mp} {H H' : Hp} (m : RepM K H M) (s : Step M H M' H') {vs : List (V × V)} {ps : List (D × D)} (h : PReps K H vs ps) : PReps K H' vs ps := by
  induction h with
  | nil => exact .nil
  | cons a b _ ih => exact .cons (a.step m s) (b.step m s) ih
structure PDPs (X : Cx) (K : PySem.W.Frag) (pos : Pos) (keys : List (Option Expr)) (values : List Expr) (trs : List (TE × TE)) (drs : List (DE × DE)) : Prop where
  hK : X.K = K
  pe : PPs X pos keys values trs
  se : ∀ σ H Γ M (Qd : List (D × D) → Mp → Prop) (Q : List (V × V) → Hp → Prop), RG K H σ Γ → RepM K H M → dPrs drs Γ M Qd → (∀ ps M' vs H', Qd ps M' → Step M H M' H' → PReps K H' vs ps → RepM K H' M' → Q vs H') → tPairs trs σ H Q
section
variable {X : Cx} {K : PySem.W.Frag} {k v : Expr} {ks : List (Option Expr)} {vs : List Expr} {stk stv : TE} {tk tv : DE} {trs : List (TE × TE)} {drs : List (DE × DE)} {pos : Pos}
theorem ppnil (hK : X.K = K := by rfl) : PDPs X K pos [] [] [] [] := by
  subst hK
  exact ⟨rfl, pps_nil, fun σ H Γ M Qd Q hg m h l => l [] M [] H h Step.refl .nil m⟩
theorem ppcons (hk : PD X K k stk tk) (hv : PD X K v stv tv) (hr : PDPs X K pos ks vs trs drs) : PDPs X K pos (some k :: ks) (v :: vs) ((stk, stv) :: trs) ((tk, tv) :: drs) := by
  have hK := hk.hK; subst hK
  refine ⟨rfl, pps_cons hk.pe hv.pe hr.pe, fun σ H Γ M Qd Q hg m h l => hk.se σ H Γ M _ _ hg m h fun x M1 a H1 h1 s1 r1 m1 => hv.se σ H1 Γ M1 _ _ (hg.step m s1) m1 h1 fun y M2 b H2 h2 s2 r2 m2 => ?_⟩
  exact hr.se σ H2 Γ M2 _ _ ((hg.step m s1).step m1 s2) m2 h2 fun ps M3 ws H3 h3 s3 r3 m3 => l _ M3 _ H3 h3 ((s1.trans s2).trans s3) (.cons ((r1.step m1 s2).step m2 s3) (r2.step m2 s3) r3) m3
theorem ddisp {keys : List (Option Expr)} {values : List Expr} (h : PDPs X K pos keys values trs drs) (hall : keys.all (·.isSome) = true := by rfl) (hl : keys.length = values.length := by rfl) (h0 : keys ≠ [] := by (intro z; cases z)) (h15 : keys.length ≤ 15 := by decide) :
    PD X K (.Dict keys values pos) (tDisp trs) (dDisp drs) := by
  have hK := h.hK; subst hK
  refine ⟨rfl, pe_disp h.pe hall hl h0 h15, fun σ H Γ M Qd Q hg m ht hL => fun p hp => ?_⟩
  have m0 := m.new (o := .dK []) hp
  refine h.se σ (upd H p (.dK [])) Γ M _ _ (hg.step m (Step.new hp)) m0 ht fun ps M2 ws H2 h2 s2 r2 m2 => ?_
  obtain ⟨e1, e2⟩ := s2 p _ upd_same (m.fresh hp) (by intro ps z; cases z)
  refine ⟨e1, ?_⟩
  cases hk : keysD ps with
  | none => rw [hk] at h2; exact h2.elim
  | some kds =>
    rw [hk] at h2
    obtain ⟨kvs, e3, e4⟩ := preps_keys r2 hk
    have kt : KT H2 (upd H2 p (.dK (mergeK [] kvs))) := ⟨fun a xs e => by rw [upd_ne (fun z => by rw [z, e1] at e; cases e)]; exact e, fun a o u e => by rw [upd_ne (fun z => by rw [z, e1] at e; cases e)]; exact e⟩
    refine ⟨kvs, e3, by rw [kreps_len e4]; exact h2.1, hL _ (mupd M2 p (.dct (mergeD [] kds))) _ _ (h2.2 p e2) (fun a o ha hm nt => ?_) (.ref p) ⟨m2.1.upd (by rw [e1]; intro ps z; cases z), fun a o ha => ?_⟩⟩
    · have hn : a ≠ p := ne_of_none ha hp
      obtain ⟨w1, w2⟩ := s2 a o (by rw [upd_ne hn]; exact ha) hm nt
      exact ⟨by rw [upd_ne hn]; exact w1, by rw [mupd_ne hn]; exact w2⟩
    · by_cases hn : a = p
      · subst hn
        rw [mupd_same] at ha
        cases ha
        exact ⟨_, upd_same, (kreps_merge e4 .nil).kt kt⟩
      · rw [mupd_ne hn] at ha
        exact (m2.2 a o ha).kt kt (upd_ne hn)
end
end DL
end
section
set_option maxHeartbeats 4000000
/-! FA: the layer FL: defs as plain Lean functions. Codes, what stands now, the judgements. -/
namespace FL
open PySem PySem.Spec PyProof.Rows L2 DL

/-! ### codes -/
/-- an exception: its class by name, its fields -/
structure Xn where
  cls : Str
  fs : List (Str × D)
inductive Res (S α : Type) where
  | ok (a : α) (s : S)
  | exc (e : Xn) (s : S)
  | stuck
abbrev Cd (S α : Type) := S → Res S α
section
variable {S α β : Type}
def Res.wp (m : Res S α) (Q : α → S → Prop) (E : Xn → S → Prop) : Prop := match m with
  | .ok a s => Q a s
  | .exc e s => E e s
  | .stuck => False
def okS (a : α) : Cd S α := fun s => .ok a s
def stk : Cd S α := fun _ => .stuck
def exS (e : Xn) : Cd S α := fun s => .exc e s
def bindS (m : Cd S α) (f : α → Cd S β) : Cd S β := fun s => match m s with
  | .ok a s' => f a s'
  | .exc e s' => .exc e s'
  | .stuck => .stuck
def optS : Option α → Cd S α
  | some a => okS a
  | none => stk
def liftU (m : Res Unit α) : Cd S α := fun s => match m with
  | .ok a _ => .ok a s
  | .exc e _ => .exc e s
  | .stuck => .stuck
theorem wp_bind {m : Cd S α} {f : α → Cd S β} {s : S} {Q : β → S → Prop} {E : Xn → S → Prop} : (bindS m f s).wp Q E ↔ (m s).wp (fun a s' => (f a s').wp Q E) E := by
  unfold bindS
  cases m s <;> exact Iff.rfl
theorem Res.wp.mono {m : Res S α} {Q Q' : α → S → Prop} {E E' : Xn → S → Prop} (h : m.wp Q E) (hQ : ∀ a s, Q a s → Q' a s) (hE : ∀ e s, E e s → E' e s := by exact fun _ _ h => h) : m.wp Q' E' := by
  cases m with
  | ok a s => exact hQ a s h
  | exc e s => exact hE e s h
  | stuck => exact h.elim
end

/-! ### the state that a law's defs hand on: where it stands -/
structure SMod (S : Type) where
  dom : Addr → Prop
  put : S → Mp → Mp
  out : ∀ s B a, ¬ dom a → put s B a = B a
  inn : ∀ s B B' a, dom a → put s B a = put s B' a
  som : ∀ s B a, dom a → put s B a ≠ none
def unitM : SMod Unit := ⟨fun _ => False, fun _ B => B, fun _ _ _ _ => rfl, fun _ _ _ _ h => h.elim, fun _ _ _ h => h.elim⟩

/-! ### slots -/
/-- a slot's value: a value; or a list, a dict that this slot alone holds -/
inductive FV where
  | val (d : D)
  | own (o : MO)
abbrev FG := List (Option FV)
def gf : FG → Nat → Option FV
  | [], _ => none
  | o :: _, 0 => o
  | _ :: r, n + 1 => gf r n
def sf : FG → Nat → Option FV → FG
  | [], _, _ => []
  | _ :: r, 0, x => x :: r
  | o :: r, n + 1, x => o :: sf r n x
theorem sf_len : ∀ (G : FG) (i : Nat) (x : Option FV), (sf G i x).length = G.length
  | [], _, _ => rfl
  | _ :: _, 0, _ => rfl
  | _ :: r, n + 1, x => by show (sf r n x).length + 1 = r.length + 1; rw [sf_len r n x]
theorem gf_sf_ne : ∀ {G : FG} {i j : Nat} {x : Option FV}, j ≠ i → gf (sf G i x) j = gf G j
  | [], _, _, _, _ => rfl
  | _ :: _, 0, 0, _, h => absurd rfl h
  | _ :: _, 0, _ + 1, _, _ => rfl
  | _ :: _, _ + 1, 0, _, _ => rfl
  | _ :: r, n + 1, m + 1, x, h => gf_sf_ne (G := r) (i := n) (j := m) (fun e => h (by rw [e]))
theorem gf_sf : ∀ {G : FG} {i : Nat} {x : Option FV} {y : FV}, gf (sf G i x) i = some y → x = some y ∧ i < G.length
  | [], _, _, _, h => by cases h
  | _ :: _, 0, _, _, h => ⟨h, Nat.succ_pos _⟩
  | _ :: r, n + 1, x, y, h => by
    have := gf_sf (G := r) (i := n) (x := x) (y := y) h
    exact ⟨this.1, Nat.succ_lt_succ this.2⟩
theorem gf_lt : ∀ {G : FG} {i : Nat} {y : FV}, gf G i = some y → i < G.length
  | [], _, _, h => by cases h
  | _ :: _, 0, _, _ => Nat.succ_pos _
  | _ :: r, n + 1, y, h => Nat.succ_lt_succ (gf_lt (G := r) (i := n) h)
/-- the slots forgotten -/
def killF (G : FG) : List Nat → FG
  | [] => G
  | i :: is => sf (killF G is) i none
/-- G' knows no more than G -/
def leG : FG → FG → Prop
  | [], [] => True
  | _ :: r, none :: r' => leG r r'
  | o :: r, o' :: r' => o = o' ∧ leG r r'
  | _, _ => False
theorem leG_len : ∀ {G G' : FG}, leG G G' → G.length = G'.length
  | [], [], _ => rfl
  | [], none :: _, h => h.elim
  | [], some _ :: _, h => h.elim
  | _ :: _, [], h => h.elim
  | _ :: r, none :: r', h => by show r.length + 1 = r'.length + 1; rw [leG_len (show leG r r' from h)]
  | _ :: r, some _ :: r', h => by show r.length + 1 = r'.length + 1; rw [leG_len h.2]
theorem leG_get : ∀ {G G' : FG} {i : Nat} {y : FV}, leG G G' → gf G' i = some y → gf G i = some y
  | [], [], _, _, _, h => by cases h
  | [], none :: _, _, _, l, _ => l.elim
  | [], some _ :: _, _, _, l, _ => l.elim
  | _ :: _, [], _, _, l, _ => l.elim
  | _ :: r, none :: r', 0, y, _, h => by cases h
  | _ :: r, none :: r', n + 1, y, l, h => leG_get (G := r) (G' := r') (i := n) l h
  | o :: r, some x :: r', 0, y, l, h => l.1.trans h
  | _ :: r, some x :: r', n + 1, y, l, h => leG_get (G := r) (G' := r') (i := n) l.2 h
theorem leG_refl : ∀ G : FG, leG G G
  | [] => trivial
  | none :: r => leG_refl r
  | some _ :: r => ⟨rfl, leG_refl r⟩

/-! ### what stands now -/
/-- what is fixed through a def's body: the store at the entry without the state, with it, the heap; what is wanted of an exception -/
structure FE (K : PySem.W.Frag) (S : Type) where
  Z : SMod S
  B0 : Mp
  M0 : Mp
  H0 : Hp
  Xi : Xn → S → Prop
/-- p was not there at the entry -/
def Fre {K : PySem.W.Frag} {S : Type} (C : FE K S) (p : Addr) : Prop := ∀ o, C.H0 p = some o → C.M0 p = none → ∃ ps, o = .tbl ps
structure Now {K : PySem.W.Frag} {S : Type} (C : FE K S) (σ : L2.St) (H : Hp) (G : FG) (B : Mp) (s : S) : Prop where
  len : σ.length = G.length
  vals : ∀ i d, gf G i = some (.val d) → ∃ v, σ[i]? = some (some v) ∧ Rep K H v d
  owns : ∀ i o, gf G i = some (.own o) → ∃ p, σ[i]? = some (some (.ref p)) ∧ ¬ C.Z.dom p ∧ B p = some o ∧ C.B0 p = none ∧ Fre C p
  dist : ∀ i j o u p q, i ≠ j → gf G i = some (.own o) → gf G j = some (.own u) → σ[i]? = some (some (.ref p)) → σ[j]? = some (some (.ref q)) → p ≠ q
  sub : ∀ a o, C.B0 a = some o → B a = some o
  rm : RepM K H (C.Z.put s B)
  st : Step C.M0 C.H0 (C.Z.put s B) H
section
variable {K : PySem.W.Frag} {S : Type} {C : FE K S} {σ : L2.St} {H H' : Hp} {G G' : FG} {B B' : Mp} {s s' : S}
theorem Now.next (n : Now C σ H G B s) (k : KT H H') (st : Step (C.Z.put s B) H (C.Z.put s' B) H') (m : RepM K H' (C.Z.put s' B)) : Now C σ H' G B s' where
  len := n.len
  vals := fun i d h => by
    obtain ⟨v, h1, h2⟩ := n.vals i d h
    exact ⟨v, h1, h2.kt k⟩
  owns := n.owns
  dist := n.dist
  sub := n.sub
  rm := m
  st := n.st.trans st
theorem Same.kt (x : Same H H') : KT H H' := ⟨fun a xs e => x _ _ e, fun a o u e => x _ _ e⟩
theorem Same.rm {M : Mp} (x : Same H H') (m : RepM K H M) : RepM K H' M := ⟨fun P hP => by
  obtain ⟨ps, e, t⟩ := m.1 P hP
  exact ⟨ps, x _ _ e, t⟩, fun a o e => by
  have r := m.2 a o e
  cases o with
  | lst ds => obtain ⟨vs, h1, h2⟩ := r; exact ⟨vs, x _ _ h1, h2.kt (Same.kt x)⟩
  | dct kvs => obtain ⟨vs, h1, h2⟩ := r; exact ⟨vs, x _ _ h1, h2.kt (Same.kt x)⟩⟩
theorem Same.step {M : Mp} (x : Same H H') : Step M H M H' := fun a o e m _ => ⟨x _ _ e, m⟩
/-- only new objects -/
theorem Now.ext (n : Now C σ H G B s) (x : Same H H') : Now C σ H' G B s := n.next (Same.kt x) (Same.step x) (Same.rm x n.rm)
theorem Same.new {p : Addr} {o : HO} (hp : H p = none) : Same H (upd H p o) := fun b u e => by rw [upd_ne (ne_of_none e hp)]; exact e
theorem Now.weak (n : Now C σ H G B s) (l : leG G G') : Now C σ H G' B s where
  len := n.len.trans (leG_len l)
  vals := fun i d h => n.vals i d (leG_get l h)
  owns := fun i o h => n.owns i o (leG_get l h)
  dist := fun i j o u p q hn h1 h2 => n.dist i j o u p q hn (leG_get l h1) (leG_get l h2)
  sub := n.sub
  rm := n.rm
  st := n.st
/-- a slot gets a value -/
theorem Now.setV {i : Nat} {v : V} {d : D} (n : Now C σ H G B s) (r : Rep K H v d) (hi : i < G.length) : Now C (σ.set i (some v)) H (sf G i (some (.val d))) B s where
  len := by rw [List.length_set, sf_len]; exact n.len
  vals := fun j e h => by
    by_cases hj : j = i
    · subst hj
      obtain ⟨h1, _⟩ := gf_sf h
      cases h1
      exact ⟨v, by rw [List.getElem?_set_self (by rw [n.len]; exact hi)], r⟩
    · rw [gf_sf_ne hj] at h
      obtain ⟨w, h1, h2⟩ := n.vals j e h
      exact ⟨w, by rw [List.getElem?_set_ne (Ne.symm hj)]; exact h1, h2⟩
  owns := fun j o h => by
    by_cases hj : j = i
    · subst hj
      obtain ⟨h1, _⟩ := gf_sf h
      cases h1
    · rw [gf_sf_ne hj] at h
      obtain ⟨p, h1, h2⟩ := n.owns j o h
      exact ⟨p, by rw [List.getElem?_set_ne (Ne.symm hj)]; exact h1, h2⟩
  dist := fun j k o u p q hn h1 h2 h3 h4 => by
    have hj : j ≠ i := fun e => by subst e; obtain ⟨z, _⟩ := gf_sf h1; cases z
    have hk : k ≠ i := fun e => by subst e; obtain ⟨z, _⟩ := gf_sf h2; cases z
    rw [gf_sf_ne hj] at h1
    rw [gf_sf_ne hk] at h2
    rw [List.getElem?_set_ne (Ne.symm hj)] at h3
    rw [List.getElem?_set_ne (Ne.symm hk)] at h4
    exact n.dist j k o u p q hn h1 h2 h3 h4
  sub := n.sub
  rm := n.rm
  st := n.st
/-- the store's base turns at an address outside the state -/
theorem put_upd {Z : SMod S} {p : Addr} {o : MO} (hp : ¬ Z.dom p) : Z.put s (mupd B p o) = mupd (Z.put s B) p o := by
  funext a
  by_cases hd : Z.dom a
  · have : a ≠ p := fun e => hp (by rw [← e]; exact hd)
    rw [mupd_ne this]
    exact Z.inn _ _ _ _ hd
  · rw [Z.out _ _ _ hd]
    by_cases e : a = p
    · subst e; rw [mupd_same, mupd_same]
    · rw [mupd_ne e, mupd_ne e, Z.out _ _ _ hd]
def mdel (M : Mp) (p : Addr) : Mp := fun a => if a = p then none else M a
theorem mdel_ne {M : Mp} {p a : Addr} (h : a ≠ p) : mdel M p a = M a := by unfold mdel; rw [if_neg h]
theorem mdel_same {M : Mp} {p : Addr} : mdel M p p = none := by unfold mdel; rw [if_pos rfl]
theorem put_del {Z : SMod S} {p : Addr} (hp : ¬ Z.dom p) : Z.put s (mdel B p) = mdel (Z.put s B) p := by
  funext a
  by_cases hd : Z.dom a
  · have : a ≠ p := fun e => hp (by rw [← e]; exact hd)
    rw [mdel_ne this]
    exact Z.inn _ _ _ _ hd
  · rw [Z.out _ _ _ hd]
    by_cases e : a = p
    · subst e; rw [mdel_same, mdel_same]
    · rw [mdel_ne e, mdel_ne e, Z.out _ _ _ hd]
theorem none_put {Z : SMod S} {p : Addr} (h : Z.put s B p = none) : ¬ Z.dom p ∧ B p = none := by
  have hd : ¬ Z.dom p := fun z => Z.som s B p z h
  exact ⟨hd, by rw [Z.out _ _ _ hd] at h; exact h⟩
theorem Now.b0 (n : Now C σ H G B s) {p : Addr} (h : B p = none) : C.B0 p = none := by
  cases e : C.B0 p with
  | none => rfl
  | some o => rw [n.sub p o e] at h; cases h
theorem Now.fre (n : Now C σ H G B s) {p : Addr} (hp : H p = none) : Fre C p := fun o h m => by
  by_cases t : ∃ ps, o = .tbl ps
  · exact t
  · have := (n.st p o h m (fun ps e => t ⟨ps, e⟩)).1
    rw [hp] at this; cases this
theorem step_free {M : Mp} {p : Addr} {u : HO} {M' : Mp} (st : Step C.M0 C.H0 M H) (f : Fre C p) (hM : ∀ a, a ≠ p → M' a = M a) : Step C.M0 C.H0 M' (upd H p u) := fun a o h m nt => by
  have hn : a ≠ p := fun e => by
    subst e
    obtain ⟨ps, e⟩ := f o h m
    exact nt ps e
  obtain ⟨h1, h2⟩ := st a o h m nt
  exact ⟨by rw [upd_ne hn]; exact h1, by rw [hM a hn]; exact h2⟩
/-- slot i gets a new own thing -/
theorem Now.newOwn {i : Nat} {p : Addr} {o : HO} {u : MO} (n : Now C σ H G B s) (hp : H p = none) (r : RepO K (upd H p o) p u) (hi : i < G.length) : Now C (σ.set i (some (.ref p))) (upd H p o) (sf G i (some (.own u))) (mupd B p u) s := by
  obtain ⟨hd, hb⟩ := none_put (n.rm.fresh hp)
  have rm := n.rm.newM hp r
  rw [← put_upd hd] at rm
  refine ⟨by rw [List.length_set, sf_len]; exact n.len, fun j e h => ?_, fun j w h => ?_, fun j k a b q q' hn h1 h2 h3 h4 => ?_, fun a w e => ?_, rm, ?_⟩
  · have hj : j ≠ i := fun e => by subst e; obtain ⟨z, _⟩ := gf_sf h; cases z
    rw [gf_sf_ne hj] at h
    obtain ⟨w, h1, h2⟩ := n.vals j e h
    exact ⟨w, by rw [List.getElem?_set_ne (Ne.symm hj)]; exact h1, h2.kt (Same.kt (Same.new hp))⟩
  · by_cases hj : j = i
    · subst hj
      obtain ⟨z, _⟩ := gf_sf h
      cases z
      exact ⟨p, by rw [List.getElem?_set_self (by rw [n.len]; exact hi)], hd, mupd_same, n.b0 hb, n.fre hp⟩
    · rw [gf_sf_ne hj] at h
      obtain ⟨q, h1, h2, h3, h4⟩ := n.owns j w h
      exact ⟨q, by rw [List.getElem?_set_ne (Ne.symm hj)]; exact h1, h2, by rw [mupd_ne (fresh_ne hb h3)]; exact h3, h4⟩
  · have old : ∀ (j : Nat) (a : MO) (q : Addr), j ≠ i → gf (sf G i (some (.own u))) j = some (.own a) → (σ.set i (some (.ref p)))[j]? = some (some (.ref q)) → gf G j = some (.own a) ∧ σ[j]? = some (some (.ref q))   := fun j a q hj h h' => by
      rw [gf_sf_ne hj] at h
      rw [List.getElem?_set_ne (Ne.symm hj)] at h'
      exact ⟨h, h'⟩
    have new : ∀ q, (σ.set i (some (V.ref p)))[i]? = some (some (.ref q)) → q = p := fun q h => by
      rw [List.getElem?_set_self (by rw [n.len]; exact hi)] at h
      cases h; rfl
    have far : ∀ (j : Nat) (a : MO) (q : Addr), gf G j = some (.own a) → σ[j]? = some (some (.ref q)) → q ≠ p := fun j a q h h' => by
      obtain ⟨q2, h1, _, h3, _⟩ := n.owns j a h
      rw [h'] at h1; cases h1
      exact fresh_ne hb h3
    by_cases hj : j = i
    · subst hj
      have e1 := new q h3
      obtain ⟨h2, h4⟩ := old k b q' (Ne.symm hn) h2 h4
      rw [e1]
      exact (far k b q' h2 h4).symm
    · obtain ⟨g1, g3⟩ := old j a q hj h1 h3
      by_cases hk : k = i
      · subst hk
        rw [new q' h4]
        exact far j a q g1 g3
      · obtain ⟨g2, g4⟩ := old k b q' hk h2 h4
        exact n.dist j k a b q q' hn g1 g2 g3 g4
  · have := n.sub a w e
    rw [mupd_ne (fresh_ne hb this)]; exact this
  · rw [put_upd hd]
    exact step_free n.st (n.fre hp) fun a h => mupd_ne h
/-- slot i's own thing turns -/
theorem Now.mutOwn {i : Nat} {p : Addr} {o h0 : HO} {u v : MO} (n : Now C σ H G B s) (hi : gf G i = some (.own v)) (hs : σ[i]? = some (some (.ref p))) (kt : KT H (upd H p o)) (r : RepO K (upd H p o) p u) : Now C σ (upd H p o) (sf G i (some (.own u))) (mupd B p u) s := by
  obtain ⟨p', e, hd, hb, hb0, hf⟩ := n.owns i v hi
  rw [hs] at e; cases e
  have hM : C.Z.put s B p = some v := by rw [C.Z.out _ _ _ hd]; exact hb
  have rm := n.rm.mut hM r
  rw [← put_upd hd] at rm
  refine ⟨by rw [sf_len]; exact n.len, fun j e h => ?_, fun j w h => ?_, fun j k a b q q' hn h1 h2 h3 h4 => ?_, fun a w e => ?_, rm, ?_⟩
  · have hj : j ≠ i := fun e => by subst e; obtain ⟨z, _⟩ := gf_sf h; cases z
    rw [gf_sf_ne hj] at h
    obtain ⟨w, h1, h2⟩ := n.vals j e h
    exact ⟨w, h1, h2.kt kt⟩
  · by_cases hj : j = i
    · subst hj
      obtain ⟨z, _⟩ := gf_sf h
      cases z
      exact ⟨p, hs, hd, mupd_same, hb0, hf⟩
    · rw [gf_sf_ne hj] at h
      obtain ⟨q, h1, h2, h3, h4⟩ := n.owns j w h
      exact ⟨q, h1, h2, by rw [mupd_ne (n.dist j i w v q p hj h hi h1 hs)]; exact h3, h4⟩
  · have old : ∀ j a, gf (sf G i (some (.own u))) j = some (.own a) → ∃ b, gf G j = some (.own b) := fun j a h => by
      by_cases hj : j = i
      · subst hj; exact ⟨v, hi⟩
      · rw [gf_sf_ne hj] at h; exact ⟨a, h⟩
    obtain ⟨a', h1⟩ := old j a h1
    obtain ⟨b', h2⟩ := old k b h2
    exact n.dist j k a' b' q q' hn h1 h2 h3 h4
  · have := n.sub a w e
    rw [mupd_ne (fun z => by subst z; rw [hb0] at e; cases e)]; exact this
  · rw [put_upd hd]
    exact step_free n.st hf fun a h => mupd_ne h
/-- slot i's own thing stands still from now on -/
theorem Now.frz {i : Nat} {p : Addr} {od : Obj} {h0 : HO} {v : MO} {d : D} (n : Now C σ H G B s) (hi : gf G i = some (.own v)) (hs : σ[i]? = some (some (.ref p))) (hh : H p = some h0) (ht : ∀ xs, h0 ≠ .tup xs) (hz : ∀ o w, h0 ≠ .frz o w) (htb : ∀ ps, h0 ≠ .tbl ps)
    (r : Rep K (upd H p (.frz od h0)) (.ref p) d) : Now C σ (upd H p (.frz od h0)) (sf G i (some (.val d))) (mdel B p) s := by
  obtain ⟨p', e, hd, hb, hb0, hf⟩ := n.owns i v hi
  rw [hs] at e; cases e
  have hM : C.Z.put s B p = some v := by rw [C.Z.out _ _ _ hd]; exact hb
  have kt : KT H (upd H p (.frz od h0)) := ⟨fun a xs e => by rw [upd_ne (ne_of e hh (fun z => ht xs z.symm))]; exact e, fun a o w e => by rw [upd_ne (ne_of e hh (fun z => hz o w z.symm))]; exact e⟩
  refine ⟨by rw [sf_len]; exact n.len, fun j e h => ?_, fun j w h => ?_, fun j k a b q q' hn h1 h2 h3 h4 => ?_, fun a w e => ?_, ?_, ?_⟩
  · by_cases hj : j = i
    · subst hj
      obtain ⟨z, _⟩ := gf_sf h
      cases z
      exact ⟨_, hs, r⟩
    · rw [gf_sf_ne hj] at h
      obtain ⟨w, h1, h2⟩ := n.vals j e h
      exact ⟨w, h1, h2.kt kt⟩
  · have hj : j ≠ i := fun e => by subst e; obtain ⟨z, _⟩ := gf_sf h; cases z
    rw [gf_sf_ne hj] at h
    obtain ⟨q, h1, h2, h3, h4⟩ := n.owns j w h
    exact ⟨q, h1, h2, by rw [mdel_ne (n.dist j i w v q p hj h hi h1 hs)]; exact h3, h4⟩
  · have hj : j ≠ i := fun e => by subst e; obtain ⟨z, _⟩ := gf_sf h1; cases z
    have hk : k ≠ i := fun e => by subst e; obtain ⟨z, _⟩ := gf_sf h2; cases z
    rw [gf_sf_ne hj] at h1
    rw [gf_sf_ne hk] at h2
    exact n.dist j k a b q q' hn h1 h2 h3 h4
  · have := n.sub a w e
    rw [mdel_ne (fun z => by subst z; rw [hb0] at e; cases e)]; exact this
  · rw [put_del hd]
    refine ⟨n.rm.1.upd (fun ps z => by rw [hh] at z; cases z; exact htb ps rfl), fun a w e => ?_⟩
    have ha : a ≠ p := fun z => by subst z; rw [mdel_same] at e; cases e
    rw [mdel_ne ha] at e
    exact (n.rm.2 a w e).kt kt (upd_ne ha)
  · rw [put_del hd]
    exact step_free n.st hf fun a h => mdel_ne h
end
end FL
end
section
set_option maxHeartbeats 4000000
/-! FB: expressions. -/
namespace FL
open PySem PySem.Spec PyProof.Rows L2 DL

section
variable {K : PySem.W.Frag} {S : Type}
def SimE (C : FE K S) (te : TE) (G : FG) (m : Cd S D) : Prop := ∀ σ H B s (Q : VK), Now C σ H G B s → (m s).wp (fun d s' => ∀ v H', KT H H' → Now C σ H' G B s' → Rep K H' v d → Q v H') C.Xi → te σ H Q
def SimT (C : FE K S) (te : TT) (G : FG) (m : Cd S Bool) : Prop := ∀ σ H B s (Q : Bool → Hp → Prop), Now C σ H G B s → (m s).wp (fun d s' => ∀ H', KT H H' → Now C σ H' G B s' → Q d H') C.Xi → te σ H Q
def SimA (C : FE K S) (te : TA) (G : FG) (m : Cd S (List D)) : Prop := ∀ σ H B s (Q : List V → Hp → Prop), Now C σ H G B s → (m s).wp (fun d s' => ∀ v H', KT H H' → Now C σ H' G B s' → Reps K H' v d → Q v H') C.Xi → te σ H Q
def SimO (C : FE K S) (te : TO) (G : FG) (m : Cd S (Option Int)) : Prop := ∀ σ H B s (Q : Option Int → Hp → Prop), Now C σ H G B s → (m s).wp (fun d s' => ∀ H', KT H H' → Now C σ H' G B s' → Q d H') C.Xi → te σ H Q
/-- a new list -/
def SimL (C : FE K S) (te : TE) (G : FG) (m : Cd S (List D)) : Prop := ∀ σ H B s (Q : VK), Now C σ H G B s → (m s).wp (fun l s' => ∀ p H', KT H H' → ¬ C.Z.dom p → B p = none → Fre C p → Now C σ H' G (mupd B p (.lst l)) s' → Q (.ref p) H') C.Xi → te σ H Q
structure PF (X : Cx) (C : FE K S) (e : Expr) (te : TE) (G : FG) (m : Cd S D) : Prop where
  hK : X.K = K
  pe : PE X e te
  se : SimE C te G m
structure PFL (X : Cx) (C : FE K S) (e : Expr) (te : TE) (G : FG) (m : Cd S (List D)) : Prop where
  hK : X.K = K
  pe : PE X e te
  se : SimL C te G m
structure PFT (X : Cx) (C : FE K S) (e : Expr) (te : TT) (G : FG) (m : Cd S Bool) : Prop where
  hK : X.K = K
  pe : PT X e te
  se : SimT C te G m
structure PFW (X : Cx) (C : FE K S) (e : Expr) (te : TT) (G : FG) (m : Cd S Bool) : Prop where
  hK : X.K = K
  pe : PW X e te
  se : SimT C te G m
structure PFA (X : Cx) (C : FE K S) (es : List Expr) (te : TA) (G : FG) (m : Cd S (List D)) : Prop where
  hK : X.K = K
  pe : PA X es te
  se : SimA C te G m
structure PFO (X : Cx) (C : FE K S) (e : Option Expr) (te : TO) (G : FG) (m : Cd S (Option Int)) : Prop where
  hK : X.K = K
  pe : PO X e te
  se : SimO C te G m
end
section
variable {K : PySem.W.Frag} {S β : Type} {C : FE K S} {G : FG} {σ : L2.St} {H : Hp} {B : Mp} {s : S} {f : D → Cd S β} {Ψ : β → S → Prop}
theorem SimE.seq {te : TE} {m : Cd S D} {Q : VK} (h : SimE C te G m) (n : Now C σ H G B s) (w : (bindS m f s).wp Ψ C.Xi) (k : ∀ a s1 v H1, KT H H1 → Now C σ H1 G B s1 → Rep K H1 v a → (f a s1).wp Ψ C.Xi → Q v H1) : te σ H Q :=
  h σ H B s Q n ((wp_bind.mp w).mono fun a s1 w1 v H1 k1 n1 r1 => k a s1 v H1 k1 n1 r1 w1)
theorem SimT.seq {te : TT} {m : Cd S Bool} {f : Bool → Cd S β} {Q : Bool → Hp → Prop} (h : SimT C te G m) (n : Now C σ H G B s) (w : (bindS m f s).wp Ψ C.Xi) (k : ∀ a s1 H1, KT H H1 → Now C σ H1 G B s1 → (f a s1).wp Ψ C.Xi → Q a H1) : te σ H Q :=
  h σ H B s Q n ((wp_bind.mp w).mono fun a s1 w1 H1 k1 n1 => k a s1 H1 k1 n1 w1)
theorem SimA.seq {te : TA} {m : Cd S (List D)} {f : List D → Cd S β} {Q : List V → Hp → Prop} (h : SimA C te G m) (n : Now C σ H G B s) (w : (bindS m f s).wp Ψ C.Xi) (k : ∀ a s1 v H1, KT H H1 → Now C σ H1 G B s1 → Reps K H1 v a → (f a s1).wp Ψ C.Xi → Q v H1) : te σ H Q :=
  h σ H B s Q n ((wp_bind.mp w).mono fun a s1 w1 v H1 k1 n1 r1 => k a s1 v H1 k1 n1 r1 w1)
theorem SimO.seq {te : TO} {m : Cd S (Option Int)} {f : Option Int → Cd S β} {Q : Option Int → Hp → Prop} (h : SimO C te G m) (n : Now C σ H G B s) (w : (bindS m f s).wp Ψ C.Xi) (k : ∀ a s1 H1, KT H H1 → Now C σ H1 G B s1 → (f a s1).wp Ψ C.Xi → Q a H1) : te σ H Q :=
  h σ H B s Q n ((wp_bind.mp w).mono fun a s1 w1 H1 k1 n1 => k a s1 H1 k1 n1 w1)
theorem SimL.seq {te : TE} {m : Cd S (List D)} {f : List D → Cd S β} {Q : VK} (h : SimL C te G m) (n : Now C σ H G B s) (w : (bindS m f s).wp Ψ C.Xi)
    (k : ∀ l s1 p H1, KT H H1 → ¬ C.Z.dom p → B p = none → Fre C p → Now C σ H1 G (mupd B p (.lst l)) s1 → (f l s1).wp Ψ C.Xi → Q (.ref p) H1) : te σ H Q :=
  h σ H B s Q n ((wp_bind.mp w).mono fun a s1 w1 p H1 k1 a1 a2 a3 n1 => k a s1 p H1 k1 a1 a2 a3 n1 w1)
theorem wp_opt {α : Type} {o : Option α} {s : S} {Q : α → S → Prop} {E : Xn → S → Prop} (h : (optS o s).wp Q E) : ∃ a, o = some a ∧ Q a s := by
  cases o with
  | none => exact h.elim
  | some a => exact ⟨a, rfl, h⟩
/-- behind an operation that leaves the store -/
theorem Now.lift (n : Now C σ H G B s) {z : D} {Q : VK} (q : ∀ v H', KT H H' → Now C σ H' G B s → Rep K H' v z → Q v H') : Lift K (C.Z.put s B) H (fun d' M' => d' = z ∧ M' = C.Z.put s B) Q := fun d M' v H' ⟨e1, e2⟩ st r m => by
  subst e1; subst e2
  have k := st.kt n.rm
  exact q v H' k (n.next k st m) r
/-- behind an operation that makes a list -/
theorem Now.liftL (n : Now C σ H G B s) {z : List D} {Q : VK} (q : ∀ p H', KT H H' → ¬ C.Z.dom p → B p = none → Fre C p → Now C σ H' G (mupd B p (.lst z)) s → Q (.ref p) H') :
    Lift K (C.Z.put s B) H (fun d' M' => ∃ p, d' = .ref p ∧ C.Z.put s B p = none ∧ M' = mupd (C.Z.put s B) p (.lst z)) Q := fun d M' v H' ⟨p, e1, hp, e2⟩ st r m => by
  subst e1; subst e2
  cases r
  obtain ⟨hd, hb⟩ := none_put hp
  have k := st.kt n.rm
  have hf : Fre C p := fun o h m0 => by
    by_cases t : ∃ ps, o = .tbl ps
    · exact t
    · have h1 := n.st p o h m0 (fun ps e => t ⟨ps, e⟩)
      have h2 := (st p o h1.1 h1.2 (fun ps e => t ⟨ps, e⟩)).2
      rw [mupd_same] at h2; cases h2
  refine q p H' k hd hb hf ⟨n.len, fun i d h => ?_, fun i o h => ?_, n.dist, fun a o e => ?_, by rw [put_upd hd]; exact m, by rw [put_upd hd]; exact n.st.trans st⟩
  · obtain ⟨w, h1, h2⟩ := n.vals i d h
    exact ⟨w, h1, h2.kt k⟩
  · obtain ⟨p', h1, h2, h3, h4⟩ := n.owns i o h
    exact ⟨p', h1, h2, by rw [mupd_ne (fresh_ne hb h3)]; exact h3, h4⟩
  · have := n.sub a o e
    rw [mupd_ne (fresh_ne hb this)]; exact this
end

section
variable {K : PySem.W.Frag} {S : Type} {X : Cx} {C : FE K S} {G : FG} {a b c e : Expr} {sta stb stc ste : TE} {ma mb mc me : Cd S D} {pos : Pos}
/-! ### names, constants -/
theorem fv (i : Nat) {d : D} {x : Str} {pos : Pos} (hG : gf G i = some (.val d) := by rfl) (hN : X.N[i]? = some x := by rfl) (hv : Vis X.env.scope x := by first | exact Or.inl rfl | exact Or.inr (Or.inl rfl) | exact Or.inr (Or.inr rfl)) (hd : (x == ("__debug__" : Str)) = false := by decide)
    (hcd : (x == ("__classdict__" : Str)) = false := by decide) (hK : X.K = K := by rfl) : PF X C (.Name x pos) (tVar i) G (okS d) :=
  ⟨hK, pe_var hN hv hd hcd, fun σ H B s Q n w => by
    obtain ⟨v, h1, h2⟩ := n.vals i d hG
    exact ⟨v, h1, w v H KT.refl n h2⟩⟩
theorem se_c {v : V} {d : D} (r : ∀ H, Rep K H v d) : SimE C (tC v) G (okS d) := fun σ H B s Q n w => w v H KT.refl n (r H)
theorem fint {i j} (hK : X.K = K := by rfl) : PF X C (.Constant (.int i) j pos) (tC (.int i)) G (okS (.int i)) := ⟨hK, pe_int, se_c fun _ => .int i⟩
theorem fbl {i j} (hK : X.K = K := by rfl) : PF X C (.Constant (.bool i) j pos) (tC (.bl i)) G (okS (.bl i)) := ⟨hK, pe_bl, se_c fun _ => .bl i⟩
theorem fnon {j} (hK : X.K = K := by rfl) : PF X C (.Constant .none j pos) (tC .non) G (okS .non) := ⟨hK, pe_non, se_c fun _ => .non⟩
theorem fstr {x j} (hK : X.K = K := by rfl) : PF X C (.Constant (.str x) j pos) (tC (.str x)) G (okS (.str x)) := ⟨hK, pe_str, se_c fun _ => .str x⟩
theorem fglobI {x : Str} {i : Int} {t : Tok} (hg : Gl X x) (hm : X.mg x = some (.int i t)) (hd : (x == ("__debug__" : Str)) = false := by decide) (hK : X.K = K := by rfl) : PF X C (.Name x pos) (tC (.int i)) G (okS (.int i)) :=
  ⟨hK, pe_glob (v := .int i) hg hm ⟨_, rfl⟩ hd, se_c fun _ => .int i⟩
theorem fglobS {x : Str} {z : Str} {t : Tok} (hg : Gl X x) (hm : X.mg x = some (.str z t)) (hd : (x == ("__debug__" : Str)) = false := by decide) (hK : X.K = K := by rfl) : PF X C (.Name x pos) (tC (.str z)) G (okS (.str z)) :=
  ⟨hK, pe_glob (v := .str z) hg hm ⟨_, rfl⟩ hd, se_c fun _ => .str z⟩

/-! ### two-place operations -/
/-- the function op does what the reading o says -/
def Imp (o : O2) (op : D → D → Option D) : Prop := ∀ d e M z, op d e = some z → o d e M fun d' M' => d' = z ∧ M' = M
/-- .. its left side a list of the store -/
def ImpO (o : O2) (op : D → D → Option D) : Prop := ∀ p l e M z, M p = some (.lst l) → op (.fl l) e = some z → o (.ref p) e M fun d' M' => d' = z ∧ M' = M
def ImpR (o : O2) (op : D → D → Option D) : Prop := ∀ p l d M z, M p = some (.lst l) → op d (.fl l) = some z → o d (.ref p) M fun d' M' => d' = z ∧ M' = M
theorem se_op {r : R2} {o : O2} {op : D → D → Option D} (ho : SOp K r o) (im : Imp o op) (ha : SimE C sta G ma) (hb : SimE C stb G mb) : SimE C (tOp r sta stb) G (bindS ma fun x => bindS mb fun y => optS (op x y)) := fun σ H B s Q n w =>
  ha.seq n w fun x s1 v H1 k1 n1 r1 w1 => hb.seq n1 w1 fun y s2 u H2 k2 n2 r2 w2 => by
    obtain ⟨z, e, q⟩ := wp_opt w2
    exact ho v u x y H2 _ _ Q (r1.kt k2) r2 n2.rm (im x y _ z e) (n2.lift fun v' H' k3 n3 r3 => q v' H' ((k1.trans k2).trans k3) n3 r3)
theorem fop {ro : R2} {opr : Operator} {o : O2} {op : D → D → Option D} (ho : POp X K (binaryOp opr) ro o) (im : Imp o op) (ha : PF X C a sta G ma) (hb : PF X C b stb G mb) : PF X C (.BinOp a opr b pos) (tOp ro sta stb) G (bindS ma fun x => bindS mb fun y => optS (op x y)) := by
  have hK := ho.hK; subst hK
  exact ⟨rfl, pe_op ho.pe ha.pe hb.pe, se_op ho.se im ha.se hb.se⟩
theorem fcmp {ro : R2} {opr : CmpOp} {o : O2} {op : D → D → Option D} (ho : POp X K (compareOp opr) ro o) (im : Imp o op) (ha : PF X C a sta G ma) (hb : PF X C b stb G mb) (hm : behindInMarks opr b = false := by first | exact nomark _ | rfl) : PF X C (.Compare a [opr] [b] pos) (tOp ro sta stb) G (bindS ma fun x => bindS mb fun y => optS (op x y)) := by
  have hK := ho.hK; subst hK
  exact ⟨rfl, pe_cmpR ho.pe ha.pe hb.pe hm, se_op ho.se im ha.se hb.se⟩
/-- a truth value, as a Bool -/
def asBl : D → Option Bool
  | .bl b => some b
  | _ => none
def toB (m : Cd S D) : Cd S Bool := bindS m fun d => optS (asBl d)
theorem se_test {sa : TE} (ha : SimE C sa G ma) : SimT C (tTest sa) G (toB ma) := fun σ H B s Q n w =>
  ha.seq n w fun d s1 v H1 k1 n1 r1 w1 => by
    obtain ⟨b, e, q⟩ := wp_opt w1
    cases d <;> cases e
    cases r1
    exact ⟨_, rfl, q H1 k1 n1⟩
theorem ftcmp {ro : R2} {opr : CmpOp} {o : O2} {op : D → D → Option D} (ho : POp X K (compareOp opr) ro o) (im : Imp o op) (ha : PF X C a sta G ma) (hb : PF X C b stb G mb) (hm : behindInMarks opr b = false := by first | exact nomark _ | rfl) : PFT X C (.Compare a [opr] [b] pos) (tTest (tOp ro sta stb)) G (toB (bindS ma fun x => bindS mb fun y => optS (op x y))) := by
  have hK := ho.hK; subst hK
  exact ⟨rfl, pt_cmpR ho.pe ha.pe hb.pe hm, se_test (se_op ho.se im ha.se hb.se)⟩
/-- truth of any value -/
def truD : D → Option Bool
  | .non => some false
  | .bl b => some b
  | .int i => some (i != 0)
  | .str y => if y.length ≤ sizeLine then some ((y.length : Int) != 0) else none
  | .tup ds => some (!ds.isEmpty)
  | .fl ds => some (!ds.isEmpty)
  | .ref _ => none
theorem tru_ofF {H : Hp} {x : V} {d : D} {k : Bool} (r : Rep K H x d) (h : truD d = some k) : TruV K x H k := by
  cases r with
  | non => cases h; exact rfl
  | bl b => cases h; exact rfl
  | int i => cases h; exact rfl
  | str y =>
    unfold truD at h
    dsimp only at h
    split at h
    · cases h; rename_i hl; exact ⟨hl, rfl⟩
    · cases h
  | tup q r => cases h; exact .inr (.inl ⟨_, q, (reps_isEmpty r).symm⟩)
  | fl q r => cases h; exact .inl ⟨_, q.sq, (reps_isEmpty r).symm⟩
  | ref a => cases h
def toTr (m : Cd S D) : Cd S Bool := bindS m fun d => optS (truD d)
theorem fttru (h : PF X C e ste G me) (he : ∀ whole, isTrue e X.env whole = (do let v ← whole; standAt e.pos; holding [v] (truthy v)) := by intro _; rfl) : PFT X C e (fun σ H Q => ste σ H fun x H1 => ∃ k, TruV K x H1 k ∧ Q k H1) G (toTr me) := by
  have hK := h.hK; subst hK
  refine ⟨rfl, pt_truth h.pe he, fun σ H B s Q n w => h.se.seq n w fun d s1 v H1 k1 n1 r1 w1 => ?_⟩
  obtain ⟨b, e, q⟩ := wp_opt w1
  exact ⟨b, tru_ofF r1 e, q H1 k1 n1⟩
/-- .. of an own list -/
theorem ftruO (i : Nat) {l : List D} {x : Str} {pos : Pos} (hG : gf G i = some (.own (.lst l)) := by rfl) (hN : X.N[i]? = some x := by rfl) (hv : Vis X.env.scope x := by first | exact Or.inl rfl | exact Or.inr (Or.inl rfl) | exact Or.inr (Or.inr rfl)) (hd : (x == ("__debug__" : Str)) = false := by decide)
    (hcd : (x == ("__classdict__" : Str)) = false := by decide) (hK : X.K = K := by rfl) (he : ∀ whole, isTrue (.Name x pos) X.env whole = (do let v ← whole; standAt (Expr.Name x pos).pos; holding [v] (truthy v)) := by intro _; rfl) :
    PFT X C (.Name x pos) (fun σ H Q => tVar i σ H fun x H1 => ∃ k, TruV K x H1 k ∧ Q k H1) G (okS (!l.isEmpty)) := by
  subst hK
  refine ⟨rfl, pt_truth (pe_var hN hv hd hcd) he, fun σ H B s Q n w => ?_⟩
  obtain ⟨p, h1, h2, h3, _⟩ := n.owns i _ hG
  obtain ⟨vs, g1, g2⟩ := n.rm.2 p (.lst l) (by rw [C.Z.out _ _ _ h2]; exact h3)
  exact ⟨_, h1, _, .inl ⟨vs, SqL.of g1, (reps_isEmpty g2).symm⟩, w H KT.refl n⟩

/-! ### and, or, not, if-else -/
section
variable {stt stu : TT} {mt mu : Cd S Bool} {rest : List Expr}
theorem se_and (ht : SimT C stt G mt) (hu : SimT C stu G mu) : SimT C (tAnd stt stu) G (bindS mt fun k => cond k mu (okS false)) := fun σ H B s Q n w =>
  ht.seq n w fun k s1 H1 k1 n1 w1 => by
    cases k with
    | true =>
      rw [if_pos rfl]
      exact hu σ H1 B s1 Q n1 (Res.wp.mono w1 fun b s2 q H2 k2 n2 => q H2 (k1.trans k2) n2)
    | false =>
      rw [if_neg Bool.false_ne_true]
      exact w1 H1 k1 n1
theorem se_or (ht : SimT C stt G mt) (hu : SimT C stu G mu) : SimT C (tOr stt stu) G (bindS mt fun k => cond k (okS true) mu) := fun σ H B s Q n w =>
  ht.seq n w fun k s1 H1 k1 n1 w1 => by
    cases k with
    | false =>
      rw [if_neg Bool.false_ne_true]
      exact hu σ H1 B s1 Q n1 (Res.wp.mono w1 fun b s2 q H2 k2 n2 => q H2 (k1.trans k2) n2)
    | true =>
      rw [if_pos rfl]
      exact w1 H1 k1 n1
theorem fwand1 (ha : PFT X C a stt G mt) : PFW X C (.BoolOp .And [a] pos) stt G mt := ⟨ha.hK, pw_and1 ha.pe, ha.se⟩
theorem fwor1 (ha : PFT X C a stt G mt) : PFW X C (.BoolOp .Or [a] pos) stt G mt := ⟨ha.hK, pw_or1 ha.pe, ha.se⟩
theorem fwand (ha : PFT X C a stt G mt) (hb : PFW X C (.BoolOp .And (b :: rest) pos) stu G mu) : PFW X C (.BoolOp .And (a :: b :: rest) pos) (tAnd stt stu) G (bindS mt fun k => cond k mu (okS false)) := ⟨ha.hK, pw_and ha.pe hb.pe, se_and ha.se hb.se⟩
theorem fwor (ha : PFT X C a stt G mt) (hb : PFW X C (.BoolOp .Or (b :: rest) pos) stu G mu) : PFW X C (.BoolOp .Or (a :: b :: rest) pos) (tOr stt stu) G (bindS mt fun k => cond k (okS true) mu) := ⟨ha.hK, pw_or ha.pe hb.pe, se_or ha.se hb.se⟩
theorem PFW.pt (h : PFW X C e stt G mt) : PFT X C e stt G mt := ⟨h.hK, h.pe.pt, h.se⟩
theorem ftnot (ha : PFT X C a stt G mt) : PFT X C (.UnaryOp .Not a pos) (tNot stt) G (bindS mt fun k => okS (!k)) :=
  ⟨ha.hK, pt_not ha.pe, fun σ H B s Q n w => ha.se.seq n w fun k s1 H1 k1 n1 w1 => w1 H1 k1 n1⟩
theorem fone {opr} (h : PF X C a sta G ma) : PF X C (.BoolOp opr [a] pos) sta G ma := ⟨h.hK, pe_one h.pe, h.se⟩
theorem fand (ha : PF X C a sta G ma) (hb : PF X C (.BoolOp .And (b :: rest) pos) stb G mb) : PF X C (.BoolOp .And (a :: b :: rest) pos) (tAndV sta stb) G (bindS (toB ma) fun k => cond k mb (okS (.bl false))) :=
  ⟨ha.hK, pe_and ha.pe hb.pe, fun σ H B s Q n w => by
    unfold toB at w
    refine ha.se σ H B s _ n ?_
    have w2 := wp_bind.mp w
    have w3 := wp_bind.mp w2
    refine w3.mono fun d s1 w1 v H1 k1 n1 r1 => ?_
    obtain ⟨k, e, q⟩ := wp_opt w1
    cases d <;> cases e
    cases r1
    refine ⟨_, rfl, ?_⟩
    cases k with
    | true =>
      rw [if_pos rfl]
      exact hb.se σ H1 B s1 Q n1 (Res.wp.mono q fun z s2 q v H2 k2 n2 r => q v H2 (k1.trans k2) n2 r)
    | false =>
      rw [if_neg Bool.false_ne_true]
      exact q _ H1 k1 n1 (.bl false)⟩
theorem for' (ha : PF X C a sta G ma) (hb : PF X C (.BoolOp .Or (b :: rest) pos) stb G mb) : PF X C (.BoolOp .Or (a :: b :: rest) pos) (tOrV sta stb) G (bindS (toB ma) fun k => cond k (okS (.bl true)) mb) :=
  ⟨ha.hK, pe_or ha.pe hb.pe, fun σ H B s Q n w => by
    unfold toB at w
    refine ha.se σ H B s _ n ?_
    have w2 := wp_bind.mp w
    have w3 := wp_bind.mp w2
    refine w3.mono fun d s1 w1 v H1 k1 n1 r1 => ?_
    obtain ⟨k, e, q⟩ := wp_opt w1
    cases d <;> cases e
    cases r1
    refine ⟨_, rfl, ?_⟩
    cases k with
    | false =>
      rw [if_neg Bool.false_ne_true]
      exact hb.se σ H1 B s1 Q n1 (Res.wp.mono q fun z s2 q v H2 k2 n2 r => q v H2 (k1.trans k2) n2 r)
    | true =>
      rw [if_pos rfl]
      exact q _ H1 k1 n1 (.bl true)⟩
theorem fnot (ha : PF X C a sta G ma) : PF X C (.UnaryOp .Not a pos) (tNotV sta) G (bindS (toB ma) fun k => okS (.bl (!k))) :=
  ⟨ha.hK, pe_not ha.pe, fun σ H B s Q n w => by
    unfold toB at w
    refine ha.se σ H B s _ n ?_
    refine (wp_bind.mp (wp_bind.mp w)).mono fun d s1 w1 v H1 k1 n1 r1 => ?_
    obtain ⟨k, e, q⟩ := wp_opt w1
    cases d <;> cases e
    cases r1
    exact ⟨_, rfl, q _ H1 k1 n1 (.bl _)⟩⟩
theorem fif (hc : PFT X C c stt G mt) (ha : PF X C a sta G ma) (hb : PF X C b stb G mb) : PF X C (.IfExp c a b pos) (tIf stt sta stb) G (bindS mt fun k => cond k ma mb) :=
  ⟨hc.hK, pe_ifExp hc.pe ha.pe hb.pe, fun σ H B s Q n w => hc.se.seq n w fun k s1 H1 k1 n1 w1 => by
    cases k with
    | true =>
      rw [if_pos rfl]
      exact ha.se σ H1 B s1 Q n1 (Res.wp.mono w1 fun z s2 q v H2 k2 n2 r => q v H2 (k1.trans k2) n2 r)
    | false =>
      rw [if_neg Bool.false_ne_true]
      exact hb.se σ H1 B s1 Q n1 (Res.wp.mono w1 fun z s2 q v H2 k2 n2 r => q v H2 (k1.trans k2) n2 r)⟩
end
/-- a bool as a test, where the whole is any expression that isTrue takes plainly -/
theorem ftval (h : PF X C e ste G me) (he : ∀ whole, isTrue e X.env whole = (do let v ← whole; standAt e.pos; holding [v] (truthy v)) := by intro _; rfl) : PFT X C e (tB ste) G (toB me) := by
  refine ⟨h.hK, pt_val h.pe he, fun σ H B s Q n w => h.se.seq n w fun d s1 v H1 k1 n1 r1 w1 => ?_⟩
  obtain ⟨b, e, q⟩ := wp_opt w1
  cases d <;> cases e
  cases r1
  exact ⟨_, rfl, q H1 k1 n1⟩

/-! ### arguments, displays -/
section
variable {es : List Expr} {str : TA} {mr : Cd S (List D)}
theorem fanil (hK : X.K = K := by rfl) : PFA X C [] tNil G (okS []) := ⟨hK, pa_nil, fun σ H B s Q n w => w [] H KT.refl n .nil⟩
theorem facons (ha : PF X C e ste G me) (hr : PFA X C es str G mr) (hs : starEach (e :: es) X.env = (false, eval e X.env) :: starEach es X.env := by rfl) : PFA X C (e :: es) (tCons ste str) G (bindS me fun x => bindS mr fun r => okS (x :: r)) :=
  ⟨ha.hK, pa_cons ha.pe hr.pe hs, fun σ H B s Q n w => ha.se.seq n w fun x s1 v H1 k1 n1 r1 w1 => hr.se.seq n1 w1 fun r s2 vs H2 k2 n2 r2 w2 => w2 _ H2 (k1.trans k2) n2 (.cons (r1.kt k2) r2)⟩
/-- the length is not too great -/
def lenOk (l : List D) : Option (List D) := if l.length ≤ sizeLine then some l else none
theorem lenOk_some {l z : List D} (h : lenOk l = some z) : l.length ≤ sizeLine ∧ l = z := by
  unfold lenOk at h
  split at h
  · rename_i hl; cases h; exact ⟨hl, rfl⟩
  · cases h
def tupO (l : List D) : Option D := if l.length ≤ sizeLine then some (.tup l) else none
theorem tupO_some {l : List D} {z : D} (h : tupO l = some z) : l.length ≤ sizeLine ∧ z = .tup l := by
  unfold tupO at h
  split at h
  · rename_i hl; cases h; exact ⟨hl, rfl⟩
  · cases h
theorem ftup {x1} (h : PFA X C es str G mr) : PF X C (.Tuple es x1 pos) (tTup str) G (bindS mr fun r => optS (tupO r)) :=
  ⟨h.hK, pe_tup h.pe, fun σ H B s Q n w => h.se.seq n w fun ds s1 vs H1 k1 n1 r1 w1 => by
    obtain ⟨z, e, q⟩ := wp_opt w1
    obtain ⟨h1, rfl⟩ := tupO_some e
    refine ⟨by rw [r1.length]; exact h1, fun p hp => ?_⟩
    have x := Same.new (o := HO.tup vs) hp
    exact q _ _ (k1.trans (Same.kt x)) (n1.ext x) (.tup (SqT.of upd_same) (r1.kt (Same.kt x)))⟩
theorem Now.newL {σ : L2.St} {H : Hp} {B : Mp} {s : S} {p : Addr} {vs : List V} {ds : List D} (n : Now C σ H G B s) (hp : H p = none) (r : Reps K H vs ds) : ¬ C.Z.dom p ∧ B p = none ∧ Fre C p ∧ KT H (upd H p (.lst vs)) ∧ Now C σ (upd H p (.lst vs)) G (mupd B p (.lst ds)) s := by
  obtain ⟨hd, hb⟩ := none_put (n.rm.fresh hp)
  have x := Same.new (o := HO.lst vs) hp
  have rm := n.rm.newM (u := .lst ds) hp ⟨vs, upd_same, r.kt (Same.kt x)⟩
  rw [← put_upd hd] at rm
  refine ⟨hd, hb, n.fre hp, Same.kt x, n.len, fun i d h => ?_, fun i o h => ?_, n.dist, fun a o e => ?_, rm, ?_⟩
  · obtain ⟨w, h1, h2⟩ := n.vals i d h
    exact ⟨w, h1, h2.kt (Same.kt x)⟩
  · obtain ⟨p', h1, h2, h3, h4⟩ := n.owns i o h
    exact ⟨p', h1, h2, by rw [mupd_ne (fresh_ne hb h3)]; exact h3, h4⟩
  · have := n.sub a o e
    rw [mupd_ne (fresh_ne hb this)]; exact this
  · rw [put_upd hd]
    exact step_free n.st (n.fre hp) fun a h => mupd_ne h
theorem flst (h : PFA X C es str G mr) : PFL X C (.List es pos) (tLst str) G (bindS mr fun r => optS (lenOk r)) :=
  ⟨h.hK, pe_lst h.pe, fun σ H B s Q n w => h.se.seq n w fun ds s1 vs H1 k1 n1 r1 w1 => by
    obtain ⟨z, e, q⟩ := wp_opt w1
    obtain ⟨h1, rfl⟩ := lenOk_some e
    refine ⟨by rw [r1.length]; exact h1, fun p hp => ?_⟩
    obtain ⟨a1, a2, a3, a4, a5⟩ := n1.newL hp r1
    exact q p _ (k1.trans a4) a1 a2 a3 a5⟩
end

/-! ### a new list stands still -/
def tFrzE (t : TE) : TE := fun σ H Q => t σ H fun v H' => ∃ d u, H' d = some u ∧ Mut (some u) ∧ ∀ od, Q v (upd H' d (.frz od u))
theorem pe_frz {e : Expr} {t : TE} (h : PE X e t) : PE X e (tFrzE t) := by
  refine ⟨fun pins s σ H Q I hw => thn (h.run pins s σ _ _ I hw) fun v s1 ⟨x, H1, I2, r, d, u, hd, mu, q⟩ => ?_⟩
  obtain ⟨od, I3⟩ := I2.lock hd mu
  exact ⟨x, _, I3, r, q od⟩
theorem ffl {ml : Cd S (List D)} (h : PFL X C e ste G ml) : PF X C e (tFrzE ste) G (bindS ml fun l => okS (.fl l)) := by
  refine ⟨h.hK, pe_frz h.pe, fun σ H B s Q n w => h.se.seq n w fun l s1 p H1 k1 hd hb hf n1 w1 => ?_⟩
  obtain ⟨vs, g1, g2⟩ := n1.rm.2 p (.lst l) (by rw [C.Z.out _ _ _ hd, mupd_same])
  refine ⟨p, _, g1, trivial, fun od => ?_⟩
  have kt : KT H1 (upd H1 p (.frz od (.lst vs))) := KT.lst g1
  have hB : mdel (mupd B p (.lst l)) p = B := by
    funext a
    by_cases e : a = p
    · subst e; rw [mdel_same, hb]
    · rw [mdel_ne e, mupd_ne e]
  refine w1 _ _ (k1.trans kt) ⟨n1.len, fun i d h => ?_, fun i o h => ?_, n1.dist, fun a o e => ?_, ?_, ?_⟩ (.fl (.inl ⟨od, upd_same⟩) (g2.kt kt))
  · obtain ⟨w, h1, h2⟩ := n1.vals i d h
    exact ⟨w, h1, h2.kt kt⟩
  · exact n.owns i o h
  · exact n.sub a o e
  · rw [← hB, put_del hd]
    refine ⟨n1.rm.1.upd (fun ps z => by rw [g1] at z; cases z), fun a o e => ?_⟩
    have ha : a ≠ p := fun z => by subst z; rw [mdel_same] at e; cases e
    rw [mdel_ne ha] at e
    exact (n1.rm.2 a o e).kt kt (upd_ne ha)
  · rw [← hB, put_del hd]
    exact step_free n1.st hf fun a h => mdel_ne h

/-! ### built-ins by values -/
def Imp1 (o : OC) (op : List D → Option D) : Prop := ∀ ds M z, op ds = some z → o ds M fun d' M' => d' = z ∧ M' = M
def Imp1L (o : OC) (op : List D → Option (List D)) : Prop := ∀ ds M z, op ds = some z → o ds M fun d' M' => ∃ p, d' = .ref p ∧ M p = none ∧ M' = mupd M p (.lst z)
section
variable {x : Str} {p : Pos} {id T : String} {ro : List V → Hp → VK → Prop} {o : OC} {op : List D → Option D} {opl : List D → Option (List D)} {es : List Expr} {str : TA} {mr : Cd S (List D)}
theorem se_cb {r : List V → Hp → VK → Prop} {sr : TA} (h : SCall K r o) (im : Imp1 o op) (hr : SimA C sr G mr) : SimE C (tCB r sr) G (bindS mr fun ds => optS (op ds)) := fun σ H B s Q n w =>
  hr.seq n w fun ds s1 vs H1 k1 n1 r1 w1 => by
    obtain ⟨z, e, q⟩ := wp_opt w1
    exact h vs ds H1 _ _ Q r1 n1.rm (im ds _ z e) (n1.lift fun v H' k2 n2 r2 => q v H' (k1.trans k2) n2 r2)
theorem se_cbL {r : List V → Hp → VK → Prop} {sr : TA} (h : SCall K r o) (im : Imp1L o opl) (hr : SimA C sr G mr) : SimL C (tCB r sr) G (bindS mr fun ds => optS (opl ds)) := fun σ H B s Q n w =>
  hr.seq n w fun ds s1 vs H1 k1 n1 r1 w1 => by
    obtain ⟨z, e, q⟩ := wp_opt w1
    exact h vs ds H1 _ _ Q r1 n1.rm (im ds _ z e) (n1.liftL fun p H' k2 a b c n2 => q p H' (k1.trans k2) a b c n2)
theorem fcallB (hc : PCall X K (.builtin id) ro o) (im : Imp1 o op) (hg : Gl X x) (hm : X.mg x = none) (hv : bootBuiltins x = some (.builtin id)) (ha : PFA X C (e :: es) str G mr) (hn : x ≠ "__name__" := by decide) (hdb : (x == ("__debug__" : Str)) = false := by decide)
    (he : starEach (e :: es) X.env = (false, eval e X.env) :: starEach es X.env := by rfl) (hpl : (backTo pos (starEach es X.env)).any (·.1) = false := by rfl) : PF X C (.Call (.Name x p) (e :: es) [] pos) (tCB ro str) G (bindS mr fun ds => optS (op ds)) := by
  have hK := hc.hK; subst hK
  exact ⟨rfl, pe_callB hc.pe hg hm hv ha.pe hn hdb he hpl, se_cb hc.se im ha.se⟩
theorem fcallTy (hc : PCall X K (.type T) ro o) (im : Imp1 o op) (hg : Gl X x) (hm : X.mg x = none) (hv : bootBuiltins x = some (.type T)) (ha : PFA X C (e :: es) str G mr) (hn : x ≠ "__name__" := by decide) (hdb : (x == ("__debug__" : Str)) = false := by decide)
    (he : starEach (e :: es) X.env = (false, eval e X.env) :: starEach es X.env := by rfl) (hpl : (backTo pos (starEach es X.env)).any (·.1) = false := by rfl) : PF X C (.Call (.Name x p) (e :: es) [] pos) (tCB ro str) G (bindS mr fun ds => optS (op ds)) := by
  have hK := hc.hK; subst hK
  exact ⟨rfl, pe_callTy hc.pe hg hm hv ha.pe hn hdb he hpl, se_cb hc.se im ha.se⟩
theorem fcallTyL (hc : PCall X K (.type T) ro o) (im : Imp1L o opl) (hg : Gl X x) (hm : X.mg x = none) (hv : bootBuiltins x = some (.type T)) (ha : PFA X C (e :: es) str G mr) (hn : x ≠ "__name__" := by decide) (hdb : (x == ("__debug__" : Str)) = false := by decide)
    (he : starEach (e :: es) X.env = (false, eval e X.env) :: starEach es X.env := by rfl) (hpl : (backTo pos (starEach es X.env)).any (·.1) = false := by rfl) : PFL X C (.Call (.Name x p) (e :: es) [] pos) (tCB ro str) G (bindS mr fun ds => optS (opl ds)) := by
  have hK := hc.hK; subst hK
  exact ⟨rfl, pe_callTy hc.pe hg hm hv ha.pe hn hdb he hpl, se_cbL hc.se im ha.se⟩
/-- f(xs), xs an own list -/
def Imp1O (o : OC) (op : List D → Option D) : Prop := ∀ p l M z, M p = some (.lst l) → op [.fl l] = some z → o [.ref p] M fun d' M' => d' = z ∧ M' = M
theorem se_cbO {r : List V → Hp → VK → Prop} {i : Nat} {l : List D} (hG : gf G i = some (.own (.lst l))) (h : SCall K r o) (im : Imp1O o op) : SimE C (tCB r (tCons (tVar i) tNil)) G (optS (op [.fl l])) := fun σ H B s Q n w => by
  obtain ⟨q, h1, h2, h3, _⟩ := n.owns i _ hG
  obtain ⟨z, e, w⟩ := wp_opt w
  exact ⟨_, h1, h _ [.ref q] H _ _ Q (.cons (.ref q) .nil) n.rm (im q l _ z (by rw [C.Z.out _ _ _ h2]; exact h3) e) (n.lift w)⟩
theorem fcallBO (i : Nat) {l : List D} {y : Str} {py : Pos} (hc : PCall X K (.builtin id) ro o) (im : Imp1O o op) (hg : Gl X x) (hm : X.mg x = none) (hv : bootBuiltins x = some (.builtin id)) (hG : gf G i = some (.own (.lst l)) := by rfl)
    (hN : X.N[i]? = some y := by rfl) (hvv : Vis X.env.scope y := by first | exact Or.inl rfl | exact Or.inr (Or.inl rfl) | exact Or.inr (Or.inr rfl)) (hd : (y == ("__debug__" : Str)) = false := by decide) (hcd : (y == ("__classdict__" : Str)) = false := by decide)
    (hn : x ≠ "__name__" := by decide) (hdb : (x == ("__debug__" : Str)) = false := by decide) (he : starEach [.Name y py] X.env = (false, eval (.Name y py) X.env) :: starEach [] X.env := by rfl) (hpl : (backTo pos (starEach [] X.env)).any (·.1) = false := by rfl) :
    PF X C (.Call (.Name x p) [.Name y py] [] pos) (tCB ro (tCons (tVar i) tNil)) G (optS (op [.fl l])) := by
  have hK := hc.hK; subst hK
  exact ⟨rfl, pe_callB hc.pe hg hm hv (pa_cons (pe_var hN hvv hd hcd) pa_nil he) hn hdb he hpl, se_cbO hG hc.se im⟩
theorem fcallTyO (i : Nat) {l : List D} {y : Str} {py : Pos} (hc : PCall X K (.type T) ro o) (im : Imp1O o op) (hg : Gl X x) (hm : X.mg x = none) (hv : bootBuiltins x = some (.type T)) (hG : gf G i = some (.own (.lst l)) := by rfl)
    (hN : X.N[i]? = some y := by rfl) (hvv : Vis X.env.scope y := by first | exact Or.inl rfl | exact Or.inr (Or.inl rfl) | exact Or.inr (Or.inr rfl)) (hd : (y == ("__debug__" : Str)) = false := by decide) (hcd : (y == ("__classdict__" : Str)) = false := by decide)
    (hn : x ≠ "__name__" := by decide) (hdb : (x == ("__debug__" : Str)) = false := by decide) (he : starEach [.Name y py] X.env = (false, eval (.Name y py) X.env) :: starEach [] X.env := by rfl) (hpl : (backTo pos (starEach [] X.env)).any (·.1) = false := by rfl) :
    PF X C (.Call (.Name x p) [.Name y py] [] pos) (tCB ro (tCons (tVar i) tNil)) G (optS (op [.fl l])) := by
  have hK := hc.hK; subst hK
  exact ⟨rfl, pe_callTy hc.pe hg hm hv (pa_cons (pe_var hN hvv hd hcd) pa_nil he) hn hdb he hpl, se_cbO hG hc.se im⟩
/-- an own list as the left side -/
theorem se_opO {r : R2} {o : O2} {op : D → D → Option D} {i : Nat} {l : List D} (hG : gf G i = some (.own (.lst l))) (ho : SOp K r o) (im : ImpO o op) (hb : SimE C stb G mb) : SimE C (tOp r (tVar i) stb) G (bindS mb fun y => optS (op (.fl l) y)) := fun σ H B s Q n w => by
  obtain ⟨q, h1, h2, h3, _⟩ := n.owns i _ hG
  refine ⟨_, h1, hb.seq n w fun y s2 u H2 k2 n2 r2 w2 => ?_⟩
  obtain ⟨z, e, w⟩ := wp_opt w2
  exact ho _ u (.ref q) y H2 _ _ Q (.ref q) r2 n2.rm (im q l y _ z (by rw [C.Z.out _ _ _ h2]; exact h3) e) (n2.lift fun v' H' k3 n3 r3 => w v' H' (k2.trans k3) n3 r3)
/-- .. as the right side -/
theorem se_opR {r : R2} {o : O2} {op : D → D → Option D} {i : Nat} {l : List D} (hG : gf G i = some (.own (.lst l))) (ho : SOp K r o) (im : ImpR o op) (ha : SimE C sta G ma) : SimE C (tOp r sta (tVar i)) G (bindS ma fun y => optS (op y (.fl l))) := fun σ H B s Q n w =>
  ha.seq n w fun x s1 v H1 k1 n1 r1 w1 => by
    obtain ⟨q, h1, h2, h3, _⟩ := n1.owns i _ hG
    obtain ⟨z, e, w⟩ := wp_opt w1
    exact ⟨_, h1, ho v _ x (.ref q) H1 _ _ Q r1 (.ref q) n1.rm (im q l x _ z (by rw [C.Z.out _ _ _ h2]; exact h3) e) (n1.lift fun v' H' k3 n3 r3 => w v' H' (k1.trans k3) n3 r3)⟩
end

/-! ### x[i] -/
theorem fix {op : D → D → Option D} (im : Imp oIx op) (ha : PF X C a sta G ma) (hb : PF X C b stb G mb) (hs : PlainIx b := by intro _ _; rfl) : PF X C (.Subscript a b pos) (tOp (rIx K) sta stb) G (bindS ma fun x => bindS mb fun y => optS (op x y)) := by
  have hK := ha.hK; subst hK
  exact ⟨rfl, pe_ix ix_seq ha.pe hb.pe hs, se_op sop_ix im ha.se hb.se⟩
theorem fixO (i : Nat) {op : D → D → Option D} {l : List D} {y : Str} {py : Pos} (im : ImpO oIx op) (hb : PF X C b stb G mb) (hG : gf G i = some (.own (.lst l)) := by rfl) (hN : X.N[i]? = some y := by rfl) (hvv : Vis X.env.scope y := by first | exact Or.inl rfl | exact Or.inr (Or.inl rfl) | exact Or.inr (Or.inr rfl)) (hd : (y == ("__debug__" : Str)) = false := by decide) (hcd : (y == ("__classdict__" : Str)) = false := by decide) (hs : PlainIx b := by intro _ _; rfl) :
    PF X C (.Subscript (.Name y py) b pos) (tOp (rIx K) (tVar i) stb) G (bindS mb fun z => optS (op (.fl l) z)) := by
  have hK := hb.hK; subst hK
  exact ⟨rfl, pe_ix ix_seq (pe_var hN hvv hd hcd) hb.pe hs, se_opO hG sop_ix im hb.se⟩
theorem fcmpR (i : Nat) {ro : R2} {opr : CmpOp} {o : O2} {op : D → D → Option D} {l : List D} {y : Str} {py : Pos} (ho : POp X K (compareOp opr) ro o) (im : ImpR o op) (ha : PF X C a sta G ma) (hG : gf G i = some (.own (.lst l)) := by rfl) (hN : X.N[i]? = some y := by rfl) (hvv : Vis X.env.scope y := by first | exact Or.inl rfl | exact Or.inr (Or.inl rfl) | exact Or.inr (Or.inr rfl)) (hd : (y == ("__debug__" : Str)) = false := by decide) (hcd : (y == ("__classdict__" : Str)) = false := by decide)
    (hm : behindInMarks opr (.Name y py) = false := by first | exact nomark _ | rfl) : PF X C (.Compare a [opr] [.Name y py] pos) (tOp ro sta (tVar i)) G (bindS ma fun z => optS (op z (.fl l))) := by
  have hK := ho.hK; subst hK
  exact ⟨rfl, pe_cmpR ho.pe ha.pe (pe_var hN hvv hd hcd) hm, se_opR hG ho.se im ha.se⟩
theorem ftcmpR (i : Nat) {ro : R2} {opr : CmpOp} {o : O2} {op : D → D → Option D} {l : List D} {y : Str} {py : Pos} (ho : POp X K (compareOp opr) ro o) (im : ImpR o op) (ha : PF X C a sta G ma) (hG : gf G i = some (.own (.lst l)) := by rfl) (hN : X.N[i]? = some y := by rfl) (hvv : Vis X.env.scope y := by first | exact Or.inl rfl | exact Or.inr (Or.inl rfl) | exact Or.inr (Or.inr rfl)) (hd : (y == ("__debug__" : Str)) = false := by decide) (hcd : (y == ("__classdict__" : Str)) = false := by decide)
    (hm : behindInMarks opr (.Name y py) = false := by first | exact nomark _ | rfl) : PFT X C (.Compare a [opr] [.Name y py] pos) (tTest (tOp ro sta (tVar i))) G (toB (bindS ma fun z => optS (op z (.fl l)))) := by
  have hK := ho.hK; subst hK
  exact ⟨rfl, pt_cmpR ho.pe ha.pe (pe_var hN hvv hd hcd) hm, se_test (se_opR hG ho.se im ha.se)⟩

/-! ### -x -/
def negD : D → Option D
  | .int i => some (.int (-i))
  | _ => none
theorem fneg (ha : PF X C a sta G ma) : PF X C (.UnaryOp .USub a pos) (tUn (rU fun i => .int (-i)) sta) G (bindS ma fun x => optS (negD x)) := by
  refine ⟨ha.hK, pe_un un_neg ha.pe, fun σ H B s Q n w => ha.se.seq n w fun d s1 v H1 k1 n1 r1 w1 => ?_⟩
  obtain ⟨z, e, q⟩ := wp_opt w1
  cases d <;> cases e
  cases r1
  exact ⟨_, rfl, q _ H1 k1 n1 (.int _)⟩

/-! ### x[lo:hi] -/
def asI : D → Option (Option Int)
  | .int i => some (some i)
  | _ => none
theorem fpno (hK : X.K = K := by rfl) : PFO X C none tNoPart G (okS none) := ⟨hK, po_none, fun σ H B s Q n w => w H KT.refl n⟩
theorem fpsome (h : PF X C e ste G me) : PFO X C (some e) (tPart ste) G (bindS me fun d => optS (asI d)) := by
  refine ⟨h.hK, po_some h.pe, fun σ H B s Q n w => h.se.seq n w fun d s1 v H1 k1 n1 r1 w1 => ?_⟩
  obtain ⟨z, e, q⟩ := wp_opt w1
  cases d <;> cases e
  cases r1
  exact ⟨_, rfl, q H1 k1 n1⟩
end
end FL
end
section
set_option maxHeartbeats 4000000
/-! FC: statements, targets, loops. -/
namespace FL
open PySem PySem.Spec PyProof.Rows L2 DL

/-- what a block's ends ask of the code -/
structure Fam (S ρ : Type) where
  nx : FG → Cd S ρ → Prop
  rt : D → Cd S ρ → Prop
  bk : FG → Cd S ρ → Prop := fun _ _ => False
  ct : FG → Cd S ρ → Prop := fun _ _ => False
  ri : D → Mp → Cd S ρ → Prop := fun _ _ _ => False
section
variable {K : PySem.W.Frag} {S ρ : Type}
structure FOk (C : FE K S) (H0 : Hp) (F : Fam S ρ) (Ψ : ρ → S → Prop) (E : Ends) : Prop where
  nx : ∀ G m σ H B s, F.nx G m → KT H0 H → Now C σ H G B s → (m s).wp Ψ C.Xi → E.nx σ H
  bk : ∀ G m σ H B s, F.bk G m → KT H0 H → Now C σ H G B s → (m s).wp Ψ C.Xi → E.bk σ H
  ct : ∀ G m σ H B s, F.ct G m → KT H0 H → Now C σ H G B s → (m s).wp Ψ C.Xi → E.ct σ H
  rt : ∀ d m v σ H G B s, F.rt d m → KT H0 H → Now C σ H G B s → Rep K H v d → (m s).wp Ψ C.Xi → E.rt v H
  ri : ∀ d m v σ H G B s, F.ri d (C.Z.put s B) m → KT H0 H → Now C σ H G B s → Rep K H v d → (m s).wp Ψ C.Xi → E.rt v H
def SimB (C : FE K S) (ts : TS) (G : FG) (F : Fam S ρ) (m : Cd S ρ) : Prop := ∀ σ H B s Ψ E, Now C σ H G B s → FOk C H F Ψ E → (m s).wp Ψ C.Xi → ts E σ H
structure PFB (X : Cx) (C : FE K S) (b : List Stmt) (ts : TS) (G : FG) (F : Fam S ρ) (m : Cd S ρ) : Prop where
  hK : X.K = K
  pe : PSs X b ts
  se : SimB C ts G F m
/-- the block does not come to its end -/
def Fam.noNx (F : Fam S ρ) : Fam S ρ := { F with nx := fun _ _ => False }
/-- the block's end goes on with mr -/
def Fam.thn {α : Type} (F : Fam S ρ) (g : α → FG) (mr : α → Cd S ρ) : Fam S ρ := { F with nx := fun G m => ∃ st, leG G (g st) ∧ m = mr st }
/-- a def's body -/
def funF : Fam S D := { nx := fun _ m => m = okS .non, rt := fun d m => m = okS d }
/-- a loop's body that only goes on -/
def foldF {α : Type} (g : α → FG) : Fam S α := { nx := fun G m => ∃ st, leG G (g st) ∧ m = okS st, rt := fun _ _ => False, ct := fun G m => ∃ st, leG G (g st) ∧ m = okS st }
/-- how a loop's turn ends -/
inductive Ctl (α : Type) where
  | nx (a : α)
  | bk (a : α)
  | rt (d : D)
def loopF {α : Type} (g : α → FG) : Fam S (Ctl α) :=
  { nx := fun G m => ∃ st, leG G (g st) ∧ m = okS (.nx st), ct := fun G m => ∃ st, leG G (g st) ∧ m = okS (.nx st), bk := fun G m => ∃ st, leG G (g st) ∧ m = okS (.bk st), rt := fun d m => m = okS (.rt d) }
/-- the join of ways -/
def jn {α β : Type} (mr : α → Cd S ρ) (f : (α → Cd S ρ) → Cd S β) : Cd S β := f mr
end

section
variable {K : PySem.W.Frag} {S ρ : Type} {X : Cx} {C : FE K S} {G : FG} {F : Fam S ρ} {rest : List Stmt} {su st' : TS} {e c : Expr} {ste : TE} {stc : TT} {me : Cd S D} {mc : Cd S Bool} {pos : Pos}
theorem FOk.with {Ψ : ρ → S → Prop} {E : Ends} {f : FG → Cd S ρ → Prop} {n' : L2.St → Hp → Prop} {H0 : Hp} (k : FOk C H0 F Ψ E) (h : ∀ G m σ H B s, f G m → KT H0 H → Now C σ H G B s → (m s).wp Ψ C.Xi → n' σ H) : FOk C H0 { F with nx := f } Ψ { E with nx := n' } := ⟨h, k.bk, k.ct, k.rt, k.ri⟩
theorem FOk.step {Ψ : ρ → S → Prop} {E : Ends} {H0 H1 : Hp} (k : FOk C H0 F Ψ E) (t : KT H0 H1) : FOk C H1 F Ψ E :=
  ⟨fun G m σ H B s h q => k.nx G m σ H B s h (t.trans q), fun G m σ H B s h q => k.bk G m σ H B s h (t.trans q), fun G m σ H B s h q => k.ct G m σ H B s h (t.trans q), fun d m v σ H G B s h q => k.rt d m v σ H G B s h (t.trans q), fun d m v σ H G B s h q => k.ri d m v σ H G B s h (t.trans q)⟩
/-! ### blocks -/
theorem fnil {m : Cd S ρ} (h : F.nx G m) (hK : X.K = K := by rfl) : PFB X C [] tNext G F m := ⟨hK, pss_nil, fun σ H B s Ψ E n k w => k.nx G m σ H B s h KT.refl n w⟩
/-- ghost: the own thing at slot i stands still from here -/
def tFrz (t : TS) : TS := fun D σ H => ∃ d u, H d = some u ∧ Mut (some u) ∧ ∀ od, t D σ (upd H d (.frz od u))
theorem pss_frz {b : List Stmt} {t : TS} (h : PSs X b t) : PSs X b (tFrz t) := by
  refine ⟨fun pins s σ H D I hw => ?_⟩
  obtain ⟨d, u, hd, mu, hw⟩ := hw
  obtain ⟨od, I1⟩ := I.lock hd mu
  exact h.run pins s σ _ D I1 (hw od)
theorem ffrz (i : Nat) {l : List D} {m : Cd S ρ} (h : PFB X C rest su (sf G i (some (.val (.fl l)))) F m) (hG : gf G i = some (.own (.lst l)) := by rfl) : PFB X C rest (tFrz su) G F m := by
  refine ⟨h.hK, pss_frz h.pe, fun σ H B s Ψ E n k w => ?_⟩
  obtain ⟨p, h1, h2, h3, h4, h5⟩ := n.owns i _ hG
  obtain ⟨vs, g1, g2⟩ := n.rm.2 p (.lst l) (by rw [C.Z.out _ _ _ h2]; exact h3)
  refine ⟨p, _, g1, trivial, fun od => h.se σ _ (mdel B p) s Ψ E (n.frz hG h1 g1 (fun _ z => nomatch z) (fun _ _ z => nomatch z) (fun _ z => nomatch z) (.fl (.inl ⟨od, upd_same⟩) (g2.kt (KT.lst g1)))) (k.step (KT.lst g1)) w⟩

/-! ### assignments -/
theorem fset (i : Nat) {x : Str} {pos' : Pos} {mr : D → Cd S ρ} (hN : X.N.Nodup) (he : PF X C e ste G me) (hr : ∀ d, PFB X C rest su (sf G i (some (.val d))) F (mr d)) (hi2 : Nat.blt i G.length = true := by rfl) (hi : X.N[i]? = some x := by rfl) (hx : Loc X.env.scope x := by first | exact .inl rfl | exact .inr rfl) (hs : swapsWith e (some (.Name x pos')) pos.line X.env = pure false := by rfl) (hf : X.fn x = true ∨ X.env.scope.names.lookup x = some .local := by first | exact .inl rfl | exact .inr rfl | assumption) :
    PFB X C (.Assign [.Name x pos'] e pos :: rest) (tSeq (tAsg ste (gName i)) su) G F (bindS me mr) :=
  ⟨he.hK, pss_cons (ps_set hN hi hx he.pe hs hf) (hr .non).pe, fun σ H B s Ψ E n k w => he.se.seq n w fun d s1 v H1 k1 n1 r1 w1 => (hr d).se _ H1 B s1 Ψ E (n1.setV r1 (Nat.le_of_ble_eq_true hi2)) (k.step k1) w1⟩
theorem fsetO (i : Nat) {x : Str} {pos' : Pos} {ml : Cd S (List D)} {mr : List D → Cd S ρ} (hN : X.N.Nodup) (he : PFL X C e ste G ml) (hr : ∀ l, PFB X C rest su (sf G i (some (.own (.lst l)))) F (mr l)) (hi2 : Nat.blt i G.length = true := by rfl) (hi : X.N[i]? = some x := by rfl) (hx : Loc X.env.scope x := by first | exact .inl rfl | exact .inr rfl) (hs : swapsWith e (some (.Name x pos')) pos.line X.env = pure false := by rfl) (hf : X.fn x = true ∨ X.env.scope.names.lookup x = some .local := by first | exact .inl rfl | exact .inr rfl | assumption) :
    PFB X C (.Assign [.Name x pos'] e pos :: rest) (tSeq (tAsg ste (gName i)) su) G F (bindS ml mr) :=
  ⟨he.hK, pss_cons (ps_set hN hi hx he.pe hs hf) (hr []).pe, fun σ H B s Ψ E n k w => he.se.seq n w fun l s1 p H1 k1 hd hb hf n1 w1 => by
    refine (hr l).se _ H1 (mupd B p (.lst l)) s1 Ψ E ?_ (k.step k1) w1
    have hi3 : i < G.length := Nat.le_of_ble_eq_true hi2
    have hb0 := n.b0 hb
    refine ⟨by rw [List.length_set, sf_len]; exact n1.len, fun j e h => ?_, fun j w h => ?_, fun j k a b q q' hn h1 h2 h3 h4 => ?_, n1.sub, n1.rm, n1.st⟩
    · have hj : j ≠ i := fun e => by subst e; obtain ⟨z, _⟩ := gf_sf h; cases z
      rw [gf_sf_ne hj] at h
      obtain ⟨w, h1, h2⟩ := n1.vals j e h
      exact ⟨w, by rw [List.getElem?_set_ne (Ne.symm hj)]; exact h1, h2⟩
    · by_cases hj : j = i
      · subst hj
        obtain ⟨z, _⟩ := gf_sf h
        cases z
        exact ⟨p, by rw [List.getElem?_set_self (by rw [n.len]; exact hi3)], hd, mupd_same, hb0, hf⟩
      · rw [gf_sf_ne hj] at h
        obtain ⟨q, h1, h2⟩ := n1.owns j w h
        exact ⟨q, by rw [List.getElem?_set_ne (Ne.symm hj)]; exact h1, h2⟩
    · have far : ∀ (j : Nat) (a : MO) (q : Addr), j ≠ i → gf (sf G i (some (.own (.lst l)))) j = some (.own a) → (σ.set i (some (V.ref p)))[j]? = some (some (.ref q)) → gf G j = some (.own a) ∧ σ[j]? = some (some (.ref q)) ∧ q ≠ p := fun j a q hj h h' => by
        rw [gf_sf_ne hj] at h
        rw [List.getElem?_set_ne (Ne.symm hj)] at h'
        obtain ⟨q2, e1, _, e3, _⟩ := n.owns j a h
        rw [h'] at e1; cases e1
        exact ⟨h, h', fresh_ne hb e3⟩
      have new : ∀ q, (σ.set i (some (V.ref p)))[i]? = some (some (.ref q)) → q = p := fun q h => by
        rw [List.getElem?_set_self (by rw [n.len]; exact hi3)] at h
        cases h; rfl
      by_cases hj : j = i
      · subst hj
        rw [new q h3]
        exact (far k b q' (Ne.symm hn) h2 h4).2.2.symm
      · obtain ⟨g1, g3, g5⟩ := far j a q hj h1 h3
        by_cases hk : k = i
        · subst hk
          rw [new q' h4]
          exact g5
        · obtain ⟨g2, g4, _⟩ := far k b q' hk h2 h4
          exact n.dist j k a b q q' hn g1 g2 g3 g4⟩

/-! ### targets -/
/-- m is right code for: bind d to the target, go on with what P lets -/
structure GOk (C : FE K S) (sg : TG) (d : D) (G : FG) (own : List Nat) (m : Cd S ρ) (P : FG → Cd S ρ → Prop) : Prop where
  ex : ∃ G' m', P G' m'
  go : ∀ v σ H B s (Ψ : ρ → S → Prop) (Q : L2.St → Hp → Prop), Rep K H v d → Now C σ H G B s → (m s).wp Ψ C.Xi →
    (∀ σ' G' m' s', P G' m' → Now C σ' H G' B s' → But own σ σ' → (m' s').wp Ψ C.Xi → Q σ' H) → sg v σ H Q
structure GsOk (C : FE K S) (sg : TGs) (ds : List D) (G : FG) (own : List Nat) (m : Cd S ρ) (P : FG → Cd S ρ → Prop) : Prop where
  ex : ∃ G' m', P G' m'
  go : ∀ vs σ H B s (Ψ : ρ → S → Prop) (Q : L2.St → Hp → Prop), Reps K H vs ds → Now C σ H G B s → (m s).wp Ψ C.Xi →
    (∀ σ' G' m' s', P G' m' → Now C σ' H G' B s' → But own σ σ' → (m' s').wp Ψ C.Xi → Q σ' H) → sg vs σ H Q
theorem gn (i : Nat) {d : D} {own : List Nat} {m : Cd S ρ} {P : FG → Cd S ρ → Prop} (h : P (sf G i (some (.val d))) m) (hi2 : Nat.blt i G.length = true := by rfl) (ho : i ∈ own := by decide) : GOk C (gName i) d G own m P :=
  ⟨⟨_, _, h⟩, fun v σ H B s Ψ Q r n w q => q _ _ m s h (n.setV r (Nat.le_of_ble_eq_true hi2)) (But.set ho) w⟩
theorem gsn {own : List Nat} {m : Cd S ρ} {P : FG → Cd S ρ → Prop} (h : P G m) : GsOk C gNil [] G own m P :=
  ⟨⟨_, _, h⟩, fun vs σ H B s Ψ Q r n w q => by cases r; exact ⟨rfl, q σ G m s h n ⟨rfl, fun _ _ => rfl⟩ w⟩⟩
theorem gsc {sg : TG} {sgs : TGs} {d : D} {ds : List D} {own : List Nat} {m : Cd S ρ} {P : FG → Cd S ρ → Prop} (h : GOk C sg d G own m fun G1 m1 => GsOk C sgs ds G1 own m1 P) : GsOk C (gCons sg sgs) (d :: ds) G own m P := by
  refine ⟨?_, fun vs σ H B s Ψ Q r n w q => ?_⟩
  · obtain ⟨G1, m1, h1⟩ := h.ex
    exact h1.ex
  · cases r with
    | cons r rs => exact ⟨_, _, rfl, h.go _ σ H B s Ψ _ r n w fun σ1 G1 m1 s1 h1 n1 b1 w1 => h1.go _ σ1 H B s1 Ψ Q rs n1 w1 fun σ2 G2 m2 s2 h2 n2 b2 w2 => q σ2 G2 m2 s2 h2 n2 (b1.trans b2) w2⟩
/-- the items of a tuple, of a list -/
def itsD : D → Option (List D)
  | .tup ds => some ds
  | .fl ds => some ds
  | _ => none
def un2 (d : D) (k : D → D → Cd S ρ) : Cd S ρ := match itsD d with
  | some [a, b] => k a b
  | _ => stk
def un3 (d : D) (k : D → D → D → Cd S ρ) : Cd S ρ := match itsD d with
  | some [a, b, c] => k a b c
  | _ => stk
def un4 (d : D) (k : D → D → D → D → Cd S ρ) : Cd S ρ := match itsD d with
  | some [a, b, c, e] => k a b c e
  | _ => stk
def un5 (d : D) (k : D → D → D → D → D → Cd S ρ) : Cd S ρ := match itsD d with
  | some [a, b, c, e, f] => k a b c e f
  | _ => stk
theorem its_rep {H : Hp} {v : V} {d : D} {ds : List D} (r : Rep K H v d) (h : itsD d = some ds) : ∃ p vs, v = .ref p ∧ (SqL K H p vs ∨ SqT K H p vs) ∧ Reps K H vs ds := by
  cases r with
  | tup q r => cases h; exact ⟨_, _, rfl, .inr q, r⟩
  | fl q r => cases h; exact ⟨_, _, rfl, .inl q.sq, r⟩
  | _ => cases h
theorem gt_of {sgs : TGs} {d : D} {ds : List D} {k : Nat} {own : List Nat} {m : Cd S ρ} {P : FG → Cd S ρ → Prop} (e : itsD d = some ds) (hk : ds.length = k) (h : GsOk C sgs ds G own m P) {v σ H B s} {Ψ : ρ → S → Prop} {Q : L2.St → Hp → Prop} (r : Rep K H v d) (n : Now C σ H G B s) (w : (m s).wp Ψ C.Xi)
    (q : ∀ σ' G' m' s', P G' m' → Now C σ' H G' B s' → But own σ σ' → (m' s').wp Ψ C.Xi → Q σ' H) : gTL K k sgs v σ H Q := by
  obtain ⟨p, vs, rfl, hq, rs⟩ := its_rep r e
  rcases hq with hq | hq
  · exact .inr ⟨_, _, rfl, hq, by rw [rs.length, hk], h.go _ σ H B s Ψ _ rs n w q⟩
  · exact .inl ⟨_, _, rfl, hq, by rw [rs.length, hk], h.go _ σ H B s Ψ _ rs n w q⟩
theorem un2_of {d : D} {m : D → D → Cd S ρ} {s : S} {Ψ : ρ → S → Prop} {E : Xn → S → Prop} (w : (un2 d m s).wp Ψ E) : ∃ a b, itsD d = some [a, b] ∧ (m a b s).wp Ψ E := by
  unfold un2 at w
  revert w
  cases itsD d with
  | none => exact fun w => w.elim
  | some ds =>
    match ds with
    | [a, b] => exact fun w => ⟨a, b, rfl, w⟩
    | [] => exact fun w => w.elim
    | [_] => exact fun w => w.elim
    | _ :: _ :: _ :: _ => exact fun w => w.elim
theorem gt2 {sgs : TGs} {d : D} {own : List Nat} {m : D → D → Cd S ρ} {P : FG → Cd S ρ → Prop} (h : ∀ a b, GsOk C sgs [a, b] G own (m a b) P) : GOk C (gTL K 2 sgs) d G own (un2 d m) P := by
  refine ⟨(h .non .non).ex, fun v σ H B s Ψ Q r n w q => ?_⟩
  obtain ⟨a, b, e, w⟩ := un2_of w
  exact gt_of e rfl (h a b) r n w q
theorem un3_of {d : D} {m : D → D → D → Cd S ρ} {s : S} {Ψ : ρ → S → Prop} {E : Xn → S → Prop} (w : (un3 d m s).wp Ψ E) : ∃ a b c, itsD d = some [a, b, c] ∧ (m a b c s).wp Ψ E := by
  unfold un3 at w
  revert w
  cases itsD d with
  | none => exact fun w => w.elim
  | some ds =>
    match ds with
    | [a, b, c] => exact fun w => ⟨a, b, c, rfl, w⟩
    | [] => exact fun w => w.elim
    | [_] => exact fun w => w.elim
    | [_, _] => exact fun w => w.elim
    | _ :: _ :: _ :: _ :: _ => exact fun w => w.elim
theorem gt3 {sgs : TGs} {d : D} {own : List Nat} {m : D → D → D → Cd S ρ} {P : FG → Cd S ρ → Prop} (h : ∀ a b c, GsOk C sgs [a, b, c] G own (m a b c) P) : GOk C (gTL K 3 sgs) d G own (un3 d m) P := by
  refine ⟨(h .non .non .non).ex, fun v σ H B s Ψ Q r n w q => ?_⟩
  obtain ⟨a, b, c, e, w⟩ := un3_of w
  exact gt_of e rfl (h a b c) r n w q
theorem un4_of {d : D} {m : D → D → D → D → Cd S ρ} {s : S} {Ψ : ρ → S → Prop} {E : Xn → S → Prop} (w : (un4 d m s).wp Ψ E) : ∃ a b c f, itsD d = some [a, b, c, f] ∧ (m a b c f s).wp Ψ E := by
  unfold un4 at w
  revert w
  cases itsD d with
  | none => exact fun w => w.elim
  | some ds =>
    match ds with
    | [a, b, c, f] => exact fun w => ⟨a, b, c, f, rfl, w⟩
    | [] => exact fun w => w.elim
    | [_] => exact fun w => w.elim
    | [_, _] => exact fun w => w.elim
    | [_, _, _] => exact fun w => w.elim
    | _ :: _ :: _ :: _ :: _ :: _ => exact fun w => w.elim
theorem gt4 {sgs : TGs} {d : D} {own : List Nat} {m : D → D → D → D → Cd S ρ} {P : FG → Cd S ρ → Prop} (h : ∀ a b c f, GsOk C sgs [a, b, c, f] G own (m a b c f) P) : GOk C (gTL K 4 sgs) d G own (un4 d m) P := by
  refine ⟨(h .non .non .non .non).ex, fun v σ H B s Ψ Q r n w q => ?_⟩
  obtain ⟨a, b, c, f, e, w⟩ := un4_of w
  exact gt_of e rfl (h a b c f) r n w q
theorem un5_of {d : D} {m : D → D → D → D → D → Cd S ρ} {s : S} {Ψ : ρ → S → Prop} {E : Xn → S → Prop} (w : (un5 d m s).wp Ψ E) : ∃ a b c f g, itsD d = some [a, b, c, f, g] ∧ (m a b c f g s).wp Ψ E := by
  unfold un5 at w
  revert w
  cases itsD d with
  | none => exact fun w => w.elim
  | some ds =>
    match ds with
    | [a, b, c, f, g] => exact fun w => ⟨a, b, c, f, g, rfl, w⟩
    | [] => exact fun w => w.elim
    | [_] => exact fun w => w.elim
    | [_, _] => exact fun w => w.elim
    | [_, _, _] => exact fun w => w.elim
    | [_, _, _, _] => exact fun w => w.elim
    | _ :: _ :: _ :: _ :: _ :: _ :: _ => exact fun w => w.elim
theorem gt5 {sgs : TGs} {d : D} {own : List Nat} {m : D → D → D → D → D → Cd S ρ} {P : FG → Cd S ρ → Prop} (h : ∀ a b c f g, GsOk C sgs [a, b, c, f, g] G own (m a b c f g) P) : GOk C (gTL K 5 sgs) d G own (un5 d m) P := by
  refine ⟨(h .non .non .non .non .non).ex, fun v σ H B s Ψ Q r n w q => ?_⟩
  obtain ⟨a, b, c, f, g, e, w⟩ := un5_of w
  exact gt_of e rfl (h a b c f g) r n w q
/-- the target's syntax: a tuple from a tuple or a list -/
theorem pg_tl {sgs : TGs} {es : List Expr} {k n : Nat} (hc : X.calm = true) (h : PGs X es sgs) (hK : X.K = K := by rfl) (hn : (assignEach es X.env).length = n := by rfl) (hst : (assignEach es X.env).findIdx? (·.1) = none := by rfl) : PG X (.Tuple es k pos) (gTL K n sgs) := by
  subst hK
  exact ⟨fun pins s σ H v u Q I r hw => hw.elim (fun hw => (pg_tup hc h hn hst).run pins s σ H v u Q I r hw) fun hw => (pg_lst hc h hn hst).run pins s σ H v u Q I r hw⟩
theorem fasgG {tg : Expr} {sg : TG} {own : List Nat} {mr : D → Cd S ρ} (he : PF X C e ste G me) (pg : PG X tg sg) (hr : ∀ d, GOk C sg d G own (mr d) fun G' m' => PFB X C rest su G' F m') (hs : swapsWithSole [tg] e pos.line X.env = pure false := by rfl) (hw : swappedStores [tg] e X.env = pure none := by rfl)
    (h1 : (assignEach [tg] X.env).map (·.2) = [assign tg X.env] := by rfl) : PFB X C (.Assign [tg] e pos :: rest) (tSeq (tAsg ste sg) su) G F (bindS me mr) :=
  ⟨he.hK, pss_cons (ps_asg he.pe pg hs hw h1) (by obtain ⟨_, _, h⟩ := (hr .non).ex; exact h.pe), fun σ H B s Ψ E n k w => he.se.seq n w fun d s1 v H1 k1 n1 r1 w1 =>
    (hr d).go v σ H1 B s1 Ψ _ r1 n1 w1 fun σ' G' m' s' h' n' b' w' => h'.se σ' H1 B s' Ψ E n' (k.step k1) w'⟩
/-- a, b = x, y -/
theorem fpar (i j : Nat) {x y : Str} {a b : Expr} {ma mb : Cd S D} {sta stb : TE} {mr : D → D → Cd S ρ} {px py pt : Pos} {kt k2 pt2} (hc : X.calm = true) (hN : X.N.Nodup) (ha : PF X C a sta G ma) (hb : PF X C b stb G mb) (hr : ∀ d e, PFB X C rest su (sf (sf G i (some (.val d))) j (some (.val e))) F (mr d e))
    (hi2 : Nat.blt i G.length = true := by rfl) (hj2 : Nat.blt j G.length = true := by rfl) (hi : X.N[i]? = some x := by rfl) (hj : X.N[j]? = some y := by rfl) (hij : i ≠ j := by decide)
    (hx : X.env.scope.names.lookup x = some .local := by rfl) (hy : X.env.scope.names.lookup y = some .local := by rfl)
    (hw : swappedStores [.Tuple [.Name x px, .Name y py] kt pt] (.Tuple [a, b] k2 pt2) X.env = pure (some [x, y]) := by rfl)
    (hs : swapsWithSole [.Tuple [.Name x px, .Name y py] kt pt] (.Tuple [a, b] k2 pt2) pos.line X.env = pure false := by rfl)
    (hs1 : starEach [a, b] X.env = (false, eval a X.env) :: starEach [b] X.env := by rfl) (hs2 : starEach [b] X.env = (false, eval b X.env) :: starEach [] X.env := by rfl) :
    PFB X C (.Assign [.Tuple [.Name x px, .Name y py] kt pt] (.Tuple [a, b] k2 pt2) pos :: rest) (tSeq (tPar i j (tCons sta (tCons stb tNil))) su) G F (bindS ma fun d => bindS mb fun e => mr d e) :=
  ⟨ha.hK, pss_cons (ps_par hc hN hi hj hij hx hy (pa_cons ha.pe (pa_cons hb.pe pa_nil hs2) hs1) hw hs) (hr .non .non).pe, fun σ H B s Ψ E n k w => ha.se.seq n w fun d s1 v H1 k1 n1 r1 w1 => hb.se.seq n1 w1 fun e s2 u H2 k2 n2 r2 w2 =>
    ⟨v, u, rfl, (hr d e).se _ H2 B s2 Ψ E ((n2.setV (r1.kt k2) (Nat.le_of_ble_eq_true hi2)).setV r2 (by rw [sf_len]; exact Nat.le_of_ble_eq_true hj2)) (k.step (k1.trans k2)) w2⟩⟩

/-! ### return, break, continue, if -/
theorem fret {mk : D → Cd S ρ} (he : PF X C e ste G me) (h : ∀ d, F.rt d (mk d)) (pr : PSs X rest su) : PFB X C (.Return (some e) pos :: rest) (tSeq (tRet ste) su) G F (bindS me mk) :=
  ⟨he.hK, pss_cons (ps_ret he.pe) pr, fun σ H B s Ψ E n k w => he.se.seq n w fun d s1 v H1 k1 n1 r1 w1 => k.rt d _ v σ H1 G B s1 (h d) k1 n1 r1 w1⟩
theorem fret1 {mk : D → Cd S ρ} (he : PF X C e ste G me) (h : ∀ d, F.rt d (mk d) := by exact fun _ => rfl) : PFB X C [.Return (some e) pos] (tRet ste) G F (bindS me mk) :=
  ⟨he.hK, pss_one (ps_ret he.pe), fun σ H B s Ψ E n k w => he.se.seq n w fun d s1 v H1 k1 n1 r1 w1 => k.rt d _ v σ H1 G B s1 (h d) k1 n1 r1 w1⟩
theorem fretN {m : Cd S ρ} (h : F.rt .non m := by exact rfl) (hK : X.K = K := by rfl) : PFB X C [.Return none pos] tRetN G F m :=
  ⟨hK, pss_one ps_retN, fun σ H B s Ψ E n k w => k.rt .non _ .non σ H G B s h KT.refl n .non w⟩
theorem fbrk {m : Cd S ρ} (h : F.bk G m) (hK : X.K = K := by rfl) : PFB X C [.Break pos] tBreak G F m := ⟨hK, pss_one ps_break, fun σ H B s Ψ E n k w => k.bk G m σ H B s h KT.refl n w⟩
theorem fcnt {m : Cd S ρ} (h : F.ct G m) (hK : X.K = K := by rfl) : PFB X C [.Continue pos] tCont G F m := ⟨hK, pss_one ps_continue, fun σ H B s Ψ E n k w => k.ct G m σ H B s h KT.refl n w⟩
theorem fpass {m : Cd S ρ} (h : PFB X C rest su G F m) : PFB X C (.Pass pos :: rest) (tSeq tNext su) G F m := ⟨h.hK, pss_cons ps_pass h.pe, h.se⟩
section
variable {a b : List Stmt} {sta stb : TS} {ma mb : Cd S ρ}
/-- an if at the block's end -/
theorem fifE (hc : PFT X C c stc G mc) (ha : PFB X C a sta G F ma) (hb : PFB X C b stb G F mb) : PFB X C [.If c a b pos] (tIfS stc sta stb) G F (bindS mc fun k => cond k ma mb) :=
  ⟨hc.hK, pss_one (ps_if hc.pe ha.pe hb.pe), fun σ H B s Ψ E n k w => hc.se.seq n w fun c s1 H1 k1 n1 w1 => by
    cases c with
    | true => rw [if_pos rfl]; exact ha.se σ H1 B s1 Ψ E n1 (k.step k1) w1
    | false => rw [if_neg Bool.false_ne_true]; exact hb.se σ H1 B s1 Ψ E n1 (k.step k1) w1⟩
/-- an if whose way does not come to its end -/
theorem fifX {mr : Cd S ρ} (hc : PFT X C c stc G mc) (ha : PFB X C a sta G F.noNx ma) (hr : PFB X C rest su G F mr) : PFB X C (.If c a [] pos :: rest) (tSeq (tIfS stc sta tNext) su) G F (bindS mc fun k => cond k ma mr) :=
  ⟨hc.hK, pss_cons (ps_if hc.pe ha.pe pss_nil) hr.pe, fun σ H B s Ψ E n k w => hc.se.seq n w fun c s1 H1 k1 n1 w1 => by
    cases c with
    | true => rw [if_pos rfl]; exact ha.se σ H1 B s1 Ψ _ n1 ((k.step k1).with fun _ _ _ _ _ _ z => z.elim) w1
    | false => rw [if_neg Bool.false_ne_true]; exact hr.se σ H1 B s1 Ψ E n1 (k.step k1) w1⟩
/-- the ways join -/
theorem fifJ {α : Type} (g : α → FG) (st0 : α) {mr : α → Cd S ρ} {ma mb : (α → Cd S ρ) → Cd S ρ} (hr : ∀ st, PFB X C rest su (g st) F (mr st)) (hc : PFT X C c stc G mc) (ha : ∀ j, PFB X C a sta G (F.thn g j) (ma j)) (hb : ∀ j, PFB X C b stb G (F.thn g j) (mb j)) :
    PFB X C (.If c a b pos :: rest) (tSeq (tIfS stc sta stb) su) G F (jn mr fun j => bindS mc fun k => cond k (ma j) (mb j)) :=
  ⟨hc.hK, pss_cons (ps_if hc.pe (ha mr).pe (hb mr).pe) (hr st0).pe, fun σ H B s Ψ E n k w => hc.se.seq n w fun c s1 H1 k1 n1 w1 => by
    have k' : FOk C H1 (F.thn g mr) Ψ { E with nx := su E } := (k.step k1).with fun G' m' σ' H' B' s' z q' n' w' => by
      obtain ⟨st, l, rfl⟩ := z
      exact (hr st).se σ' H' B' s' Ψ E (n'.weak l) (k.step (k1.trans q')) w'
    cases c with
    | true => rw [if_pos rfl]; exact (ha mr).se σ H1 B s1 Ψ _ n1 k' w1
    | false => rw [if_neg Bool.false_ne_true]; exact (hb mr).se σ H1 B s1 Ψ _ n1 k' w1⟩
end
end
end FL
end
section
set_option maxHeartbeats 4000000
/-! FD: loops, what is walked, own lists that turn, calls of own defs, a def's body. -/
namespace FL
open PySem PySem.Spec PyProof.Rows L2 DL RZ

section
variable {S ρ α : Type}
def foldS (b : D → α → Cd S α) : List D → α → Cd S α
  | [], st => okS st
  | d :: ds, st => bindS (b d st) fun st' => foldS b ds st'
def loopS (b : D → α → Cd S (Ctl α)) : List D → α → Cd S (Ctl α)
  | [], st => okS (.nx st)
  | d :: ds, st => bindS (b d st) fun c => match c with
    | .nx st' => loopS b ds st'
    | c => okS c
/-- behind a loop -/
def ctlS (mr : α → Cd S ρ) (rk : D → Cd S ρ) : Ctl α → Cd S ρ
  | .nx st => mr st
  | .bk st => mr st
  | .rt d => rk d
end
section
variable {K : PySem.W.Frag} {S : Type}
def SimI (C : FE K S) (wi : TI) (G : FG) (mi : Cd S (List D)) : Prop := ∀ σ H B s (R : It → Hp → Prop), Now C σ H G B s → (mi s).wp (fun items s' => ∀ J H', KT H H' → Now C σ H' G B s' → Gives K H' J items (fun _ => True) → R J H') C.Xi → wi σ H R
structure PFI (X : Cx) (C : FE K S) (tg iter : Expr) (wi : TI) (G : FG) (mi : Cd S (List D)) : Prop where
  hK : X.K = K
  pe : PI X tg iter wi
  se : SimI C wi G mi
theorem SimI.seq {β : Type} {C : FE K S} {G : FG} {σ : L2.St} {H : Hp} {B : Mp} {s : S} {Ψ : β → S → Prop} {wi : TI} {m : Cd S (List D)} {f : List D → Cd S β} {R : It → Hp → Prop} (h : SimI C wi G m) (n : Now C σ H G B s) (w : (bindS m f s).wp Ψ C.Xi)
    (k : ∀ l s1 J H1, KT H H1 → Now C σ H1 G B s1 → Gives K H1 J l (fun _ => True) → (f l s1).wp Ψ C.Xi → R J H1) : wi σ H R :=
  h σ H B s R n ((wp_bind.mp w).mono fun a s1 w1 J H1 k1 n1 g1 => k a s1 J H1 k1 n1 g1 w1)
end
section
variable {K : PySem.W.Frag} {S ρ α : Type} {X : Cx} {C : FE K S} {G : FG} {F : Fam S ρ} {rest body : List Stmt} {su tb : TS} {tg iter e : Expr} {wi : TI} {mi : Cd S (List D)} {sg : TG} {own : List Nat} {ste : TE} {me : Cd S D} {pos : Pos}
/-- for, all turns go on -/
theorem ffor (g : α → FG) (st0 : α) {mb : D → α → Cd S α} {mr : α → Cd S ρ} (hp : PassesOwn (model X.prog X.w) X.A X.env X.xe) (hc : X.calm = true) (hi : PFI X C tg iter wi G mi) (pg : PG X tg sg) (hb : ∀ st d, GOk C sg d (g st) own (mb d st) fun G' m' => PFB X C body tb G' (foldF g) m')
    (hr : ∀ st, PFB X C rest su (g st) F (mr st)) (l0 : leG G (g st0)) (hs : ∀ x, foldedSetIterable iter X.env x = pure x := by intro _; rfl) :
    PFB X C (.For tg iter body [] pos :: rest) (tSeq (tFor wi sg tb) su) G F (bindS mi fun items => bindS (foldS mb items st0) mr) :=
  ⟨hi.hK, pss_cons (ps_for hp hc hi.pe pg (by obtain ⟨_, _, h⟩ := (hb st0 .non).ex; exact h.pe) hs) (hr st0).pe, fun σ H B s Ψ E n k w => hi.se.seq n w fun items s1 J H1 k1 n1 gv w1 => by
    refine ⟨fun i c σ2 H2 => ∃ B2 st s2, c = items.length - i ∧ i ≤ items.length ∧ KT H1 H2 ∧ Now C σ2 H2 (g st) B2 s2 ∧ (bindS (foldS mb (items.drop i) st) mr s2).wp Ψ C.Xi, ⟨items.length, B, st0, s1, by simp, Nat.zero_le _, KT.refl, n1.weak l0, by simpa using w1⟩, ?_⟩
    rintro i c σ2 H2 ⟨B2, st, s2, rfl, hi, k2, n2, w2⟩
    by_cases hlt : i < items.length
    · have e : items.drop i = items[i] :: items.drop (i + 1) := List.drop_eq_getElem_cons hlt
      rw [e] at w2
      obtain ⟨q1, q2⟩ := (gv _ H2 k2 n2.rm trivial).1 i items[i] (by simp [hlt])
      refine .inr ⟨q1, fun σ3 H3 => ∃ B3 st3 s3, KT H1 H3 ∧ Now C σ3 H3 (g st3) B3 s3 ∧ (bindS (foldS mb (items.drop (i + 1)) st3) mr s3).wp Ψ C.Xi, fun σ' H' ⟨B3, st3, s3, a, b, c⟩ => ⟨_, by omega, B3, st3, s3, rfl, hlt, a, b, c⟩, fun x H3 y => ?_⟩
      obtain ⟨r3, st3, m3⟩ := q2 x H3 y
      have k3 := st3.kt n2.rm
      have w3 : ((mb items[i] st) s2).wp (fun st' s' => (bindS (foldS mb (items.drop (i + 1)) st') mr s').wp Ψ C.Xi) C.Xi := by
        refine Res.wp.mono (wp_bind.mp (wp_bind.mp w2)) fun st' s' h => wp_bind.mpr h
      refine (hb st items[i]).go x σ2 H3 B2 s2 _ _ r3 (n2.next k3 st3 m3) w3 fun σ4 G4 m4 s4 h4 n4 _ w4 => ?_
      have fin : ∀ G m σ H B s, (∃ st, leG G (g st) ∧ m = okS st) → KT H3 H → Now C σ H G B s → (m s).wp (fun st' s' => (bindS (foldS mb (items.drop (i + 1)) st') mr s').wp Ψ C.Xi) C.Xi → ∃ B3 st3 s3, KT H1 H ∧ Now C σ H (g st3) B3 s3 ∧ (bindS (foldS mb (items.drop (i + 1)) st3) mr s3).wp Ψ C.Xi :=
        fun G m σ H B s ⟨st, l, e⟩ kt n w => by
          subst e
          exact ⟨B, st, s, (k2.trans k3).trans kt, n.weak l, w⟩
      exact h4.se σ4 H3 B2 s4 _ _ n4 ⟨fin, fun _ _ _ _ _ _ z => z.elim, fin, fun _ _ _ _ _ _ _ _ z => z.elim, fun _ _ _ _ _ _ _ _ z => z.elim⟩ w4
    · have e : i = items.length := by omega
      subst e
      rw [List.drop_length] at w2
      exact .inl ⟨(gv _ H2 k2 n2.rm trivial).2, (hr st).se σ2 H2 B2 s2 Ψ E n2 (k.step (k1.trans k2)) w2⟩⟩
/-- for, with breaks and returns -/
theorem fforX (g : α → FG) (st0 : α) {mb : D → α → Cd S (Ctl α)} {mr : α → Cd S ρ} {rk : D → Cd S ρ} (hp : PassesOwn (model X.prog X.w) X.A X.env X.xe) (hc : X.calm = true) (hi : PFI X C tg iter wi G mi) (pg : PG X tg sg) (hb : ∀ st d, GOk C sg d (g st) own (mb d st) fun G' m' => PFB X C body tb G' (loopF g) m')
    (hr : ∀ st, PFB X C rest su (g st) F (mr st)) (hrk : ∀ d, F.rt d (rk d)) (l0 : leG G (g st0)) (hs : ∀ x, foldedSetIterable iter X.env x = pure x := by intro _; rfl) :
    PFB X C (.For tg iter body [] pos :: rest) (tSeq (tFor wi sg tb) su) G F (bindS mi fun items => bindS (loopS mb items st0) (ctlS mr rk)) :=
  ⟨hi.hK, pss_cons (ps_for hp hc hi.pe pg (by obtain ⟨_, _, h⟩ := (hb st0 .non).ex; exact h.pe) hs) (hr st0).pe, fun σ H B s Ψ E n k w => hi.se.seq n w fun items s1 J H1 k1 n1 gv w1 => by
    refine ⟨fun i c σ2 H2 => ∃ B2 st s2, c = items.length - i ∧ i ≤ items.length ∧ KT H1 H2 ∧ Now C σ2 H2 (g st) B2 s2 ∧ (bindS (loopS mb (items.drop i) st) (ctlS mr rk) s2).wp Ψ C.Xi, ⟨items.length, B, st0, s1, by simp, Nat.zero_le _, KT.refl, n1.weak l0, by simpa using w1⟩, ?_⟩
    rintro i c σ2 H2 ⟨B2, st, s2, rfl, hi, k2, n2, w2⟩
    by_cases hlt : i < items.length
    · have e : items.drop i = items[i] :: items.drop (i + 1) := List.drop_eq_getElem_cons hlt
      rw [e] at w2
      obtain ⟨q1, q2⟩ := (gv _ H2 k2 n2.rm trivial).1 i items[i] (by simp [hlt])
      refine .inr ⟨q1, fun σ3 H3 => ∃ B3 st3 s3, KT H1 H3 ∧ Now C σ3 H3 (g st3) B3 s3 ∧ (bindS (loopS mb (items.drop (i + 1)) st3) (ctlS mr rk) s3).wp Ψ C.Xi, fun σ' H' ⟨B3, st3, s3, a, b, c⟩ => ⟨_, by omega, B3, st3, s3, rfl, hlt, a, b, c⟩, fun x H3 y => ?_⟩
      obtain ⟨r3, st3, m3⟩ := q2 x H3 y
      have k3 := st3.kt n2.rm
      let Φ : Ctl α → S → Prop := fun c s' => match c with
        | .nx st' => (bindS (loopS mb (items.drop (i + 1)) st') (ctlS mr rk) s').wp Ψ C.Xi
        | .bk st' => (mr st' s').wp Ψ C.Xi
        | .rt d => (rk d s').wp Ψ C.Xi
      have w3 : ((mb items[i] st) s2).wp Φ C.Xi := by
        refine Res.wp.mono (wp_bind.mp (wp_bind.mp w2)) fun c s' h => ?_
        cases c with
        | nx st' => exact wp_bind.mpr h
        | bk st' => exact h
        | rt d => exact h
      refine (hb st items[i]).go x σ2 H3 B2 s2 _ _ r3 (n2.next k3 st3 m3) w3 fun σ4 G4 m4 s4 h4 n4 _ w4 => ?_
      have fin : ∀ G m σ H B s, (∃ st, leG G (g st) ∧ m = okS (.nx st)) → KT H3 H → Now C σ H G B s → (m s).wp Φ C.Xi → ∃ B3 st3 s3, KT H1 H ∧ Now C σ H (g st3) B3 s3 ∧ (bindS (loopS mb (items.drop (i + 1)) st3) (ctlS mr rk) s3).wp Ψ C.Xi :=
        fun G m σ H B s ⟨st, l, e⟩ kt n w => by
          subst e
          exact ⟨B, st, s, (k2.trans k3).trans kt, n.weak l, w⟩
      have kk := k.step ((k1.trans k2).trans k3)
      exact h4.se σ4 H3 B2 s4 _ _ n4 ⟨fin, fun G m σ H B s ⟨st, l, e⟩ kt n w => by subst e; exact (hr st).se σ H B s Ψ E (n.weak l) (kk.step kt) w, fin, fun d m v σ H G B s e kt n r w => by
        have e : m = okS (.rt d) := e
        subst e
        exact kk.rt d (rk d) v σ H G B s (hrk d) kt n r w, fun _ _ _ _ _ _ _ _ z => z.elim⟩ w4
    · have e : i = items.length := by omega
      subst e
      rw [List.drop_length] at w2
      exact .inl ⟨(gv _ H2 k2 n2.rm trivial).2, (hr st).se σ2 H2 B2 s2 Ψ E n2 (k.step (k1.trans k2)) w2⟩⟩

/-! ### what is walked -/
theorem fiseq {tg : Expr} (he : PF X C e ste G me) : PFI X C tg e (iSeq K ste) G (bindS me fun d => optS (itsD d)) := by
  have hK := he.hK; subst hK
  refine ⟨rfl, pi_seq he.pe, fun σ H B s R n w => he.se.seq n w fun d s1 v H1 k1 n1 r1 w1 => ?_⟩
  obtain ⟨z, e, q⟩ := wp_opt w1
  cases r1 with
  | tup q1 r => cases e; exact ⟨_, rfl, .inr ⟨_, q1, q _ H1 k1 n1 (gives_t fun M2 H2 s2 m2 _ => ⟨_, s2.sq q1, r.kt s2⟩)⟩⟩
  | fl q1 r => cases e; exact ⟨_, rfl, .inl ⟨_, q1.sq, q _ H1 k1 n1 (gives_l fun M2 H2 s2 m2 _ => ⟨_, (RdL.kt s2 q1).sq, r.kt s2⟩)⟩⟩
  | _ => cases e
def rg1 : List D → Option (List D)
  | [.int j] => if -(2 ^ 62) ≤ j ∧ j < 2 ^ 62 then some (rgD 0 j.toNat) else none
  | _ => none
def rg2 : List D → Option (List D)
  | [.int i, .int j] => if -(2 ^ 62) ≤ i ∧ i < 2 ^ 62 ∧ -(2 ^ 62) ≤ j ∧ j < 2 ^ 62 then some (rgD i (j - i).toNat) else none
  | _ => none
theorem firange1 {str : TA} {tg a : Expr} {ma : Cd S (List D)} {p : Pos} (hg : Gl X "range") (hm : X.mg "range" = none) (ha : PFA X C [a] str G ma) (hs : starEach [a] X.env = [(false, eval a X.env)] := by rfl) : PFI X C tg (.Call (.Name "range" p) [a] [] pos) (iRng1 str) G (bindS ma fun ds => optS (rg1 ds)) := by
  refine ⟨ha.hK, pi_range1 hg hm ha.pe hs, fun σ H B s R n w => ha.se.seq n w fun ds s1 vs H1 k1 n1 r1 w1 => ?_⟩
  obtain ⟨z, e, q⟩ := wp_opt w1
  unfold rg1 at e
  split at e
  · split at e
    · rename_i hb
      cases e
      obtain ⟨v, rfl, r⟩ := reps1 r1
      cases r
      exact ⟨_, rfl, hb.1, hb.2, q _ H1 k1 n1 gives_r⟩
    · cases e
  · cases e
theorem firange2 {str : TA} {tg a b : Expr} {ma : Cd S (List D)} {p : Pos} (hg : Gl X "range") (hm : X.mg "range" = none) (ha : PFA X C [a, b] str G ma) (hs : starEach [a, b] X.env = [(false, eval a X.env), (false, eval b X.env)] := by rfl) (hs2 : starEach [b] X.env = [(false, eval b X.env)] := by rfl) :
    PFI X C tg (.Call (.Name "range" p) [a, b] [] pos) (iRng2 str) G (bindS ma fun ds => optS (rg2 ds)) := by
  refine ⟨ha.hK, pi_range2 hg hm ha.pe hs hs2, fun σ H B s R n w => ha.se.seq n w fun ds s1 vs H1 k1 n1 r1 w1 => ?_⟩
  obtain ⟨z, e, q⟩ := wp_opt w1
  unfold rg2 at e
  split at e
  · split at e
    · rename_i hb
      cases e
      obtain ⟨v, u, rfl, r, r'⟩ := reps2 r1
      cases r
      cases r'
      exact ⟨_, _, rfl, hb, q _ H1 k1 n1 gives_r⟩
    · cases e
  · cases e
def zpD : List D → Option (List D)
  | [.tup xs, .tup ys] => some (zipD xs ys)
  | [.fl xs, .fl ys] => some (zipD xs ys)
  | _ => none
theorem fizip {elts : List Expr} {kk : Nat} {e e2 : Expr} {str : TA} {ma : Cd S (List D)} {p tpos : Pos} (hg : Gl X "zip") (hm : X.mg "zip" = none) (ha : PFA X C [e, e2] str G ma)
    (hs : starEach [e, e2] X.env = (false, eval e X.env) :: starEach [e2] X.env := by rfl) (hpl : (backTo pos (starEach [e2] X.env)).any (·.1) = false := by rfl) :
    PFI X C (.Tuple elts kk tpos) (.Call (.Name "zip" p) [e, e2] [] pos) (iZipA K str) G (bindS ma fun ds => optS (zpD ds)) := by
  have hK := ha.hK; subst hK
  refine ⟨rfl, pi_zipA hg hm ha.pe hs hpl, fun σ H B s R n w => ha.se.seq n w fun ds s1 vs H1 k1 n1 r1 w1 => ?_⟩
  obtain ⟨z, e, q⟩ := wp_opt w1
  unfold zpD at e
  split at e
  · cases e
    obtain ⟨v, u, rfl, r, r'⟩ := reps2 r1
    cases r with
    | tup q1 rs1 => cases r' with
      | tup q2 rs2 =>
        refine ⟨_, _, _, _, rfl, .inr ⟨q1, q2, q _ H1 k1 n1 fun M2 H2 s2 m2 _ => ⟨fun i d e => ?_, ?_⟩⟩⟩
        · obtain ⟨x, y, h1, h2, rfl⟩ := zipD_get e
          obtain ⟨a, k1, k2⟩ := (rs1.kt s2).get h1
          obtain ⟨b, k3, k4⟩ := (rs2.kt s2).get h2
          refine ⟨⟨_, _, a, b, s2.sq q1, s2.sq q2, k1, k3⟩, fun x' H3 yy => ?_⟩
          obtain ⟨T, x1, y1, rfl, hT, rfl, e1, e2⟩ := yy
          have f1 := e1 _ (s2.sq q1)
          have f2 := e2 _ (s2.sq q2)
          rw [k1] at f1; cases f1
          rw [k3] at f2; cases f2
          exact zip_step m2 hT k2 k4
        · refine ⟨_, _, s2.sq q1, s2.sq q2, ?_⟩
          rw [zipD_len, rs1.length, rs2.length]
          omega
  · cases e
    obtain ⟨v, u, rfl, r, r'⟩ := reps2 r1
    cases r with
    | fl q1 rs1 => cases r' with
      | fl q2 rs2 =>
        refine ⟨_, _, _, _, rfl, .inl ⟨q1.sq, q2.sq, q _ H1 k1 n1 fun M2 H2 s2 m2 _ => ⟨fun i d e => ?_, ?_⟩⟩⟩
        · obtain ⟨x, y, h1, h2, rfl⟩ := zipD_get e
          obtain ⟨a, k1, k2⟩ := (rs1.kt s2).get h1
          obtain ⟨b, k3, k4⟩ := (rs2.kt s2).get h2
          have j1 := (RdL.kt s2 q1).sq
          have j2 := (RdL.kt s2 q2).sq
          refine ⟨⟨_, _, a, b, j1, j2, k1, k3⟩, fun x' H3 yy => ?_⟩
          obtain ⟨T, x1, y1, rfl, hT, rfl, e1, e2⟩ := yy
          have f1 := e1 _ j1
          have f2 := e2 _ j2
          rw [k1] at f1; cases f1
          rw [k3] at f2; cases f2
          exact zip_step m2 hT k2 k4
        · refine ⟨_, _, (RdL.kt s2 q1).sq, (RdL.kt s2 q2).sq, ?_⟩
          rw [zipD_len, rs1.length, rs2.length]
          omega
  · cases e
def enD : List D → Option (List D)
  | [.tup xs] => some (enumD 0 xs)
  | [.fl xs] => some (enumD 0 xs)
  | _ => none
theorem pi_or {X : Cx} {tg iter : Expr} {w1 w2 : TI} (h1 : PI X tg iter w1) (h2 : PI X tg iter w2) : PI X tg iter (fun σ H R => w1 σ H R ∨ w2 σ H R) :=
  ⟨fun pins s σ H R I h => h.elim (h1.run pins s σ H R I) (h2.run pins s σ H R I)⟩
theorem fienum {elts : List Expr} {kk : Nat} {str : TA} {ma : Cd S (List D)} {p tpos : Pos} (hg : Gl X "enumerate") (hm : X.mg "enumerate" = none) (ha : PFA X C [e] str G ma) (hs : starEach [e] X.env = [(false, eval e X.env)] := by rfl) :
    PFI X C (.Tuple elts kk tpos) (.Call (.Name "enumerate" p) [e] [] pos) (fun σ H R => str σ H fun vs H1 => (∃ a xs, vs = [.ref a] ∧ SqT K H1 a xs ∧ R (GX.IteT K a) H1) ∨ ∃ a xs, vs = [.ref a] ∧ SqL K H1 a xs ∧ R (Ite K a) H1) G (bindS ma fun ds => optS (enD ds)) := by
  have hK := ha.hK; subst hK
  have pe : PI X (.Tuple elts kk tpos) (.Call (.Name "enumerate" p) [e] [] pos) (fun σ H R => str σ H fun vs H1 => (∃ a xs, vs = [.ref a] ∧ SqT X.K H1 a xs ∧ R (GX.IteT X.K a) H1) ∨ ∃ a xs, vs = [.ref a] ∧ SqL X.K H1 a xs ∧ R (Ite X.K a) H1) := by
    refine ⟨fun pins s σ H R I h => ?_⟩
    refine Call_ (ld_blt I hg hm boot_enumerate (PyProof.Rows.callWith_type1 (thn (ha.pe.run pos pins s σ H _ I h) fun us s1 ⟨vs, H1, I1, r1, q1⟩ => ?_) hs rfl))
    rcases q1 with ⟨a, xs, ex, hq, q⟩ | ⟨a, xs, ex, hq, q⟩
    · subst ex
      cases r1 with
      | cons r rr =>
        cases rr
        cases r
        obtain ⟨its, rv, p', hz⟩ := I1.tuple hq
        have la : a < s1.heap.objs.size := by obtain ⟨_, e, _⟩ := p'; exact Heap.lt_size e
        refine GX.enum1 (begins_tuple a its.toArray) p' fun h' he hit hsz hk => wpAny_pyIter_enum he ?_
        refine ⟨s1.heap.objs.size + 1, [s1.heap.objs.size + 1, s1.heap.objs.size], _, _, H1, rfl, I1.kept (t' := s1.toks) hk, GX.turn_enumT a (s1.heap.objs.size + 1) s1.heap.objs.size (Nat.ne_of_lt la) (Nat.ne_of_lt (Nat.lt_succ_of_lt la)), ⟨⟨.none, he⟩, ⟨_, hit, rfl, rfl⟩, Nat.succ_ne_self _⟩, fun b hb => ?_, q⟩
        have hle : s1.heap.objs.size ≤ b := by
          simp only [List.mem_cons, List.not_mem_nil, or_false] at hb
          rcases hb with z | z <;> rw [z]
          · exact Nat.le_succ _
          · exact Nat.le_refl _
        exact I1.fpOk hle (I1.hok.fresh hle)
    · subst ex
      cases r1 with
      | cons r rr =>
        cases rr
        cases r
        obtain ⟨its, rv, p', hz⟩ := I1.list hq
        refine call_enumerate_list p'.isList fun h' he hit hsz hk => wpAny_pyIter_enum he ?_
        refine ⟨s1.heap.objs.size + 1, [s1.heap.objs.size + 1, s1.heap.objs.size], _, _, H1, rfl, I1.kept (t' := s1.toks) hk, turn_enum a (s1.heap.objs.size + 1) s1.heap.objs.size, ⟨⟨.none, he⟩, hit, Nat.succ_ne_self _⟩, fun b hb => ?_, q⟩
        have hle : s1.heap.objs.size ≤ b := by
          simp only [List.mem_cons, List.not_mem_nil, or_false] at hb
          rcases hb with z | z <;> rw [z]
          · exact Nat.le_succ _
          · exact Nat.le_refl _
        exact I1.fpOk hle (I1.hok.fresh hle)
  refine ⟨rfl, pe, fun σ H B s R n w => ha.se.seq n w fun ds s1 vs H1 k1 n1 r1 w1 => ?_⟩
  obtain ⟨z, e, q⟩ := wp_opt w1
  unfold enD at e
  split at e
  · cases e
    obtain ⟨v, rfl, r⟩ := reps1 r1
    cases r with
    | tup q1 rs1 =>
      refine .inl ⟨_, _, rfl, q1, q _ H1 k1 n1 fun M2 H2 s2 m2 _ => ⟨fun i d e => ?_, ?_⟩⟩
      · obtain ⟨x, h1, rfl⟩ := enumD_get e
        obtain ⟨a, k1, k2⟩ := (rs1.kt s2).get h1
        refine ⟨⟨_, a, s2.sq q1, k1⟩, fun x' H3 yy => ?_⟩
        obtain ⟨T, x1, rfl, hT, rfl, e1⟩ := yy
        have f1 := e1 _ (s2.sq q1)
        rw [k1] at f1; cases f1
        rw [Nat.zero_add]
        exact zip_step m2 hT (.int _) k2
      · exact ⟨_, s2.sq q1, by rw [enumD_len, rs1.length]⟩
  · cases e
    obtain ⟨v, rfl, r⟩ := reps1 r1
    cases r with
    | fl q1 rs1 =>
      refine .inr ⟨_, _, rfl, q1.sq, q _ H1 k1 n1 fun M2 H2 s2 m2 _ => ⟨fun i d e => ?_, ?_⟩⟩
      · obtain ⟨x, h1, rfl⟩ := enumD_get e
        obtain ⟨a, k1, k2⟩ := (rs1.kt s2).get h1
        have j1 := (RdL.kt s2 q1).sq
        refine ⟨⟨_, a, j1, k1⟩, fun x' H3 yy => ?_⟩
        obtain ⟨T, x1, rfl, hT, rfl, e1⟩ := yy
        have f1 := e1 _ j1
        rw [k1] at f1; cases f1
        rw [Nat.zero_add]
        exact zip_step m2 hT (.int _) k2
      · exact ⟨_, (RdL.kt s2 q1).sq, by rw [enumD_len, rs1.length]; exact Nat.le_refl _⟩
  · cases e
end
end FL
end
section
set_option maxHeartbeats 4000000
/-! FE: own lists that turn, list + list, extend, slices, isinstance. -/
namespace FL
open PySem PySem.Spec PyProof.Rows L2 DL RZ

/-! ### lists that may be read: tracked, locked, written -/
def RdA (K : PySem.W.Frag) (H : Hp) (a : Addr) (xs : List V) : Prop := RdL K H a xs ∨ H a = some (.lst xs)
section
variable {X : Cx} {pins : List (Addr × Obj)} {σ : L2.St} {H : Hp} {s : Shared}
theorem rdA_obj {a : Addr} {xs : List V} (I : L2.Inv X pins σ H s) (h : RdA X.K H a xs) : ∃ (its : List Value) (n : Nat), its.length ≤ sizeLine ∧ Vals xs its ∧ xs.length = its.length ∧ s.heap.get? a = some { cls := .type "list", data := .seq its.toArray n } := by
  rcases h with (⟨o, h⟩ | ⟨its, n, h1, h2, h3⟩) | h
  · obtain ⟨_, z, its, n, r, e⟩ := I.hok a _ h
    exact ⟨its, n, by rw [← r.length]; exact z, r, r.length, e⟩
  · refine ⟨its.toList, n, by simpa using h2, h3, h3.length, ?_⟩
    have := I.kIn _ _ h1
    simpa using this
  · obtain ⟨z, its, n, r, e⟩ := I.hok a _ h
    exact ⟨its, n, by rw [← r.length]; exact z, r, r.length, e⟩
end
section
variable {X : Cx}
def rCatF (K : PySem.W.Frag) : R2 := fun x y H Q => ∃ l b xs zs, x = .ref l ∧ y = .ref b ∧ RdA K H l xs ∧ RdA K H b zs ∧ xs.length + zs.length ≤ sizeLine ∧ ∀ p, H p = none → Q (.ref p) (upd H p (.lst (xs ++ zs)))
theorem op_catF : OpR X (binaryOp .Add) (rCatF X.K) := by
  intro pins s σ H x y v u Q I rx ry h
  obtain ⟨l, b, xs, zs, rfl, rfl, hH, hB, hz, q⟩ := h
  cases rx
  cases ry
  obtain ⟨its, n, z, r, hl, e⟩ := rdA_obj I hH
  obtain ⟨its2, n2, z2, r2, hl2, e2⟩ := rdA_obj I hB
  refine PySem.P.add_list e e2 ?_ (by rw [List.size_toArray, List.size_toArray]; omega)
  have ea : its.toArray ++ its2.toArray = (its ++ its2).toArray := by simp
  rw [ea]
  exact ⟨.ref _, _, I.lnew (t' := s.toks) (r.append r2) (by rw [List.length_append]; omega), rfl, q _ I.fresh⟩
def rExtendF (K : PySem.W.Frag) : V → List V → Hp → VK → Prop := fun x vs H Q => ∃ l b xs zs, x = .ref l ∧ vs = [.ref b] ∧ H l = some (.lst xs) ∧ RdL K H b zs ∧ xs.length + zs.length ≤ sizeLine ∧ Q .non (upd H l (.lst (xs ++ zs)))
theorem mt_extendF : MtR X "list.extend" (rExtendF X.K) := by
  intro pins s σ H x vs v us Q I rx rv h
  obtain ⟨l, b, xs, zs, rfl, rfl, hH, hB, hz, q⟩ := h
  cases rx
  obtain ⟨u, rfl, ru⟩ := rv.one
  cases ru
  obtain ⟨its, n, z, r, hl, e⟩ := rdA_obj I (.inr hH)
  obtain ⟨its2, n2, z2, r2, hl2, e2⟩ := rdA_obj I (.inl hB)
  have hsz : its.toArray.size + its2.toArray.size ≤ sizeLine := by rw [List.size_toArray, List.size_toArray]; omega
  have hlong : ¬ (!its.toArray.isEmpty && Builtin.List.listTooLong (its.toArray.size + its2.toArray.size)) = true := by
    rw [notLongL hsz, Bool.and_false]
    exact Bool.false_ne_true
  refine call_meets F.slot_list_extend ⟨_, e, rfl⟩ F.entry_list_extend (F.args_list_extend_2 _ _)
    (AutoSeq1.list_extend_list_list_0 l its.toArray n b its2.toArray n2 hlong (by rw [List.size_toArray]; omega) (by omega)) ⟨e, e2, ?_⟩
  refine ⟨.non, _, I.lset (its' := its ++ its2) hH e (by simp) (r.append r2) ?_, rfl, q⟩
  rw [List.length_append]
  omega
end
section
variable {K : PySem.W.Frag} {S ρ : Type} {X : Cx} {C : FE K S} {G : FG} {F : Fam S ρ} {rest : List Stmt} {su : TS} {a b e : Expr} {sta stb ste : TE} {ma mb me : Cd S D} {es : List Expr} {str : TA} {mr : Cd S (List D)} {pos : Pos}
/-! ### methods that turn an own list -/
/-- what is made, what stands then -/
def ImpM (o : OM) (mo : List D → List D → Option (D × List D)) : Prop := ∀ a es ds M z, mo es ds = some z → M a = some (.lst es) → o a es ds M fun d' M' => d' = z.1 ∧ M' = mupd M a (.lst z.2)
theorem Now.mutS {σ : L2.St} {H H' : Hp} {B : Mp} {s : S} {i : Nat} {p : Addr} {u v : MO} (n : Now C σ H G B s) (hi : gf G i = some (.own v)) (hs : σ[i]? = some (some (.ref p))) (st : Step (C.Z.put s B) H (mupd (C.Z.put s B) p u) H') (m : RepM K H' (mupd (C.Z.put s B) p u)) : KT H H' ∧ Now C σ H' (sf G i (some (.own u))) (mupd B p u) s := by
  obtain ⟨p', e, hd, hb, hb0, hf⟩ := n.owns i v hi
  rw [hs] at e; cases e
  have kt := st.kt n.rm
  refine ⟨kt, by rw [sf_len]; exact n.len, fun j e h => ?_, fun j w h => ?_, fun j k a b q q' hn h1 h2 h3 h4 => ?_, fun a w e => ?_, by rw [put_upd hd]; exact m, by rw [put_upd hd]; exact n.st.trans st⟩
  · have hj : j ≠ i := fun e => by subst e; obtain ⟨z, _⟩ := gf_sf h; cases z
    rw [gf_sf_ne hj] at h
    obtain ⟨w, h1, h2⟩ := n.vals j e h
    exact ⟨w, h1, h2.kt kt⟩
  · by_cases hj : j = i
    · subst hj
      obtain ⟨z, _⟩ := gf_sf h
      cases z
      exact ⟨p, hs, hd, mupd_same, hb0, hf⟩
    · rw [gf_sf_ne hj] at h
      obtain ⟨q, h1, h2, h3, h4⟩ := n.owns j w h
      exact ⟨q, h1, h2, by rw [mupd_ne (n.dist j i w v q p hj h hi h1 hs)]; exact h3, h4⟩
  · have old : ∀ j a, gf (sf G i (some (.own u))) j = some (.own a) → ∃ b, gf G j = some (.own b) := fun j a h => by
      by_cases hj : j = i
      · subst hj; exact ⟨v, hi⟩
      · rw [gf_sf_ne hj] at h; exact ⟨a, h⟩
    obtain ⟨a', h1⟩ := old j a h1
    obtain ⟨b', h2⟩ := old k b h2
    exact n.dist j k a' b' q q' hn h1 h2 h3 h4
  · have := n.sub a w e
    rw [mupd_ne (fun z => by subst z; rw [hb0] at e; cases e)]; exact this
/-- xs.m(..), xs own: the value and the list that stands then -/
def SimM (C : FE K S) (te : TE) (G : FG) (i : Nat) (m : Cd S (D × List D)) : Prop := ∀ σ H B s (Q : VK), Now C σ H G B s → (m s).wp (fun z s' => ∀ v H' B', KT H H' → Now C σ H' (sf G i (some (.own (.lst z.2)))) B' s' → Rep K H' v z.1 → Q v H') C.Xi → te σ H Q
structure PFM (X : Cx) (C : FE K S) (e : Expr) (te : TE) (G : FG) (i : Nat) (m : Cd S (D × List D)) : Prop where
  hK : X.K = K
  pe : PE X e te
  se : SimM C te G i m
theorem se_lm {r : V → List V → Hp → VK → Prop} {o : OM} {mo : List D → List D → Option (D × List D)} {i : Nat} {l : List D} (hG : gf G i = some (.own (.lst l))) (h : SMt K r o) (im : ImpM o mo) (hr : SimA C str G mr) : SimM C (tBM K "list" r (tVar i) str) G i (bindS mr fun ds => optS (mo l ds)) := fun σ H B s Q n w => by
  obtain ⟨p, h1, hd, h3, _⟩ := n.owns i _ hG
  have hM : C.Z.put s B p = some (.lst l) := by rw [C.Z.out _ _ _ hd]; exact h3
  obtain ⟨vs, g1, g2⟩ := n.rm.2 p _ hM
  refine ⟨_, h1, .inl ⟨rfl, vs, SqL.of g1⟩, hr.seq n w fun ds s1 us H1 k1 n1 r1 w1 => ?_⟩
  obtain ⟨z, e, q⟩ := wp_opt w1
  have hM1 : C.Z.put s1 B p = some (.lst l) := by rw [C.Z.out _ _ _ hd]; exact h3
  refine h p l us ds H1 _ _ Q hM1 r1 n1.rm (im p l ds _ z e hM1) fun d M' v H' ⟨e1, e2⟩ st r m => ?_
  subst e1; subst e2
  obtain ⟨k2, n2⟩ := n1.mutS hG h1 st m
  exact q v H' _ (k1.trans k2) n2 r
theorem flm (i : Nat) {x name : Str} {px apos cpos : Pos} {id : String} {rm : V → List V → Hp → VK → Prop} {o : OM} {mo : List D → List D → Option (D × List D)} {l : List D} (pa : PlainAttrs "list") (slot : Slot "list" name id) (hty : typeOf (.builtin id) = pure (.type "method_descriptor")) (hm : PMt X K id rm o) (im : ImpM o mo)
    (hr : PFA X C (e :: es) str G mr) (hG : gf G i = some (.own (.lst l)) := by rfl) (hN : X.N[i]? = some x := by rfl) (hv : Vis X.env.scope x := by first | exact Or.inl rfl | exact Or.inr (Or.inl rfl) | exact Or.inr (Or.inr rfl)) (hd : (x == ("__debug__" : Str)) = false := by decide) (hcd : (x == ("__classdict__" : Str)) = false := by decide)
    (hbase : attributeBase (.Name x px) name X.env (eval (.Name x px) X.env) = eval (.Name x px) X.env := by rfl)
    (hfew : ((backTo cpos (starEach (e :: es) X.env)).all (fun x => !x.1) && (backToKw cpos (keywordEach [] X.env)).all (fun x => x.1.isSome)
      && decide ((e :: es).length + ([] : List Keyword).length + (if ([] : List Keyword).isEmpty then 0 else 1) < 30)) = true := by rfl)
    (hline : (apos.endLine == cpos.line) = true := by rfl) (hs : starEach (e :: es) X.env = (false, eval e X.env) :: starEach es X.env := by rfl) (hplain : (backTo cpos (starEach es X.env)).any (·.1) = false := by rfl) :
    PFM X C (.Call (.Attribute (.Name x px) name apos) (e :: es) [] cpos) (tBM K "list" rm (tVar i) str) G i (bindS mr fun ds => optS (mo l ds)) := by
  have hK := hm.hK; subst hK
  exact ⟨rfl, pe_bm pa slot hty hm.pe (pe_var hN hv hd hcd) hr.pe hbase hfew hline hs hplain, se_lm hG hm.se im hr.se⟩
theorem flm0 (i : Nat) {x name : Str} {px apos cpos : Pos} {id : String} {rm : V → List V → Hp → VK → Prop} {o : OM} {mo : List D → List D → Option (D × List D)} {l : List D} (pa : PlainAttrs "list") (slot : Slot "list" name id) (hty : typeOf (.builtin id) = pure (.type "method_descriptor")) (hm : PMt X K id rm o) (im : ImpM o mo)
    (hG : gf G i = some (.own (.lst l)) := by rfl) (hN : X.N[i]? = some x := by rfl) (hv : Vis X.env.scope x := by first | exact Or.inl rfl | exact Or.inr (Or.inl rfl) | exact Or.inr (Or.inr rfl)) (hd : (x == ("__debug__" : Str)) = false := by decide) (hcd : (x == ("__classdict__" : Str)) = false := by decide)
    (hbase : attributeBase (.Name x px) name X.env (eval (.Name x px) X.env) = eval (.Name x px) X.env := by rfl) (hline : (apos.endLine == cpos.line) = true := by rfl) :
    PFM X C (.Call (.Attribute (.Name x px) name apos) [] [] cpos) (tBM0 K "list" rm (tVar i)) G i (optS (mo l [])) := by
  have hK := hm.hK; subst hK
  refine ⟨rfl, pe_bm0 pa slot hty hm.pe (pe_var hN hv hd hcd) hbase hline, fun σ H B s Q n w => ?_⟩
  obtain ⟨p, h1, hd, h3, _⟩ := n.owns i _ hG
  have hM : C.Z.put s B p = some (.lst l) := by rw [C.Z.out _ _ _ hd]; exact h3
  obtain ⟨vs, g1, g2⟩ := n.rm.2 p _ hM
  obtain ⟨z, e, q⟩ := wp_opt w
  refine ⟨_, h1, .inl ⟨rfl, vs, SqL.of g1⟩, hm.se p l [] [] H _ _ Q hM .nil n.rm (im p l [] _ z e hM) fun d M' v H' ⟨e1, e2⟩ st r m => ?_⟩
  subst e1; subst e2
  obtain ⟨k2, n2⟩ := n.mutS hG h1 st m
  exact q v H' _ k2 n2 r
theorem SimM.seq {β : Type} {te : TE} {i : Nat} {m : Cd S (D × List D)} {f : D × List D → Cd S β} {Q : VK} {σ H B s} {Ψ : β → S → Prop} (h : SimM C te G i m) (n : Now C σ H G B s) (w : (bindS m f s).wp Ψ C.Xi)
    (k : ∀ z s1 v H1 B1, KT H H1 → Now C σ H1 (sf G i (some (.own (.lst z.2)))) B1 s1 → Rep K H1 v z.1 → (f z s1).wp Ψ C.Xi → Q v H1) : te σ H Q :=
  h σ H B s Q n ((wp_bind.mp w).mono fun a s1 w1 v H1 B1 k1 n1 r1 => k a s1 v H1 B1 k1 n1 r1 w1)
/-- xs.m(..) as a statement -/
theorem fexprM {i : Nat} {mm : Cd S (D × List D)} {mk : D × List D → Cd S ρ} (h : PFM X C e ste G i mm) (hr : ∀ z : D × List D, PFB X C rest su (sf G i (some (.own (.lst z.2)))) F (mk z)) (hs : swapsWith e none pos.line X.env = pure false := by rfl) : PFB X C (.Expr e pos :: rest) (tSeq (tDrop ste) su) G F (bindS mm mk) :=
  ⟨h.hK, pss_cons (ps_expr h.pe hs) (hr (.non, [])).pe, fun σ H B s Ψ E n k w => h.se.seq n w fun z s1 v H1 B1 k1 n1 r1 w1 => (hr z).se σ H1 B1 s1 Ψ E n1 (k.step k1) w1⟩
/-- y = xs.m(..) -/
theorem fsetM {i : Nat} (j : Nat) {x : Str} {pos' : Pos} {mm : Cd S (D × List D)} {mk : D × List D → Cd S ρ} (hN : X.N.Nodup) (he : PFM X C e ste G i mm) (hr : ∀ z : D × List D, PFB X C rest su (sf (sf G i (some (.own (.lst z.2)))) j (some (.val z.1))) F (mk z)) (hi2 : Nat.blt j G.length = true := by rfl) (hi : X.N[j]? = some x := by rfl) (hx : Loc X.env.scope x := by first | exact .inl rfl | exact .inr rfl) (hs : swapsWith e (some (.Name x pos')) pos.line X.env = pure false := by rfl) (hf : X.fn x = true ∨ X.env.scope.names.lookup x = some .local := by first | exact .inl rfl | exact .inr rfl | assumption) :
    PFB X C (.Assign [.Name x pos'] e pos :: rest) (tSeq (tAsg ste (gName j)) su) G F (bindS mm mk) :=
  ⟨he.hK, pss_cons (ps_set hN hi hx he.pe hs hf) (hr (.non, [])).pe, fun σ H B s Ψ E n k w => he.se.seq n w fun z s1 v H1 B1 k1 n1 r1 w1 => (hr z).se _ H1 B1 s1 Ψ E (n1.setV r1 (by rw [sf_len]; exact Nat.le_of_ble_eq_true hi2)) (k.step k1) w1⟩
/-- xs[k] = e -/
def setO (l : List D) (k v : D) : Option (List D) := match k with
  | .int j => match ixN l.length j with
    | some n => some (l.set n v)
    | none => none
  | _ => none
theorem fsetI (i : Nat) {x : Str} {px pos' : Pos} {l : List D} {mk : List D → Cd S ρ} (he : PF X C e ste G me) (hk : PF X C a sta G ma) (hr : ∀ l, PFB X C rest su (sf G i (some (.own (.lst l)))) F (mk l)) (hG : gf G i = some (.own (.lst l)) := by rfl) (hN : X.N[i]? = some x := by rfl) (hv : Vis X.env.scope x := by first | exact Or.inl rfl | exact Or.inr (Or.inl rfl) | exact Or.inr (Or.inr rfl)) (hd : (x == ("__debug__" : Str)) = false := by decide) (hcd : (x == ("__classdict__" : Str)) = false := by decide)
    (hs : swapsWithSole [.Subscript (.Name x px) a pos'] e pos.line X.env = pure false := by rfl) (hw : swappedStores [.Subscript (.Name x px) a pos'] e X.env = pure none := by rfl)
    (h1 : (assignEach [.Subscript (.Name x px) a pos'] X.env).map (·.2) = [assign (.Subscript (.Name x px) a pos') X.env] := by rfl) (ha : ∀ v, assign (.Subscript (.Name x px) a pos') X.env v = (do
      let ov ← holding [v] (eval (.Name x px) X.env)
      let iv ← holding [v, ov] (eval a X.env)
      standAt pos'
      holding [v, ov, iv] (setItem ov iv v)
      release [v, ov, iv] []) := by intro _; rfl) : PFB X C (.Assign [.Subscript (.Name x px) a pos'] e pos :: rest) (tSeq (tAsg ste (gSub (tVar i) sta rSetL)) su) G F (bindS me fun v => bindS ma fun k => bindS (optS (setO l k v)) mk) :=
  ⟨he.hK, pss_cons (ps_asg he.pe (pg_sub (pe_var hN hv hd hcd) hk.pe set_list ha) hs hw h1) (hr []).pe, fun σ H B s Ψ E n k w => he.se.seq n w fun d s1 v H1 k1 n1 r1 w1 => by
    obtain ⟨p, g1, hd, g3, _⟩ := n1.owns i _ hG
    refine ⟨_, g1, hk.se.seq n1 w1 fun j s2 u H2 k2 n2 r2 w2 => ?_⟩
    obtain ⟨z, e, q⟩ := wp_opt (wp_bind.mp w2)
    unfold setO at e
    split at e
    · rename_i j
      split at e
      · rename_i m hm
        cases e
        cases r2
        have hM : C.Z.put s2 B p = some (.lst l) := by rw [C.Z.out _ _ _ hd]; exact g3
        obtain ⟨vs, f1, f2⟩ := n2.rm.2 p _ hM
        refine ⟨p, vs, _, m, rfl, rfl, f1, by rw [f2.length]; exact hm, ?_⟩
        have kt := KT.lst (u := .lst (vs.set m v)) f1
        exact (hr _).se σ _ (mupd B p (.lst (l.set m d))) s2 Ψ E (n2.mutOwn (h0 := .lst vs) hG g1 kt ⟨_, upd_same, ((r1.kt k2 |> fun r => f2.set r m).kt kt)⟩) (k.step ((k1.trans k2).trans kt)) q
      · cases e
    · cases e⟩

/-! ### list + list -/
def catL : D → D → Option (List D)
  | .fl a, .fl b => if a.length + b.length ≤ sizeLine then some (a ++ b) else none
  | _, _ => none
theorem fcatL (hu : True) (ha : PF X C a sta G ma) (hb : PF X C b stb G mb) : PFL X C (.BinOp a .Add b pos) (tOp (rCatF K) sta stb) G (bindS ma fun x => bindS mb fun y => optS (catL x y)) := by
  have hK := ha.hK; subst hK
  refine ⟨rfl, pe_op op_catF ha.pe hb.pe, fun σ H B s Q n w => ha.se.seq n w fun x s1 v H1 k1 n1 r1 w1 => hb.se.seq n1 w1 fun y s2 u H2 k2 n2 r2 w2 => ?_⟩
  obtain ⟨z, e, q⟩ := wp_opt w2
  unfold catL at e
  split at e
  · split at e
    · rename_i hl
      cases e
      have r1 := r1.kt k2
      cases r1 with
      | fl q1 t1 => cases r2 with
        | fl q2 t2 =>
          refine ⟨_, _, _, _, rfl, rfl, .inl q1, .inl q2, by rw [t1.length, t2.length]; exact hl, fun p hp => ?_⟩
          obtain ⟨a1, a2, a3, a4, a5⟩ := n2.newL hp (t1.append t2)
          exact q p _ ((k1.trans k2).trans a4) a1 a2 a3 a5
    · cases e
  · cases e
/-- .. the left one own -/
theorem fcatLO (i : Nat) {x : Str} {px : Pos} {l : List D} (hb : PF X C b stb G mb) (hG : gf G i = some (.own (.lst l)) := by rfl) (hN : X.N[i]? = some x := by rfl) (hv : Vis X.env.scope x := by first | exact Or.inl rfl | exact Or.inr (Or.inl rfl) | exact Or.inr (Or.inr rfl)) (hd : (x == ("__debug__" : Str)) = false := by decide) (hcd : (x == ("__classdict__" : Str)) = false := by decide) :
    PFL X C (.BinOp (.Name x px) .Add b pos) (tOp (rCatF K) (tVar i) stb) G (bindS mb fun y => optS (catL (.fl l) y)) := by
  have hK := hb.hK; subst hK
  refine ⟨rfl, pe_op op_catF (pe_var hN hv hd hcd) hb.pe, fun σ H B s Q n w => ?_⟩
  obtain ⟨p, g1, hd, g3, _⟩ := n.owns i _ hG
  refine ⟨_, g1, hb.se.seq n w fun y s2 u H2 k2 n2 r2 w2 => ?_⟩
  obtain ⟨z, e, q⟩ := wp_opt w2
  unfold catL at e
  split at e
  · rename_i a b e1
    split at e
    · rename_i hl
      cases e
      cases e1
      obtain ⟨vs, f1, f2⟩ := n2.rm.2 p (.lst l) (by rw [C.Z.out _ _ _ hd]; exact g3)
      cases r2 with
      | fl q2 t2 =>
        refine ⟨_, _, _, _, rfl, rfl, .inr f1, .inl q2, by rw [f2.length, t2.length]; exact hl, fun p hp => ?_⟩
        obtain ⟨a1, a2, a3, a4, a5⟩ := n2.newL hp (f2.append t2)
        exact q p _ (k2.trans a4) a1 a2 a3 a5
    · cases e
  · cases e
/-- xs.extend(ys), ys that stands still -/
def oExtendF : OM := fun a es ds M Q => match ds with
  | [.fl fs] => es.length + fs.length ≤ sizeLine ∧ Q .non (mupd M a (.lst (es ++ fs)))
  | _ => False
theorem m_extendF (hK : X.K = K := by rfl) : PMt X K "list.extend" (rExtendF K) oExtendF := by
  subst hK
  refine ⟨rfl, mt_extendF, ?_⟩
  intro a es vs ds H M Qd Q h rr m q l
  cases ds with
  | nil => exact q.elim
  | cons d t => cases t with
    | cons => cases d <;> exact q.elim
    | nil =>
      obtain ⟨v, rfl, r⟩ := reps1 rr
      cases d <;> first | exact q.elim | skip
      obtain ⟨h2, h3⟩ := q
      obtain ⟨ws, g1, g2⟩ := m.2 _ _ h
      cases r with
      | fl k1 k2 => exact ⟨a, _, ws, _, rfl, rfl, g1, k1, by rw [g2.length, k2.length]; exact h2, l.mut m h (g2.append k2) .non h3⟩

/-! ### slices -/
def sliceT : D → Option Int → Option Int → Option D
  | .tup ds, lo, hi => some (.tup (cutD ds lo hi))
  | _, _, _ => none
def sliceL : D → Option Int → Option Int → Option (List D)
  | .fl ds, lo, hi => some (cutD ds lo hi)
  | _, _, _ => none
section
variable {lo hi : Option Expr} {stl sth : TO} {ml mh : Cd S (Option Int)} {p2 : Pos}
theorem fslT (he : PF X C e ste G me) (hl : PFO X C lo stl G ml) (hh : PFO X C hi sth G mh) : PF X C (.Subscript e (.Slice lo hi none p2) pos) (tSl (rSlA K) ste stl sth) G (bindS me fun d => bindS ml fun i => bindS mh fun j => optS (sliceT d i j)) := by
  have hK := he.hK; subst hK
  refine ⟨rfl, pe_slice sl_tupA he.pe hl.pe hh.pe, fun σ H B s Q n w => he.se.seq n w fun d s1 v H1 k1 n1 r1 w1 => hl.se.seq n1 w1 fun lo s2 H2 k2 n2 w2 => hh.se.seq n2 w2 fun hi s3 H3 k3 n3 w3 => ?_⟩
  obtain ⟨z, e, q⟩ := wp_opt w3
  cases d <;> first | cases e | skip
  have r3 := (r1.kt k2).kt k3
  cases r3 with
  | @tup a0 vs0 _ q1 r =>
    have kk := (k1.trans k2).trans k3
    refine ⟨_, _, rfl, q1, fun hw => ?_, fun _ p hp => ?_⟩
    · have e : ∀ {α : Type} (xs : List α), HT.sIx xs.length 0 lo = 0 → HT.sIx xs.length xs.length hi = xs.length → cutD xs lo hi = xs := fun xs a b => by
        unfold DL.cutD
        rw [a, b, List.drop_zero, Nat.sub_zero, List.take_length]
      rw [r.length] at hw
      refine q _ H3 kk n3 ?_
      rw [e _ hw.1 hw.2]
      exact .tup q1 r
    · have x := Same.new (o := HO.tup (cutV vs0 lo hi)) hp
      exact q _ _ (kk.trans (Same.kt x)) (n3.ext x) (.tup (SqT.of upd_same) ((cutD_reps r lo hi).kt (Same.kt x)))
theorem fslL (he : PF X C e ste G me) (hl : PFO X C lo stl G ml) (hh : PFO X C hi sth G mh) : PFL X C (.Subscript e (.Slice lo hi none p2) pos) (tSl (rSlL K) ste stl sth) G (bindS me fun d => bindS ml fun i => bindS mh fun j => optS (sliceL d i j)) := by
  have hK := he.hK; subst hK
  refine ⟨rfl, pe_slice sl_list he.pe hl.pe hh.pe, fun σ H B s Q n w => he.se.seq n w fun d s1 v H1 k1 n1 r1 w1 => hl.se.seq n1 w1 fun lo s2 H2 k2 n2 w2 => hh.se.seq n2 w2 fun hi s3 H3 k3 n3 w3 => ?_⟩
  obtain ⟨z, e, q⟩ := wp_opt w3
  cases d <;> first | cases e | skip
  have r3 := (r1.kt k2).kt k3
  cases r3 with
  | fl q1 r =>
    refine ⟨_, _, rfl, q1.sq, fun p hp => ?_⟩
    obtain ⟨a1, a2, a3, a4, a5⟩ := n3.newL hp (cutD_reps r lo hi)
    exact q p _ (((k1.trans k2).trans k3).trans a4) a1 a2 a3 a5
theorem fslLO (i : Nat) {x : Str} {px : Pos} {l : List D} (hl : PFO X C lo stl G ml) (hh : PFO X C hi sth G mh) (hG : gf G i = some (.own (.lst l)) := by rfl) (hN : X.N[i]? = some x := by rfl) (hv : Vis X.env.scope x := by first | exact Or.inl rfl | exact Or.inr (Or.inl rfl) | exact Or.inr (Or.inr rfl)) (hd : (x == ("__debug__" : Str)) = false := by decide) (hcd : (x == ("__classdict__" : Str)) = false := by decide) :
    PFL X C (.Subscript (.Name x px) (.Slice lo hi none p2) pos) (tSl (rSlL K) (tVar i) stl sth) G (bindS ml fun a => bindS mh fun b => okS (cutD l a b)) := by
  have hK := hl.hK; subst hK
  refine ⟨rfl, pe_slice sl_list (pe_var hN hv hd hcd) hl.pe hh.pe, fun σ H B s Q n w => ?_⟩
  obtain ⟨p, g1, hd, g3, _⟩ := n.owns i _ hG
  refine ⟨_, g1, hl.se.seq n w fun lo s2 H2 k2 n2 w2 => hh.se.seq n2 w2 fun hi s3 H3 k3 n3 w3 => ?_⟩
  obtain ⟨vs, f1, f2⟩ := n3.rm.2 p (.lst l) (by rw [C.Z.out _ _ _ hd]; exact g3)
  refine ⟨_, _, rfl, SqL.of f1, fun p hp => ?_⟩
  obtain ⟨a1, a2, a3, a4, a5⟩ := n3.newL hp (cutD_reps f2 lo hi)
  exact w3 p _ ((k2.trans k3).trans a4) a1 a2 a3 a5
end

/-! ### isinstance -/
def tyO : D → Option String
  | .non => some "NoneType"
  | .bl _ => some "bool"
  | .int _ => some "int"
  | .str _ => some "str"
  | .tup _ => some "tuple"
  | .fl _ => some "list"
  | .ref _ => none
def isiO (T : String) (d : D) : Option D := match tyO d with
  | some S => (kitB S T).map .bl
  | none => none
theorem fisi {T : String} {x : Str} {p pt : Pos} (he : PF X C e ste G me) (hg : Gl X "isinstance") (hm : X.mg "isinstance" = none) (hv : bootBuiltins "isinstance" = some (.builtin "isinstance")) (hg2 : Gl X x) (hm2 : X.mg x = none) (hv2 : bootBuiltins x = some (.type T))
    (hn : x ≠ "__name__" := by decide) (hd : (x == ("__debug__" : Str)) = false := by decide) (h1 : starEach [e, .Name x pt] X.env = (false, eval e X.env) :: starEach [.Name x pt] X.env := by rfl) (h2 : starEach [.Name x pt] X.env = (false, eval (.Name x pt) X.env) :: starEach [] X.env := by rfl)
    (hpl : (backTo pos (starEach [.Name x pt] X.env)).any (·.1) = false := by rfl) : PF X C (.Call (.Name "isinstance" p) [e, .Name x pt] [] pos) (tCB (rIsi K) (tCons ste (tCons (tC (.ty T)) tNil))) G (bindS me fun d => optS (isiO T d)) := by
  have hK := he.hK; subst hK
  refine ⟨rfl, pe_callB call_isi hg hm hv (pa_cons he.pe (pa_cons (pe_bltn (v := .ty T) hg2 hm2 hv2 rfl hn hd) pa_nil h2) h1) (by decide) (by decide) h1 hpl, fun σ H B s Q n w => he.se.seq n w fun d s1 v H1 k1 n1 r1 w1 => ?_⟩
  obtain ⟨z, e, q⟩ := wp_opt w1
  unfold isiO at e
  split at e
  · rename_i S' hS
    cases hk : kitB S' T with
    | none => rw [hk] at e; cases e
    | some b =>
      rw [hk] at e; cases e
      have ht : tyD d (C.Z.put s1 B) = some S' := by cases d <;> first | exact hS | cases hS
      exact ⟨_, _, _, _, b, rfl, .ty T, ty_of r1 n1.rm ht, kit_ty hk, q _ H1 k1 n1 (.bl b)⟩
  · cases e
end
end FL
end
section
set_option maxHeartbeats 4000000
/-! FF: comprehensions, all and any of generator expressions. -/
namespace FL
open PySem PySem.Spec PyProof.Rows L2 DL RZ

section
variable {S : Type}
/-- no exception leaves -/
def noxS {α : Type} (m : Cd S α) : Cd S α := fun s => match m s with
  | .ok a s' => .ok a s'
  | _ => .stuck
def lcS (b : D → Cd S (Option D)) : List D → List D → Cd S (List D)
  | [], acc => okS acc
  | d :: ds, acc => bindS (noxS (b d)) fun o => match o with
    | some y => if acc.length < sizeLine then lcS b ds (acc ++ [y]) else stk
    | none => lcS b ds acc
theorem wp_nox {α : Type} {m : Cd S α} {s : S} {Q : α → S → Prop} {E : Xn → S → Prop} (h : (noxS m s).wp Q E) : (m s).wp Q (fun _ _ => False) := by
  unfold noxS at h
  cases e : m s <;> rw [e] at h
  · exact h
  · exact h.elim
  · exact h.elim
end
section
variable {K : PySem.W.Frag} {S : Type}
def FE.nox (C : FE K S) : FE K S := { C with Xi := fun _ _ => False }
variable {C : FE K S} {σ : L2.St} {H : Hp} {G : FG} {B : Mp} {s : S}
theorem Now.nox (n : Now C σ H G B s) : Now C.nox σ H G B s := ⟨n.len, n.vals, n.owns, n.dist, n.sub, n.rm, n.st⟩
theorem Now.unox (n : Now C.nox σ H G B s) : Now C σ H G B s := ⟨n.len, n.vals, n.owns, n.dist, n.sub, n.rm, n.st⟩
theorem kill_len : ∀ (G : FG) (vs : List Nat), (killF G vs).length = G.length
  | _, [] => rfl
  | G, v :: vs => by show (sf (killF G vs) v none).length = _; rw [sf_len, kill_len]
theorem kill_get {G : FG} {i : Nat} {y : FV} : ∀ {vs : List Nat}, gf (killF G vs) i = some y → gf G i = some y ∧ i ∉ vs
  | [], h => ⟨h, by simp⟩
  | v :: vs, h => by
    have h : gf (sf (killF G vs) v none) i = some y := h
    by_cases e : i = v
    · subst e
      obtain ⟨z, _⟩ := gf_sf h
      cases z
    · rw [gf_sf_ne e] at h
      obtain ⟨h1, h2⟩ := kill_get (vs := vs) h
      exact ⟨h1, by simp only [List.mem_cons, not_or]; exact ⟨e, h2⟩⟩
theorem Now.wipe (n : Now C σ H G B s) (vs : List Nat) : Now C (L2.wipe σ vs) H (killF G vs) B s where
  len := by rw [wipe_length, kill_len]; exact n.len
  vals := fun i d h => by
    obtain ⟨h1, h2⟩ := kill_get h
    obtain ⟨v, h3, h4⟩ := n.vals i d h1
    exact ⟨v, by rw [wipe_out h2]; exact h3, h4⟩
  owns := fun i o h => by
    obtain ⟨h1, h2⟩ := kill_get h
    obtain ⟨p, h3, h4⟩ := n.owns i o h1
    exact ⟨p, by rw [wipe_out h2]; exact h3, h4⟩
  dist := fun i j o u p q hn h1 h2 h3 h4 => by
    obtain ⟨g1, k1⟩ := kill_get h1
    obtain ⟨g2, k2⟩ := kill_get h2
    rw [wipe_out k1] at h3
    rw [wipe_out k2] at h4
    exact n.dist i j o u p q hn g1 g2 h3 h4
  sub := n.sub
  rm := n.rm
  st := n.st
/-- slots outside own back again -/
theorem Now.back {σ' : L2.St} {G' : FG} {H' : Hp} {s' : S} (n : Now C σ H G B s) (k : KT H H') (n' : Now C σ' H' G' B s') : Now C σ H' G B s' where
  len := n.len
  vals := fun i d h => by
    obtain ⟨v, h1, h2⟩ := n.vals i d h
    exact ⟨v, h1, h2.kt k⟩
  owns := n.owns
  dist := n.dist
  sub := n.sub
  rm := n'.rm
  st := n'.st
/-- a thing of the store that no slot holds turns -/
theorem Now.mutB {p : Addr} {o : HO} {u v : MO} (n : Now C σ H G B s) (hd : ¬ C.Z.dom p) (hb : B p = some v) (hb0 : C.B0 p = none) (hf : Fre C p) (hne : ∀ i w q, gf G i = some (.own w) → σ[i]? = some (some (.ref q)) → q ≠ p) (kt : KT H (upd H p o)) (r : RepO K (upd H p o) p u) : Now C σ (upd H p o) G (mupd B p u) s := by
  have hM : C.Z.put s B p = some v := by rw [C.Z.out _ _ _ hd]; exact hb
  have rm := n.rm.mut hM r
  rw [← put_upd hd] at rm
  refine ⟨n.len, fun j e h => ?_, fun j w h => ?_, n.dist, fun a w e => ?_, rm, ?_⟩
  · obtain ⟨w, h1, h2⟩ := n.vals j e h
    exact ⟨w, h1, h2.kt kt⟩
  · obtain ⟨q, h1, h2, h3, h4⟩ := n.owns j w h
    exact ⟨q, h1, h2, by rw [mupd_ne (hne j w q h h1)]; exact h3, h4⟩
  · have := n.sub a w e
    rw [mupd_ne (fun z => by subst z; rw [hb0] at e; cases e)]; exact this
  · rw [put_upd hd]
    exact step_free n.st hf fun a h => mupd_ne h
end
section
variable {K : PySem.W.Frag} {S : Type}
structure PFTs (X : Cx) (C : FE K S) (ifs : List Expr) (te : TT) (G : FG) (m : Cd S Bool) : Prop where
  hK : X.K = K
  pe : PTs X ifs te
  se : SimT C te G m
variable {X : Cx} {C : FE K S} {G : FG}
theorem ftsnil (hK : X.K = K := by rfl) : PFTs X C [] tYes G (okS true) := ⟨hK, pts_nil, fun σ H B s Q n w => w H KT.refl n⟩
theorem ftsone {c : Expr} {s : TT} {m : Cd S Bool} (h : PFT X C c s G m) : PFTs X C [c] s G m := ⟨h.hK, pts_one h.pe, h.se⟩
/-- what is walked may stand in the slots -/
def SimIP (C : FE K S) (wi : TI) (G : FG) (mi : Cd S (List D)) : Prop := ∀ σ H B s (R : It → Hp → Prop), Now C σ H G B s → (mi s).wp (fun items s' => ∀ J H' P, KT H H' → Now C σ H' G B s' → Gives K H' J items P → (∀ H2 B2 s2, Now C σ H2 G B2 s2 → P (C.Z.put s2 B2)) → R J H') C.Xi → wi σ H R
structure PFIP (X : Cx) (C : FE K S) (tg iter : Expr) (wi : TI) (G : FG) (mi : Cd S (List D)) : Prop where
  hK : X.K = K
  pe : PI X tg iter wi
  se : SimIP C wi G mi
theorem SimIP.seq {β : Type} {σ : L2.St} {H : Hp} {B : Mp} {s : S} {Ψ : β → S → Prop} {wi : TI} {m : Cd S (List D)} {f : List D → Cd S β} {R : It → Hp → Prop} (h : SimIP C wi G m) (n : Now C σ H G B s) (w : (bindS m f s).wp Ψ C.Xi)
    (k : ∀ l s1 J H1 P, KT H H1 → Now C σ H1 G B s1 → Gives K H1 J l P → (∀ H2 B2 s2, Now C σ H2 G B2 s2 → P (C.Z.put s2 B2)) → (f l s1).wp Ψ C.Xi → R J H1) : wi σ H R :=
  h σ H B s R n ((wp_bind.mp w).mono fun a s1 w1 J H1 P k1 n1 g1 hP => k a s1 J H1 P k1 n1 g1 hP w1)
theorem PFI.ip {tg iter : Expr} {wi : TI} {mi : Cd S (List D)} (h : PFI X C tg iter wi G mi) : PFIP X C tg iter wi G mi :=
  ⟨h.hK, h.pe, fun σ H B s R n w => h.se σ H B s R n (w.mono fun items s' q J H' k1 n1 g1 => q J H' _ k1 n1 g1 fun _ _ _ _ => trivial)⟩
/-- an own list is walked -/
theorem fiO (i : Nat) {l : List D} {x : Str} {px : Pos} {tg : Expr} (hG : gf G i = some (.own (.lst l)) := by rfl) (hN : X.N[i]? = some x := by rfl) (hv : Vis X.env.scope x := by first | exact Or.inl rfl | exact Or.inr (Or.inl rfl) | exact Or.inr (Or.inr rfl)) (hd : (x == ("__debug__" : Str)) = false := by decide) (hcd : (x == ("__classdict__" : Str)) = false := by decide) (hK : X.K = K := by rfl) :
    PFIP X C tg (.Name x px) (iSeq K (tVar i)) G (okS l) := by
  subst hK
  refine ⟨rfl, pi_seq (pe_var hN hv hd hcd), fun σ H B s R n w => ?_⟩
  obtain ⟨p, h1, h2, h3, _⟩ := n.owns i _ hG
  obtain ⟨vs, g1, g2⟩ := n.rm.2 p (.lst l) (by rw [C.Z.out _ _ _ h2]; exact h3)
  refine ⟨_, h1, p, rfl, .inl ⟨vs, SqL.of g1, w _ H (fun M => M p = some (.lst l)) KT.refl n (gives_l fun M2 H2 s2 m2 hp => ?_) fun H2 B2 s2 n2 => ?_⟩⟩
  · obtain ⟨vs2, f1, f2⟩ := m2.2 p (.lst l) hp
    exact ⟨vs2, SqL.of f1, f2⟩
  · obtain ⟨p2, e1, e2, e3, _⟩ := n2.owns i _ hG
    rw [h1] at e1; cases e1
    rw [C.Z.out _ _ _ e2]; exact e3
/-- a turn's element -/
def LcP (X : Cx) (C : FE K S) (ifs : List Expr) (stt : TT) (elt : Expr) (ste : TE) : FG → Cd S (Option D) → Prop := fun G' m' => ∃ mt me, m' = (bindS mt fun k => cond k (bindS me fun y => okS (some y)) (okS none)) ∧ PFTs X C ifs stt G' mt ∧ PF X C elt ste G' me
theorem lcp {ifs : List Expr} {stt : TT} {elt : Expr} {ste : TE} {mt : Cd S Bool} {me : Cd S D} (ht : PFTs X C ifs stt G mt) (he : PF X C elt ste G me) : LcP X C ifs stt elt ste G (bindS mt fun k => cond k (bindS me fun y => okS (some y)) (okS none)) := ⟨mt, me, rfl, ht, he⟩
/-- .. without a test -/
theorem lcp0 {elt : Expr} {ste : TE} {me : Cd S D} (he : PF X C elt ste G me) (hK : X.K = K := by rfl) : LcP X C [] tYes elt ste G (bindS me fun y => okS (some y)) := ⟨okS true, me, rfl, ftsnil hK, he⟩
theorem se_lc {own : List Nat} {wi : TI} {sg : TG} {stt : TT} {ste : TE} {mi : Cd S (List D)} {b : D → Cd S (Option D)} {ifs : List Expr} {elt : Expr} {X' : Cx} (hi : SimIP C wi G mi) (hb : ∀ d, GOk C.nox sg d (killF G own) own (b d) (LcP X' C.nox ifs stt elt ste)) : SimL C (tLc wi sg stt ste own) G (bindS mi fun items => lcS b items []) := fun σ H B s Q n w =>
  hi.seq n w fun items s1 J H1 P k1 n1 gv hP w1 L hL => by
    obtain ⟨hd, hbn, hfr, kL, nL⟩ := n1.newL (vs := []) (ds := []) hL .nil
    have hb0 := n1.b0 hbn
    have hne : ∀ i w q, gf G i = some (.own w) → σ[i]? = some (some (.ref q)) → q ≠ L := fun i w q h h' => by
      obtain ⟨q2, e1, _, e3, _⟩ := n1.owns i w h
      rw [h'] at e1; cases e1
      exact fresh_ne hbn e3
    refine ⟨fun i k H2 => ∃ s2 acc, k = items.length - i ∧ i ≤ items.length ∧ KT (upd H1 L (.lst [])) H2 ∧ Now C σ H2 G (mupd B L (.lst acc)) s2 ∧ (lcS b (items.drop i) acc s2).wp (fun l s' => ∀ p H', KT H H' → ¬ C.Z.dom p → B p = none → Fre C p → Now C σ H' G (mupd B p (.lst l)) s' → Q (.ref p) H') C.Xi,
      ⟨items.length, s1, [], by simp, Nat.zero_le _, KT.refl, nL, by simpa using w1⟩, ?_⟩
    rintro i k H2 ⟨s2, acc, rfl, hi, k2, n2, w2⟩
    by_cases hlt : i < items.length
    · have e : items.drop i = items[i] :: items.drop (i + 1) := List.drop_eq_getElem_cons hlt
      rw [e] at w2
      obtain ⟨q1, q2⟩ := (gv _ H2 (kL.trans k2) n2.rm (hP _ _ _ n2)).1 i items[i] (by simp [hlt])
      refine .inr ⟨q1, fun H3 => ∃ s3 acc, KT (upd H1 L (.lst [])) H3 ∧ Now C σ H3 G (mupd B L (.lst acc)) s3 ∧ (lcS b (items.drop (i + 1)) acc s3).wp (fun l s' => ∀ p H', KT H H' → ¬ C.Z.dom p → B p = none → Fre C p → Now C σ H' G (mupd B p (.lst l)) s' → Q (.ref p) H') C.Xi,
        fun H' ⟨s3, acc, a, b, c⟩ => ⟨_, by omega, s3, acc, rfl, hlt, a, b, c⟩, fun x H3 y => ?_⟩
      obtain ⟨r3, st3, m3⟩ := q2 x H3 y
      have k3 := st3.kt n2.rm
      have n3 := n2.next k3 st3 m3
      have w3 := wp_nox (wp_bind.mp w2)
      refine (hb items[i]).go x _ H3 _ s2 _ _ r3 (n3.nox.wipe own) w3 fun σ4 G4 m4 s4 h4 n4 b4 w4 => ⟨wipe_but b4, ?_⟩
      obtain ⟨mt, me, rfl, ht, he⟩ := h4
      refine ht.se.seq n4 w4 fun c s5 H5 k5 n5 w5 => ?_
      cases c with
      | true =>
        rw [if_pos rfl]
        refine he.se.seq n5 w5 fun d s6 z H6 k6 n6 r6 w6 => ?_
        have w6 : (if acc.length < sizeLine then lcS b (items.drop (i + 1)) (acc ++ [d]) else stk) s6 |>.wp _ _ := w6
        have n6' : Now C σ H6 G (mupd B L (.lst acc)) s6 := n3.back (k5.trans k6) n6.unox
        obtain ⟨vs, g1, g2⟩ := n6'.rm.2 L (.lst acc) (by rw [C.Z.out _ _ _ hd, mupd_same])
        by_cases hl : acc.length < sizeLine
        · rw [if_pos hl] at w6
          have kt := KT.lst (u := .lst (vs ++ [z])) g1
          have n7 := n6'.mutB (u := .lst (acc ++ [d])) hd mupd_same hb0 hfr hne kt ⟨_, upd_same, (g2.append (.cons r6 .nil)).kt kt⟩
          rw [mupd_upd] at n7
          exact ⟨vs, g1, by rw [g2.length]; exact hl, s6, acc ++ [d], (k2.trans k3).trans ((k5.trans k6).trans kt), n7, w6⟩
        · rw [if_neg hl] at w6
          exact w6.elim
      | false =>
        rw [if_neg Bool.false_ne_true]
        exact ⟨s5, acc, (k2.trans k3).trans k5, n3.back k5 n5.unox, w5⟩
    · have e : i = items.length := by omega
      subst e
      rw [List.drop_length] at w2
      exact .inl ⟨(gv _ H2 (kL.trans k2) n2.rm (hP _ _ _ n2)).2, w2 L H2 (k1.trans (kL.trans k2)) hd hbn hfr n2⟩
abbrev BlkA (X : Cx) (scope : Scope) (f : Cx → Prop) : Prop := ∀ (s : Shared) (H : Hp) (A : Addr) (cl : List (Str × Addr)) (fp : List Addr), f (X.blk s H scope (compEnvC scope cl A X.env) fp)
variable {elt tg iter : Expr} {ifs : List Expr} {scope : Scope} {own : List (Str × Nat)} {wi : TI} {sg : TG} {stt : TT} {ste : TE} {mi : Cd S (List D)} {b : D → Cd S (Option D)} {pos : Pos}
theorem flc (hc : X.calm = true) (hN : X.N.Nodup) (hi : PFIP X C tg iter wi G mi) (ok : blkC X.N X.env.scope scope own = true) (pg : ∀ (s : Shared) (H : Hp) (A : Addr) (cl : List (Str × Addr)) (fp : List Addr), PG (X.blk s H scope (compEnvC scope cl A X.env) fp) tg sg)
    (hb : ∀ (s : Shared) (H : Hp) (A : Addr) (cl : List (Str × Addr)) (fp : List Addr) d, GOk C.nox sg d (killF G (own.map (·.2))) (own.map (·.2)) (b d) (LcP (X.blk s H scope (compEnvC scope cl A X.env) fp) C.nox ifs stt elt ste)) (hs : ∀ x, foldedSetIterable iter X.env x = pure x := by intro _; rfl) :
    PFL X C (.ListComp elt [⟨tg, iter, ifs, 0⟩] scope pos) (tLc wi sg stt ste (own.map (·.2))) G (bindS mi fun items => lcS b items []) :=
  ⟨hi.hK, pe_lc hc hN hi.pe (blkOk_by ok) pg (fun s H A cl fp => by obtain ⟨_, _, _, _, _, h, _⟩ := (hb s H A cl fp .non).ex; exact h.pe) (fun s H A cl fp => by obtain ⟨_, _, _, _, _, _, h⟩ := (hb s H A cl fp .non).ex; exact h.pe) hs,
    se_lc hi.se (hb X.s_0 (fun _ => none) 0 [] [])⟩
/-- name = [..] on one line: the statement -/
theorem pss_setLc {i : Nat} {y : Str} {py : Pos} {spos : Pos} (hc : X.calm = true) (hN : X.N.Nodup) (hi : PFIP X C tg iter wi G mi) (ok : blkC X.N X.env.scope scope own = true) (pg : ∀ (s : Shared) (H : Hp) (A : Addr) (cl : List (Str × Addr)) (fp : List Addr), PG (X.blk s H scope (compEnvC scope cl A X.env) fp) tg sg)
    (hb : ∀ (s : Shared) (H : Hp) (A : Addr) (cl : List (Str × Addr)) (fp : List Addr) d, GOk C.nox sg d (killF G (own.map (·.2))) (own.map (·.2)) (b d) (LcP (X.blk s H scope (compEnvC scope cl A X.env) fp) C.nox ifs stt elt ste)) (hs : ∀ x, foldedSetIterable iter X.env x = pure x) (hy : X.N[i]? = some y) (hyl : X.env.scope.names.lookup y = some .local)
    (hsw : swapsWith (.ListComp elt [⟨tg, iter, ifs, 0⟩] scope pos) (some (.Name y py)) spos.line X.env = pure true) :
    PS X (.Assign [.Name y py] (.ListComp elt [⟨tg, iter, ifs, 0⟩] scope pos) spos) (tAsg (tLc wi sg stt ste (own.map (·.2))) (gName i)) :=
  ps_setLc hc hN hy hyl hsw hi.pe (blkOk_by ok) pg (fun s H A cl fp => by obtain ⟨_, _, _, _, _, h, _⟩ := (hb s H A cl fp .non).ex; exact h.pe) (fun s H A cl fp => by obtain ⟨_, _, _, _, _, _, h⟩ := (hb s H A cl fp .non).ex; exact h.pe) hs
end
end FL
end
section
set_option maxHeartbeats 4000000
/-! FG: generator expressions under all, any; calls of own defs; a def's body. -/
namespace FL
open PySem PySem.Spec PyProof.Rows L2 DL RZ

section
variable {S : Type}
def agS (stop : Bool) (b : D → Cd S Bool) : List D → Cd S D
  | [] => okS (.bl (!stop))
  | d :: ds => bindS (noxS (b d)) fun k => if k = stop then okS (.bl stop) else agS stop b ds
end
section
variable {K : PySem.W.Frag} {S : Type} {C : FE K S} {σ σ' : L2.St} {H : Hp} {G : FG} {B : Mp} {s : S}
theorem Now.butw {own : List Nat} (n : Now C σ H G B s) (b : But own (L2.wipe σ own) σ') : Now C σ' H (killF G own) B s where
  len := by rw [b.1, wipe_length, kill_len]; exact n.len
  vals := fun i d h => by
    obtain ⟨h1, h2⟩ := kill_get h
    obtain ⟨v, h3, h4⟩ := n.vals i d h1
    exact ⟨v, by rw [b.2 i h2, wipe_out h2]; exact h3, h4⟩
  owns := fun i o h => by
    obtain ⟨h1, h2⟩ := kill_get h
    obtain ⟨p, h3, h4⟩ := n.owns i o h1
    exact ⟨p, by rw [b.2 i h2, wipe_out h2]; exact h3, h4⟩
  dist := fun i j o u p q hn h1 h2 h3 h4 => by
    obtain ⟨g1, k1⟩ := kill_get h1
    obtain ⟨g2, k2⟩ := kill_get h2
    rw [b.2 i k1, wipe_out k1] at h3
    rw [b.2 j k2, wipe_out k2] at h4
    exact n.dist i j o u p q hn g1 g2 h3 h4
  sub := n.sub
  rm := n.rm
  st := n.st
def AgP (X : Cx) (C : FE K S) (elt : Expr) (ste : TE) : FG → Cd S Bool → Prop := fun G' m' => ∃ me, m' = (bindS me fun y => optS (dTr y)) ∧ PF X C elt ste G' me
theorem agp {X : Cx} {elt : Expr} {ste : TE} {me : Cd S D} (he : PF X C elt ste G me) : AgP X C elt ste G (bindS me fun y => optS (dTr y)) := ⟨me, rfl, he⟩
theorem se_gen {P : Addr} {stop : Bool} {own : List Nat} {wi : TI} {sg : TG} {ste : TE} {mi : Cd S (List D)} {b : D → Cd S Bool} {elt : Expr} {X' : Cx} (hP : TabOf K P) (hi : SimIP C wi G mi) (hb : ∀ d, GOk C.nox sg d (killF G own) own (b d) (AgP X' C.nox elt ste)) :
    SimE C (GX.tGen stop P wi (fun σ => wipe σ own) sg ste) G (bindS mi fun items => agS stop b items) := fun σ H B s Q n w =>
  hi.seq n w fun items s1 J H1 P' k1 n1 gv hP' w1 => by
    refine ⟨n1.rm.1 P hP, fun H2 tb => ?_⟩
    obtain ⟨st2, m2⟩ := tabbed_step n1.rm (n1.rm.1 P hP) tb
    have k2 := st2.kt n1.rm
    have n2 := n1.next k2 st2 m2
    refine ⟨fun i σ3 H3 => ∃ s3, i ≤ items.length ∧ KT H1 H3 ∧ Now C σ H3 G B s3 ∧ But own (wipe σ own) σ3 ∧ (agS stop b (items.drop i) s3).wp (fun d s' => ∀ v H', KT H H' → Now C σ H' G B s' → Rep K H' v d → Q v H') C.Xi, items.length, ⟨s1, Nat.zero_le _, k2, n2, ⟨rfl, fun _ _ => rfl⟩, by simpa using w1⟩, ?_, ?_⟩
    · rintro σ3 H3 ⟨s3, _, k3, n3, b3, w3⟩
      rw [List.drop_length] at w3
      exact ⟨(gv _ H3 k3 n3.rm (hP' _ _ _ n3)).2, w3 _ H3 (k1.trans k3) n3 (.bl _)⟩
    · rintro i σ3 H3 hlt ⟨s3, _, k3, n3, b3, w3⟩
      have e : items.drop i = items[i] :: items.drop (i + 1) := List.drop_eq_getElem_cons hlt
      rw [e] at w3
      obtain ⟨q1, q2⟩ := (gv _ H3 k3 n3.rm (hP' _ _ _ n3)).1 i items[i] (by simp [hlt])
      refine ⟨q1, fun x H4 y => ?_⟩
      obtain ⟨r4, st4, m4⟩ := q2 x H4 y
      have k4 := st4.kt n3.rm
      have n4 := n3.next k4 st4 m4
      refine (hb items[i]).go x σ3 H4 _ s3 _ _ r4 (n4.nox.butw b3) (wp_nox (wp_bind.mp w3)) fun σ5 G5 m5 s5 h5 n5 b5 w5 => ?_
      obtain ⟨me, rfl, he⟩ := h5
      refine he.se.seq n5 w5 fun d s6 z H6 k6 n6 r6 w6 => ?_
      obtain ⟨k, ek, w6⟩ := wp_opt w6
      have n6' := n4.back k6 n6.unox
      have kk := (k3.trans k4).trans k6
      refine ⟨k, dTr_ok r6 ek, fun hb => ?_, fun hb => ?_⟩
      · rw [if_pos hb] at w6
        exact w6 _ H6 (k1.trans kk) n6' (.bl _)
      · rw [if_neg hb] at w6
        exact ⟨s6, hlt, kk, n6', b3.trans b5, w6⟩
end
section
variable {K : PySem.W.Frag} {S : Type} {X : Cx} {C : FE K S} {G : FG} {elt tg iter : Expr} {scope : Scope} {own : List Nat} {wi : TI} {sg : TG} {ste : TE} {mi : Cd S (List D)} {b : D → Cd S Bool} {c P : Addr} {p pos gpos : Pos} {k : Nat}
theorem fgen_all (hr : Room (k + 1) X.A) (hgl : Gl X "all") (hm : X.mg "all" = none) (TB : GxR.TabB X.base X.mg c P) (TO : TabOf K P) (hcode : X.env.code = .ref c) (ok : genC X.N X.env.scope scope own = true) (hi : PFIP X C tg iter wi G mi)
    (pg : ∀ A code A' s4 H4 ex, Room k A' → PG (GX.gcx X scope A code A' s4 H4 ex) tg sg) (hb : ∀ A code A' s4 H4 ex, Room k A' → ∀ d, GOk C.nox sg d (killF G own) own (b d) (AgP (GX.gcx X scope A code A' s4 H4 ex) C.nox elt ste))
    (hs : ∀ v, genFold iter X.env v = pure v := by intro _; rfl) (hst : starEach [.GeneratorExp elt [⟨tg, iter, [], 0⟩] scope gpos] X.env = (false, eval (.GeneratorExp elt [⟨tg, iter, [], 0⟩] scope gpos) X.env) :: starEach [] X.env := by rfl) :
    PF X C (.Call (.Name "all" p) [.GeneratorExp elt [⟨tg, iter, [], 0⟩] scope gpos] [] pos) (GX.tGen false P wi (fun σ => wipe σ own) sg ste) G (bindS mi fun items => agS false b items) := by
  have hK := hi.hK; subst hK
  obtain ⟨G', ho⟩ := genC_ok ok
  have hr0 : Room k X.A := hr.mono (Nat.le_succ k)
  exact ⟨rfl, GX.pe_allG hr hgl hm PyProof.Rows.boot_all TB hcode G' hi.pe (fun σ => wipe_length σ own) (own_wp ho) pg (fun A code A' s4 H4 ex h => by obtain ⟨_, _, _, _, he⟩ := (hb A code A' s4 H4 ex h .non).ex; exact he.pe) hs hst, se_gen TO hi.se (hb 0 .none X.A X.s_0 (fun _ => none) [] hr0)⟩
theorem fgen_any (hr : Room (k + 1) X.A) (hgl : Gl X "any") (hm : X.mg "any" = none) (TB : GxR.TabB X.base X.mg c P) (TO : TabOf K P) (hcode : X.env.code = .ref c) (ok : genC X.N X.env.scope scope own = true) (hi : PFIP X C tg iter wi G mi)
    (pg : ∀ A code A' s4 H4 ex, Room k A' → PG (GX.gcx X scope A code A' s4 H4 ex) tg sg) (hb : ∀ A code A' s4 H4 ex, Room k A' → ∀ d, GOk C.nox sg d (killF G own) own (b d) (AgP (GX.gcx X scope A code A' s4 H4 ex) C.nox elt ste))
    (hs : ∀ v, genFold iter X.env v = pure v := by intro _; rfl) (hst : starEach [.GeneratorExp elt [⟨tg, iter, [], 0⟩] scope gpos] X.env = (false, eval (.GeneratorExp elt [⟨tg, iter, [], 0⟩] scope gpos) X.env) :: starEach [] X.env := by rfl) :
    PF X C (.Call (.Name "any" p) [.GeneratorExp elt [⟨tg, iter, [], 0⟩] scope gpos] [] pos) (GX.tGen true P wi (fun σ => wipe σ own) sg ste) G (bindS mi fun items => agS true b items) := by
  have hK := hi.hK; subst hK
  obtain ⟨G', ho⟩ := genC_ok ok
  have hr0 : Room k X.A := hr.mono (Nat.le_succ k)
  exact ⟨rfl, GX.pe_anyG hr hgl hm PyProof.Rows.boot_any TB hcode G' hi.pe (fun σ => wipe_length σ own) (own_wp ho) pg (fun A code A' s4 H4 ex h => by obtain ⟨_, _, _, _, he⟩ := (hb A code A' s4 H4 ex h .non).ex; exact he.pe) hs hst, se_gen TO hi.se (hb 0 .none X.A X.s_0 (fun _ => none) [] hr0)⟩
end

/-! ### what a def promises -/
/-- f as a promise; cv: the classes' values -/
def spP (cv : Str → Option Value) (f : List D → Res Unit D) : DSp := fun ds M Q E => (f ds).wp (fun d _ => Q d M) (fun e _ => ∀ c, cv e.cls = some c → E c e.fs M)
/-- a def that hands on the state at its first argument -/
def spI {S : Type} (Zf : Addr → Addr → SMod S) (cv : Str → Option Value) (f : List D → Cd S D) : DSp := fun ds M Q E => ∃ a b r s B, a ≠ b ∧ ds = .ref a :: r ∧ M = (Zf a b).put s B ∧
  (f r s).wp (fun d s' => Q d ((Zf a b).put s' B)) (fun e s' => ∀ c, cv e.cls = some c → E c e.fs ((Zf a b).put s' B))

/-- where exceptions go; ok: at these slots they may be raised -/
structure Rz {K : PySem.W.Frag} {S : Type} (X : Cx) (C : FE K S) (W : WX) (ok : FG → Prop) : Prop where
  pass : ∀ σ, PassesAt (L2.CX X.prog X.w) X σ (WE W σ)
  wish : ∀ σ H G B s e c d vs, ok G → Now C σ H G B s → C.Xi e s → X.mg e.cls = some c → H d = some (.xd vs) → FReps K H vs e.fs → W c (some d) σ H
section
variable {K : PySem.W.Frag} {S : Type} {X : Cx} {C : FE K S} {G : FG}
theorem passF (σ : L2.St) : PassesAt (L2.CX X.prog X.w) X σ (WE (fun _ _ _ _ => False) σ) := fun _ _ _ _ _ _ c => by
  obtain ⟨_, _, _, _, _, _, _, _, _, _, _, _, z⟩ := c
  exact z.elim
/-- nothing is raised -/
theorem rz0 : Rz X C.nox (fun _ _ _ _ => False) (fun _ => True) := ⟨passF, fun _ _ _ _ _ _ _ _ _ _ _ z => z.elim⟩
variable {W : WX} {ok : FG → Prop}
theorem wp_liftU {α : Type} {m : Res Unit α} {s : S} {Q : α → S → Prop} {E : Xn → S → Prop} (h : (liftU m s).wp Q E) : m.wp (fun a _ => Q a s) (fun e _ => E e s) := by cases m <;> exact h
theorem Rz.liftX (rz : Rz X C W ok) (hk : ok G) {σ : L2.St} {H : Hp} {B : Mp} {s : S} (n : Now C σ H G B s) : LiftX K (C.Z.put s B) H (fun c fs M' => ∃ e s', M' = C.Z.put s' B ∧ e.fs = fs ∧ X.mg e.cls = some c ∧ C.Xi e s') (WE W σ) := fun c fs M' d vs H' ⟨e, s', e1, e2, e3, e4⟩ st hd fr m => by
  subst e1; subst e2
  exact rz.wish σ H' G B s' e c d vs hk (n.next (st.kt n.rm) st m) e4 e3 hd fr
/-- behind a def that turns the state -/
theorem Now.liftI {σ : L2.St} {H : Hp} {B : Mp} {s : S} (n : Now C σ H G B s) {Q : VK} : Lift K (C.Z.put s B) H (fun d' M' => ∃ s', M' = C.Z.put s' B ∧ ∀ v H', KT H H' → Now C σ H' G B s' → Rep K H' v d' → Q v H') Q := fun d M' v H' ⟨s', e2, q⟩ st r m => by
  subst e2
  have k := st.kt n.rm
  exact q v H' k (n.next k st m) r
section
variable {k : Nat} {f : Addr} {fd : FuncData} {ps : List Str} {x : Str} {p pos : Pos} {e : Expr} {es : List Expr} {str stk : TA} {mr mk : Cd S (List D)} {g : List D → Res Unit D}
theorem se_callP (rz : Rz X C W ok) (hk : ok G) (hr : SimA C str G mr) : SimE C (tCallS (toSp K (spP X.mg g)) (WE W) str) G (bindS mr fun ds => liftU (g ds)) := fun σ H B s Q n w =>
  hr.seq n w fun ds s1 vs H1 k1 n1 r1 w1 => by
    refine ⟨ds, _, _, _, r1, n1.rm, ?_, n1.liftI (Q := Q), rz.liftX hk n1⟩
    unfold spP
    exact (wp_liftU w1).mono (fun d _ q => ⟨s1, rfl, fun v H' k2 => q v H' (k1.trans k2)⟩) fun e _ h c hc => ⟨e, s1, rfl, rfl, hc, h⟩
theorem fcall {mg : Str → Option Value} (F : FnOk X.prog X.w K X.mg X.base (L2.CX X.prog X.w) k f fd ps (toSp K (spP mg g))) (rz : Rz X C W ok) (hr : Room k X.A) (hg : Gl X x) (hm : X.mg x = some (.ref f)) (hkp : PySem.W.keepIn K (.ref f) = true) (hb : Binds K fd ps [])
    (ha : PFA X C (e :: es) str G mr) (hk : ok G := by exact trivial) (hdb : (x == ("__debug__" : Str)) = false := by decide) (he : starEach (e :: es) X.env = (false, eval e X.env) :: starEach es X.env := by rfl) (hpl : (backTo pos (starEach es X.env)).any (·.1) = false := by rfl) (hmg : X.mg = mg := by rfl) :
    PF X C (.Call (.Name x p) (e :: es) [] pos) (tCallS (toSp K (spP mg g)) (WE W) str) G (bindS mr fun ds => liftU (g ds)) := by
  have hK := ha.hK; subst hK; subst hmg
  exact ⟨rfl, pe_callS F hr hg hm hkp hb rz.pass ha.pe hdb he hpl, se_callP rz hk ha.se⟩
/-- .. of a def that hands on the state, its first argument -/
theorem se_callI {Zf : Addr → Addr → SMod S} {g : List D → Cd S D} {a b : Addr} {i : Nat} (hab : a ≠ b) (hz : C.Z = Zf a b) (hG : gf G i = some (.val (.ref a))) (rz : Rz X C W ok) (hk : ok G) (hr : SimA C str G mr) : SimE C (tCallS (toSp K (spI Zf X.mg g)) (WE W) (tCons (tVar i) str)) G (bindS mr g) := fun σ H B s Q n w => by
  obtain ⟨v, e1, r⟩ := n.vals i _ hG
  cases r
  refine ⟨_, e1, hr.seq n w fun ds s1 vs H1 k1 n1 r1 w1 => ?_⟩
  refine ⟨_, _, _, _, .cons (.ref a) r1, n1.rm, ⟨a, b, ds, s1, B, hab, rfl, by rw [hz], ?_⟩, n1.liftI (Q := Q), rz.liftX hk n1⟩
  exact w1.mono (fun d s2 q => ⟨s2, by rw [hz], fun v H' k2 => q v H' (k1.trans k2)⟩) fun e s2 h c hc => ⟨e, s2, by rw [hz], rfl, hc, h⟩
theorem fcallI (i : Nat) {mg : Str → Option Value} {Zf : Addr → Addr → SMod S} {g : List D → Cd S D} {a b : Addr} {y : Str} {py : Pos} (F : FnOk X.prog X.w K X.mg X.base (L2.CX X.prog X.w) k f fd ps (toSp K (spI Zf mg g))) (rz : Rz X C W ok) (hr : Room k X.A) (hg : Gl X x) (hm : X.mg x = some (.ref f)) (hkp : PySem.W.keepIn K (.ref f) = true) (hb : Binds K fd ps [])
    (hab : a ≠ b) (hz : C.Z = Zf a b) (ha : PFA X C es str G mr) (hG : gf G i = some (.val (.ref a)) := by rfl) (hN : X.N[i]? = some y := by rfl) (hv : Vis X.env.scope y := by first | exact Or.inl rfl | exact Or.inr (Or.inl rfl) | exact Or.inr (Or.inr rfl)) (hd : (y == ("__debug__" : Str)) = false := by decide) (hcd : (y == ("__classdict__" : Str)) = false := by decide)
    (hk : ok G := by exact trivial) (hdb : (x == ("__debug__" : Str)) = false := by decide) (he : starEach (.Name y py :: es) X.env = (false, eval (.Name y py) X.env) :: starEach es X.env := by rfl) (hpl : (backTo pos (starEach es X.env)).any (·.1) = false := by rfl) (hmg : X.mg = mg := by rfl) :
    PF X C (.Call (.Name x p) (.Name y py :: es) [] pos) (tCallS (toSp K (spI Zf mg g)) (WE W) (tCons (tVar i) str)) G (bindS mr g) := by
  have hK := ha.hK; subst hK; subst hmg
  exact ⟨rfl, pe_callS F hr hg hm hkp hb rz.pass (pa_cons (pe_var hN hv hd hcd) ha.pe he) hdb he hpl, se_callI hab hz hG rz hk ha.se⟩
end

/-! ### a def's body -/
section
variable {P : Program} {w : World} {mg : Str → Option Value} {base : Heap}
def startF (N : List Str) (ds : List D) : FG := ds.map (fun d => some (.val d)) ++ List.replicate (N.length - ds.length) none
theorem gf_app {G1 G2 : FG} {i : Nat} : gf (G1 ++ G2) i = if i < G1.length then gf G1 i else gf G2 (i - G1.length) := by
  induction G1 generalizing i with
  | nil => simp
  | cons o r ih =>
    cases i with
    | zero => simp [gf]
    | succ n =>
      show gf (r ++ G2) n = _
      rw [ih]
      simp only [List.length_cons, Nat.add_lt_add_iff_right, Nat.add_sub_add_right]
      rfl
theorem gf_rep : ∀ (n i : Nat), gf (List.replicate n none) i = none
  | 0, _ => rfl
  | _ + 1, 0 => rfl
  | n + 1, i + 1 => gf_rep n i
theorem gf_map : ∀ (ds : List D) (i : Nat), gf (ds.map fun d => some (.val d)) i = (ds[i]?).map .val
  | [], _ => rfl
  | _ :: _, 0 => rfl
  | _ :: r, i + 1 => gf_map r i
theorem start_vals {N : List Str} {ds : List D} {i : Nat} {y : FV} (h : gf (startF N ds) i = some y) : ∃ d, y = .val d ∧ ds[i]? = some d := by
  unfold startF at h
  rw [gf_app] at h
  split at h
  · rw [gf_map] at h
    cases e : ds[i]? with
    | none => rw [e] at h; cases h
    | some d => rw [e] at h; cases h; exact ⟨d, rfl, rfl⟩
  · rw [gf_rep] at h; cases h
theorem now_start {C : FE K S} {N : List Str} {vs : List V} {ds : List D} {H : Hp} {B : Mp} {s : S} (r : Reps K H vs ds) (m : RepM K H (C.Z.put s B)) (h0 : C.H0 = H) (hb : C.B0 = B) (hm : C.M0 = C.Z.put s B) : Now C (L2.start N vs) H (startF N ds) B s where
  len := by unfold L2.start startF; simp [r.length]
  vals := fun i d h => by
    obtain ⟨d', e, h1⟩ := start_vals h
    cases e
    obtain ⟨v, h2, h3⟩ := r.get h1
    refine ⟨v, ?_, h3⟩
    unfold L2.start
    rw [List.getElem?_append_left (by rw [List.length_map]; exact (List.getElem?_eq_some_iff.mp h2).1), List.getElem?_map, h2]
    rfl
  owns := fun i o h => by obtain ⟨d, e, _⟩ := start_vals h; cases e
  dist := fun i j o u p q _ h => by obtain ⟨d, e, _⟩ := start_vals h; cases e
  sub := fun a o e => by rw [← hb]; exact e
  rm := m
  st := by rw [h0, hm]; exact Step.refl
/-- THE RULE for a def -/
theorem okF {x qual : Str} {st : Stmt} {f : Addr} {fd : FuncData} {N ps : List Str} {k : Nat} {g : List D → Res Unit D} (F : Fun K x qual st f fd) (Sc : FnScope N ps (defScope st)) (len : ∀ ds, ds.length ≠ ps.length → g ds = .stuck)
    (hbody : ∀ (cdv : Value) (A : Around) (outer : List Env) (s : Shared) (H : Hp) (E : XK) (C : FE K Unit) (W : WX), Room k (A.deeper (envOfC qual (defScope st) s.heap.objs.size f cdv)) → PassesOwn (model P w) (cxOf (L2.CX P w) P w K mg base N qual (defScope st) f cdv A outer s H E).A (cxOf (L2.CX P w) P w K mg base N qual (defScope st) f cdv A outer s H E).env (cxOf (L2.CX P w) P w K mg base N qual (defScope st) f cdv A outer s H E).xe →
      Takes (cxOf (L2.CX P w) P w K mg base N qual (defScope st) f cdv A outer s H E) W → Rz (cxOf (L2.CX P w) P w K mg base N qual (defScope st) f cdv A outer s H E) C W (fun _ => True) →
      ∀ ds, ds.length = ps.length → ∃ ts m, PFB (cxOf (L2.CX P w) P w K mg base N qual (defScope st) f cdv A outer s H E) C (defBody st) ts (startF N ds) funF m ∧ m () = g ds) :
    FnOk P w K mg base (L2.CX P w) (k + 1) f fd ps (toSp K (spP mg g)) := by
  have hl : ∀ ds M Q E, spP mg g ds M Q E → ds.length = ps.length := fun ds M Q E q => by
    by_cases h : ds.length = ps.length
    · exact h
    · unfold spP at q
      rw [len ds h] at q
      exact q.elim
  refine F.okX Sc (fun vs H Q E h => ?_) (fun cdv A outer s H vs Q E hr h => ?_)
  · obtain ⟨ds, M, Qd, Ed, r, _, q, _⟩ := h
    rw [r.length]
    exact hl _ _ _ _ q
  · obtain ⟨ds, M, Qd, Ed, r, m, q, l, lx⟩ := h
    let C : FE K Unit := { Z := unitM, B0 := M, M0 := M, H0 := H, Xi := fun e _ => ∀ c, mg e.cls = some c → Ed c e.fs M }
    have tk := takes_of (X := cxOf (L2.CX P w) P w K mg base N qual (defScope st) f cdv A outer s H E) (E := E) rfl rfl rfl rfl
    have rz : Rz (cxOf (L2.CX P w) P w K mg base N qual (defScope st) f cdv A outer s H E) C (fun cls d _ H => E cls d H) (fun _ => True) := ⟨passAt tk, fun σ H' G B s' e c d vs _ n xi hc hd fr =>
      lx c e.fs M d vs H' (xi c hc) (fun a o h1 h2 h3 => ⟨(n.st a o h1 h2 h3).1, h2⟩) hd fr (n.rm.sub n.sub)⟩
    obtain ⟨ts, mm, h1, h2⟩ := hbody cdv A outer s H E C _ hr (passes_of rfl) tk rz ds (hl _ _ _ _ q)
    refine ⟨ts, h1.pe, h1.se _ H M () (fun d _ => Qd d M) _ (now_start r m rfl rfl rfl) ⟨fun G m σ' H' B s' e _ n w => ?_, fun _ _ _ _ _ _ z => z.elim, fun _ _ _ _ _ _ z => z.elim, fun d m v σ' H' G B s' e _ n r w => ?_, fun d m v σ' H' G B s' e _ n r w => ?_⟩ (by rw [h2]; exact q)⟩
    · have e : m = okS .non := e
      subst e
      exact l.wk _ _ _ _ ⟨M, n.sub, w⟩ n.st .non n.rm
    · have e : m = okS d := e
      subst e
      exact l.wk _ _ _ _ ⟨M, n.sub, w⟩ n.st r n.rm
    · exact e.elim
end
end
end FL
end
section
set_option maxHeartbeats 4000000
/-! FH: the operations as functions. -/
namespace FL
open PySem PySem.Spec PyProof.Rows L2 DL RZ

instance (i j : Int) : Decidable (MulOk i j) := inferInstanceAs (Decidable (((-(2 ^ 64) < i ∧ i < 2 ^ 64) ∨ (-(2 ^ 64) < j ∧ j < 2 ^ 64)) ∨ i.natAbs.log2 + j.natAbs.log2 < 1000000))
instance (i j : Int) : Decidable (DivOk i j) := inferInstanceAs (Decidable ((0 < j ∧ j < 1073741824) ∨ (0 < j ∧ j.natAbs.log2 < 9000)))
instance (i j : Int) : Decidable (CPow i j) := inferInstanceAs (Decidable (0 ≤ j ∧ j ≤ 1000000 ∧ i.natAbs < 2 ^ 64))
def addD : D → D → Option D
  | .int i, .int j => some (.int (i + j))
  | .str a, .str b => if a.length + b.length ≤ sizeLine then some (.str (a ++ b)) else none
  | .tup a, .tup b => if a.length + b.length ≤ sizeLine then some (.tup (a ++ b)) else none
  | _, _ => none
def subD : D → D → Option D
  | .int i, .int j => some (.int (i - j))
  | _, _ => none
def mulD : D → D → Option D
  | .int i, .int j => if MulOk i j then some (.int (i * j)) else none
  | .tup a, .int k => if (a.isEmpty = false ∧ 2 ≤ k ∧ k ≤ 1000 ∧ a.length ≤ 1000) then some (.tup (List.replicate k.toNat a).flatten) else none
  | _, _ => none
def fdivD : D → D → Option D
  | .int i, .int j => if DivOk i j then some (.int (i / j)) else none
  | _, _ => none
def modD : D → D → Option D
  | .int i, .int j => if 0 < j then some (.int (i % j)) else none
  | _, _ => none
def powD : D → D → Option D
  | .int i, .int j => if CPow i j then some (.int (i ^ j.toNat)) else none
  | _, _ => none
def shlD : D → D → Option D
  | .int i, .int j => if CPow i j then some (.int (i * 2 ^ j.toNat)) else none
  | _, _ => none
def shrD : D → D → Option D
  | .int i, .int j => if 0 ≤ j then some (.int (i / 2 ^ j.toNat)) else none
  | _, _ => none
def ltD : D → D → Option D
  | .int i, .int j => some (.bl (decide (i < j)))
  | _, _ => none
def leD : D → D → Option D
  | .int i, .int j => some (.bl (decide (i ≤ j)))
  | _, _ => none
def gtD : D → D → Option D
  | .int i, .int j => some (.bl (decide (j < i)))
  | _, _ => none
def geD : D → D → Option D
  | .int i, .int j => some (.bl (decide (j ≤ i)))
  | _, _ => none
def eqqD (d e : D) : Option D := if eqOk d e = true then some (.bl (DL.eqD d e)) else none
def neD (d e : D) : Option D := if eqOk d e = true then some (.bl (!DL.eqD d e)) else none
def isD (d e : D) : Option D := match e with
  | .non => some (.bl (isNon d))
  | _ => none
def isnotD (d e : D) : Option D := match e with
  | .non => some (.bl (!isNon d))
  | _ => none
def ixD (d e : D) : Option D := match d, e with
  | .tup ds, .int i => atI ds i
  | .fl ds, .int i => atI ds i
  | .str z, .int i => if z.length ≤ sizeLine then (atI z.cps.toList i).map fun c => .str ⟨#[c]⟩ else none
  | _, _ => none
theorem i_add : Imp oAdd addD := by
  intro d e M z h
  cases d <;> cases e <;> first | (cases h; done) | skip
  · cases h; exact ⟨rfl, rfl⟩
  · unfold addD at h; dsimp only at h; split at h
    · cases h; rename_i hl; exact ⟨hl, rfl, rfl⟩
    · cases h
  · unfold addD at h; dsimp only at h; split at h
    · cases h; rename_i hl; exact ⟨hl, rfl, rfl⟩
    · cases h
theorem i_sub : Imp oSub subD := by intro d e M z h; cases d <;> cases e <;> first | (cases h; done) | skip; cases h; exact ⟨rfl, rfl⟩
theorem i_mul : Imp oMul mulD := by
  intro d e M z h
  cases d <;> cases e <;> first | (cases h; done) | skip
  · unfold mulD at h; dsimp only at h; split at h
    · cases h; rename_i hl; exact ⟨hl, rfl, rfl⟩
    · cases h
  · unfold mulD at h; dsimp only at h; split at h
    · cases h; rename_i hl; exact ⟨⟨fun e => by subst e; exact absurd hl.1 (by decide), hl.2⟩, rfl, rfl⟩
    · cases h
theorem i_oI {C : Int → Int → Prop} [∀ i j, Decidable (C i j)] {g : Int → Int → Int} {op : D → D → Option D} (h1 : ∀ i j, op (.int i) (.int j) = if C i j then some (.int (g i j)) else none) (h2 : ∀ d e z, op d e = some z → ∃ i j, d = .int i ∧ e = .int j) : Imp (oI C g) op := by
  intro d e M z h
  obtain ⟨i, j, rfl, rfl⟩ := h2 d e z h
  rw [h1] at h
  split at h
  · cases h; rename_i hc; exact ⟨hc, rfl, rfl⟩
  · cases h
theorem i_fdiv : Imp oFdiv fdivD := i_oI (fun _ _ => rfl) fun d e z h => by cases d <;> cases e <;> first | (cases h; done) | exact ⟨_, _, rfl, rfl⟩
theorem i_mod : Imp oMod modD := i_oI (fun _ _ => rfl) fun d e z h => by cases d <;> cases e <;> first | (cases h; done) | exact ⟨_, _, rfl, rfl⟩
theorem i_pow : Imp oPow powD := i_oI (fun _ _ => rfl) fun d e z h => by cases d <;> cases e <;> first | (cases h; done) | exact ⟨_, _, rfl, rfl⟩
theorem i_shl : Imp oShl shlD := i_oI (fun _ _ => rfl) fun d e z h => by cases d <;> cases e <;> first | (cases h; done) | exact ⟨_, _, rfl, rfl⟩
theorem i_shr : Imp oShr shrD := i_oI (fun _ _ => rfl) fun d e z h => by cases d <;> cases e <;> first | (cases h; done) | exact ⟨_, _, rfl, rfl⟩
theorem i_lt : Imp oLt ltD := by intro d e M z h; cases d <;> cases e <;> first | (cases h; done) | skip; cases h; exact ⟨rfl, rfl⟩
theorem i_le : Imp oLe leD := by intro d e M z h; cases d <;> cases e <;> first | (cases h; done) | skip; cases h; exact ⟨rfl, rfl⟩
theorem i_gt : Imp oGt gtD := by intro d e M z h; cases d <;> cases e <;> first | (cases h; done) | skip; cases h; exact ⟨rfl, rfl⟩
theorem i_ge : Imp oGe geD := by intro d e M z h; cases d <;> cases e <;> first | (cases h; done) | skip; cases h; exact ⟨rfl, rfl⟩
theorem i_eq : Imp oEq eqqD := by
  intro d e M z h
  unfold eqqD at h; split at h
  · cases h; rename_i hc; exact ⟨hc, rfl, rfl⟩
  · cases h
theorem i_ne : Imp oNe neD := by
  intro d e M z h
  unfold neD at h; split at h
  · cases h; rename_i hc; exact ⟨hc, rfl, rfl⟩
  · cases h
theorem i_is : Imp oIs isD := by intro d e M z h; cases e <;> first | (cases h; done) | skip; cases h; exact ⟨rfl, rfl⟩
theorem i_isnot : Imp oIsNot isnotD := by intro d e M z h; cases e <;> first | (cases h; done) | skip; cases h; exact ⟨rfl, rfl⟩
theorem i_ix : Imp oIx ixD := by
  intro d e M z h
  cases d <;> cases e <;> first | (cases h; done) | skip
  · rename_i s i
    unfold ixD at h; dsimp only at h
    split at h
    · rename_i hl
      cases e : atI s.cps.toList i with
      | none => rw [e] at h; cases h
      | some c => rw [e] at h; cases h; exact ⟨hl, c, e, rfl, rfl⟩
    · cases h
  · exact ⟨_, rfl, z, h, rfl, rfl⟩
  · exact ⟨_, rfl, z, h, rfl, rfl⟩
theorem io_ix : ImpO oIx ixD := by
  intro p l e M z hM h
  cases e <;> first | (cases h; done) | skip
  exact ⟨l, by unfold itemsD; dsimp only; rw [hM], z, h, rfl, rfl⟩
/-! ### built-ins -/
def lenD : List D → Option D
  | [.str y] => if y.length ≤ sizeLine then some (.int y.length) else none
  | [.tup l] => some (.int l.length)
  | [.fl l] => some (.int l.length)
  | _ => none
def tupleD : List D → Option D
  | [.tup l] => some (.tup l)
  | [.fl l] => some (.tup l)
  | _ => none
def listD : List D → Option (List D)
  | [.tup l] => some l
  | [.fl l] => some l
  | _ => none
def intD : List D → Option D
  | [.int i] => some (.int i)
  | [.bl b] => some (.int (if b then 1 else 0))
  | _ => none
def absD : List D → Option D
  | [.int i] => some (.int (if i < 0 then -i else i))
  | _ => none
def maxL (ns : List Int) : Option D := ns.max?.map .int
def minL (ns : List Int) : Option D := ns.min?.map .int
def maxD : List D → Option D
  | [.int i, .int j] => some (.int (if j > i then j else i))
  | _ => none
def minD : List D → Option D
  | [.int i, .int j] => some (.int (if j < i then j else i))
  | _ => none
theorem j_len : Imp1 oLen lenD := by
  intro ds M z h
  unfold lenD at h
  split at h
  · split at h
    · cases h; rename_i hl; exact ⟨hl, rfl, rfl⟩
    · cases h
  · cases h; exact ⟨_, rfl, rfl, rfl⟩
  · cases h; exact ⟨_, rfl, rfl, rfl⟩
  · cases h
theorem jo_len : Imp1O oLen lenD := by
  intro p l M z hM h
  cases h
  exact ⟨l, by unfold itemsD; dsimp only; rw [hM], rfl, rfl⟩
theorem j_tuple : Imp1 oTuple tupleD := by
  intro ds M z h
  unfold tupleD at h
  split at h
  · cases h; exact ⟨_, rfl, rfl, rfl⟩
  · cases h; exact ⟨_, rfl, rfl, rfl⟩
  · cases h
theorem jo_tuple : Imp1O oTuple tupleD := by
  intro p l M z hM h
  cases h
  exact ⟨l, by unfold itemsD; dsimp only; rw [hM], rfl, rfl⟩
theorem j_list : Imp1L oList listD := by
  intro ds M z h
  unfold listD at h
  split at h
  · cases h; exact ⟨_, rfl, fun p hp => ⟨p, rfl, hp, rfl⟩⟩
  · cases h; exact ⟨_, rfl, fun p hp => ⟨p, rfl, hp, rfl⟩⟩
  · cases h
theorem j_int : Imp1 oInt intD := by
  intro ds M z h
  unfold intD at h
  split at h
  · cases h; exact ⟨rfl, rfl⟩
  · cases h; exact ⟨rfl, rfl⟩
  · cases h
theorem j_abs : Imp1 oAbs absD := by
  intro ds M z h
  unfold absD at h
  split at h
  · cases h; exact ⟨rfl, rfl⟩
  · cases h
theorem j_max : Imp1 oMax maxD := by
  intro ds M z h
  unfold maxD at h
  split at h
  · cases h; exact ⟨rfl, rfl⟩
  · cases h
theorem j_min : Imp1 oMin minD := by
  intro ds M z h
  unfold minD at h
  split at h
  · cases h; exact ⟨rfl, rfl⟩
  · cases h
/-! ### methods of lists -/
def appM (l ds : List D) : Option (D × List D) := match ds with
  | [d] => if l.length < sizeLine then some (.non, l ++ [d]) else none
  | _ => none
def extM (l ds : List D) : Option (D × List D) := match ds with
  | [.fl fs] => if l.length + fs.length ≤ sizeLine then some (.non, l ++ fs) else none
  | _ => none
def insM (l ds : List D) : Option (D × List D) := match ds with
  | [.int i, d] => if l.length < sizeLine ∧ 0 ≤ i ∧ i < 2 ^ 63 then some (.non, l.take i.toNat ++ [d] ++ l.drop i.toNat) else none
  | _ => none
def popM (l ds : List D) : Option (D × List D) := match ds with
  | [] => match l[l.length - 1]? with
    | some y => some (y, l.dropLast)
    | none => none
  | _ => none
def popAtM (l ds : List D) : Option (D × List D) := match ds with
  | [.int i] => if -(2 ^ 63) ≤ i ∧ i < 2 ^ 63 then match seqIndex? i l.length with
      | some k => match l[k]? with
        | some y => some (y, l.eraseIdx k)
        | none => none
      | none => none
    else none
  | _ => none
theorem mm_app : ImpM oAppend appM := by
  intro a es ds M z h hM
  unfold appM at h
  split at h
  · split at h
    · cases h; rename_i hl; exact ⟨hl, rfl, rfl⟩
    · cases h
  · cases h
theorem mm_ext : ImpM oExtendF extM := by
  intro a es ds M z h hM
  unfold extM at h
  split at h
  · split at h
    · cases h; rename_i hl; exact ⟨hl, rfl, rfl⟩
    · cases h
  · cases h
theorem mm_ins : ImpM oInsert insM := by
  intro a es ds M z h hM
  unfold insM at h
  split at h
  · split at h
    · cases h; rename_i hl; exact ⟨hl.1, hl.2.1, hl.2.2, rfl, rfl⟩
    · cases h
  · cases h
theorem mm_pop : ImpM oPop popM := by
  intro a es ds M z h hM
  unfold popM at h
  split at h
  · split at h
    · rename_i y e; cases h; exact ⟨y, e, rfl, rfl⟩
    · cases h
  · cases h
theorem mm_popAt : ImpM oPopAt popAtM := by
  intro a es ds M z h hM
  unfold popAtM at h
  split at h
  · split at h
    · rename_i hl
      split at h
      · rename_i k hk
        split at h
        · rename_i y hy
          cases h; exact ⟨hl.1, hl.2, k, y, hk, hy, rfl, rfl⟩
        · cases h
      · cases h
    · cases h
  · cases h
end FL
end
section
set_option maxHeartbeats 4000000
/-! FI: further rules: dropped values, op=, chains, in, sums, name = [..], keywords, while, bodies that hand on a state. -/
namespace FL
open PySem PySem.Spec PyProof.Rows L2 DL RZ

section
variable {K : PySem.W.Frag} {S ρ : Type} {X : Cx} {C : FE K S} {G : FG} {F : Fam S ρ} {rest : List Stmt} {su : TS} {a b c e : Expr} {sta stb stc ste : TE} {ma mb mc me : Cd S D} {es : List Expr} {str : TA} {mr : Cd S (List D)} {pos : Pos}
/-- an expression whose value is dropped -/
theorem fexpr {mk : Cd S ρ} (he : PF X C e ste G me) (hr : PFB X C rest su G F mk) (hs : swapsWith e none pos.line X.env = pure false := by rfl) : PFB X C (.Expr e pos :: rest) (tSeq (tDrop ste) su) G F (bindS me fun _ => mk) :=
  ⟨he.hK, pss_cons (ps_expr he.pe hs) hr.pe, fun σ H B s Ψ E n k w => he.se.seq n w fun d s1 v H1 k1 n1 r1 w1 => hr.se σ H1 B s1 Ψ E n1 (k.step k1) w1⟩

/-! ### x op= e -/
def SIp (K : PySem.W.Frag) (t : TIp) (op : D → D → Option D) : Prop := ∀ x y d e H M z (Q : VK), RepM K H M → Rep K H x d → Rep K H y e → op d e = some z → Lift K M H (fun d' M' => d' = z ∧ M' = M) Q → t x y H Q
structure PIpF (X : Cx) (K : PySem.W.Frag) (opr : Operator) (t : TIp) (op : D → D → Option D) : Prop where
  pe : PIp X opr t
  se : SIp K t op
theorem ip_mul : PIp X .Mult (fun x y H Q => ∃ i j, x = .int i ∧ y = .int j ∧ MulOk i j ∧ Q (.int (i * j)) H) := by
  intro pins s σ H x y v u Q I r1 r2 h
  obtain ⟨i, j, rfl, rfl, hc, q⟩ := h
  obtain ⟨t, rfl⟩ := r1
  obtain ⟨t', rfl⟩ := r2
  exact PySem.AutoIntOps.imul_0 ⟨.int _, H, I.tok _, ⟨_, rfl⟩, q⟩ (by rcases hc with hc | hc; exact CMul.ok hc; exact CMulW.ok hc)
theorem pip_or {opr : Operator} {t t' : TIp} (h : PIp X opr t) (h' : PIp X opr t') : PIp X opr (fun x y H Q => t x y H Q ∨ t' x y H Q) := fun pins s σ H x y v u Q I r1 r2 q => q.elim (h pins s σ H x y v u Q I r1 r2) (h' pins s σ H x y v u Q I r1 r2)
def addQ : D → D → Option D
  | .int i, .int j => some (.int (i + j))
  | .str a, .str b => if a.length + b.length ≤ sizeLine then some (.str (a ++ b)) else none
  | _, _ => none
def mulQ : D → D → Option D
  | .int i, .int j => if MulOk i j then some (.int (i * j)) else none
  | _, _ => none
theorem q_add : PIpF X K .Add (fun x y H Q => ipI (fun i j => i + j) x y H Q ∨ ∃ i j, x = .str i ∧ y = .str j ∧ i.length + j.length ≤ sizeLine ∧ Q (.str (i ++ j)) H) addQ := by
  refine ⟨pip_or ip_add fun pins s σ H x y v u Q I r1 r2 h => iop_add_str pins s σ H x y v u Q I r1 r2 h, fun x y d e H M z Q m r1 r2 h l => ?_⟩
  cases r1 <;> cases r2 <;> first | (cases h; done) | skip
  · cases h; exact .inl ⟨_, _, rfl, rfl, l _ M _ H ⟨rfl, rfl⟩ Step.refl (.int _) m⟩
  · unfold addQ at h; dsimp only at h; split at h
    · cases h; rename_i hl; exact .inr ⟨_, _, rfl, rfl, hl, l _ M _ H ⟨rfl, rfl⟩ Step.refl (.str _) m⟩
    · cases h
theorem q_sub : PIpF X K .Sub (ipI fun i j => i - j) subD := by
  refine ⟨ip_sub, fun x y d e H M z Q m r1 r2 h l => ?_⟩
  cases r1 <;> cases r2 <;> first | (cases h; done) | skip
  cases h; exact ⟨_, _, rfl, rfl, l _ M _ H ⟨rfl, rfl⟩ Step.refl (.int _) m⟩
theorem q_mul : PIpF X K .Mult (fun x y H Q => ∃ i j, x = .int i ∧ y = .int j ∧ MulOk i j ∧ Q (.int (i * j)) H) mulQ := by
  refine ⟨ip_mul, fun x y d e H M z Q m r1 r2 h l => ?_⟩
  cases r1 <;> cases r2 <;> first | (cases h; done) | skip
  unfold mulQ at h; dsimp only at h; split at h
  · cases h; rename_i hl; exact ⟨_, _, rfl, rfl, hl, l _ M _ H ⟨rfl, rfl⟩ Step.refl (.int _) m⟩
  · cases h
theorem faug (i : Nat) {x : Str} {pos' : Pos} {opr : Operator} {t : TIp} {op : D → D → Option D} {d0 : D} {mk : D → Cd S ρ} (hN : X.N.Nodup) (ho : PIpF X K opr t op) (he : PF X C e ste G me) (hr : ∀ d, PFB X C rest su (sf G i (some (.val d))) F (mk d)) (hG : gf G i = some (.val d0) := by rfl) (hi : X.N[i]? = some x := by rfl) (hx : Loc X.env.scope x := by first | exact .inl rfl | exact .inr rfl) (hf : X.fn x = true ∨ X.env.scope.names.lookup x = some .local := by first | exact .inl rfl | exact .inr rfl | assumption) :
    PFB X C (.AugAssign (.Name x pos') opr e pos :: rest) (tSeq (tAug i ste t) su) G F (bindS me fun y => bindS (optS (op d0 y)) mk) :=
  ⟨he.hK, pss_cons (ps_aug hN hi hx he.pe ho.pe hf) (hr .non).pe, fun σ H B s Ψ E n k w => by
    obtain ⟨v, h1, r0⟩ := n.vals i d0 hG
    refine ⟨v, h1, he.se.seq n w fun y s1 u H1 k1 n1 r1 w1 => ?_⟩
    obtain ⟨z, ez, w2⟩ := wp_opt (wp_bind.mp w1)
    exact ho.se v u d0 y H1 _ z _ n1.rm (r0.kt k1) r1 ez (n1.lift fun zv H2 k2 n2 r2 => (hr z).se _ H2 B s1 Ψ E (n2.setV r2 (gf_lt hG)) (k.step (k1.trans k2)) w2)⟩

/-! ### a op b op' c -/
def chS (x y : Option D) (k : Cd S D) : Cd S D := stk
theorem se_chain {ro ro' : R2} {o o' : O2} {op op' : D → D → Option D} (ho : SOp K ro o) (im : Imp o op) (ho' : SOp K ro' o') (im' : Imp o' op') (ha : SimE C sta G ma) (hb : SimE C stb G mb) (hc : SimE C stc G mc) :
    SimE C (tChain ro ro' sta stb stc) G (bindS ma fun x => bindS mb fun y => bindS (toB (optS (op x y))) fun k => cond k (bindS mc fun z => optS (op' y z)) (okS (.bl false))) := fun σ H B s Q n w =>
  ha.seq n w fun x s1 v H1 k1 n1 r1 w1 => hb.seq n1 w1 fun y s2 u H2 k2 n2 r2 w2 => by
    have w3 := wp_bind.mp (wp_bind.mp w2)
    obtain ⟨z, ez, w3⟩ := wp_opt w3
    obtain ⟨k, ek, w3⟩ := wp_opt w3
    cases z <;> cases ek
    refine ho v u x y H2 _ _ _ (r1.kt k2) r2 n2.rm (im x y _ _ ez) (n2.lift fun zv H3 k3 n3 r3 => ?_)
    cases r3
    refine ⟨_, rfl, ?_⟩
    cases k with
    | true =>
      rw [if_pos rfl]
      refine hc.seq n3 w3 fun f s4 q H4 k4 n4 r4 w4 => ?_
      obtain ⟨z', ez', q'⟩ := wp_opt w4
      exact ho' u q y f H4 _ _ Q ((r2.kt k3).kt k4) r4 n4.rm (im' y f _ z' ez') (n4.lift fun v' H' k5 n5 r5 => q' v' H' ((((k1.trans k2).trans k3).trans k4).trans k5) n5 r5)
    | false =>
      rw [if_neg Bool.false_ne_true]
      exact w3 _ H3 ((k1.trans k2).trans k3) n3 (.bl false)
theorem fchain {ro ro' : R2} {o o' : O2} {op op' : D → D → Option D} {c1 c2 : CmpOp} (ho : POp X K (compareOp c1) ro o) (im : Imp o op) (ho' : POp X K (compareOp c2) ro' o') (im' : Imp o' op') (ha : PF X C a sta G ma) (hb : PF X C b stb G mb) (hc : PF X C c stc G mc) (hm : lastMarks [c1, c2] [b, c] = false := by with_unfolding_all rfl) :
    PF X C (.Compare a [c1, c2] [b, c] pos) (tChain ro ro' sta stb stc) G (bindS ma fun x => bindS mb fun y => bindS (toB (optS (op x y))) fun k => cond k (bindS mc fun z => optS (op' y z)) (okS (.bl false))) := by
  have hK := ho.hK; subst hK
  exact ⟨rfl, pe_chain ho.pe ho'.pe ha.pe hb.pe hc.pe hm, se_chain ho.se im ho'.se im' ha.se hb.se hc.se⟩
theorem ftchain {ro ro' : R2} {o o' : O2} {op op' : D → D → Option D} {c1 c2 : CmpOp} (ho : POp X K (compareOp c1) ro o) (im : Imp o op) (ho' : POp X K (compareOp c2) ro' o') (im' : Imp o' op') (ha : PF X C a sta G ma) (hb : PF X C b stb G mb) (hc : PF X C c stc G mc) (hm : lastMarks [c1, c2] [b, c] = false := by with_unfolding_all rfl) :
    PFT X C (.Compare a [c1, c2] [b, c] pos) (tTest (tChain ro ro' sta stb stc)) G (toB (bindS ma fun x => bindS mb fun y => bindS (toB (optS (op x y))) fun k => cond k (bindS mc fun z => optS (op' y z)) (okS (.bl false)))) := by
  have hK := ho.hK; subst hK
  exact ⟨rfl, pt_chain ho.pe ho'.pe ha.pe hb.pe hc.pe hm, se_test (se_chain ho.se im ho'.se im' ha.se hb.se hc.se)⟩

/-! ### x in xs -/
theorem hu65 {k : Nat} {A : Around} (r : Room k A) : A.units + 65 < cLine := by have := r.un; omega
def rInA (K : PySem.W.Frag) (neg : Bool) : R2 := fun x y H Q => (∃ i j, x = .str i ∧ y = .str j ∧ Q (.bl (if neg then !(!(Builtin.Str.occurrences j i 0 j.length 1).isEmpty) else !(Builtin.Str.occurrences j i 0 j.length 1).isEmpty)) H) ∨
  ∃ d ds, Dp K H x d ∧ (Dp K H y (.list ds) ∨ Dp K H y (.tuple ds)) ∧ SeqAt.shaped d = true ∧ SeqAt.shaped (.list ds) = true ∧ Q (.bl (if neg then !ds.any fun z => PyData.eqv z d else ds.any fun z => PyData.eqv z d)) H
theorem op_inA (hu : X.A.units + 65 < cLine) : OpR X (compareOp .In) (rInA X.K false) := by
  intro pins s σ H x y v u Q I rx ry h
  rcases h with ⟨i, j, rfl, rfl, q⟩ | ⟨d, ds, hd, he, sd, se, q⟩
  · exact op_in_str pins s σ H _ _ v u Q I rx ry ⟨i, j, rfl, rfl, q⟩
  · obtain ⟨as, r1⟩ := Dp.reads I d x v hd rx
    rcases he with he | he
    · obtain ⟨bs, r2⟩ := Dp.reads I (.list ds) y u he ry
      exact SeqAt.in_list_reads r2 r1 (SeqAt.canLay_of_shaped se) (SeqAt.canLay_of_shaped sd) (room_in_shaped sd hu) ⟨.bl _, H, I, rfl, q⟩
    · obtain ⟨bs, r2⟩ := Dp.reads I (.tuple ds) y u he ry
      exact SeqAt.in_tuple_reads r2 r1 (SeqAt.canLay_of_shaped se) (SeqAt.canLay_of_shaped sd) (room_in_shaped sd hu) ⟨.bl _, H, I, rfl, q⟩
theorem op_notInA (hu : X.A.units + 65 < cLine) : OpR X (compareOp .NotIn) (rInA X.K true) := by
  intro pins s σ H x y v u Q I rx ry h
  rcases h with ⟨i, j, rfl, rfl, q⟩ | ⟨d, ds, hd, he, sd, se, q⟩
  · exact op_notIn_str pins s σ H _ _ v u Q I rx ry ⟨i, j, rfl, rfl, q⟩
  · obtain ⟨as, r1⟩ := Dp.reads I d x v hd rx
    rcases he with he | he
    · obtain ⟨bs, r2⟩ := Dp.reads I (.list ds) y u he ry
      exact SeqAt.notIn_list_reads r2 r1 (SeqAt.canLay_of_shaped se) (SeqAt.canLay_of_shaped sd) (room_in_shaped sd hu) ⟨.bl _, H, I, rfl, q⟩
    · obtain ⟨bs, r2⟩ := Dp.reads I (.tuple ds) y u he ry
      exact SeqAt.notIn_tuple_reads r2 r1 (SeqAt.canLay_of_shaped se) (SeqAt.canLay_of_shaped sd) (room_in_shaped sd hu) ⟨.bl _, H, I, rfl, q⟩
def inB (d e : D) : Option Bool := match d, e with
  | .str i, .str j => some (!(Builtin.Str.occurrences j i 0 j.length 1).isEmpty)
  | d, .tup ds => if shp d = true ∧ shp (.fl ds) = true then some (ds.any fun y => DL.eqD y d) else none
  | d, .fl ds => if shp d = true ∧ shp (.fl ds) = true then some (ds.any fun y => DL.eqD y d) else none
  | _, _ => none
def inD (d e : D) : Option D := (inB d e).map .bl
def notinD (d e : D) : Option D := (inB d e).map fun b => .bl (!b)
theorem any_eqv {d : D} (hd : plain d = true) : ∀ (ds : List D), plains ds = true → ((toPys ds).any fun z => PyData.eqv z (toPy d)) = ds.any fun y => DL.eqD y d
  | [], _ => rfl
  | y :: ys, h => by
    have a := Bool.and_eq_true_iff.mp (show (plain y && plains ys) = true from h)
    show (PyData.eqv (toPy y) (toPy d) || (toPys ys).any _) = (DL.eqD y d || ys.any _)
    rw [eqv_eqD y d a.1 hd, any_eqv hd ys a.2]
theorem shp_plain {d : D} (h : shp d = true) : plain d = true ∧ SeqAt.shaped (toPy d) = true := Bool.and_eq_true_iff.mp h
def oInF (neg : Bool) : O2 := fun d e M Q => ∃ b, inB d e = some b ∧ Q (.bl (if neg then !b else b)) M
theorem rin_ok {neg : Bool} {H : Hp} {x y : V} {d e : D} {b : Bool} {Q : VK} (r : Rep K H x d) (t : Rep K H y e) (h : inB d e = some b) (q : Q (.bl (if neg then !b else b)) H) : rInA K neg x y H Q := by
  have seq : ∀ ds, shp d = true ∧ shp (.fl ds) = true → (Dp K H y (.list (toPys ds)) ∨ Dp K H y (.tuple (toPys ds))) → b = (ds.any fun z => DL.eqD z d) → rInA K neg x y H Q := fun ds ⟨h1, h2⟩ hp hb => by
    obtain ⟨p1, p2⟩ := shp_plain h1
    obtain ⟨p3, p4⟩ := shp_plain h2
    refine .inr ⟨toPy d, toPys ds, r.dp p1, hp, p2, p4, ?_⟩
    rw [any_eqv p1 ds p3, ← hb]
    exact q
  cases t with
  | str j =>
    cases d with
    | str i =>
      cases h
      cases r
      refine .inl ⟨_, _, rfl, rfl, ?_⟩
      cases neg <;> exact q
    | _ => cases h
  | tup q1 rs =>
    rename_i ds
    have h : (if shp d = true ∧ shp (.fl ds) = true then some (ds.any fun y => DL.eqD y d) else none) = some b := by cases d <;> exact h
    split at h
    · rename_i hc
      cases h
      exact seq _ hc (.inr (.tup q1 (rs.dp (shp_plain hc.2).1))) rfl
    · cases h
  | fl q1 rs =>
    rename_i ds
    have h : (if shp d = true ∧ shp (.fl ds) = true then some (ds.any fun y => DL.eqD y d) else none) = some b := by cases d <;> exact h
    split at h
    · rename_i hc
      cases h
      exact seq _ hc (.inl (.lst q1.sq (rs.dp (shp_plain hc.2).1))) rfl
    · cases h
  | _ => cases d <;> cases h
theorem o_inF (hu : X.A.units + 65 < cLine) (hK : X.K = K := by rfl) : POp X K (compareOp .In) (rInA K false) (oInF false) := by
  subst hK
  exact ⟨rfl, op_inA hu, fun x y d e H M Qd Q r t m ⟨b, h1, h2⟩ l => rin_ok r t h1 (l _ M _ H h2 Step.refl (.bl _) m)⟩
theorem o_notinF (hu : X.A.units + 65 < cLine) (hK : X.K = K := by rfl) : POp X K (compareOp .NotIn) (rInA K true) (oInF true) := by
  subst hK
  exact ⟨rfl, op_notInA hu, fun x y d e H M Qd Q r t m ⟨b, h1, h2⟩ l => rin_ok r t h1 (l _ M _ H h2 Step.refl (.bl _) m)⟩
theorem i_in : Imp (oInF false) inD := fun d e M z h => by
  unfold inD at h
  cases hb : inB d e with
  | none => rw [hb] at h; cases h
  | some b => rw [hb] at h; cases h; exact ⟨b, hb, rfl, rfl⟩
theorem i_notin : Imp (oInF true) notinD := fun d e M z h => by
  unfold notinD at h
  cases hb : inB d e with
  | none => rw [hb] at h; cases h
  | some b => rw [hb] at h; cases h; exact ⟨b, hb, rfl, rfl⟩
/-- x in xs, xs own -/
theorem se_inO {neg : Bool} {i : Nat} {l : List D} {op : D → D → Option D} (hop : ∀ d z, op d (.fl l) = some z → ∃ b, inB d (.fl l) = some b ∧ z = .bl (if neg then !b else b)) (hG : gf G i = some (.own (.lst l))) (ha : SimE C sta G ma) : SimE C (tOp (rInA K neg) sta (tVar i)) G (bindS ma fun y => optS (op y (.fl l))) := fun σ H B s Q n w =>
  ha.seq n w fun x s1 v H1 k1 n1 r1 w1 => by
    obtain ⟨q, h1, h2, h3, _⟩ := n1.owns i _ hG
    obtain ⟨z, e, w⟩ := wp_opt w1
    obtain ⟨b, hb, rfl⟩ := hop x z e
    obtain ⟨vs, g1, g2⟩ := n1.rm.2 q (.lst l) (by rw [C.Z.out _ _ _ h2]; exact h3)
    refine ⟨_, h1, ?_⟩
    have hh : (if shp x = true ∧ shp (.fl l) = true then some (l.any fun y => DL.eqD y x) else none) = some b := by cases x <;> exact hb
    split at hh
    · rename_i hc
      cases hh
      obtain ⟨p1, p2⟩ := shp_plain hc.1
      obtain ⟨p3, p4⟩ := shp_plain hc.2
      refine .inr ⟨toPy x, toPys l, r1.dp p1, .inl (.lst (SqL.of g1) (g2.dp p3)), p2, p4, ?_⟩
      rw [any_eqv p1 l p3]
      exact w _ H1 k1 n1 (.bl _)
    · cases hh
theorem ftinO (i : Nat) {l : List D} {y : Str} {py : Pos} (hu : X.A.units + 65 < cLine) (ha : PF X C a sta G ma) (hG : gf G i = some (.own (.lst l)) := by rfl) (hN : X.N[i]? = some y := by rfl) (hvv : Vis X.env.scope y := by first | exact Or.inl rfl | exact Or.inr (Or.inl rfl) | exact Or.inr (Or.inr rfl)) (hd : (y == ("__debug__" : Str)) = false := by decide) (hcd : (y == ("__classdict__" : Str)) = false := by decide)
    (hm : behindInMarks .In (.Name y py) = false := by first | exact nomark _ | rfl) : PFT X C (.Compare a [.In] [.Name y py] pos) (tTest (tOp (rInA K false) sta (tVar i))) G (toB (bindS ma fun z => optS (inD z (.fl l)))) := by
  have hK := ha.hK; subst hK
  refine ⟨rfl, pt_cmpR (op_inA hu) ha.pe (pe_var hN hvv hd hcd) hm, se_test (se_inO (fun d z h => ?_) hG ha.se)⟩
  unfold inD at h
  cases hb : inB d (.fl l) with
  | none => rw [hb] at h; cases h
  | some b => rw [hb] at h; cases h; exact ⟨b, rfl, rfl⟩
theorem ftnotinO (i : Nat) {l : List D} {y : Str} {py : Pos} (hu : X.A.units + 65 < cLine) (ha : PF X C a sta G ma) (hG : gf G i = some (.own (.lst l)) := by rfl) (hN : X.N[i]? = some y := by rfl) (hvv : Vis X.env.scope y := by first | exact Or.inl rfl | exact Or.inr (Or.inl rfl) | exact Or.inr (Or.inr rfl)) (hd : (y == ("__debug__" : Str)) = false := by decide) (hcd : (y == ("__classdict__" : Str)) = false := by decide)
    (hm : behindInMarks .NotIn (.Name y py) = false := by first | exact nomark _ | rfl) : PFT X C (.Compare a [.NotIn] [.Name y py] pos) (tTest (tOp (rInA K true) sta (tVar i))) G (toB (bindS ma fun z => optS (notinD z (.fl l)))) := by
  have hK := ha.hK; subst hK
  refine ⟨rfl, pt_cmpR (op_notInA hu) ha.pe (pe_var hN hvv hd hcd) hm, se_test (se_inO (fun d z h => ?_) hG ha.se)⟩
  unfold notinD at h
  cases hb : inB d (.fl l) with
  | none => rw [hb] at h; cases h
  | some b => rw [hb] at h; cases h; exact ⟨b, rfl, rfl⟩

/-! ### sum, max, min of a list of ints -/
def sumLD : List D → Option D
  | [.fl l] => (intsOf l).map fun ns => .int ns.sum
  | _ => none
def maxLD : List D → Option D
  | [.fl l] => match intsOf l with
    | some ns => ns.max?.map .int
    | none => none
  | [.int i, .int j] => some (.int (if j > i then j else i))
  | _ => none
def minLD : List D → Option D
  | [.fl l] => match intsOf l with
    | some ns => ns.min?.map .int
    | none => none
  | [.int i, .int j] => some (.int (if j < i then j else i))
  | _ => none
def oOf (op : List D → Option D) : OC := fun ds M Q => ∃ z, op ds = some z ∧ Q z M
theorem j_of {op : List D → Option D} : Imp1 (oOf op) op := fun ds M z h => ⟨z, h, rfl, rfl⟩
theorem c_sumF (hc : X.calm = true) (hK : X.K = K := by rfl) : PCall X K (.builtin "sum") (rSum K) (oOf sumLD) := by
  subst hK
  refine ⟨rfl, cr_sum hc, fun vs ds H M Qd Q r m ⟨z, h, q⟩ l => ?_⟩
  unfold sumLD at h
  split at h
  · rename_i es _
    cases e : intsOf es with
    | none => rw [e] at h; cases h
    | some ns =>
      rw [e] at h; cases h
      obtain ⟨v, rfl, r'⟩ := reps1 r
      cases r' with
      | fl k1 k2 => exact ⟨_, ns, rfl, by rw [← ints_reps k2 e]; exact k1.sq, l _ M _ H q Step.refl (.int _) m⟩
  · cases h
theorem c_maxF (hc : X.calm = true) (hK : X.K = K := by rfl) : PCall X K (.builtin "max") (rMaxA K) (oOf maxLD) := by
  subst hK
  refine ⟨rfl, (call_max2 hc).or (cr_max hc), fun vs ds H M Qd Q r m ⟨z, h, q⟩ l => ?_⟩
  unfold maxLD at h
  split at h
  · rename_i es _
    cases e : intsOf es with
    | none => rw [e] at h; cases h
    | some ns =>
      rw [e] at h
      dsimp only at h
      cases e2 : ns.max? with
      | none => rw [e2] at h; cases h
      | some mx =>
        rw [e2] at h; cases h
        obtain ⟨v, rfl, r'⟩ := reps1 r
        obtain ⟨g1, g2⟩ := List.max?_eq_some_iff.mp e2
        cases r' with
        | fl k1 k2 => exact .inr ⟨_, ns, rfl, by rw [← ints_reps k2 e]; exact k1.sq, List.length_pos_of_mem g1, fun k hk hm => by
            have : k = mx := Int.le_antisymm (g2 k hk) (hm mx g1)
            subst this
            exact l _ M _ H q Step.refl (.int _) m⟩
  · cases h
    obtain ⟨v, w, rfl, r1, r2⟩ := reps2 r
    cases r1; cases r2
    exact .inl ⟨_, _, rfl, l _ M _ H q Step.refl (.int _) m⟩
  · cases h
theorem c_minF (hc : X.calm = true) (hK : X.K = K := by rfl) : PCall X K (.builtin "min") (rMinA K) (oOf minLD) := by
  subst hK
  refine ⟨rfl, (call_min2 hc).or (cr_min hc), fun vs ds H M Qd Q r m ⟨z, h, q⟩ l => ?_⟩
  unfold minLD at h
  split at h
  · rename_i es _
    cases e : intsOf es with
    | none => rw [e] at h; cases h
    | some ns =>
      rw [e] at h
      dsimp only at h
      cases e2 : ns.min? with
      | none => rw [e2] at h; cases h
      | some mx =>
        rw [e2] at h; cases h
        obtain ⟨v, rfl, r'⟩ := reps1 r
        obtain ⟨g1, g2⟩ := List.min?_eq_some_iff.mp e2
        cases r' with
        | fl k1 k2 => exact .inr ⟨_, ns, rfl, by rw [← ints_reps k2 e]; exact k1.sq, List.length_pos_of_mem g1, fun k hk hm => by
            have : k = mx := Int.le_antisymm (hm mx g1) (g2 k hk)
            subst this
            exact l _ M _ H q Step.refl (.int _) m⟩
  · cases h
    obtain ⟨v, w, rfl, r1, r2⟩ := reps2 r
    cases r1; cases r2
    exact .inl ⟨_, _, rfl, l _ M _ H q Step.refl (.int _) m⟩
  · cases h
end
end FL
end
section
set_option maxHeartbeats 4000000
/-! FX: own exceptions over ValueError whose __init__ says super().__init__(..) and stores its parameters. -/
namespace SX
open PySem PySem.Spec PyProof.Rows PySem.Calls L2
open PySem.W (Frag ks_superIn ksFn ksEnv)

/-- what the written part says of such a class: C the class, fI its __init__, a def st -/
structure SupC (P : Program) (K : Frag) (C fI : Addr) (qual : Str) (st : Stmt) : Prop where
  T : OexC K C
  iC : PySem.W.findIn K (.ref C) "__init__" = some (some (.ref fI))
  tI : PySem.W.typeIn K (.ref fI) = some (.type "function")
  ex : ∃ (oc kV doc pm ct ccl cl : Value) (od an cdd cld : Option Addr) (osl ccs csl : Array (Option Value)) (cda cc : Addr) (vs : Array Value) (file : Str) (tf : Tok),
    K.lookup fI = some ⟨oc, od, .func (ksFn "__init__" qual (defArgs st) (defBody st) (defScope st) .none kV doc pm an (.ref cda) ct cc), osl⟩ ∧ PySem.W.codeIn K (.ref cda) qual = true ∧ K.lookup cda = some ⟨ccl, cdd, .fields vs, ccs⟩ ∧ vs[2]? = some (.str file tf) ∧
      ((P.main.file : Str) == file) = true ∧ K.lookup cc = some ⟨cl, cld, .cell (some (.ref C)), csl⟩
  sup : ks_superIn K C C "__init__" = some (some (.builtin "ValueError.__init__"))
  subV : PySem.W.subIn K (.ref C) (.type "ValueError") = some true
  subC : PySem.W.mroIn K C (.ref C) = some true
  opq : PySem.W.nsIn K cStatics "thirdparty.any" = some none
  top : (P.main.scope.names.lookup ("super" : Str)).isSome = false
section
variable {P : Program} {w : World} {K : Frag} {C fI : Addr} {qual : Str} {st : Stmt} {mg mb : Str → Option Value} {A : Around} {E : Value → Shared → Prop}
/-- super().__init__(e, ..) within the __init__: the record's arguments are laid anew -/
theorem sup_expr {hp : Heap} {g : Array GenState} {d : Drawn} {tk : Nat} {os : OsState} {scope : Scope} {body : List Stmt} {L cc cda a t0 : Addr} {u : Value} {us : List Value} {fd : FuncData} {oc ccl cl : Value} {od cdd cld : Option Addr} {osl ccs csl : Array (Option Value)} {vs : Array Value} {file : Str} {tf : Tok} {m : Str → Option Value}
    {ar : Arg} {p0 p1 p2 pos : Pos} {pl : Sem Bool} {e : Expr} {es : List Expr} {Q : Value → Shared → Prop}
    (S : SupC P K C fI qual st) (X : K.In hp) (hg : hp.Ns mainGlobals mg) (hb : hp.Ns builtinsNs mb) (hms : mg "super" = none) (hbs : mb "super" = some (.type "super")) (hn : hp.Ns L m)
    (hf : K.lookup fI = some ⟨oc, od, .func fd, osl⟩) (hpar : (fd.params.posonlyargs ++ fd.params.args).head? = some ar) (hcda : K.lookup cda = some ⟨ccl, cdd, .fields vs, ccs⟩) (hvs : vs[2]? = some (.str file tf)) (hfile : ((P.main.file : Str) == file) = true)
    (hcc : K.lookup cc = some ⟨cl, cld, .cell (some (.ref C)), csl⟩) (hks : scope.names.lookup ("super" : Str) = some .globalImplicit) (hkc : scope.names.lookup ("__class__" : Str) = some .free) (hka : scope.names.lookup ar.arg = some .local) (hk : scope.kind = .function)
    (hva : m ar.arg = some (.ref a)) (ha : hp.get? a = some (HandSPX.excO C t0)) (hlen : (u :: us).length ≤ sizeLine)
    (hargs : ∀ (h1 : Heap) (tk' : Nat) (Q : List Value → Shared → Prop) (E : Value → Shared → Prop), h1.Ns L m → Q (u :: us) ⟨h1, g, d, tk', os⟩ → wpAny (model P w) A (spliced (backTo pos (starEach (e :: es) (ksEnv qual scope L fI (.ref cda) cc)))) Q E ⟨h1, g, d, tk', os⟩)
    (he : eval (.Call (.Attribute (.Call (.Name "super" p0) [] [] p1) "__init__" p2) (e :: es) [] pos) (ksEnv qual scope L fI (.ref cda) cc) = (do
      let ov ← attributeBase (.Call (.Name "super" p0) [] [] p1) "__init__" (ksEnv qual scope L fI (.ref cda) cc) (eval (.Call (.Name "super" p0) [] [] p1) (ksEnv qual scope L fI (.ref cda) cc))
      standAt p2.atName
      let (f, first) ← holding [ov] (getMethod ov "__init__" pl)
      callWith pos f first (backTo pos (starEach (e :: es) (ksEnv qual scope L fI (.ref cda) cc))) []))
    (hst : starEach (e :: es) (ksEnv qual scope L fI (.ref cda) cc) = (false, eval e (ksEnv qual scope L fI (.ref cda) cc)) :: starEach es (ksEnv qual scope L fI (.ref cda) cc)) (hplain : (backTo pos (starEach es (ksEnv qual scope L fI (.ref cda) cc))).any (·.1) = false)
    (hq : ∀ h' t1 tk', (∀ b o, b ≠ a → hp.get? b = some o → h'.get? b = some o) → h'.get? a = some (HandSPX.excO C t1) → Q .none ⟨h', g, d, tk', os⟩) :
    PySem.wpAt (model P w) A (.func body (ksEnv qual scope L fI (.ref cda) cc)) (eval (.Call (.Attribute (.Call (.Name "super" p0) [] [] p1) "__init__" p2) (e :: es) [] pos) (ksEnv qual scope L fI (.ref cda) cc)) Q E ⟨hp, g, d, tk, os⟩ := by
  obtain ⟨nm, q, N, bs, bm, sn, sub, ab, col, dd, k0, k1, k2, k3, k5, hC, hbm⟩ := S.T.cls
  have hCo := X _ _ hC
  refine ks_wpAt_MethodCall ?_ he
  refine ks_wpAt_super_base (env := ksEnv qual scope L fI (.ref cda) cc) hks hkc (by decide) rfl (X _ _ hf) rfl hpar rfl (X _ _ hcda) rfl hvs hfile S.top ?_
  refine PySem.W.ks_loadName_global hk hks (loadGlobal_builtin (env := ksEnv qual scope L fI (.ref cda) cc) hg hms hb hbs ⟨rfl, ?_⟩)
  refine wpAny_loadName_free hk hkc rfl ⟨_, X _ _ hcc, rfl⟩ ?_
  refine wpAny_loadName_local hk hka hn hva ?_
  refine ks_wpAny_isType_cls hCo rfl ⟨rfl, ?_⟩
  refine ks_wpAny_call_super hCo rfl ha rfl (fun c e => by cases e) (PySem.W.looks_mroIn X S.subC) (fun h1 hso k1 => ?_)
  have X1 : K.In h1 := fun b o e => k1 _ _ (X b o e)
  have ha1 := k1 _ _ ha
  have hcl : PySem.W.clsIn K C = some { name := nm, bases := bs, mro := .ref C :: bm, ns := N, qualname := q, hasDict := true, slotNames := sn, subclasses := sub, abstract := ab, collection := col, hasDel := false } := by unfold PySem.W.clsIn; rw [hC] <;> rfl
  have hsup := S.sup
  unfold ks_superIn at hsup
  rw [hcl] at hsup
  have I1 : PySem.W.InstAt h1 a (HandSPX.excO C t0) C none := ⟨ha1, rfl, rfl, trivial⟩
  refine PySem.W.kxs_getMethod PySem.W.kxs_ValueError hso (PySem.W.looks_opaque X1 S.opq) (l₀ := .ref C :: bm) ?_ rfl X1 hsup (I1.type.andThen (PySem.W.looks_subIn X1 S.subV)) (PySem.W.ks_ne X1 I1 hcl) (by decide) ?_
  · exact fun A Q E s k q => wpAny_bind ((PySem.W.looks_clsIn X1 hcl) A _ E s k (wpAny_pure q))
  have hu : (h1.push (PySem.W.kxs_mw "ValueError.__init__" a)).get? h1.objs.size = some (PySem.W.kxs_mw "ValueError.__init__" a) := Heap.get?_push_at rfl rfl
  have k2' : ∀ b o, hp.get? b = some o → (h1.push (PySem.W.kxs_mw "ValueError.__init__" a)).get? b = some o := fun b o e => Heap.get?_push_of_some _ (k1 b o e)
  refine PySem.W.kxs_callWith (i := "ValueError.__init__") (x := a) (by rw [hst]; show (false || (backTo pos (starEach es (ksEnv qual scope L fI (.ref cda) cc))).any (·.1)) = false; rw [hplain]; rfl) ?_
  rw [hst]
  refine evalArgs_plain ?_
  rw [hst] at hargs
  refine hargs _ _ _ _ (hn.keeps k2') ⟨hu, ?_⟩
  show wpAny _ _ (call (.ref h1.objs.size) (u :: us)) _ _ _
  have ha2 := k2' _ _ ha
  refine wpAny_call (codeAny_of_tree ?_)
  show wpAny _ A.in1 (callAny (.ref h1.objs.size) ⟨u :: us, []⟩) _ _ _
  simp only [callAny]
  refine wpAny_bind (wpAny_load hu ?_)
  simp only [PySem.W.kxs_mw, show (Value.type "method-wrapper" == Value.type "method" || Value.type "method-wrapper" == Value.type "builtin_function_or_method" || Value.type "method-wrapper" == Value.type "method-wrapper") = true by decide, if_true]
  refine PySem.W.KFB.if_so (by decide) ?_
  refine wpAny_bind (PySem.W.check_bound_init F.excBase_ValueError.toExcCallFacts (k2' _ _ hCo) ha2 rfl ?_)
  refine wpAny_bind (wpAny_pure (wpAny_pure ?_))
  refine ⟨plainId_quiet F.excBase_ValueError.init.plain _, codeAny_builtin F.excBase_ValueError.initEntry ?_⟩
  refine PySem.W.exc_init_tree (cls := .ref C) (t0 := t0) (dv := none) (c2 := .none) (c3 := .none) (b4 := .bool false) ha2 hlen fun h' kk e' _ => ?_
  exact hq h' _ _ (fun b o hb z => kk b o hb (k2' b o z)) e'
/-- the objects but a stand, a is an exception of C without a dict, the locals at L -/
theorem ns_at {h h' : Heap} {L : Addr} {m : Str → Option Value} (hn : h.Ns L m) (k : ∀ o, h.get? L = some o → h'.get? L = some o) : h'.Ns L m := by
  obtain ⟨o, es, ep, e, r⟩ := hn
  exact ⟨o, es, ep, k _ e, r⟩
theorem ns_ne {h : Heap} {L a C t : Addr} {m : Str → Option Value} (hn : h.Ns L m) (ha : h.get? a = some (HandSPX.excO C t)) : L ≠ a := by
  obtain ⟨o, es, ep, e, hd, _⟩ := hn
  intro z
  rw [z, ha] at e
  cases e
  cases hd
/-- def __init__(self, p): super().__init__(p); self.f = p -/
theorem init1 {s : Shared} {R : Result → Shared → Prop} {a t0 : Addr} {u : Value} {x0 x1 f1 : Str} {ar : Arg} {p0 p1 p2 p3 p4 p5 p6 q1 q2 q3 : Pos} {plv : Sem Bool}
    (S : SupC P K C fI qual st) (X : K.In s.heap) (hg : s.heap.Ns mainGlobals mg) (hb : s.heap.Ns builtinsNs mb) (hms : mg "super" = none) (hbs : mb "super" = some (.type "super")) (lim : s.heap.NoLimit) (hroom : A.depth < recursionLimit)
    (ha : s.heap.get? a = some (HandSPX.excO C t0))
    (hbody : defBody st = [.Expr (.Call (.Attribute (.Call (.Name "super" p0) [] [] p1) "__init__" p2) [.Name x1 q1] [] p3) p4, .Assign [.Attribute (.Name x0 q2) f1 p5] (.Name x1 q3) p6])
    (hpar : ((defArgs st).posonlyargs ++ (defArgs st).args).head? = some ar) (har : ar.arg = x0) (hx : x0 ≠ x1) (hd0 : (x0 == ("__debug__" : Str)) = false) (hd1 : (x1 == ("__debug__" : Str)) = false)
    (hbind : ∀ (kV doc pm : Value) (an : Option Addr) (cdv ct : Value) (cc : Addr) (us : List Value), us.length = 2 → bindArgs (ksFn "__init__" qual (defArgs st) (defBody st) (defScope st) .none kV doc pm an cdv ct cc) ⟨us, []⟩ = pure ([x0, x1].zip us))
    (hks : (defScope st).names.lookup ("super" : Str) = some .globalImplicit) (hkc : (defScope st).names.lookup ("__class__" : Str) = some .free) (hk0 : (defScope st).names.lookup x0 = some .local) (hk1 : (defScope st).names.lookup x1 = some .local) (hk : (defScope st).kind = .function)
    (hcell : ∀ x ∈ (defScope st).names, x.2 ≠ .cell) (hco : (defScope st).isCoroutine = false) (hgen : (defScope st).isGenerator = false)
    (hno : PySem.W.findIn K (.ref C) f1 = some none) (hKa : K.lookup a = none)
    (hint : ∀ (L cda cc : Addr), interactive (ksEnv qual (defScope st) L fI (.ref cda) cc) = false) (hsw1 : ∀ (L cda cc : Addr), swapsWith (.Call (.Attribute (.Call (.Name "super" p0) [] [] p1) "__init__" p2) [.Name x1 q1] [] p3) none p4.line (ksEnv qual (defScope st) L fI (.ref cda) cc) = pure false)
    (hsw2 : ∀ (L cda cc : Addr), swapsWith (.Name x1 q3) (some (.Attribute (.Name x0 q2) f1 p5)) p6.line (ksEnv qual (defScope st) L fI (.ref cda) cc) = pure false)
    (he : ∀ env : Env, env.scope = defScope st → eval (.Call (.Attribute (.Call (.Name "super" p0) [] [] p1) "__init__" p2) [.Name x1 q1] [] p3) env = (do
      let ov ← attributeBase (.Call (.Name "super" p0) [] [] p1) "__init__" env (eval (.Call (.Name "super" p0) [] [] p1) env)
      standAt p2.atName
      let (f, first) ← holding [ov] (getMethod ov "__init__" plv)
      callWith p3 f first (backTo p3 (starEach [.Name x1 q1] env)) []))
    (hq : ∀ h' t1 tk' dx, (∀ b o, b ≠ a → s.heap.get? b = some o → h'.get? b = some o) → s.heap.objs.size ≤ dx → dx ≠ a → h'.get? a = some { cls := .ref C, dict := some dx, data := .fields #[.ref t1, .none, .none, .none, .bool false, .none] } →
      h'.Ns1 dx (fun y => if y = f1 then some u else none) → R (.ok (.ret .none)) { s with heap := h', toks := tk' }) :
    codeAny (model P w) A (.call (.ref fI) ⟨[.ref a, u], []⟩) R s := by
  obtain ⟨oc, kV, doc, pm, ct, ccl, cl, od, an, cdd, cld, osl, ccs, csl, cda, cc, vs, file, tf, lk, hcd, hcda, hvs, hfile, hcc⟩ := S.ex
  obtain ⟨nm, q, N, bs, bm, sn, sub, ab, col, dd, k0, k1, k2, k3, k5, hC, hbm⟩ := S.T.cls
  have hcl : PySem.W.clsIn K C = some { name := nm, bases := bs, mro := .ref C :: bm, ns := N, qualname := q, hasDict := true, slotNames := sn, subclasses := sub, abstract := ab, collection := col, hasDel := false } := by unfold PySem.W.clsIn; rw [hC] <;> rfl
  have hbd := hbind kV doc pm an (.ref cda) ct cc [.ref a, u] rfl
  refine ks_codeAny_call_defAt (fd := ksFn "__init__" qual (defArgs st) (defBody st) (defScope st) .none kV doc pm an (.ref cda) ct cc) (body := defBody st) (binds := [(x0, .ref a), (x1, u)]) hroom (X _ _ lk) rfl lim (PySem.W.codeRec_of X hcd) rfl (.of_eq hbd) hcell ?_ (fun h1 hns hk1' => ?_) hco hgen hk
  · intro y hy
    simp only [List.mem_cons, List.not_mem_nil, or_false] at hy
    rcases hy with rfl | rfl
    · exact hk0
    · exact hk1
  have X1 : K.In h1 := fun b o e => hk1' _ _ (X b o e)
  have hm0 : ([(x0, Value.ref a), (x1, u)].reverse.lookup x0) = some (.ref a) := by
    have : (x0 == x1) = false := beq_eq_false_iff_ne.mpr hx
    simp [List.lookup, this]
  have hm1 : ([(x0, Value.ref a), (x1, u)].reverse.lookup x1) = some u := by simp [List.lookup]
  generalize hL : s.heap.objs.size = L at hns
  have ha1 := hk1' _ _ ha
  obtain ⟨hp, g, d, tk, os⟩ := s
  show PySem.wpAt (model P w) _ (.func (defBody st) (ksEnv qual (defScope st) L fI (.ref cda) cc)) (execs (defBody st) (ksEnv qual (defScope st) L fI (.ref cda) cc)) _ _ ⟨h1, g, d, _, os⟩
  generalize hbd2 : Code.func (defBody st) (ksEnv qual (defScope st) L fI (.ref cda) cc) = code
  rw [hbody]
  have kof : ∀ y, (ksEnv qual (defScope st) L fI (.ref cda) cc).kindOf y = (defScope st).names.lookup y := fun _ => rfl
  refine ks_wpAt_execs_cons (ks_wpAt_Expr_any ?_ (hint _ _ _) (hsw1 _ _ _))
  rw [← hbd2]
  refine sup_expr (m := fun y => [(x0, Value.ref a), (x1, u)].reverse.lookup y) (u := u) (us := []) S X1 (hg.keeps hk1') (hb.keeps hk1') hms hbs hns lk hpar hcda hvs hfile hcc hks hkc (by rw [har]; exact hk0) hk (by rw [har]; exact hm0) ha1 (by show 1 ≤ _; decide) (fun h2 tk2 Q E hn2 q => ?_) (he _ rfl) rfl rfl (fun h2 t2 tk2 kk2 ha2 => ?_)
  · refine spliced_cons (wpAny_Name (wpAny_loadName_local hk hk1 hn2 hm1 (spliced_nil q)) hd1)
  · have hLa : L ≠ a := ns_ne hns ha1
    have hn2 : h2.Ns L (fun y => [(x0, Value.ref a), (x1, u)].reverse.lookup y) := ns_at hns fun o e => kk2 _ _ hLa e
    have X2 : K.In h2 := fun b o e => by
      refine kk2 _ _ (fun z => ?_) (X1 b o e)
      rw [z, hKa] at e
      cases e
    refine ks_wpAt_execs_cons (wpAt_of_wpAny (plainObj_wpAny_Assign_Attribute ?_ (hsw2 _ _ _)))
    refine wpAny_Name (wpAny_loadName_local hk hk1 hn2 hm1 ?_) hd1
    refine wpAny_Name (wpAny_loadName_local hk hk0 hn2 hm0 ?_) hd0
    refine PySem.W.set_plain X2 (ox := HandSPX.excO C t2) (od := none) ⟨ha2, rfl, rfl, trivial⟩ S.T.sa ?_
    refine PySem.HandSPX.exc_osa X2 ha2 hcl (show PySem.HandSPX.refsVE (.ref C :: bm) = true from hbm) rfl hno (fun h3 tk3 dx k3 dn dne hx hn3 => ?_)
    refine wpAt_of_wpAny (wpAny_execs_nil ?_)
    refine hq h3 t2 tk3 dx (fun b o hb0 e => k3 _ _ hb0 (kk2 _ _ hb0 (hk1' _ _ e))) ?_ dne hx hn3
    obtain ⟨o, _, _, e, _⟩ := hn2
    rw [hL]
    exact Nat.le_trans (Nat.le_of_lt (Heap.lt_size e)) dn
/-- def __init__(self, p, q): super().__init__(p, q); self.f = p; self.g = q -/
theorem init2 {s : Shared} {R : Result → Shared → Prop} {a t0 : Addr} {u u2 : Value} {x0 x1 x2 f1 f2 : Str} {ar : Arg} {p0 p1 p2 p3 p4 p5 p6 p7 p8 q1 q2 q3 q4 q5 q6 : Pos} {plv : Sem Bool}
    (S : SupC P K C fI qual st) (X : K.In s.heap) (hg : s.heap.Ns mainGlobals mg) (hb : s.heap.Ns builtinsNs mb) (hms : mg "super" = none) (hbs : mb "super" = some (.type "super")) (lim : s.heap.NoLimit) (hroom : A.depth < recursionLimit)
    (ha : s.heap.get? a = some (HandSPX.excO C t0))
    (hbody : defBody st = [.Expr (.Call (.Attribute (.Call (.Name "super" p0) [] [] p1) "__init__" p2) [.Name x1 q1, .Name x2 q4] [] p3) p4, .Assign [.Attribute (.Name x0 q2) f1 p5] (.Name x1 q3) p6, .Assign [.Attribute (.Name x0 q5) f2 p7] (.Name x2 q6) p8])
    (hpar : ((defArgs st).posonlyargs ++ (defArgs st).args).head? = some ar) (har : ar.arg = x0) (hx : x0 ≠ x1) (hx2 : x0 ≠ x2) (hx12 : x1 ≠ x2) (hd0 : (x0 == ("__debug__" : Str)) = false) (hd1 : (x1 == ("__debug__" : Str)) = false) (hd2 : (x2 == ("__debug__" : Str)) = false)
    (hbind : ∀ (kV doc pm : Value) (an : Option Addr) (cdv ct : Value) (cc : Addr) (us : List Value), us.length = 3 → bindArgs (ksFn "__init__" qual (defArgs st) (defBody st) (defScope st) .none kV doc pm an cdv ct cc) ⟨us, []⟩ = pure ([x0, x1, x2].zip us))
    (hks : (defScope st).names.lookup ("super" : Str) = some .globalImplicit) (hkc : (defScope st).names.lookup ("__class__" : Str) = some .free) (hk0 : (defScope st).names.lookup x0 = some .local) (hk1 : (defScope st).names.lookup x1 = some .local) (hk2 : (defScope st).names.lookup x2 = some .local) (hk : (defScope st).kind = .function)
    (hcell : ∀ x ∈ (defScope st).names, x.2 ≠ .cell) (hco : (defScope st).isCoroutine = false) (hgen : (defScope st).isGenerator = false)
    (hno : PySem.W.findIn K (.ref C) f1 = some none) (hno2 : PySem.W.findIn K (.ref C) f2 = some none) (hKa : K.lookup a = none)
    (hint : ∀ (L cda cc : Addr), interactive (ksEnv qual (defScope st) L fI (.ref cda) cc) = false) (hsw1 : ∀ (L cda cc : Addr), swapsWith (.Call (.Attribute (.Call (.Name "super" p0) [] [] p1) "__init__" p2) [.Name x1 q1, .Name x2 q4] [] p3) none p4.line (ksEnv qual (defScope st) L fI (.ref cda) cc) = pure false)
    (hsw2 : ∀ (L cda cc : Addr), swapsWith (.Name x1 q3) (some (.Attribute (.Name x0 q2) f1 p5)) p6.line (ksEnv qual (defScope st) L fI (.ref cda) cc) = pure false)
    (hsw3 : ∀ (L cda cc : Addr), swapsWith (.Name x2 q6) (some (.Attribute (.Name x0 q5) f2 p7)) p8.line (ksEnv qual (defScope st) L fI (.ref cda) cc) = pure false)
    (he : ∀ env : Env, env.scope = defScope st → eval (.Call (.Attribute (.Call (.Name "super" p0) [] [] p1) "__init__" p2) [.Name x1 q1, .Name x2 q4] [] p3) env = (do
      let ov ← attributeBase (.Call (.Name "super" p0) [] [] p1) "__init__" env (eval (.Call (.Name "super" p0) [] [] p1) env)
      standAt p2.atName
      let (f, first) ← holding [ov] (getMethod ov "__init__" plv)
      callWith p3 f first (backTo p3 (starEach [.Name x1 q1, .Name x2 q4] env)) []))
    (hq : ∀ h' t1 tk' dx, (∀ b o, b ≠ a → s.heap.get? b = some o → h'.get? b = some o) → s.heap.objs.size ≤ dx → dx ≠ a → h'.get? a = some { cls := .ref C, dict := some dx, data := .fields #[.ref t1, .none, .none, .none, .bool false, .none] } →
      h'.Ns1 dx (fun y => if y = f2 then some u2 else if y = f1 then some u else none) → R (.ok (.ret .none)) { s with heap := h', toks := tk' }) :
    codeAny (model P w) A (.call (.ref fI) ⟨[.ref a, u, u2], []⟩) R s := by
  obtain ⟨oc, kV, doc, pm, ct, ccl, cl, od, an, cdd, cld, osl, ccs, csl, cda, cc, vs, file, tf, lk, hcd, hcda, hvs, hfile, hcc⟩ := S.ex
  obtain ⟨nm, q, N, bs, bm, sn, sub, ab, col, dd, k0, k1, k2, k3, k5, hC, hbm⟩ := S.T.cls
  have hcl : PySem.W.clsIn K C = some { name := nm, bases := bs, mro := .ref C :: bm, ns := N, qualname := q, hasDict := true, slotNames := sn, subclasses := sub, abstract := ab, collection := col, hasDel := false } := by unfold PySem.W.clsIn; rw [hC] <;> rfl
  have hbd := hbind kV doc pm an (.ref cda) ct cc [.ref a, u, u2] rfl
  refine ks_codeAny_call_defAt (fd := ksFn "__init__" qual (defArgs st) (defBody st) (defScope st) .none kV doc pm an (.ref cda) ct cc) (body := defBody st) (binds := [(x0, .ref a), (x1, u), (x2, u2)]) hroom (X _ _ lk) rfl lim (PySem.W.codeRec_of X hcd) rfl (.of_eq hbd) hcell ?_ (fun h1 hns hk1' => ?_) hco hgen hk
  · intro y hy
    simp only [List.mem_cons, List.not_mem_nil, or_false] at hy
    rcases hy with rfl | rfl | rfl
    · exact hk0
    · exact hk1
    · exact hk2
  have X1 : K.In h1 := fun b o e => hk1' _ _ (X b o e)
  have hm0 : ([(x0, Value.ref a), (x1, u), (x2, u2)].reverse.lookup x0) = some (.ref a) := by
    have h1 : (x0 == x1) = false := beq_eq_false_iff_ne.mpr hx
    have h2 : (x0 == x2) = false := beq_eq_false_iff_ne.mpr hx2
    simp [List.lookup, h1, h2]
  have hm1 : ([(x0, Value.ref a), (x1, u), (x2, u2)].reverse.lookup x1) = some u := by
    have h2 : (x1 == x2) = false := beq_eq_false_iff_ne.mpr hx12
    simp [List.lookup, h2]
  have hm2 : ([(x0, Value.ref a), (x1, u), (x2, u2)].reverse.lookup x2) = some u2 := by simp [List.lookup]
  generalize hL : s.heap.objs.size = L at hns
  have ha1 := hk1' _ _ ha
  obtain ⟨hp, g, d, tk, os⟩ := s
  show PySem.wpAt (model P w) _ (.func (defBody st) (ksEnv qual (defScope st) L fI (.ref cda) cc)) (execs (defBody st) (ksEnv qual (defScope st) L fI (.ref cda) cc)) _ _ ⟨h1, g, d, _, os⟩
  generalize hbd2 : Code.func (defBody st) (ksEnv qual (defScope st) L fI (.ref cda) cc) = code
  rw [hbody]
  have kof : ∀ y, (ksEnv qual (defScope st) L fI (.ref cda) cc).kindOf y = (defScope st).names.lookup y := fun _ => rfl
  refine ks_wpAt_execs_cons (ks_wpAt_Expr_any ?_ (hint _ _ _) (hsw1 _ _ _))
  rw [← hbd2]
  refine sup_expr (m := fun y => [(x0, Value.ref a), (x1, u), (x2, u2)].reverse.lookup y) (u := u) (us := [u2]) S X1 (hg.keeps hk1') (hb.keeps hk1') hms hbs hns lk hpar hcda hvs hfile hcc hks hkc (by rw [har]; exact hk0) hk (by rw [har]; exact hm0) ha1 (by show 2 ≤ _; decide) (fun h2 tk2 Q E hn2 q => ?_) (he _ rfl) rfl rfl (fun h2 t2 tk2 kk2 ha2 => ?_)
  · refine spliced_cons (wpAny_Name (wpAny_loadName_local hk hk1 hn2 hm1 (spliced_cons (wpAny_Name (wpAny_loadName_local hk hk2 hn2 hm2 (spliced_nil q)) hd2))) hd1)
  · have hLa : L ≠ a := ns_ne hns ha1
    have hn2 : h2.Ns L (fun y => [(x0, Value.ref a), (x1, u), (x2, u2)].reverse.lookup y) := ns_at hns fun o e => kk2 _ _ hLa e
    have X2 : K.In h2 := fun b o e => by
      refine kk2 _ _ (fun z => ?_) (X1 b o e)
      rw [z, hKa] at e
      cases e
    refine ks_wpAt_execs_cons (wpAt_of_wpAny (plainObj_wpAny_Assign_Attribute ?_ (hsw2 _ _ _)))
    refine wpAny_Name (wpAny_loadName_local hk hk1 hn2 hm1 ?_) hd1
    refine wpAny_Name (wpAny_loadName_local hk hk0 hn2 hm0 ?_) hd0
    refine PySem.W.set_plain X2 (ox := HandSPX.excO C t2) (od := none) ⟨ha2, rfl, rfl, trivial⟩ S.T.sa ?_
    refine PySem.HandSPX.exc_osa X2 ha2 hcl (show PySem.HandSPX.refsVE (.ref C :: bm) = true from hbm) rfl hno (fun h3 tk3 dx k3 dn dne hx hn3 => ?_)
    have hLb : L ≠ dx := fun z => by
      obtain ⟨o, _, _, e, _⟩ := hn2
      have := Heap.lt_size e
      rw [z] at this
      exact absurd (Nat.lt_of_lt_of_le this dn) (Nat.lt_irrefl _)
    have hn3' : h3.Ns L (fun y => [(x0, Value.ref a), (x1, u), (x2, u2)].reverse.lookup y) := ns_at hn2 fun o e => k3 _ _ hLa e
    have X3 : K.In h3 := fun b o e => by
      refine k3 _ _ (fun z => ?_) (X2 b o e)
      rw [z, hKa] at e
      cases e
    refine ks_wpAt_execs_cons (wpAt_of_wpAny (plainObj_wpAny_Assign_Attribute ?_ (hsw3 _ _ _)))
    refine wpAny_Name (wpAny_loadName_local hk hk2 hn3' hm2 ?_) hd2
    refine wpAny_Name (wpAny_loadName_local hk hk0 hn3' hm0 ?_) hd0
    obtain ⟨oD, _, _, hoD, _⟩ := id hn3
    have hw : Within (fun y => if y = f1 then some u else none) [f1] := fun y hy => by
      by_cases z : y = f1
      · rw [z]; exact List.mem_singleton.mpr rfl
      · exact absurd (if_neg z) hy
    refine PySem.W.set_plain X3 (od := some oD) ⟨hx, rfl, rfl, hoD⟩ S.T.sa ?_
    refine PySem.OEX.osa_old X3 hx hn3 hw (show 1 ≤ 1000 by decide) hcl (show PySem.HandSPX.refsVE (.ref C :: bm) = true from hbm) rfl hno2 (fun h4 tk4 k4 hn4 => ?_)
    refine wpAt_of_wpAny (wpAny_execs_nil ?_)
    have hsz : hp.objs.size ≤ dx := by
      obtain ⟨o, _, _, e, _⟩ := hn2
      rw [hL]
      exact Nat.le_trans (Nat.le_of_lt (Heap.lt_size e)) dn
    refine hq h4 t2 tk4 dx (fun b o hb0 e => k4 _ _ (fun z => ?_) (k3 _ _ hb0 (kk2 _ _ hb0 (hk1' _ _ e)))) hsz dne (k4 _ _ (Ne.symm dne) hx) hn4
    rw [z] at e
    exact absurd (Nat.lt_of_lt_of_le (Heap.lt_size e) hsz) (Nat.lt_irrefl _)
end
/-- C(e, ..): a new exception whose dict holds fs at the arguments -/
def tSup (C : Addr) (fs : List Str) (ta : TA) : L2.St → Hp → XK → Prop := fun σ H Q => ta σ H fun vs H1 => vs.length = fs.length ∧ ∀ d, H1 d = none → Q (.ref C) (some d) (upd H1 d (.xd (fs.zip vs).reverse))
section
variable {X : Cx} {C fI : Addr} {qual : Str} {st : Stmt} {e : Expr} {es : List Expr} {ta : TA} {x : Str} {p pos : Pos}
/-- the heap behind the __init__ -/
theorem sup_un {fsx : List Addr} {H : Hp} {hp h' : Heap} {a dx t1 : Addr} {fs : List (Str × V)} {mA : Str → Option Value} {g : Array GenState} {P : Program} {w : World} (hok : HOk P w H hp) (e : H a = some (exo a C none)) (k : ∀ b o, b ≠ a → hp.get? b = some o → h'.get? b = some o) (dn : hp.objs.size ≤ dx) (dne : dx ≠ a)
    (hx : h'.get? a = some { cls := .ref C, dict := some dx, data := .fields #[.ref t1, .none, .none, .none, .bool false, .none] }) (hn : h'.Ns1 dx mA) (rel : ∀ f, RelO (fs.lookup f) (mA f)) :
    Un fsx [] H (upd (upd H dx (exd dx fs)) a (exo a C (some dx))) hp h' ∧ HOk P w (upd (upd H dx (exd dx fs)) a (exo a C (some dx))) h' := by
  have hnd : H dx = none := hok.fresh dn
  have nd : ∀ {b : Addr} {o : Obj}, hp.get? b = some o → b ≠ dx := fun {b o} q => Nat.ne_of_lt (Nat.lt_of_lt_of_le (Heap.lt_size q) dn)
  have na : ∀ {b : Addr}, H b = none → b ≠ a := fun {b} n z => by
    rw [z, e] at n
    cases n
  refine ⟨{
    keep := fun b o q n _ _ => k b o (na n) q
    slot := fun b o q n _ _ => ⟨o.slots, k b o (na n) q⟩
    free := fun b o q n _ => by rw [upd_ne (na n), upd_ne (nd q)]; exact n
    there := fun b o q _ => by
      by_cases hb : b = a
      · exact ⟨_, by rw [hb]; exact hx⟩
      · exact ⟨o, k b o hb q⟩
    tups := fun b xs q => by rw [upd_ne (at_ne e q exo_tup), upd_ne (ne_of_none q hnd)]; exact q
    frzs := fun b o v q => by rw [upd_ne (at_ne e q exo_frz), upd_ne (ne_of_none q hnd)]; exact q
    tbls := fun b ps q => ⟨#[], by rw [upd_ne (at_ne e q exo_tbl), upd_ne (ne_of_none q hnd), q]; simp⟩ }, fun b o q => ?_⟩
  by_cases hb : b = a
  · subst hb
    rw [upd_same] at q
    cases q
    exact exo_ok hx
  · rw [upd_ne hb] at q
    by_cases hd : b = dx
    · subst hd
      rw [upd_same] at q
      cases q
      exact exd_ok hn rel
    · rw [upd_ne hd] at q
      exact (hok b o q).stay (fun c v hc z => k c v (by
          rcases hc with hc | hc
          · rw [hc]
            exact hb
          · exact at_ne e hc exo_own) z)
        (fun c hc => by rw [upd_ne (at_ne e hc exo_own), upd_ne (ne_of_none hc hnd)]; exact hc) (fun c xs hc => by rw [upd_ne (at_ne e hc exo_tup), upd_ne (ne_of_none hc hnd)]; exact hc)
theorem pmk_sup {fs : List Str} (S : SupC X.prog X.K C fI qual st)
    (hinit : ∀ (us : List Value) (vs : List V) (A : Around) (s : Shared) (R : Result → Shared → Prop) (a t0 : Addr), Vals vs us → vs.length = fs.length → X.K.In s.heap → s.heap.Ns mainGlobals X.mg → (∃ mb, s.heap.Ns builtinsNs mb ∧ ∀ x : Str, x ≠ "__name__" → mb x = bootBuiltins x) → s.heap.NoLimit → A.depth < recursionLimit →
      s.heap.get? a = some (HandSPX.excO C t0) → X.K.lookup a = none →
      (∀ h' t1 tk' dx mA, (∀ b o, b ≠ a → s.heap.get? b = some o → h'.get? b = some o) → s.heap.objs.size ≤ dx → dx ≠ a → h'.get? a = some { cls := .ref C, dict := some dx, data := .fields #[.ref t1, .none, .none, .none, .bool false, .none] } →
        h'.Ns1 dx mA → (∀ f, RelO ((fs.zip vs).reverse.lookup f) (mA f)) → R (.ok (.ret .none)) { s with heap := h', toks := tk' }) → codeAny (model X.prog X.w) A (.call (.ref fI) ⟨.ref a :: us, []⟩) R s)
    (hr : Room 1 X.A) (hfs : fs.length ≤ 100) (hg : Gl X x) (hm : X.mg x = some (.ref C)) (ha : PA X (e :: es) ta)
    (hdb : (x == ("__debug__" : Str)) = false := by decide) (he : starEach (e :: es) X.env = (false, eval e X.env) :: starEach es X.env := by rfl) (hpl : (backTo pos (starEach es X.env)).any (·.1) = false := by rfl) :
    PMk X (.Call (.Name x p) (e :: es) [] pos) (tSup C fs ta) := by
  intro pins s σ H Q I h
  obtain ⟨nm, q, N, bs, bm, sn, sub, ab, col, dd, k0, k1, k2, k3, k5, hC, hbm⟩ := S.T.cls
  refine wpAny_Call_Name_kw (ld_glob I hg hm ?_ hdb)
  refine PySem.W.callWith_K (h₀ := X.base) I.ok.mod.kin S.T.kC (thn (ha.run pos pins s σ H _ I h) fun us s1 ⟨vs, H1, I1, r1, hz, q1⟩ => ⟨I1.kIn, ?_⟩) he hpl
  show wpAny _ _ (call (.ref C) us) _ _ _
  have lim : s1.heap.NoLimit := I1.nolimit
  have bk := I1.bk
  have blt : ∃ mb, s1.heap.Ns builtinsNs mb ∧ ∀ x : Str, x ≠ "__name__" → mb x = bootBuiltins x := by
    obtain ⟨mb, h1, h2⟩ := I1.ok.mod.blt
    exact ⟨mb, h1.keeps bk, h2⟩
  have glb := I1.ok.mod.glob.keeps bk
  obtain ⟨hp, g, dr, tk, os⟩ := s1
  have hsz : hp.objs.size ≤ hp.objs.size + 1 := Nat.le_succ _
  have hn : H1 (hp.objs.size + 1) = none := I1.hok.fresh hsz
  have kk : ∀ b o, hp.get? b = some o → ((hp.push (PySem.W.kdv_tup us)).push (PySem.HandSPX.excO C hp.objs.size)).get? b = some o := fun b o e => Heap.get?_push_of_some _ (Heap.get?_push_of_some _ e)
  have hget : ((hp.push (PySem.W.kdv_tup us)).push (PySem.HandSPX.excO C hp.objs.size)).get? (hp.objs.size + 1) = some (PySem.HandSPX.excO C hp.objs.size) := by heap_get
  have I2 : L2.Inv X pins σ (upd H1 (hp.objs.size + 1) (exo (hp.objs.size + 1) C none)) ⟨(hp.push (PySem.W.kdv_tup us)).push (PySem.HandSPX.excO C hp.objs.size), g, dr, tk, os⟩ :=
    I1.laid (t' := tk) (a := hp.objs.size + 1) (o := exo (hp.objs.size + 1) C none) (h' := (hp.push (PySem.W.kdv_tup us)).push (PySem.HandSPX.excO C hp.objs.size)) kk hsz (exo_ok hget)
  have hus : us.length ≤ sizeLine := by
    rw [← Paired.length r1, sizeLine_eq]
    omega
  have hKa : X.K.lookup (hp.objs.size + 1) = none := by
    cases z : X.K.lookup (hp.objs.size + 1) with
    | none => rfl
    | some o =>
      have := Heap.lt_size (I1.kIn _ _ z)
      exact absurd (Nat.lt_of_lt_of_le this hsz) (Nat.lt_irrefl _)
  refine wpAny_call (PySem.HandSPX.call_own F.excBase_ValueError (fun Y => PySem.HandSPX.refsVE_contains Y bm hbm) (I1.kIn _ _ hC) (PySem.W.looks_findIn I1.kIn S.iC) (fun self => PySem.W.bind_fn I1.kIn self S.tI) hus
    (hinit us vs _ _ _ _ _ r1 hz I2.kIn (glb.keeps kk) (by obtain ⟨mb, h1, h2⟩ := blt; exact ⟨mb, h1.keeps kk, h2⟩) (lim.keeps kk) (by have := hr.dp; rw [make_depth]; omega) hget hKa fun h' t1 tk' dx mA k dn dne hx hns rel => ?_))
  obtain ⟨un2, hok2⟩ := sup_un (fsx := frs X.stack) (g := g) I2.hok upd_same k dn dne hx hns rel
  have hd1 : H1 dx = none := I1.hok.fresh (Nat.le_trans (by show hp.objs.size ≤ ((hp.push _).push _).objs.size; rw [Heap.size_push, Heap.size_push]; omega) dn)
  refine ⟨rfl, mk_end (fs := (fs.zip vs).reverse) (raises_own S.T.exC S.T.tyC) I1 hsz kk un2 hok2 rfl I1.bare upd_same ?_ hd1 ?_⟩
  · rw [upd_ne dne, upd_same]
  · have e1 : upd (del (upd (upd (upd H1 (hp.objs.size + 1) (exo (hp.objs.size + 1) C none)) dx (exd dx (fs.zip vs).reverse)) (hp.objs.size + 1) (exo (hp.objs.size + 1) C (some dx))) (hp.objs.size + 1)) dx (.xd (fs.zip vs).reverse) = upd H1 dx (.xd (fs.zip vs).reverse) := by
      funext b
      by_cases hb : b = dx
      · rw [hb, upd_same, upd_same]
      · rw [upd_ne hb, upd_ne hb]
        by_cases hb2 : b = hp.objs.size + 1
        · rw [hb2, del_same, hn]
        · rw [del_ne hb2, upd_ne hb2, upd_ne hb, upd_ne hb2]
    rw [e1]
    exact q1 dx hd1
end
end SX
end
section
set_option maxHeartbeats 4000000
/-! FJ: +, slices whatever the side; name = [..]; a, b = [..], e; defs as callers see them; a law's end. -/
namespace FL
open PySem PySem.Spec PyProof.Rows L2 DL RZ

/-! ### a value, or a new list that stands still -/
def tFrzO (t : TE) : TE := fun σ H Q => t σ H fun v H' => Q v H' ∨ ∃ d u, v = .ref d ∧ H' d = some u ∧ Mut (some u) ∧ ∀ od, Q v (upd H' d (.frz od u))
section
variable {X : Cx}
theorem pe_frzO {e : Expr} {t : TE} (h : PE X e t) : PE X e (tFrzO t) := by
  refine ⟨fun pins s σ H Q I hw => thn (h.run pins s σ _ _ I hw) fun v s1 ⟨x, H1, I2, r, q⟩ => ?_⟩
  rcases q with q | ⟨d, u, _, hd, mu, q⟩
  · exact ⟨x, _, I2, r, q⟩
  · obtain ⟨od, I3⟩ := I2.lock hd mu
    exact ⟨x, _, I3, r, q od⟩
theorem opR_or {f : Value → Value → Sem Value} {r r' : R2} (h : OpR X f r) (h' : OpR X f r') : OpR X f (fun x y H Q => r x y H Q ∨ r' x y H Q) := fun pins s σ H x y v u Q I r1 r2 q => q.elim (h pins s σ H x y v u Q I r1 r2) (h' pins s σ H x y v u Q I r1 r2)
end
section
variable {K : PySem.W.Frag} {S ρ : Type} {X : Cx} {C : FE K S} {G : FG} {F : Fam S ρ} {rest : List Stmt} {su : TS} {a b c e : Expr} {sta stb stc ste : TE} {ma mb mc me : Cd S D} {es : List Expr} {str : TA} {mr : Cd S (List D)} {pos : Pos}
/-- a new list, frozen at once -/
theorem Now.frzL {σ : L2.St} {H : Hp} {B : Mp} {s : S} {vs : List V} {l : List D} {p : Addr} (n : Now C σ H G B s) (hp : H p = none) (r : Reps K H vs l) (od : Obj) : KT H (upd (upd H p (.lst vs)) p (.frz od (.lst vs))) ∧ Now C σ (upd (upd H p (.lst vs)) p (.frz od (.lst vs))) G B s ∧ Rep K (upd (upd H p (.lst vs)) p (.frz od (.lst vs))) (.ref p) (.fl l) := by
  obtain ⟨hd, hb, hf, k1, n1⟩ := n.newL hp r
  have g1 : upd H p (.lst vs) p = some (.lst vs) := upd_same
  have kt : KT (upd H p (.lst vs)) (upd (upd H p (.lst vs)) p (.frz od (.lst vs))) := KT.lst g1
  have hB : mdel (mupd B p (.lst l)) p = B := by
    funext a
    by_cases e : a = p
    · subst e; rw [mdel_same, hb]
    · rw [mdel_ne e, mupd_ne e]
  refine ⟨k1.trans kt, ⟨n1.len, fun i d h => ?_, fun i o h => n.owns i o h, n1.dist, fun a o e => n.sub a o e, ?_, ?_⟩, .fl (.inl ⟨od, upd_same⟩) (r.kt (k1.trans kt))⟩
  · obtain ⟨w, h1, h2⟩ := n1.vals i d h
    exact ⟨w, h1, h2.kt kt⟩
  · rw [← hB, put_del hd]
    refine ⟨n1.rm.1.upd (fun ps z => by rw [g1] at z; cases z), fun a o e => ?_⟩
    have ha : a ≠ p := fun z => by subst z; rw [mdel_same] at e; cases e
    rw [mdel_ne ha] at e
    exact (n1.rm.2 a o e).kt kt (upd_ne ha)
  · rw [← hB, put_del hd]
    exact step_free n1.st hf fun a h => mdel_ne h
def addA (d e : D) : Option D := match d, e with
  | .fl a, .fl b => if a.length + b.length ≤ sizeLine then some (.fl (a ++ b)) else none
  | d, e => addD d e
theorem faddA {ro : R2} {o : O2} (ho : POp X K (binaryOp .Add) ro o) (im : Imp o addD) (ha : PF X C a sta G ma) (hb : PF X C b stb G mb) : PF X C (.BinOp a .Add b pos) (tFrzO (tOp (fun x y H Q => ro x y H Q ∨ rCatF K x y H Q) sta stb)) G (bindS ma fun x => bindS mb fun y => optS (addA x y)) := by
  have hK := ho.hK; subst hK
  refine ⟨rfl, pe_frzO (pe_op (opR_or ho.pe op_catF) ha.pe hb.pe), fun σ H B s Q n w => ha.se.seq n w fun x s1 v H1 k1 n1 r1 w1 => hb.se.seq n1 w1 fun y s2 u H2 k2 n2 r2 w2 => ?_⟩
  obtain ⟨z, e, q⟩ := wp_opt w2
  have r1 := r1.kt k2
  have old0 := fun (e : addD x y = some z) (R : VK) (hR : ∀ v' H', KT H2 H' → Now C σ H' G B s2 → Rep X.K H' v' z → R v' H') => ho.se v u x y H2 _ _ R r1 r2 n2.rm (im x y _ z e) (n2.lift hR)
  cases x with
  | fl as => cases y with
    | fl bs =>
      unfold addA at e
      dsimp only at e
      split at e
      · rename_i hl
        cases e
        cases r1 with
        | fl q1 t1 => cases r2 with
          | fl q2 t2 =>
            refine .inr ⟨_, _, _, _, rfl, rfl, .inl q1, .inl q2, by rw [t1.length, t2.length]; exact hl, fun p hp => .inr ⟨p, _, rfl, upd_same, trivial, fun od => ?_⟩⟩
            obtain ⟨k3, n3, r3⟩ := n2.frzL hp (t1.append t2) od
            exact q _ _ ((k1.trans k2).trans k3) n3 r3
      · cases e
    | _ => exact .inl (old0 e _ fun v' H' k3 n3 r3 => .inl (q v' H' ((k1.trans k2).trans k3) n3 r3))
  | _ => exact .inl (old0 e _ fun v' H' k3 n3 r3 => .inl (q v' H' ((k1.trans k2).trans k3) n3 r3))
/-- x[lo:hi] -/
def sliceA : D → Option Int → Option Int → Option D
  | .tup ds, lo, hi => some (.tup (cutD ds lo hi))
  | .fl ds, lo, hi => some (.fl (cutD ds lo hi))
  | _, _, _ => none
section
variable {lo hi : Option Expr} {stl sth : TO} {ml mh : Cd S (Option Int)} {p2 : Pos}
theorem fslA (he : PF X C e ste G me) (hl : PFO X C lo stl G ml) (hh : PFO X C hi sth G mh) : PF X C (.Subscript e (.Slice lo hi none p2) pos) (tFrzO (tSl (fun x lo hi H Q => rSlA K x lo hi H Q ∨ rSlL K x lo hi H Q) ste stl sth)) G (bindS me fun d => bindS ml fun i => bindS mh fun j => optS (sliceA d i j)) := by
  have hK := he.hK; subst hK
  refine ⟨rfl, pe_frzO (pe_slice (sl_tupA.or sl_list) he.pe hl.pe hh.pe), fun σ H B s Q n w => he.se.seq n w fun d s1 v H1 k1 n1 r1 w1 => hl.se.seq n1 w1 fun lo s2 H2 k2 n2 w2 => hh.se.seq n2 w2 fun hi s3 H3 k3 n3 w3 => ?_⟩
  obtain ⟨z, e, q⟩ := wp_opt w3
  cases d <;> first | cases e | skip
  · have r3 := (r1.kt k2).kt k3
    cases r3 with
    | @tup a0 vs0 _ q1 r =>
      have kk := (k1.trans k2).trans k3
      refine .inl ⟨_, _, rfl, q1, fun hw => .inl ?_, fun _ p hp => .inl ?_⟩
      · have e : ∀ {α : Type} (xs : List α), HT.sIx xs.length 0 lo = 0 → HT.sIx xs.length xs.length hi = xs.length → cutD xs lo hi = xs := fun xs a b => by
          unfold DL.cutD
          rw [a, b, List.drop_zero, Nat.sub_zero, List.take_length]
        rw [r.length] at hw
        refine q _ H3 kk n3 ?_
        rw [e _ hw.1 hw.2]
        exact .tup q1 r
      · have x := Same.new (o := HO.tup (cutV vs0 lo hi)) hp
        exact q _ _ (kk.trans (Same.kt x)) (n3.ext x) (.tup (SqT.of upd_same) ((cutD_reps r lo hi).kt (Same.kt x)))
  · have r3 := (r1.kt k2).kt k3
    cases r3 with
    | fl q1 r =>
      refine .inr ⟨_, _, rfl, q1.sq, fun p hp => .inr ⟨p, _, rfl, upd_same, trivial, fun od => ?_⟩⟩
      obtain ⟨k4, n4, r4⟩ := n3.frzL hp (cutD_reps r lo hi) od
      exact q _ _ (((k1.trans k2).trans k3).trans k4) n4 r4
end

/-! ### a new own list at a slot -/
theorem Now.setOwn {σ : L2.St} {H H1 : Hp} {B : Mp} {s s1 : S} {i : Nat} {p : Addr} {l : List D} (n : Now C σ H G B s) (hd : ¬ C.Z.dom p) (hb : B p = none) (hf : Fre C p) (n1 : Now C σ H1 G (mupd B p (.lst l)) s1) (hi3 : i < G.length) : Now C (σ.set i (some (.ref p))) H1 (sf G i (some (.own (.lst l)))) (mupd B p (.lst l)) s1 := by
  have hb0 := n.b0 hb
  refine ⟨by rw [List.length_set, sf_len]; exact n1.len, fun j e h => ?_, fun j w h => ?_, fun j k a b q q' hn h1 h2 h3 h4 => ?_, n1.sub, n1.rm, n1.st⟩
  · have hj : j ≠ i := fun e => by subst e; obtain ⟨z, _⟩ := gf_sf h; cases z
    rw [gf_sf_ne hj] at h
    obtain ⟨w, h1, h2⟩ := n1.vals j e h
    exact ⟨w, by rw [List.getElem?_set_ne (Ne.symm hj)]; exact h1, h2⟩
  · by_cases hj : j = i
    · subst hj
      obtain ⟨z, _⟩ := gf_sf h
      cases z
      exact ⟨p, by rw [List.getElem?_set_self (by rw [n.len]; exact hi3)], hd, mupd_same, hb0, hf⟩
    · rw [gf_sf_ne hj] at h
      obtain ⟨q, h1, h2⟩ := n1.owns j w h
      exact ⟨q, by rw [List.getElem?_set_ne (Ne.symm hj)]; exact h1, h2⟩
  · have far : ∀ (j : Nat) (a : MO) (q : Addr), j ≠ i → gf (sf G i (some (.own (.lst l)))) j = some (.own a) → (σ.set i (some (V.ref p)))[j]? = some (some (.ref q)) → gf G j = some (.own a) ∧ σ[j]? = some (some (.ref q)) ∧ q ≠ p := fun j a q hj h h' => by
      rw [gf_sf_ne hj] at h
      rw [List.getElem?_set_ne (Ne.symm hj)] at h'
      obtain ⟨q2, e1, _, e3, _⟩ := n.owns j a h
      rw [h'] at e1; cases e1
      exact ⟨h, h', fresh_ne hb e3⟩
    have new : ∀ q, (σ.set i (some (V.ref p)))[i]? = some (some (.ref q)) → q = p := fun q h => by
      rw [List.getElem?_set_self (by rw [n.len]; exact hi3)] at h
      cases h; rfl
    by_cases hj : j = i
    · subst hj
      rw [new q h3]
      exact (far k b q' (Ne.symm hn) h2 h4).2.2.symm
    · obtain ⟨g1, g3, g5⟩ := far j a q hj h1 h3
      by_cases hk : k = i
      · subst hk
        rw [new q' h4]
        exact g5
      · obtain ⟨g2, g4, _⟩ := far k b q' hk h2 h4
        exact n.dist j k a b q q' hn g1 g2 g3 g4
theorem se_setO {i : Nat} {ml : Cd S (List D)} {mk : List D → Cd S ρ} (hl : SimL C ste G ml) (hr : ∀ l, SimB C su (sf G i (some (.own (.lst l)))) F (mk l)) (hi2 : i < G.length) : SimB C (tSeq (tAsg ste (gName i)) su) G F (bindS ml mk) := fun σ H B s Ψ E n k w => hl.seq n w fun l s1 p H1 k1 hd hbb hf n1 w1 =>
  (hr l) _ H1 (mupd B p (.lst l)) s1 Ψ E (n.setOwn hd hbb hf n1 hi2) (k.step k1) w1
/-- name = [..] on one line -/
theorem fsetLc (i : Nat) {y : Str} {py spos : Pos} {elt tg iter : Expr} {ifs : List Expr} {scope : Scope} {own : List (Str × Nat)} {wi : TI} {sg : TG} {stt : TT} {mi : Cd S (List D)} {bd : D → Cd S (Option D)} {mk : List D → Cd S ρ} (hc : X.calm = true) (hN : X.N.Nodup) (hi : PFIP X C tg iter wi G mi) (ok : blkC X.N X.env.scope scope own = true) (pg : ∀ (s : Shared) (H : Hp) (A : Addr) (cl : List (Str × Addr)) (fp : List Addr), PG (X.blk s H scope (compEnvC scope cl A X.env) fp) tg sg)
    (hb : ∀ (s : Shared) (H : Hp) (A : Addr) (cl : List (Str × Addr)) (fp : List Addr) d, GOk C.nox sg d (killF G (own.map (·.2))) (own.map (·.2)) (bd d) (LcP (X.blk s H scope (compEnvC scope cl A X.env) fp) C.nox ifs stt elt ste))
    (hr : ∀ l, PFB X C rest su (sf G i (some (.own (.lst l)))) F (mk l)) (hi2 : Nat.blt i G.length = true := by rfl) (hy : X.N[i]? = some y := by rfl) (hyl : X.env.scope.names.lookup y = some .local := by rfl) (hs : ∀ x, foldedSetIterable iter X.env x = pure x := by intro _; rfl)
    (hsw : swapsWith (.ListComp elt [⟨tg, iter, ifs, 0⟩] scope pos) (some (.Name y py)) spos.line X.env = pure true := by rfl) :
    PFB X C (.Assign [.Name y py] (.ListComp elt [⟨tg, iter, ifs, 0⟩] scope pos) spos :: rest) (tSeq (tAsg (tLc wi sg stt ste (own.map (·.2))) (gName i)) su) G F (bindS (bindS mi fun items => lcS bd items []) mk) :=
  ⟨hi.hK, pss_cons (pss_setLc hc hN hi ok pg hb hs hy hyl hsw) (hr []).pe, se_setO (se_lc hi.se (hb X.s_0 (fun _ => none) 0 [] [])) (fun l => (hr l).se) (Nat.le_of_ble_eq_true hi2)⟩
/-- a, b = [..], e -/
theorem fparO (i j : Nat) {x y : Str} {ml : Cd S (List D)} {mk : List D → D → Cd S ρ} {px py pt : Pos} {kt k2 pt2} (hc : X.calm = true) (hN : X.N.Nodup) (ha : PFL X C a sta G ml) (hb : PF X C b stb G mb) (hr : ∀ l e, PFB X C rest su (sf (sf G i (some (.own (.lst l)))) j (some (.val e))) F (mk l e))
    (hi2 : Nat.blt i G.length = true := by rfl) (hj2 : Nat.blt j G.length = true := by rfl) (hi : X.N[i]? = some x := by rfl) (hj : X.N[j]? = some y := by rfl) (hij : i ≠ j := by decide)
    (hx : X.env.scope.names.lookup x = some .local := by rfl) (hy : X.env.scope.names.lookup y = some .local := by rfl)
    (hw : swappedStores [.Tuple [.Name x px, .Name y py] kt pt] (.Tuple [a, b] k2 pt2) X.env = pure (some [x, y]) := by rfl)
    (hs : swapsWithSole [.Tuple [.Name x px, .Name y py] kt pt] (.Tuple [a, b] k2 pt2) pos.line X.env = pure false := by rfl)
    (hs1 : starEach [a, b] X.env = (false, eval a X.env) :: starEach [b] X.env := by rfl) (hs2 : starEach [b] X.env = (false, eval b X.env) :: starEach [] X.env := by rfl) :
    PFB X C (.Assign [.Tuple [.Name x px, .Name y py] kt pt] (.Tuple [a, b] k2 pt2) pos :: rest) (tSeq (tPar i j (tCons sta (tCons stb tNil))) su) G F (bindS ml fun l => bindS mb fun e => mk l e) :=
  ⟨ha.hK, pss_cons (ps_par hc hN hi hj hij hx hy (pa_cons ha.pe (pa_cons hb.pe pa_nil hs2) hs1) hw hs) (hr [] .non).pe, fun σ H B s Ψ E n k w => ha.se.seq n w fun l s1 p H1 k1 hd hbb hf n1 w1 => by
    refine hb.se.seq n1 w1 fun e s2 u H2 k2 n2 r2 w2 => ⟨_, u, rfl, ?_⟩
    have n3 := n.setOwn hd hbb hf n2 (Nat.le_of_ble_eq_true hi2)
    exact (hr l e).se _ H2 _ s2 Ψ E (n3.setV r2 (by rw [sf_len]; exact Nat.le_of_ble_eq_true hj2)) (k.step (k1.trans k2)) w2⟩
end

section
variable {X : Cx}
theorem pgN (i : Nat) {x : Str} {pos : Pos} (hN : X.N.Nodup) (hi : X.N[i]? = some x := by rfl) (hx : Loc X.env.scope x := by first | exact .inl rfl | exact .inr rfl) (hf : X.fn x = true ∨ X.env.scope.names.lookup x = some .local := by first | exact .inl rfl | exact .inr rfl | assumption) : PG X (.Name x pos) (gName i) := pg_name hN hi hx hf
end
theorem fnOk_noF {P : Program} {w : World} {K : PySem.W.Frag} {mg : Str → Option Value} {base : Heap} {k : Nat} {f : Addr} {fd : FuncData} {ps : List Str} {sp : DSp} {EX : CXT} (h : ∀ ds M Q E, ¬ sp ds M Q E) : FnOk P w K mg base EX k f fd ps (toSp K sp) :=
  ⟨fun vs H Q E ⟨ds, M, Qd, Ed, _, _, q, _⟩ => (h _ _ _ _ q).elim, fun A outer s H args us vs Q E _ _ _ _ ⟨ds, M, Qd, Ed, _, _, q, _⟩ => (h _ _ _ _ q).elim⟩

/-! ### a def as a caller sees it -/
def CalX (P : Program) (w : World) (K : PySem.W.Frag) (mg : Str → Option Value) (base : Heap) (k : Nat) (x : Str) (st : Stmt) (ps : List Str) (sp : DSp) : Prop :=
  ∃ (f : Addr) (fd : FuncData), FnOk P w K mg base (L2.CX P w) k f fd ps (toSp K sp) ∧ Fun K x x st f fd ∧ mg x = some (.ref f) ∧ PySem.W.keepIn K (.ref f) = true
section
variable {P : Program} {w : World} {mg : Str → Option Value} {base : Heap} {K : PySem.W.Frag}
/-- THE RULE for a def that holds generator expressions -/
theorem okGF {x qual : Str} {st : Stmt} {f : Addr} {fd : FuncData} {N ps : List Str} {k : Nat} {g : List D → Res Unit D} (F : Fun K x qual st f fd) (GT : GenTab K base mg fd) (Sc : FnScope N ps (defScope st)) (len : ∀ ds, ds.length ≠ ps.length → g ds = .stuck)
    (hbody : ∀ (cc Pt : Addr) (A : Around) (outer : List Env) (s : Shared) (H : Hp) (E : XK) (C : FE K Unit) (W : WX), GxR.TabB base mg cc Pt → TabOf K Pt → Room k (A.deeper (envOfC qual (defScope st) s.heap.objs.size f (.ref cc))) → PassesOwn (model P w) (cxOf (L2.CX P w) P w K mg base N qual (defScope st) f (.ref cc) A outer s H E).A (cxOf (L2.CX P w) P w K mg base N qual (defScope st) f (.ref cc) A outer s H E).env (cxOf (L2.CX P w) P w K mg base N qual (defScope st) f (.ref cc) A outer s H E).xe →
      Takes (cxOf (L2.CX P w) P w K mg base N qual (defScope st) f (.ref cc) A outer s H E) W → Rz (cxOf (L2.CX P w) P w K mg base N qual (defScope st) f (.ref cc) A outer s H E) C W (fun _ => True) →
      ∀ ds, ds.length = ps.length → ∃ ts m, PFB (cxOf (L2.CX P w) P w K mg base N qual (defScope st) f (.ref cc) A outer s H E) C (defBody st) ts (startF N ds) funF m ∧ m () = g ds) :
    FnOk P w K mg base (L2.CX P w) (k + 1) f fd ps (toSp K (spP mg g)) := by
  obtain ⟨c, Pt, e, tb, to⟩ := GT
  have hx := F.ex
  obtain ⟨oc, od, kV, doc, pm, an, cdv, ct, osl, rfl, lk, hcd⟩ := hx
  obtain rfl : cdv = .ref c := e
  have hl : ∀ ds M Q E, spP mg g ds M Q E → ds.length = ps.length := fun ds M Q E q => by
    by_cases h : ds.length = ps.length
    · exact h
    · unfold spP at q
      rw [len ds h] at q
      exact q.elim
  refine fn_of lk hcd Sc (fun vs H Q E h => ?_) fun A outer s H vs Q E hr h => ?_
  · obtain ⟨ds, M, Qd, Ed, r, _, q, _⟩ := h
    rw [r.length]
    exact hl _ _ _ _ q
  · obtain ⟨ds, M, Qd, Ed, r, m, q, l, lx⟩ := h
    let C : FE K Unit := { Z := unitM, B0 := M, M0 := M, H0 := H, Xi := fun e _ => ∀ c, mg e.cls = some c → Ed c e.fs M }
    have tk := takes_of (X := cxOf (L2.CX P w) P w K mg base N qual (defScope st) f (.ref c) A outer s H E) (E := E) rfl rfl rfl rfl
    have rz : Rz (cxOf (L2.CX P w) P w K mg base N qual (defScope st) f (.ref c) A outer s H E) C (fun cls d _ H => E cls d H) (fun _ => True) := ⟨passAt tk, fun σ H' G B s' e c d vs _ n xi hc hd fr =>
      lx c e.fs M d vs H' (xi c hc) (fun a o h1 h2 h3 => ⟨(n.st a o h1 h2 h3).1, h2⟩) hd fr (n.rm.sub n.sub)⟩
    obtain ⟨ts, mm, h1, h2⟩ := hbody c Pt A outer s H E C _ tb to hr (passes_of rfl) tk rz ds (hl _ _ _ _ q)
    refine ⟨ts, h1.pe, h1.se _ H M () (fun d _ => Qd d M) _ (now_start r m rfl rfl rfl) ⟨fun G m σ' H' B s' e _ n w => ?_, fun _ _ _ _ _ _ z => z.elim, fun _ _ _ _ _ _ z => z.elim, fun d m v σ' H' G B s' e _ n r w => ?_, fun d m v σ' H' G B s' e _ n r w => e.elim⟩ (by rw [h2]; exact q)⟩
    · have e : m = okS .non := e
      subst e
      exact l.wk _ _ _ _ ⟨M, n.sub, w⟩ n.st .non n.rm
    · have e : m = okS d := e
      subst e
      exact l.wk _ _ _ _ ⟨M, n.sub, w⟩ n.st r n.rm

/-! ### the law -/
def startO (N : List Str) (l : List D) : FG := some (.own (.lst l)) :: List.replicate (N.length - 1) none
theorem startO_some {N : List Str} {l : List D} {i : Nat} {y : FV} (h : gf (startO N l) i = some y) : i = 0 ∧ y = .own (.lst l) := by
  unfold startO at h
  cases i with
  | zero => cases h; exact ⟨rfl, rfl⟩
  | succ n =>
    have h : gf (List.replicate (N.length - 1) none) n = some y := h
    rw [gf_rep] at h; cases h
theorem now_startO {C : FE K Unit} {N : List Str} {ds : List D} {H : Hp} {M : Mp} {a : Addr} (ha : M a = some (.lst ds)) (m : RepM K H M) (hZ : C.Z = unitM) (h0 : C.H0 = H) (hb : C.B0 = mdel M a) (hm : C.M0 = M) : Now C (L2.start N [.ref a]) H (startO N ds) M () where
  len := by unfold L2.start startO; simp
  vals := fun i d h => by obtain ⟨_, e⟩ := startO_some h; cases e
  owns := fun i o h => by
    obtain ⟨rfl, e⟩ := startO_some h
    cases e
    refine ⟨a, rfl, by rw [hZ]; exact id, ha, by rw [hb]; exact mdel_same, fun o h1 h2 => ?_⟩
    rw [hm, ha] at h2; cases h2
  dist := fun i j o u p q hn h1 h2 => by
    obtain ⟨rfl, _⟩ := startO_some h1
    obtain ⟨rfl, _⟩ := startO_some h2
    exact absurd rfl hn
  sub := fun b o e => by
    rw [hb] at e
    by_cases z : b = a
    · subst z; rw [mdel_same] at e; cases e
    · rw [mdel_ne z] at e; exact e
  rm := by rw [hZ]; exact m
  st := by rw [h0, hm, hZ]; exact Step.refl
theorem okLaw0 {f : Addr} {N : List Str} {st : Stmt} {cdv : Value} {A : Around} {outer : List Env} {s : Shared} {H : Hp} {E : XK} {ns : List Int} {d : D} {M : Mp} {vs : List V} {Qd : DK} {Q : VK}
    (hbody : ∀ (C : FE K Unit) (W : WX), C.Z = unitM → Takes (cxOf (L2.CX P w) P w K mg base N "law" (defScope st) f cdv A outer s H E) W → Rz (cxOf (L2.CX P w) P w K mg base N "law" (defScope st) f cdv A outer s H E) C W (fun _ => True) →
      ∃ ts m, PFB (cxOf (L2.CX P w) P w K mg base N "law" (defScope st) f cdv A outer s H E) C (defBody st) ts (startF N [.fl (ns.map .int)]) funF m ∧ m () = .ok (.bl true) ())
    (r : Reps K H vs [d]) (m : RepM K H M) (sc : Scr ns d M) (q : ∀ M', Qd (.bl true) M') (l : Lift K M H Qd Q) :
    ∃ t, PSs (cxOf (L2.CX P w) P w K mg base N "law" (defScope st) f cdv A outer s H E) (defBody st) t ∧ t { nx := fun _ H' => Q .non H', rt := Q } (start N vs) H := by
  have tk := takes_of (X := cxOf (L2.CX P w) P w K mg base N "law" (defScope st) f cdv A outer s H E) (E := E) rfl rfl rfl rfl
  have rzz : ∀ C : FE K Unit, C.Xi = (fun _ _ => False) → Rz (cxOf (L2.CX P w) P w K mg base N "law" (defScope st) f cdv A outer s H E) C (fun cls d _ H => E cls d H) (fun _ => True) := fun C hC => ⟨passAt tk, fun σ H' G B s' e c d vs _ n xi hc hd fr => by rw [hC] at xi; exact xi.elim⟩
  rcases sc with rfl | ⟨a, rfl, ha⟩
  · let C : FE K Unit := { Z := unitM, B0 := M, M0 := M, H0 := H, Xi := fun e _ => False }
    obtain ⟨ts, mm, h1, h2⟩ := hbody C _ rfl tk (rzz C rfl)
    refine ⟨ts, h1.pe, h1.se _ H M () (fun d _ => d = .bl true) _ (now_start r m rfl rfl rfl) ⟨fun G m σ' H' B s' e _ n w => ?_, fun _ _ _ _ _ _ z => z.elim, fun _ _ _ _ _ _ z => z.elim, fun d m v σ' H' G B s' e _ n r w => ?_, fun d m v σ' H' G B s' e _ n r w => e.elim⟩ (by rw [h2]; rfl)⟩
    · have e : m = okS .non := e
      subst e; cases w
    · have e : m = okS d := e
      subst e
      cases w
      exact l.wk _ _ _ _ ⟨M, n.sub, q _⟩ n.st r n.rm
  · let C : FE K Unit := { Z := unitM, B0 := mdel M a, M0 := M, H0 := H, Xi := fun e _ => False }
    obtain ⟨ts, mm, h1, h2⟩ := hbody C _ rfl tk (rzz C rfl)
    have h3 : PFB (cxOf (L2.CX P w) P w K mg base N "law" (defScope st) f cdv A outer s H E) C (defBody st) (tFrz ts) (startO N (ns.map .int)) funF mm := ffrz 0 (l := ns.map .int) h1 rfl
    obtain ⟨v, rfl, rv⟩ := reps1 r
    cases rv
    refine ⟨_, h3.pe, h3.se _ H M () (fun d _ => d = .bl true) _ (now_startO ha m rfl rfl rfl rfl) ⟨fun G m σ' H' B s' e _ n w => ?_, fun _ _ _ _ _ _ z => z.elim, fun _ _ _ _ _ _ z => z.elim, fun d m v σ' H' G B s' e _ n r w => ?_, fun d m v σ' H' G B s' e _ n r w => e.elim⟩ (by rw [h2]; rfl)⟩
    · have e : m = okS .non := e
      subst e; cases w
    · have e : m = okS d := e
      subst e
      cases w
      exact l.wk _ _ _ _ ⟨mdel M a, n.sub, q _⟩ n.st r n.rm
theorem okLaw {st : Stmt} {f : Addr} {fd : FuncData} {N : List Str} {k : Nat} (F : Fun K "law" "law" st f fd) (Sc : FnScope N ["script"] (defScope st))
    (hbody : ∀ (cdv : Value) (A : Around) (outer : List Env) (s : Shared) (H : Hp) (E : XK) (C : FE K Unit) (W : WX), fd.code = cdv → C.Z = unitM → Room k (A.deeper (envOfC "law" (defScope st) s.heap.objs.size f cdv)) → PassesOwn (model P w) (cxOf (L2.CX P w) P w K mg base N "law" (defScope st) f cdv A outer s H E).A (cxOf (L2.CX P w) P w K mg base N "law" (defScope st) f cdv A outer s H E).env (cxOf (L2.CX P w) P w K mg base N "law" (defScope st) f cdv A outer s H E).xe →
      Takes (cxOf (L2.CX P w) P w K mg base N "law" (defScope st) f cdv A outer s H E) W → Rz (cxOf (L2.CX P w) P w K mg base N "law" (defScope st) f cdv A outer s H E) C W (fun _ => True) →
      ∀ ns : List Int, ns.length ≤ 63 → ∃ ts m, PFB (cxOf (L2.CX P w) P w K mg base N "law" (defScope st) f cdv A outer s H E) C (defBody st) ts (startF N [.fl (ns.map .int)]) funF m ∧ m () = .ok (.bl true) ()) :
    FnOk P w K mg base (L2.CX P w) (k + 1) f fd ["script"] (toSp K spLaw) := by
  have hx := F.ex
  obtain ⟨oc, od, kV, doc, pm, an, cdv, ct, osl, rfl, lk, hcd⟩ := hx
  refine fn_of lk hcd Sc (fun vs H Q E h => ?_) fun A outer s H vs Q E hr h => ?_
  · obtain ⟨ds, M, Qd, Ed, r, _, ⟨_, d, rfl, _⟩, _⟩ := h
    rw [r.length]; rfl
  · obtain ⟨ds, M, Qd, Ed, r, m, ⟨ns, d, rfl, sc, hl, q⟩, l, lx⟩ := h
    exact okLaw0 (fun C W hZ tk rz => hbody cdv A outer s H E C W rfl hZ hr (passes_of rfl) tk rz ns hl) r m sc q l
theorem walkF {l : PySem.W.OpenLaw} {k : Nat} {q : Program} {loose : List Str} {XP : (Str → Option Value) → Heap → Prop} {YP : World → Heap → Prop} {d : DefRec} {K : Params → PySem.W.Frag} (hn : l.most = some 63) (hdf : d.params.defaults = []) (hr : Room k callerA)
    (hY : ∀ (w : World) (h : Heap), YP w h → (K w.params).In h)
    (hrec : (genNames.all fun n => (recsOf q).any fun e => e.name == n) = true) (hK : ∀ w : World, ∀ p ∈ tabsL (K w.params), (K w.params).lookup p.2 = none)
    (F : ∀ (w : World) (mg : Str → Option Value) (fa : Addr) (h : Heap), (K w.params).In h → h.Ns mainGlobals mg → mg d.name = some (.ref fa) →
      ∃ fd : FuncData, (∀ (s : Shared) (u : Value), BindsTo s fd ⟨[u], []⟩ [("script", u)]) ∧ ∀ base : Heap, (K w.params).In base → base.Ns mainGlobals mg → (∀ p ∈ tabsL (K w.params), GxR.TabB base mg p.1 p.2) → FnOk l.prog w (K w.params) mg base (L2.CX l.prog w) k fa fd ["script"] (toSp (K w.params) spLaw)) :
    PySem.W.WalkO q loose XP YP l.row.toRowW d [] (fun f vs => PySem.call f vs) := by
  refine Att.attach_callB hn hdf fun w s₀ s₁ mg mb fa o pm cd doc a vs ns G Y ho hd hcd hmg hobj hints hlen hbits hg => ?_
  have KX := hY w _ Y
  obtain ⟨fd, hb, hF⟩ := F w mg fa _ KX G.T.g hmg
  have tabs : ∀ p ∈ tabsL (K w.params), s₁.heap.IsCode p.1 p.2 #[] ∧ s₁.heap.TableAt p.1 p.2 #[] := fun p hp => by
    obtain ⟨n, hn', hq⟩ := List.mem_filterMap.mp hp
    obtain ⟨f, o1, fd1, oc, vs1, e1, e2, e3, e4, e5, e6, e7⟩ := tabQ_some hq
    obtain ⟨dL, hd1, hd2⟩ := List.any_eq_true.mp (List.all_eq_true.mp hrec n hn')
    have hd3 : dL.name = n := beq_iff_eq.mp hd2
    obtain ⟨a', o', fd', c', P', h1, h2, h3, h4, h5, h6⟩ := G.T.tab dL hd1
    rw [hd3, PySem.W.mg_of KX G.T.g e1] at h1
    cases h1
    rw [KX _ _ e2] at h2
    cases h2
    rw [e3] at h3
    cases h3
    rw [e4] at h4
    cases h4
    obtain ⟨⟨ob, vb, g1, g2, g3, g4⟩, g5⟩ := id h6
    rw [KX _ _ e5] at g1
    cases g1
    rw [e6] at g3
    cases g3
    rw [e7] at g4
    cases g4
    exact ⟨h5, h6⟩
  refine LamX.law_callTs (CX := L2.CX l.prog w) (cs := tabsL (K w.params)) KX G.T.g G.T.b G.T.builtins G.T.nolimit hg (fun p hp => ?_) (hK w) (fun p hp => PySem.W.CodeHd.of (tabs p hp).1 (tabs p hp).2) G.T.bmain hobj hints (Nat.le_trans hlen (by decide)) hr (fun base KB nb hT => hF base KB nb fun p hp => ⟨(hT p hp).code, (hT p hp).bm, (hT p hp).gP⟩) hb (fun H hH hS => ?_) fun _ _ _ z => ?_
  · obtain ⟨⟨ob, vb, g1, g2, g3, g4⟩, g5⟩ := (tabs p hp).2
    exact g5
  · refine spLaw_of hlen (fun P hP => ?_) (fun o e => ⟨_, _, Option.some.inj ((KX _ _ e).symm.trans hobj)⟩) hS
    obtain ⟨n, hn', c, hq⟩ := hP
    exact ⟨#[], hH (c, P) (List.mem_filterMap.mpr ⟨n, hn', hq⟩), trivial⟩
  · obtain ⟨_, _, _, _, _, _, _, _, _, _, _, _, z⟩ := z
    exact z
end
end FL
end
section
set_option maxHeartbeats 4000000
/-! FS: a law's store of numbers: a list (or dict) of values and one inner list, handed from def to def. -/
namespace FL
open PySem PySem.Spec PyProof.Rows L2 DL RZ

/-- the inner list, the other fields -/
structure Pd where
  ls : List D
  fs : Nat → D
inductive PKd where
  | lst
  | dct (ks : List Key)
def sq (n j : Nat) (b : Addr) (f : Nat → D) : List D := (List.range n).map fun k => if k = j then .ref b else f k
def PKd.mk : PKd → List D → MO
  | .lst, l => .lst l
  | .dct ks, l => .dct (ks.zip l)
/-- where it stands: the outer thing at a, the inner list at b -/
def zP (pk : PKd) (n j : Nat) (a b : Addr) : SMod Pd where
  dom x := x = a ∨ x = b
  put s B x := if x = a then some (pk.mk (sq n j b s.fs)) else if x = b then some (.lst s.ls) else B x
  out s B x h := by rw [if_neg fun e => h (.inl e), if_neg fun e => h (.inr e)]
  inn s B B' x h := by
    by_cases e : x = a
    · rw [if_pos e, if_pos e]
    · rw [if_neg e, if_neg e]
      rcases h with h | h
      · exact absurd h e
      · rw [if_pos h, if_pos h]
  som s B x h := by
    by_cases e : x = a
    · rw [if_pos e]; exact fun z => nomatch z
    · rw [if_neg e]
      rcases h with h | h
      · exact absurd h e
      · rw [if_pos h]; exact fun z => nomatch z
section
variable {pk : PKd} {n j : Nat} {a b : Addr} {s : Pd} {B : Mp}
theorem zP_a : (zP pk n j a b).put s B a = some (pk.mk (sq n j b s.fs)) := if_pos rfl
theorem zP_b (h : a ≠ b) : (zP pk n j a b).put s B b = some (.lst s.ls) := (if_neg fun e => h e.symm).trans (if_pos rfl)
theorem zP_ls (h : a ≠ b) (l : List D) : (zP pk n j a b).put { s with ls := l } B = mupd ((zP pk n j a b).put s B) b (.lst l) := by
  funext x
  by_cases e : x = b
  · subst e
    rw [zP_b h, mupd_same]
  · rw [mupd_ne e]
    show (if x = a then _ else if x = b then _ else _) = (if x = a then _ else if x = b then _ else _)
    rw [if_neg e, if_neg e]
def setF (f : Nat → D) (k : Nat) (d : D) : Nat → D := fun i => if i = k then d else f i
theorem sq_len {f : Nat → D} : (sq n j b f).length = n := by unfold sq; simp
theorem sq_get {f : Nat → D} {k : Nat} (h : k < n) : (sq n j b f)[k]? = some (if k = j then .ref b else f k) := by unfold sq; simp [h]
theorem sq_set {f : Nat → D} {k : Nat} {d : D} (hk : k ≠ j) : (sq n j b f).set k d = sq n j b (setF f k d) := by
  apply List.ext_getElem?
  intro i
  rw [List.getElem?_set]
  by_cases hi : i < n
  · rw [sq_get hi, sq_get hi, sq_len]
    by_cases e : k = i
    · subst e
      rw [if_pos rfl, if_pos hi, if_neg hk]; unfold setF; rw [if_pos rfl]
    · rw [if_neg e]
      unfold setF
      rw [if_neg (Ne.symm e)]
  · have h1 : (sq n j b f)[i]? = none := List.getElem?_eq_none (by rw [sq_len]; omega)
    have h2 : (sq n j b (setF f k d))[i]? = none := List.getElem?_eq_none (by rw [sq_len]; omega)
    rw [h1, h2, sq_len]
    split
    · rw [if_neg (by omega)]
    · rfl
theorem zP_fs (h : a ≠ b) {k : Nat} {d : D} (hk : k ≠ j) : (zP .lst n j a b).put { s with fs := setF s.fs k d } B = mupd ((zP .lst n j a b).put s B) a (.lst ((sq n j b s.fs).set k d)) := by
  funext x
  by_cases e : x = a
  · subst e
    rw [zP_a, mupd_same, sq_set hk]; rfl
  · rw [mupd_ne e]
    show (if x = a then _ else if x = b then _ else _) = (if x = a then _ else if x = b then _ else _)
    rw [if_neg e, if_neg e]
end
def getS (k : Nat) : Cd Pd D := fun s => .ok (s.fs k) s
def setS (k : Nat) (d : D) : Cd Pd Unit := fun s => .ok () { s with fs := setF s.fs k d }
/-- what an operation gives of the inner list -/
def opL (op : D → D → Option D) (y : D) : Cd Pd D := fun s => optS (op (.fl s.ls) y) s
def opL1 (op : List D → Option D) : Cd Pd D := fun s => optS (op [.fl s.ls]) s
/-- a method of the inner list -/
def mtL (mo : List D → List D → Option (D × List D)) (ds : List D) : Cd Pd D := fun s => match mo s.ls ds with
  | some z => .ok z.1 { s with ls := z.2 }
  | none => .stuck
def setL (k v : D) : Cd Pd Unit := fun s => match setO s.ls k v with
  | some l => .ok () { s with ls := l }
  | none => .stuck
section
variable {K : PySem.W.Frag} {ρ : Type} {X : Cx} {C : FE K Pd} {G : FG} {F : Fam Pd ρ} {rest : List Stmt} {su : TS} {x y e : Expr} {sta stb ste : TE} {ma mb me : Cd Pd D} {es : List Expr} {str : TA} {mr : Cd Pd (List D)} {pos : Pos} {pk : PKd} {n j : Nat} {a b : Addr}
theorem SimE.eq {S : Type} {C : FE K S} {te : TE} {m m' : Cd S D} (h : SimE C te G m) (e : ∀ s, m s = m' s) : SimE C te G m' := by
  obtain rfl : m = m' := funext e
  exact h
/-- an operation on a list of the state -/
theorem se_stR {r : R2} {o : O2} {op : D → D → Option D} {p : Addr} {L : Pd → List D} (ho : SOp K r o) (im : ImpO o op) (ha : SimE C sta G (okS (.ref p))) (hM : ∀ s B, C.Z.put s B p = some (.lst (L s))) (hb : SimE C stb G mb) : SimE C (tOp r sta stb) G (bindS mb fun y s => optS (op (.fl (L s)) y) s) := fun σ H B s Q n w =>
  ha σ H B s _ n (fun v H1 k1 n1 r1 => hb.seq n1 w fun y s2 u H2 k2 n2 r2 w2 => by
    obtain ⟨z, e, q⟩ := wp_opt w2
    cases r1
    exact ho _ u (.ref p) y H2 _ _ Q (.ref p) r2 n2.rm (im p (L s2) y _ z (hM s2 B) e) (n2.lift fun v' H' k3 n3 r3 => q v' H' ((k1.trans k2).trans k3) n3 r3))
theorem ix_sq {f : Nat → D} {k : Nat} (h : k < n) : ixD (.fl (sq n j b f)) (.int k) = some (if k = j then .ref b else f k) := by
  have e : ixN (sq n j b f).length (k : Int) = some k := by
    rw [sq_len]
    unfold ixN
    simp [h]
  unfold ixD
  dsimp only
  unfold atI
  rw [e]
  exact sq_get h
/-- x[k] of the outer list -/
theorem fstG (i k : Nat) {c : Int} {jj} {nm : Str} {px pc : Pos} (hz : C.Z = zP .lst n j a b) (hk : k < n := by decide) (hkj : k ≠ j := by decide) (hc : c = (k : Int) := by rfl) (hG : gf G i = some (.val (.ref a)) := by rfl) (hN : X.N[i]? = some nm := by rfl) (hv : Vis X.env.scope nm := by first | exact Or.inl rfl | exact Or.inr (Or.inl rfl) | exact Or.inr (Or.inr rfl)) (hd : (nm == ("__debug__" : Str)) = false := by decide) (hcd : (nm == ("__classdict__" : Str)) = false := by decide) (hK : X.K = K := by rfl)
    (hs : PlainIx (.Constant (.int c) jj pc) := by intro _ _; rfl) : PF X C (.Subscript (.Name nm px) (.Constant (.int c) jj pc) pos) (tOp (rIx K) (tVar i) (tC (.int c))) G (getS k) := by
  subst hK; subst hc
  refine ⟨rfl, pe_ix ix_seq (pe_var hN hv hd hcd) pe_int hs, ?_⟩
  refine (se_stR (L := fun s => sq n j b s.fs) sop_ix io_ix (fv (C := C) i hG hN hv hd hcd rfl (pos := px)).se (fun s B => by rw [hz]; exact zP_a) (se_c (d := .int k) fun _ => .int k)).eq fun s => ?_
  show optS (ixD (.fl (sq n j b s.fs)) (.int k)) s = _
  rw [ix_sq hk, if_neg hkj]; rfl
/-- .. the inner list -/
theorem fstB (i : Nat) {c : Int} {jj} {nm : Str} {px pc : Pos} (hz : C.Z = zP .lst n j a b) (hk : j < n := by decide) (hc : c = (j : Int) := by rfl) (hG : gf G i = some (.val (.ref a)) := by rfl) (hN : X.N[i]? = some nm := by rfl) (hv : Vis X.env.scope nm := by first | exact Or.inl rfl | exact Or.inr (Or.inl rfl) | exact Or.inr (Or.inr rfl)) (hd : (nm == ("__debug__" : Str)) = false := by decide) (hcd : (nm == ("__classdict__" : Str)) = false := by decide) (hK : X.K = K := by rfl)
    (hs : PlainIx (.Constant (.int c) jj pc) := by intro _ _; rfl) : PF X C (.Subscript (.Name nm px) (.Constant (.int c) jj pc) pos) (tOp (rIx K) (tVar i) (tC (.int c))) G (okS (.ref b)) := by
  subst hK; subst hc
  refine ⟨rfl, pe_ix ix_seq (pe_var hN hv hd hcd) pe_int hs, ?_⟩
  refine (se_stR (L := fun s => sq n j b s.fs) sop_ix io_ix (fv (C := C) i hG hN hv hd hcd rfl (pos := px)).se (fun s B => by rw [hz]; exact zP_a) (se_c (d := .int j) fun _ => .int j)).eq fun s => ?_
  show optS (ixD (.fl (sq n j b s.fs)) (.int j)) s = _
  rw [ix_sq hk, if_pos rfl]; rfl
/-- xs[e], xs the inner list -/
theorem fstIx (hab : a ≠ b) (hz : C.Z = zP pk n j a b) (ha : PF X C x sta G (okS (.ref b))) (hb : PF X C y stb G mb) (hs : PlainIx y := by intro _ _; rfl) : PF X C (.Subscript x y pos) (tOp (rIx K) sta stb) G (bindS mb fun i => opL ixD i) := by
  have hK := ha.hK; subst hK
  exact ⟨rfl, pe_ix ix_seq ha.pe hb.pe hs, se_stR (L := Pd.ls) sop_ix io_ix ha.se (fun s B => by rw [hz]; exact zP_b hab) hb.se⟩
/-- len(xs) -/
theorem fstLen {p : Pos} (hab : a ≠ b) (hz : C.Z = zP pk n j a b) (hg : Gl X "len") (hm : X.mg "len" = none) (ha : PF X C x sta G (okS (.ref b))) (he : starEach [x] X.env = (false, eval x X.env) :: starEach [] X.env := by rfl) (hpl : (backTo pos (starEach [] X.env)).any (·.1) = false := by rfl) :
    PF X C (.Call (.Name "len" p) [x] [] pos) (tCB (rLenA K) (tCons sta tNil)) G (opL1 lenD) := by
  have hK := ha.hK; subst hK
  have hc : PCall X X.K (.builtin "len") (rLenA X.K) oLen := c_len
  refine ⟨rfl, pe_callB hc.pe hg hm PySem.boot_len (pa_cons ha.pe pa_nil he) (by decide) (by decide) he hpl, fun σ H B s Q n w => ha.se σ H B s _ n fun v H1 k1 n1 r1 => ?_⟩
  obtain ⟨z, e, w⟩ := wp_opt w
  cases r1
  exact hc.se _ [.ref b] H1 _ _ Q (.cons (.ref b) .nil) n1.rm (jo_len b s.ls _ z (by rw [hz]; exact zP_b hab) e) (n1.lift fun v' H' k2 n2 r2 => w v' H' (k1.trans k2) n2 r2)
/-- xs.m(..) -/
theorem se_stM {r : V → List V → Hp → VK → Prop} {o : OM} {mo : List D → List D → Option (D × List D)} (hab : a ≠ b) (hz : C.Z = zP pk n j a b) (ha : SimE C sta G (okS (.ref b))) (h : SMt K r o) (im : ImpM o mo) (hr : SimA C str G mr) : SimE C (tBM K "list" r sta str) G (bindS mr fun ds => mtL mo ds) := fun σ H B s Q n w =>
  ha σ H B s _ n fun v H1 k1 n1 r1 => by
    have hb : ∀ s, C.Z.put s B b = some (.lst s.ls) := fun s => by rw [hz]; exact zP_b hab
    cases r1
    obtain ⟨vs, g1, g2⟩ := n1.rm.2 b _ (hb s)
    refine ⟨.inl ⟨rfl, vs, SqL.of g1⟩, hr.seq n1 w fun ds s2 us H2 k2 n2 r2 w2 => ?_⟩
    have w2 : (mtL mo ds s2).wp _ C.Xi := w2
    unfold mtL at w2
    cases e : mo s2.ls ds with
    | none => rw [e] at w2; exact w2.elim
    | some z =>
      rw [e] at w2
      refine h b s2.ls us ds H2 _ _ Q (hb s2) r2 n2.rm (im b s2.ls ds _ z e (hb s2)) fun d M' v H' ⟨e1, e2⟩ st r m => ?_
      subst e1; subst e2
      have hP : mupd (C.Z.put s2 B) b (.lst z.2) = C.Z.put { s2 with ls := z.2 } B := by rw [hz]; exact (zP_ls hab _).symm
      rw [hP] at st m
      have k3 := st.kt n2.rm
      exact w2 v H' ((k1.trans k2).trans k3) (n2.next k3 st m) r
theorem fstM {name : Str} {e0 : Expr} {apos cpos : Pos} {id : String} {rm : V → List V → Hp → VK → Prop} {o : OM} {mo : List D → List D → Option (D × List D)} (hab : a ≠ b) (hz : C.Z = zP pk n j a b) (pa : PlainAttrs "list") (slot : Slot "list" name id) (hty : typeOf (.builtin id) = pure (.type "method_descriptor")) (hm : PMt X K id rm o) (im : ImpM o mo)
    (ha : PF X C x sta G (okS (.ref b))) (hr : PFA X C (e0 :: es) str G mr) (hbase : attributeBase x name X.env (eval x X.env) = eval x X.env := by rfl)
    (hfew : ((backTo cpos (starEach (e0 :: es) X.env)).all (fun x => !x.1) && (backToKw cpos (keywordEach [] X.env)).all (fun x => x.1.isSome)
      && decide ((e0 :: es).length + ([] : List Keyword).length + (if ([] : List Keyword).isEmpty then 0 else 1) < 30)) = true := by rfl)
    (hline : (apos.endLine == cpos.line) = true := by rfl) (hs : starEach (e0 :: es) X.env = (false, eval e0 X.env) :: starEach es X.env := by rfl) (hplain : (backTo cpos (starEach es X.env)).any (·.1) = false := by rfl) :
    PF X C (.Call (.Attribute x name apos) (e0 :: es) [] cpos) (tBM K "list" rm sta str) G (bindS mr fun ds => mtL mo ds) := by
  have hK := hm.hK; subst hK
  exact ⟨rfl, pe_bm pa slot hty hm.pe ha.pe hr.pe hbase hfew hline hs hplain, se_stM hab hz ha.se hm.se im hr.se⟩
theorem fstM0 {name : Str} {apos cpos : Pos} {id : String} {rm : V → List V → Hp → VK → Prop} {o : OM} {mo : List D → List D → Option (D × List D)} (hab : a ≠ b) (hz : C.Z = zP pk n j a b) (pa : PlainAttrs "list") (slot : Slot "list" name id) (hty : typeOf (.builtin id) = pure (.type "method_descriptor")) (hm : PMt X K id rm o) (im : ImpM o mo)
    (ha : PF X C x sta G (okS (.ref b))) (hbase : attributeBase x name X.env (eval x X.env) = eval x X.env := by rfl) (hline : (apos.endLine == cpos.line) = true := by rfl) :
    PF X C (.Call (.Attribute x name apos) [] [] cpos) (tBM0 K "list" rm sta) G (mtL mo []) := by
  have hK := hm.hK; subst hK
  exact ⟨rfl, pe_bm0 pa slot hty hm.pe ha.pe hbase hline, se_stM (str := tNil) (mr := okS []) hab hz ha.se hm.se im (fun σ H B s Q n w => w [] H KT.refl n .nil)⟩
/-- x[k] = e of the outer list -/
theorem fstS (i k : Nat) {c : Int} {jj} {nm : Str} {px pc pos' : Pos} {mk : Cd Pd ρ} (hab : a ≠ b) (hz : C.Z = zP .lst n j a b) (he : PF X C e ste G me) (hr : PFB X C rest su G F mk) (hk : k < n := by decide) (hkj : k ≠ j := by decide) (hc : c = (k : Int) := by rfl) (hG : gf G i = some (.val (.ref a)) := by rfl) (hN : X.N[i]? = some nm := by rfl) (hv : Vis X.env.scope nm := by first | exact Or.inl rfl | exact Or.inr (Or.inl rfl) | exact Or.inr (Or.inr rfl)) (hd : (nm == ("__debug__" : Str)) = false := by decide) (hcd : (nm == ("__classdict__" : Str)) = false := by decide)
    (hs : swapsWithSole [.Subscript (.Name nm px) (.Constant (.int c) jj pc) pos'] e pos.line X.env = pure false := by rfl) (hw : swappedStores [.Subscript (.Name nm px) (.Constant (.int c) jj pc) pos'] e X.env = pure none := by rfl)
    (h1 : (assignEach [.Subscript (.Name nm px) (.Constant (.int c) jj pc) pos'] X.env).map (·.2) = [assign (.Subscript (.Name nm px) (.Constant (.int c) jj pc) pos') X.env] := by rfl) (ha : ∀ v, assign (.Subscript (.Name nm px) (.Constant (.int c) jj pc) pos') X.env v = (do
      let ov ← holding [v] (eval (.Name nm px) X.env)
      let iv ← holding [v, ov] (eval (.Constant (.int c) jj pc) X.env)
      standAt pos'
      holding [v, ov, iv] (setItem ov iv v)
      release [v, ov, iv] []) := by intro _; rfl) :
    PFB X C (.Assign [.Subscript (.Name nm px) (.Constant (.int c) jj pc) pos'] e pos :: rest) (tSeq (tAsg ste (gSub (tVar i) (tC (.int c)) rSetL)) su) G F (bindS me fun d => bindS (setS k d) fun _ => mk) := by
  subst hc
  refine ⟨he.hK, pss_cons (ps_asg he.pe (pg_sub (pe_var hN hv hd hcd) pe_int set_list ha) hs hw h1) hr.pe, fun σ H B s Ψ E n0 k' w => he.se.seq n0 w fun d s1 v H1 k1 n1 r1 w1 => ?_⟩
  obtain ⟨u, g1, g2⟩ := n1.vals i _ hG
  cases g2
  have hM : C.Z.put s1 B a = some (.lst (sq n j b s1.fs)) := by rw [hz]; exact zP_a
  obtain ⟨vs, f1, f2⟩ := n1.rm.2 a _ hM
  have el : ixN vs.length (k : Int) = some k := by
    rw [f2.length, sq_len]; unfold ixN; simp [hk]
  refine ⟨_, g1, a, vs, _, k, rfl, rfl, f1, el, ?_⟩
  have kt := KT.lst (u := .lst (vs.set k v)) f1
  have rm := n1.rm.mut (o := .lst (vs.set k v)) (u := .lst ((sq n j b s1.fs).set k d)) hM ⟨_, upd_same, (f2.set r1 k).kt kt⟩
  have st := Step.mut (H := H1) (o := .lst (vs.set k v)) (u := .lst ((sq n j b s1.fs).set k d)) hM
  have hP : mupd (C.Z.put s1 B) a (.lst ((sq n j b s1.fs).set k d)) = C.Z.put { s1 with fs := setF s1.fs k d } B := by rw [hz]; exact (zP_fs hab hkj).symm
  rw [hP] at rm st
  exact hr.se σ _ B _ Ψ E (n1.next kt st rm) (k'.step (k1.trans kt)) w1
/-- xs[k] = e of the inner list -/
theorem fstSL {x1 y1 : Expr} {pos' : Pos} {mk : Cd Pd ρ} (hab : a ≠ b) (hz : C.Z = zP pk n j a b) (he : PF X C e ste G me) (hx : PF X C x1 sta G (okS (.ref b))) (hk : PF X C y1 stb G mb) (hr : PFB X C rest su G F mk)
    (hs : swapsWithSole [.Subscript x1 y1 pos'] e pos.line X.env = pure false := by rfl) (hw : swappedStores [.Subscript x1 y1 pos'] e X.env = pure none := by rfl)
    (h1 : (assignEach [.Subscript x1 y1 pos'] X.env).map (·.2) = [assign (.Subscript x1 y1 pos') X.env] := by rfl) (ha : ∀ v, assign (.Subscript x1 y1 pos') X.env v = (do
      let ov ← holding [v] (eval x1 X.env)
      let iv ← holding [v, ov] (eval y1 X.env)
      standAt pos'
      holding [v, ov, iv] (setItem ov iv v)
      release [v, ov, iv] []) := by intro _; rfl) :
    PFB X C (.Assign [.Subscript x1 y1 pos'] e pos :: rest) (tSeq (tAsg ste (gSub sta stb rSetL)) su) G F (bindS me fun d => bindS mb fun i => bindS (setL i d) fun _ => mk) :=
  ⟨he.hK, pss_cons (ps_asg he.pe (pg_sub hx.pe hk.pe set_list ha) hs hw h1) hr.pe, fun σ H B s Ψ E n k' w => he.se.seq n w fun d s1 v H1 k1 n1 r1 w1 => by
    refine hx.se σ H1 B s1 _ n1 fun u H2 k2 n2 r2 => hk.se.seq n2 w1 fun i s3 u3 H3 k3 n3 r3 w3 => ?_
    cases r2
    have w3 := wp_bind.mp w3
    unfold setL at w3
    cases e : setO s3.ls i d with
    | none => rw [e] at w3; exact w3.elim
    | some l =>
      rw [e] at w3
      unfold setO at e
      split at e
      · rename_i j0
        split at e
        · rename_i m0 hm
          cases e
          cases r3
          have hM : C.Z.put s3 B b = some (.lst s3.ls) := by rw [hz]; exact zP_b hab
          obtain ⟨vs, f1, f2⟩ := n3.rm.2 b _ hM
          refine ⟨b, vs, _, m0, rfl, rfl, f1, by rw [f2.length]; exact hm, ?_⟩
          have kt := KT.lst (u := .lst (vs.set m0 v)) f1
          have rm := n3.rm.mut (o := .lst (vs.set m0 v)) (u := .lst (s3.ls.set m0 d)) hM ⟨_, upd_same, (f2.set ((r1.kt k2).kt k3) m0).kt kt⟩
          have st := Step.mut (H := H3) (o := .lst (vs.set m0 v)) (u := .lst (s3.ls.set m0 d)) hM
          have hP : mupd (C.Z.put s3 B) b (.lst (s3.ls.set m0 d)) = C.Z.put { s3 with ls := s3.ls.set m0 d } B := by rw [hz]; exact (zP_ls hab _).symm
          rw [hP] at rm st
          exact hr.se σ _ B _ Ψ E (n3.next kt st rm) (k'.step (((k1.trans k2).trans k3).trans kt)) w3
        · cases e
      · cases e⟩
end
end FL
end
section
set_option maxHeartbeats 4000000
/-! FK: defs that hand on the store of numbers; where it is made. -/
namespace FL
open PySem PySem.Spec PyProof.Rows L2 DL RZ

section
variable {K : PySem.W.Frag} {pk : PKd} {n j : Nat} {a b : Addr}
theorem zP_sub {M M' : Mp} {s0 : Pd} (ha : M' a = some (pk.mk (sq n j b s0.fs))) (hb : M' b = some (.lst s0.ls)) (h : ∀ x o, M x = some o → M' x = some o) : ∀ x o, (zP pk n j a b).put s0 M x = some o → M' x = some o := fun x o e => by
  have e1 : (if x = a then some (pk.mk (sq n j b s0.fs)) else if x = b then some (.lst s0.ls) else M x) = some o := e
  clear e
  by_cases h1 : x = a
  · rw [if_pos h1] at e1; rw [h1, ha]; exact e1
  · rw [if_neg h1] at e1
    by_cases h2 : x = b
    · rw [if_pos h2] at e1; rw [h2, hb]; exact e1
    · rw [if_neg h2] at e1; exact h x o e1
/-- a def that makes the store -/
def spN (pk : PKd) (n j : Nat) (cv : Str → Option Value) (f : List D → Res Unit Pd) : DSp := fun ds M Q E => (f ds).wp (fun s0 _ => ∀ a b, a ≠ b → M a = none → M b = none → Q (.ref a) ((zP pk n j a b).put s0 M)) (fun e _ => ∀ c, cv e.cls = some c → E c e.fs M)
def initF (C : FE K Unit) (pk : PKd) (n j : Nat) : Fam Unit Pd := { nx := fun _ _ => False, rt := fun _ _ => False, ri := fun d M m => ∃ a p s0, d = .ref a ∧ a ≠ p ∧ M a = some (pk.mk (sq n j p s0.fs)) ∧ M p = some (.lst s0.ls) ∧ C.B0 a = none ∧ C.B0 p = none ∧ m = okS s0 }
def mkS (n : Nat) (l ds : List D) : Cd Unit Pd := fun _ => if ds.length + 1 = n ∧ n ≤ sizeLine then .ok ⟨l, fun k => ((D.non :: ds)[k]?).getD .non⟩ () else .stuck
theorem mkS_sq {p : Addr} {ds : List D} (h : ds.length + 1 = n) : D.ref p :: ds = sq n 0 p (fun k => ((D.non :: ds)[k]?).getD .non) := by
  apply List.ext_getElem?
  intro i
  by_cases hi : i < n
  · rw [sq_get hi]
    cases i with
    | zero => rfl
    | succ m =>
      rw [if_neg (Nat.succ_ne_zero m)]
      have hm : m < ds.length := by omega
      simp [hm]
  · have h1 : (sq n 0 p (fun k => ((D.non :: ds)[k]?).getD .non))[i]? = none := List.getElem?_eq_none (by rw [sq_len]; omega)
    rw [h1]
    exact List.getElem?_eq_none (by simp; omega)
section
variable {X : Cx} {C : FE K Unit} {G : FG} {es : List Expr} {str : TA} {mr : Cd Unit (List D)} {pos : Pos}
/-- return [xs, e, ..], xs own -/
theorem fretI (q : Nat) {l : List D} {x : Str} {px lp : Pos} (ha : PFA X C es str G mr) (hG : gf G q = some (.own (.lst l)) := by rfl) (hN : X.N[q]? = some x := by rfl) (hv : Vis X.env.scope x := by first | exact Or.inl rfl | exact Or.inr (Or.inl rfl) | exact Or.inr (Or.inr rfl)) (hd : (x == ("__debug__" : Str)) = false := by decide) (hcd : (x == ("__classdict__" : Str)) = false := by decide)
    (hs : starEach (.Name x px :: es) X.env = (false, eval (.Name x px) X.env) :: starEach es X.env := by rfl) : PFB X C [.Return (some (.List (.Name x px :: es) lp)) pos] (tRet (tLst (tCons (tVar q) str))) G (initF C .lst n 0) (bindS mr fun ds => mkS n l ds) := by
  have hK := ha.hK; subst hK
  refine ⟨rfl, pss_one (ps_ret (pe_lst (pa_cons (pe_var hN hv hd hcd) ha.pe hs))), fun σ H B s Ψ E n0 k w => ?_⟩
  obtain ⟨p, g1, hd1, g3, g4, g5⟩ := n0.owns q _ hG
  refine ⟨_, g1, ha.se.seq n0 w fun ds s1 vs H1 k1 n1 r1 w1 => ?_⟩
  have w1 : (mkS n l ds s1).wp _ _ := w1
  unfold mkS at w1
  split at w1
  · rename_i hc
    refine ⟨by show (V.ref p :: vs).length ≤ sizeLine; rw [List.length_cons, r1.length, hc.1]; exact hc.2, fun a hp => ?_⟩
    obtain ⟨a1, a2, a3, a4, a5⟩ := n1.newL hp (.cons (.ref p) r1)
    refine k.ri (.ref a) (okS _) (.ref a) σ _ G _ s1 ⟨a, p, _, rfl, ?_, ?_, ?_, n1.b0 a2, g4, rfl⟩ (k1.trans a4) a5 (.ref a) w1
    · exact fun e => by subst e; rw [g3] at a2; cases a2
    · rw [C.Z.out _ _ _ a1, mupd_same, mkS_sq hc.1]; rfl
    · rw [C.Z.out _ _ _ hd1, mupd_ne (fun e => by subst e; rw [g3] at a2; cases a2)]; exact g3
  · exact w1.elim
end

/-! ### the store comes to be in the midst of a body -/
def FE.sw (C : FE K Unit) (pk : PKd) (n j : Nat) (a b : Addr) : FE K Pd := ⟨zP pk n j a b, C.B0, C.M0, C.H0, fun e _ => C.Xi e () ∧ C.B0 a = none ∧ C.B0 b = none⟩
def runS (mk : Cd Pd D) (s0 : Pd) : Cd Unit D := fun _ => match mk s0 with
  | .ok d _ => .ok d ()
  | .exc e _ => .exc e ()
  | .stuck => .stuck
variable {C : FE K Unit} {σ : L2.St} {H : Hp} {G : FG} {B : Mp} {s : Pd}
theorem Now.unsw (hZ : C.Z = unitM) (h1 : C.B0 a = none) (h2 : C.B0 b = none) (n0 : Now (C.sw pk n j a b) σ H G B s) : Now C σ H G ((zP pk n j a b).put s B) () where
  len := n0.len
  vals := n0.vals
  owns := fun i o h => by
    obtain ⟨p, e1, e2, e3, e4, e5⟩ := n0.owns i o h
    exact ⟨p, e1, by rw [hZ]; exact id, by rw [(zP pk n j a b).out _ _ _ e2]; exact e3, e4, e5⟩
  dist := n0.dist
  sub := fun x o e => by
    rw [(zP pk n j a b).out _ _ _ (fun (z : x = a ∨ x = b) => by
      rcases z with z | z
      · rw [z, h1] at e; cases e
      · rw [z, h2] at e; cases e)]
    exact n0.sub x o e
  rm := by rw [hZ]; exact n0.rm
  st := by rw [hZ]; exact n0.st
theorem Rz.sw {X : Cx} {W : WX} {ok : FG → Prop} (rz : Rz X C W ok) (hZ : C.Z = unitM) : Rz X (C.sw pk n j a b) W ok :=
  ⟨rz.pass, fun σ H G B s e c d vs hk n0 xi hc hd fr => rz.wish σ H G _ () e c d vs hk (n0.unsw hZ xi.2.1 xi.2.2) xi.1 hc hd fr⟩
section
variable {X : Cx} {W : WX} {ok : FG → Prop} {k : Nat} {f : Addr} {fd : FuncData} {ps : List Str} {x fn : Str} {p pos pos' cpos : Pos} {e : Expr} {es : List Expr} {str : TA} {mr : Cd Unit (List D)} {g : List D → Res Unit Pd} {rest : List Stmt} {su : TS}
theorem finit (i : Nat) {mg : Str → Option Value} {mk : Cd Pd D} (Fn : FnOk X.prog X.w K X.mg X.base (L2.CX X.prog X.w) k f fd ps (toSp K (spN pk n j mg g))) (rz : Rz X C W ok) (hZ : C.Z = unitM) (hr : Room k X.A) (hg : Gl X fn) (hm : X.mg fn = some (.ref f)) (hkp : PySem.W.keepIn K (.ref f) = true) (hb : Binds K fd ps []) (hN : X.N.Nodup)
    (ha : PFA X C (e :: es) str G mr) (hrest : ∀ a b, a ≠ b → PFB X (C.sw pk n j a b) rest su (sf G i (some (.val (.ref a)))) funF mk) (hi2 : Nat.blt i G.length = true := by rfl) (hi : X.N[i]? = some x := by rfl) (hx : Loc X.env.scope x := by first | exact .inl rfl | exact .inr rfl) (hs : swapsWith (.Call (.Name fn p) (e :: es) [] cpos) (some (.Name x pos')) pos.line X.env = pure false := by rfl) (hf : X.fn x = true ∨ X.env.scope.names.lookup x = some .local := by first | exact .inl rfl | exact .inr rfl | assumption)
    (hk : ok G := by exact trivial) (hdb : (fn == ("__debug__" : Str)) = false := by decide) (he : starEach (e :: es) X.env = (false, eval e X.env) :: starEach es X.env := by rfl) (hpl : (backTo cpos (starEach es X.env)).any (·.1) = false := by rfl) (hmg : X.mg = mg := by rfl) :
    PFB X C (.Assign [.Name x pos'] (.Call (.Name fn p) (e :: es) [] cpos) pos :: rest) (tSeq (tAsg (tCallS (toSp K (spN pk n j mg g)) (WE W) str) (gName i)) su) G funF (bindS mr fun ds => bindS (liftU (g ds)) fun s0 => runS mk s0) := by
  have hK := ha.hK; subst hK; subst hmg
  refine ⟨rfl, pss_cons (ps_set hN hi hx (pe_callS Fn hr hg hm hkp hb rz.pass ha.pe hdb he hpl) hs hf) (hrest 0 1 (by decide)).pe, fun σ H B s Ψ E n0 kk w => ha.se.seq n0 w fun ds s1 vs H1 k1 n1 r1 w1 => ?_⟩
  have rm1 : RepM X.K H1 B := by have := n1.rm; rw [hZ] at this; exact this
  have st1 : Step C.M0 C.H0 B H1 := by have := n1.st; rw [hZ] at this; exact this
  refine ⟨ds, B, fun d' M' => ∃ a b s0, d' = .ref a ∧ a ≠ b ∧ B a = none ∧ B b = none ∧ M' = (zP pk n j a b).put s0 B ∧ (runS mk s0 s1).wp Ψ C.Xi, _, r1, rm1, ?_, fun d' M' v H' q st r m => ?_, (by have := rz.liftX hk n1; rw [hZ] at this; exact this)⟩
  · unfold spN
    have w2 := wp_liftU (wp_bind.mp w1)
    exact w2.mono (fun s0 _ q a b hab h1 h2 => ⟨a, b, s0, rfl, hab, h1, h2, rfl, q⟩) fun e _ h c hc => ⟨e, s1, rfl, rfl, hc, h⟩
  · obtain ⟨a, b, s0, rfl, hab, h1, h2, rfl, q⟩ := q
    cases r
    have k2 := st.kt rm1
    have n2 : Now (C.sw pk n j a b) σ H' G B s0 := ⟨n1.len, fun i d h => by
      obtain ⟨v, e1, e2⟩ := n1.vals i d h
      exact ⟨v, e1, e2.kt k2⟩, fun i o h => by
      obtain ⟨p, e1, e2, e3, e4, e5⟩ := n1.owns i o h
      exact ⟨p, e1, (fun (z : p = a ∨ p = b) => by
        rcases z with z | z
        · rw [z, h1] at e3; cases e3
        · rw [z, h2] at e3; cases e3), e3, e4, e5⟩, n1.dist, n1.sub, m, st1.trans st⟩
    have b1 := n1.b0 h1
    have b2 := n1.b0 h2
    have kt := k1.trans k2
    have n3 : Now (C.sw pk n j a b) (σ.set i (some (.ref a))) H' (sf G i (some (.val (.ref a)))) B s0 := n2.setV (.ref a) (Nat.le_of_ble_eq_true hi2)
    refine (hrest a b hab).se _ H' B s0 (fun d _ => Ψ d ()) E n3 ⟨fun G m σ H2 B s' e kt2 n w => ?_, fun _ _ _ _ _ _ z => z.elim, fun _ _ _ _ _ _ z => z.elim, fun d m v σ H2 G B s' e kt2 n r w => ?_, fun _ _ _ _ _ _ _ _ z => z.elim⟩ ?_
    · have e : m = okS .non := e
      subst e
      exact kk.nx G (okS .non) σ H2 _ () rfl (kt.trans kt2) (n.unsw hZ b1 b2) w
    · have e : m = okS d := e
      subst e
      exact kk.rt d (okS d) v σ H2 G _ () rfl (kt.trans kt2) (n.unsw hZ b1 b2) r w
    · unfold runS at q
      cases hh : mk s0 with
      | ok d s' => rw [hh] at q; exact q
      | exc e s' => rw [hh] at q; exact ⟨q, b1, b2⟩
      | stuck => rw [hh] at q; exact q
end
end

/-! ### the rules for such defs -/
section
variable {P : Program} {w : World} {mg : Str → Option Value} {base : Heap} {K : PySem.W.Frag} {pk : PKd} {n j : Nat}
theorem okF0 {x qual : Str} {st : Stmt} {f : Addr} {fd : FuncData} {N ps : List Str} {k : Nat} {g : List D → Res Unit Pd} (F : Fun K x qual st f fd) (Sc : FnScope N ps (defScope st)) (len : ∀ ds, ds.length ≠ ps.length → g ds = .stuck)
    (hbody : ∀ (cdv : Value) (A : Around) (outer : List Env) (s : Shared) (H : Hp) (E : XK) (C : FE K Unit) (W : WX), Room k (A.deeper (envOfC qual (defScope st) s.heap.objs.size f cdv)) → PassesOwn (model P w) (cxOf (L2.CX P w) P w K mg base N qual (defScope st) f cdv A outer s H E).A (cxOf (L2.CX P w) P w K mg base N qual (defScope st) f cdv A outer s H E).env (cxOf (L2.CX P w) P w K mg base N qual (defScope st) f cdv A outer s H E).xe →
      Takes (cxOf (L2.CX P w) P w K mg base N qual (defScope st) f cdv A outer s H E) W → Rz (cxOf (L2.CX P w) P w K mg base N qual (defScope st) f cdv A outer s H E) C W (fun _ => True) →
      ∀ ds, ds.length = ps.length → ∃ ts m, PFB (cxOf (L2.CX P w) P w K mg base N qual (defScope st) f cdv A outer s H E) C (defBody st) ts (startF N ds) (initF C pk n j) m ∧ m () = g ds) :
    FnOk P w K mg base (L2.CX P w) (k + 1) f fd ps (toSp K (spN pk n j mg g)) := by
  have hl : ∀ ds M Q E, spN pk n j mg g ds M Q E → ds.length = ps.length := fun ds M Q E q => by
    by_cases h : ds.length = ps.length
    · exact h
    · unfold spN at q
      rw [len ds h] at q
      exact q.elim
  refine F.okX Sc (fun vs H Q E h => ?_) (fun cdv A outer s H vs Q E hr h => ?_)
  · obtain ⟨ds, M, Qd, Ed, r, _, q, _⟩ := h
    rw [r.length]
    exact hl _ _ _ _ q
  · obtain ⟨ds, M, Qd, Ed, r, m, q, l, lx⟩ := h
    let C : FE K Unit := { Z := unitM, B0 := M, M0 := M, H0 := H, Xi := fun e _ => ∀ c, mg e.cls = some c → Ed c e.fs M }
    have tk := takes_of (X := cxOf (L2.CX P w) P w K mg base N qual (defScope st) f cdv A outer s H E) (E := E) rfl rfl rfl rfl
    have rz : Rz (cxOf (L2.CX P w) P w K mg base N qual (defScope st) f cdv A outer s H E) C (fun cls d _ H => E cls d H) (fun _ => True) := ⟨passAt tk, fun σ H' G B s' e c d vs _ n xi hc hd fr =>
      lx c e.fs M d vs H' (xi c hc) (fun a o h1 h2 h3 => ⟨(n.st a o h1 h2 h3).1, h2⟩) hd fr (n.rm.sub n.sub)⟩
    obtain ⟨ts, mm, h1, h2⟩ := hbody cdv A outer s H E C _ hr (passes_of rfl) tk rz ds (hl _ _ _ _ q)
    refine ⟨ts, h1.pe, h1.se _ H M () (fun s0 _ => ∀ a b, a ≠ b → M a = none → M b = none → Qd (.ref a) ((zP pk n j a b).put s0 M)) _ (now_start r m rfl rfl rfl) ⟨fun _ _ _ _ _ _ z => z.elim, fun _ _ _ _ _ _ z => z.elim, fun _ _ _ _ _ _ z => z.elim, fun _ _ _ _ _ _ _ _ z => z.elim, fun d m v σ' H' G B s' e _ n r w => ?_⟩ (by rw [h2]; exact q)⟩
    obtain ⟨a, p, s0, rfl, hne, ha, hp, hb0, hb1, rfl⟩ := e
    exact l.wk _ _ _ _ ⟨_, zP_sub ha hp n.sub, w a p hne hb0 hb1⟩ n.st r n.rm
theorem okFI {x qual : Str} {st : Stmt} {f : Addr} {fd : FuncData} {N : List Str} {p0 : Str} {ps : List Str} {k : Nat} {g : List D → Cd Pd D} (F : Fun K x qual st f fd) (Sc : FnScope N (p0 :: ps) (defScope st)) (len : ∀ ds s, ds.length ≠ ps.length → g ds s = .stuck)
    (hbody : ∀ (cdv : Value) (A : Around) (outer : List Env) (s : Shared) (H : Hp) (E : XK) (C : FE K Pd) (W : WX) (a b : Addr), a ≠ b → C.Z = zP pk n j a b → Room k (A.deeper (envOfC qual (defScope st) s.heap.objs.size f cdv)) → PassesOwn (model P w) (cxOf (L2.CX P w) P w K mg base N qual (defScope st) f cdv A outer s H E).A (cxOf (L2.CX P w) P w K mg base N qual (defScope st) f cdv A outer s H E).env (cxOf (L2.CX P w) P w K mg base N qual (defScope st) f cdv A outer s H E).xe →
      Takes (cxOf (L2.CX P w) P w K mg base N qual (defScope st) f cdv A outer s H E) W → Rz (cxOf (L2.CX P w) P w K mg base N qual (defScope st) f cdv A outer s H E) C W (fun _ => True) →
      ∀ ds, ds.length = ps.length → ∃ ts m, PFB (cxOf (L2.CX P w) P w K mg base N qual (defScope st) f cdv A outer s H E) C (defBody st) ts (startF N (.ref a :: ds)) funF m ∧ ∀ s, m s = g ds s) :
    FnOk P w K mg base (L2.CX P w) (k + 1) f fd (p0 :: ps) (toSp K (spI (zP pk n j) mg g)) := by
  have hl : ∀ ds M Q E, spI (zP pk n j) mg g ds M Q E → ds.length = ps.length + 1 := fun ds M Q E ⟨a, b, r, s, B, _, e, _, q⟩ => by
    by_cases h : r.length = ps.length
    · rw [e, List.length_cons, h]
    · rw [len r s h] at q
      exact q.elim
  refine F.okX Sc (fun vs H Q E h => ?_) (fun cdv A outer s H vs Q E hr h => ?_)
  · obtain ⟨ds, M, Qd, Ed, r, _, q, _⟩ := h
    rw [r.length]
    exact hl _ _ _ _ q
  · obtain ⟨ds, M, Qd, Ed, r, m, q, l, lx⟩ := h
    have hlen := hl _ _ _ _ q
    obtain ⟨a, b, r0, s0, B, hab, rfl, rfl, q⟩ := q
    let C : FE K Pd := { Z := zP pk n j a b, B0 := B, M0 := (zP pk n j a b).put s0 B, H0 := H, Xi := fun e s' => ∀ c, mg e.cls = some c → Ed c e.fs ((zP pk n j a b).put s' B) }
    have tk := takes_of (X := cxOf (L2.CX P w) P w K mg base N qual (defScope st) f cdv A outer s H E) (E := E) rfl rfl rfl rfl
    have sub : ∀ {σ H' G B' s'}, Now C σ H' G B' s' → ∀ x o, (zP pk n j a b).put s' B x = some o → (zP pk n j a b).put s' B' x = some o := fun {σ H' G B' s'} n0 x o e => by
      by_cases hd : (zP pk n j a b).dom x
      · rw [(zP pk n j a b).inn _ B' B _ hd]; exact e
      · rw [(zP pk n j a b).out _ _ _ hd] at e ⊢; exact n0.sub x o e
    have rz : Rz (cxOf (L2.CX P w) P w K mg base N qual (defScope st) f cdv A outer s H E) C (fun cls d _ H => E cls d H) (fun _ => True) := ⟨passAt tk, fun σ H' G B' s' e c d vs _ n0 xi hc hd fr =>
      lx c e.fs _ d vs H' (xi c hc) (fun x o h1 h2 h3 => ⟨(n0.st x o h1 h2 h3).1, by
        obtain ⟨g1, g2⟩ := none_put h2
        rw [(zP pk n j a b).out _ _ _ g1]; exact g2⟩) hd fr (n0.rm.sub (sub n0))⟩
    obtain ⟨ts, mm, h1, h2⟩ := hbody cdv A outer s H E C _ a b hab rfl hr (passes_of rfl) tk rz r0 (by simpa using hlen)
    refine ⟨ts, h1.pe, h1.se _ H B s0 (fun d s' => Qd d ((zP pk n j a b).put s' B)) _ (now_start r m rfl rfl rfl) ⟨fun G m σ' H' B' s' e _ n0 w => ?_, fun _ _ _ _ _ _ z => z.elim, fun _ _ _ _ _ _ z => z.elim, fun d m v σ' H' G B' s' e _ n0 r w => ?_, fun _ _ _ _ _ _ _ _ z => z.elim⟩ (by rw [h2]; exact q)⟩
    · have e : m = okS .non := e
      subst e
      exact l.wk _ _ _ _ ⟨_, sub n0, w⟩ n0.st .non n0.rm
    · have e : m = okS d := e
      subst e
      exact l.wk _ _ _ _ ⟨_, sub n0, w⟩ n0.st r n0.rm
end
end FL
end
section
set_option maxHeartbeats 4000000
/-! FM: calls with keywords; another name for the inner list. -/
namespace FL
open PySem PySem.Spec PyProof.Rows L2 DL RZ

section
variable {X : Cx} {CX : CXT} {k : Nat} {f : Addr} {fd : FuncData} {ps ks : List Str} {sp : Sp} {E : L2.St → XK} {x : Str} {p pos : Pos} {e : Expr} {es : List Expr} {kws : List Keyword} {t tk : TA} {g : List Value → List Value → List Value} {gV : List V → List V → List V}
theorem run_fnkS {pins : List (Addr × Obj)} {σ : L2.St} {H : Hp} {s : Shared} {Q : VK} {us ws : List Value} {vs zs : List V} (F : FnOk X.prog X.w X.K X.mg X.base CX k f fd ps sp) (hr : Room k X.A) (hb : KBinds X.K fd ps ks g gV) (hx : PassesAt CX X σ (E σ))
    (I : L2.Inv X pins σ H s) (r : Vals vs us) (rz : Vals zs ws) (h : sp (gV vs zs) H Q (E σ)) : wpAny (model X.prog X.w) X.A (call (.ref f) us (ks.zip ws)) (EP X pins σ Q) X.xe s := by
  have r2 := hb.rel r rz
  have hl : (g us ws).length = ps.length := by rw [← r2.length]; exact F.len _ _ _ _ h
  refine wpAny_call (codeAny_mono (F.run X.A X.stack s H ⟨us, ks.zip ws⟩ (g us ws) (gV vs zs) Q (E σ) hr I.env0 (hb.to s us ws I.kIn hl) r2 h) fun r s' hq => ?_)
  cases r with
  | error e => exact hx pins H s e s' I hq
  | ok fl =>
    cases fl with
    | ret u => exact I.after hq
    | next => exact False.elim hq
    | brk => exact False.elim hq
    | cont => exact False.elim hq
def tCallKS (sp : Sp) (gV : List V → List V → List V) (E : L2.St → XK) (t tk : TA) : TE := fun σ H Q => t σ H fun vs H1 => tk σ H1 fun zs H2 => sp (gV vs zs) H2 Q (E σ)
theorem pe_callKS (F : FnOk X.prog X.w X.K X.mg X.base CX k f fd ps sp) (hr : Room k X.A) (hg : Gl X x) (hm : X.mg x = some (.ref f)) (hk : PySem.W.keepIn X.K (.ref f) = true) (hb : KBinds X.K fd ps ks g gV) (hx : ∀ σ, PassesAt CX X σ (E σ))
    (ha : PA X (e :: es) t) (hkw : L2.PK X kws tk) (hall : (backToKw pos (keywordEach kws X.env)).all (·.1.isSome) = true := by rfl) (hks : (backToKw pos (keywordEach kws X.env)).filterMap (·.1) = ks := by rfl)
    (hdb : (x == ("__debug__" : Str)) = false := by decide) (he : starEach (e :: es) X.env = (false, eval e X.env) :: starEach es X.env := by rfl)
    (hpl : ((backTo pos (starEach (e :: es) X.env)).any (·.1) || (backToKw pos (keywordEach kws X.env)).any (·.1.isNone)) = false := by rfl) :
    PE X (.Call (.Name x p) (e :: es) kws pos) (tCallKS sp gV E t tk) := by
  refine ⟨fun pins s σ H Q I h => ?_⟩
  refine wpAny_Call_Name_kw (ld_glob I hg hm ?_ hdb)
  refine PySem.W.callWith_KW (h₀ := X.base) I.ok.mod.kin hk hall (thn (ha.run pos pins s σ H _ I h) fun us s1 ⟨vs, H1, I1, r, q⟩ => ?_) hpl he
  refine thn (hkw.run pos pins s1 σ H1 _ I1 q) fun ws s2 ⟨zs, H2, I2, rz, q2⟩ => ⟨I2.kIn, ?_⟩
  rw [hks]
  exact run_fnkS F hr hb (hx σ) I2 r rz q2
theorem pe_callKS0 (F : FnOk X.prog X.w X.K X.mg X.base CX k f fd ps sp) (hr : Room k X.A) (hg : Gl X x) (hm : X.mg x = some (.ref f)) (hk : PySem.W.keepIn X.K (.ref f) = true) (hb : KBinds X.K fd ps ks g gV) (hx : ∀ σ, PassesAt CX X σ (E σ))
    (hkw : L2.PK X kws tk) (hall : (backToKw pos (keywordEach kws X.env)).all (·.1.isSome) = true := by rfl) (hks : (backToKw pos (keywordEach kws X.env)).filterMap (·.1) = ks := by rfl)
    (hdb : (x == ("__debug__" : Str)) = false := by decide) (hpl : ((backTo pos (starEach [] X.env)).any (·.1) || (backToKw pos (keywordEach kws X.env)).any (·.1.isNone)) = false := by rfl) :
    PE X (.Call (.Name x p) [] kws pos) (tCallKS sp gV E tNil tk) := by
  refine ⟨fun pins s σ H Q I h => ?_⟩
  refine wpAny_Call_Name_kw (ld_glob I hg hm ?_ hdb)
  refine PySem.W.callWith_KW0 (h₀ := X.base) I.ok.mod.kin hk hall ?_ hpl
  refine thn (hkw.run pos pins s σ H _ I h) fun ws s2 ⟨zs, H2, I2, rz, q2⟩ => ⟨I2.kIn, ?_⟩
  rw [hks]
  exact run_fnkS F hr hb (hx σ) I2 .nil rz q2
end
section
variable {K : PySem.W.Frag} {S ρ : Type} {X : Cx} {C : FE K S} {G : FG} {e : Expr} {es : List Expr} {ste : TE} {str stk : TA} {me : Cd S D} {mr mk : Cd S (List D)} {kws : List Keyword} {nm : Option Str} {kpos pos p : Pos}
structure PFK (X : Cx) (C : FE K S) (kws : List Keyword) (te : TA) (G : FG) (m : Cd S (List D)) : Prop where
  hK : X.K = K
  pe : L2.PK X kws te
  se : SimA C te G m
theorem fknil (hK : X.K = K := by rfl) : PFK X C [] tNil G (okS []) := ⟨hK, pk_nil, fun σ H B s Q n w => w [] H KT.refl n .nil⟩
theorem fkcons (ha : PF X C e ste G me) (hr : PFK X C kws stk G mk) : PFK X C (⟨nm, e, kpos⟩ :: kws) (tCons ste stk) G (bindS me fun x => bindS mk fun r => okS (x :: r)) :=
  ⟨ha.hK, pk_cons ha.pe hr.pe, fun σ H B s Q n w => ha.se.seq n w fun x s1 v H1 k1 n1 r1 w1 => hr.se.seq n1 w1 fun r s2 vs H2 k2 n2 r2 w2 => w2 _ H2 (k1.trans k2) n2 (.cons (r1.kt k2) r2)⟩
variable {W : WX} {ok : FG → Prop} {k : Nat} {f : Addr} {fd : FuncData} {ps ks : List Str} {x : Str} {g : List D → Res Unit D} {gv : List Value → List Value → List Value} {gV : List V → List V → List V} {gD : List D → List D → List D}
theorem se_callKP (rz : Rz X C W ok) (hk : ok G) (ho : OrdOk gV gD) (hr : SimA C str G mr) (hkw : SimA C stk G mk) : SimE C (tCallKS (toSp K (spP X.mg g)) gV (WE W) str stk) G (bindS mr fun ds => bindS mk fun zs => liftU (g (gD ds zs))) := fun σ H B s Q n w =>
  hr.seq n w fun ds s1 vs H1 k1 n1 r1 w1 => hkw.seq n1 w1 fun zs s2 ws H2 k2 n2 r2 w2 => by
    refine ⟨gD ds zs, _, _, _, ho _ _ _ _ _ _ (r1.kt k2) r2, n2.rm, ?_, n2.liftI (Q := Q), rz.liftX hk n2⟩
    unfold spP
    exact (wp_liftU w2).mono (fun d _ q => ⟨s2, rfl, fun v H' k3 => q v H' ((k1.trans k2).trans k3)⟩) fun e _ h c hc => ⟨e, s2, rfl, rfl, hc, h⟩
theorem fcallK {mg : Str → Option Value} (F : FnOk X.prog X.w K X.mg X.base (L2.CX X.prog X.w) k f fd ps (toSp K (spP mg g))) (rz : Rz X C W ok) (hr : Room k X.A) (hg : Gl X x) (hm : X.mg x = some (.ref f)) (hkp : PySem.W.keepIn K (.ref f) = true) (hb : KBinds K fd ps ks gv gV) (ho : OrdOk gV gD)
    (ha : PFA X C (e :: es) str G mr) (hkw : PFK X C kws stk G mk) (hk : ok G := by exact trivial) (hall : (backToKw pos (keywordEach kws X.env)).all (·.1.isSome) = true := by rfl) (hks : (backToKw pos (keywordEach kws X.env)).filterMap (·.1) = ks := by rfl)
    (hdb : (x == ("__debug__" : Str)) = false := by decide) (he : starEach (e :: es) X.env = (false, eval e X.env) :: starEach es X.env := by rfl)
    (hpl : ((backTo pos (starEach (e :: es) X.env)).any (·.1) || (backToKw pos (keywordEach kws X.env)).any (·.1.isNone)) = false := by rfl) (hmg : X.mg = mg := by rfl) :
    PF X C (.Call (.Name x p) (e :: es) kws pos) (tCallKS (toSp K (spP mg g)) gV (WE W) str stk) G (bindS mr fun ds => bindS mk fun zs => liftU (g (gD ds zs))) := by
  have hK := ha.hK; subst hK; subst hmg
  exact ⟨rfl, pe_callKS F hr hg hm hkp hb rz.pass ha.pe hkw.pe hall hks hdb he hpl, se_callKP rz hk ho ha.se hkw.se⟩
theorem fcallK0 {mg : Str → Option Value} (F : FnOk X.prog X.w K X.mg X.base (L2.CX X.prog X.w) k f fd ps (toSp K (spP mg g))) (rz : Rz X C W ok) (hr : Room k X.A) (hg : Gl X x) (hm : X.mg x = some (.ref f)) (hkp : PySem.W.keepIn K (.ref f) = true) (hb : KBinds K fd ps ks gv gV) (ho : OrdOk gV gD)
    (hkw : PFK X C kws stk G mk) (hk : ok G := by exact trivial) (hall : (backToKw pos (keywordEach kws X.env)).all (·.1.isSome) = true := by rfl) (hks : (backToKw pos (keywordEach kws X.env)).filterMap (·.1) = ks := by rfl)
    (hdb : (x == ("__debug__" : Str)) = false := by decide) (hpl : ((backTo pos (starEach [] X.env)).any (·.1) || (backToKw pos (keywordEach kws X.env)).any (·.1.isNone)) = false := by rfl) (hmg : X.mg = mg := by rfl) :
    PF X C (.Call (.Name x p) [] kws pos) (tCallKS (toSp K (spP mg g)) gV (WE W) tNil stk) G (bindS mk fun zs => liftU (g (gD [] zs))) := by
  have hK := hkw.hK; subst hK; subst hmg
  exact ⟨rfl, pe_callKS0 F hr hg hm hkp hb rz.pass hkw.pe hall hks hdb hpl, se_callKP (mr := okS []) rz hk ho (fun σ H B s Q n w => w [] H KT.refl n .nil) hkw.se⟩
variable {F : Fam S ρ} {rest : List Stmt} {su : TS}
/-- another name for a thing of the state -/
theorem fstAl (i : Nat) {d : D} {x : Str} {pos' : Pos} {m : Cd S ρ} (hN : X.N.Nodup) (he : PF X C e ste G (okS d)) (hr : PFB X C rest su (sf G i (some (.val d))) F m) (hi2 : Nat.blt i G.length = true := by rfl) (hi : X.N[i]? = some x := by rfl) (hx : L2.Loc X.env.scope x := by first | exact .inl rfl | exact .inr rfl) (hs : swapsWith e (some (.Name x pos')) pos.line X.env = pure false := by rfl) (hf : X.fn x = true ∨ X.env.scope.names.lookup x = some .local := by first | exact .inl rfl | exact .inr rfl | assumption) :
    PFB X C (.Assign [.Name x pos'] e pos :: rest) (tSeq (tAsg ste (gName i)) su) G F m :=
  ⟨he.hK, pss_cons (ps_set hN hi hx he.pe hs hf) hr.pe, fun σ H B s Ψ E n k w => he.se σ H B s _ n fun v H1 k1 n1 r1 => hr.se _ H1 B s Ψ E (n1.setV r1 (Nat.le_of_ble_eq_true hi2)) (k.step k1) w⟩
end
end FL
end
section
set_option maxHeartbeats 4000000
/-! FT: raise, try. -/
namespace FL
open PySem PySem.Spec PyProof.Rows L2 DL RZ

/-! ### several except clauses, some with names -/
def setI (σ : L2.St) : Option Nat → Addr → L2.St
  | none, _ => σ
  | some i, a => σ.set i (some (.ref a))
def outI (D : Ends) : Option Nat → Ends
  | none => D
  | some i => { nx := fun σ' H' => D.nx (σ'.set i none) H', rt := D.rt, bk := fun σ' H' => D.bk (σ'.set i none) H', ct := fun σ' H' => D.ct (σ'.set i none) H' }
def wHd (X : Cx) (Wout : WX) (D : Ends) : List (Value × Option Nat × List Stmt) → WX
  | [] => Wout
  | (c, i, su) :: r => fun cls d σ H => ∃ b, PySem.W.exmOne X.K cls c = some b ∧ (b = true → ∀ a oe pn, H a = none → Zc cls d oe → (∃ vs, oe.data = .fields vs) → ∃ ts, PSs (X.suite a ((a, oe) :: pn)) su ts ∧ ts (outI D i) (setI σ i a) H) ∧ (b = false → wHd X Wout D r cls d σ H)
inductive HdsA (X : Cx) : List ExceptHandler → List (Value × Option Nat × List Stmt) → Prop
  | nil : HdsA X [] []
  | cons {x : Str} {c : Value} {b₀ : Stmt} {suite : List Stmt} {np pos' : Pos} {hds : List ExceptHandler} {l : List (Value × Option Nat × List Stmt)} (hc : Names X x c) (r : HdsA X hds l) :
      HdsA X (.ExceptHandler (some (.Name x np)) none (b₀ :: suite) pos' :: hds) ((c, none, b₀ :: suite) :: l)
  | as {x n : Str} {c : Value} {i : Nat} {b₀ : Stmt} {suite : List Stmt} {np pos' : Pos} {hds : List ExceptHandler} {l : List (Value × Option Nat × List Stmt)} (hc : Names X x c) (hi : X.N[i]? = some n) (hln : X.env.kindOf n = some .local) (r : HdsA X hds l) :
      HdsA X (.ExceptHandler (some (.Name x np)) (some n) (b₀ :: suite) pos' :: hds) ((c, some i, b₀ :: suite) :: l)
section
variable {X : Cx} {body : List Stmt} {h₀ : ExceptHandler} {hds : List ExceptHandler} {l : List (Value × Option Nat × List Stmt)} {pos : Pos} {Wout : WX}
theorem ps_try_hd (hs : X.stack = X.env :: X.outer) (hf : X.env.frame = some X.env.locals) (hN : X.N.Nodup) (tk : Takes X Wout)
    (hh : HdsA X (h₀ :: hds) l) : PS X (.Try body (h₀ :: hds) [] [] pos) (fun D σ H => ∀ pn xe, Takes (X.tr pn xe) (wHd X Wout D l) → PassesOwn (model X.prog X.w) X.A X.env xe → ∃ ts, PSs (X.tr pn xe) body ts ∧ ts D σ H) := by
  refine ⟨fun pins s σ H D I h => ?_⟩
  have ok := I.ok
  have hfr : X.A.frames = some (X.env :: X.outer) := by rw [ok.frames, hs]
  refine wpAny_Try_except ?_
  obtain ⟨ts, hps, hts⟩ := h (X.pn ++ pins) (fun e s₁ => wpAny (model X.prog X.w) X.A (noteFrame e X.env) (fun _ s₂ => wpAny (model X.prog X.w) X.A (setFlight e none) (fun _ s₃ =>
    wpAny (model X.prog X.w) X.A (handleBy e X.env (h₀ :: hds)) (SP X pins D) X.xe s₃) X.xe s₂) X.xe s₁) (fun u s' xx => by
    -- the catch
    obtain ⟨a, B, sI, pins', σ', H', cls, d, rfl, J', nb, up, sky, na, os, ag, w⟩ := xx
    have J : Inv X pins σ' H' sI := J'.ofTry ok
    have sky' : Sky B (X.env :: X.outer) a (Zc cls d) X.env.locals s'.heap := by rw [← hs]; exact sky
    show wpAny (model X.prog X.w) X.A (noteFrame (.ref a) X.env) _ _ _
    refine Sky.land Zc.steady hfr hf sky' fun h3 fl3 up3 => ?_
    have J3 : Inv X pins σ' H' { s' with heap := h3 } := J.landed nb fl3.1 (up.trans up3) os ag
    obtain ⟨oe3, vs3, he3, hz3, hd3⟩ := fl3.there
    have notFr : ∀ {h : Heap} {o : Obj} {vs : Array Value}, h.FunFrames B (X.env :: X.outer) → h.get? a = some o → o.data = .fields vs → a ∉ frs (X.env :: X.outer) := fun {h o vs} ff e dd hm => by
      obtain ⟨_, o', e', hnf⟩ := ff.mem hm
      rw [e] at e'; cases e'
      exact hnf _ dd
    have nfr := notFr fl3.2.2.1 he3 hd3
    have nL : a ≠ X.env.locals := fun z => nfr (List.mem_filterMap.mpr ⟨X.env, List.mem_cons_self, by rw [hf, z]⟩)
    have nF : a ∉ X.fs := fun hm => by
      obtain ⟨e, he, q⟩ := List.mem_filterMap.mp hm
      exact nfr (List.mem_filterMap.mpr ⟨e, List.mem_cons_of_mem _ he, q⟩)
    have S3 := J3.suite he3 hd3 na nL nF
    have LT : PySem.W.Looks (model X.prog X.w) h3 (typeOf (.ref a)) cls := fun A Q E s k q => wpAny_typeOf_ref (k _ _ he3) (by rw [hz3.1]; exact q)
    have go : ∀ {hds' : List ExceptHandler} {l' : List (Value × Option Nat × List Stmt)}, HdsA X hds' l' → wHd X Wout D l' cls d σ' H' →
        wpAny (model X.prog X.w) X.A (handleBy (.ref a) X.env hds') (SP X pins D) X.xe { s' with heap := h3 } := by
      intro hds' l' hk
      induction hk with
      | nil =>
        intro w
        refine wpAny_handleBy_nil ?_
        obtain ⟨k1, k2, k3, oe, vs, T, oT, ts', he, hz, hd, h1, hr⟩ := id fl3
        unfold PySem.passOn
        refine wpAny_bind (wpAny_field he hd h1 ?_)
        rw [if_neg (show ¬ ((Value.ref T == Value.none) = true) from by simp)]
        have fin : wpAny (model X.prog X.w) X.A (setFlight (.ref a) X.env.frame) (fun _ s4 => wpAny (model X.prog X.w) X.A (throw (.ref a) : Sem Flow) (SP X pins D) X.xe s4) X.xe { s' with heap := h3 } := by
          rw [hf]
          refine HandSPX.setFlight_upZ fl3 fun h4 hh4 up4 => wpAny_throw (tk _ _ ?_)
          exact ⟨a, B, sI, pins, σ', H', cls, d, rfl, J, nb, (up.trans up3).trans up4, .inr (.inr (by rw [hs]; exact hh4)), na, os, ag, w⟩
        first
          | exact wpAny_bind (wpAny_pure (wpAny_bind fin))
          | exact wpAny_bind fin
      | @cons x c b₀ suite np pos' hds2 l2 hc r ih =>
        intro w
        obtain ⟨b, hb1, hyes, hno⟩ := w
        refine wpAny_handleBy_cons (codeAny_handlers_test ?_) (by intro q; cases q)
        have LM := PySem.W.exm_one (M := model X.prog X.w) (J3.kIn) LT hb1
        have test : ∀ {Q : Value → Shared → Prop} {E : Value → Shared → Prop}, Q c { s' with heap := h3 } → wpAny (model X.prog X.w) (X.A.mark (some (.ref a))) (eval (.Name x np) X.env) Q E { s' with heap := h3 } := fun {Q E} q => by
          obtain ⟨hg, hdbg, hm | ⟨hm, hv, hnn⟩⟩ := hc
          · exact ld_glob (X := X.suite a ((a, oe3) :: (X.pn ++ pins))) S3 hg hm q hdbg
          · exact ld_blt (X := X.suite a ((a, oe3) :: (X.pn ++ pins))) S3 hg hm hv q hnn hdbg
        refine test (LM.here ?_)
        cases b with
        | true =>
          refine codeAny_handlers_suite ?_
          refine HandSPX.lands_againZ fl3 fun h4 fl4 up4 => ?_
          have J4 : Inv X pins σ' H' { s' with heap := h4 } := J.landed nb fl4.1 ((up.trans up3).trans up4) os ag
          obtain ⟨oe4, vs4, he4, hz4, hd4⟩ := fl4.there
          have S4 := J4.suite he4 hd4 na nL nF
          obtain ⟨ts, hps, hts⟩ := hyes rfl a oe4 (X.pn ++ pins) na hz4 ⟨_, hd4⟩
          refine wpAny_mono (hps.run [] _ _ H' _ S4 hts) (fun f s6 hsp => ?_) (fun _ _ z => False.elim z)
          cases f with
          | next =>
            obtain ⟨σ6, H6, S6, q6⟩ := hsp
            exact ⟨_, _, S6.unsuite ok, q6⟩
          | brk =>
            obtain ⟨σ6, H6, S6, q6⟩ := hsp
            exact ⟨_, _, S6.unsuite ok, q6⟩
          | cont =>
            obtain ⟨σ6, H6, S6, q6⟩ := hsp
            exact ⟨_, _, S6.unsuite ok, q6⟩
          | ret u =>
            obtain ⟨v6, σ6, H6, S6, r6, q6⟩ := hsp
            exact ⟨_, _, _, S6.unsuite ok, r6, q6⟩
        | false =>
          show wpAny _ X.A (handleBy (.ref a) X.env hds2) _ _ _
          exact ih (hno rfl)
      | @as x n c i b₀ suite np pos' hds2 l2 hc hi hln r ih =>
        intro w
        have hloc : L2.Loc X.env.scope n := .inl hln
        obtain ⟨b, hb1, hyes, hno⟩ := w
        refine wpAny_handleBy_cons (codeAny_handlers_test ?_) (by intro q; cases q)
        have LM := PySem.W.exm_one (M := model X.prog X.w) (J3.kIn) LT hb1
        have test : ∀ {Q : Value → Shared → Prop} {E : Value → Shared → Prop}, Q c { s' with heap := h3 } → wpAny (model X.prog X.w) (X.A.mark (some (.ref a))) (eval (.Name x np) X.env) Q E { s' with heap := h3 } := fun {Q E} q => by
          obtain ⟨hg, hdbg, hm | ⟨hm, hv, hnn⟩⟩ := hc
          · exact ld_glob (X := X.suite a ((a, oe3) :: (X.pn ++ pins))) S3 hg hm q hdbg
          · exact ld_blt (X := X.suite a ((a, oe3) :: (X.pn ++ pins))) S3 hg hm hv q hnn hdbg
        refine test (LM.here ?_)
        cases b with
        | true =>
          refine codeAny_handlers_suite_as ?_
          refine HandSPX.lands_againZ fl3 fun h4 fl4 up4 => ?_
          have J4 : Inv X pins σ' H' { s' with heap := h4 } := J.landed nb fl4.1 ((up.trans up3).trans up4) os ag
          obtain ⟨oe4, vs4, he4, hz4, hd4⟩ := fl4.there
          have S4 := J4.suite he4 hd4 na nL nF
          refine store_ok (X := X.suite a ((a, oe4) :: (X.pn ++ pins))) (v := .ref a) S4 hN hi hloc rfl (fun s5 S5 => ?_) (.inr hln)
          obtain ⟨ts, hps, hts⟩ := hyes rfl a oe4 (X.pn ++ pins) na hz4 ⟨_, hd4⟩
          refine wpAny_mono (hps.run [] s5 _ H' _ S5 hts) (fun f s6 hsp => ?_) (fun _ _ z => False.elim z)
          have end_ : ∀ {σ6 : L2.St} {H6 : Hp} {Q : Shared → Prop}, Inv (X.suite a ((a, oe4) :: (X.pn ++ pins))) [] σ6 H6 s6 → (∀ s7, Inv X pins (σ6.set i none) H6 s7 → Q s7) →
              wpAny (model X.prog X.w) X.A (do bindName X.env n .none; unbindBehindTheSuite X.env n pos') (fun _ s7 => Q s7) X.xe s6 := fun {σ6 H6 Q} S6 hq => gone_ok (S6.unsuite ok) hN hi hln hq
          cases f with
          | next =>
            obtain ⟨σ6, H6, S6, q6⟩ := hsp
            exact end_ S6 fun s7 J7 => ⟨_, _, J7, q6⟩
          | brk =>
            obtain ⟨σ6, H6, S6, q6⟩ := hsp
            exact end_ S6 fun s7 J7 => ⟨_, _, J7, q6⟩
          | cont =>
            obtain ⟨σ6, H6, S6, q6⟩ := hsp
            exact end_ S6 fun s7 J7 => ⟨_, _, J7, q6⟩
          | ret u =>
            obtain ⟨v6, σ6, H6, S6, r6, q6⟩ := hsp
            exact end_ S6 fun s7 J7 => ⟨_, _, _, J7, r6, q6⟩
        | false =>
          show wpAny _ X.A (handleBy (.ref a) X.env hds2) _ _ _
          exact ih (hno rfl)
    exact go hh w) PassesOwn.looking
  refine wpAny_mono (hps.run [] s σ H D (I.toTry _) hts) (fun f s1 hsp => ?_) (fun e s1 he => he)
  cases f with
  | next =>
    obtain ⟨σ', H', J', q⟩ := hsp
    exact wpAny_execs_nil ⟨σ', H', J'.ofTry ok, q⟩
  | brk =>
    obtain ⟨σ', H', J', q⟩ := hsp
    exact ⟨σ', H', J'.ofTry ok, q⟩
  | cont =>
    obtain ⟨σ', H', J', q⟩ := hsp
    exact ⟨σ', H', J'.ofTry ok, q⟩
  | ret u =>
    obtain ⟨v, σ', H', J', r, q⟩ := hsp
    exact ⟨v, σ', H', J'.ofTry ok, r, q⟩
end

/-! ### the codes -/
section
variable {S α ρ : Type}
def raiS {α : Type} (cls : Str) (fs : List Str) (ds : List D) : Cd S α := fun s => if ds.length = fs.length then .exc ⟨cls, (fs.zip ds).reverse⟩ s else .stuck
def tryS (mb : Cd S α) (h : Xn → Cd S α) : Cd S α := fun s => match mb s with
  | .exc e s' => h e s'
  | .ok a s' => .ok a s'
  | .stuck => .stuck
def hsel (isa : Str → Str → Option Bool) : List (Str × (Xn → Cd S α)) → Xn → Cd S α
  | [], e => fun s => .exc e s
  | (k, f) :: r, e => match isa e.cls k with
    | some true => noxS (f e)
    | some false => hsel isa r e
    | none => stk
def tryF (g : α → FG) : Fam S (Ctl α) := { nx := fun G m => ∃ st, leG G (g st) ∧ m = okS (.nx st), rt := fun d m => m = okS (.rt d) }
/-- a field of the caught exception -/
def fexS (xs : List Str) (fld : Str) (e : Xn) : Cd S D := fun s => if e.cls ∈ xs then optS (e.fs.lookup fld) s else .stuck
end

/-! ### raise -/
/-- what a module's own exception class must be -/
def ExcOk (P : Program) (w : World) (K : PySem.W.Frag) (mg : Str → Option Value) (base : Heap) (x : Str) (fs : List Str) : Prop := ∃ Cc, mg x = some (.ref Cc) ∧ ∀ (X : Cx), X.prog = P → X.w = w → X.K = K → X.mg = mg → X.base = base → Room 1 X.A → ∀ (e : Expr) (es : List Expr) (ta : TA) (p pos : Pos), Gl X x → PA X (e :: es) ta →
  starEach (e :: es) X.env = (false, eval e X.env) :: starEach es X.env → (backTo pos (starEach es X.env)).any (·.1) = false → PMk X (.Call (.Name x p) (e :: es) [] pos) (SX.tSup Cc fs ta)
section
variable {K : PySem.W.Frag}
theorem freps_app {H : Hp} {as : List (Str × V)} {bs : List (Str × D)} {cs : List (Str × V)} {ds : List (Str × D)} (h : FReps K H as bs) (g : FReps K H cs ds) : FReps K H (as ++ cs) (bs ++ ds) := by
  induction h with
  | nil => exact g
  | cons r _ ih => exact .cons r ih
theorem freps_rev {H : Hp} {as : List (Str × V)} {bs : List (Str × D)} (h : FReps K H as bs) : FReps K H as.reverse bs.reverse := by
  induction h with
  | nil => exact .nil
  | cons r _ ih => simp only [List.reverse_cons]; exact freps_app ih (.cons r .nil)
theorem freps_zip {H : Hp} : ∀ (fs : List Str) {vs : List V} {ds : List D}, Reps K H vs ds → FReps K H (fs.zip vs) (fs.zip ds)
  | [], _, _, _ => .nil
  | _ :: _, _, _, .nil => .nil
  | _ :: fs, _, _, .cons r t => .cons r (freps_zip fs t)
theorem freps_look {H : Hp} {as : List (Str × V)} {bs : List (Str × D)} (h : FReps K H as bs) {f : Str} {d : D} (e : bs.lookup f = some d) : ∃ v, as.lookup f = some v ∧ Rep K H v d := by
  induction h with
  | nil => cases e
  | @cons k v d' as bs r _ ih =>
    simp only [List.lookup] at e ⊢
    cases hk : (f == k) with
    | true => rw [hk] at e; cases e; exact ⟨v, rfl, r⟩
    | false => rw [hk] at e; exact ih e
theorem FReps.kt {H H' : Hp} (k : KT H H') {as : List (Str × V)} {bs : List (Str × D)} (h : FReps K H as bs) : FReps K H' as bs := by
  induction h with
  | nil => exact .nil
  | cons r _ ih => exact .cons (r.kt k) ih
end
section
variable {K : PySem.W.Frag} {S ρ α : Type} {X : Cx} {C : FE K S} {G : FG} {F : Fam S ρ} {rest : List Stmt} {su : TS} {e : Expr} {es : List Expr} {str : TA} {mr : Cd S (List D)} {pos cpos p : Pos} {x : Str} {W : WX} {ok : FG → Prop}
theorem fraise {P : Program} {w : World} {mg : Str → Option Value} {base : Heap} {fs : List Str} (hE : ExcOk P w K mg base x fs) (tk : Takes X W) (rz : Rz X C W ok) (hr : Room 1 X.A) (hc : X.calm = true) (hg : Gl X x) (ha : PFA X C (e :: es) str G mr) (hk : ok G := by exact trivial)
    (he : starEach (e :: es) X.env = (false, eval e X.env) :: starEach es X.env := by rfl) (hpl : (backTo cpos (starEach es X.env)).any (·.1) = false := by rfl) (hP : X.prog = P := by rfl) (hw : X.w = w := by rfl) (hK : X.K = K := by rfl) (hmg : X.mg = mg := by rfl) (hb : X.base = base := by rfl) :
    PFB X C [.Raise (some (.Call (.Name x p) (e :: es) [] cpos)) none pos] (fun _ σ H => ∃ Cc, mg x = some (.ref Cc) ∧ SX.tSup Cc fs str σ H fun cls d H' => W cls d σ H') G F (bindS mr fun ds => raiS x fs ds) := by
  obtain ⟨Cc, h1, h2⟩ := hE
  have hm := h2 X hP hw hK hmg hb hr e es str p cpos hg ha.pe he hpl
  have ps := ps_raise (W := W) (pos := pos) hc tk hm
  refine ⟨hK, pss_one ⟨fun pins s σ H D I h => ps.run pins s σ H D I ?_⟩, fun σ H B s Ψ E n k w1 => ⟨Cc, h1, ha.se.seq n w1 fun ds s1 vs H1 k1 n1 r1 w2 => ?_⟩⟩
  · obtain ⟨C', e1, h⟩ := h
    rw [h1] at e1; cases e1
    exact h
  · have w2 : (raiS x fs ds s1).wp Ψ C.Xi := w2
    unfold raiS at w2
    split at w2
    · rename_i hl
      refine ⟨by rw [r1.length, hl], fun d hd => ?_⟩
      exact rz.wish σ _ G B s1 ⟨x, _⟩ (.ref Cc) d _ hk (n1.ext (Same.new hd)) w2 (by rw [hmg]; exact h1) upd_same (freps_rev (freps_zip fs (r1.kt (Same.kt (Same.new hd)))))
    · exact w2.elim

/-! ### try -/
theorem Now.clr {σ : L2.St} {H : Hp} {B : Mp} {s : S} {i : Nat} (n : Now C σ H G B s) (hi : gf G i = none) : Now C (σ.set i none) H G B s where
  len := by rw [List.length_set]; exact n.len
  vals := fun j d h => by
    have hj : j ≠ i := fun e => by subst e; rw [hi] at h; cases h
    obtain ⟨v, h1, h2⟩ := n.vals j d h
    exact ⟨v, by rw [List.getElem?_set_ne (Ne.symm hj)]; exact h1, h2⟩
  owns := fun j o h => by
    have hj : j ≠ i := fun e => by subst e; rw [hi] at h; cases h
    obtain ⟨p, h1, h2⟩ := n.owns j o h
    exact ⟨p, by rw [List.getElem?_set_ne (Ne.symm hj)]; exact h1, h2⟩
  dist := fun j k o u p q hn h1 h2 h3 h4 => by
    have hj : j ≠ i := fun e => by subst e; rw [hi] at h1; cases h1
    have hk : k ≠ i := fun e => by subst e; rw [hi] at h2; cases h2
    rw [List.getElem?_set_ne (Ne.symm hj)] at h3
    rw [List.getElem?_set_ne (Ne.symm hk)] at h4
    exact n.dist j k o u p q hn h1 h2 h3 h4
  sub := n.sub
  rm := n.rm
  st := n.st
def setG (Gh : FG) : Option Nat → Addr → FG
  | none, _ => Gh
  | some i, a => sf Gh i (some (.val (.ref a)))
/-- a clause's suite -/
def HdP (X : Cx) (C : FE K S) (Gh : FG) (g : α → FG) (i : Option Nat) (su : List Stmt) (f : Xn → Cd S (Ctl α)) : Prop := ∀ (e : Xn) (C' : FE K S) (a : Addr) (oe : Obj) (cv : Value) (d : Addr) (vs : List (Str × V)) (pn : List (Addr × Obj)), C'.Z = C.Z → C'.Xi = (fun _ _ => False) → X.mg e.cls = some cv → Zc cv (some d) oe → (∃ vs, oe.data = .fields vs) → C'.H0 d = some (.xd vs) → C'.M0 d = none → FReps K C'.H0 vs e.fs → RepM K C'.H0 C'.M0 →
  ∃ ts, PFB (X.suite a ((a, oe) :: pn)) C' su ts (setG Gh i a) (tryF g) (f e)
inductive HdA (X : Cx) (C : FE K S) (Gh : FG) (g : α → FG) : List ExceptHandler → List (Value × Option Nat × List Stmt) → List (Str × (Xn → Cd S (Ctl α))) → Prop
  | nil : HdA X C Gh g [] [] []
  | cons {x : Str} {c : Value} {b₀ : Stmt} {suite : List Stmt} {np pos' : Pos} {hds : List ExceptHandler} {l : List (Value × Option Nat × List Stmt)} {f : Xn → Cd S (Ctl α)} {fl : List (Str × (Xn → Cd S (Ctl α)))} (hm : X.mg x = some c) (hg : Gl X x) (hd : (x == ("__debug__" : Str)) = false) (h : HdP X C Gh g none (b₀ :: suite) f) (r : HdA X C Gh g hds l fl) :
      HdA X C Gh g (.ExceptHandler (some (.Name x np)) none (b₀ :: suite) pos' :: hds) ((c, none, b₀ :: suite) :: l) ((x, f) :: fl)
  | as {x n : Str} {c : Value} {i : Nat} {b₀ : Stmt} {suite : List Stmt} {np pos' : Pos} {hds : List ExceptHandler} {l : List (Value × Option Nat × List Stmt)} {f : Xn → Cd S (Ctl α)} {fl : List (Str × (Xn → Cd S (Ctl α)))} (hm : X.mg x = some c) (hg : Gl X x) (hd : (x == ("__debug__" : Str)) = false) (hi : X.N[i]? = some n) (hln : X.env.kindOf n = some .local) (hgi : ∀ st, gf (g st) i = none) (hgl : Nat.blt i Gh.length = true) (h : HdP X C Gh g (some i) (b₀ :: suite) f) (r : HdA X C Gh g hds l fl) :
      HdA X C Gh g (.ExceptHandler (some (.Name x np)) (some n) (b₀ :: suite) pos' :: hds) ((c, some i, b₀ :: suite) :: l) ((x, f) :: fl)
theorem HdA.hds {Gh : FG} {g : α → FG} {hds : List ExceptHandler} {l : List (Value × Option Nat × List Stmt)} {fl : List (Str × (Xn → Cd S (Ctl α)))} (h : HdA X C Gh g hds l fl) : HdsA X hds l := by
  induction h with
  | nil => exact .nil
  | cons hm hg hd _ _ ih => exact .cons ⟨hg, hd, .inl hm⟩ ih
  | as hm hg hd hi hln _ _ _ _ ih => exact .as ⟨hg, hd, .inl hm⟩ hi hln ih
/-- isa tells of the classes what is so -/
def IsaOk (K : PySem.W.Frag) (mg : Str → Option Value) (isa : Str → Str → Option Bool) : Prop := ∀ e k b c ck, isa e k = some b → mg e = some c → mg k = some ck → PySem.W.exmOne K c ck = some b
/-- the context of a try's body, of a suite -/
def sC (C : FE K S) (B : Mp) (s : S) (H : Hp) (Xi : Xn → S → Prop) : FE K S := { Z := C.Z, B0 := C.B0, M0 := C.Z.put s B, H0 := H, Xi := Xi }
theorem Now.into {σ : L2.St} {H : Hp} {B : Mp} {s : S} {Xi : Xn → S → Prop} (n : Now C σ H G B s) : Now (sC C B s H Xi) σ H G B s where
  len := n.len
  vals := n.vals
  owns := fun i o h => by
    obtain ⟨p, e1, e2, e3, e4, e5⟩ := n.owns i o h
    refine ⟨p, e1, e2, e3, e4, fun o h1 h2 => ?_⟩
    have h2 : C.Z.put s B p = none := h2
    rw [C.Z.out _ _ _ e2, e3] at h2
    cases h2
  dist := n.dist
  sub := n.sub
  rm := n.rm
  st := Step.refl
theorem Now.outof {σ σ0 : L2.St} {H H' : Hp} {G0 : FG} {B B' : Mp} {s s' : S} {Xi : Xn → S → Prop} (n0 : Now C σ0 H G0 B s) (n : Now (sC C B s H Xi) σ H' G B' s') : Now C σ H' G B' s' where
  len := n.len
  vals := n.vals
  owns := fun i o h => by
    obtain ⟨p, e1, e2, e3, e4, e5⟩ := n.owns i o h
    refine ⟨p, e1, e2, e3, e4, fun o h1 h2 => ?_⟩
    by_cases t : ∃ ps, o = .tbl ps
    · exact t
    · obtain ⟨q1, q2⟩ := n0.st p o h1 h2 (fun ps z => t ⟨ps, z⟩)
      exact e5 o q1 q2
  dist := n.dist
  sub := n.sub
  rm := n.rm
  st := n0.st.trans n.st
theorem Now.ktof {σ σ0 : L2.St} {H H' : Hp} {G0 : FG} {B B' : Mp} {s s' : S} {Xi : Xn → S → Prop} (n0 : Now C σ0 H G0 B s) (n : Now (sC C B s H Xi) σ H' G B' s') : KT H H' := (show DL.Step (C.Z.put s B) H (C.Z.put s' B') H' from n.st).kt n0.rm
theorem wish_hd {Gh : FG} {g : α → FG} {isa : Str → Str → Option Bool} {mr : α → Cd S ρ} {rk : D → Cd S ρ} {E : Ends} {Ψ : ρ → S → Prop} {Hs : Hp} {hds : List ExceptHandler} {l : List (Value × Option Nat × List Stmt)} {fl : List (Str × (Xn → Cd S (Ctl α)))} (hda : HdA X C Gh g hds l fl) (hisa : IsaOk X.K X.mg isa) (rz : Rz X C W ok) (hok : ∀ G, leG G Gh → ok G)
    (hr : ∀ st, PFB X C rest su (g st) F (mr st)) (hrk : ∀ d, F.rt d (rk d)) (fok : FOk C Hs F Ψ E) {σ : L2.St} {H : Hp} {B : Mp} {s : S} {e : Xn} {c : Value} {d : Addr} {vs : List (Str × V)} (kt0 : KT Hs H) (n : Now C σ H G B s) (hle : leG G Gh)
    (xi : (hsel isa fl e s).wp (fun c s' => (ctlS mr rk c s').wp Ψ C.Xi) C.Xi) (hc : X.mg e.cls = some c) (hd : H d = some (.xd vs)) (fr : FReps K H vs e.fs) : wHd X W { E with nx := su E } l c (some d) σ H := by
  have hdM : C.Z.put s B d = none := by
    cases z : C.Z.put s B d with
    | none => rfl
    | some o =>
      have := n.rm.2 d o z
      cases o with
      | lst ds => obtain ⟨vs, h1, _⟩ := this; rw [hd] at h1; cases h1
      | dct kvs => obtain ⟨vs, h1, _⟩ := this; rw [hd] at h1; cases h1
  have ends : ∀ (i : Option Nat), (∀ st j, i = some j → gf (g st) j = none) → FOk (sC C B s H fun _ _ => False) H (tryF g) (fun c s' => (ctlS mr rk c s').wp Ψ C.Xi) (outI { E with nx := su E } i) := fun i hi => by
    have rt : ∀ d m v σ2 H2 G2 B2 s2, (tryF (S := S) g).rt d m → KT H H2 → Now (sC C B s H fun _ _ => False) σ2 H2 G2 B2 s2 → Rep K H2 v d → (m s2).wp (fun c s' => (ctlS mr rk c s').wp Ψ C.Xi) (sC C B s H fun _ _ => False).Xi → E.rt v H2 := fun d m v σ2 H2 G2 B2 s2 hm k2 n2 r2 w2 => by
      have hm : m = okS (.rt d) := hm
      subst hm
      exact fok.rt d (rk d) v σ2 H2 G2 B2 s2 (hrk d) (kt0.trans k2) (n.outof n2) r2 w2
    have nx : ∀ (t : L2.St → L2.St), (∀ σ2 H2 B2 s2 st, Now C σ2 H2 (g st) B2 s2 → Now C (t σ2) H2 (g st) B2 s2) → ∀ G2 m σ2 H2 B2 s2, (tryF (S := S) g).nx G2 m → KT H H2 → Now (sC C B s H fun _ _ => False) σ2 H2 G2 B2 s2 → (m s2).wp (fun c s' => (ctlS mr rk c s').wp Ψ C.Xi) (sC C B s H fun _ _ => False).Xi → su E (t σ2) H2 := fun t ht G2 m σ2 H2 B2 s2 hm k2 n2 w2 => by
      obtain ⟨st, hl, hm⟩ := hm
      subst hm
      exact (hr st).se (t σ2) H2 B2 s2 Ψ E (ht _ _ _ _ _ ((n.outof n2).weak hl)) (fok.step (kt0.trans k2)) w2
    cases i with
    | none => exact ⟨nx id fun _ _ _ _ _ h => h, fun _ _ _ _ _ _ z => z.elim, fun _ _ _ _ _ _ z => z.elim, rt, fun _ _ _ _ _ _ _ _ z => z.elim⟩
    | some j => exact ⟨nx (fun σ => σ.set j none) fun _ _ _ _ st h => h.clr (hi st j rfl), fun _ _ _ _ _ _ z => z.elim, fun _ _ _ _ _ _ z => z.elim, rt, fun _ _ _ _ _ _ _ _ z => z.elim⟩
  induction hda with
  | nil => exact rz.wish σ H G B s e c d vs (hok G hle) n xi hc hd fr
  | @cons x ck b₀ suite np pos' hds l f fl hm hg hdb h r ih =>
    unfold hsel at xi
    cases hi : isa e.cls x with
    | none => rw [hi] at xi; exact xi.elim
    | some bb => cases bb with
    | true =>
      rw [hi] at xi
      refine ⟨true, hisa _ _ _ _ _ hi hc hm, fun _ a oe pn ha hz hf => ?_, fun z => nomatch z⟩
      obtain ⟨ts, q⟩ := h e (sC C B s H fun _ _ => False) a oe c d vs pn rfl rfl hc hz hf hd hdM fr n.rm
      exact ⟨ts, q.pe, q.se σ H B s _ _ ((n.weak hle).into) (ends none fun _ _ z => nomatch z) (wp_nox xi)⟩
    | false =>
      rw [hi] at xi
      exact ⟨false, hisa _ _ _ _ _ hi hc hm, (fun z => nomatch z), fun _ => ih xi⟩
  | @as x nn ck i b₀ suite np pos' hds l f fl hm hg hdb hi0 hln hgi hgl h r ih =>
    unfold hsel at xi
    cases hi : isa e.cls x with
    | none => rw [hi] at xi; exact xi.elim
    | some bb => cases bb with
    | true =>
      rw [hi] at xi
      refine ⟨true, hisa _ _ _ _ _ hi hc hm, fun _ a oe pn ha hz hf => ?_, fun z => nomatch z⟩
      obtain ⟨ts, q⟩ := h e (sC C B s H fun _ _ => False) a oe c d vs pn rfl rfl hc hz hf hd hdM fr n.rm
      exact ⟨ts, q.pe, q.se _ H B s _ _ (((n.weak hle).into).setV (.ref a) (Nat.le_of_ble_eq_true hgl)) (ends (some i) fun st j z => by cases z; exact hgi st) (wp_nox xi)⟩
    | false =>
      rw [hi] at xi
      exact ⟨false, hisa _ _ _ _ _ hi hc hm, (fun z => nomatch z), fun _ => ih xi⟩
theorem ftry (g : α → FG) (st0 : α) (Gh : FG) {isa : Str → Str → Option Bool} {mb : Cd S (Ctl α)} {mr : α → Cd S ρ} {rk : D → Cd S ρ} {body : List Stmt} {h₀ : ExceptHandler} {hds : List ExceptHandler} {l : List (Value × Option Nat × List Stmt)} {fl : List (Str × (Xn → Cd S (Ctl α)))} (hN : X.N.Nodup) (tk : Takes X W) (rz : Rz X C W ok) (hok : ∀ G, leG G Gh → ok G) (hisa : IsaOk X.K X.mg isa)
    (hda : HdA X C Gh g (h₀ :: hds) l fl) (hb : ∀ (C' : FE K S) (W' : WX) (pn : List (Addr × Obj)) (xe : Value → Shared → Prop), C'.Z = C.Z → Takes (X.tr pn xe) W' → PassesOwn (model X.prog X.w) X.A X.env xe → Rz (X.tr pn xe) C' W' (fun G => leG G Gh) → ∃ ts, PFB (X.tr pn xe) C' body ts G (tryF g) mb)
    (hr : ∀ st, PFB X C rest su (g st) F (mr st)) (hrk : ∀ d, F.rt d (rk d)) (hs : X.stack = X.env :: X.outer := by rfl) (hf : X.env.frame = some X.env.locals := by rfl) :
    PFB X C (.Try body (h₀ :: hds) [] [] pos :: rest) (tSeq (fun D σ H => ∀ pn xe, Takes (X.tr pn xe) (wHd X W D l) → PassesOwn (model X.prog X.w) X.A X.env xe → ∃ ts, PSs (X.tr pn xe) body ts ∧ ts D σ H) su) G F (bindS (tryS mb (hsel isa fl)) (ctlS mr rk)) := by
  refine ⟨(hr st0).hK, pss_cons (ps_try_hd hs hf hN tk hda.hds) (hr st0).pe, fun σ H B s Ψ E n fok w => fun pn xe tk' hp' => ?_⟩
  let Xi : Xn → S → Prop := fun e s' => (hsel isa fl e s').wp (fun c s' => (ctlS mr rk c s').wp Ψ C.Xi) C.Xi
  have rz' : Rz (X.tr pn xe) (sC C B s H Xi) (wHd X W { E with nx := su E } l) (fun G => leG G Gh) := ⟨passAt tk', fun σ2 H2 G2 B2 s2 e c d vs hle n2 xi hc hd fr =>
    wish_hd hda hisa rz hok hr hrk fok (n.ktof n2) (n.outof n2) hle xi hc hd fr⟩
  obtain ⟨ts, q⟩ := hb (sC C B s H Xi) _ pn xe rfl tk' hp' rz'
  refine ⟨ts, q.pe, q.se σ H B s (fun c s' => (ctlS mr rk c s').wp Ψ C.Xi) _ n.into ⟨fun G2 m σ2 H2 B2 s2 hm k2 n2 w2 => ?_, fun _ _ _ _ _ _ z => z.elim, fun _ _ _ _ _ _ z => z.elim, fun d m v σ2 H2 G2 B2 s2 hm k2 n2 r2 w2 => ?_, fun _ _ _ _ _ _ _ _ z => z.elim⟩ ?_⟩
  · obtain ⟨st, hl, hm⟩ := hm
    subst hm
    exact (hr st).se σ2 H2 B2 s2 Ψ E ((n.outof n2).weak hl) (fok.step k2) w2
  · have hm : m = okS (.rt d) := hm
    subst hm
    exact fok.rt d (rk d) v σ2 H2 G2 B2 s2 (hrk d) k2 (n.outof n2) r2 w2
  · have w := wp_bind.mp w
    unfold tryS at w
    show (mb s).wp _ Xi
    cases hh : mb s with
    | ok a s' => rw [hh] at w; exact w
    | exc e s' => rw [hh] at w; exact w
    | stuck => rw [hh] at w; exact w
theorem rzN (h : C.Xi = fun _ _ => False) : Rz X C (fun _ _ _ _ => False) (fun _ => True) := ⟨passF, fun _ _ _ _ _ _ _ _ _ _ _ z => by rw [h] at z; exact z.elim⟩
theorem isaOk_of {K : PySem.W.Frag} {mg : Str → Option Value} {t : List (Str × Str × Bool)} (h : ∀ x ∈ t, ∃ c ck, mg x.1 = some c ∧ mg x.2.1 = some ck ∧ PySem.W.exmOne K c ck = some x.2.2) : IsaOk K mg (fun e k => (t.find? fun x => x.1 == e && x.2.1 == k).map (·.2.2)) := fun e k b c ck hi h1 h2 => by
  cases hf : t.find? (fun x => x.1 == e && x.2.1 == k) with
  | none => dsimp only at hi; rw [hf] at hi; cases hi
  | some y =>
    dsimp only at hi
    rw [hf] at hi
    cases hi
    have hm := List.mem_of_find?_eq_some hf
    have hp := List.find?_some hf
    obtain ⟨p1, p2⟩ := Bool.and_eq_true_iff.mp hp
    obtain ⟨c', ck', g1, g2, g3⟩ := h y hm
    rw [eq_of_beq p1, h1] at g1
    rw [eq_of_beq p2, h2] at g2
    cases g1; cases g2
    exact g3
/-- a field of the caught exception -/
theorem fexf (i : Nat) {a d : Addr} {oe : Obj} {e : Xn} {cv : Value} {vs : List (Str × V)} {pn : List (Addr × Obj)} {fld n : Str} {np apos : Pos} {xs : List Str} {C' : FE K S} (hx : ∀ x ∈ xs, ∃ Cc, X.mg x = some (.ref Cc) ∧ XfC X.K Cc ∧ PySem.W.findIn X.K (.ref Cc) fld = some none) (hmg : X.mg e.cls = some cv) (hz : Zc cv (some d) oe) (hf : ∃ vs, oe.data = .fields vs) (hd : C'.H0 d = some (.xd vs)) (hm : C'.M0 d = none) (fr : FReps K C'.H0 vs e.fs) (rm : RepM K C'.H0 C'.M0)
    (hG : gf G i = some (.val (.ref a)) := by rfl) (hN : X.N[i]? = some n := by rfl) (hv : Vis X.env.scope n := by first | exact Or.inl rfl | exact Or.inr (Or.inl rfl) | exact Or.inr (Or.inr rfl)) (hdb : (n == ("__debug__" : Str)) = false := by decide) (hcd : (n == ("__classdict__" : Str)) = false := by decide) (hK : X.K = K := by rfl)
    (hb : attributeBase (.Name n np) fld X.env (eval (.Name n np) X.env) = eval (.Name n np) X.env := by rfl) :
    PF (X.suite a ((a, oe) :: pn)) C' (.Attribute (.Name n np) fld apos) (fun σ H Q => ∃ Cc, cv = .ref Cc ∧ XfC K Cc ∧ PySem.W.findIn K (.ref Cc) fld = some none ∧ tXf a cv (some d) Cc fld (tVar i) σ H Q) G (fexS xs fld e) := by
  subst hK
  have pv : PE (X.suite a ((a, oe) :: pn)) (.Name n np) (tVar i) := pe_var hN hv hdb hcd
  refine ⟨rfl, ⟨fun pins s σ H Q I h => ?_⟩, fun σ H B s Q n0 w => ?_⟩
  · obtain ⟨Cc, _, h1, h2, h3⟩ := h
    exact (pe_xf h1 h2 hz hf pv hb).run pins s σ H Q I h3
  · have w : (fexS xs fld e s).wp _ C'.Xi := w
    unfold fexS at w
    split at w
    · rename_i hin
      obtain ⟨Cc, g1, g2, g3⟩ := hx _ hin
      rw [hmg] at g1
      cases g1
      obtain ⟨z, ez, w⟩ := wp_opt w
      obtain ⟨v, l1, r1⟩ := freps_look fr ez
      obtain ⟨u, q1, q2⟩ := n0.vals i _ hG
      cases q2
      have h1 := (n0.st d _ hd hm (fun ps z => nomatch z)).1
      have k0 : KT C'.H0 H := n0.st.kt rm
      exact ⟨Cc, rfl, g2, g3, _, q1, rfl, rfl, d, vs, v, rfl, h1, l1, w v H KT.refl n0 (r1.kt k0)⟩
    · exact w.elim
end
end FL
end
section
set_option maxHeartbeats 4000000
/-! FY: own exception classes, as the written part shows them. -/
namespace FL
open PySem PySem.Spec PyProof.Rows L2 DL RZ
open PySem.W (Frag ks_superIn ksFn ksEnv)

def clsStmt (s : Stmt) (k : Nat) : Stmt := match s with
  | .ClassDef (body := b) .. => b.getD k (.Pass ⟨0, 0, 0, 0⟩)
  | _ => .Pass ⟨0, 0, 0, 0⟩
theorem exm_of {K : PySem.W.Frag} {C S : Addr} {b : Bool} (h1 : PySem.W.subIn K (.ref S) (.type "BaseException") = some true) (h2 : PySem.W.isClsIn K S = true) (h3 : PySem.W.typeIn K (.ref S) = some (.type "type")) (h4 : PySem.W.subIn K (.ref C) (.ref S) = some b) :
    PySem.W.exmOne K (.ref C) (.ref S) = some b := by
  have e1 : (PySem.W.subIn K (.ref S) (.type "BaseException") == some true) = true := by rw [h1] <;> rfl
  have e2 : ((PySem.W.clsIn K S).isSome && PySem.W.typeIn K (.ref S) == some (.type "type")) = true := by
    have h2' : (PySem.W.clsIn K S).isSome = true := h2
    rw [h2', h3] <;> rfl
  show (if (PySem.W.subIn K (.ref S) (.type "BaseException") == some true) = true then (if ((PySem.W.clsIn K S).isSome && PySem.W.typeIn K (.ref S) == some (.type "type")) = true then PySem.W.subIn K (.ref C) (.ref S) else none) else none) = some b
  rw [if_pos e1, if_pos e2]
  exact h4
section
variable {P : Program} {w : World} {K : Frag} {C fI : Addr} {qual : Str} {st : Stmt} {mg : Str → Option Value} {base : Heap}
theorem excOk1 {x x0 x1 f1 : Str} {ar : Arg} {p0 p1 p2 p3 p4 p5 p6 q1 q2 q3 : Pos} {plv : Sem Bool} (S : SX.SupC P K C fI qual st) (hm : mg x = some (.ref C)) (hms : mg "super" = none) (hno : PySem.W.findIn K (.ref C) f1 = some none)
    (hbody : defBody st = [.Expr (.Call (.Attribute (.Call (.Name "super" p0) [] [] p1) "__init__" p2) [.Name x1 q1] [] p3) p4, .Assign [.Attribute (.Name x0 q2) f1 p5] (.Name x1 q3) p6])
    (hpar : ((defArgs st).posonlyargs ++ (defArgs st).args).head? = some ar) (har : ar.arg = x0) (hx : x0 ≠ x1) (hd0 : (x0 == ("__debug__" : Str)) = false) (hd1 : (x1 == ("__debug__" : Str)) = false)
    (hbind : ∀ (kV doc pm : Value) (an : Option Addr) (cdv ct : Value) (cc : Addr) (us : List Value), us.length = 2 → bindArgs (ksFn "__init__" qual (defArgs st) (defBody st) (defScope st) .none kV doc pm an cdv ct cc) ⟨us, []⟩ = pure ([x0, x1].zip us))
    (hks : (defScope st).names.lookup ("super" : Str) = some .globalImplicit) (hkc : (defScope st).names.lookup ("__class__" : Str) = some .free) (hk0 : (defScope st).names.lookup x0 = some .local) (hk1 : (defScope st).names.lookup x1 = some .local) (hk : (defScope st).kind = .function)
    (hcell : ∀ x ∈ (defScope st).names, x.2 ≠ .cell) (hco : (defScope st).isCoroutine = false) (hgen : (defScope st).isGenerator = false)
    (hint : ∀ (L cda cc : Addr), interactive (ksEnv qual (defScope st) L fI (.ref cda) cc) = false) (hsw1 : ∀ (L cda cc : Addr), swapsWith (.Call (.Attribute (.Call (.Name "super" p0) [] [] p1) "__init__" p2) [.Name x1 q1] [] p3) none p4.line (ksEnv qual (defScope st) L fI (.ref cda) cc) = pure false)
    (hsw2 : ∀ (L cda cc : Addr), swapsWith (.Name x1 q3) (some (.Attribute (.Name x0 q2) f1 p5)) p6.line (ksEnv qual (defScope st) L fI (.ref cda) cc) = pure false)
    (he : ∀ env : Env, env.scope = defScope st → eval (.Call (.Attribute (.Call (.Name "super" p0) [] [] p1) "__init__" p2) [.Name x1 q1] [] p3) env = (do
      let ov ← attributeBase (.Call (.Name "super" p0) [] [] p1) "__init__" env (eval (.Call (.Name "super" p0) [] [] p1) env)
      standAt p2.atName
      let (f, first) ← holding [ov] (getMethod ov "__init__" plv)
      callWith p3 f first (backTo p3 (starEach [.Name x1 q1] env)) []))
    (hdx : (x == ("__debug__" : Str)) = false) : ExcOk P w K mg base x [f1] := by
  refine ⟨C, hm, fun X hP hw hK hmg hb hr e es ta p pos hg ha he1 hpl => ?_⟩
  subst hP; subst hw; subst hK; subst hmg; subst hb
  refine SX.pmk_sup S (fun us vs A s R a t0 rv hl hin hns ⟨mb, hb1, hb2⟩ lim hA ha0 hKa hq => ?_) hr (by show 1 ≤ 100; decide) hg hm ha hdx he1 hpl
  cases rv with
  | nil => cases hl
  | cons r1 rr => cases rr with
    | cons _ _ => cases hl
    | nil =>
      rename_i v u
      refine SX.init1 S hin hns hb1 hms ((hb2 "super" (by decide)).trans rfl) lim hA ha0 hbody hpar har hx hd0 hd1 hbind hks hkc hk0 hk1 hk hcell hco hgen hno hKa hint hsw1 hsw2 he fun h' t1 tk' dx k1 k2 k3 k4 k5 => ?_
      refine hq h' t1 tk' dx _ k1 k2 k3 k4 k5 fun f => ?_
      by_cases hf : f = f1
      · subst hf
        simp only [List.zip_cons_cons, List.zip_nil_right, List.reverse_cons, List.reverse_nil, List.nil_append, List.lookup, beq_self_eq_true, if_pos rfl]
        exact r1
      · have h1 : (f == f1) = false := beq_eq_false_iff_ne.mpr hf
        simp only [List.zip_cons_cons, List.zip_nil_right, List.reverse_cons, List.reverse_nil, List.nil_append, List.lookup, h1, if_neg hf]
        trivial
end
end FL
end
section
set_option maxHeartbeats 4000000
/-! FW: tools for the plain laws. -/
namespace FL
open PySem L2 DL

section
variable {S α β γ : Type}
@[simp] theorem bindS_okS (a : α) (f : α → Cd S β) : bindS (okS a) f = f a := Eq.trans (Eq.refl _) (Eq.refl _)
@[simp] theorem bindS_bindS (m : Cd S α) (f : α → Cd S β) (g : β → Cd S γ) : bindS (bindS m f) g = bindS m fun a => bindS (f a) g := by
  funext s; unfold bindS; cases m s <;> rfl
@[simp] theorem bindS_stk (f : α → Cd S β) : bindS (stk : Cd S α) f = stk := Eq.trans (Eq.refl _) (Eq.refl _)
@[simp] theorem optS_some (a : α) : (optS (some a) : Cd S α) = okS a := Eq.trans (Eq.refl _) (Eq.refl _)
@[simp] theorem optS_none : (optS none : Cd S α) = stk := Eq.trans (Eq.refl _) (Eq.refl _)
@[simp] theorem liftU_ok (a : α) (u : Unit) : (liftU (.ok a u) : Cd S α) = okS a := Eq.trans (Eq.refl _) (Eq.refl _)
@[simp] theorem liftU_stuck : (liftU .stuck : Cd S α) = stk := Eq.trans (Eq.refl _) (Eq.refl _)
@[simp] theorem liftU_exc (e : Xn) (u : Unit) : (liftU (.exc e u) : Cd S α) = exS e := Eq.trans (Eq.refl _) (Eq.refl _)
@[simp] theorem noxS_okS (a : α) : noxS (okS a : Cd S α) = okS a := Eq.trans (Eq.refl _) (Eq.refl _)
@[simp] theorem okS_ap (a : α) (s : S) : (okS a : Cd S α) s = .ok a s := Eq.trans (Eq.refl _) (Eq.refl _)
@[simp] theorem jn_eq (mr : α → Cd S β) (f : (α → Cd S β) → Cd S γ) : jn mr f = f mr := Eq.trans (Eq.refl _) (Eq.refl _)
@[simp] theorem foldS_nil (b : D → α → Cd S α) (st : α) : foldS b [] st = okS st := Eq.trans (Eq.refl _) (Eq.refl _)
@[simp] theorem foldS_cons (b : D → α → Cd S α) (d : D) (ds : List D) (st : α) : foldS b (d :: ds) st = bindS (b d st) fun st' => foldS b ds st' := Eq.trans (Eq.refl _) (Eq.refl _)
@[simp] theorem loopS_nil (b : D → α → Cd S (Ctl α)) (st : α) : loopS b [] st = okS (.nx st) := Eq.trans (Eq.refl _) (Eq.refl _)
theorem loopS_cons (b : D → α → Cd S (Ctl α)) (d : D) (ds : List D) (st : α) : loopS b (d :: ds) st = bindS (b d st) fun c => match c with
    | .nx st' => loopS b ds st'
    | c => okS c := rfl
@[simp] theorem ctlS_nx (mr : α → Cd S β) (rk : D → Cd S β) (st : α) : ctlS mr rk (.nx st) = mr st := Eq.trans (Eq.refl _) (Eq.refl _)
@[simp] theorem ctlS_bk (mr : α → Cd S β) (rk : D → Cd S β) (st : α) : ctlS mr rk (.bk st) = mr st := Eq.trans (Eq.refl _) (Eq.refl _)
@[simp] theorem ctlS_rt (mr : α → Cd S β) (rk : D → Cd S β) (d : D) : ctlS mr rk (.rt d) = rk d := Eq.trans (Eq.refl _) (Eq.refl _)
@[simp] theorem toB_bl (b : Bool) : (toB (okS (.bl b)) : Cd S Bool) = okS b := Eq.trans (Eq.refl _) (Eq.refl _)
@[simp] theorem toB_bind (m : Cd S α) (f : α → Cd S D) : toB (bindS m f) = bindS m fun a => toB (f a) := bindS_bindS _ _ _
@[simp] theorem toB_cond (b : Bool) (x y : Cd S D) : toB (cond b x y) = cond b (toB x) (toB y) := by cases b <;> rfl
@[simp] theorem toTr_okS (d : D) : (toTr (okS d) : Cd S Bool) = optS (truD d) := Eq.trans (Eq.refl _) (Eq.refl _)
@[simp] theorem toTr_bind (m : Cd S α) (f : α → Cd S D) : toTr (bindS m f) = bindS m fun a => toTr (f a) := bindS_bindS _ _ _
@[simp] theorem toTr_cond (b : Bool) (x y : Cd S D) : toTr (cond b x y) = cond b (toTr x) (toTr y) := by cases b <;> rfl
@[simp] theorem bindS_cond (b : Bool) (x y : Cd S α) (f : α → Cd S β) : bindS (cond b x y) f = cond b (bindS x f) (bindS y f) := by cases b <;> rfl
@[simp] theorem cond_andD (b c : Bool) : (cond b (okS (.bl c)) (okS (.bl false)) : Cd S D) = okS (.bl (b && c)) := by cases b <;> rfl
@[simp] theorem cond_orD (b c : Bool) : (cond b (okS (.bl true)) (okS (.bl c)) : Cd S D) = okS (.bl (b || c)) := by cases b <;> rfl
@[simp] theorem cond_andB (b c : Bool) : (cond b (okS c) (okS false) : Cd S Bool) = okS (b && c) := by cases b <;> rfl
@[simp] theorem cond_orB (b c : Bool) : (cond b (okS true) (okS c) : Cd S Bool) = okS (b || c) := by cases b <;> rfl
@[simp] theorem cond_same (b : Bool) (m : Cd S α) : cond b m m = m := by cases b <;> rfl
@[simp] theorem natCast_beq (a b : Nat) : ((a : Int) == (b : Int)) = (a == b) := by
  rw [Bool.eq_iff_iff]; simp; omega
@[simp] theorem truD_bl (b : Bool) : truD (.bl b) = some b := Eq.trans (Eq.refl _) (Eq.refl _)
@[simp] theorem truD_int (i : Int) : truD (.int i) = some (i != 0) := Eq.trans (Eq.refl _) (Eq.refl _)
@[simp] theorem truD_fl (l : List D) : truD (.fl l) = some (!l.isEmpty) := Eq.trans (Eq.refl _) (Eq.refl _)
@[simp] theorem truD_tup (l : List D) : truD (.tup l) = some (!l.isEmpty) := Eq.trans (Eq.refl _) (Eq.refl _)
@[simp] theorem dTr_bl (b : Bool) : dTr (.bl b) = some b := Eq.trans (Eq.refl _) (Eq.refl _)
@[simp] theorem asI_int (i : Int) : asI (.int i) = some (some i) := Eq.trans (Eq.refl _) (Eq.refl _)
@[simp] theorem itsD_tup (l : List D) : itsD (.tup l) = some l := Eq.trans (Eq.refl _) (Eq.refl _)
@[simp] theorem itsD_fl (l : List D) : itsD (.fl l) = some l := Eq.trans (Eq.refl _) (Eq.refl _)
@[simp] theorem lenD_tup (l : List D) : lenD [.tup l] = some (.int l.length) := Eq.trans (Eq.refl _) (Eq.refl _)
@[simp] theorem lenD_fl (l : List D) : lenD [.fl l] = some (.int l.length) := Eq.trans (Eq.refl _) (Eq.refl _)
@[simp] theorem tupleD_tup (l : List D) : tupleD [.tup l] = some (.tup l) := Eq.trans (Eq.refl _) (Eq.refl _)
@[simp] theorem tupleD_fl (l : List D) : tupleD [.fl l] = some (.tup l) := Eq.trans (Eq.refl _) (Eq.refl _)
@[simp] theorem listD_tup (l : List D) : listD [.tup l] = some l := Eq.trans (Eq.refl _) (Eq.refl _)
@[simp] theorem listD_fl (l : List D) : listD [.fl l] = some l := Eq.trans (Eq.refl _) (Eq.refl _)
@[simp] theorem intD_int (i : Int) : intD [.int i] = some (.int i) := Eq.trans (Eq.refl _) (Eq.refl _)
@[simp] theorem intD_bl (b : Bool) : intD [.bl b] = some (.int (if b then 1 else 0)) := Eq.trans (Eq.refl _) (Eq.refl _)
@[simp] theorem absD_int (i : Int) : absD [.int i] = some (.int (if i < 0 then -i else i)) := Eq.trans (Eq.refl _) (Eq.refl _)
@[simp] theorem addA_int (i j : Int) : addA (.int i) (.int j) = some (.int (i + j)) := Eq.trans (Eq.refl _) (Eq.refl _)
@[simp] theorem addA_tup (a b : List D) : addA (.tup a) (.tup b) = if a.length + b.length ≤ sizeLine then some (.tup (a ++ b)) else none := Eq.trans (Eq.refl _) (Eq.refl _)
@[simp] theorem subD_int (i j : Int) : subD (.int i) (.int j) = some (.int (i - j)) := Eq.trans (Eq.refl _) (Eq.refl _)
@[simp] theorem mulD_int (i j : Int) : mulD (.int i) (.int j) = if MulOk i j then some (.int (i * j)) else none := Eq.trans (Eq.refl _) (Eq.refl _)
@[simp] theorem mulQ_int (i j : Int) : mulQ (.int i) (.int j) = if MulOk i j then some (.int (i * j)) else none := Eq.trans (Eq.refl _) (Eq.refl _)
@[simp] theorem addQ_int (i j : Int) : addQ (.int i) (.int j) = some (.int (i + j)) := Eq.trans (Eq.refl _) (Eq.refl _)
@[simp] theorem modD_int (i j : Int) : modD (.int i) (.int j) = if 0 < j then some (.int (i % j)) else none := Eq.trans (Eq.refl _) (Eq.refl _)
@[simp] theorem fdivD_int (i j : Int) : fdivD (.int i) (.int j) = if DivOk i j then some (.int (i / j)) else none := Eq.trans (Eq.refl _) (Eq.refl _)
@[simp] theorem powD_int (i j : Int) : powD (.int i) (.int j) = if CPow i j then some (.int (i ^ j.toNat)) else none := Eq.trans (Eq.refl _) (Eq.refl _)
@[simp] theorem shlD_int (i j : Int) : shlD (.int i) (.int j) = if CPow i j then some (.int (i * 2 ^ j.toNat)) else none := Eq.trans (Eq.refl _) (Eq.refl _)
@[simp] theorem ltD_int (i j : Int) : ltD (.int i) (.int j) = some (.bl (decide (i < j))) := Eq.trans (Eq.refl _) (Eq.refl _)
@[simp] theorem leD_int (i j : Int) : leD (.int i) (.int j) = some (.bl (decide (i ≤ j))) := Eq.trans (Eq.refl _) (Eq.refl _)
@[simp] theorem gtD_int (i j : Int) : gtD (.int i) (.int j) = some (.bl (decide (j < i))) := Eq.trans (Eq.refl _) (Eq.refl _)
@[simp] theorem geD_int (i j : Int) : geD (.int i) (.int j) = some (.bl (decide (j ≤ i))) := Eq.trans (Eq.refl _) (Eq.refl _)
@[simp] theorem negD_int (i : Int) : negD (.int i) = some (.int (-i)) := Eq.trans (Eq.refl _) (Eq.refl _)
@[simp] theorem eqqD_int (i j : Int) : eqqD (.int i) (.int j) = some (.bl (i == j)) := Eq.trans (Eq.refl _) (Eq.refl _)
@[simp] theorem neD_int (i j : Int) : neD (.int i) (.int j) = some (.bl (!(i == j))) := Eq.trans (Eq.refl _) (Eq.refl _)
@[simp] theorem eqqD_bl (i j : Bool) : eqqD (.bl i) (.bl j) = some (.bl (i == j)) := Eq.trans (Eq.refl _) (Eq.refl _)
@[simp] theorem eqqD_str (x y : Str) : eqqD (.str x) (.str y) = some (.bl (decide (x = y))) := Eq.trans (Eq.refl _) (Eq.refl _)
@[simp] theorem neD_str (x y : Str) : neD (.str x) (.str y) = some (.bl (!decide (x = y))) := Eq.trans (Eq.refl _) (Eq.refl _)
@[simp] theorem isD_non (d : D) : isD d .non = some (.bl (isNon d)) := Eq.trans (Eq.refl _) (Eq.refl _)
@[simp] theorem isnotD_non (d : D) : isnotD d .non = some (.bl (!isNon d)) := Eq.trans (Eq.refl _) (Eq.refl _)
@[simp] theorem ixD_tup (l : List D) (i : Int) : ixD (.tup l) (.int i) = atI l i := Eq.trans (Eq.refl _) (Eq.refl _)
@[simp] theorem ixD_fl (l : List D) (i : Int) : ixD (.fl l) (.int i) = atI l i := Eq.trans (Eq.refl _) (Eq.refl _)
theorem atI_natF (l : List D) (n : Nat) : atI l (n : Int) = l[n]? := by
  unfold atI ixN
  by_cases h : n < l.length
  · simp [h]
  · simp [h, List.getElem?_eq_none (Nat.le_of_not_lt h)]
theorem atI_at {l : List D} {i : Int} {d : D} (h0 : 0 ≤ i) (h : l[i.toNat]? = some d) : atI l i = some d := by
  obtain ⟨n, rfl⟩ := Int.eq_ofNat_of_zero_le h0
  rw [show (((n : Nat) : Int)) = (n : Int) from rfl, atI_natF]
  exact h
@[simp] theorem sliceA_tup (l : List D) (a b : Option Int) : sliceA (.tup l) a b = some (.tup (cutD l a b)) := Eq.trans (Eq.refl _) (Eq.refl _)
@[simp] theorem sliceA_fl (l : List D) (a b : Option Int) : sliceA (.fl l) a b = some (.fl (cutD l a b)) := Eq.trans (Eq.refl _) (Eq.refl _)
@[simp] theorem kI (T : String) : isiO T .non = (kitB "NoneType" T).map .bl := Eq.trans (Eq.refl _) (Eq.refl _)
theorem isi_int (d : D) : isiO "int" d = match d with | .int _ => some (.bl true) | .bl _ => some (.bl true) | .ref _ => none | _ => some (.bl false) := by cases d <;> rfl
theorem isi_bool (d : D) : isiO "bool" d = match d with | .bl _ => some (.bl true) | .ref _ => none | _ => some (.bl false) := by cases d <;> rfl
theorem isi_str (d : D) : isiO "str" d = match d with | .str _ => some (.bl true) | .ref _ => none | _ => some (.bl false) := by cases d <;> rfl
theorem isi_tup (d : D) : isiO "tuple" d = match d with | .tup _ => some (.bl true) | .ref _ => none | _ => some (.bl false) := by cases d <;> rfl
theorem isi_list (d : D) : isiO "list" d = match d with | .fl _ => some (.bl true) | .ref _ => none | _ => some (.bl false) := by cases d <;> rfl
end

/-! ### shapes -/
def sca : D → Bool
  | .non => true
  | .bl _ => true
  | .int _ => true
  | .str x => PySem.PyData.strOk x
  | _ => false
theorem shp_sca {d : D} (h : sca d = true) : shp d = true := by
  cases d <;> first | rfl | cases h | skip
  rename_i x
  show (true && (PySem.PyData.canLay0 (.str x) && decide ((0 : Nat) ≤ 64))) = true
  have : PySem.PyData.canLay0 (.str x) = true := by unfold PySem.PyData.canLay0; exact h
  rw [this]; rfl
theorem depth_sca : ∀ (ds : List D), (∀ d ∈ ds, sca d = true) → PySem.PyData.depthAll (toPys ds) = 0 ∧ plains ds = true ∧ PySem.PyData.canLayAll0 (toPys ds) = true
  | [], _ => ⟨rfl, rfl, rfl⟩
  | d :: r, h => by
    obtain ⟨h1, h2, h3⟩ := depth_sca r fun x hx => h x (List.mem_cons_of_mem _ hx)
    have hd := h d List.mem_cons_self
    refine ⟨?_, ?_, ?_⟩
    · show max _ (PySem.PyData.depthAll (toPys r)) = 0
      rw [h1]
      cases d <;> first | rfl | cases hd
    · show (plain d && plains r) = true
      rw [h2]
      cases d <;> first | rfl | cases hd
    · show (PySem.PyData.canLay0 (toPy d) && PySem.PyData.canLayAll0 (toPys r)) = true
      rw [h3]
      cases d <;> first | rfl | cases hd | skip
      rename_i x
      have : PySem.PyData.canLay0 (.str x) = true := by unfold PySem.PyData.canLay0; exact hd
      show (PySem.PyData.canLay0 (.str x) && true) = true
      rw [this]; rfl
theorem shp_list {ds : List D} (h : ∀ d ∈ ds, sca d = true) : shp (.fl ds) = true := by
  obtain ⟨h1, h2, h3⟩ := depth_sca ds h
  show (plains ds && (PySem.PyData.canLayAll0 (toPys ds) && decide (PySem.PyData.depthAll (toPys ds) + 1 ≤ 64))) = true
  rw [h1, h2, h3]; rfl
theorem inB_tup {d : D} {ds : List D} (h1 : sca d = true) (h : ∀ d ∈ ds, sca d = true) : inB d (.tup ds) = some (ds.any fun y => DL.eqD y d) := by
  have : (if shp d = true ∧ shp (.fl ds) = true then some (ds.any fun y => DL.eqD y d) else none) = some (ds.any fun y => DL.eqD y d) := if_pos ⟨shp_sca h1, shp_list h⟩
  cases d <;> first | exact this | cases h1
theorem inD_tup {d : D} {ds : List D} (h1 : sca d = true) (h : ∀ d ∈ ds, sca d = true) : inD d (.tup ds) = some (.bl (ds.any fun y => DL.eqD y d)) := by
  unfold inD; rw [inB_tup h1 h]; rfl
theorem notinD_tup {d : D} {ds : List D} (h1 : sca d = true) (h : ∀ d ∈ ds, sca d = true) : notinD d (.tup ds) = some (.bl (!ds.any fun y => DL.eqD y d)) := by
  unfold notinD; rw [inB_tup h1 h]; rfl
/-- no address -/
def nref : D → Bool
  | .ref _ => false
  | _ => true
/-- agS over a pure test -/
theorem agS_pure {S : Type} (stop : Bool) (b : D → Cd S Bool) (p : D → Bool) : ∀ (ds : List D), (∀ d ∈ ds, b d = okS (p d)) → agS stop b ds = okS (.bl (if stop then ds.any p else ds.all p))
  | [], _ => by cases stop <;> rfl
  | d :: r, h => by
    show bindS (noxS (b d)) (fun k => if k = stop then okS (.bl stop) else agS stop b r) = _
    rw [h d List.mem_cons_self, agS_pure stop b p r fun x hx => h x (List.mem_cons_of_mem _ hx)]
    simp only [noxS_okS, bindS_okS]
    cases hp : p d <;> cases stop <;> simp [hp]
/-- a comprehension of pure turns -/
theorem lcS_pure {S : Type} (b : D → Cd S (Option D)) (f : D → Option D) : ∀ (ds acc : List D), (∀ d ∈ ds, b d = okS (f d)) → acc.length + ds.length ≤ sizeLine → lcS b ds acc = okS (acc ++ ds.filterMap f)
  | [], acc, _, _ => by simp [lcS]
  | d :: r, acc, h, hl => by
    unfold lcS
    rw [h d List.mem_cons_self]
    simp only [noxS_okS, bindS_okS]
    have h2 := fun x hx => h x (List.mem_cons_of_mem d hx)
    rw [List.length_cons] at hl
    cases hf : f d with
    | none =>
      dsimp only
      rw [lcS_pure b f r acc h2 (by omega)]
      simp [hf]
    | some y =>
      dsimp only
      rw [if_pos (by omega), lcS_pure b f r (acc ++ [y]) h2 (by rw [List.length_append]; simp; omega)]
      simp [hf]
theorem loop_all {S : Type} (b : D → Unit → Cd S (Ctl Unit)) (p : D → Bool) (r : D) : ∀ (ds : List D), (∀ d ∈ ds, b d () = okS (cond (p d) (.nx ()) (.rt r))) → loopS b ds () = okS (cond (ds.all p) (.nx ()) (.rt r))
  | [], _ => rfl
  | d :: t, h => by
    rw [loopS_cons, h d List.mem_cons_self]
    cases hp : p d with
    | true =>
      simp only [cond_true, bindS_okS]
      rw [loop_all b p r t fun x hx => h x (List.mem_cons_of_mem _ hx)]
      simp [hp]
    | false => simp [hp]
theorem sizeLine_ge : 1000000 ≤ sizeLine := by decide
theorem rg1_nat {n : Nat} (h : n ≤ 1000000) : rg1 [.int n] = some (rgD 0 n) := by
  rw [rg1, if_pos (by constructor <;> omega), Int.toNat_natCast]
theorem rgD_mem {n : Nat} {d : D} (h : d ∈ rgD 0 n) : ∃ i : Nat, i < n ∧ d = .int i := by
  unfold rgD at h
  obtain ⟨i, hi, rfl⟩ := List.mem_map.mp h
  exact ⟨i, List.mem_range.mp hi, by simp⟩
theorem atI_lt {l : List D} {i : Nat} (h : i < l.length) : atI l (i : Int) = some l[i] := by rw [atI_natF]; simp [h]
theorem cut_hi {α : Type} (xs : List α) {i : Nat} (h : i ≤ xs.length) : cutD xs none (some (i : Int)) = xs.take i := by
  have e : HT.sIx xs.length xs.length (some (i : Int)) = i := (HT.sIx_nat _ _ _).trans (Nat.min_eq_left h)
  have e0 : HT.sIx xs.length 0 none = 0 := rfl
  unfold DL.cutD
  rw [e, e0, List.drop_zero, Nat.sub_zero]
theorem cut_lo {α : Type} (xs : List α) {i : Nat} (h : i ≤ xs.length) : cutD xs (some (i : Int)) none = xs.drop i := by
  have e : HT.sIx xs.length 0 (some (i : Int)) = i := (HT.sIx_nat _ _ _).trans (Nat.min_eq_left h)
  have e0 : HT.sIx xs.length xs.length none = xs.length := rfl
  unfold DL.cutD
  rw [e, e0, List.take_of_length_le (by rw [List.length_drop]; omega)]
end FL
end
section
set_option maxHeartbeats 4000000
/-! the codes (printed by gen2.py) -/
namespace Lw
open PySem L2 DL FL
def isat_ : List (Str × Str × Bool) := [("BadStep", "BadStep", true), ("BadStep", "FarError", true)]
def isa_ (e k : Str) : Option Bool := (isat_.find? fun x => x.1 == e && x.2.1 == k).map (·.2.2)
def kD_0 : List D → List D → List D
  | [], [w0, w1] => [w1, w0]
  | _, _ => []
def kD_1 : List D → List D → List D
  | [], [w0] => [w0]
  | _, _ => []
/-- many_stands -/
def c_many_stands (d0_ d1_ d2_ : D) : Cd Unit D :=
  (bindS (bindS (bindS (okS d2_) fun x32 => optS (itsD x32)) fun it37 => lcS (fun d33 => bindS (toTr (bindS (okS d33) fun d35 => optS (isiO "str" d35))) fun k36 => cond k36 (bindS (okS d33) fun y34 => okS (some y34)) (okS none)) it37 []) fun l1 => (bindS (okS d1_) fun d2 => (bindS (bindS (bindS (okS d0_) fun x5 => bindS (bindS (okS d2_) fun x3 => bindS (okS []) fun r4 => okS (x3 :: r4)) fun r6 => okS (x5 :: r6)) fun r7 => optS (zpD r7)) fun it30 => bindS (foldS (fun d9 (st8 : D) => un2 d9 fun d10 d11 => (bindS (bindS (toTr (bindS (okS d11) fun d12 => optS (isiO "str" d12))) fun k13 => okS (!k13)) fun k14 => cond k14 (bindS (bindS (bindS (bindS (toTr (okS (.fl l1))) fun k17 => cond k17 (okS d11) (bindS (okS d11) fun x15 => bindS (okS (.int 1)) fun x16 => optS (addA x15 x16))) fun x18 => bindS (okS []) fun r19 => okS (x18 :: r19)) fun r20 => optS (rg1 r20)) fun it26 => bindS (foldS (fun d22 (st21 : D) => (bindS (okS d10) fun x23 => bindS (optS (mulQ st21 x23)) fun d24 => (okS d24))) it26 st8) fun (st25 : D) => (okS st25)) (okS st8))) it30 d2) fun (st28 : D) => (bindS (okS st28) fun d29 => (okS d29)))))
def f_many_stands : List D → Res Unit D
  | [d0_, d1_, d2_] => c_many_stands d0_ d1_ d2_ ()
  | _ => .stuck
abbrev N_many_stands : List Str := ["sizes", "states", "foresight", "long", "many", "size", "amount", "letter"]
/-- is_integer -/
def c_is_integer (d0_ : D) : Cd Unit D :=
  (bindS (bindS (toB (bindS (okS d0_) fun d1 => optS (isiO "int" d1))) fun k4 => cond k4 (bindS (toB (bindS (okS d0_) fun d2 => optS (isiO "bool" d2))) fun k3 => okS (.bl (!k3))) (okS (.bl false))) fun d5 => (okS d5))
def f_is_integer : List D → Res Unit D
  | [d0_] => c_is_integer d0_ ()
  | _ => .stuck
abbrev N_is_integer : List Str := ["thing"]
/-- is_number -/
def c_is_number (d0_ : D) : Cd Unit D :=
  (bindS (bindS (toB (bindS (bindS (okS d0_) fun x1 => bindS (okS []) fun r2 => okS (x1 :: r2)) fun r3 => liftU (f_is_integer r3))) fun k6 => cond k6 (bindS (okS d0_) fun x4 => bindS (okS (.int 0)) fun x5 => optS (geD x4 x5)) (okS (.bl false))) fun d7 => (okS d7))
def f_is_number : List D → Res Unit D
  | [d0_] => c_is_number d0_ ()
  | _ => .stuck
abbrev N_is_number : List Str := ["thing"]
/-- is_tuple_of -/
def c_is_tuple_of (d0_ d1_ : D) : Cd Unit D :=
  (bindS (bindS (toB (bindS (okS d0_) fun d1 => optS (isiO "tuple" d1))) fun k7 => cond k7 (bindS (bindS (bindS (okS d0_) fun x2 => bindS (okS []) fun r3 => okS (x2 :: r3)) fun r4 => optS (lenD r4)) fun x5 => bindS (okS d1_) fun x6 => optS (eqqD x5 x6)) (okS (.bl false))) fun d8 => (okS d8))
def f_is_tuple_of : List D → Res Unit D
  | [d0_, d1_] => c_is_tuple_of d0_ d1_ ()
  | _ => .stuck
abbrev N_is_tuple_of : List Str := ["thing", "many"]
/-- is_far_amount -/
def c_is_far_amount (d0_ : D) : Cd Unit D :=
  (bindS (toTr (bindS (okS d0_) fun d1 => optS (isiO "str" d1))) fun k2 => cond k2 (bindS (bindS (okS d0_) fun x8 => bindS (bindS (bindS (okS (.str "far")) fun x5 => bindS (bindS (okS (.str "whole")) fun x3 => bindS (okS []) fun r4 => okS (x3 :: r4)) fun r6 => okS (x5 :: r6)) fun r7 => optS (tupO r7)) fun x9 => optS (inD x8 x9)) fun d10 => (okS d10)) (bindS (bindS (toB (bindS (bindS (okS d0_) fun x11 => bindS (okS []) fun r12 => okS (x11 :: r12)) fun r13 => liftU (f_is_number r13))) fun k16 => cond k16 (bindS (okS d0_) fun x14 => bindS (okS (.int 9999)) fun x15 => optS (leD x14 x15)) (okS (.bl false))) fun d17 => (okS d17)))
def f_is_far_amount : List D → Res Unit D
  | [d0_] => c_is_far_amount d0_ ()
  | _ => .stuck
abbrev N_is_far_amount : List Str := ["thing"]
/-- is_foresight -/
def c_is_foresight (d0_ d1_ : D) : Cd Unit D :=
  (bindS (bindS (bindS (toTr (bindS (bindS (okS d1_) fun x8 => bindS (bindS (bindS (bindS (bindS (okS d0_) fun x2 => bindS (okS (.int 0)) fun x1 => optS (ixD x2 x1)) fun x3 => bindS (okS []) fun r4 => okS (x3 :: r4)) fun r5 => optS (lenD r5)) fun x6 => bindS (okS []) fun r7 => okS (x6 :: r7)) fun r9 => okS (x8 :: r9)) fun r10 => liftU (f_is_tuple_of r10))) fun k11 => okS (!k11)) fun k20 => cond k20 (okS true) (bindS (toTr (bindS (bindS (okS d1_) fun x12 => optS (itsD x12)) fun it18 => agS false (fun d13 => bindS (bindS (bindS (okS d13) fun x14 => bindS (okS []) fun r15 => okS (x14 :: r15)) fun r16 => liftU (f_is_far_amount r16)) fun y17 => optS (dTr y17)) it18)) fun k19 => okS (!k19))) fun k21 => cond k21 (bindS (okS (.bl false)) fun d22 => (okS d22)) (bindS (bindS (toB (bindS (okS (.str "far")) fun x23 => bindS (okS d1_) fun x24 => optS (notinD x23 x24))) fun k27 => cond k27 (okS (.bl true)) (bindS (okS (.str "whole")) fun x25 => bindS (okS d1_) fun x26 => optS (notinD x25 x26))) fun d28 => (okS d28)))
def f_is_foresight : List D → Res Unit D
  | [d0_, d1_] => c_is_foresight d0_ d1_ ()
  | _ => .stuck
abbrev N_is_foresight : List Str := ["machine", "thing", "amount"]
/-- kind_of -/
def c_kind_of (d0_ : D) : Cd Unit D :=
  (bindS (bindS (bindS (bindS (okS (.str "far")) fun x3 => bindS (bindS (okS (.str "whole")) fun x1 => bindS (okS []) fun r2 => okS (x1 :: r2)) fun r4 => okS (x3 :: r4)) fun r5 => optS (tupO r5)) fun x6 => optS (itsD x6)) fun it15 => bindS (loopS (fun d8 (st7 : Unit) => (bindS (toB (bindS (okS d8) fun x9 => bindS (okS d0_) fun x10 => optS (inD x9 x10))) fun k11 => cond k11 (bindS (okS d8) fun d12 => (okS (.rt d12))) (okS (.nx ())))) it15 ()) (ctlS (fun (st13 : Unit) => (bindS (okS (.str "number")) fun d14 => (okS d14))) fun d16 => (okS d16)))
def f_kind_of : List D → Res Unit D
  | [d0_] => c_kind_of d0_ ()
  | _ => .stuck
abbrev N_kind_of : List Str := ["foresight", "word"]
/-- long_streams -/
def c_long_streams (d0_ : D) : Cd Unit D :=
  (bindS (bindS (bindS (bindS (bindS (bindS (bindS (okS d0_) fun x1 => bindS (okS []) fun r2 => okS (x1 :: r2)) fun r3 => optS (enD r3)) fun it10 => lcS (fun d4 => un2 d4 fun d5 d6 => bindS (toTr (bindS (okS d6) fun d8 => optS (isiO "str" d8))) fun k9 => cond k9 (bindS (okS d5) fun y7 => okS (some y7)) (okS none)) it10 []) fun l11 => okS (.fl l11)) fun x12 => bindS (okS []) fun r13 => okS (x12 :: r13)) fun r14 => optS (tupleD r14)) fun d15 => (okS d15))
def f_long_streams : List D → Res Unit D
  | [d0_] => c_long_streams d0_ ()
  | _ => .stuck
abbrev N_long_streams : List Str := ["foresight", "stream", "amount"]
/-- is_within_bounds -/
def c_is_within_bounds (d0_ d1_ : D) : Cd Unit D :=
  (bindS (bindS (bindS (bindS (okS d0_) fun x2 => bindS (okS (.int 0)) fun x1 => optS (ixD x2 x1)) fun x12 => bindS (bindS (bindS (bindS (bindS (okS d0_) fun x4 => bindS (okS (.int 2)) fun x3 => optS (ixD x4 x3)) fun x5 => bindS (okS []) fun r6 => okS (x5 :: r6)) fun r7 => optS (lenD r7)) fun x10 => bindS (bindS (okS d1_) fun x8 => bindS (okS []) fun r9 => okS (x8 :: r9)) fun r11 => okS (x10 :: r11)) fun r13 => okS (x12 :: r13)) fun r14 => liftU (f_many_stands r14)) fun d15 => (bindS (bindS (okS d15) fun x22 => bindS (bindS (toB (bindS (bindS (bindS (okS d1_) fun x16 => bindS (okS []) fun r17 => okS (x16 :: r17)) fun r18 => liftU (f_kind_of r18)) fun x19 => bindS (okS (.str "number")) fun x20 => optS (eqqD x19 x20))) fun k21 => cond k21 (okS (.int 8192)) (okS (.int 512))) fun x23 => optS (leD x22 x23)) fun d24 => (okS d24)))
def f_is_within_bounds : List D → Res Unit D
  | [d0_, d1_] => c_is_within_bounds d0_ d1_ ()
  | _ => .stuck
abbrev N_is_within_bounds : List Str := ["machine", "foresight", "many"]
/-- check_foresight -/
def c_check_foresight (d0_ d1_ : D) : Cd Unit D :=
  (bindS (bindS (toTr (bindS (bindS (okS d0_) fun x3 => bindS (bindS (okS d1_) fun x1 => bindS (okS []) fun r2 => okS (x1 :: r2)) fun r4 => okS (x3 :: r4)) fun r5 => liftU (f_is_foresight r5))) fun k6 => okS (!k6)) fun k7 => cond k7 (bindS (bindS (okS (.str "foresight")) fun x8 => bindS (okS []) fun r9 => okS (x8 :: r9)) fun r10 => raiS "BadStep" ["word"] r10) (bindS (bindS (toTr (bindS (bindS (okS d0_) fun x13 => bindS (bindS (okS d1_) fun x11 => bindS (okS []) fun r12 => okS (x11 :: r12)) fun r14 => okS (x13 :: r14)) fun r15 => liftU (f_is_within_bounds r15))) fun k16 => okS (!k16)) fun k17 => cond k17 (bindS (bindS (okS (.str "number")) fun x18 => bindS (okS []) fun r19 => okS (x18 :: r19)) fun r20 => raiS "BadStep" ["word"] r20) (bindS (bindS (bindS (bindS (okS d0_) fun x22 => bindS (okS (.int 0)) fun x21 => optS (ixD x22 x21)) fun x32 => bindS (bindS (bindS (bindS (bindS (okS d0_) fun x24 => bindS (okS (.int 2)) fun x23 => optS (ixD x24 x23)) fun x25 => bindS (okS []) fun r26 => okS (x25 :: r26)) fun r27 => optS (lenD r27)) fun x30 => bindS (bindS (okS d1_) fun x28 => bindS (okS []) fun r29 => okS (x28 :: r29)) fun r31 => okS (x30 :: r31)) fun r33 => okS (x32 :: r33)) fun r34 => liftU (f_many_stands r34)) fun d35 => (okS d35))))
def f_check_foresight : List D → Res Unit D
  | [d0_, d1_] => c_check_foresight d0_ d1_ ()
  | _ => .stuck
abbrev N_check_foresight : List Str := ["machine", "thing"]
/-- _law_tower -/
def c__law_tower (d0_ : D) : Cd Unit Pd :=
  (bindS (bindS (okS []) fun r1 => optS (lenOk r1)) fun l2 => bindS (okS (.int 84163)) fun d3 => (bindS (bindS (bindS (bindS (bindS (bindS (okS d0_) fun x4 => bindS (okS []) fun r5 => okS (x4 :: r5)) fun r6 => optS (listD r6)) fun l7 => okS (.fl l7)) fun x9 => bindS (okS none) fun i10 => bindS (bindS (okS (.int 44)) fun x8 => optS (asI x8)) fun i11 => optS (sliceA x9 i10 i11)) fun x12 => optS (itsD x12)) fun it98 => bindS (foldS (fun d14 (st13 : List D × D) => (bindS (bindS (bindS (bindS (bindS (bindS (okS d14) fun x15 => bindS (okS []) fun r16 => okS (x15 :: r16)) fun r17 => optS (intD r17)) fun x18 => bindS (okS []) fun r19 => okS (x18 :: r19)) fun r20 => optS (absD r20)) fun x23 => bindS (bindS (okS (.int 1)) fun x21 => bindS (okS (.int 900)) fun x22 => optS (shlD x21 x22)) fun x24 => optS (modD x23 x24)) fun d25 => (bindS (bindS (bindS (bindS (bindS (bindS (bindS (okS st13.2) fun x26 => bindS (okS (.int 16807)) fun x27 => optS (mulD x26 x27)) fun x30 => bindS (bindS (okS d25) fun x28 => bindS (okS (.int 880021)) fun x29 => optS (modD x28 x29)) fun x31 => optS (addA x30 x31)) fun x39 => bindS (bindS (okS (.int 39)) fun x37 => bindS (bindS (bindS (bindS (okS d14) fun x32 => bindS (okS (.int 0)) fun x33 => optS (ltD x32 x33)) fun x34 => bindS (okS []) fun r35 => okS (x34 :: r35)) fun r36 => optS (intD r36)) fun x38 => optS (mulD x37 x38)) fun x40 => optS (addA x39 x40)) fun x41 => bindS (okS []) fun r42 => okS (x41 :: r42)) fun r43 => optS (intD r43)) fun x44 => bindS (okS (.int 2147483629)) fun x45 => optS (modD x44 x45)) fun d46 => (bindS (bindS (bindS (bindS (bindS (bindS (bindS (okS d25) fun x49 => bindS (bindS (okS d46) fun x47 => bindS (okS (.int 17)) fun x48 => optS (modD x47 x48)) fun x50 => optS (addA x49 x50)) fun x51 => bindS (okS []) fun r52 => okS (x51 :: r52)) fun r53 => optS (intD r53)) fun x54 => bindS (okS (.int 29393)) fun x55 => optS (modD x54 x55)) fun x56 => bindS (okS []) fun r57 => okS (x56 :: r57)) fun r58 => optS (appM st13.1 r58)) fun z59 => (bindS (bindS (bindS (okS (.int 60)) fun x60 => bindS (okS []) fun r61 => okS (x60 :: r61)) fun r62 => optS (rg1 r62)) fun it81 => bindS (foldS (fun d64 (st63 : List D × D) => (bindS (bindS (okS st63.2) fun x65 => bindS (okS (.int 29393)) fun x66 => optS (fdivD x65 x66)) fun d67 => (bindS (toB (bindS (okS d67) fun x68 => bindS (okS (.int 0)) fun x69 => optS (gtD x68 x69))) fun k70 => cond k70 (bindS (bindS (bindS (bindS (bindS (bindS (okS d67) fun x71 => bindS (okS []) fun r72 => okS (x71 :: r72)) fun r73 => optS (intD r73)) fun x74 => bindS (okS (.int 29393)) fun x75 => optS (modD x74 x75)) fun x76 => bindS (okS []) fun r77 => okS (x76 :: r77)) fun r78 => optS (appM st63.1 r78)) fun z79 => (okS (z79.2, d67))) (okS (st63.1, d67))))) it81 (z59.2, d25)) fun (st80 : List D × D) => (okS (st80.1, d46))))))) it98 (l2, d3)) fun (st83 : List D × D) => (bindS (bindS (okS (.int 0)) fun x95 => bindS (bindS (okS st83.2) fun x93 => bindS (bindS (bindS (bindS (bindS (bindS (okS st83.2) fun x84 => bindS (okS (.int 23)) fun x85 => optS (fdivD x84 x85)) fun x86 => bindS (okS []) fun r87 => okS (x86 :: r87)) fun r88 => optS (intD r88)) fun x89 => bindS (okS (.int 30)) fun x90 => optS (modD x89 x90)) fun x91 => bindS (okS []) fun r92 => okS (x91 :: r92)) fun r94 => okS (x93 :: r94)) fun r96 => okS (x95 :: r96)) fun r97 => mkS 4 st83.1 r97)))
def f__law_tower : List D → Res Unit Pd
  | [d0_] => c__law_tower d0_ ()
  | _ => .stuck
abbrev N__law_tower : List Str := ["script", "bells", "bat", "cell", "peal", "lap"]
/-- _law_peal -/
def c__law_peal (d1_ d2_ : D) : Cd Pd D :=
  (bindS (bindS (getS 1) fun x1 => bindS (okS (.int 1)) fun x2 => optS (addA x1 x2)) fun d3 => bindS (setS 1 d3) fun _ => (jn (fun (st7 : D) => (bindS (toB (bindS (getS 3) fun x9 => bindS (okS d2_) fun x10 => optS (eqqD x9 x10))) fun k11 => cond k11 (bindS (okS (.int 0)) fun d12 => (okS d12)) (bindS (bindS (toB (bindS (getS 3) fun x15 => bindS (bindS (okS d2_) fun x13 => bindS (okS (.int 11)) fun x14 => optS (addA x13 x14)) fun x16 => optS (eqqD x15 x16))) fun k24 => cond k24 (bindS (okS d1_) fun x17 => bindS (okS (.int 1)) fun x18 => optS (subD x17 x18)) (bindS (bindS (bindS (okS st7) fun x19 => bindS (okS []) fun r20 => okS (x19 :: r20)) fun r21 => optS (intD r21)) fun x22 => bindS (okS d1_) fun x23 => optS (modD x22 x23))) fun d25 => (okS d25)))) fun j8 => bindS (toB (bindS (getS 1) fun x4 => bindS (opL1 lenD) fun x5 => optS (leD x4 x5))) fun k6 => cond k6 (bindS (bindS (bindS (getS 1) fun x26 => bindS (okS (.int 1)) fun x27 => optS (subD x26 x27)) fun x28 => opL ixD x28) fun d29 => (j8 d29)) (bindS (bindS (bindS (bindS (bindS (bindS (getS 2) fun x30 => bindS (okS (.int 40692)) fun x31 => optS (mulD x30 x31)) fun x32 => bindS (getS 1) fun x33 => optS (addA x32 x33)) fun x34 => bindS (okS []) fun r35 => okS (x34 :: r35)) fun r36 => optS (intD r36)) fun x37 => bindS (okS (.int 2147483629)) fun x38 => optS (modD x37 x38)) fun d39 => bindS (setS 2 d39) fun _ => (bindS (bindS (getS 2) fun x40 => bindS (okS (.int 47)) fun x41 => optS (fdivD x40 x41)) fun d42 => (j8 d42)))))
def f__law_peal : List D → Cd Pd D
  | [d1_, d2_] => c__law_peal d1_ d2_
  | _ => stk
abbrev N__law_peal : List Str := ["tower", "many", "place", "peal"]
/-- _law_machine -/
def c__law_machine : Cd Pd D :=
  (bindS (bindS (okS (.int 1)) fun x5 => bindS (bindS (bindS (okS (.int 3)) fun x3 => bindS (bindS (okS (.int 0)) fun x1 => bindS (okS []) fun r2 => okS (x1 :: r2)) fun r4 => okS (x3 :: r4)) f__law_peal) fun x6 => optS (addA x5 x6)) fun d7 => (bindS (bindS (bindS (bindS (bindS (bindS (bindS (okS d7) fun x8 => bindS (okS []) fun r9 => okS (x8 :: r9)) fun r10 => optS (rg1 r10)) fun it19 => lcS (fun d11 => bindS (bindS (okS (.int 2)) fun x16 => bindS (bindS (bindS (okS (.int 2)) fun x14 => bindS (bindS (okS (.int 1)) fun x12 => bindS (okS []) fun r13 => okS (x12 :: r13)) fun r15 => okS (x14 :: r15)) f__law_peal) fun x17 => optS (addA x16 x17)) fun y18 => okS (some y18)) it19 []) fun l20 => okS (.fl l20)) fun x21 => bindS (okS []) fun r22 => okS (x21 :: r22)) fun r23 => optS (tupleD r23)) fun d24 => (bindS (bindS (okS (.int 1)) fun x29 => bindS (bindS (bindS (okS (.int 4)) fun x27 => bindS (bindS (okS (.int 2)) fun x25 => bindS (okS []) fun r26 => okS (x25 :: r26)) fun r28 => okS (x27 :: r28)) f__law_peal) fun x30 => optS (addA x29 x30)) fun d31 => (bindS (bindS (bindS (bindS (okS (.int 1)) fun x57 => bindS (bindS (okS (.int 2)) fun x55 => bindS (bindS (okS (.int 3)) fun x53 => bindS (bindS (okS (.int 8)) fun x51 => bindS (bindS (okS (.int 16)) fun x49 => bindS (bindS (okS (.int 32)) fun x47 => bindS (bindS (okS (.int 40)) fun x45 => bindS (bindS (bindS (okS (.int 1)) fun x41 => bindS (bindS (bindS (okS (.int 40)) fun x39 => bindS (bindS (okS (.int 3)) fun x37 => bindS (okS []) fun r38 => okS (x37 :: r38)) fun r40 => okS (x39 :: r40)) f__law_peal) fun x42 => optS (addA x41 x42)) fun x43 => bindS (okS []) fun r44 => okS (x43 :: r44)) fun r46 => okS (x45 :: r46)) fun r48 => okS (x47 :: r48)) fun r50 => okS (x49 :: r50)) fun r52 => okS (x51 :: r52)) fun r54 => okS (x53 :: r54)) fun r56 => okS (x55 :: r56)) fun r58 => okS (x57 :: r58)) fun r59 => optS (tupO r59)) fun x60 => bindS (bindS (bindS (okS (.int 8)) fun x34 => bindS (bindS (okS (.int 4)) fun x32 => bindS (okS []) fun r33 => okS (x32 :: r33)) fun r35 => okS (x34 :: r35)) f__law_peal) fun x36 => optS (ixD x60 x36)) fun d61 => (bindS (okS (.int 1)) fun d62 => (bindS (bindS (okS d24) fun x63 => optS (itsD x63)) fun it147 => bindS (foldS (fun d65 (st64 : D) => (bindS (bindS (okS st64) fun x66 => bindS (okS d65) fun x67 => optS (mulD x66 x67)) fun d68 => (okS d68))) it147 d62) fun (st69 : D) => (bindS (bindS (okS (.int 1)) fun x74 => bindS (bindS (bindS (okS (.int 7)) fun x72 => bindS (bindS (okS (.int 5)) fun x70 => bindS (okS []) fun r71 => okS (x70 :: r71)) fun r73 => okS (x72 :: r73)) f__law_peal) fun x75 => optS (addA x74 x75)) fun d76 => (bindS (bindS (okS []) fun r146 => optS (lenOk r146)) fun l77 => (bindS (bindS (bindS (okS d61) fun x78 => bindS (okS []) fun r79 => okS (x78 :: r79)) fun r80 => optS (rg1 r80)) fun it144 => bindS (foldS (fun d82 (st81 : List D) => (bindS (bindS (okS []) fun r134 => optS (lenOk r134)) fun l83 => (bindS (bindS (bindS (okS st69) fun x84 => bindS (okS []) fun r85 => okS (x84 :: r85)) fun r86 => optS (rg1 r86)) fun it132 => bindS (foldS (fun d88 (st87 : List D) => (bindS (bindS (bindS (bindS (bindS (bindS (bindS (bindS (bindS (okS d31) fun x89 => bindS (okS []) fun r90 => okS (x89 :: r90)) fun r91 => optS (rg1 r91)) fun it118 => lcS (fun d92 => bindS (bindS (toB (bindS (bindS (bindS (bindS (bindS (bindS (okS d82) fun x93 => bindS (okS d88) fun x94 => optS (addA x93 x94)) fun x95 => bindS (okS d92) fun x96 => optS (addA x95 x96)) fun x97 => bindS (okS []) fun r98 => okS (x97 :: r98)) fun r99 => optS (intD r99)) fun x100 => bindS (okS (.int 5)) fun x101 => optS (modD x100 x101)) fun x102 => bindS (okS (.int 3)) fun x103 => optS (eqqD x102 x103))) fun k116 => cond k116 (bindS (okS (.int 1)) fun x104 => optS (negD x104)) (bindS (bindS (bindS (bindS (bindS (bindS (okS d82) fun x105 => bindS (okS d76) fun x106 => optS (mulD x105 x106)) fun x107 => bindS (okS d88) fun x108 => optS (addA x107 x108)) fun x109 => bindS (okS d92) fun x110 => optS (addA x109 x110)) fun x111 => bindS (okS []) fun r112 => okS (x111 :: r112)) fun r113 => optS (intD r113)) fun x114 => bindS (okS d61) fun x115 => optS (modD x114 x115))) fun y117 => okS (some y117)) it118 []) fun l119 => okS (.fl l119)) fun x120 => bindS (okS []) fun r121 => okS (x120 :: r121)) fun r122 => optS (tupleD r122)) fun x123 => bindS (okS []) fun r124 => okS (x123 :: r124)) fun r125 => optS (appM st87 r125)) fun z126 => (okS z126.2))) it132 l83) fun (st127 : List D) => (bindS (bindS (bindS (optS (tupleD [.fl st127])) fun x128 => bindS (okS []) fun r129 => okS (x128 :: r129)) fun r130 => optS (appM st81 r130)) fun z131 => (okS z131.2))))) it144 l77) fun (st135 : List D) => (bindS (bindS (bindS (okS d24) fun x140 => bindS (bindS (okS d31) fun x138 => bindS (bindS (optS (tupleD [.fl st135])) fun x136 => bindS (okS []) fun r137 => okS (x136 :: r137)) fun r139 => okS (x138 :: r139)) fun r141 => okS (x140 :: r141)) fun r142 => optS (tupO r142)) fun d143 => (okS d143)))))))))))
def f__law_machine : List D → Cd Pd D
  | [] => c__law_machine 
  | _ => stk
abbrev N__law_machine : List Str := ["tower", "streams", "sizes", "deeds", "states", "letters", "size", "step", "moves", "state", "rows", "letter", "at", "deed"]
/-- _law_number -/
def c__law_number (d0_ d1_ : D) : Cd Unit D :=
  (bindS (bindS (toB (bindS (okS d0_) fun d1 => optS (isiO "int" d1))) fun k9 => cond k9 (bindS (toB (bindS (toB (bindS (okS d0_) fun d2 => optS (isiO "bool" d2))) fun k3 => okS (.bl (!k3)))) fun k8 => cond k8 (bindS (okS (.int 0)) fun x4 => bindS (okS d0_) fun x5 => bindS (toB (optS (leD x4 x5))) fun k7 => cond k7 (bindS (okS d1_) fun x6 => optS (leD x5 x6)) (okS (.bl false))) (okS (.bl false))) (okS (.bl false))) fun d10 => (okS d10))
def f__law_number : List D → Res Unit D
  | [d0_, d1_] => c__law_number d0_ d1_ ()
  | _ => .stuck
abbrev N__law_number : List Str := ["thing", "bound"]
/-- _law_word -/
def c__law_word (d0_ d1_ : D) : Cd Unit D :=
  (bindS (bindS (toB (bindS (okS d0_) fun d1 => optS (isiO "str" d1))) fun k4 => cond k4 (bindS (okS d0_) fun x2 => bindS (okS d1_) fun x3 => optS (eqqD x2 x3)) (okS (.bl false))) fun d5 => (okS d5))
def f__law_word : List D → Res Unit D
  | [d0_, d1_] => c__law_word d0_ d1_ ()
  | _ => .stuck
abbrev N__law_word : List Str := ["thing", "word"]
/-- _law_is -/
def c__law_is (d0_ d1_ : D) : Cd Unit D :=
  (bindS (bindS (bindS (toTr (bindS (okS d1_) fun d1 => optS (isiO "tuple" d1))) fun k2 => okS (!k2)) fun k13 => cond k13 (okS true) (toB (bindS (bindS (bindS (okS d1_) fun x3 => bindS (okS []) fun r4 => okS (x3 :: r4)) fun r5 => optS (lenD r5)) fun x11 => bindS (bindS (bindS (bindS (okS d0_) fun x7 => bindS (okS (.int 0)) fun x6 => optS (ixD x7 x6)) fun x8 => bindS (okS []) fun r9 => okS (x8 :: r9)) fun r10 => optS (lenD r10)) fun x12 => optS (neD x11 x12)))) fun k14 => cond k14 (bindS (okS (.bl false)) fun d15 => (okS d15)) (bindS (bindS (okS d1_) fun x16 => optS (itsD x16)) fun it49 => bindS (loopS (fun d18 (st17 : Unit) => (bindS (bindS (bindS (toTr (bindS (bindS (okS d18) fun x21 => bindS (bindS (okS (.int 9999)) fun x19 => bindS (okS []) fun r20 => okS (x19 :: r20)) fun r22 => okS (x21 :: r22)) fun r23 => liftU (f__law_number r23))) fun k24 => okS (!k24)) fun k38 => cond k38 (bindS (bindS (toTr (bindS (bindS (okS d18) fun x27 => bindS (bindS (okS (.str "far")) fun x25 => bindS (okS []) fun r26 => okS (x25 :: r26)) fun r28 => okS (x27 :: r28)) fun r29 => liftU (f__law_word r29))) fun k30 => okS (!k30)) fun k37 => cond k37 (bindS (toTr (bindS (bindS (okS d18) fun x33 => bindS (bindS (okS (.str "whole")) fun x31 => bindS (okS []) fun r32 => okS (x31 :: r32)) fun r34 => okS (x33 :: r34)) fun r35 => liftU (f__law_word r35))) fun k36 => okS (!k36)) (okS false)) (okS false)) fun k39 => cond k39 (bindS (okS (.bl false)) fun d40 => (okS (.rt d40))) (okS (.nx ())))) it49 ()) (ctlS (fun (st41 : Unit) => (bindS (bindS (toB (bindS (toB (bindS (okS (.str "far")) fun x42 => bindS (okS d1_) fun x43 => optS (inD x42 x43))) fun k46 => cond k46 (bindS (okS (.str "whole")) fun x44 => bindS (okS d1_) fun x45 => optS (inD x44 x45)) (okS (.bl false)))) fun k47 => okS (.bl (!k47))) fun d48 => (okS d48))) fun d50 => (okS d50))))
def f__law_is : List D → Res Unit D
  | [d0_, d1_] => c__law_is d0_ d1_ ()
  | _ => .stuck
abbrev N__law_is : List Str := ["machine", "thing", "amount"]
/-- _law_count -/
def c__law_count (d0_ d1_ : D) : Cd Unit D :=
  (bindS (bindS (bindS (bindS (bindS (bindS (bindS (okS d1_) fun x1 => optS (itsD x1)) fun it6 => lcS (fun d2 => bindS (toTr (bindS (okS d2) fun d4 => optS (isiO "str" d4))) fun k5 => cond k5 (bindS (okS (.int 1)) fun y3 => okS (some y3)) (okS none)) it6 []) fun l7 => okS (.fl l7)) fun x8 => bindS (okS []) fun r9 => okS (x8 :: r9)) fun r10 => optS (lenD r10)) fun x11 => bindS (okS (.int 0)) fun x12 => optS (gtD x11 x12)) fun d13 => (bindS (bindS (toTr (okS d13)) fun k14 => cond k14 (okS (.int 512)) (okS (.int 8192))) fun d20 => bindS (bindS (bindS (bindS (okS d0_) fun x16 => bindS (okS (.int 2)) fun x15 => optS (ixD x16 x15)) fun x17 => bindS (okS []) fun r18 => okS (x17 :: r18)) fun r19 => optS (lenD r19)) fun d21 => (bindS (bindS (bindS (bindS (bindS (okS d1_) fun x22 => bindS (okS []) fun r23 => okS (x22 :: r23)) fun r24 => optS (lenD r24)) fun x25 => bindS (okS []) fun r26 => okS (x25 :: r26)) fun r27 => optS (rg1 r27)) fun it67 => bindS (foldS (fun d29 (st28 : D) => (bindS (bindS (okS d1_) fun x31 => bindS (okS d29) fun x30 => optS (ixD x31 x30)) fun d32 => (bindS (bindS (toTr (bindS (okS d32) fun d33 => optS (isiO "str" d33))) fun k34 => okS (!k34)) fun k35 => cond k35 (bindS (bindS (bindS (bindS (bindS (bindS (okS d32) fun x40 => bindS (bindS (bindS (bindS (toB (okS d13)) fun k36 => okS (.bl (!k36))) fun x37 => bindS (okS []) fun r38 => okS (x37 :: r38)) fun r39 => optS (intD r39)) fun x41 => optS (addA x40 x41)) fun x44 => bindS (bindS (okS (.int 14)) fun x42 => bindS (okS []) fun r43 => okS (x42 :: r43)) fun r45 => okS (x44 :: r45)) fun r46 => optS (minLD r46)) fun x47 => bindS (okS []) fun r48 => okS (x47 :: r48)) fun r49 => optS (rg1 r49)) fun it60 => bindS (foldS (fun d51 (st50 : D) => (bindS (bindS (okS st50) fun x56 => bindS (bindS (bindS (okS d0_) fun x54 => bindS (okS (.int 0)) fun x53 => optS (ixD x54 x53)) fun x55 => bindS (okS d29) fun x52 => optS (ixD x55 x52)) fun x57 => optS (mulD x56 x57)) fun d58 => (okS d58))) it60 st28) fun (st59 : D) => (okS st59)) (okS st28)))) it67 d21) fun (st62 : D) => (bindS (bindS (toB (bindS (okS st62) fun x63 => bindS (okS d20) fun x64 => optS (leD x63 x64))) fun k65 => cond k65 (okS st62) (okS .non)) fun d66 => (okS d66)))))
def f__law_count : List D → Res Unit D
  | [d0_, d1_] => c__law_count d0_ d1_ ()
  | _ => .stuck
abbrev N__law_count : List Str := ["machine", "foresight", "long_one", "bound", "total", "at", "amount", "lap"]
/-- _law_foresight -/
def c__law_foresight (d1_ : D) : Cd Pd D :=
  (bindS (bindS (bindS (bindS (okS d1_) fun x2 => bindS (okS (.int 0)) fun x1 => optS (ixD x2 x1)) fun x3 => bindS (okS []) fun r4 => okS (x3 :: r4)) fun r5 => optS (lenD r5)) fun d10 => bindS (bindS (bindS (okS (.int 5)) fun x8 => bindS (bindS (okS (.int 6)) fun x6 => bindS (okS []) fun r7 => okS (x6 :: r7)) fun r9 => okS (x8 :: r9)) f__law_peal) fun d11 => (bindS (bindS (bindS (bindS (okS (.str "far")) fun x19 => bindS (bindS (okS (.str "whole")) fun x17 => bindS (okS []) fun r18 => okS (x17 :: r18)) fun r20 => okS (x19 :: r20)) fun r21 => optS (tupO r21)) fun x22 => bindS (bindS (bindS (okS (.int 2)) fun x14 => bindS (bindS (okS (.int 7)) fun x12 => bindS (okS []) fun r13 => okS (x12 :: r13)) fun r15 => okS (x14 :: r15)) f__law_peal) fun x16 => optS (ixD x22 x16)) fun d23 => (bindS (bindS (okS []) fun r94 => optS (lenOk r94)) fun l24 => (bindS (bindS (bindS (okS d10) fun x25 => bindS (okS []) fun r26 => okS (x25 :: r26)) fun r27 => optS (rg1 r27)) fun it92 => bindS (foldS (fun d29 (st28 : List D) => (bindS (bindS (bindS (okS (.int 6)) fun x32 => bindS (bindS (okS (.int 8)) fun x30 => bindS (okS []) fun r31 => okS (x30 :: r31)) fun r33 => okS (x32 :: r33)) f__law_peal) fun d34 => (bindS (bindS (bindS (bindS (bindS (toB (bindS (okS d34) fun x35 => bindS (okS (.int 2)) fun x36 => optS (ltD x35 x36))) fun k39 => cond k39 (toB (bindS (okS d11) fun x37 => bindS (okS (.int 0)) fun x38 => optS (neD x37 x38))) (okS false)) fun k56 => cond k56 (okS d23) (bindS (toB (bindS (okS d34) fun x40 => bindS (okS (.int 1)) fun x41 => optS (gtD x40 x41))) fun k55 => cond k55 (bindS (bindS (bindS (okS (.int 0)) fun x51 => bindS (bindS (okS (.int 1)) fun x49 => bindS (bindS (okS (.int 2)) fun x47 => bindS (bindS (okS (.int 3)) fun x45 => bindS (okS []) fun r46 => okS (x45 :: r46)) fun r48 => okS (x47 :: r48)) fun r50 => okS (x49 :: r50)) fun r52 => okS (x51 :: r52)) fun r53 => optS (tupO r53)) fun x54 => bindS (bindS (okS d34) fun x42 => bindS (okS (.int 2)) fun x43 => optS (subD x42 x43)) fun x44 => optS (ixD x54 x44)) (okS (.int 0)))) fun x57 => bindS (okS []) fun r58 => okS (x57 :: r58)) fun r59 => optS (appM st28 r59)) fun z60 => (okS z60.2)))) it92 l24) fun (st61 : List D) => (jn (fun (st65 : List D) => (bindS (optS (tupleD [.fl st65])) fun d67 => (okS d67))) fun j66 => bindS (toB (bindS (okS d11) fun x62 => bindS (okS (.int 2)) fun x63 => optS (eqqD x62 x63))) fun k64 => cond k64 (bindS (bindS (bindS (bindS (okS (.int 9999)) fun x81 => bindS (bindS (okS (.int 40)) fun x79 => bindS (bindS (okS (.int 9998)) fun x77 => bindS (bindS (okS (.int 12)) fun x75 => bindS (bindS (okS (.int 14)) fun x73 => bindS (okS []) fun r74 => okS (x73 :: r74)) fun r76 => okS (x75 :: r76)) fun r78 => okS (x77 :: r78)) fun r80 => okS (x79 :: r80)) fun r82 => okS (x81 :: r82)) fun r83 => optS (tupO r83)) fun x84 => bindS (bindS (bindS (okS (.int 5)) fun x70 => bindS (bindS (okS (.int 10)) fun x68 => bindS (okS []) fun r69 => okS (x68 :: r69)) fun r71 => okS (x70 :: r71)) f__law_peal) fun x72 => optS (ixD x84 x72)) fun d89 => bindS (bindS (bindS (okS d10) fun x87 => bindS (bindS (okS (.int 9)) fun x85 => bindS (okS []) fun r86 => okS (x85 :: r86)) fun r88 => okS (x87 :: r88)) f__law_peal) fun x90 => bindS (optS (setO st61 x90 d89)) fun l91 => (j66 l91)) (j66 st61))))))
def f__law_foresight : List D → Cd Pd D
  | [d1_] => c__law_foresight d1_
  | _ => stk
abbrev N__law_foresight : List Str := ["tower", "machine", "many", "way", "word", "told", "at", "pick"]
/-- _law_edge -/
def c__law_edge (d1_ d2_ : D) : Cd Pd D :=
  (bindS (bindS (bindS (bindS (bindS (okS d2_) fun x1 => bindS (okS []) fun r2 => okS (x1 :: r2)) fun r3 => optS (lenD r3)) fun x6 => bindS (bindS (okS (.int 0)) fun x4 => bindS (okS []) fun r5 => okS (x4 :: r5)) fun r7 => okS (x6 :: r7)) f__law_peal) fun d8 => (bindS (okS .non) fun d9 => (bindS (bindS (bindS (okS (.int 15)) fun x10 => bindS (okS []) fun r11 => okS (x10 :: r11)) fun r12 => optS (rg1 r12)) fun it79 => bindS (foldS (fun d14 (st13 : D) => (bindS (bindS (bindS (bindS (okS d2_) fun x16 => bindS (okS none) fun i17 => bindS (bindS (okS d8) fun x15 => optS (asI x15)) fun i18 => optS (sliceA x16 i17 i18)) fun x22 => bindS (bindS (bindS (okS d14) fun x19 => bindS (okS []) fun r20 => okS (x19 :: r20)) fun r21 => optS (tupO r21)) fun x23 => optS (addA x22 x23)) fun x30 => bindS (bindS (okS d2_) fun x27 => bindS (bindS (bindS (okS d8) fun x24 => bindS (okS (.int 1)) fun x25 => optS (addA x24 x25)) fun x26 => optS (asI x26)) fun i28 => bindS (okS none) fun i29 => optS (sliceA x27 i28 i29)) fun x31 => optS (addA x30 x31)) fun d32 => (bindS (toB (bindS (bindS (bindS (okS d1_) fun x35 => bindS (bindS (okS d32) fun x33 => bindS (okS []) fun r34 => okS (x33 :: r34)) fun r36 => okS (x35 :: r36)) fun r37 => liftU (f__law_count r37)) fun x38 => bindS (okS .non) fun x39 => optS (isnotD x38 x39))) fun k40 => cond k40 (bindS (okS d32) fun d41 => (okS d41)) (okS st13)))) it79 d9) fun (st42 : D) => (bindS (toB (bindS (okS st42) fun x43 => bindS (okS .non) fun x44 => optS (isD x43 x44))) fun k45 => cond k45 (bindS (bindS (bindS (okS d2_) fun x48 => bindS (bindS (okS d2_) fun x46 => bindS (okS []) fun r47 => okS (x46 :: r47)) fun r49 => okS (x48 :: r49)) fun r50 => optS (tupO r50)) fun d51 => (okS d51)) (bindS (bindS (bindS (okS st42) fun x75 => bindS (bindS (bindS (bindS (bindS (okS st42) fun x53 => bindS (okS none) fun i54 => bindS (bindS (okS d8) fun x52 => optS (asI x52)) fun i55 => optS (sliceA x53 i54 i55)) fun x63 => bindS (bindS (bindS (bindS (bindS (okS st42) fun x57 => bindS (okS d8) fun x56 => optS (ixD x57 x56)) fun x58 => bindS (okS (.int 1)) fun x59 => optS (addA x58 x59)) fun x60 => bindS (okS []) fun r61 => okS (x60 :: r61)) fun r62 => optS (tupO r62)) fun x64 => optS (addA x63 x64)) fun x71 => bindS (bindS (okS st42) fun x68 => bindS (bindS (bindS (okS d8) fun x65 => bindS (okS (.int 1)) fun x66 => optS (addA x65 x66)) fun x67 => optS (asI x67)) fun i69 => bindS (okS none) fun i70 => optS (sliceA x68 i69 i70)) fun x72 => optS (addA x71 x72)) fun x73 => bindS (okS []) fun r74 => okS (x73 :: r74)) fun r76 => okS (x75 :: r76)) fun r77 => optS (tupO r77)) fun d78 => (okS d78))))))
def f__law_edge : List D → Cd Pd D
  | [d1_, d2_] => c__law_edge d1_ d2_
  | _ => stk
abbrev N__law_edge : List Str := ["tower", "machine", "foresight", "at", "best", "amount", "now"]
/-- _law_odd -/
def c__law_odd (d1_ d2_ : D) : Cd Pd D :=
  (bindS (bindS (bindS (bindS (bindS (bindS (bindS (okS d2_) fun x1 => bindS (okS []) fun r2 => okS (x1 :: r2)) fun r3 => optS (lenD r3)) fun x6 => bindS (bindS (okS (.int 1)) fun x4 => bindS (okS []) fun r5 => okS (x4 :: r5)) fun r7 => okS (x6 :: r7)) f__law_peal) fun x14 => bindS (bindS (bindS (bindS (okS (.int 8)) fun x10 => bindS (bindS (okS (.int 2)) fun x8 => bindS (okS []) fun r9 => okS (x8 :: r9)) fun r11 => okS (x10 :: r11)) f__law_peal) fun x12 => bindS (okS []) fun r13 => okS (x12 :: r13)) fun r15 => okS (x14 :: r15)) fun r16 => optS (tupO r16)) fun d17 => un2 d17 fun d18 d19 => (bindS (toB (bindS (okS d19) fun x20 => bindS (okS (.int 0)) fun x21 => optS (eqqD x20 x21))) fun k22 => cond k22 (bindS (bindS (okS d2_) fun x45 => bindS (bindS (bindS (bindS (bindS (bindS (okS (.int 0)) fun x28 => bindS (okS []) fun r29 => okS (x28 :: r29)) fun r30 => optS (tupO r30)) fun x41 => bindS (bindS (bindS (bindS (okS (.str "far")) fun x31 => bindS (okS []) fun r32 => okS (x31 :: r32)) fun r33 => optS (tupO r33)) fun x39 => bindS (bindS (bindS (bindS (okS .non) fun x34 => bindS (okS []) fun r35 => okS (x34 :: r35)) fun r36 => optS (tupO r36)) fun x37 => bindS (okS []) fun r38 => okS (x37 :: r38)) fun r40 => okS (x39 :: r40)) fun r42 => okS (x41 :: r42)) fun r43 => optS (tupO r43)) fun x44 => bindS (bindS (bindS (okS (.int 3)) fun x25 => bindS (bindS (okS (.int 3)) fun x23 => bindS (okS []) fun r24 => okS (x23 :: r24)) fun r26 => okS (x25 :: r26)) f__law_peal) fun x27 => optS (ixD x44 x27)) fun x46 => optS (addA x45 x46)) fun d47 => (okS d47)) (bindS (toB (bindS (okS d19) fun x48 => bindS (okS (.int 1)) fun x49 => optS (eqqD x48 x49))) fun k50 => cond k50 (bindS (bindS (okS d2_) fun x52 => bindS (bindS (okS (.int 1)) fun x51 => optS (asI x51)) fun i53 => bindS (okS none) fun i54 => optS (sliceA x52 i53 i54)) fun d55 => (okS d55)) (bindS (toB (bindS (okS d19) fun x56 => bindS (okS (.int 2)) fun x57 => optS (eqqD x56 x57))) fun k58 => cond k58 (bindS (bindS (bindS (bindS (okS d2_) fun x59 => bindS (okS []) fun r60 => okS (x59 :: r60)) fun r61 => optS (listD r61)) fun l62 => okS (.fl l62)) fun d63 => (okS d63)) (bindS (toB (bindS (okS d19) fun x64 => bindS (okS (.int 3)) fun x65 => optS (eqqD x64 x65))) fun k66 => cond k66 (bindS (bindS (bindS (bindS (okS .non) fun x101 => bindS (bindS (okS (.int 7)) fun x99 => bindS (bindS (okS (.str "far")) fun x97 => bindS (bindS (bindS (okS []) fun r72 => optS (tupO r72)) fun x95 => bindS (bindS (okS (.bl true)) fun x93 => bindS (bindS (bindS (bindS (okS []) fun r73 => optS (lenOk r73)) fun l74 => okS (.fl l74)) fun x91 => bindS (bindS (bindS (bindS (bindS (okS (.str "far")) fun x75 => bindS (okS []) fun r76 => okS (x75 :: r76)) fun r77 => optS (tupO r77)) fun x78 => bindS (okS (.int 4)) fun x79 => optS (mulD x78 x79)) fun x89 => bindS (bindS (bindS (bindS (okS (.str "whole")) fun x84 => bindS (bindS (okS (.str "far")) fun x82 => bindS (bindS (okS (.str "whole")) fun x80 => bindS (okS []) fun r81 => okS (x80 :: r81)) fun r83 => okS (x82 :: r83)) fun r85 => okS (x84 :: r85)) fun r86 => optS (tupO r86)) fun x87 => bindS (okS []) fun r88 => okS (x87 :: r88)) fun r90 => okS (x89 :: r90)) fun r92 => okS (x91 :: r92)) fun r94 => okS (x93 :: r94)) fun r96 => okS (x95 :: r96)) fun r98 => okS (x97 :: r98)) fun r100 => okS (x99 :: r100)) fun r102 => okS (x101 :: r102)) fun r103 => optS (tupO r103)) fun x104 => bindS (bindS (bindS (okS (.int 8)) fun x69 => bindS (bindS (okS (.int 4)) fun x67 => bindS (okS []) fun r68 => okS (x67 :: r68)) fun r70 => okS (x69 :: r70)) f__law_peal) fun x71 => optS (ixD x104 x71)) fun d105 => (okS d105)) (bindS (bindS (toB (bindS (okS d19) fun x106 => bindS (okS (.int 4)) fun x107 => optS (eqqD x106 x107))) fun k113 => cond k113 (toB (bindS (bindS (bindS (okS d2_) fun x108 => bindS (okS []) fun r109 => okS (x108 :: r109)) fun r110 => optS (lenD r110)) fun x111 => bindS (okS (.int 1)) fun x112 => optS (gtD x111 x112))) (okS false)) fun k114 => cond k114 (bindS (bindS (bindS (bindS (bindS (okS d18) fun x115 => bindS (okS (.int 1)) fun x116 => optS (addA x115 x116)) fun x117 => bindS (okS []) fun r118 => okS (x117 :: r118)) fun r119 => optS (intD r119)) fun x123 => bindS (bindS (bindS (okS d2_) fun x120 => bindS (okS []) fun r121 => okS (x120 :: r121)) fun r122 => optS (lenD r122)) fun x124 => optS (modD x123 x124)) fun d125 => (bindS (bindS (bindS (bindS (bindS (bindS (bindS (bindS (bindS (okS d2_) fun x126 => bindS (okS []) fun r127 => okS (x126 :: r127)) fun r128 => optS (lenD r128)) fun x129 => bindS (okS []) fun r130 => okS (x129 :: r130)) fun r131 => optS (rg1 r131)) fun it142 => lcS (fun d132 => bindS (bindS (toB (bindS (okS d132) fun x133 => bindS (okS d18) fun x134 => optS (eqqD x133 x134))) fun k140 => cond k140 (okS (.str "far")) (bindS (toB (bindS (okS d132) fun x135 => bindS (okS d125) fun x136 => optS (eqqD x135 x136))) fun k139 => cond k139 (okS (.str "whole")) (bindS (okS d2_) fun x138 => bindS (okS d132) fun x137 => optS (ixD x138 x137)))) fun y141 => okS (some y141)) it142 []) fun l143 => okS (.fl l143)) fun x144 => bindS (okS []) fun r145 => okS (x144 :: r145)) fun r146 => optS (tupleD r146)) fun d147 => (okS d147))) (bindS (bindS (bindS (bindS (bindS (okS (.int 1)) fun x153 => optS (negD x153)) fun x185 => bindS (bindS (okS (.int 10000)) fun x183 => bindS (bindS (okS (.bl true)) fun x181 => bindS (bindS (okS (.bl false)) fun x179 => bindS (bindS (okS .non) fun x177 => bindS (bindS (okS (.str "Far")) fun x175 => bindS (bindS (okS (.str "")) fun x173 => bindS (bindS (okS (.str "whole ")) fun x171 => bindS (bindS (bindS (bindS (okS (.int 1)) fun x154 => bindS (okS []) fun r155 => okS (x154 :: r155)) fun r156 => optS (tupO r156)) fun x169 => bindS (bindS (bindS (bindS (bindS (okS (.int 2)) fun x157 => bindS (okS []) fun r158 => okS (x157 :: r158)) fun r159 => optS (lenOk r159)) fun l160 => okS (.fl l160)) fun x167 => bindS (bindS (okS (.str "0")) fun x165 => bindS (bindS (bindS (okS (.int 10)) fun x161 => bindS (okS (.int 59)) fun x162 => optS (powD x161 x162)) fun x163 => bindS (okS []) fun r164 => okS (x163 :: r164)) fun r166 => okS (x165 :: r166)) fun r168 => okS (x167 :: r168)) fun r170 => okS (x169 :: r170)) fun r172 => okS (x171 :: r172)) fun r174 => okS (x173 :: r174)) fun r176 => okS (x175 :: r176)) fun r178 => okS (x177 :: r178)) fun r180 => okS (x179 :: r180)) fun r182 => okS (x181 :: r182)) fun r184 => okS (x183 :: r184)) fun r186 => okS (x185 :: r186)) fun r187 => optS (tupO r187)) fun x188 => bindS (bindS (bindS (okS (.int 12)) fun x150 => bindS (bindS (okS (.int 5)) fun x148 => bindS (okS []) fun r149 => okS (x148 :: r149)) fun r151 => okS (x150 :: r151)) f__law_peal) fun x152 => optS (ixD x188 x152)) fun d189 => (bindS (bindS (bindS (bindS (okS d2_) fun x191 => bindS (okS none) fun i192 => bindS (bindS (okS d18) fun x190 => optS (asI x190)) fun i193 => optS (sliceA x191 i192 i193)) fun x197 => bindS (bindS (bindS (okS d189) fun x194 => bindS (okS []) fun r195 => okS (x194 :: r195)) fun r196 => optS (tupO r196)) fun x198 => optS (addA x197 x198)) fun x205 => bindS (bindS (okS d2_) fun x202 => bindS (bindS (bindS (okS d18) fun x199 => bindS (okS (.int 1)) fun x200 => optS (addA x199 x200)) fun x201 => optS (asI x201)) fun i203 => bindS (okS none) fun i204 => optS (sliceA x202 i203 i204)) fun x206 => optS (addA x205 x206)) fun d207 => (okS d207)))))))))
def f__law_odd : List D → Cd Pd D
  | [d1_, d2_] => c__law_odd d1_ d2_
  | _ => stk
abbrev N__law_odd : List Str := ["tower", "machine", "foresight", "at", "way", "odd", "spot", "one"]
/-- _law_same -/
def c__law_same (rc : List D → Res Unit D) (d0_ d1_ : D) : Cd Unit D :=
  (bindS (toTr (bindS (okS d1_) fun d1 => optS (isiO "tuple" d1))) fun k2 => cond k2 (bindS (bindS (toB (bindS (okS d0_) fun d3 => optS (isiO "tuple" d3))) fun k39 => cond k39 (bindS (toB (bindS (bindS (bindS (okS d0_) fun x4 => bindS (okS []) fun r5 => okS (x4 :: r5)) fun r6 => optS (lenD r6)) fun x10 => bindS (bindS (bindS (okS d1_) fun x7 => bindS (okS []) fun r8 => okS (x7 :: r8)) fun r9 => optS (lenD r9)) fun x11 => optS (eqqD x10 x11))) fun k38 => cond k38 (bindS (bindS (bindS (bindS (bindS (bindS (bindS (bindS (bindS (okS d1_) fun x12 => bindS (okS []) fun r13 => okS (x12 :: r13)) fun r14 => optS (lenD r14)) fun x15 => bindS (okS []) fun r16 => okS (x15 :: r16)) fun r17 => optS (rg1 r17)) fun it31 => lcS (fun d18 => bindS (bindS (toTr (bindS (bindS (bindS (okS d0_) fun x21 => bindS (okS d18) fun x20 => optS (ixD x21 x20)) fun x26 => bindS (bindS (bindS (okS d1_) fun x23 => bindS (okS d18) fun x22 => optS (ixD x23 x22)) fun x24 => bindS (okS []) fun r25 => okS (x24 :: r25)) fun r27 => okS (x26 :: r27)) fun r28 => liftU (rc r28))) fun k29 => okS (!k29)) fun k30 => cond k30 (bindS (okS (.int 1)) fun y19 => okS (some y19)) (okS none)) it31 []) fun l32 => okS (.fl l32)) fun x33 => bindS (okS []) fun r34 => okS (x33 :: r34)) fun r35 => optS (lenD r35)) fun x36 => bindS (okS (.int 0)) fun x37 => optS (eqqD x36 x37)) (okS (.bl false))) (okS (.bl false))) fun d40 => (okS d40)) (bindS (toTr (bindS (okS d1_) fun d41 => optS (isiO "str" d41))) fun k42 => cond k42 (bindS (bindS (toB (bindS (okS d0_) fun d43 => optS (isiO "str" d43))) fun k46 => cond k46 (bindS (okS d0_) fun x44 => bindS (okS d1_) fun x45 => optS (eqqD x44 x45)) (okS (.bl false))) fun d47 => (okS d47)) (bindS (toTr (bindS (okS d1_) fun d48 => optS (isiO "bool" d48))) fun k49 => cond k49 (bindS (bindS (toB (bindS (okS d0_) fun d50 => optS (isiO "bool" d50))) fun k53 => cond k53 (bindS (okS d0_) fun x51 => bindS (okS d1_) fun x52 => optS (eqqD x51 x52)) (okS (.bl false))) fun d54 => (okS d54)) (bindS (bindS (toB (bindS (okS d0_) fun d55 => optS (isiO "int" d55))) fun k61 => cond k61 (bindS (toB (bindS (toB (bindS (okS d0_) fun d56 => optS (isiO "bool" d56))) fun k57 => okS (.bl (!k57)))) fun k60 => cond k60 (bindS (okS d0_) fun x58 => bindS (okS d1_) fun x59 => optS (eqqD x58 x59)) (okS (.bl false))) (okS (.bl false))) fun d62 => (okS d62)))))
def h__law_same (rc : List D → Res Unit D) : List D → Res Unit D
  | [d0_, d1_] => c__law_same rc d0_ d1_ ()
  | _ => .stuck
def f__law_same : Nat → List D → Res Unit D
  | 0, _ => .stuck
  | k + 1, ds => h__law_same (f__law_same k) ds
abbrev N__law_same : List Str := ["told", "due", "at"]
/-- _law_heard -/
def c__law_heard (d0_ d1_ : D) : Cd Unit D :=
  (bindS (tryS (bindS (bindS (bindS (okS (.str "many")) fun x9 => bindS (bindS (bindS (bindS (okS d0_) fun x4 => bindS (bindS (okS d1_) fun x2 => bindS (okS []) fun r3 => okS (x2 :: r3)) fun r5 => okS (x4 :: r5)) fun r6 => liftU (f_check_foresight r6)) fun x7 => bindS (okS []) fun r8 => okS (x7 :: r8)) fun r10 => okS (x9 :: r10)) fun r11 => optS (tupO r11)) fun d12 => (okS (.rt d12))) (hsel isa_ [("BadStep", fun e13 => (bindS (bindS (bindS (okS (.str "step")) fun x16 => bindS (bindS (fexS ["BadStep"] "word" e13) fun x14 => bindS (okS []) fun r15 => okS (x14 :: r15)) fun r17 => okS (x16 :: r17)) fun r18 => optS (tupO r18)) fun d19 => (okS (.rt d19)))), ("FarError", fun e20 => (bindS (bindS (bindS (okS (.str "else")) fun x21 => bindS (okS []) fun r22 => okS (x21 :: r22)) fun r23 => optS (tupO r23)) fun d24 => (okS (.rt d24))))])) (ctlS (fun (st1 : Unit) => (okS .non)) fun d25 => (okS d25)))
def f__law_heard : List D → Res Unit D
  | [d0_, d1_] => c__law_heard d0_ d1_ ()
  | _ => .stuck
abbrev N__law_heard : List Str := ["machine", "thing", "error"]
/-- _law_asked -/
def c__law_asked (d0_ d1_ : D) : Cd Unit D :=
  (bindS (bindS (bindS (okS d0_) fun x3 => bindS (bindS (okS d1_) fun x1 => bindS (okS []) fun r2 => okS (x1 :: r2)) fun r4 => okS (x3 :: r4)) fun r5 => liftU (f__law_is r5)) fun d6 => (bindS (bindS (toTr (bindS (bindS (bindS (bindS (okS d1_) fun x9 => bindS (bindS (okS d0_) fun x7 => bindS (okS []) fun r8 => okS (x7 :: r8)) fun r10 => okS (x9 :: r10)) fun z11 => liftU (f_is_foresight (kD_0 [] z11))) fun x15 => bindS (bindS (okS d6) fun x13 => bindS (okS []) fun r14 => okS (x13 :: r14)) fun r16 => okS (x15 :: r16)) fun r17 => liftU (f__law_same 4 r17))) fun k18 => okS (!k18)) fun k19 => cond k19 (bindS (okS (.bl false)) fun d20 => (okS d20)) (bindS (bindS (bindS (okS (.str "step")) fun x23 => bindS (bindS (okS (.str "foresight")) fun x21 => bindS (okS []) fun r22 => okS (x21 :: r22)) fun r24 => okS (x23 :: r24)) fun r25 => optS (tupO r25)) fun d26 => (jn (fun (st28 : D) => (bindS (bindS (bindS (bindS (bindS (okS d0_) fun x32 => bindS (bindS (okS d1_) fun x30 => bindS (okS []) fun r31 => okS (x30 :: r31)) fun r33 => okS (x32 :: r33)) fun r34 => liftU (f__law_heard r34)) fun x37 => bindS (bindS (okS st28) fun x35 => bindS (okS []) fun r36 => okS (x35 :: r36)) fun r38 => okS (x37 :: r38)) fun r39 => liftU (f__law_same 4 r39)) fun d40 => (okS d40))) fun j29 => bindS (toTr (okS d6)) fun k27 => cond k27 (bindS (bindS (bindS (okS d0_) fun x43 => bindS (bindS (okS d1_) fun x41 => bindS (okS []) fun r42 => okS (x41 :: r42)) fun r44 => okS (x43 :: r44)) fun r45 => liftU (f__law_count r45)) fun d46 => (bindS (bindS (toB (bindS (okS d46) fun x47 => bindS (okS .non) fun x48 => optS (isD x47 x48))) fun k59 => cond k59 (bindS (bindS (okS (.str "step")) fun x51 => bindS (bindS (okS (.str "number")) fun x49 => bindS (okS []) fun r50 => okS (x49 :: r50)) fun r52 => okS (x51 :: r52)) fun r53 => optS (tupO r53)) (bindS (bindS (okS (.str "many")) fun x56 => bindS (bindS (okS d46) fun x54 => bindS (okS []) fun r55 => okS (x54 :: r55)) fun r57 => okS (x56 :: r57)) fun r58 => optS (tupO r58))) fun d60 => (bindS (bindS (toB (bindS (okS (.str "far")) fun x61 => bindS (okS d1_) fun x62 => optS (inD x61 x62))) fun k66 => cond k66 (okS (.str "far")) (bindS (toB (bindS (okS (.str "whole")) fun x63 => bindS (okS d1_) fun x64 => optS (inD x63 x64))) fun k65 => cond k65 (okS (.str "whole")) (okS (.str "number")))) fun d67 => (bindS (bindS (bindS (toTr (bindS (bindS (bindS (bindS (okS d1_) fun x68 => bindS (okS []) fun r69 => okS (x68 :: r69)) fun r70 => liftU (f_kind_of r70)) fun x73 => bindS (bindS (okS d67) fun x71 => bindS (okS []) fun r72 => okS (x71 :: r72)) fun r74 => okS (x73 :: r74)) fun r75 => liftU (f__law_same 4 r75))) fun k76 => okS (!k76)) fun k104 => cond k104 (okS true) (bindS (toTr (bindS (bindS (bindS (bindS (okS d1_) fun x77 => bindS (okS []) fun r78 => okS (x77 :: r78)) fun z79 => liftU (f_long_streams (kD_1 [] z79))) fun x100 => bindS (bindS (bindS (bindS (bindS (bindS (bindS (bindS (bindS (bindS (okS d1_) fun x81 => bindS (okS []) fun r82 => okS (x81 :: r82)) fun r83 => optS (lenD r83)) fun x84 => bindS (okS []) fun r85 => okS (x84 :: r85)) fun r86 => optS (rg1 r86)) fun it93 => lcS (fun d87 => bindS (toTr (bindS (bindS (okS d1_) fun x90 => bindS (okS d87) fun x89 => optS (ixD x90 x89)) fun d91 => optS (isiO "str" d91))) fun k92 => cond k92 (bindS (okS d87) fun y88 => okS (some y88)) (okS none)) it93 []) fun l94 => okS (.fl l94)) fun x95 => bindS (okS []) fun r96 => okS (x95 :: r96)) fun r97 => optS (tupleD r97)) fun x98 => bindS (okS []) fun r99 => okS (x98 :: r99)) fun r101 => okS (x100 :: r101)) fun r102 => liftU (f__law_same 4 r102))) fun k103 => okS (!k103))) fun k105 => cond k105 (bindS (okS (.bl false)) fun d106 => (okS d106)) (j29 d60))))) (j29 d26)))))
def f__law_asked : List D → Res Unit D
  | [d0_, d1_] => c__law_asked d0_ d1_ ()
  | _ => .stuck
abbrev N__law_asked : List Str := ["machine", "thing", "right", "due", "many", "kind", "at"]
/-- law -/
def c_law (d0_ : D) : Cd Unit D :=
  (bindS (bindS (okS d0_) fun x1 => bindS (okS []) fun r2 => okS (x1 :: r2)) fun r3 => bindS (liftU (f__law_tower r3)) fun s4 => runS (bindS (bindS (bindS (okS (.int 3)) fun x5 => bindS (okS []) fun r6 => okS (x5 :: r6)) fun r7 => optS (rg1 r7)) fun it285 => bindS (loopS (fun d9 (st8 : Unit) => (bindS (bindS (okS []) f__law_machine) fun d10 => (bindS (bindS (bindS (okS (.int 4)) fun x11 => bindS (okS []) fun r12 => okS (x11 :: r12)) fun r13 => optS (rg1 r13)) fun it58 => bindS (loopS (fun d15 (st14 : Unit) => (bindS (bindS (bindS (okS d10) fun x16 => bindS (okS []) fun r17 => okS (x16 :: r17)) f__law_foresight) fun d18 => (bindS (bindS (toTr (bindS (bindS (okS d10) fun x21 => bindS (bindS (okS d18) fun x19 => bindS (okS []) fun r20 => okS (x19 :: r20)) fun r22 => okS (x21 :: r22)) fun r23 => liftU (f__law_asked r23))) fun k24 => okS (!k24)) fun k25 => cond k25 (bindS (okS (.bl false)) fun d26 => (okS (.rt d26))) (bindS (bindS (bindS (bindS (okS d10) fun x29 => bindS (bindS (okS d18) fun x27 => bindS (okS []) fun r28 => okS (x27 :: r28)) fun r30 => okS (x29 :: r30)) f__law_edge) fun x31 => optS (itsD x31)) fun it55 => bindS (loopS (fun d33 (st32 : Unit) => (bindS (bindS (toTr (bindS (bindS (okS d10) fun x36 => bindS (bindS (okS d33) fun x34 => bindS (okS []) fun r35 => okS (x34 :: r35)) fun r37 => okS (x36 :: r37)) fun r38 => liftU (f__law_asked r38))) fun k39 => okS (!k39)) fun k40 => cond k40 (bindS (okS (.bl false)) fun d41 => (okS (.rt d41))) (okS (.nx ())))) it55 ()) (ctlS (fun (st42 : Unit) => (bindS (bindS (toTr (bindS (bindS (okS d10) fun x49 => bindS (bindS (bindS (bindS (okS d10) fun x45 => bindS (bindS (okS d18) fun x43 => bindS (okS []) fun r44 => okS (x43 :: r44)) fun r46 => okS (x45 :: r46)) f__law_odd) fun x47 => bindS (okS []) fun r48 => okS (x47 :: r48)) fun r50 => okS (x49 :: r50)) fun r51 => liftU (f__law_asked r51))) fun k52 => okS (!k52)) fun k53 => cond k53 (bindS (okS (.bl false)) fun d54 => (okS (.rt d54))) (okS (.nx ())))) fun d56 => (okS (.rt d56))))))) it58 ()) (ctlS (fun (st57 : Unit) => (okS (.nx ()))) fun d59 => (okS (.rt d59)))))) it285 ()) (ctlS (fun (st60 : Unit) => (bindS (bindS (bindS (bindS (bindS (okS (.int 2)) fun x61 => bindS (okS []) fun r62 => okS (x61 :: r62)) fun r63 => optS (tupO r63)) fun x83 => bindS (bindS (okS (.int 1)) fun x81 => bindS (bindS (bindS (bindS (bindS (bindS (bindS (bindS (okS (.int 0)) fun x64 => bindS (okS []) fun r65 => okS (x64 :: r65)) fun r66 => optS (tupO r66)) fun x73 => bindS (bindS (bindS (bindS (bindS (okS (.int 1)) fun x67 => optS (negD x67)) fun x68 => bindS (okS []) fun r69 => okS (x68 :: r69)) fun r70 => optS (tupO r70)) fun x71 => bindS (okS []) fun r72 => okS (x71 :: r72)) fun r74 => okS (x73 :: r74)) fun r75 => optS (tupO r75)) fun x76 => bindS (okS []) fun r77 => okS (x76 :: r77)) fun r78 => optS (tupO r78)) fun x79 => bindS (okS []) fun r80 => okS (x79 :: r80)) fun r82 => okS (x81 :: r82)) fun r84 => okS (x83 :: r84)) fun r85 => optS (tupO r85)) fun d86 => (bindS (bindS (bindS (bindS (bindS (okS (.int 2)) fun x89 => bindS (bindS (okS (.int 3)) fun x87 => bindS (okS []) fun r88 => okS (x87 :: r88)) fun r90 => okS (x89 :: r90)) fun r91 => optS (tupO r91)) fun x109 => bindS (bindS (okS (.int 1)) fun x107 => bindS (bindS (bindS (bindS (bindS (bindS (bindS (bindS (bindS (bindS (okS (.int 0)) fun x92 => bindS (okS []) fun r93 => okS (x92 :: r93)) fun r94 => optS (tupO r94)) fun x95 => bindS (okS []) fun r96 => okS (x95 :: r96)) fun r97 => optS (tupO r97)) fun x98 => bindS (okS (.int 6)) fun x99 => optS (mulD x98 x99)) fun x100 => bindS (okS []) fun r101 => okS (x100 :: r101)) fun r102 => optS (tupO r102)) fun x103 => bindS (okS (.int 2)) fun x104 => optS (mulD x103 x104)) fun x105 => bindS (okS []) fun r106 => okS (x105 :: r106)) fun r108 => okS (x107 :: r108)) fun r110 => okS (x109 :: r110)) fun r111 => optS (tupO r111)) fun d112 => (bindS (bindS (bindS (bindS (bindS (bindS (okS d86) fun x120 => bindS (bindS (bindS (bindS (okS (.int 12)) fun x113 => bindS (okS []) fun r114 => okS (x113 :: r114)) fun r115 => optS (tupO r115)) fun x118 => bindS (bindS (okS (.int 8192)) fun x116 => bindS (okS []) fun r117 => okS (x116 :: r117)) fun r119 => okS (x118 :: r119)) fun r121 => okS (x120 :: r121)) fun r122 => optS (tupO r122)) fun x203 => bindS (bindS (bindS (bindS (okS d86) fun x130 => bindS (bindS (bindS (bindS (okS (.int 13)) fun x123 => bindS (okS []) fun r124 => okS (x123 :: r124)) fun r125 => optS (tupO r125)) fun x128 => bindS (bindS (okS .non) fun x126 => bindS (okS []) fun r127 => okS (x126 :: r127)) fun r129 => okS (x128 :: r129)) fun r131 => okS (x130 :: r131)) fun r132 => optS (tupO r132)) fun x201 => bindS (bindS (bindS (bindS (okS d86) fun x140 => bindS (bindS (bindS (bindS (okS (.str "far")) fun x133 => bindS (okS []) fun r134 => okS (x133 :: r134)) fun r135 => optS (tupO r135)) fun x138 => bindS (bindS (okS (.int 1)) fun x136 => bindS (okS []) fun r137 => okS (x136 :: r137)) fun r139 => okS (x138 :: r139)) fun r141 => okS (x140 :: r141)) fun r142 => optS (tupO r142)) fun x199 => bindS (bindS (bindS (bindS (okS d112) fun x152 => bindS (bindS (bindS (bindS (okS (.str "far")) fun x145 => bindS (bindS (okS (.int 5)) fun x143 => bindS (okS []) fun r144 => okS (x143 :: r144)) fun r146 => okS (x145 :: r146)) fun r147 => optS (tupO r147)) fun x150 => bindS (bindS (okS (.int 486)) fun x148 => bindS (okS []) fun r149 => okS (x148 :: r149)) fun r151 => okS (x150 :: r151)) fun r153 => okS (x152 :: r153)) fun r154 => optS (tupO r154)) fun x197 => bindS (bindS (bindS (bindS (okS d112) fun x164 => bindS (bindS (bindS (bindS (okS (.str "whole")) fun x157 => bindS (bindS (okS (.int 6)) fun x155 => bindS (okS []) fun r156 => okS (x155 :: r156)) fun r158 => okS (x157 :: r158)) fun r159 => optS (tupO r159)) fun x162 => bindS (bindS (okS .non) fun x160 => bindS (okS []) fun r161 => okS (x160 :: r161)) fun r163 => okS (x162 :: r163)) fun r165 => okS (x164 :: r165)) fun r166 => optS (tupO r166)) fun x195 => bindS (bindS (bindS (bindS (okS d112) fun x176 => bindS (bindS (bindS (bindS (okS (.int 8)) fun x169 => bindS (bindS (okS (.str "far")) fun x167 => bindS (okS []) fun r168 => okS (x167 :: r168)) fun r170 => okS (x169 :: r170)) fun r171 => optS (tupO r171)) fun x174 => bindS (bindS (okS (.int 512)) fun x172 => bindS (okS []) fun r173 => okS (x172 :: r173)) fun r175 => okS (x174 :: r175)) fun r177 => okS (x176 :: r177)) fun r178 => optS (tupO r178)) fun x193 => bindS (bindS (bindS (bindS (okS d112) fun x188 => bindS (bindS (bindS (bindS (okS (.int 9)) fun x181 => bindS (bindS (okS (.str "far")) fun x179 => bindS (okS []) fun r180 => okS (x179 :: r180)) fun r182 => okS (x181 :: r182)) fun r183 => optS (tupO r183)) fun x186 => bindS (bindS (okS .non) fun x184 => bindS (okS []) fun r185 => okS (x184 :: r185)) fun r187 => okS (x186 :: r187)) fun r189 => okS (x188 :: r189)) fun r190 => optS (tupO r190)) fun x191 => bindS (okS []) fun r192 => okS (x191 :: r192)) fun r194 => okS (x193 :: r194)) fun r196 => okS (x195 :: r196)) fun r198 => okS (x197 :: r198)) fun r200 => okS (x199 :: r200)) fun r202 => okS (x201 :: r202)) fun r204 => okS (x203 :: r204)) fun r205 => optS (lenOk r205)) fun l206 => okS (.fl l206)) fun d207 => (bindS (bindS (okS d207) fun x208 => optS (itsD x208)) fun it283 => bindS (loopS (fun d210 (st209 : Unit) => un3 d210 fun d211 d212 d213 => (bindS (bindS (toTr (bindS (bindS (bindS (bindS (okS d211) fun x216 => bindS (bindS (okS d212) fun x214 => bindS (okS []) fun r215 => okS (x214 :: r215)) fun r217 => okS (x216 :: r217)) fun r218 => liftU (f__law_heard r218)) fun x234 => bindS (bindS (bindS (toB (bindS (okS d213) fun x219 => bindS (okS .non) fun x220 => optS (isD x219 x220))) fun k231 => cond k231 (bindS (bindS (okS (.str "step")) fun x223 => bindS (bindS (okS (.str "number")) fun x221 => bindS (okS []) fun r222 => okS (x221 :: r222)) fun r224 => okS (x223 :: r224)) fun r225 => optS (tupO r225)) (bindS (bindS (okS (.str "many")) fun x228 => bindS (bindS (okS d213) fun x226 => bindS (okS []) fun r227 => okS (x226 :: r227)) fun r229 => okS (x228 :: r229)) fun r230 => optS (tupO r230))) fun x232 => bindS (okS []) fun r233 => okS (x232 :: r233)) fun r235 => okS (x234 :: r235)) fun r236 => liftU (f__law_same 4 r236))) fun k237 => okS (!k237)) fun k238 => cond k238 (bindS (okS (.bl false)) fun d239 => (okS (.rt d239))) (okS (.nx ())))) it283 ()) (ctlS (fun (st240 : Unit) => (bindS (bindS (toB (bindS (bindS (bindS (bindS (okS d112) fun x248 => bindS (bindS (bindS (bindS (okS (.str "far")) fun x243 => bindS (bindS (okS (.str "whole")) fun x241 => bindS (okS []) fun r242 => okS (x241 :: r242)) fun r244 => okS (x243 :: r244)) fun r245 => optS (tupO r245)) fun x246 => bindS (okS []) fun r247 => okS (x246 :: r247)) fun r249 => okS (x248 :: r249)) fun r250 => liftU (f__law_heard r250)) fun x258 => bindS (bindS (bindS (bindS (okS (.str "step")) fun x253 => bindS (bindS (okS (.str "foresight")) fun x251 => bindS (okS []) fun r252 => okS (x251 :: r252)) fun r254 => okS (x253 :: r254)) fun r255 => optS (tupO r255)) fun x256 => bindS (okS []) fun r257 => okS (x256 :: r257)) fun r259 => okS (x258 :: r259)) fun r260 => liftU (f__law_same 4 r260))) fun k281 => cond k281 (bindS (bindS (bindS (bindS (okS d86) fun x268 => bindS (bindS (bindS (bindS (okS (.int 13)) fun x263 => bindS (bindS (okS (.int 0)) fun x261 => bindS (okS []) fun r262 => okS (x261 :: r262)) fun r264 => okS (x263 :: r264)) fun r265 => optS (tupO r265)) fun x266 => bindS (okS []) fun r267 => okS (x266 :: r267)) fun r269 => okS (x268 :: r269)) fun r270 => liftU (f__law_heard r270)) fun x278 => bindS (bindS (bindS (bindS (okS (.str "step")) fun x273 => bindS (bindS (okS (.str "foresight")) fun x271 => bindS (okS []) fun r272 => okS (x271 :: r272)) fun r274 => okS (x273 :: r274)) fun r275 => optS (tupO r275)) fun x276 => bindS (okS []) fun r277 => okS (x276 :: r277)) fun r279 => okS (x278 :: r279)) fun r280 => liftU (f__law_same 4 r280)) (okS (.bl false))) fun d282 => (okS d282))) fun d284 => (okS d284))))))) fun d286 => (okS d286))) s4)
def f_law : List D → Res Unit D
  | [d0_] => c_law d0_ ()
  | _ => .stuck
abbrev N_law : List Str := ["script", "tower", "lap", "one", "pair", "cases", "machine", "foresight", "many", "turn", "edge"]
end Lw
end
section
set_option maxHeartbeats 4000000
namespace Lw
open PySem L2 DL FL

abbrev far : Str := "far"
abbrev whole : Str := "whole"
theorem far_ne : (far = whole) = False := by decide
theorem whole_ne : (whole = far) = False := by decide
theorem sca_far : sca (.str far) = true := by decide +kernel
theorem sca_whole : sca (.str whole) = true := by decide +kernel
/-- what may stand in a foresight asked about -/
def atom : D → Bool
  | .ref _ => false
  | .str x => PySem.PyData.strOk x
  | _ => true
def isNum : D → Bool
  | .int i => decide (0 ≤ i)
  | _ => false
def farB : D → Bool
  | .int i => decide (0 ≤ i) && decide (i ≤ 9999)
  | .str x => decide (far = x) || decide (whole = x)
  | _ => false
theorem farB_sca {d : D} (h : farB d = true) : sca d = true := by
  cases d with
  | int i => rfl
  | str x =>
    unfold farB at h
    simp only [Bool.or_eq_true, decide_eq_true_eq] at h
    rcases h with h | h <;> subst h
    · exact sca_far
    · exact sca_whole
  | _ => cases h

theorem v_is_integer {d : D} (h : atom d = true) : f_is_integer [d] = .ok (.bl (match d with | .int _ => true | _ => false)) () := by
  unfold f_is_integer c_is_integer
  cases d <;> first | (cases h; done) | simp [isi_int, isi_bool]
theorem v_is_number {d : D} (h : atom d = true) : f_is_number [d] = .ok (.bl (isNum d)) () := by
  unfold f_is_number c_is_number
  simp only [bindS_okS, bindS_bindS, v_is_integer h, liftU_ok, toB_bind, toB_bl]
  cases d <;> first | (cases h; done) | simp [isNum]
theorem v_is_tuple_of {d : D} {n : Nat} (h : atom d = true) : f_is_tuple_of [d, .int n] = .ok (.bl (match d with | .tup l => l.length == n | _ => false)) () := by
  unfold f_is_tuple_of c_is_tuple_of
  cases d <;> first | (cases h; done) | simp [isi_tup]
theorem v_is_far_amount {d : D} (h : atom d = true) : f_is_far_amount [d] = .ok (.bl (farB d)) () := by
  unfold f_is_far_amount c_is_far_amount
  simp only [bindS_okS, bindS_bindS, v_is_number h, liftU_ok, toB_bind, toB_bl, toTr_bind, isi_str]
  cases d <;> first | (cases h; done) | skip
  case str x =>
    have hs : sca (.str x) = true := h
    have hl : ∀ d ∈ [D.str far, D.str whole], sca d = true := by
      intro d hd
      simp only [List.mem_cons, List.not_mem_nil, or_false] at hd
      rcases hd with rfl | rfl
      · exact sca_far
      · exact sca_whole
    have ht : tupO [D.str far, D.str whole] = some (.tup [D.str far, D.str whole]) := rfl
    simp only [optS_some, bindS_okS, toTr_okS, truD_bl, cond_true, ht, inD_tup hs hl]
    simp [farB, DL.eqD]
  all_goals simp [isNum, farB]
theorem v_law_number {d : D} (h : atom d = true) : f__law_number [d, .int 9999] = .ok (.bl (match d with | .int i => decide (0 ≤ i) && decide (i ≤ 9999) | _ => false)) () := by
  unfold f__law_number c__law_number
  cases d <;> first | (cases h; done) | simp [isi_int, isi_bool]
theorem v_law_word {d : D} {w : Str} (h : atom d = true) : f__law_word [d, .str w] = .ok (.bl (match d with | .str x => decide (x = w) | _ => false)) () := by
  unfold f__law_word c__law_word
  cases d <;> first | (cases h; done) | simp [isi_str]
/-- the length of the sizes, the number of the states -/
def mach (sz : List Nat) (dd : Int) (mv : List D) : D := .tup [.tup (sz.map fun n : Nat => D.int n), .int dd, .tup mv]
def has (w : Str) (xs : List D) : Bool := xs.any fun y => DL.eqD y (.str w)
def isF (n : Nat) : D → Bool
  | .tup xs => (xs.length == n) && xs.all farB && (!has far xs || !has whole xs)
  | _ => false
/-- a thing asked about -/
def nice : D → Bool
  | .tup xs => xs.all atom
  | d => atom d
theorem nice_atom {d : D} (h : nice d = true) : atom d = true := by cases d <;> first | rfl | exact h
theorem mach0 {sz : List Nat} {dd : Int} {mv : List D} : atI [D.tup (sz.map fun n : Nat => D.int n), .int dd, .tup mv] 0 = some (.tup (sz.map fun n : Nat => D.int n)) := rfl
theorem mach2 {sz : List Nat} {dd : Int} {mv : List D} : atI [D.tup (sz.map fun n : Nat => D.int n), .int dd, .tup mv] 2 = some (.tup mv) := rfl
theorem v_is_foresight {sz : List Nat} {dd : Int} {mv : List D} {d : D} (h : nice d = true) : f_is_foresight [mach sz dd mv, d] = .ok (.bl (isF sz.length d)) () := by
  unfold f_is_foresight c_is_foresight mach
  simp only [bindS_okS, bindS_bindS, ixD_tup, mach0, optS_some, lenD_tup, List.length_map, toTr_bind, v_is_tuple_of (nice_atom h), liftU_ok, toTr_okS, truD_bl]
  cases d with
  | non => simp [isF]
  | bl _ => simp [isF]
  | int _ => simp [isF]
  | str _ => simp [isF]
  | fl _ => simp [isF]
  | ref _ => cases h
  | tup xs =>
  have hx : ∀ x ∈ xs, atom x = true := fun x hx => List.all_eq_true.mp h x hx
  simp only [itsD_tup, optS_some, bindS_okS]
  rw [agS_pure false _ farB xs fun x hx' => by simp only [bindS_okS, v_is_far_amount (hx x hx'), liftU_ok, dTr_bl, optS_some]]
  simp only [isF, Bool.false_eq_true, if_false, toTr_okS, truD_bl, optS_some, bindS_okS, toB_bind, bindS_cond]
  cases h1 : (xs.length == sz.length) with
  | false => simp
  | true =>
    cases h2 : xs.all farB with
    | false => simp
    | true =>
      have hs : ∀ x ∈ xs, sca x = true := fun x hx => farB_sca (List.all_eq_true.mp h2 x hx)
      simp only [notinD_tup (d := .str far) sca_far hs, notinD_tup (d := .str whole) sca_whole hs, optS_some, toB_bl, bindS_okS, Bool.not_true, cond_false, Bool.true_and]
      simp only [cond_orD, has]; rfl
end Lw
end
section
set_option maxHeartbeats 4000000
namespace Lw
open PySem L2 DL FL

theorem v_law_is {sz : List Nat} {dd : Int} {mv : List D} {d : D} (h : nice d = true) : f__law_is [mach sz dd mv, d] = .ok (.bl (isF sz.length d)) () := by
  unfold f__law_is c__law_is mach
  simp only [bindS_okS, bindS_bindS, ixD_tup, mach0, optS_some, lenD_tup, List.length_map, toTr_bind, isi_tup]
  cases d with
  | non => simp [isF]
  | bl _ => simp [isF]
  | int _ => simp [isF]
  | str _ => simp [isF]
  | fl _ => simp [isF]
  | ref _ => cases h
  | tup xs =>
  have hx : ∀ x ∈ xs, atom x = true := fun x hx => List.all_eq_true.mp h x hx
  simp only [optS_some, toTr_okS, truD_bl, bindS_okS, Bool.not_true, cond_false, lenD_tup, toB_bind, neD_int, toB_bl, natCast_beq, isF]
  cases h1 : (xs.length == sz.length) with
  | false => simp
  | true =>
    simp only [Bool.not_true, cond_false, itsD_tup, optS_some, bindS_okS]
    rw [loop_all _ farB (.bl false) xs fun x hx' => by
      simp only [bindS_okS, v_law_number (hx x hx'), v_law_word (hx x hx'), liftU_ok, toTr_okS, truD_bl, optS_some]
      have := hx x hx'
      cases x with
      | int i =>
        simp only [farB, Bool.not_false, cond_true, cond_false]
        cases (decide (0 ≤ i) && decide (i ≤ 9999)) <;> simp
      | str y =>
        simp only [farB, Bool.not_false, cond_true]
        have e1 : decide (y = far) = decide (far = y) := by simp only [eq_comm]
        have e2 : decide (y = whole) = decide (whole = y) := by simp only [eq_comm]
        simp only [e1, e2]
        cases decide (far = y) <;> cases decide (whole = y) <;> simp
      | _ => simp [farB]]
    cases h2 : xs.all farB with
    | false => simp
    | true =>
      have hs : ∀ x ∈ xs, sca x = true := fun x hx => farB_sca (List.all_eq_true.mp h2 x hx)
      simp only [cond_true, bindS_okS, ctlS_nx, inD_tup (d := .str far) sca_far hs, inD_tup (d := .str whole) sca_whole hs, optS_some, toB_bl, toB_bind, toB_cond, bindS_cond, Bool.true_and]
      simp only [has]
      cases xs.any (fun y => DL.eqD y (.str far)) <;> cases xs.any (fun y => DL.eqD y (.str whole)) <;> simp
def kindS (xs : List D) : Str := cond (has far xs) far (cond (has whole xs) whole "number")
theorem tup2 (a b : D) : tupO [a, b] = some (.tup [a, b]) := rfl
theorem tup1 (a : D) : tupO [a] = some (.tup [a]) := rfl
theorem v_kind_of {xs : List D} (hs : ∀ x ∈ xs, sca x = true) : f_kind_of [.tup xs] = .ok (.str (kindS xs)) () := by
  unfold f_kind_of c_kind_of
  simp only [bindS_okS, bindS_bindS, tup2, itsD_tup, optS_some, loopS_cons, loopS_nil, inD_tup (d := .str far) sca_far hs, inD_tup (d := .str whole) sca_whole hs, toB_bl, bindS_cond]
  simp only [kindS, has]
  cases xs.any (fun y => DL.eqD y (.str far)) <;> cases xs.any (fun y => DL.eqD y (.str whole)) <;> simp
def isS : D → Bool
  | .str _ => true
  | _ => false
def strIdx : Nat → List D → List D
  | _, [] => []
  | k, x :: r => cond (isS x) (.int k :: strIdx (k + 1) r) (strIdx (k + 1) r)
theorem strIdx_cons (k : Nat) (x : D) (r : List D) : strIdx k (x :: r) = cond (isS x) (.int k :: strIdx (k + 1) r) (strIdx (k + 1) r) := rfl
theorem isiS {d : D} (h : atom d = true) : isiO "str" d = some (.bl (isS d)) := by
  rw [isi_str]; cases d <;> first | (cases h; done) | rfl
theorem enum_len : ∀ (xs : List D) (k : Nat), (enumD k xs).length = xs.length
  | [], _ => rfl
  | _ :: r, k => by show (enumD (k + 1) r).length + 1 = r.length + 1; rw [enum_len r]
theorem enum_idx : ∀ (xs : List D) (k : Nat), (enumD k xs).filterMap (fun d => match itsD d with | some [a, b] => cond (isS b) (some a) none | _ => none) = strIdx k xs
  | [], _ => rfl
  | x :: r, k => by
    show List.filterMap _ (.tup [.int k, x] :: enumD (k + 1) r) = _
    simp only [List.filterMap_cons, itsD_tup]
    rw [enum_idx r (k + 1), strIdx_cons]
    cases isS x <;> rfl
theorem enum_mem : ∀ {xs : List D} {k : Nat} {d : D}, d ∈ enumD k xs → ∃ i x, d = .tup [.int i, x] ∧ x ∈ xs
  | [], _, _, h => by cases h
  | x :: r, k, d, h => by
    have h : d ∈ D.tup [.int k, x] :: enumD (k + 1) r := h
    rcases List.mem_cons.mp h with rfl | h
    · exact ⟨_, x, rfl, List.mem_cons_self⟩
    · obtain ⟨i, y, e, hy⟩ := enum_mem h
      exact ⟨i, y, e, List.mem_cons_of_mem _ hy⟩
theorem v_long_streams {xs : List D} (hx : ∀ x ∈ xs, atom x = true) (hl : xs.length ≤ 1000) : f_long_streams [.tup xs] = .ok (.tup (strIdx 0 xs)) () := by
  unfold f_long_streams c_long_streams
  have he : enD [.tup xs] = some (enumD 0 xs) := rfl
  simp only [bindS_okS, bindS_bindS, he, optS_some]
  rw [lcS_pure _ (fun d => match itsD d with | some [a, b] => cond (isS b) (some a) none | _ => none) (enumD 0 xs) [] (fun d hd => by
    obtain ⟨i, x, rfl, hm⟩ := enum_mem hd
    unfold un2
    simp only [itsD_tup, isiS (hx x hm), optS_some, toTr_okS, truD_bl, bindS_okS, toTr_bind]
    cases isS x <;> rfl) (by rw [enum_len]; simp only [List.length_nil]; have := sizeLine_ge; omega)]
  simp only [List.nil_append, bindS_okS, tupleD_fl, optS_some, enum_idx]
  rfl
theorem rg_idx (xs : List D) : (rgD 0 xs.length).filterMap (fun d => match d with | .int i => (match atI xs i with | some y => cond (isS y) (some d) none | none => none) | _ => none) = strIdx 0 xs := by
  have gen : ∀ (r pre : List D), ((List.range' pre.length r.length).map fun i => (D.int ((i : Nat) : Int))).filterMap (fun d => match d with | .int i => (match atI (pre ++ r) i with | some y => cond (isS y) (some d) none | none => none) | _ => none) = strIdx pre.length r := by
    intro r
    induction r with
    | nil => intro pre; rfl
    | cons x r ih =>
      intro pre
      rw [List.length_cons, List.range'_succ, List.map_cons, List.filterMap_cons]
      have h := ih (pre ++ [x])
      rw [List.length_append, List.append_assoc] at h
      have h : ((List.range' (pre.length + 1) r.length).map fun i => (D.int ((i : Nat) : Int))).filterMap _ = strIdx (pre.length + 1) r := h
      have e : atI (pre ++ x :: r) ((pre.length : Nat) : Int) = some x := by rw [atI_natF]; simp
      dsimp only
      rw [e]
      rw [strIdx_cons]
      rw [List.singleton_append] at h
      cases hx : isS x with
      | true =>
        simp only [hx, cond_true]
        rw [h]
      | false =>
        simp only [hx, cond_false]
        rw [h]
  have := gen xs []
  simp only [List.length_nil, List.nil_append] at this
  rw [← this]
  unfold rgD
  rw [List.range_eq_range']
  simp
end Lw
end
section
set_option maxHeartbeats 4000000
namespace Lw
open PySem L2 DL FL
def cmpOk : Nat → D → Bool
  | 0, _ => false
  | k + 1, .tup ds => ds.all (cmpOk k) && decide (ds.length ≤ 1000)
  | _ + 1, .str _ => true
  | _ + 1, .bl _ => true
  | _ + 1, .int _ => true
  | _ + 1, _ => false
theorem same_refl : ∀ (k : Nat) (d : D), cmpOk k d = true → f__law_same k [d, d] = .ok (.bl true) ()
  | 0, _, h => by cases h
  | k + 1, d, h => by
    unfold f__law_same h__law_same c__law_same
    cases d with
    | non => cases h
    | ref _ => cases h
    | fl _ => cases h
    | str x => simp [isi_tup, isi_str]
    | bl b => simp [isi_tup, isi_str, isi_bool]
    | int i => simp [isi_tup, isi_str, isi_bool, isi_int]
    | tup ds =>
      have h : (ds.all (cmpOk k) && decide (ds.length ≤ 1000)) = true := h
      obtain ⟨h1, h2⟩ := Bool.and_eq_true_iff.mp h
      have h2 := of_decide_eq_true h2
      simp only [bindS_okS, bindS_bindS, isi_tup, optS_some, toTr_okS, truD_bl, toTr_bind, cond_true, toB_bind, toB_bl, lenD_tup, eqqD_int, natCast_beq, beq_self_eq_true, rg1_nat (show ds.length ≤ 1000000 by omega)]
      rw [lcS_pure _ (fun _ => none) _ [] (fun d hd => by
        obtain ⟨i, hi, rfl⟩ := rgD_mem hd
        simp only [ixD_tup, bindS_okS, atI_lt hi, optS_some, same_refl k ds[i] (List.all_eq_true.mp h1 _ (List.getElem_mem hi)), liftU_ok, toTr_okS, truD_bl, Bool.not_true, cond_false]) (by rw [rgD_len]; simp only [List.length_nil]; have := sizeLine_ge; omega)]
      simp
end Lw
end
section
set_option maxHeartbeats 4000000
namespace Lw
open PySem L2 DL FL

def pw (e : D → Nat) : List Nat → List D → Nat → Nat
  | s :: ss, x :: xs, m => pw e ss xs (m * s ^ e x)
  | _, _, m => m
theorem pw_ge (e : D → Nat) : ∀ (ss : List Nat) (xs : List D) (m : Nat), (∀ s ∈ ss, 1 ≤ s) → m ≤ pw e ss xs m
  | [], _, m, _ => Nat.le_refl _
  | _ :: _, [], m, _ => Nat.le_refl _
  | s :: ss, x :: xs, m, h => by
    show m ≤ pw e ss xs (m * s ^ e x)
    refine Nat.le_trans ?_ (pw_ge e ss xs _ fun t ht => h t (List.mem_cons_of_mem _ ht))
    exact Nat.le_mul_of_pos_right _ (Nat.pow_pos (h s List.mem_cons_self))
theorem pw_min (e : D → Nat) : ∀ (ss : List Nat) (xs : List D) (m : Nat), (∀ x ∈ xs, e x ≤ 14) → pw (fun x => min (e x) 14) ss xs m = pw e ss xs m
  | [], _, m, _ => rfl
  | _ :: _, [], m, _ => rfl
  | s :: ss, x :: xs, m, h => by
    show pw _ ss xs (m * s ^ min (e x) 14) = pw e ss xs (m * s ^ e x)
    rw [Nat.min_eq_left (h x List.mem_cons_self), pw_min e ss xs _ fun t ht => h t (List.mem_cons_of_mem _ ht)]
theorem pw_big (e : D → Nat) : ∀ (ss : List Nat) (xs : List D) (m : Nat), ss.length = xs.length → (∀ s ∈ ss, 2 ≤ s) → 1 ≤ m → (∃ x ∈ xs, 14 ≤ e x) → 2 ^ 14 ≤ pw e ss xs m
  | [], [], m, _, _, _, h => by obtain ⟨x, hx, _⟩ := h; cases hx
  | s :: ss, x :: xs, m, hl, hs, hm, h => by
    show 2 ^ 14 ≤ pw e ss xs (m * s ^ e x)
    have hs2 : 2 ≤ s := hs s List.mem_cons_self
    have h1 : 1 ≤ s ^ e x := Nat.pow_pos (by omega)
    by_cases hx : 14 ≤ e x
    · refine Nat.le_trans ?_ (pw_ge e ss xs _ fun t ht => by have := hs t (List.mem_cons_of_mem _ ht); omega)
      have h2 : 2 ^ 14 ≤ s ^ e x := Nat.le_trans (Nat.pow_le_pow_left hs2 14) (Nat.pow_le_pow_right (by omega) hx)
      exact Nat.le_trans h2 (Nat.le_mul_of_pos_left _ hm)
    · refine pw_big e ss xs _ (by simpa using hl) (fun t ht => hs t (List.mem_cons_of_mem _ ht)) (Nat.le_trans hm (Nat.le_mul_of_pos_right _ h1)) ?_
      obtain ⟨y, hy, hy2⟩ := h
      rcases List.mem_cons.mp hy with rfl | hy
      · exact absurd hy2 hx
      · exact ⟨y, hy, hy2⟩
/-- capped at 14, the product is the same up to 8192 -/
theorem pw_cap (e : D → Nat) (ss : List Nat) (xs : List D) (m b : Nat) (hl : ss.length = xs.length) (hs : ∀ s ∈ ss, 2 ≤ s) (hm : 1 ≤ m) (hb : b ≤ 8192) :
    (pw (fun x => min (e x) 14) ss xs m ≤ b ↔ pw e ss xs m ≤ b) ∧ (pw e ss xs m ≤ b → pw (fun x => min (e x) 14) ss xs m = pw e ss xs m) := by
  by_cases h : ∀ x ∈ xs, e x ≤ 14
  · rw [pw_min e ss xs m h]; exact ⟨Iff.rfl, fun _ => rfl⟩
  · have h : ∃ x ∈ xs, 14 < e x := by
      simp only [Classical.not_forall, Nat.not_le] at h
      obtain ⟨x, hx, h⟩ := h
      exact ⟨x, hx, h⟩
    obtain ⟨x, hx, hx2⟩ := h
    have p1 := pw_big e ss xs m hl hs hm ⟨x, hx, by omega⟩
    have p2 := pw_big (fun x => min (e x) 14) ss xs m hl hs hm ⟨x, hx, by show 14 ≤ min (e x) 14; omega⟩
    constructor
    · constructor <;> intro h <;> omega
    · intro h; omega
def ex (lg : Bool) : D → Nat
  | .int i => i.toNat + (cond lg 0 1)
  | _ => 0
def lgB (xs : List D) : Bool := xs.any isS
theorem mulok {i j : Int} (h : 0 ≤ j) (h2 : j ≤ 1000) : MulOk i j := by
  show ((-(2 ^ 64) < i ∧ i < 2 ^ 64) ∨ (-(2 ^ 64) < j ∧ j < 2 ^ 64)) ∨ _
  exact .inl (.inr ⟨by omega, by omega⟩)
theorem fold_mul (b : D → D → Cd Unit D) (s : Nat) : ∀ (ds : List D) (m : Nat), (∀ d ∈ ds, ∀ m : Nat, b d (.int m) = okS (.int ((m * s : Nat) : Int))) → foldS b ds (.int m) = okS (.int ((m * s ^ ds.length : Nat) : Int))
  | [], m, _ => by simp
  | d :: ds, m, h => by
    rw [foldS_cons, h d List.mem_cons_self, bindS_okS, fold_mul b s ds _ fun x hx => h x (List.mem_cons_of_mem _ hx), List.length_cons, Nat.pow_succ, Nat.mul_assoc, Nat.mul_comm s]
theorem fold_zip (b : D → D → Cd Unit D) (e : D → Nat) : ∀ (ss : List Nat) (xs : List D) (m : Nat), (∀ s ∈ ss, ∀ x ∈ xs, ∀ m : Nat, b (.tup [.int s, x]) (.int m) = okS (.int ((m * s ^ e x : Nat) : Int))) → foldS b (zipD (ss.map fun n : Nat => D.int n) xs) (.int m) = okS (.int ((pw e ss xs m : Nat) : Int))
  | [], xs, m, _ => by cases xs <;> rfl
  | s :: ss, [], m, _ => rfl
  | s :: ss, x :: xs, m, h => by
    show foldS b (.tup [.int s, x] :: zipD (ss.map fun n : Nat => D.int n) xs) _ = _
    rw [foldS_cons, h s List.mem_cons_self x List.mem_cons_self, bindS_okS, fold_zip b e ss xs _ fun t ht y hy => h t (List.mem_cons_of_mem _ ht) y (List.mem_cons_of_mem _ hy)]
    rfl
theorem fold_ix (b : D → D → Cd Unit D) (e : D → Nat) : ∀ (ss : List Nat) (xs : List D) (k m : Nat), ss.length = xs.length → (∀ i (hi : i < ss.length) (hj : i < xs.length) (m : Nat), b (.int ((k + i : Nat) : Int)) (.int m) = okS (.int ((m * ss[i] ^ e xs[i] : Nat) : Int))) → foldS b ((List.range' k ss.length).map fun i : Nat => D.int i) (.int m) = okS (.int ((pw e ss xs m : Nat) : Int))
  | [], xs, k, m, _, _ => by cases xs <;> rfl
  | s :: ss, [], k, m, hl, _ => by cases hl
  | s :: ss, x :: xs, k, m, hl, h => by
    rw [List.length_cons, List.range'_succ, List.map_cons, foldS_cons]
    have h0 := h 0 (Nat.succ_pos _) (Nat.succ_pos _) m
    rw [Nat.add_zero] at h0
    rw [h0, bindS_okS]
    simp only [List.getElem_cons_zero]
    rw [fold_ix b e ss xs (k + 1) _ (by simpa using hl) fun i hi hj m => by
      have := h (i + 1) (Nat.succ_lt_succ hi) (Nat.succ_lt_succ hj) m
      rw [show k + (i + 1) = k + 1 + i by omega] at this
      simpa using this]
    rfl
theorem farB_int {i : Int} (h : farB (.int i) = true) : 0 ≤ i ∧ i ≤ 9999 := by
  unfold farB at h
  simpa using h
theorem rg1_far {i : Int} {k : Nat} (h : farB (.int i) = true) (hk : k ≤ 1) : rg1 [.int (i + (k : Int))] = some (rgD 0 (i.toNat + k)) := by
  obtain ⟨h1, h2⟩ := farB_int h
  have e : i + (k : Int) = ((i.toNat + k : Nat) : Int) := by omega
  rw [e, rg1_nat (by omega)]
theorem farB_atom {d : D} (h : farB d = true) : atom d = true := by
  have := farB_sca h
  cases d <;> first | rfl | exact this | cases this
theorem v_many_stands {sz : List Nat} {xs : List D} {m : Nat} (hf : xs.all farB = true) (hl : sz.length = xs.length) (hs : ∀ s ∈ sz, s ≤ 1000) (hx : xs.length ≤ 1000) :
    f_many_stands [.tup (sz.map fun n : Nat => D.int n), .int m, .tup xs] = .ok (.int (pw (ex (lgB xs)) sz xs m)) () := by
  unfold f_many_stands c_many_stands
  have hall : ∀ x ∈ xs, farB x = true := fun x h => List.all_eq_true.mp hf x h
  simp only [bindS_okS, bindS_bindS, itsD_tup, optS_some]
  rw [lcS_pure _ (fun d => cond (isS d) (some d) none) xs [] (fun d hd => by
    simp only [isiS (farB_atom (hall d hd)), optS_some, toTr_okS, truD_bl, bindS_okS, toTr_bind]
    cases isS d <;> rfl) (by simp only [List.length_nil]; have := sizeLine_ge; omega)]
  have hlg : (!([] ++ xs.filterMap (fun d => cond (isS d) (some d) none) : List D).isEmpty) = lgB xs := by
    simp only [List.nil_append]
    unfold lgB
    clear hf hl hx hall
    induction xs with
    | nil => rfl
    | cons x r ih => 
      rw [List.filterMap_cons, List.any_cons]
      cases isS x with
      | true => rfl
      | false => simpa using ih
  have hz : zpD [D.tup (sz.map fun n : Nat => D.int n), .tup xs] = some (zipD (sz.map fun n : Nat => D.int n) xs) := rfl
  simp only [bindS_okS, hz, optS_some, toTr_okS, truD_fl, hlg]
  rw [fold_zip _ (ex (lgB xs)) sz xs m fun s hs1 y hy m => by
    have hy := hall y hy
    have hs1 := hs s hs1
    unfold un2
    simp only [itsD_tup, isiS (farB_atom hy), optS_some, toTr_bind, toTr_okS, truD_bl, bindS_okS]
    cases y with
    | int i =>
      have e2 := rg1_far (k := cond (lgB xs) 0 1) hy (by cases lgB xs <;> decide)
      have e : (cond (lgB xs) (okS (D.int i)) (okS (D.int (i + 1))) : Cd Unit D) = okS (.int (i + ((cond (lgB xs) 0 1 : Nat) : Int))) := by cases lgB xs <;> simp
      simp only [isS, Bool.not_false, cond_true, addA_int, bindS_okS, optS_some, e, e2]
      rw [fold_mul _ s _ m fun d _ m => by simp only [mulQ_int, if_pos (mulok (i := (m : Int)) (Int.natCast_nonneg s) (by omega)), optS_some, bindS_okS]; simp, rgD_len]
      rfl
    | str z => simp [isS, ex]
    | _ => cases hy]
  rfl

theorem minL_nat (a : Nat) : minLD [.int (a : Int), .int 14] = some (.int ((min a 14 : Nat) : Int)) := by
  show some (D.int (if (14 : Int) < (a : Int) then 14 else (a : Int))) = _
  by_cases h : 14 < a
  · rw [if_pos (by omega), Nat.min_eq_right (by omega)]; rfl
  · rw [if_neg (by omega), Nat.min_eq_left (by omega)]
theorem v_law_count {sz : List Nat} {dd : Int} {mv xs : List D} (hf : xs.all farB = true) (hl : sz.length = xs.length) (hs : ∀ s ∈ sz, s ≤ 1000) (hx : xs.length ≤ 1000) :
    f__law_count [mach sz dd mv, .tup xs] = .ok (cond (decide (pw (fun x => min (ex (lgB xs) x) 14) sz xs mv.length ≤ cond (lgB xs) 512 8192)) (.int (pw (fun x => min (ex (lgB xs) x) 14) sz xs mv.length)) .non) () := by
  unfold f__law_count c__law_count mach
  have hall : ∀ x ∈ xs, farB x = true := fun x h => List.all_eq_true.mp hf x h
  simp only [bindS_okS, bindS_bindS, itsD_tup, optS_some]
  rw [lcS_pure _ (fun d => cond (isS d) (some (D.int 1)) none) xs [] (fun d hd => by
    simp only [isiS (farB_atom (hall d hd)), optS_some, toTr_okS, truD_bl, bindS_okS, toTr_bind]
    cases isS d <;> rfl) (by simp only [List.length_nil]; have := sizeLine_ge; omega)]
  have hlg : decide ((0 : Int) < (([] ++ xs.filterMap (fun d => cond (isS d) (some (D.int 1)) none) : List D).length : Int)) = lgB xs := by
    simp only [List.nil_append]
    unfold lgB
    clear hf hl hx hall
    induction xs with
    | nil => rfl
    | cons x r ih => 
      rw [List.filterMap_cons, List.any_cons]
      cases isS x with
      | true => simp
      | false => simpa using ih
  simp only [bindS_okS, lenD_fl, optS_some, gtD_int, hlg, toTr_okS, truD_bl, ixD_tup, mach2, lenD_tup, rg1_nat (show xs.length ≤ 1000000 by omega)]
  have hr : rgD 0 xs.length = (List.range' 0 sz.length).map fun i : Nat => D.int i := by
    unfold rgD; rw [hl, List.range_eq_range']; simp
  rw [hr]
  have hb : ∀ (K : D → Cd Unit D), (bindS (cond (lgB xs) (okS (D.int 512)) (okS (D.int 8192))) K : Cd Unit D) = K (.int ((cond (lgB xs) 512 8192 : Nat) : Int)) := by intro K; cases lgB xs <;> rfl
  rw [hb]
  rw [fold_ix _ (fun x => min (ex (lgB xs) x) 14) sz xs 0 mv.length hl fun i hi hj m => by
    rw [Nat.zero_add]
    have hy := hall xs[i] (List.getElem_mem hj)
    have hs1 := hs sz[i] (List.getElem_mem hi)
    simp only [ixD_tup, atI_lt hj, optS_some, bindS_okS, isiS (farB_atom hy), toTr_bind, toTr_okS, truD_bl]
    have hsz : atI (sz.map fun n : Nat => D.int n) (i : Int) = some (.int (sz[i] : Nat)) := by rw [atI_natF]; simp [hi]
    generalize xs[i] = y at hy ⊢
    cases y with
    | int a =>
      obtain ⟨h1, h2⟩ := farB_int hy
      have e : a + ((if (!lgB xs) = true then (1 : Int) else 0)) = ((ex (lgB xs) (.int a) : Nat) : Int) := by
        unfold ex
        cases lgB xs <;> simp <;> omega
      simp only [isS, Bool.not_false, cond_true, toB_bl, bindS_okS, intD_bl, optS_some, addA_int, e, minL_nat, rg1_nat (show min (ex (lgB xs) (.int a)) 14 ≤ 1000000 by omega)]
      rw [fold_mul _ sz[i] _ m fun d _ m => by simp only [mach0, optS_some, ixD_tup, hsz, bindS_okS, mulD_int, if_pos (mulok (i := (m : Int)) (Int.natCast_nonneg sz[i]) (by omega))]; simp, rgD_len]
      rfl
    | str z => simp [isS, ex]
    | _ => cases hy]
  simp only [bindS_okS, leD_int, optS_some, toB_bl]
  have hd : decide (((pw (fun x => min (ex (lgB xs) x) 14) sz xs mv.length : Nat) : Int) ≤ ((cond (lgB xs) 512 8192 : Nat) : Int)) = decide (pw (fun x => min (ex (lgB xs) x) 14) sz xs mv.length ≤ cond (lgB xs) 512 8192) := by
    exact decide_eq_decide.mpr (by cases lgB xs <;> simp <;> omega)
  rw [hd]
  cases decide (pw (fun x => min (ex (lgB xs) x) 14) sz xs mv.length ≤ cond (lgB xs) 512 8192) <;> rfl
end Lw
end
section
set_option maxHeartbeats 4000000
namespace Lw
open PySem L2 DL FL

theorem lg_has {xs : List D} (h : ∀ x ∈ xs, farB x = true) : lgB xs = (has far xs || has whole xs) := by
  unfold lgB has
  induction xs with
  | nil => rfl
  | cons x r ih =>
    rw [List.any_cons, List.any_cons, List.any_cons, ih fun y hy => h y (List.mem_cons_of_mem _ hy)]
    have hx := h x List.mem_cons_self
    have e : isS x = (DL.eqD x (.str far) || DL.eqD x (.str whole)) := by
      cases x with
      | int i => rfl
      | str y =>
        have hx : (decide (far = y) || decide (whole = y)) = true := hx
        have e1 : decide (far = y) = decide (y = far) := by simp only [eq_comm]
        have e2 : decide (whole = y) = decide (y = whole) := by simp only [eq_comm]
        rw [e1, e2] at hx
        exact hx.symm
      | _ => cases hx
    rw [e]
    cases DL.eqD x (.str far) <;> cases DL.eqD x (.str whole) <;> cases r.any (fun y => DL.eqD y (.str far)) <;> rfl
theorem kind_num {xs : List D} (h : ∀ x ∈ xs, farB x = true) : decide (kindS xs = ("number" : Str)) = !lgB xs := by
  rw [lg_has h]
  unfold kindS
  cases has far xs <;> cases has whole xs <;> decide +kernel
def bnd (xs : List D) : Nat := cond (lgB xs) 512 8192
def stn (sz : List Nat) (mv xs : List D) : Nat := pw (ex (lgB xs)) sz xs mv.length
theorem v_within {sz : List Nat} {dd : Int} {mv xs : List D} (hf : xs.all farB = true) (hl : sz.length = xs.length) (hs : ∀ s ∈ sz, s ≤ 1000) (hx : xs.length ≤ 1000) : f_is_within_bounds [mach sz dd mv, .tup xs] = .ok (.bl (decide (stn sz mv xs ≤ bnd xs))) () := by
  unfold f_is_within_bounds c_is_within_bounds mach
  have hall : ∀ x ∈ xs, farB x = true := fun x h => List.all_eq_true.mp hf x h
  have hsca : ∀ x ∈ xs, sca x = true := fun x h => farB_sca (hall x h)
  simp only [bindS_okS, bindS_bindS, ixD_tup, mach0, mach2, optS_some, lenD_tup, v_many_stands hf hl hs hx, liftU_ok, v_kind_of hsca, toB_bind, eqqD_str, toB_bl, kind_num hall]
  unfold stn bnd
  cases lgB xs <;> simp <;> (first | (apply decide_eq_decide.mpr; omega) | omega | skip)
theorem rai1 {S α : Type} (c f : Str) (d : D) : (raiS c [f] [d] : Cd S α) = exS ⟨c, [(f, d)]⟩ := by
  funext s; rfl
theorem bindS_exS {S α β : Type} (e : Xn) (f : α → Cd S β) : bindS (exS e : Cd S α) f = exS e := Eq.trans (Eq.refl _) (Eq.refl _)
def bad (w : Str) : Xn := ⟨"BadStep", [("word", .str w)]⟩
def chk (sz : List Nat) (mv : List D) (d : D) : Res Unit D := cond (isF sz.length d) (match d with
  | .tup xs => cond (decide (stn sz mv xs ≤ bnd xs)) (.ok (.int (stn sz mv xs)) ()) (.exc (bad "number") ())
  | _ => .stuck) (.exc (bad "foresight") ())
theorem isF_tup {n : Nat} {d : D} (h : isF n d = true) : ∃ xs, d = .tup xs ∧ xs.length = n ∧ xs.all farB = true := by
  cases d <;> first | (cases h; done) | skip
  rename_i xs
  unfold isF at h
  simp only [Bool.and_eq_true, beq_iff_eq] at h
  exact ⟨xs, rfl, h.1.1, h.1.2⟩
theorem v_check {sz : List Nat} {dd : Int} {mv : List D} {d : D} (h : nice d = true) (hs : ∀ s ∈ sz, s ≤ 1000) (hn : sz.length ≤ 1000) : f_check_foresight [mach sz dd mv, d] = chk sz mv d := by
  unfold f_check_foresight c_check_foresight chk
  simp only [bindS_okS, bindS_bindS, v_is_foresight h, liftU_ok, toTr_bind, toTr_okS, truD_bl, optS_some]
  cases hF : isF sz.length d with
  | false => simp only [Bool.not_false, cond_true, rai1, cond_false]; rfl
  | true =>
    obtain ⟨xs, rfl, hl, hf⟩ := isF_tup hF
    simp only [Bool.not_true, cond_false, cond_true, v_within (dd := dd) (mv := mv) hf hl.symm hs (by omega), liftU_ok, bindS_okS, toTr_okS, truD_bl, optS_some]
    cases decide (stn sz mv xs ≤ bnd xs) with
    | false => simp only [Bool.not_false, cond_true, rai1, cond_false]; rfl
    | true =>
      simp only [Bool.not_true, cond_false, cond_true, mach, ixD_tup, mach0, mach2, optS_some, bindS_okS, lenD_tup, v_many_stands hf hl.symm hs (show xs.length ≤ 1000 by omega), liftU_ok]
      rfl
def hrd (sz : List Nat) (mv : List D) (d : D) : D := cond (isF sz.length d) (match d with
  | .tup xs => cond (decide (stn sz mv xs ≤ bnd xs)) (.tup [.str "many", .int (stn sz mv xs)]) (.tup [.str "step", .str "number"])
  | _ => .non) (.tup [.str "step", .str "foresight"])
theorem caught (w : Str) : hsel isa_ [("BadStep", fun e13 => (bindS (bindS (bindS (okS (D.str "step")) fun x16 => bindS (bindS (fexS ["BadStep"] "word" e13) fun x14 => bindS (okS []) fun r15 => okS (x14 :: r15)) fun r17 => okS (x16 :: r17)) fun r18 => optS (tupO r18)) fun d19 => (okS (.rt d19) : Cd Unit (Ctl Unit)))), ("FarError", fun e20 => (bindS (bindS (bindS (okS (.str "else")) fun x21 => bindS (okS []) fun r22 => okS (x21 :: r22)) fun r23 => optS (tupO r23)) fun d24 => (okS (.rt d24))))] (bad w) = okS (.rt (.tup [.str "step", .str w])) := by
  funext s; rfl
theorem v_heard {sz : List Nat} {dd : Int} {mv : List D} {d : D} (h : nice d = true) (hs : ∀ s ∈ sz, s ≤ 1000) (hn : sz.length ≤ 1000) : f__law_heard [mach sz dd mv, d] = .ok (hrd sz mv d) () := by
  unfold f__law_heard c__law_heard hrd
  have tE : ∀ (e : Xn) (hd : Xn → Cd Unit (Ctl Unit)), tryS (exS e) hd = hd e := fun e hd => by funext s; rfl
  have tO : ∀ (a : Ctl Unit) (hd : Xn → Cd Unit (Ctl Unit)), tryS (okS a) hd = okS a := fun e hd => by funext s; rfl
  have lE : ∀ (e : Xn), (liftU (.exc e ()) : Cd Unit D) = exS e := fun e => rfl
  simp only [bindS_okS, bindS_bindS, v_check h hs hn, chk]
  cases hF : isF sz.length d with
  | false => simp only [cond_false, lE, bindS_exS, tE, caught, bindS_okS, ctlS_rt]; rfl
  | true =>
    obtain ⟨xs, rfl, hl, hf⟩ := isF_tup hF
    simp only [cond_true]
    cases decide (stn sz mv xs ≤ bnd xs) with
    | false => simp only [cond_false, lE, bindS_exS, tE, caught, bindS_okS, ctlS_rt]; rfl
    | true => simp only [cond_true, liftU_ok, bindS_okS, tup2, optS_some, tO, ctlS_rt]; rfl
end Lw
end
section
set_option maxHeartbeats 4000000
namespace Lw
open PySem L2 DL FL

theorem stn_cap {sz : List Nat} {mv xs : List D} (hl : sz.length = xs.length) (hs : ∀ s ∈ sz, 2 ≤ s) (hm : 1 ≤ mv.length) :
    cond (decide (pw (fun x => min (ex (lgB xs) x) 14) sz xs mv.length ≤ cond (lgB xs) 512 8192)) (D.int (pw (fun x => min (ex (lgB xs) x) 14) sz xs mv.length)) .non = cond (decide (stn sz mv xs ≤ bnd xs)) (D.int (stn sz mv xs)) .non := by
  have hb : bnd xs ≤ 8192 := by unfold bnd; cases lgB xs <;> decide
  have := pw_cap (ex (lgB xs)) sz xs mv.length (bnd xs) hl hs hm hb
  have e1 : decide (pw (fun x => min (ex (lgB xs) x) 14) sz xs mv.length ≤ cond (lgB xs) 512 8192) = decide (stn sz mv xs ≤ bnd xs) := decide_eq_decide.mpr this.1
  rw [e1]
  by_cases h : stn sz mv xs ≤ bnd xs
  · rw [decide_eq_true h]
    show D.int _ = D.int _
    rw [this.2 h]; rfl
  · rw [decide_eq_false h]; rfl
theorem strIdx_ok : ∀ (xs : List D) (k : Nat), (strIdx k xs).all (cmpOk 3) = true ∧ (strIdx k xs).length ≤ xs.length
  | [], _ => ⟨rfl, Nat.le_refl _⟩
  | x :: r, k => by
    obtain ⟨h1, h2⟩ := strIdx_ok r (k + 1)
    rw [strIdx_cons]
    cases isS x with
    | true => exact ⟨by rw [cond_true, List.all_cons, h1]; rfl, by simpa using h2⟩
    | false => exact ⟨h1, by rw [cond_false, List.length_cons]; omega⟩
theorem same4 {d : D} (h : cmpOk 4 d = true) : f__law_same 4 [d, d] = .ok (.bl true) () := same_refl 4 d h
theorem kind_str {xs : List D} : (cond (has far xs) (okS (D.str far)) (cond (has whole xs) (okS (D.str whole)) (okS (D.str "number"))) : Cd Unit D) = okS (.str (kindS xs)) := by
  unfold kindS; cases has far xs <;> cases has whole xs <;> rfl
theorem v_asked {sz : List Nat} {dd : Int} {mv : List D} {d : D} (h : nice d = true) (hs : ∀ s ∈ sz, 2 ≤ s ∧ s ≤ 1000) (hn : sz.length ≤ 1000) (hm : 1 ≤ mv.length) : f__law_asked [mach sz dd mv, d] = .ok (.bl true) () := by
  unfold f__law_asked c__law_asked
  have hs1 : ∀ s ∈ sz, s ≤ 1000 := fun s q => (hs s q).2
  have k0 : ∀ a b : D, kD_0 [] [a, b] = [b, a] := fun _ _ => rfl
  have k1 : ∀ a : D, kD_1 [] [a] = [a] := fun _ => rfl
  have sb : f__law_same 4 [.bl (isF sz.length d), .bl (isF sz.length d)] = .ok (.bl true) () := same4 rfl
  simp only [bindS_okS, bindS_bindS, v_law_is h, liftU_ok, k0, v_is_foresight h, sb, toTr_bind, toTr_okS, truD_bl, optS_some, Bool.not_true, cond_false, tup2, jn_eq]
  cases hF : isF sz.length d with
  | false =>
    simp only [cond_false, v_heard h hs1 hn, liftU_ok, bindS_okS, hrd, hF]
    rw [same4 (by decide +kernel)]
    rfl
  | true =>
    obtain ⟨xs, rfl, hl, hf⟩ := isF_tup hF
    have hall : ∀ x ∈ xs, farB x = true := fun x h => List.all_eq_true.mp hf x h
    have hsca : ∀ x ∈ xs, sca x = true := fun x h => farB_sca (hall x h)
    have hat : ∀ x ∈ xs, atom x = true := fun x h => farB_atom (hall x h)
    have hx : xs.length ≤ 1000 := by omega
    simp only [cond_true, v_law_count (dd := dd) (mv := mv) hf hl.symm hs1 hx, liftU_ok, bindS_okS, stn_cap hl.symm (fun s q => (hs s q).1) hm, inD_tup (d := .str far) sca_far hsca, inD_tup (d := .str whole) sca_whole hsca, optS_some, toB_bind, toB_bl, v_kind_of hsca, k1, v_long_streams hat hx, lenD_tup, rg1_nat (show xs.length ≤ 1000000 by omega), bindS_bindS, ixD_tup]
    have hk := @kind_str xs
    unfold has at hk
    have hk2 : ∀ (K : D → Cd Unit D), bindS (cond (xs.any fun y => DL.eqD y (D.str far)) (okS (D.str "far")) (cond (xs.any fun y => DL.eqD y (D.str whole)) (okS (D.str "whole")) (okS (D.str "number")))) K = K (.str (kindS xs)) := fun K => by rw [show (cond (xs.any fun y => DL.eqD y (D.str far)) (okS (D.str "far")) (cond (xs.any fun y => DL.eqD y (D.str whole)) (okS (D.str "whole")) (okS (D.str "number"))) : Cd Unit D) = okS (.str (kindS xs)) from hk]; rfl
    have sk : f__law_same 4 [.str (kindS xs), .str (kindS xs)] = .ok (.bl true) () := same4 rfl
    have hlc : lcS (S := Unit) (fun d87 => bindS (optS (ixD (D.tup xs) d87)) fun a => bindS (toTr (optS (isiO "str" a))) fun k92 => cond k92 (okS (some d87)) (okS none)) (rgD 0 xs.length) [] = okS (strIdx 0 xs) := by
      rw [lcS_pure _ (fun d => match d with | .int i => (match atI xs i with | some y => cond (isS y) (some d) none | none => none) | _ => none) _ [] (fun d hd => by
        obtain ⟨i, hi, rfl⟩ := rgD_mem hd
        simp only [ixD_tup, atI_lt hi, optS_some, bindS_okS, isiS (hat xs[i] (List.getElem_mem hi)), toTr_okS, truD_bl]
        cases isS xs[i] <;> rfl) (by rw [rgD_len]; simp only [List.length_nil]; have := sizeLine_ge; omega)]
      exact congrArg okS (rg_idx xs)
    have si : f__law_same 4 [.tup (strIdx 0 xs), .tup (strIdx 0 xs)] = .ok (.bl true) () := same4 (by
      obtain ⟨h1, h2⟩ := strIdx_ok xs 0
      show ((strIdx 0 xs).all (cmpOk 3) && decide ((strIdx 0 xs).length ≤ 1000)) = true
      rw [h1, decide_eq_true (show (strIdx 0 xs).length ≤ 1000 by omega)]; rfl)
    simp only [hk2, sk, liftU_ok, toTr_okS, truD_bl, optS_some, bindS_okS, Bool.not_true, cond_false, hlc, tupleD_fl, si, v_heard h hs1 hn, hrd, hF, cond_true]
    cases decide (stn sz mv xs ≤ bnd xs) with
    | false =>
      simp only [cond_false, isD_non, optS_some, toB_bl, bindS_okS]
      have : isNon D.non = true := rfl
      rw [this]
      simp only [cond_true, bindS_okS]
      rw [same4 (by decide +kernel)]
      rfl
    | true =>
      simp only [cond_true, isD_non, optS_some, toB_bl, bindS_okS]
      have : isNon (D.int (stn sz mv xs)) = false := rfl
      rw [this]
      simp only [cond_false, bindS_okS]
      rw [same4 rfl]
      rfl
end Lw
end
section
set_option maxHeartbeats 4000000
namespace Lw
open PySem L2 DL FL

section
variable {α β : Type} {s : Pd}
theorem getS_ap (k : Nat) (f : D → Cd Pd β) : bindS (getS k) f s = f (s.fs k) s := Eq.trans (Eq.refl _) (Eq.refl _)
theorem setS_ap (k : Nat) (d : D) (f : Unit → Cd Pd β) : bindS (setS k d) f s = f () { s with fs := setF s.fs k d } := Eq.trans (Eq.refl _) (Eq.refl _)
theorem len_ap (f : D → Cd Pd β) : bindS (opL1 lenD) f s = f (.int s.ls.length) s := Eq.trans (Eq.refl _) (Eq.refl _)
theorem ixL_ap {y z : D} (f : D → Cd Pd β) (h : ixD (.fl s.ls) y = some z) : bindS (opL ixD y) f s = f z s := by
  unfold bindS opL
  rw [h]; rfl
theorem cond_ap (b : Bool) (x y : Cd Pd α) : (cond b x y) s = cond b (x s) (y s) := by cases b <;> rfl
end
structure Inv (s : Pd) : Prop where
  ls : ∀ d ∈ s.ls, ∃ i : Int, d = .int i
  f1 : ∃ i : Int, 0 ≤ i ∧ s.fs 1 = .int i
  f2 : ∃ i : Int, s.fs 2 = .int i
  f3 : ∃ i : Int, s.fs 3 = .int i
def Ok {α : Type} (m : Cd Pd α) (P : α → Prop) : Prop := ∀ s, Inv s → (m s).wp (fun a s' => Inv s' ∧ P a) (fun _ _ => False)
theorem Ok.bind {α β : Type} {m : Cd Pd α} {f : α → Cd Pd β} {P : α → Prop} {Q : β → Prop} (h : Ok m P) (k : ∀ a, P a → Ok (f a) Q) : Ok (bindS m f) Q := fun s i => wp_bind.mpr ((h s i).mono fun a s' ⟨i', p⟩ => k a p s' i')
theorem Ok.pure {α : Type} {a : α} {P : α → Prop} (h : P a) : Ok (okS a) P := fun s i => ⟨i, h⟩
theorem Ok.imp {α : Type} {m : Cd Pd α} {P Q : α → Prop} (h : Ok m P) (k : ∀ a, P a → Q a) : Ok m Q := fun s i => (h s i).mono fun a s' ⟨i', p⟩ => ⟨i', k a p⟩
theorem Ok.cond {α : Type} {b : Bool} {x y : Cd Pd α} {P : α → Prop} (h1 : b = true → Ok x P) (h2 : b = false → Ok y P) : Ok (cond b x y) P := by
  cases b with
  | true => exact h1 rfl
  | false => exact h2 rfl
theorem peal_ok (n p : Nat) (hn : 0 < n) : Ok (f__law_peal [.int n, .int p]) fun d => ∃ i : Nat, d = .int i ∧ i < n := fun s hi => by
  show (c__law_peal (.int n) (.int p) s).wp _ _
  obtain ⟨hls, ⟨i1, h1, e1⟩, ⟨i2, e2⟩, ⟨i3, e3⟩⟩ := hi
  have fin : ∀ (s' : Pd) (z : Int), Inv s' → (bindS (getS 3) (fun a => bindS (toB (optS (eqqD a (D.int p)))) fun k11 => cond k11 (okS (D.int 0)) (bindS (getS 3) fun a => bindS (toB (optS (eqqD a (D.int (p + 11))))) fun a => cond a (bindS (optS (subD (D.int n) (D.int 1))) fun d12 => okS d12) (bindS (optS (intD [D.int z])) fun a => bindS (optS (modD a (D.int n))) fun d12 => okS d12))) s').wp (fun a s' => Inv s' ∧ ∃ i : Nat, a = .int i ∧ i < n) (fun _ _ => False) := fun s' z hi => by
    obtain ⟨j3, e3⟩ := hi.f3
    simp only [getS_ap, e3, eqqD_int, optS_some, toB_bl, bindS_okS, cond_ap, subD_int, intD_int, modD_int, if_pos (show (0 : Int) < n by omega)]
    cases (j3 == (p : Int)) with
    | true => exact ⟨hi, 0, rfl, hn⟩
    | false =>
      simp only [cond_false, getS_ap, e3, eqqD_int, optS_some, toB_bl, bindS_okS, cond_ap]
      cases (j3 == (p : Int) + 11) with
      | true => exact ⟨hi, n - 1, (by show D.int ((n : Int) - 1) = D.int ((n - 1 : Nat) : Int); congr 1; omega), by omega⟩
      | false =>
        have h0 := Int.emod_nonneg z (show (n : Int) ≠ 0 by omega)
        have h1 := Int.emod_lt_of_pos z (show (0 : Int) < n by omega)
        exact ⟨hi, (z % n).toNat, (by show D.int (z % n) = D.int _; congr 1; omega), by omega⟩
  unfold c__law_peal
  simp only [bindS_bindS, getS_ap, e1, bindS_okS, addA_int, optS_some, setS_ap, jn_eq, toB_bind, len_ap, leD_int, toB_bl, cond_ap, bindS_cond]
  have hset : setF s.fs 1 (.int (i1 + 1)) 1 = .int (i1 + 1) := rfl
  have hset2 : setF s.fs 1 (.int (i1 + 1)) 2 = .int i2 := e2
  rw [hset]
  have I1 : Inv { s with fs := setF s.fs 1 (.int (i1 + 1)) } := ⟨hls, ⟨i1 + 1, by omega, rfl⟩, ⟨i2, e2⟩, ⟨i3, e3⟩⟩
  simp only [leD_int, optS_some, toB_bl, bindS_okS, cond_ap]
  cases hd : decide (i1 + 1 ≤ (s.ls.length : Int)) with
  | true =>
    have hd := of_decide_eq_true hd
    have hlt : i1.toNat < s.ls.length := by omega
    obtain ⟨z, hz⟩ := hls s.ls[i1.toNat] (List.getElem_mem hlt)
    simp only [cond_true, getS_ap, hset, subD_int, optS_some, bindS_okS]
    rw [ixL_ap (z := .int z) _ (by
      show atI s.ls (i1 + 1 - 1) = _
      rw [show i1 + 1 - 1 = ((i1.toNat : Nat) : Int) by omega, atI_lt hlt, hz])]
    exact fin _ z I1
  | false =>
    simp only [cond_false, getS_ap, hset, hset2, mulD_int, if_pos (show MulOk i2 40692 from .inl (.inr (by decide))), optS_some, bindS_okS, addA_int, intD_int, modD_int, if_pos (show (0 : Int) < 2147483629 by decide), setS_ap]
    have hset3 : ∀ x : D, setF (setF s.fs 1 (.int (i1 + 1))) 2 x 2 = x := fun _ => rfl
    simp only [hset3, fdivD_int, if_pos (show DivOk ((i2 * 40692 + (i1 + 1)) % 2147483629) 47 from .inl (show (0 : Int) < 47 ∧ (47 : Int) < 1073741824 by decide)), optS_some, bindS_okS]
    exact fin _ _ ⟨hls, ⟨i1 + 1, by omega, rfl⟩, ⟨_, rfl⟩, ⟨i3, e3⟩⟩
end Lw
end
section
set_option maxHeartbeats 4000000
namespace Lw
open PySem L2 DL FL

theorem Ok.fold {α : Type} {b : D → α → Cd Pd α} {P : Nat → α → Prop} (N : Nat) : ∀ (ds : List D) (k : Nat) (st : α), k + ds.length ≤ N → (∀ k, k < N → ∀ d ∈ ds, ∀ st, P k st → Ok (b d st) (P (k + 1))) → P k st → Ok (foldS b ds st) (P (k + ds.length))
  | [], k, st, _, _, h => Ok.pure h
  | d :: ds, k, st, hN, hb, h => by
    rw [List.length_cons] at hN
    rw [foldS_cons]
    refine (hb k (by omega) d List.mem_cons_self st h).bind fun st' h' => ?_
    have := Ok.fold N ds (k + 1) st' (by omega) (fun k hk x hx => hb k hk x (List.mem_cons_of_mem _ hx)) h'
    rw [List.length_cons, show k + (ds.length + 1) = k + 1 + ds.length by omega]
    exact this
theorem Ok.nox {α : Type} {m : Cd Pd α} {P : α → Prop} (h : Ok m P) : Ok (noxS m) P := fun s i => by
  have := h s i
  unfold noxS
  cases e : m s with
  | ok a s' => rw [e] at this; exact this
  | exc x s' => rw [e] at this; exact this.elim
  | stuck => rw [e] at this; exact this.elim
theorem Ok.lc {b : D → Cd Pd (Option D)} {R : D → Prop} : ∀ (ds acc : List D), (∀ d ∈ ds, Ok (b d) fun o => ∃ y, o = some y ∧ R y) → (∀ x ∈ acc, R x) → acc.length + ds.length ≤ sizeLine → Ok (lcS b ds acc) fun l => (∀ x ∈ l, R x) ∧ l.length = acc.length + ds.length
  | [], acc, _, h, _ => Ok.pure ⟨h, rfl⟩
  | d :: ds, acc, hb, h, hl => by
    unfold lcS
    rw [List.length_cons] at hl
    refine (hb d List.mem_cons_self).nox.bind fun o ⟨y, e, hy⟩ => ?_
    subst e
    dsimp only
    rw [if_pos (by omega)]
    refine (Ok.lc ds (acc ++ [y]) (fun x hx => hb x (List.mem_cons_of_mem _ hx)) (fun x hx => ?_) (by rw [List.length_append]; simp; omega)).imp fun l ⟨h1, h2⟩ => ⟨h1, by rw [h2, List.length_append, List.length_cons]; simp; omega⟩
    rcases List.mem_append.mp hx with hx | hx
    · exact h x hx
    · rw [List.mem_singleton.mp hx]; exact hy
theorem app_some {l : List D} {d : D} (h : l.length < sizeLine) : appM l [d] = some (.non, l ++ [d]) := if_pos h
/-- a foresight of n amounts -/
def FSt (n : Nat) (d : D) : Prop := ∃ xs, d = .tup xs ∧ xs.length = n ∧ ∀ x ∈ xs, farB x = true
theorem pick {l : List D} {i : Nat} {P : D → Prop} (hi : i < l.length) (h : ∀ x ∈ l, P x) : ∃ x, atI l (i : Int) = some x ∧ P x := ⟨l[i], atI_lt hi, h _ (List.getElem_mem hi)⟩
theorem tupN (l : List D) (h : l.length ≤ 1000) : tupO l = some (.tup l) := if_pos (by have := sizeLine_ge; omega)
theorem foresight_ok {sz : List Nat} {dd : Int} {mv : List D} (hn : sz.length ≤ 1000) (h0 : 0 < sz.length) : Ok (f__law_foresight [mach sz dd mv]) (FSt sz.length) := by
  show Ok (c__law_foresight (mach sz dd mv)) _
  unfold c__law_foresight mach
  simp only [bindS_okS, bindS_bindS, ixD_tup, mach0, optS_some, lenD_tup, List.length_map, tup2, jn_eq]
  refine (peal_ok 5 6 (by decide)).bind fun d11 ⟨way, hw, hw2⟩ => ?_
  subst hw
  refine (peal_ok 2 7 (by decide)).bind fun x16 ⟨wi, hwi, hwi2⟩ => ?_
  subst hwi
  obtain ⟨word, hword, hwf⟩ := pick (l := [D.str far, D.str whole]) (P := fun x => farB x = true) hwi2 (by intro x hx; simp only [List.mem_cons, List.not_mem_nil, or_false] at hx; rcases hx with rfl | rfl <;> rfl)
  simp only [ixD_tup, hword, optS_some, bindS_okS, show lenOk [] = some ([] : List D) from rfl, rg1_nat (show sz.length ≤ 1000000 by omega)]
  refine (Ok.fold (P := fun k (l : List D) => l.length = k ∧ ∀ x ∈ l, farB x = true) sz.length (rgD 0 sz.length) 0 [] (by rw [rgD_len]; omega) (fun k hk d hd st hst => ?_) ⟨rfl, fun x hx => by cases hx⟩).bind fun st61 hst => ?_
  · refine (peal_ok 6 8 (by decide)).bind fun d34 ⟨k6, e, h6⟩ => ?_
    subst e
    simp only [ltD_int, optS_some, toB_bl, bindS_okS, neD_int, cond_andB, gtD_int, subD_int, tupN [D.int 0, D.int 1, D.int 2, D.int 3] (by decide), ixD_tup]
    refine Ok.bind (P := fun x => farB x = true) (Ok.cond (fun _ => Ok.pure hwf) fun _ => Ok.cond (fun h => ?_) fun _ => Ok.pure rfl) fun a ha => ?_
    · have h := of_decide_eq_true h
      obtain ⟨x, hx, hxf⟩ := pick (l := [D.int 0, D.int 1, D.int 2, D.int 3]) (i := k6 - 2) (P := fun x => farB x = true) (by simp; omega) (by intro x hx; simp only [List.mem_cons, List.not_mem_nil, or_false] at hx; rcases hx with rfl | rfl | rfl | rfl <;> rfl)
      rw [show ((k6 : Int) - 2) = ((k6 - 2 : Nat) : Int) by omega, hx]
      exact Ok.pure hxf
    · obtain ⟨hl, hf⟩ := hst
      rw [app_some (by have := sizeLine_ge; omega)]
      refine Ok.pure ⟨by simp [hl], fun y hy => ?_⟩
      rcases List.mem_append.mp hy with hy | hy
      · exact hf y hy
      · rw [List.mem_singleton.mp hy]; exact ha
  · obtain ⟨hl, hf⟩ := hst
    rw [rgD_len, Nat.zero_add] at hl
    simp only [eqqD_int, optS_some, toB_bl, bindS_okS, tupN [D.int 9999, D.int 40, D.int 9998, D.int 12, D.int 14] (by decide), ixD_tup, tupleD_fl]
    refine Ok.cond (fun _ => ?_) fun _ => Ok.pure ⟨_, rfl, hl, hf⟩
    refine (peal_ok 5 10 (by decide)).bind fun d ⟨j, e, hj⟩ => ?_
    subst e
    obtain ⟨x, hx, hxf⟩ := pick (l := [D.int 9999, D.int 40, D.int 9998, D.int 12, D.int 14]) (P := fun x => farB x = true) hj (by intro x hx; simp only [List.mem_cons, List.not_mem_nil, or_false] at hx; rcases hx with rfl | rfl | rfl | rfl | rfl <;> rfl)
    simp only [ixD_tup, hx, optS_some, bindS_okS]
    refine (peal_ok sz.length 9 h0).bind fun d ⟨i, e, hi⟩ => ?_
    subst e
    have hs : setO st61 (.int i) x = some (st61.set i x) := by
      unfold setO
      dsimp only
      have : ixN st61.length (i : Int) = some i := by unfold ixN; simp [hl, hi]
      rw [this]
    simp only [hs, optS_some, bindS_okS, tupleD_fl]
    refine Ok.pure ⟨_, rfl, by rw [List.length_set, hl], fun y hy => ?_⟩
    rcases List.mem_or_eq_of_mem_set hy with h | h
    · exact hf y h
    · rw [h]; exact hxf
end Lw
end
section
set_option maxHeartbeats 4000000
namespace Lw
open PySem L2 DL FL

def put (xs : List D) (i : Nat) (d : D) : List D := xs.take i ++ [d] ++ xs.drop (i + 1)
theorem put_len {xs : List D} {i : Nat} {d : D} (h : i < xs.length) : (put xs i d).length = xs.length := by
  unfold put; simp; omega
theorem put_all {xs : List D} {i : Nat} {d : D} {P : D → Prop} (h : ∀ x ∈ xs, P x) (hd : P d) : ∀ x ∈ put xs i d, P x := fun x hx => by
  unfold put at hx
  rcases List.mem_append.mp hx with hx | hx
  · rcases List.mem_append.mp hx with hx | hx
    · exact h x (List.mem_of_mem_take hx)
    · rw [List.mem_singleton.mp hx]; exact hd
  · exact h x (List.mem_of_mem_drop hx)
theorem add_tup {a b : List D} (h : a.length + b.length ≤ 10000) : addA (.tup a) (.tup b) = some (.tup (a ++ b)) := by
  rw [addA_tup, if_pos (by have := sizeLine_ge; omega)]
theorem put_code {xs : List D} {i : Nat} {d : D} (h : i < xs.length) (hx : xs.length ≤ 1000) : (bindS (optS (addA (.tup (xs.take i)) (.tup [d]))) fun x30 => optS (addA x30 (.tup (xs.drop (i + 1)))) : Cd Pd D) = okS (.tup (put xs i d)) := by
  rw [add_tup (by rw [List.length_take]; simp; omega), optS_some, bindS_okS, add_tup (by simp; omega)]; rfl
theorem put_bind {xs : List D} {i : Nat} {d : D} (h : i < xs.length) (hx : xs.length ≤ 1000) (K : D → Cd Pd D) : bindS (optS (addA (.tup (xs.take i)) (.tup [d]))) (fun a => bindS (optS (addA a (.tup (xs.drop (i + 1))))) K) = K (.tup (put xs i d)) := by
  rw [← bindS_bindS, put_code h hx, bindS_okS]
theorem put_at {xs : List D} {i : Nat} {d : D} (h : i < xs.length) : atI (put xs i d) (i : Int) = some d := by
  rw [atI_natF]
  unfold put
  have hl : (xs.take i).length = i := by rw [List.length_take]; omega
  rw [List.getElem?_append_left (by rw [List.length_append, hl]; simp), List.getElem?_append_right (by omega), hl]
  simp
def FF (n : Nat) (d : D) : Prop := ∃ a b, d = .tup [a, b] ∧ nice a = true ∧ nice b = true
theorem FSt.nice {n : Nat} {d : D} (h : FSt n d) : nice d = true := by
  obtain ⟨xs, rfl, _, hf⟩ := h
  exact List.all_eq_true.mpr fun x hx => farB_atom (hf x hx)
theorem edge_ok {sz : List Nat} {dd : Int} {mv : List D} {d : D} (hn : sz.length ≤ 1000) (hs : ∀ s ∈ sz, s ≤ 1000) (h0 : 0 < sz.length) (hd : FSt sz.length d) : Ok (f__law_edge [mach sz dd mv, d]) (FF sz.length) := by
  have hdn := hd.nice
  obtain ⟨xs, rfl, hl, hf⟩ := hd
  show Ok (c__law_edge (mach sz dd mv) (.tup xs)) _
  unfold c__law_edge
  simp only [bindS_okS, bindS_bindS, lenD_tup, optS_some, rg1_nat (show 15 ≤ 1000000 by decide), show rg1 [D.int 15] = some (rgD 0 15) from rg1_nat (n := 15) (by decide)]
  refine (peal_ok xs.length 0 (by omega)).bind fun d8 ⟨i, e, hi⟩ => ?_
  subst e
  have ep : ∀ j : Nat, (j : Int) + 1 = ((j + 1 : Nat) : Int) := fun j => by omega
  simp only [asI_int, optS_some, bindS_okS, sliceA_tup, cut_hi xs (Nat.le_of_lt hi), addA_int, ep, cut_lo xs (Nat.succ_le_of_lt hi), tup1]
  refine (Ok.fold (P := fun _ (st : D) => st = .non ∨ ∃ k : Nat, k < 15 ∧ st = .tup (put xs i (.int k))) 15 (rgD 0 15) 0 .non (by rw [rgD_len]; omega) (fun k hk d hd st hst => ?_) (.inl rfl)).bind fun st hst => ?_
  · obtain ⟨j, hj, rfl⟩ := rgD_mem hd
    have hall : ∀ x ∈ put xs i (.int j), farB x = true := put_all hf (by unfold farB; simp; omega)
    have hc := v_law_count (sz := sz) (dd := dd) (mv := mv) (xs := put xs i (.int j)) (List.all_eq_true.mpr hall) (by rw [put_len hi, hl]) hs (by rw [put_len hi]; omega)
    rw [show i.succ = i + 1 from rfl, put_bind hi (by omega)]
    simp only [hc, liftU_ok, toB_bind, bindS_okS, isnotD_non, optS_some, toB_bl]
    exact Ok.cond (fun _ => Ok.pure (.inr ⟨j, hj, rfl⟩)) fun _ => Ok.pure hst
  · rcases hst with rfl | ⟨k, hk, rfl⟩
    · simp only [isD_non, optS_some, toB_bl, bindS_okS, tup2]
      exact Ok.pure ⟨_, _, rfl, hdn, hdn⟩
    · have hn2 : isNon (.tup (put xs i (.int k))) = false := rfl
      have hl2 : (put xs i (D.int k)).length = xs.length := put_len hi
      have hall : ∀ x ∈ put xs i (.int k), farB x = true := put_all hf (by unfold farB; simp; omega)
      simp only [isD_non, optS_some, toB_bl, bindS_okS, tup2, hn2, cond_false, sliceA_tup, cut_hi (put xs i (D.int k)) (i := i) (by omega), cut_lo (put xs i (D.int k)) (i := i + 1) (by omega), ixD_tup, put_at hi, addA_int]
      rw [put_bind (by omega) (by omega)]
      refine Ok.pure ⟨_, _, rfl, List.all_eq_true.mpr fun x hx => farB_atom (hall x hx), List.all_eq_true.mpr fun x hx => farB_atom (put_all hall (P := fun x => farB x = true) (by unfold farB; simp; omega) x hx)⟩
end Lw
end
section
set_option maxHeartbeats 4000000
namespace Lw
open PySem L2 DL FL

theorem nice_tup {l : List D} (h : ∀ x ∈ l, atom x = true) : nice (.tup l) = true := List.all_eq_true.mpr h
theorem odd_ok {m d : D} {n : Nat} (hn : n ≤ 1000) (h0 : 0 < n) (hd : FSt n d) : Ok (f__law_odd [m, d]) (fun d => nice d = true) := by
  obtain ⟨xs, rfl, hl, hf⟩ := hd
  have hat : ∀ x ∈ xs, atom x = true := fun x hx => farB_atom (hf x hx)
  show Ok (c__law_odd m (.tup xs)) _
  unfold c__law_odd
  simp only [bindS_okS, bindS_bindS, lenD_tup, optS_some]
  refine (peal_ok xs.length 1 (by omega)).bind fun d8 ⟨i, e, hi⟩ => ?_
  subst e
  refine (peal_ok 8 2 (by decide)).bind fun d8 ⟨way, e, hw⟩ => ?_
  subst e
  have t3 : tupO [D.int 0] = some (.tup [D.int 0]) := rfl
  simp only [tup2, optS_some, bindS_okS, un2, itsD_tup, eqqD_int, toB_bl, tup1, ixD_tup, show tupO [] = some (D.tup []) from rfl, show lenOk [] = some ([] : List D) from rfl, listD_tup, asI_int, sliceA_tup,
    tupN [D.tup [D.int 0], D.tup [D.str "far"], D.tup [D.non]] (by decide), toB_cond, cond_andB, gtD_int, addA_int, intD_int, modD_int, if_pos (show (0 : Int) < (xs.length : Int) by omega)]
  refine Ok.cond (fun _ => ?_) fun _ => Ok.cond (fun _ => ?_) fun _ => Ok.cond (fun _ => Ok.pure rfl) fun _ => Ok.cond (fun _ => ?_) fun _ => Ok.cond (fun _ => ?_) fun _ => ?_
  · refine (peal_ok 3 3 (by decide)).bind fun d ⟨j, e, hj⟩ => ?_
    subst e
    obtain ⟨x, hx, ys, rfl, hy, hyl⟩ := pick (l := [D.tup [D.int 0], D.tup [D.str "far"], D.tup [D.non]]) (P := fun x => ∃ ys, x = .tup ys ∧ (∀ y ∈ ys, atom y = true) ∧ ys.length ≤ 1) hj (by
      intro x hx
      simp only [List.mem_cons, List.not_mem_nil, or_false] at hx
      rcases hx with rfl | rfl | rfl
      · exact ⟨_, rfl, (by intro y hy; rw [List.mem_singleton.mp hy]; rfl), Nat.le_refl _⟩
      · exact ⟨_, rfl, (by intro y hy; rw [List.mem_singleton.mp hy]; exact sca_far), Nat.le_refl _⟩
      · exact ⟨_, rfl, (by intro y hy; rw [List.mem_singleton.mp hy]; rfl), Nat.le_refl _⟩)
    simp only [ixD_tup, hx, optS_some, bindS_okS, add_tup (a := xs) (b := ys) (by omega)]
    exact Ok.pure (nice_tup fun y hy' => by
      rcases List.mem_append.mp hy' with h | h
      · exact hat y h
      · exact hy y h)
  · rw [show (some (1 : Int)) = some ((1 : Nat) : Int) from rfl, cut_lo xs (by omega)]
    exact Ok.pure (nice_tup fun y hy => hat y (List.mem_of_mem_drop hy))
  · have hm : mulD (.tup [D.str "far"]) (.int 4) = some (.tup [D.str "far", D.str "far", D.str "far", D.str "far"]) := rfl
    simp only [hm, optS_some, bindS_okS, tupN [D.str "whole", D.str "far", D.str "whole"] (by decide), tupN [D.non, D.int 7, D.str "far", D.tup [], D.bl true, D.fl [], D.tup [D.str "far", D.str "far", D.str "far", D.str "far"], D.tup [D.str "whole", D.str "far", D.str "whole"]] (by decide)]
    refine (peal_ok 8 4 (by decide)).bind fun d ⟨j, e, hj⟩ => ?_
    subst e
    obtain ⟨x, hx, hxn⟩ := pick (l := [D.non, D.int 7, D.str "far", D.tup [], D.bl true, D.fl [], D.tup [D.str "far", D.str "far", D.str "far", D.str "far"], D.tup [D.str "whole", D.str "far", D.str "whole"]]) (P := fun x => nice x = true) hj (by
      intro x hx
      simp only [List.mem_cons, List.not_mem_nil, or_false] at hx
      rcases hx with rfl | rfl | rfl | rfl | rfl | rfl | rfl | rfl <;> decide +kernel)
    simp only [ixD_tup, hx, optS_some, bindS_okS]
    exact Ok.pure hxn
  · simp only [rg1_nat (show xs.length ≤ 1000000 by omega), optS_some, bindS_okS]
    refine (Ok.lc (R := fun x => atom x = true) (rgD 0 xs.length) [] (fun d hd => ?_) (fun x hx => by cases hx) (by rw [rgD_len]; simp only [List.length_nil]; have := sizeLine_ge; omega)).bind fun l ⟨h1, _⟩ => ?_
    · obtain ⟨j, hj, rfl⟩ := rgD_mem hd
      simp only [eqqD_int, optS_some, toB_bl, bindS_okS, ixD_tup, atI_lt hj]
      refine Ok.bind (P := fun x => atom x = true) (Ok.cond (fun _ => Ok.pure sca_far) fun _ => Ok.cond (fun _ => Ok.pure sca_whole) fun _ => Ok.pure (hat _ (List.getElem_mem hj))) fun a ha => Ok.pure ⟨a, rfl, ha⟩
    · simp only [tupleD_fl, optS_some, bindS_okS]
      exact Ok.pure (nice_tup h1)
  · have hp : powD (.int 10) (.int 59) = some (.int (10 ^ 59)) := by rw [powD_int, if_pos (by decide)]; rfl
    have ho : lenOk [D.int 2] = some [D.int 2] := rfl
    have hlen := tupN [D.int (-1), D.int 10000, D.bl true, D.bl false, D.non, D.str "Far", D.str "", D.str "whole ", D.tup [D.int 1], D.fl [D.int 2], D.str "0", D.int (10 ^ 59)] (by decide)
    simp only [negD_int, hp, ho, optS_some, bindS_okS, hlen]
    refine (peal_ok 12 5 (by decide)).bind fun d ⟨j, e, hj⟩ => ?_
    subst e
    obtain ⟨x, hx, hxn⟩ := pick (l := [D.int (-1), D.int 10000, D.bl true, D.bl false, D.non, D.str "Far", D.str "", D.str "whole ", D.tup [D.int 1], D.fl [D.int 2], D.str "0", D.int (10 ^ 59)]) (P := fun x => atom x = true) hj (by
      intro x hx
      simp only [List.mem_cons, List.not_mem_nil, or_false] at hx
      rcases hx with rfl | rfl | rfl | rfl | rfl | rfl | rfl | rfl | rfl | rfl | rfl | rfl <;> decide +kernel)
    have ep : ((i : Int) + 1) = ((i + 1 : Nat) : Int) := by omega
    simp only [ixD_tup, hx, optS_some, bindS_okS, ep, cut_hi xs (Nat.le_of_lt hi), cut_lo xs (show i + 1 ≤ xs.length by omega)]
    rw [put_bind hi (by omega)]
    exact Ok.pure (nice_tup (put_all hat hxn))
end Lw
end
section
set_option maxHeartbeats 4000000
namespace Lw
open PySem L2 DL FL

def Mach (d : D) : Prop := ∃ sz dd mv, d = mach sz dd mv ∧ 1 ≤ sz.length ∧ sz.length ≤ 3 ∧ (∀ s ∈ sz, 2 ≤ s ∧ s ≤ 3) ∧ 1 ≤ mv.length
def lets : List Nat → Nat → Nat
  | [], m => m
  | s :: ss, m => lets ss (m * s)
theorem fold_lets (b : D → D → Cd Pd D) (hb : ∀ (s m : Nat), s ≤ 3 → b (.int s) (.int m) = okS (.int ((m * s : Nat) : Int))) : ∀ (ss : List Nat) (m : Nat), (∀ s ∈ ss, s ≤ 3) → foldS b (ss.map fun n : Nat => D.int n) (.int m) = okS (.int ((lets ss m : Nat) : Int))
  | [], m, _ => rfl
  | s :: ss, m, h => by
    rw [List.map_cons, foldS_cons, hb s m (h s List.mem_cons_self), bindS_okS, fold_lets b hb ss _ fun t ht => h t (List.mem_cons_of_mem _ ht)]
    rfl
theorem lets_le : ∀ (ss : List Nat) (m : Nat), (∀ s ∈ ss, s ≤ 3) → lets ss m ≤ m * 3 ^ ss.length
  | [], m, _ => by simp [lets]
  | s :: ss, m, h => by
    have h1 := lets_le ss (m * s) fun t ht => h t (List.mem_cons_of_mem _ ht)
    have h2 := h s List.mem_cons_self
    show lets ss (m * s) ≤ _
    refine Nat.le_trans h1 ?_
    rw [List.length_cons, Nat.pow_succ, Nat.mul_assoc, Nat.mul_comm (3 ^ ss.length) 3]
    exact Nat.mul_le_mul_left m (Nat.mul_le_mul_right _ h2)
theorem ints_of {l : List D} {P : Nat → Prop} (h : ∀ x ∈ l, ∃ n : Nat, x = .int n ∧ P n) : ∃ ns : List Nat, l = (ns.map fun n : Nat => D.int n) ∧ ∀ n ∈ ns, P n := by
  induction l with
  | nil => exact ⟨[], rfl, fun _ h => by cases h⟩
  | cons x r ih =>
    obtain ⟨ns, rfl, h2⟩ := ih fun y hy => h y (List.mem_cons_of_mem _ hy)
    obtain ⟨n, rfl, h1⟩ := h x List.mem_cons_self
    exact ⟨n :: ns, rfl, fun m hm => by rcases List.mem_cons.mp hm with rfl | hm; exact h1; exact h2 m hm⟩
theorem machine_ok : Ok (f__law_machine []) Mach := by
  show Ok c__law_machine _
  unfold c__law_machine
  simp only [bindS_okS, bindS_bindS, optS_some]
  refine (peal_ok 3 0 (by decide)).bind fun d ⟨n, e, hn⟩ => ?_
  subst e
  have ep : ∀ j : Nat, (1 : Int) + (j : Int) = ((1 + j : Nat) : Int) := fun j => by omega
  simp only [addA_int, optS_some, bindS_okS, ep, rg1_nat (show 1 + n ≤ 1000000 by omega)]
  refine (Ok.lc (R := fun x => ∃ m : Nat, x = .int m ∧ 2 ≤ m ∧ m ≤ 3) (rgD 0 (1 + n)) [] (fun d hd => ?_) (fun x hx => by cases hx) (by rw [rgD_len]; simp only [List.length_nil]; have := sizeLine_ge; omega)).bind fun l ⟨h1, h2⟩ => ?_
  · refine (peal_ok 2 1 (by decide)).bind fun d ⟨j, e, hj⟩ => ?_
    subst e
    simp only [addA_int, optS_some, bindS_okS]
    exact Ok.pure ⟨_, rfl, 2 + j, (by congr 1), by omega, by omega⟩
  obtain ⟨sz, rfl, hsz⟩ := ints_of h1
  rw [List.length_map, rgD_len, List.length_nil] at h2
  simp only [tupleD_fl, optS_some, bindS_okS]
  refine (peal_ok 4 2 (by decide)).bind fun d ⟨dd, e, hdd⟩ => ?_
  subst e
  simp only [addA_int, optS_some, bindS_okS, ep]
  refine (peal_ok 40 3 (by decide)).bind fun d ⟨q, e, hq⟩ => ?_
  subst e
  simp only [addA_int, optS_some, bindS_okS, ep, tupN [D.int 1, D.int 2, D.int 3, D.int 8, D.int 16, D.int 32, D.int 40, D.int ((1 + q : Nat) : Int)] (by simp only [List.length_cons, List.length_nil]; omega)]
  refine (peal_ok 8 4 (by decide)).bind fun d ⟨w, e, hw⟩ => ?_
  subst e
  obtain ⟨x, hx, st, rfl, hst1, hst2⟩ := pick (l := [D.int 1, D.int 2, D.int 3, D.int 8, D.int 16, D.int 32, D.int 40, D.int ((1 + q : Nat) : Int)]) (P := fun x => ∃ m : Nat, x = .int m ∧ 1 ≤ m ∧ m ≤ 41) hw (by
    intro x hx
    simp only [List.mem_cons, List.not_mem_nil, or_false] at hx
    rcases hx with rfl | rfl | rfl | rfl | rfl | rfl | rfl | rfl
    · exact ⟨1, rfl, by decide, by decide⟩
    · exact ⟨2, rfl, by decide, by decide⟩
    · exact ⟨3, rfl, by decide, by decide⟩
    · exact ⟨8, rfl, by decide, by decide⟩
    · exact ⟨16, rfl, by decide, by decide⟩
    · exact ⟨32, rfl, by decide, by decide⟩
    · exact ⟨40, rfl, by decide, by decide⟩
    · exact ⟨1 + q, rfl, by omega, by omega⟩)
  simp only [ixD_tup, hx, itsD_tup, optS_some, bindS_okS]
  have hfl := fold_lets (fun d65 st64 => bindS (optS (mulD st64 d65)) fun d68 => okS d68) (fun s m hs => by simp only [mulD_int, if_pos (mulok (i := (m : Int)) (Int.natCast_nonneg s) (by omega)), optS_some, bindS_okS]; simp) sz 1 fun s h => (hsz s h).2
  have hlets := lets_le sz 1 fun s h => (hsz s h).2
  have hl27 : lets sz 1 ≤ 27 := by
    have : 3 ^ sz.length ≤ 3 ^ 3 := Nat.pow_le_pow_right (by decide) (by omega)
    omega
  rw [show (D.int 1) = D.int ((1 : Nat) : Int) from rfl, hfl, bindS_okS]
  refine (peal_ok 7 5 (by decide)).bind fun d ⟨sp, e, hsp⟩ => ?_
  subst e
  simp only [addA_int, optS_some, bindS_okS, ep, show lenOk [] = some ([] : List D) from rfl, rg1_nat (show st ≤ 1000000 by omega)]
  refine (Ok.fold (P := fun k (l : List D) => l.length = k) st (rgD 0 st) 0 [] (by rw [rgD_len]; omega) (fun k hk d hd l hl => ?_) rfl).bind fun l hl => ?_
  · obtain ⟨j, hj, rfl⟩ := rgD_mem hd
    simp only [rg1_nat (show lets sz 1 ≤ 1000000 by omega), optS_some, bindS_okS]
    refine (Ok.fold (P := fun k (l : List D) => l.length = k) (lets sz 1) (rgD 0 (lets sz 1)) 0 [] (by rw [rgD_len]; omega) (fun k2 hk2 d2 hd2 l2 hl2 => ?_) rfl).bind fun l2 hl2 => ?_
    · obtain ⟨j2, hj2, rfl⟩ := rgD_mem hd2
      simp only [rg1_nat (show 1 + dd ≤ 1000000 by omega), optS_some, bindS_okS]
      refine (Ok.lc (R := fun _ => True) (rgD 0 (1 + dd)) [] (fun d3 hd3 => ?_) (fun x hx => by cases hx) (by rw [rgD_len]; simp only [List.length_nil]; have := sizeLine_ge; omega)).bind fun l3 _ => ?_
      · obtain ⟨j3, hj3, rfl⟩ := rgD_mem hd3
        simp only [addA_int, optS_some, bindS_okS, intD_int, modD_int, if_pos (show (0 : Int) < 5 by decide), eqqD_int, toB_bl, negD_int, mulD_int, if_pos (mulok (i := (j : Int)) (j := (((1 : Nat) : Int) + (sp : Int))) (by omega) (by omega)), if_pos (show (0 : Int) < (st : Int) by omega)]
        refine Ok.bind (P := fun _ => True) (Ok.cond (fun _ => Ok.pure trivial) fun _ => Ok.pure trivial) fun a _ => Ok.pure ⟨a, rfl, trivial⟩
      · rw [app_some (by have := sizeLine_ge; omega)]
        exact Ok.pure (by simp [hl2])
    · rw [app_some (by have := sizeLine_ge; omega)]
      exact Ok.pure (by simp [hl])
  · rw [rgD_len, Nat.zero_add] at hl
    rw [tupN _ (by simp only [List.length_cons, List.length_nil]; omega)]
    exact Ok.pure ⟨sz, _, l, rfl, by omega, by omega, hsz, by omega⟩
end Lw
end
section
set_option maxHeartbeats 4000000
namespace Lw
open PySem L2 DL FL

def OkU {α : Type} (m : Cd Unit α) (P : α → Prop) : Prop := ∃ a, m () = .ok a () ∧ P a
theorem OkU.bind {α β : Type} {m : Cd Unit α} {f : α → Cd Unit β} {P : α → Prop} {Q : β → Prop} (h : OkU m P) (k : ∀ a, P a → OkU (f a) Q) : OkU (bindS m f) Q := by
  obtain ⟨a, h1, h2⟩ := h
  obtain ⟨b, h3, h4⟩ := k a h2
  exact ⟨b, by unfold bindS; rw [h1]; exact h3, h4⟩
theorem OkU.pure {α : Type} {a : α} {P : α → Prop} (h : P a) : OkU (okS a) P := ⟨a, rfl, h⟩
theorem OkU.fold {α : Type} {b : D → α → Cd Unit α} {P : Nat → α → Prop} (N : Nat) : ∀ (ds : List D) (k : Nat) (st : α), k + ds.length ≤ N → (∀ k, k < N → ∀ d ∈ ds, ∀ st, P k st → OkU (b d st) (P (k + 1))) → P k st → OkU (foldS b ds st) (P (k + ds.length))
  | [], k, st, _, _, h => OkU.pure h
  | d :: ds, k, st, hN, hb, h => by
    rw [List.length_cons] at hN
    rw [foldS_cons]
    refine (hb k (by omega) d List.mem_cons_self st h).bind fun st' h' => ?_
    have := OkU.fold N ds (k + 1) st' (by omega) (fun k hk x hx => hb k hk x (List.mem_cons_of_mem _ hx)) h'
    rw [List.length_cons, show k + (ds.length + 1) = k + 1 + ds.length by omega]
    exact this
theorem OkU.cond {α : Type} {b : Bool} {x y : Cd Unit α} {P : α → Prop} (h1 : b = true → OkU x P) (h2 : b = false → OkU y P) : OkU (cond b x y) P := by
  cases b with
  | true => exact h1 rfl
  | false => exact h2 rfl
theorem cut_mem {α : Type} {xs : List α} {a b : Option Int} {x : α} (h : x ∈ cutD xs a b) : x ∈ xs := List.mem_of_mem_drop (List.mem_of_mem_take h)
theorem cut_len {α : Type} (xs : List α) (a b : Option Int) : (cutD xs a b).length ≤ xs.length := by
  unfold DL.cutD
  rw [List.length_take, List.length_drop]
  omega
def St2 (n : Nat) (st : List D × D) : Prop := st.1.length ≤ n ∧ (∀ x ∈ st.1, ∃ i : Int, x = .int i) ∧ ∃ i : Int, st.2 = .int i
theorem app_ints {l : List D} {n : Nat} {i : Int} (h : l.length ≤ n ∧ ∀ x ∈ l, ∃ i : Int, x = .int i) : (l ++ [D.int i]).length ≤ n + 1 ∧ ∀ x ∈ l ++ [D.int i], ∃ i : Int, x = .int i := by
  refine ⟨by simp; omega, fun x hx => ?_⟩
  rcases List.mem_append.mp hx with hx | hx
  · exact h.2 x hx
  · exact ⟨i, List.mem_singleton.mp hx⟩
theorem tower_ok {ns : List Int} (hn : ns.length ≤ 63) : ∃ s0, f__law_tower [.fl (ns.map .int)] = .ok s0 () ∧ Inv s0 := by
  show OkU (c__law_tower (.fl (ns.map .int))) Inv
  unfold c__law_tower
  obtain ⟨B, hB, hsh⟩ : ∃ B : Int, 0 < B ∧ shlD (.int 1) (.int 900) = some (.int B) := ⟨1 * 2 ^ (900 : Int).toNat, by rw [Int.one_mul]; exact Int.pow_pos (by decide), by rw [shlD_int]; exact if_pos ⟨by decide, by decide, by decide⟩⟩
  have m1 : ∀ i : Int, MulOk i 16807 := fun i => .inl (.inr (by decide))
  have m2 : ∀ k : Bool, MulOk 39 (if k = true then 1 else 0) := fun k => .inl (.inl (by decide))
  simp only [bindS_okS, bindS_bindS, optS_some, hsh, show lenOk [] = some ([] : List D) from rfl, listD_fl, asI_int, sliceA_fl, itsD_fl]
  have hlen : (cutD (ns.map D.int) none (some 44)).length ≤ 63 := by
    have := cut_len (ns.map D.int) none (some 44)
    rw [List.length_map] at this
    omega
  refine (OkU.fold (P := fun k st => St2 (61 * k) st) 63 (cutD (ns.map D.int) none (some 44)) 0 ([], .int 84163) (by omega) (fun k hk d hd st hst => ?_) ⟨Nat.zero_le _, (fun x (hx : x ∈ ([] : List D)) => nomatch hx), 84163, rfl⟩).bind fun st hst => ?_
  · obtain ⟨c, _, rfl⟩ := List.mem_map.mp (cut_mem hd)
    obtain ⟨h1, h2, z, h3⟩ := hst
    simp only [intD_int, absD_int, modD_int, if_pos hB, h3, mulD_int, if_pos (m1 _), if_pos (show (0 : Int) < 880021 by decide), addA_int, ltD_int, intD_bl, if_pos (m2 _), if_pos (show (0 : Int) < 2147483629 by decide), if_pos (show (0 : Int) < 17 by decide), if_pos (show (0 : Int) < 29393 by decide), optS_some, bindS_okS,
      app_some (show st.1.length < sizeLine by have := sizeLine_ge; omega), show rg1 [D.int 60] = some (rgD 0 60) from rg1_nat (n := 60) (by decide)]
    refine (OkU.fold (P := fun j st => St2 (61 * k + 1 + j) st) 60 (rgD 0 60) 0 _ (by rw [rgD_len]; omega) (fun j hj d2 hd2 st2 hst2 => ?_) ?_).bind fun st2 hst2 => ?_
    · obtain ⟨g1, g2, z2, g3⟩ := hst2
      simp only [g3, fdivD_int, if_pos (show DivOk z2 29393 from .inl (show (0 : Int) < 29393 ∧ (29393 : Int) < 1073741824 by decide)), optS_some, bindS_okS, gtD_int, toB_bl, intD_int, modD_int, if_pos (show (0 : Int) < 29393 by decide), app_some (show st2.1.length < sizeLine by have := sizeLine_ge; omega)]
      refine OkU.cond (fun _ => OkU.pure ?_) fun _ => OkU.pure ⟨Nat.le_succ_of_le g1, g2, _, rfl⟩
      obtain ⟨a1, a2⟩ := app_ints (i := z2 / 29393 % 29393) ⟨g1, g2⟩
      exact ⟨a1, a2, _, rfl⟩
    · obtain ⟨a1, a2⟩ := app_ints (n := 61 * k) (l := st.1) ⟨h1, h2⟩
      exact ⟨a1, a2, _, rfl⟩
    · obtain ⟨g1, g2, _⟩ := hst2
      rw [rgD_len] at g1
      exact OkU.pure ⟨by omega, g2, _, rfl⟩
  · obtain ⟨h1, h2, z, h3⟩ := hst
    simp only [h3, fdivD_int, if_pos (show DivOk z 23 from .inl (show (0 : Int) < 23 ∧ (23 : Int) < 1073741824 by decide)), intD_int, modD_int, if_pos (show (0 : Int) < 30 by decide), optS_some, bindS_okS]
    refine ⟨_, if_pos ⟨rfl, by have := sizeLine_ge; omega⟩, ?_⟩
    exact ⟨h2, ⟨0, Int.le_refl _, rfl⟩, ⟨_, rfl⟩, ⟨_, rfl⟩⟩
end Lw
end
section
set_option maxHeartbeats 4000000
namespace Lw
open PySem L2 DL FL

theorem Ok.loop {b : D → Unit → Cd Pd (Ctl Unit)} : ∀ (ds : List D), (∀ d ∈ ds, Ok (b d ()) fun c => c = .nx ()) → Ok (loopS b ds ()) fun c => c = .nx ()
  | [], _ => Ok.pure rfl
  | d :: ds, h => by
    rw [loopS_cons]
    refine (h d List.mem_cons_self).bind fun c hc => ?_
    subst hc
    exact Ok.loop ds fun x hx => h x (List.mem_cons_of_mem _ hx)
theorem runS_ok {mk : Cd Pd D} {s0 : Pd} (h : Ok mk fun d => d = .bl true) (hi : Inv s0) : runS mk s0 () = .ok (.bl true) () := by
  have := h s0 hi
  unfold runS
  cases e : mk s0 with
  | ok d s' => rw [e] at this; obtain ⟨_, rfl⟩ := this; rfl
  | exc x s' => rw [e] at this; exact this.elim
  | stuck => rw [e] at this; exact this.elim
def mv1 : List D := [.tup [.tup [.int 0], .tup [.int (-1)]]]
def six : D := .tup [.tup [.int 0], .tup [.int 0], .tup [.int 0], .tup [.int 0], .tup [.int 0], .tup [.int 0]]
def one : D := mach [2] 1 mv1
def pair : D := mach [2, 3] 1 [six, six]
theorem h_one {d r : D} (h : nice d = true) (e : hrd [2] mv1 d = r) : f__law_heard [one, d] = .ok r () := by
  rw [← e]
  exact v_heard h (by decide) (by decide)
theorem h_pair {d r : D} (h : nice d = true) (e : hrd [2, 3] [six, six] d = r) : f__law_heard [pair, d] = .ok r () := by
  rw [← e]
  exact v_heard h (by decide) (by decide)
theorem turn {m f k r : D} (hh : f__law_heard [m, f] = .ok r ()) (hr : cond (isNon k) (D.tup [.str "step", .str "number"]) (D.tup [.str "many", k]) = r) (hc : cmpOk 4 r = true) :
    Ok (un3 (.tup [m, f, k]) fun d211 d212 d213 => bindS (toTr (bindS (liftU (f__law_heard [d211, d212])) fun a => bindS (toB (optS (isD d213 D.non))) fun a_7 => bindS (cond a_7 (okS (D.tup [D.str "step", D.str "number"])) (okS (D.tup [D.str "many", d213]))) fun a_8 => liftU (f__law_same 4 [a, a_8]))) fun a => cond (!a) (okS (Ctl.rt (D.bl false))) (okS (Ctl.nx ()))) fun c => c = .nx () := by
  simp only [un3, itsD_tup, hh, liftU_ok, bindS_okS, isD_non, optS_some, toB_bl]
  have hs := same4 hc
  cases hk : isNon k with
  | true =>
    rw [hk] at hr
    simp only [cond_true] at hr ⊢
    simp only [bindS_okS, hr, hs, liftU_ok, toTr_okS, truD_bl, optS_some, Bool.not_true, cond_false]
    exact Ok.pure rfl
  | false =>
    rw [hk] at hr
    simp only [cond_false] at hr ⊢
    simp only [bindS_okS, hr, hs, liftU_ok, toTr_okS, truD_bl, optS_some, Bool.not_true, cond_false]
    exact Ok.pure rfl
theorem law_holds : ∀ ns : List Int, ns.length ≤ 63 → c_law (.fl (ns.map .int)) () = .ok (.bl true) () := fun ns hn => by
  obtain ⟨s0, h0, hi⟩ := tower_ok hn
  unfold c_law
  simp only [bindS_okS, h0, liftU_ok]
  refine runS_ok ?_ hi
  simp only [bindS_okS, bindS_bindS, optS_some, show rg1 [D.int 3] = some (rgD 0 3) from rg1_nat (n := 3) (by decide), show rg1 [D.int 4] = some (rgD 0 4) from rg1_nat (n := 4) (by decide)]
  refine (Ok.loop (rgD 0 3) fun d _ => ?_).bind fun c hc => ?_
  · refine machine_ok.bind fun m ⟨sz, dd, mv, e, h1, h2, h3, h4⟩ => ?_
    subst e
    have hs : ∀ s ∈ sz, 2 ≤ s ∧ s ≤ 1000 := fun s h => ⟨(h3 s h).1, by have := (h3 s h).2; omega⟩
    have ask : ∀ d, nice d = true → f__law_asked [mach sz dd mv, d] = .ok (.bl true) () := fun d h => v_asked h hs (by omega) h4
    refine (Ok.loop (rgD 0 4) fun d _ => ?_).bind fun c hc => by subst hc; exact Ok.pure rfl
    refine (foresight_ok (by omega) (by omega)).bind fun f hf => ?_
    simp only [ask f hf.nice, liftU_ok, toTr_okS, truD_bl, optS_some, bindS_okS, Bool.not_true, cond_false]
    refine (edge_ok (by omega) (fun s h => (hs s h).2) (by omega) hf).bind fun e ⟨a, b, he, ha, hb⟩ => ?_
    subst he
    simp only [itsD_tup, optS_some, bindS_okS]
    refine (Ok.loop [a, b] fun d hd => ?_).bind fun c hc => ?_
    · have hd : nice d = true := by
        simp only [List.mem_cons, List.not_mem_nil, or_false] at hd
        rcases hd with rfl | rfl
        · exact ha
        · exact hb
      simp only [ask d hd, liftU_ok, toTr_bind, toTr_okS, truD_bl, optS_some, bindS_okS, Bool.not_true, cond_false]
      exact Ok.pure rfl
    · subst hc
      simp only [ctlS_nx, toTr_bind, bindS_bindS]
      refine (odd_ok (by omega) (by omega) hf).bind fun o ho => ?_
      simp only [ask o ho, liftU_ok, toTr_okS, truD_bl, optS_some, bindS_okS, Bool.not_true, cond_false]
      exact Ok.pure rfl
  · subst hc
    simp only [ctlS_nx]
    simp only [bindS_okS, bindS_bindS, tup1, tup2, optS_some, negD_int]
    have e1 : tupO [D.tup [D.int 2], D.int 1, D.tup [D.tup [D.tup [D.int 0], D.tup [D.int (-1)]]]] = some one := rfl
    have e2 : mulD (D.tup [D.tup [D.int 0]]) (D.int 6) = some six := rfl
    have e3 : mulD (D.tup [six]) (D.int 2) = some (.tup [six, six]) := rfl
    have e4 : tupO [D.tup [D.int 2, D.int 3], D.int 1, .tup [six, six]] = some pair := rfl
    have e5 : ∀ a b c : D, tupO [a, b, c] = some (.tup [a, b, c]) := fun a b c => tupN [a, b, c] (by simp)
    simp only [e1, e2, e3, e4, optS_some, bindS_okS]
    simp only [e5, optS_some, bindS_okS]
    have e6 : ∀ l : List D, l.length ≤ 1000 → lenOk l = some l := fun l h => if_pos (by have := sizeLine_ge; omega)
    rw [e6 _ (by simp)]
    simp only [optS_some, bindS_okS, itsD_fl]
    refine (Ok.loop _ fun d hd => ?_).bind fun c hc => ?_
    · simp only [List.mem_cons, List.not_mem_nil, or_false] at hd
      rcases hd with rfl | rfl | rfl | rfl | rfl | rfl | rfl
      · exact turn (h_one rfl rfl) rfl rfl
      · exact turn (h_one rfl rfl) rfl rfl
      · exact turn (h_one (by decide +kernel) rfl) rfl rfl
      · exact turn (h_pair (by decide +kernel) rfl) rfl rfl
      · exact turn (h_pair (by decide +kernel) rfl) rfl rfl
      · exact turn (h_pair (by decide +kernel) rfl) rfl rfl
      · exact turn (h_pair (by decide +kernel) rfl) rfl rfl
    · subst hc
      have a1 : f__law_heard [pair, .tup [.str "far", .str "whole"]] = .ok (.tup [.str "step", .str "foresight"]) () := h_pair (by decide +kernel) rfl
      have a2 : f__law_heard [one, .tup [.int 13, .int 0]] = .ok (.tup [.str "step", .str "foresight"]) () := h_one rfl rfl
      have a3 : f__law_same 4 [.tup [.str "step", .str "foresight"], .tup [.str "step", .str "foresight"]] = .ok (.bl true) () := same4 rfl
      simp only [ctlS_nx, a1, a2, a3, liftU_ok, bindS_okS, toB_bl, cond_true]
      exact Ok.pure rfl
end Lw
end
section
set_option maxHeartbeats 4000000
/-! the proofs (printed by gen2.py) -/
namespace Lw
open PySem L2 DL FL
def top (i : Nat) : Stmt := PySem.Challenge.pw_foresightenough_k14_foresights.main.body.getD i (.Pass ⟨0, 0, 0, 0⟩)
structure Txt (mg : Str → Option Value) : Prop where
  abs : mg "abs" = none
  all : mg "all" = none
  bool : mg "bool" = none
  enumerate : mg "enumerate" = none
  int : mg "int" = none
  isinstance : mg "isinstance" = none
  len : mg "len" = none
  list : mg "list" = none
  min : mg "min" = none
  range : mg "range" = none
  str : mg "str" = none
  tuple : mg "tuple" = none
  zip : mg "zip" = none
  FORESIGHT_MOST : ∃ t, mg "FORESIGHT_MOST" = some (.int 9999 t)
  POSITIONS_MOST : ∃ t, mg "POSITIONS_MOST" = some (.int 8192 t)
  STANDS_MOST : ∃ t, mg "STANDS_MOST" = some (.int 512 t)
structure Exs (P : Program) (w : World) (K : PySem.W.Frag) (mg : Str → Option Value) (base : Heap) : Prop where
  isa : IsaOk K mg isa_
  x_BadStep : ExcOk P w K mg base "BadStep" ["word"]
  m_BadStep : ∃ c, mg "BadStep" = some (.ref c)
  m_FarError : ∃ c, mg "FarError" = some (.ref c)
  xf_word : ∀ x ∈ (["BadStep"] : List Str), ∃ Cc, mg x = some (.ref Cc) ∧ XfC K Cc ∧ PySem.W.findIn K (.ref Cc) "word" = some none
abbrev s_many_stands : Stmt := top 8
abbrev s_is_integer : Stmt := top 10
abbrev s_is_number : Stmt := top 11
abbrev s_is_tuple_of : Stmt := top 12
abbrev s_is_far_amount : Stmt := top 14
abbrev s_is_foresight : Stmt := top 15
abbrev s_kind_of : Stmt := top 16
abbrev s_long_streams : Stmt := top 17
abbrev s_is_within_bounds : Stmt := top 18
abbrev s_check_foresight : Stmt := top 19
abbrev s__law_tower : Stmt := top 21
abbrev s__law_peal : Stmt := top 22
abbrev s__law_machine : Stmt := top 23
abbrev s__law_number : Stmt := top 24
abbrev s__law_word : Stmt := top 25
abbrev s__law_is : Stmt := top 26
abbrev s__law_count : Stmt := top 27
abbrev s__law_foresight : Stmt := top 28
abbrev s__law_edge : Stmt := top 29
abbrev s__law_odd : Stmt := top 30
abbrev s__law_same : Stmt := top 31
abbrev s__law_heard : Stmt := top 32
abbrev s__law_asked : Stmt := top 33
abbrev s_law : Stmt := top 34
def kV_0 : List V → List V → List V
  | [], [w0, w1] => [w1, w0]
  | _, _ => []
def kU_0 : List Value → List Value → List Value
  | [], [w0, w1] => [w1, w0]
  | _, _ => []
theorem kb_0 {K : PySem.W.Frag} {f : Addr} {fd : FuncData} (F : Fun K "is_foresight" "is_foresight" s_is_foresight f fd) : KBinds K fd ["machine", "thing"] ["thing", "machine"] kU_0 kV_0 where
  to := fun s us ws _ hl => by
    obtain ⟨oc, od, kV, doc, pm, an, cdv, ct, osl, rfl, _, _⟩ := F.ex
    rcases us with _ | ⟨a0, _⟩ <;> rcases ws with _ | ⟨b0, (_ | ⟨b1, (_ | ⟨b2, _⟩)⟩)⟩ <;> first | (cases hl; done) | exact .of_eq rfl
  rel := fun {vs us zs ws} a b => by
    rcases a with _ | ⟨r0, _ | ⟨r1, _ | ⟨r2, a⟩⟩⟩ <;> rcases b with _ | ⟨q0, _ | ⟨q1, _ | ⟨q2, b⟩⟩⟩ <;> first | exact .nil | exact .cons (by assumption) .nil | (refine .cons (by assumption) (.cons (by assumption) .nil)) | skip
theorem kbo_0 : OrdOk kV_0 kD_0 := fun K H vs ds ws es a b => by
    rcases a with _ | ⟨r0, _ | ⟨r1, _ | ⟨r2, a⟩⟩⟩ <;> rcases b with _ | ⟨q0, _ | ⟨q1, _ | ⟨q2, b⟩⟩⟩ <;> first | exact .nil | exact .cons (by assumption) .nil | (refine .cons (by assumption) (.cons (by assumption) .nil)) | skip
def kV_1 : List V → List V → List V
  | [], [w0] => [w0]
  | _, _ => []
def kU_1 : List Value → List Value → List Value
  | [], [w0] => [w0]
  | _, _ => []
theorem kb_1 {K : PySem.W.Frag} {f : Addr} {fd : FuncData} (F : Fun K "long_streams" "long_streams" s_long_streams f fd) : KBinds K fd ["foresight"] ["foresight"] kU_1 kV_1 where
  to := fun s us ws _ hl => by
    obtain ⟨oc, od, kV, doc, pm, an, cdv, ct, osl, rfl, _, _⟩ := F.ex
    rcases us with _ | ⟨a0, _⟩ <;> rcases ws with _ | ⟨b0, (_ | ⟨b1, _⟩)⟩ <;> first | (cases hl; done) | exact .of_eq rfl
  rel := fun {vs us zs ws} a b => by
    rcases a with _ | ⟨r0, _ | ⟨r1, _ | ⟨r2, a⟩⟩⟩ <;> rcases b with _ | ⟨q0, _ | ⟨q1, _ | ⟨q2, b⟩⟩⟩ <;> first | exact .nil | exact .cons (by assumption) .nil | (refine .cons (by assumption) (.cons (by assumption) .nil)) | skip
theorem kbo_1 : OrdOk kV_1 kD_1 := fun K H vs ds ws es a b => by
    rcases a with _ | ⟨r0, _ | ⟨r1, _ | ⟨r2, a⟩⟩⟩ <;> rcases b with _ | ⟨q0, _ | ⟨q1, _ | ⟨q2, b⟩⟩⟩ <;> first | exact .nil | exact .cons (by assumption) .nil | (refine .cons (by assumption) (.cons (by assumption) .nil)) | skip
theorem sc_many_stands : FnScope N_many_stands ["sizes", "states", "foresight"] (defScope s_many_stands) := ⟨rfl, rfl, rfl, by decide +kernel, rfl, by decide +kernel, by decide +kernel⟩
theorem bd_many_stands {K : PySem.W.Frag} {f : Addr} {fd : FuncData} (F : Fun K "many_stands" "many_stands" s_many_stands f fd) : Binds K fd ["sizes", "states", "foresight"] [] := F.binds fun _ _ _ _ _ _ us hl => match us, hl with | [_, _, _], _ => rfl
theorem ok_many_stands {P : Program} {w : World} {K : PySem.W.Frag} {mg : Str → Option Value} {base : Heap} {f : Addr} {fd : FuncData} (T : Txt mg) (F : Fun K "many_stands" "many_stands" s_many_stands f fd) : FnOk P w K mg base (L2.CX P w) (0 + 1) f fd ["sizes", "states", "foresight"] (toSp K (spP mg f_many_stands)) := by
  refine okF F sc_many_stands (fun ds h => by
    unfold f_many_stands
    split
    · exact absurd rfl h
    · rfl) fun cdv A outer s H E C W hr hp tk rz ds hl => ?_
  match ds, hl with
  | [d0_, d1_, d2_], _ => exact ⟨_, c_many_stands d0_ d1_ d2_, fsetLc 3 (own := [("amount", 6)]) rfl sc_many_stands.nd ((fiseq (fv 2)).ip) (show blkC N_many_stands (defScope s_many_stands) _ _ = true by decide +kernel) (fun _ _ _ _ _ => pgN 6 sc_many_stands.nd) (fun _ _ _ _ _ d33 => gn 6 (lcp (ftsone (fttru (fisi (T := "str") (fv 6) (by rfl) T.isinstance PyProof.Rows.boot_isinstance (by rfl) T.str PySem.Pv.boot_str))) (fv 6))) (fun l1 => ffrz 3 (fset 4 sc_many_stands.nd (fv 1) (fun d2 => ffor (own := [5, 6]) (fun (st8 : D) => [none, none, none, some (.val (.fl l1)), some (.val st8), none, none, none]) d2 hp rfl (fizip (by rfl) T.zip (facons (fv 0) (facons (fv 2) (fanil)))) (pg_tl rfl (pgs_cons (pgN 5 sc_many_stands.nd) (pgs_cons (pgN 6 sc_many_stands.nd) (pgs_nil)))) (fun st8 d9 => gt2 fun d10 d11 => gsc (gn 5 (gsc (gn 6 (gsn (fifE (ftnot (fttru (fisi (T := "str") (fv 6) (by rfl) T.isinstance PyProof.Rows.boot_isinstance (by rfl) T.str PySem.Pv.boot_str))) (ffor (own := [7]) (fun (st21 : D) => [none, none, none, some (.val (.fl l1)), some (.val st21), some (.val d10), none, none]) st8 hp rfl (firange1 (by rfl) T.range (facons (fif (fttru (fv 3)) (fv 6) (faddA o_add i_add (fv 6) (fint))) (fanil))) (pgN 7 sc_many_stands.nd) (fun st21 d22 => gn 7 (faug 4 sc_many_stands.nd q_mul (fv 5) (fun d24 => fnil ⟨d24, ⟨rfl, ⟨rfl, ⟨rfl, trivial⟩⟩⟩, rfl⟩))) (fun st25 => fnil ⟨st25, ⟨rfl, ⟨rfl, trivial⟩⟩, rfl⟩) ⟨rfl, ⟨rfl, ⟨rfl, trivial⟩⟩⟩) (fnil ⟨st8, ⟨rfl, ⟨rfl, trivial⟩⟩, rfl⟩))))))) (fun st28 => fret1 (fv 4)) ⟨rfl, ⟨rfl, trivial⟩⟩))), rfl⟩
theorem sc_is_integer : FnScope N_is_integer ["thing"] (defScope s_is_integer) := ⟨rfl, rfl, rfl, by decide +kernel, rfl, by decide +kernel, by decide +kernel⟩
theorem bd_is_integer {K : PySem.W.Frag} {f : Addr} {fd : FuncData} (F : Fun K "is_integer" "is_integer" s_is_integer f fd) : Binds K fd ["thing"] [] := F.binds fun _ _ _ _ _ _ us hl => match us, hl with | [_], _ => rfl
theorem ok_is_integer {P : Program} {w : World} {K : PySem.W.Frag} {mg : Str → Option Value} {base : Heap} {f : Addr} {fd : FuncData} (T : Txt mg) (F : Fun K "is_integer" "is_integer" s_is_integer f fd) : FnOk P w K mg base (L2.CX P w) (0 + 1) f fd ["thing"] (toSp K (spP mg f_is_integer)) := by
  refine okF F sc_is_integer (fun ds h => by
    unfold f_is_integer
    split
    · exact absurd rfl h
    · rfl) fun cdv A outer s H E C W hr hp tk rz ds hl => ?_
  match ds, hl with
  | [d0_], _ => exact ⟨_, c_is_integer d0_, fret1 (fand (fisi (T := "int") (fv 0) (by rfl) T.isinstance PyProof.Rows.boot_isinstance (by rfl) T.int PySem.Pv.boot_int) (fone (fnot (fisi (T := "bool") (fv 0) (by rfl) T.isinstance PyProof.Rows.boot_isinstance (by rfl) T.bool PySem.Pv.boot_bool)))), rfl⟩
theorem sc_is_number : FnScope N_is_number ["thing"] (defScope s_is_number) := ⟨rfl, rfl, rfl, by decide +kernel, rfl, by decide +kernel, by decide +kernel⟩
theorem bd_is_number {K : PySem.W.Frag} {f : Addr} {fd : FuncData} (F : Fun K "is_number" "is_number" s_is_number f fd) : Binds K fd ["thing"] [] := F.binds fun _ _ _ _ _ _ us hl => match us, hl with | [_], _ => rfl
theorem ok_is_number {P : Program} {w : World} {K : PySem.W.Frag} {mg : Str → Option Value} {base : Heap} {f : Addr} {fd : FuncData} (T : Txt mg) (F : Fun K "is_number" "is_number" s_is_number f fd) (C_is_integer : CalX P w K mg base 1 "is_integer" s_is_integer ["thing"] (spP mg f_is_integer)) : FnOk P w K mg base (L2.CX P w) (1 + 1) f fd ["thing"] (toSp K (spP mg f_is_number)) := by
  obtain ⟨a_is_integer, b_is_integer, G_is_integer, F_is_integer, m_is_integer, k_is_integer⟩ := C_is_integer
  have bi_is_integer := bd_is_integer F_is_integer
  refine okF F sc_is_number (fun ds h => by
    unfold f_is_number
    split
    · exact absurd rfl h
    · rfl) fun cdv A outer s H E C W hr hp tk rz ds hl => ?_
  match ds, hl with
  | [d0_], _ => exact ⟨_, c_is_number d0_, fret1 (fand (fcall G_is_integer rz (hr.mono (by decide)) (by rfl) m_is_integer k_is_integer bi_is_integer (facons (fv 0) (fanil))) (fone (fcmp o_ge i_ge (fv 0) (fint)))), rfl⟩
theorem sc_is_tuple_of : FnScope N_is_tuple_of ["thing", "many"] (defScope s_is_tuple_of) := ⟨rfl, rfl, rfl, by decide +kernel, rfl, by decide +kernel, by decide +kernel⟩
theorem bd_is_tuple_of {K : PySem.W.Frag} {f : Addr} {fd : FuncData} (F : Fun K "is_tuple_of" "is_tuple_of" s_is_tuple_of f fd) : Binds K fd ["thing", "many"] [] := F.binds fun _ _ _ _ _ _ us hl => match us, hl with | [_, _], _ => rfl
theorem ok_is_tuple_of {P : Program} {w : World} {K : PySem.W.Frag} {mg : Str → Option Value} {base : Heap} {f : Addr} {fd : FuncData} (T : Txt mg) (F : Fun K "is_tuple_of" "is_tuple_of" s_is_tuple_of f fd) : FnOk P w K mg base (L2.CX P w) (0 + 1) f fd ["thing", "many"] (toSp K (spP mg f_is_tuple_of)) := by
  refine okF F sc_is_tuple_of (fun ds h => by
    unfold f_is_tuple_of
    split
    · exact absurd rfl h
    · rfl) fun cdv A outer s H E C W hr hp tk rz ds hl => ?_
  match ds, hl with
  | [d0_, d1_], _ => exact ⟨_, c_is_tuple_of d0_ d1_, fret1 (fand (fisi (T := "tuple") (fv 0) (by rfl) T.isinstance PyProof.Rows.boot_isinstance (by rfl) T.tuple PySem.Pv.boot_tuple) (fone (fcmp (o_eq hr.units) i_eq (fcallB c_len j_len (by rfl) T.len PySem.boot_len (facons (fv 0) (fanil))) (fv 1)))), rfl⟩
theorem sc_is_far_amount : FnScope N_is_far_amount ["thing"] (defScope s_is_far_amount) := ⟨rfl, rfl, rfl, by decide +kernel, rfl, by decide +kernel, by decide +kernel⟩
theorem bd_is_far_amount {K : PySem.W.Frag} {f : Addr} {fd : FuncData} (F : Fun K "is_far_amount" "is_far_amount" s_is_far_amount f fd) : Binds K fd ["thing"] [] := F.binds fun _ _ _ _ _ _ us hl => match us, hl with | [_], _ => rfl
theorem ok_is_far_amount {P : Program} {w : World} {K : PySem.W.Frag} {mg : Str → Option Value} {base : Heap} {f : Addr} {fd : FuncData} (T : Txt mg) (F : Fun K "is_far_amount" "is_far_amount" s_is_far_amount f fd) (C_is_number : CalX P w K mg base 2 "is_number" s_is_number ["thing"] (spP mg f_is_number)) : FnOk P w K mg base (L2.CX P w) (2 + 1) f fd ["thing"] (toSp K (spP mg f_is_far_amount)) := by
  obtain ⟨a_is_number, b_is_number, G_is_number, F_is_number, m_is_number, k_is_number⟩ := C_is_number
  have bi_is_number := bd_is_number F_is_number
  obtain ⟨t_FORESIGHT_MOST, g_FORESIGHT_MOST⟩ := T.FORESIGHT_MOST
  refine okF F sc_is_far_amount (fun ds h => by
    unfold f_is_far_amount
    split
    · exact absurd rfl h
    · rfl) fun cdv A outer s H E C W hr hp tk rz ds hl => ?_
  match ds, hl with
  | [d0_], _ => exact ⟨_, c_is_far_amount d0_, fifX (fttru (fisi (T := "str") (fv 0) (by rfl) T.isinstance PyProof.Rows.boot_isinstance (by rfl) T.str PySem.Pv.boot_str)) (fret1 (fcmp (o_inF (hu65 hr)) i_in (fv 0) (ftup (facons (fstr) (facons (fstr) (fanil)))))) (fret1 (fand (fcall G_is_number rz (hr.mono (by decide)) (by rfl) m_is_number k_is_number bi_is_number (facons (fv 0) (fanil))) (fone (fcmp o_le i_le (fv 0) (fglobI (by rfl) g_FORESIGHT_MOST))))), rfl⟩
theorem sc_is_foresight : FnScope N_is_foresight ["machine", "thing"] (defScope s_is_foresight) := ⟨rfl, rfl, rfl, by decide +kernel, rfl, by decide +kernel, by decide +kernel⟩
theorem bd_is_foresight {K : PySem.W.Frag} {f : Addr} {fd : FuncData} (F : Fun K "is_foresight" "is_foresight" s_is_foresight f fd) : Binds K fd ["machine", "thing"] [] := F.binds fun _ _ _ _ _ _ us hl => match us, hl with | [_, _], _ => rfl
theorem ok_is_foresight {P : Program} {w : World} {K : PySem.W.Frag} {mg : Str → Option Value} {base : Heap} {f : Addr} {fd : FuncData} (T : Txt mg) (F : Fun K "is_foresight" "is_foresight" s_is_foresight f fd) (GT : GenTab K base mg fd) (C_is_tuple_of : CalX P w K mg base 1 "is_tuple_of" s_is_tuple_of ["thing", "many"] (spP mg f_is_tuple_of)) (C_is_far_amount : CalX P w K mg base 3 "is_far_amount" s_is_far_amount ["thing"] (spP mg f_is_far_amount)) : FnOk P w K mg base (L2.CX P w) (4 + 1) f fd ["machine", "thing"] (toSp K (spP mg f_is_foresight)) := by
  obtain ⟨a_is_tuple_of, b_is_tuple_of, G_is_tuple_of, F_is_tuple_of, m_is_tuple_of, k_is_tuple_of⟩ := C_is_tuple_of
  have bi_is_tuple_of := bd_is_tuple_of F_is_tuple_of
  obtain ⟨a_is_far_amount, b_is_far_amount, G_is_far_amount, F_is_far_amount, m_is_far_amount, k_is_far_amount⟩ := C_is_far_amount
  have bi_is_far_amount := bd_is_far_amount F_is_far_amount
  refine okGF F GT sc_is_foresight (fun ds h => by
    unfold f_is_foresight
    split
    · exact absurd rfl h
    · rfl) fun cc Pt A outer s H E C W TB TO hr hp tk rz ds hl => ?_
  match ds, hl with
  | [d0_, d1_], _ => exact ⟨_, c_is_foresight d0_ d1_, fifX ((fwor (ftnot (fttru (fcall G_is_tuple_of rz (hr.mono (by decide)) (by rfl) m_is_tuple_of k_is_tuple_of bi_is_tuple_of (facons (fv 1) (facons (fcallB c_len j_len (by rfl) T.len PySem.boot_len (facons (fix i_ix (fv 0) (fint)) (fanil))) (fanil)))))) (fwor1 (ftnot (fttru (fgen_all (own := [2]) (k := 3) (hr.mono (by decide)) (by rfl) T.all TB TO rfl (show genC N_is_foresight (defScope s_is_foresight) _ _ = true by decide +kernel) ((fiseq (fv 1)).ip) (fun _ _ _ _ _ _ hr => pgN 2 sc_is_foresight.nd) (fun _ _ _ _ _ _ hr d13 => gn 2 (agp (fcall G_is_far_amount rz0 (hr.mono (by decide)) (by rfl) m_is_far_amount k_is_far_amount bi_is_far_amount (facons (fv 2) (fanil)))))))))).pt) (fret1 (fbl)) (fret1 (for' (fcmp (o_notinF (hu65 hr)) i_notin (fstr) (fv 1)) (fone (fcmp (o_notinF (hu65 hr)) i_notin (fstr) (fv 1))))), rfl⟩
theorem sc_kind_of : FnScope N_kind_of ["foresight"] (defScope s_kind_of) := ⟨rfl, rfl, rfl, by decide +kernel, rfl, by decide +kernel, by decide +kernel⟩
theorem bd_kind_of {K : PySem.W.Frag} {f : Addr} {fd : FuncData} (F : Fun K "kind_of" "kind_of" s_kind_of f fd) : Binds K fd ["foresight"] [] := F.binds fun _ _ _ _ _ _ us hl => match us, hl with | [_], _ => rfl
theorem ok_kind_of {P : Program} {w : World} {K : PySem.W.Frag} {mg : Str → Option Value} {base : Heap} {f : Addr} {fd : FuncData} (T : Txt mg) (F : Fun K "kind_of" "kind_of" s_kind_of f fd) : FnOk P w K mg base (L2.CX P w) (0 + 1) f fd ["foresight"] (toSp K (spP mg f_kind_of)) := by
  refine okF F sc_kind_of (fun ds h => by
    unfold f_kind_of
    split
    · exact absurd rfl h
    · rfl) fun cdv A outer s H E C W hr hp tk rz ds hl => ?_
  match ds, hl with
  | [d0_], _ => exact ⟨_, c_kind_of d0_, fforX (own := [1]) (fun (st7 : Unit) => [some (.val d0_), none]) () hp rfl (fiseq (ftup (facons (fstr) (facons (fstr) (fanil))))) (pgN 1 sc_kind_of.nd) (fun st7 d8 => gn 1 (fifE (ftcmp (o_inF (hu65 hr)) i_in (fv 1) (fv 0)) (fret1 (fv 1)) (fnil ⟨(), ⟨rfl, trivial⟩, rfl⟩))) (fun st13 => fret1 (fstr)) (fun _ => rfl) ⟨rfl, trivial⟩, rfl⟩
theorem sc_long_streams : FnScope N_long_streams ["foresight"] (defScope s_long_streams) := ⟨rfl, rfl, rfl, by decide +kernel, rfl, by decide +kernel, by decide +kernel⟩
theorem bd_long_streams {K : PySem.W.Frag} {f : Addr} {fd : FuncData} (F : Fun K "long_streams" "long_streams" s_long_streams f fd) : Binds K fd ["foresight"] [] := F.binds fun _ _ _ _ _ _ us hl => match us, hl with | [_], _ => rfl
theorem ok_long_streams {P : Program} {w : World} {K : PySem.W.Frag} {mg : Str → Option Value} {base : Heap} {f : Addr} {fd : FuncData} (T : Txt mg) (F : Fun K "long_streams" "long_streams" s_long_streams f fd) : FnOk P w K mg base (L2.CX P w) (0 + 1) f fd ["foresight"] (toSp K (spP mg f_long_streams)) := by
  refine okF F sc_long_streams (fun ds h => by
    unfold f_long_streams
    split
    · exact absurd rfl h
    · rfl) fun cdv A outer s H E C W hr hp tk rz ds hl => ?_
  match ds, hl with
  | [d0_], _ => exact ⟨_, c_long_streams d0_, fret1 (fcallTy c_tuple j_tuple (by rfl) T.tuple PySem.Pv.boot_tuple (facons (ffl (flc (own := [("stream", 1), ("amount", 2)]) rfl sc_long_streams.nd ((fienum (by rfl) T.enumerate (facons (fv 0) (fanil))).ip) (show blkC N_long_streams (defScope s_long_streams) _ _ = true by decide +kernel) (fun _ _ _ _ _ => pg_tl rfl (pgs_cons (pgN 1 sc_long_streams.nd) (pgs_cons (pgN 2 sc_long_streams.nd) (pgs_nil)))) (fun _ _ _ _ _ d4 => gt2 fun d5 d6 => gsc (gn 1 (gsc (gn 2 (gsn (lcp (ftsone (fttru (fisi (T := "str") (fv 2) (by rfl) T.isinstance PyProof.Rows.boot_isinstance (by rfl) T.str PySem.Pv.boot_str))) (fv 1))))))))) (fanil))), rfl⟩
theorem sc_is_within_bounds : FnScope N_is_within_bounds ["machine", "foresight"] (defScope s_is_within_bounds) := ⟨rfl, rfl, rfl, by decide +kernel, rfl, by decide +kernel, by decide +kernel⟩
theorem bd_is_within_bounds {K : PySem.W.Frag} {f : Addr} {fd : FuncData} (F : Fun K "is_within_bounds" "is_within_bounds" s_is_within_bounds f fd) : Binds K fd ["machine", "foresight"] [] := F.binds fun _ _ _ _ _ _ us hl => match us, hl with | [_, _], _ => rfl
theorem ok_is_within_bounds {P : Program} {w : World} {K : PySem.W.Frag} {mg : Str → Option Value} {base : Heap} {f : Addr} {fd : FuncData} (T : Txt mg) (F : Fun K "is_within_bounds" "is_within_bounds" s_is_within_bounds f fd) (C_many_stands : CalX P w K mg base 1 "many_stands" s_many_stands ["sizes", "states", "foresight"] (spP mg f_many_stands)) (C_kind_of : CalX P w K mg base 1 "kind_of" s_kind_of ["foresight"] (spP mg f_kind_of)) : FnOk P w K mg base (L2.CX P w) (1 + 1) f fd ["machine", "foresight"] (toSp K (spP mg f_is_within_bounds)) := by
  obtain ⟨a_many_stands, b_many_stands, G_many_stands, F_many_stands, m_many_stands, k_many_stands⟩ := C_many_stands
  have bi_many_stands := bd_many_stands F_many_stands
  obtain ⟨a_kind_of, b_kind_of, G_kind_of, F_kind_of, m_kind_of, k_kind_of⟩ := C_kind_of
  have bi_kind_of := bd_kind_of F_kind_of
  obtain ⟨t_POSITIONS_MOST, g_POSITIONS_MOST⟩ := T.POSITIONS_MOST
  obtain ⟨t_STANDS_MOST, g_STANDS_MOST⟩ := T.STANDS_MOST
  refine okF F sc_is_within_bounds (fun ds h => by
    unfold f_is_within_bounds
    split
    · exact absurd rfl h
    · rfl) fun cdv A outer s H E C W hr hp tk rz ds hl => ?_
  match ds, hl with
  | [d0_, d1_], _ => exact ⟨_, c_is_within_bounds d0_ d1_, fset 2 sc_is_within_bounds.nd (fcall G_many_stands rz (hr.mono (by decide)) (by rfl) m_many_stands k_many_stands bi_many_stands (facons (fix i_ix (fv 0) (fint)) (facons (fcallB c_len j_len (by rfl) T.len PySem.boot_len (facons (fix i_ix (fv 0) (fint)) (fanil))) (facons (fv 1) (fanil))))) (fun d15 => fret1 (fcmp o_le i_le (fv 2) (fif (ftcmp (o_eq hr.units) i_eq (fcall G_kind_of rz (hr.mono (by decide)) (by rfl) m_kind_of k_kind_of bi_kind_of (facons (fv 1) (fanil))) (fstr)) (fglobI (by rfl) g_POSITIONS_MOST) (fglobI (by rfl) g_STANDS_MOST)))), rfl⟩
theorem sc_check_foresight : FnScope N_check_foresight ["machine", "thing"] (defScope s_check_foresight) := ⟨rfl, rfl, rfl, by decide +kernel, rfl, by decide +kernel, by decide +kernel⟩
theorem bd_check_foresight {K : PySem.W.Frag} {f : Addr} {fd : FuncData} (F : Fun K "check_foresight" "check_foresight" s_check_foresight f fd) : Binds K fd ["machine", "thing"] [] := F.binds fun _ _ _ _ _ _ us hl => match us, hl with | [_, _], _ => rfl
theorem ok_check_foresight {P : Program} {w : World} {K : PySem.W.Frag} {mg : Str → Option Value} {base : Heap} {f : Addr} {fd : FuncData} (T : Txt mg) (XX : Exs P w K mg base) (F : Fun K "check_foresight" "check_foresight" s_check_foresight f fd) (C_is_foresight : CalX P w K mg base 5 "is_foresight" s_is_foresight ["machine", "thing"] (spP mg f_is_foresight)) (C_is_within_bounds : CalX P w K mg base 2 "is_within_bounds" s_is_within_bounds ["machine", "foresight"] (spP mg f_is_within_bounds)) (C_many_stands : CalX P w K mg base 1 "many_stands" s_many_stands ["sizes", "states", "foresight"] (spP mg f_many_stands)) : FnOk P w K mg base (L2.CX P w) (5 + 1) f fd ["machine", "thing"] (toSp K (spP mg f_check_foresight)) := by
  obtain ⟨a_is_foresight, b_is_foresight, G_is_foresight, F_is_foresight, m_is_foresight, k_is_foresight⟩ := C_is_foresight
  have bi_is_foresight := bd_is_foresight F_is_foresight
  obtain ⟨a_is_within_bounds, b_is_within_bounds, G_is_within_bounds, F_is_within_bounds, m_is_within_bounds, k_is_within_bounds⟩ := C_is_within_bounds
  have bi_is_within_bounds := bd_is_within_bounds F_is_within_bounds
  obtain ⟨a_many_stands, b_many_stands, G_many_stands, F_many_stands, m_many_stands, k_many_stands⟩ := C_many_stands
  have bi_many_stands := bd_many_stands F_many_stands
  refine okF F sc_check_foresight (fun ds h => by
    unfold f_check_foresight
    split
    · exact absurd rfl h
    · rfl) fun cdv A outer s H E C W hr hp tk rz ds hl => ?_
  match ds, hl with
  | [d0_, d1_], _ => exact ⟨_, c_check_foresight d0_ d1_, fifX (ftnot (fttru (fcall G_is_foresight rz (hr.mono (by decide)) (by rfl) m_is_foresight k_is_foresight bi_is_foresight (facons (fv 0) (facons (fv 1) (fanil)))))) (fraise XX.x_BadStep tk rz (hr.mono (by decide)) rfl (by rfl) (facons (fstr) (fanil))) (fifX (ftnot (fttru (fcall G_is_within_bounds rz (hr.mono (by decide)) (by rfl) m_is_within_bounds k_is_within_bounds bi_is_within_bounds (facons (fv 0) (facons (fv 1) (fanil)))))) (fraise XX.x_BadStep tk rz (hr.mono (by decide)) rfl (by rfl) (facons (fstr) (fanil))) (fret1 (fcall G_many_stands rz (hr.mono (by decide)) (by rfl) m_many_stands k_many_stands bi_many_stands (facons (fix i_ix (fv 0) (fint)) (facons (fcallB c_len j_len (by rfl) T.len PySem.boot_len (facons (fix i_ix (fv 0) (fint)) (fanil))) (facons (fv 1) (fanil))))))), rfl⟩
theorem sc__law_tower : FnScope N__law_tower ["script"] (defScope s__law_tower) := ⟨rfl, rfl, rfl, by decide +kernel, rfl, by decide +kernel, by decide +kernel⟩
theorem bd__law_tower {K : PySem.W.Frag} {f : Addr} {fd : FuncData} (F : Fun K "_law_tower" "_law_tower" s__law_tower f fd) : Binds K fd ["script"] [] := F.binds fun _ _ _ _ _ _ us hl => match us, hl with | [_], _ => rfl
theorem ok__law_tower {P : Program} {w : World} {K : PySem.W.Frag} {mg : Str → Option Value} {base : Heap} {f : Addr} {fd : FuncData} (T : Txt mg) (F : Fun K "_law_tower" "_law_tower" s__law_tower f fd) : FnOk P w K mg base (L2.CX P w) (0 + 1) f fd ["script"] (toSp K (spN .lst 4 0 mg f__law_tower)) := by
  refine okF0 F sc__law_tower (fun ds h => by
    unfold f__law_tower
    split
    · exact absurd rfl h
    · rfl) fun cdv A outer s H E C W hr hp tk rz ds hl => ?_
  match ds, hl with
  | [d0_], _ => exact ⟨_, c__law_tower d0_, fparO 1 2 rfl sc__law_tower.nd (flst (fanil)) (fint) (fun l2 d3 => ffor (own := [3]) (fun (st13 : List D × D) => [none, some (.own (.lst st13.1)), some (.val st13.2), none, none, none]) (l2, d3) hp rfl (fiseq (fslA (ffl (fcallTyL c_list j_list (by rfl) T.list PySem.Pv.boot_list (facons (fv 0) (fanil)))) (fpno) (fpsome (fint)))) (pgN 3 sc__law_tower.nd) (fun st13 d14 => gn 3 (fset 4 sc__law_tower.nd (fop o_mod i_mod (fcallB c_abs j_abs (by rfl) T.abs PyProof.Rows.boot_abs (facons (fcallTy c_int j_int (by rfl) T.int PySem.Pv.boot_int (facons (fv 3) (fanil))) (fanil))) (fop o_shl i_shl (fint) (fint))) (fun d25 => fset 2 sc__law_tower.nd (fop o_mod i_mod (fcallTy c_int j_int (by rfl) T.int PySem.Pv.boot_int (facons (faddA o_add i_add (faddA o_add i_add (fop o_mul i_mul (fv 2) (fint)) (fop o_mod i_mod (fv 4) (fint))) (fop o_mul i_mul (fint) (fcallTy c_int j_int (by rfl) T.int PySem.Pv.boot_int (facons (fcmp o_lt i_lt (fv 3) (fint)) (fanil))))) (fanil))) (fint)) (fun d46 => fexprM (flm 1 PySem.F.plainAttrs_list PySem.F.slot_list_append PySem.F.type_list_append m_append mm_app (facons (fop o_mod i_mod (fcallTy c_int j_int (by rfl) T.int PySem.Pv.boot_int (facons (faddA o_add i_add (fv 4) (fop o_mod i_mod (fv 2) (fint))) (fanil))) (fint)) (fanil))) (fun z59 => ffor (own := [5]) (fun (st63 : List D × D) => [none, some (.own (.lst st63.1)), some (.val d46), none, some (.val st63.2), none]) (z59.2, d25) hp rfl (firange1 (by rfl) T.range (facons (fint) (fanil))) (pgN 5 sc__law_tower.nd) (fun st63 d64 => gn 5 (fset 4 sc__law_tower.nd (fop o_fdiv i_fdiv (fv 4) (fint)) (fun d67 => fifE (ftcmp o_gt i_gt (fv 4) (fint)) (fexprM (flm 1 PySem.F.plainAttrs_list PySem.F.slot_list_append PySem.F.type_list_append m_append mm_app (facons (fop o_mod i_mod (fcallTy c_int j_int (by rfl) T.int PySem.Pv.boot_int (facons (fv 4) (fanil))) (fint)) (fanil))) (fun z79 => fnil ⟨(z79.2, d67), ⟨rfl, ⟨rfl, ⟨rfl, trivial⟩⟩⟩, rfl⟩)) (fnil ⟨(st63.1, d67), ⟨rfl, ⟨rfl, ⟨rfl, trivial⟩⟩⟩, rfl⟩)))) (fun st80 => fnil ⟨(st80.1, d46), ⟨rfl, ⟨rfl, trivial⟩⟩, rfl⟩) ⟨rfl, ⟨rfl, ⟨rfl, trivial⟩⟩⟩))))) (fun st83 => fretI 1 (facons (fint) (facons (fv 2) (facons (fop o_mod i_mod (fcallTy c_int j_int (by rfl) T.int PySem.Pv.boot_int (facons (fop o_fdiv i_fdiv (fv 2) (fint)) (fanil))) (fint)) (fanil))))) ⟨rfl, ⟨rfl, trivial⟩⟩), rfl⟩
theorem sc__law_peal : FnScope N__law_peal ["tower", "many", "place"] (defScope s__law_peal) := ⟨rfl, rfl, rfl, by decide +kernel, rfl, by decide +kernel, by decide +kernel⟩
theorem bd__law_peal {K : PySem.W.Frag} {f : Addr} {fd : FuncData} (F : Fun K "_law_peal" "_law_peal" s__law_peal f fd) : Binds K fd ["tower", "many", "place"] [] := F.binds fun _ _ _ _ _ _ us hl => match us, hl with | [_, _, _], _ => rfl
theorem ok__law_peal {P : Program} {w : World} {K : PySem.W.Frag} {mg : Str → Option Value} {base : Heap} {f : Addr} {fd : FuncData} (T : Txt mg) (F : Fun K "_law_peal" "_law_peal" s__law_peal f fd) : FnOk P w K mg base (L2.CX P w) (0 + 1) f fd ["tower", "many", "place"] (toSp K (spI (zP .lst 4 0) mg f__law_peal)) := by
  refine okFI F sc__law_peal (fun ds s h => by
    unfold f__law_peal
    split
    · exact absurd rfl h
    · rfl) fun cdv A outer s H E C W a_ b_ hab hz hr hp tk rz ds hl => ?_
  match ds, hl with
  | [d1_, d2_], _ => exact ⟨_, c__law_peal d1_ d2_, fstS 0 1 hab hz (faddA o_add i_add (fstG 0 1 hz) (fint)) (fifJ (fun (st7 : D) => [some (.val (.ref a_)), some (.val d1_), some (.val d2_), some (.val st7)]) .non (fun st7 => fifX (ftcmp (o_eq hr.units) i_eq (fstG 0 3 hz) (fv 2)) (fret1 (fint)) (fret1 (fif (ftcmp (o_eq hr.units) i_eq (fstG 0 3 hz) (faddA o_add i_add (fv 2) (fint))) (fop o_sub i_sub (fv 1) (fint)) (fop o_mod i_mod (fcallTy c_int j_int (by rfl) T.int PySem.Pv.boot_int (facons (fv 3) (fanil))) (fv 1))))) (ftcmp o_le i_le (fstG 0 1 hz) (fstLen hab hz (by rfl) T.len (fstB 0 hz))) (fun j8 => fset 3 sc__law_peal.nd (fstIx hab hz (fstB 0 hz) (fop o_sub i_sub (fstG 0 1 hz) (fint))) (fun d29 => fnil ⟨d29, ⟨rfl, ⟨rfl, ⟨rfl, ⟨rfl, trivial⟩⟩⟩⟩, rfl⟩)) (fun j8 => fstS 0 2 hab hz (fop o_mod i_mod (fcallTy c_int j_int (by rfl) T.int PySem.Pv.boot_int (facons (faddA o_add i_add (fop o_mul i_mul (fstG 0 2 hz) (fint)) (fstG 0 1 hz)) (fanil))) (fint)) (fset 3 sc__law_peal.nd (fop o_fdiv i_fdiv (fstG 0 2 hz) (fint)) (fun d42 => fnil ⟨d42, ⟨rfl, ⟨rfl, ⟨rfl, ⟨rfl, trivial⟩⟩⟩⟩, rfl⟩)))), fun _ => rfl⟩
theorem sc__law_machine : FnScope N__law_machine ["tower"] (defScope s__law_machine) := ⟨rfl, rfl, rfl, by decide +kernel, rfl, by decide +kernel, by decide +kernel⟩
theorem bd__law_machine {K : PySem.W.Frag} {f : Addr} {fd : FuncData} (F : Fun K "_law_machine" "_law_machine" s__law_machine f fd) : Binds K fd ["tower"] [] := F.binds fun _ _ _ _ _ _ us hl => match us, hl with | [_], _ => rfl
theorem ok__law_machine {P : Program} {w : World} {K : PySem.W.Frag} {mg : Str → Option Value} {base : Heap} {f : Addr} {fd : FuncData} (T : Txt mg) (F : Fun K "_law_machine" "_law_machine" s__law_machine f fd) (C__law_peal : CalX P w K mg base 1 "_law_peal" s__law_peal ["tower", "many", "place"] (spI (zP .lst 4 0) mg f__law_peal)) : FnOk P w K mg base (L2.CX P w) (1 + 1) f fd ["tower"] (toSp K (spI (zP .lst 4 0) mg f__law_machine)) := by
  obtain ⟨a__law_peal, b__law_peal, G__law_peal, F__law_peal, m__law_peal, k__law_peal⟩ := C__law_peal
  have bi__law_peal := bd__law_peal F__law_peal
  refine okFI F sc__law_machine (fun ds s h => by
    unfold f__law_machine
    split
    · exact absurd rfl h
    · rfl) fun cdv A outer s H E C W a_ b_ hab hz hr hp tk rz ds hl => ?_
  match ds, hl with
  | [], _ => exact ⟨_, c__law_machine , fset 1 sc__law_machine.nd (faddA o_add i_add (fint) (fcallI 0 G__law_peal rz (hr.mono (by decide)) (by rfl) m__law_peal k__law_peal bi__law_peal hab hz (facons (fint) (facons (fint) (fanil))))) (fun d7 => fset 2 sc__law_machine.nd (fcallTy c_tuple j_tuple (by rfl) T.tuple PySem.Pv.boot_tuple (facons (ffl (flc (own := [("at", 12)]) rfl sc__law_machine.nd ((firange1 (by rfl) T.range (facons (fv 1) (fanil))).ip) (show blkC N__law_machine (defScope s__law_machine) _ _ = true by decide +kernel) (fun _ _ _ _ _ => pgN 12 sc__law_machine.nd) (fun _ _ _ _ _ d11 => gn 12 (lcp0 (faddA o_add i_add (fint) (fcallI 0 G__law_peal rz0 (hr.mono (by decide)) (by rfl) m__law_peal k__law_peal bi__law_peal hab hz (facons (fint) (facons (fint) (fanil))))))))) (fanil))) (fun d24 => fset 3 sc__law_machine.nd (faddA o_add i_add (fint) (fcallI 0 G__law_peal rz (hr.mono (by decide)) (by rfl) m__law_peal k__law_peal bi__law_peal hab hz (facons (fint) (facons (fint) (fanil))))) (fun d31 => fset 4 sc__law_machine.nd (fix i_ix (ftup (facons (fint) (facons (fint) (facons (fint) (facons (fint) (facons (fint) (facons (fint) (facons (fint) (facons (faddA o_add i_add (fint) (fcallI 0 G__law_peal rz (hr.mono (by decide)) (by rfl) m__law_peal k__law_peal bi__law_peal hab hz (facons (fint) (facons (fint) (fanil))))) (fanil)))))))))) (fcallI 0 G__law_peal rz (hr.mono (by decide)) (by rfl) m__law_peal k__law_peal bi__law_peal hab hz (facons (fint) (facons (fint) (fanil))))) (fun d61 => fset 5 sc__law_machine.nd (fint) (fun d62 => ffor (own := [6]) (fun (st64 : D) => [some (.val (.ref a_)), none, some (.val d24), some (.val d31), some (.val d61), some (.val st64), none, none, none, none, none, none, none, none]) d62 hp rfl (fiseq (fv 2)) (pgN 6 sc__law_machine.nd) (fun st64 d65 => gn 6 (fset 5 sc__law_machine.nd (fop o_mul i_mul (fv 5) (fv 6)) (fun d68 => fnil ⟨d68, ⟨rfl, ⟨rfl, ⟨rfl, ⟨rfl, ⟨rfl, trivial⟩⟩⟩⟩⟩, rfl⟩))) (fun st69 => fset 7 sc__law_machine.nd (faddA o_add i_add (fint) (fcallI 0 G__law_peal rz (hr.mono (by decide)) (by rfl) m__law_peal k__law_peal bi__law_peal hab hz (facons (fint) (facons (fint) (fanil))))) (fun d76 => fsetO 8 sc__law_machine.nd (flst (fanil)) (fun l77 => ffor (own := [9]) (fun (st81 : List D) => [none, none, some (.val d24), some (.val d31), some (.val d61), some (.val st69), none, some (.val d76), some (.own (.lst st81)), none, none, none, none, none]) l77 hp rfl (firange1 (by rfl) T.range (facons (fv 4) (fanil))) (pgN 9 sc__law_machine.nd) (fun st81 d82 => gn 9 (fsetO 10 sc__law_machine.nd (flst (fanil)) (fun l83 => ffor (own := [11]) (fun (st87 : List D) => [none, none, some (.val d24), some (.val d31), some (.val d61), some (.val st69), none, some (.val d76), some (.own (.lst st81)), some (.val d82), some (.own (.lst st87)), none, none, none]) l83 hp rfl (firange1 (by rfl) T.range (facons (fv 5) (fanil))) (pgN 11 sc__law_machine.nd) (fun st87 d88 => gn 11 (fexprM (flm 10 PySem.F.plainAttrs_list PySem.F.slot_list_append PySem.F.type_list_append m_append mm_app (facons (fcallTy c_tuple j_tuple (by rfl) T.tuple PySem.Pv.boot_tuple (facons (ffl (flc (own := [("deed", 13)]) rfl sc__law_machine.nd ((firange1 (by rfl) T.range (facons (fv 3) (fanil))).ip) (show blkC N__law_machine (defScope s__law_machine) _ _ = true by decide +kernel) (fun _ _ _ _ _ => pgN 13 sc__law_machine.nd) (fun _ _ _ _ _ d92 => gn 13 (lcp0 (fif (ftcmp (o_eq hr.units) i_eq (fop o_mod i_mod (fcallTy c_int j_int (by rfl) T.int PySem.Pv.boot_int (facons (faddA o_add i_add (faddA o_add i_add (fv 9) (fv 11)) (fv 13)) (fanil))) (fint)) (fint)) (fneg (fint)) (fop o_mod i_mod (fcallTy c_int j_int (by rfl) T.int PySem.Pv.boot_int (facons (faddA o_add i_add (faddA o_add i_add (fop o_mul i_mul (fv 9) (fv 7)) (fv 11)) (fv 13)) (fanil))) (fv 4))))))) (fanil))) (fanil))) (fun z126 => fnil ⟨z126.2, ⟨rfl, ⟨rfl, ⟨rfl, ⟨rfl, ⟨rfl, ⟨rfl, ⟨rfl, ⟨rfl, trivial⟩⟩⟩⟩⟩⟩⟩⟩, rfl⟩))) (fun st127 => fexprM (flm 8 PySem.F.plainAttrs_list PySem.F.slot_list_append PySem.F.type_list_append m_append mm_app (facons (fcallTyO 10 c_tuple jo_tuple (by rfl) T.tuple PySem.Pv.boot_tuple) (fanil))) (fun z131 => fnil ⟨z131.2, ⟨rfl, ⟨rfl, ⟨rfl, ⟨rfl, ⟨rfl, ⟨rfl, trivial⟩⟩⟩⟩⟩⟩, rfl⟩)) ⟨rfl, ⟨rfl, ⟨rfl, ⟨rfl, ⟨rfl, ⟨rfl, ⟨rfl, ⟨rfl, trivial⟩⟩⟩⟩⟩⟩⟩⟩))) (fun st135 => fret1 (ftup (facons (fv 2) (facons (fv 3) (facons (fcallTyO 8 c_tuple jo_tuple (by rfl) T.tuple PySem.Pv.boot_tuple) (fanil)))))) ⟨rfl, ⟨rfl, ⟨rfl, ⟨rfl, ⟨rfl, ⟨rfl, trivial⟩⟩⟩⟩⟩⟩))) ⟨rfl, ⟨rfl, ⟨rfl, ⟨rfl, ⟨rfl, trivial⟩⟩⟩⟩⟩))))), fun _ => rfl⟩
theorem sc__law_number : FnScope N__law_number ["thing", "bound"] (defScope s__law_number) := ⟨rfl, rfl, rfl, by decide +kernel, rfl, by decide +kernel, by decide +kernel⟩
theorem bd__law_number {K : PySem.W.Frag} {f : Addr} {fd : FuncData} (F : Fun K "_law_number" "_law_number" s__law_number f fd) : Binds K fd ["thing", "bound"] [] := F.binds fun _ _ _ _ _ _ us hl => match us, hl with | [_, _], _ => rfl
theorem ok__law_number {P : Program} {w : World} {K : PySem.W.Frag} {mg : Str → Option Value} {base : Heap} {f : Addr} {fd : FuncData} (T : Txt mg) (F : Fun K "_law_number" "_law_number" s__law_number f fd) : FnOk P w K mg base (L2.CX P w) (0 + 1) f fd ["thing", "bound"] (toSp K (spP mg f__law_number)) := by
  refine okF F sc__law_number (fun ds h => by
    unfold f__law_number
    split
    · exact absurd rfl h
    · rfl) fun cdv A outer s H E C W hr hp tk rz ds hl => ?_
  match ds, hl with
  | [d0_, d1_], _ => exact ⟨_, c__law_number d0_ d1_, fret1 (fand (fisi (T := "int") (fv 0) (by rfl) T.isinstance PyProof.Rows.boot_isinstance (by rfl) T.int PySem.Pv.boot_int) (fand (fnot (fisi (T := "bool") (fv 0) (by rfl) T.isinstance PyProof.Rows.boot_isinstance (by rfl) T.bool PySem.Pv.boot_bool)) (fone (fchain o_le i_le o_le i_le (fint) (fv 0) (fv 1))))), rfl⟩
theorem sc__law_word : FnScope N__law_word ["thing", "word"] (defScope s__law_word) := ⟨rfl, rfl, rfl, by decide +kernel, rfl, by decide +kernel, by decide +kernel⟩
theorem bd__law_word {K : PySem.W.Frag} {f : Addr} {fd : FuncData} (F : Fun K "_law_word" "_law_word" s__law_word f fd) : Binds K fd ["thing", "word"] [] := F.binds fun _ _ _ _ _ _ us hl => match us, hl with | [_, _], _ => rfl
theorem ok__law_word {P : Program} {w : World} {K : PySem.W.Frag} {mg : Str → Option Value} {base : Heap} {f : Addr} {fd : FuncData} (T : Txt mg) (F : Fun K "_law_word" "_law_word" s__law_word f fd) : FnOk P w K mg base (L2.CX P w) (0 + 1) f fd ["thing", "word"] (toSp K (spP mg f__law_word)) := by
  refine okF F sc__law_word (fun ds h => by
    unfold f__law_word
    split
    · exact absurd rfl h
    · rfl) fun cdv A outer s H E C W hr hp tk rz ds hl => ?_
  match ds, hl with
  | [d0_, d1_], _ => exact ⟨_, c__law_word d0_ d1_, fret1 (fand (fisi (T := "str") (fv 0) (by rfl) T.isinstance PyProof.Rows.boot_isinstance (by rfl) T.str PySem.Pv.boot_str) (fone (fcmp (o_eq hr.units) i_eq (fv 0) (fv 1)))), rfl⟩
theorem sc__law_is : FnScope N__law_is ["machine", "thing"] (defScope s__law_is) := ⟨rfl, rfl, rfl, by decide +kernel, rfl, by decide +kernel, by decide +kernel⟩
theorem bd__law_is {K : PySem.W.Frag} {f : Addr} {fd : FuncData} (F : Fun K "_law_is" "_law_is" s__law_is f fd) : Binds K fd ["machine", "thing"] [] := F.binds fun _ _ _ _ _ _ us hl => match us, hl with | [_, _], _ => rfl
theorem ok__law_is {P : Program} {w : World} {K : PySem.W.Frag} {mg : Str → Option Value} {base : Heap} {f : Addr} {fd : FuncData} (T : Txt mg) (F : Fun K "_law_is" "_law_is" s__law_is f fd) (C__law_number : CalX P w K mg base 1 "_law_number" s__law_number ["thing", "bound"] (spP mg f__law_number)) (C__law_word : CalX P w K mg base 1 "_law_word" s__law_word ["thing", "word"] (spP mg f__law_word)) : FnOk P w K mg base (L2.CX P w) (1 + 1) f fd ["machine", "thing"] (toSp K (spP mg f__law_is)) := by
  obtain ⟨a__law_number, b__law_number, G__law_number, F__law_number, m__law_number, k__law_number⟩ := C__law_number
  have bi__law_number := bd__law_number F__law_number
  obtain ⟨a__law_word, b__law_word, G__law_word, F__law_word, m__law_word, k__law_word⟩ := C__law_word
  have bi__law_word := bd__law_word F__law_word
  refine okF F sc__law_is (fun ds h => by
    unfold f__law_is
    split
    · exact absurd rfl h
    · rfl) fun cdv A outer s H E C W hr hp tk rz ds hl => ?_
  match ds, hl with
  | [d0_, d1_], _ => exact ⟨_, c__law_is d0_ d1_, fifX ((fwor (ftnot (fttru (fisi (T := "tuple") (fv 1) (by rfl) T.isinstance PyProof.Rows.boot_isinstance (by rfl) T.tuple PySem.Pv.boot_tuple))) (fwor1 (ftcmp (o_ne hr.units) i_ne (fcallB c_len j_len (by rfl) T.len PySem.boot_len (facons (fv 1) (fanil))) (fcallB c_len j_len (by rfl) T.len PySem.boot_len (facons (fix i_ix (fv 0) (fint)) (fanil)))))).pt) (fret1 (fbl)) (fforX (own := [2]) (fun (st17 : Unit) => [none, some (.val d1_), none]) () hp rfl (fiseq (fv 1)) (pgN 2 sc__law_is.nd) (fun st17 d18 => gn 2 (fifE ((fwand (ftnot (fttru (fcall G__law_number rz (hr.mono (by decide)) (by rfl) m__law_number k__law_number bi__law_number (facons (fv 2) (facons (fint) (fanil)))))) (fwand (ftnot (fttru (fcall G__law_word rz (hr.mono (by decide)) (by rfl) m__law_word k__law_word bi__law_word (facons (fv 2) (facons (fstr) (fanil)))))) (fwand1 (ftnot (fttru (fcall G__law_word rz (hr.mono (by decide)) (by rfl) m__law_word k__law_word bi__law_word (facons (fv 2) (facons (fstr) (fanil))))))))).pt) (fret1 (fbl)) (fnil ⟨(), ⟨rfl, trivial⟩, rfl⟩))) (fun st41 => fret1 (fnot (fand (fcmp (o_inF (hu65 hr)) i_in (fstr) (fv 1)) (fone (fcmp (o_inF (hu65 hr)) i_in (fstr) (fv 1)))))) (fun _ => rfl) ⟨rfl, trivial⟩), rfl⟩
theorem sc__law_count : FnScope N__law_count ["machine", "foresight"] (defScope s__law_count) := ⟨rfl, rfl, rfl, by decide +kernel, rfl, by decide +kernel, by decide +kernel⟩
theorem bd__law_count {K : PySem.W.Frag} {f : Addr} {fd : FuncData} (F : Fun K "_law_count" "_law_count" s__law_count f fd) : Binds K fd ["machine", "foresight"] [] := F.binds fun _ _ _ _ _ _ us hl => match us, hl with | [_, _], _ => rfl
theorem ok__law_count {P : Program} {w : World} {K : PySem.W.Frag} {mg : Str → Option Value} {base : Heap} {f : Addr} {fd : FuncData} (T : Txt mg) (F : Fun K "_law_count" "_law_count" s__law_count f fd) : FnOk P w K mg base (L2.CX P w) (0 + 1) f fd ["machine", "foresight"] (toSp K (spP mg f__law_count)) := by
  refine okF F sc__law_count (fun ds h => by
    unfold f__law_count
    split
    · exact absurd rfl h
    · rfl) fun cdv A outer s H E C W hr hp tk rz ds hl => ?_
  match ds, hl with
  | [d0_, d1_], _ => exact ⟨_, c__law_count d0_ d1_, fset 2 sc__law_count.nd (fcmp o_gt i_gt (fcallB c_len j_len (by rfl) T.len PySem.boot_len (facons (ffl (flc (own := [("amount", 6)]) rfl sc__law_count.nd ((fiseq (fv 1)).ip) (show blkC N__law_count (defScope s__law_count) _ _ = true by decide +kernel) (fun _ _ _ _ _ => pgN 6 sc__law_count.nd) (fun _ _ _ _ _ d2 => gn 6 (lcp (ftsone (fttru (fisi (T := "str") (fv 6) (by rfl) T.isinstance PyProof.Rows.boot_isinstance (by rfl) T.str PySem.Pv.boot_str))) (fint))))) (fanil))) (fint)) (fun d13 => fpar 3 4 rfl sc__law_count.nd (fif (fttru (fv 2)) (fint) (fint)) (fcallB c_len j_len (by rfl) T.len PySem.boot_len (facons (fix i_ix (fv 0) (fint)) (fanil))) (fun d20 d21 => ffor (own := [5]) (fun (st28 : D) => [some (.val d0_), some (.val d1_), some (.val d13), some (.val d20), some (.val st28), none, none, none]) d21 hp rfl (firange1 (by rfl) T.range (facons (fcallB c_len j_len (by rfl) T.len PySem.boot_len (facons (fv 1) (fanil))) (fanil))) (pgN 5 sc__law_count.nd) (fun st28 d29 => gn 5 (fset 6 sc__law_count.nd (fix i_ix (fv 1) (fv 5)) (fun d32 => fifE (ftnot (fttru (fisi (T := "str") (fv 6) (by rfl) T.isinstance PyProof.Rows.boot_isinstance (by rfl) T.str PySem.Pv.boot_str))) (ffor (own := [7]) (fun (st50 : D) => [some (.val d0_), some (.val d1_), some (.val d13), some (.val d20), some (.val st50), some (.val d29), none, none]) st28 hp rfl (firange1 (by rfl) T.range (facons (fcallB (c_minF rfl) j_of (by rfl) T.min PyProof.Rows.boot_min (facons (faddA o_add i_add (fv 6) (fcallTy c_int j_int (by rfl) T.int PySem.Pv.boot_int (facons (fnot (fv 2)) (fanil)))) (facons (fint) (fanil)))) (fanil))) (pgN 7 sc__law_count.nd) (fun st50 d51 => gn 7 (fset 4 sc__law_count.nd (fop o_mul i_mul (fv 4) (fix i_ix (fix i_ix (fv 0) (fint)) (fv 5))) (fun d58 => fnil ⟨d58, ⟨rfl, ⟨rfl, ⟨rfl, ⟨rfl, ⟨rfl, ⟨rfl, trivial⟩⟩⟩⟩⟩⟩, rfl⟩))) (fun st59 => fnil ⟨st59, ⟨rfl, ⟨rfl, ⟨rfl, ⟨rfl, ⟨rfl, trivial⟩⟩⟩⟩⟩, rfl⟩) ⟨rfl, ⟨rfl, ⟨rfl, ⟨rfl, ⟨rfl, ⟨rfl, trivial⟩⟩⟩⟩⟩⟩) (fnil ⟨st28, ⟨rfl, ⟨rfl, ⟨rfl, ⟨rfl, ⟨rfl, trivial⟩⟩⟩⟩⟩, rfl⟩)))) (fun st62 => fret1 (fif (ftcmp o_le i_le (fv 4) (fv 3)) (fv 4) (fnon))) ⟨rfl, ⟨rfl, ⟨rfl, ⟨rfl, ⟨rfl, trivial⟩⟩⟩⟩⟩)), rfl⟩
theorem sc__law_foresight : FnScope N__law_foresight ["tower", "machine"] (defScope s__law_foresight) := ⟨rfl, rfl, rfl, by decide +kernel, rfl, by decide +kernel, by decide +kernel⟩
theorem bd__law_foresight {K : PySem.W.Frag} {f : Addr} {fd : FuncData} (F : Fun K "_law_foresight" "_law_foresight" s__law_foresight f fd) : Binds K fd ["tower", "machine"] [] := F.binds fun _ _ _ _ _ _ us hl => match us, hl with | [_, _], _ => rfl
theorem ok__law_foresight {P : Program} {w : World} {K : PySem.W.Frag} {mg : Str → Option Value} {base : Heap} {f : Addr} {fd : FuncData} (T : Txt mg) (F : Fun K "_law_foresight" "_law_foresight" s__law_foresight f fd) (C__law_peal : CalX P w K mg base 1 "_law_peal" s__law_peal ["tower", "many", "place"] (spI (zP .lst 4 0) mg f__law_peal)) : FnOk P w K mg base (L2.CX P w) (1 + 1) f fd ["tower", "machine"] (toSp K (spI (zP .lst 4 0) mg f__law_foresight)) := by
  obtain ⟨a__law_peal, b__law_peal, G__law_peal, F__law_peal, m__law_peal, k__law_peal⟩ := C__law_peal
  have bi__law_peal := bd__law_peal F__law_peal
  refine okFI F sc__law_foresight (fun ds s h => by
    unfold f__law_foresight
    split
    · exact absurd rfl h
    · rfl) fun cdv A outer s H E C W a_ b_ hab hz hr hp tk rz ds hl => ?_
  match ds, hl with
  | [d1_], _ => exact ⟨_, c__law_foresight d1_, fpar 2 3 rfl sc__law_foresight.nd (fcallB c_len j_len (by rfl) T.len PySem.boot_len (facons (fix i_ix (fv 1) (fint)) (fanil))) (fcallI 0 G__law_peal rz (hr.mono (by decide)) (by rfl) m__law_peal k__law_peal bi__law_peal hab hz (facons (fint) (facons (fint) (fanil)))) (fun d10 d11 => fset 4 sc__law_foresight.nd (fix i_ix (ftup (facons (fstr) (facons (fstr) (fanil)))) (fcallI 0 G__law_peal rz (hr.mono (by decide)) (by rfl) m__law_peal k__law_peal bi__law_peal hab hz (facons (fint) (facons (fint) (fanil))))) (fun d23 => fsetO 5 sc__law_foresight.nd (flst (fanil)) (fun l24 => ffor (own := [6]) (fun (st28 : List D) => [some (.val (.ref a_)), none, some (.val d10), some (.val d11), some (.val d23), some (.own (.lst st28)), none, none]) l24 hp rfl (firange1 (by rfl) T.range (facons (fv 2) (fanil))) (pgN 6 sc__law_foresight.nd) (fun st28 d29 => gn 6 (fset 7 sc__law_foresight.nd (fcallI 0 G__law_peal rz (hr.mono (by decide)) (by rfl) m__law_peal k__law_peal bi__law_peal hab hz (facons (fint) (facons (fint) (fanil)))) (fun d34 => fexprM (flm 5 PySem.F.plainAttrs_list PySem.F.slot_list_append PySem.F.type_list_append m_append mm_app (facons (fif ((fwand (ftcmp o_lt i_lt (fv 7) (fint)) (fwand1 (ftcmp (o_ne hr.units) i_ne (fv 3) (fint)))).pt) (fv 4) (fif (ftcmp o_gt i_gt (fv 7) (fint)) (fix i_ix (ftup (facons (fint) (facons (fint) (facons (fint) (facons (fint) (fanil)))))) (fop o_sub i_sub (fv 7) (fint))) (fint))) (fanil))) (fun z60 => fnil ⟨z60.2, ⟨rfl, ⟨rfl, ⟨rfl, ⟨rfl, ⟨rfl, trivial⟩⟩⟩⟩⟩, rfl⟩)))) (fun st61 => fifJ (fun (st65 : List D) => [none, none, none, none, none, some (.own (.lst st65)), none, none]) [] (fun st65 => fret1 (fcallTyO 5 c_tuple jo_tuple (by rfl) T.tuple PySem.Pv.boot_tuple)) (ftcmp (o_eq hr.units) i_eq (fv 3) (fint)) (fun j66 => fsetI 5 (fix i_ix (ftup (facons (fint) (facons (fint) (facons (fint) (facons (fint) (facons (fint) (fanil))))))) (fcallI 0 G__law_peal rz (hr.mono (by decide)) (by rfl) m__law_peal k__law_peal bi__law_peal hab hz (facons (fint) (facons (fint) (fanil))))) (fcallI 0 G__law_peal rz (hr.mono (by decide)) (by rfl) m__law_peal k__law_peal bi__law_peal hab hz (facons (fv 2) (facons (fint) (fanil)))) (fun l91 => fnil ⟨l91, ⟨rfl, trivial⟩, rfl⟩)) (fun j66 => fnil ⟨st61, ⟨rfl, trivial⟩, rfl⟩)) ⟨rfl, ⟨rfl, ⟨rfl, ⟨rfl, ⟨rfl, trivial⟩⟩⟩⟩⟩))), fun _ => rfl⟩
theorem sc__law_edge : FnScope N__law_edge ["tower", "machine", "foresight"] (defScope s__law_edge) := ⟨rfl, rfl, rfl, by decide +kernel, rfl, by decide +kernel, by decide +kernel⟩
theorem bd__law_edge {K : PySem.W.Frag} {f : Addr} {fd : FuncData} (F : Fun K "_law_edge" "_law_edge" s__law_edge f fd) : Binds K fd ["tower", "machine", "foresight"] [] := F.binds fun _ _ _ _ _ _ us hl => match us, hl with | [_, _, _], _ => rfl
theorem ok__law_edge {P : Program} {w : World} {K : PySem.W.Frag} {mg : Str → Option Value} {base : Heap} {f : Addr} {fd : FuncData} (T : Txt mg) (F : Fun K "_law_edge" "_law_edge" s__law_edge f fd) (C__law_peal : CalX P w K mg base 1 "_law_peal" s__law_peal ["tower", "many", "place"] (spI (zP .lst 4 0) mg f__law_peal)) (C__law_count : CalX P w K mg base 1 "_law_count" s__law_count ["machine", "foresight"] (spP mg f__law_count)) : FnOk P w K mg base (L2.CX P w) (1 + 1) f fd ["tower", "machine", "foresight"] (toSp K (spI (zP .lst 4 0) mg f__law_edge)) := by
  obtain ⟨a__law_peal, b__law_peal, G__law_peal, F__law_peal, m__law_peal, k__law_peal⟩ := C__law_peal
  have bi__law_peal := bd__law_peal F__law_peal
  obtain ⟨a__law_count, b__law_count, G__law_count, F__law_count, m__law_count, k__law_count⟩ := C__law_count
  have bi__law_count := bd__law_count F__law_count
  refine okFI F sc__law_edge (fun ds s h => by
    unfold f__law_edge
    split
    · exact absurd rfl h
    · rfl) fun cdv A outer s H E C W a_ b_ hab hz hr hp tk rz ds hl => ?_
  match ds, hl with
  | [d1_, d2_], _ => exact ⟨_, c__law_edge d1_ d2_, fset 3 sc__law_edge.nd (fcallI 0 G__law_peal rz (hr.mono (by decide)) (by rfl) m__law_peal k__law_peal bi__law_peal hab hz (facons (fcallB c_len j_len (by rfl) T.len PySem.boot_len (facons (fv 2) (fanil))) (facons (fint) (fanil)))) (fun d8 => fset 4 sc__law_edge.nd (fnon) (fun d9 => ffor (own := [5]) (fun (st13 : D) => [none, some (.val d1_), some (.val d2_), some (.val d8), some (.val st13), none, none]) d9 hp rfl (firange1 (by rfl) T.range (facons (fint) (fanil))) (pgN 5 sc__law_edge.nd) (fun st13 d14 => gn 5 (fset 6 sc__law_edge.nd (faddA o_add i_add (faddA o_add i_add (fslA (fv 2) (fpno) (fpsome (fv 3))) (ftup (facons (fv 5) (fanil)))) (fslA (fv 2) (fpsome (faddA o_add i_add (fv 3) (fint))) (fpno))) (fun d32 => fifE (ftcmp o_isnot i_isnot (fcall G__law_count rz (hr.mono (by decide)) (by rfl) m__law_count k__law_count bi__law_count (facons (fv 1) (facons (fv 6) (fanil)))) (fnon)) (fset 4 sc__law_edge.nd (fv 6) (fun d41 => fnil ⟨d41, ⟨rfl, ⟨rfl, ⟨rfl, ⟨rfl, trivial⟩⟩⟩⟩, rfl⟩)) (fnil ⟨st13, ⟨rfl, ⟨rfl, ⟨rfl, ⟨rfl, trivial⟩⟩⟩⟩, rfl⟩)))) (fun st42 => fifX (ftcmp o_is i_is (fv 4) (fnon)) (fret1 (ftup (facons (fv 2) (facons (fv 2) (fanil))))) (fret1 (ftup (facons (fv 4) (facons (faddA o_add i_add (faddA o_add i_add (fslA (fv 4) (fpno) (fpsome (fv 3))) (ftup (facons (faddA o_add i_add (fix i_ix (fv 4) (fv 3)) (fint)) (fanil)))) (fslA (fv 4) (fpsome (faddA o_add i_add (fv 3) (fint))) (fpno))) (fanil)))))) ⟨rfl, ⟨rfl, ⟨rfl, ⟨rfl, trivial⟩⟩⟩⟩)), fun _ => rfl⟩
theorem sc__law_odd : FnScope N__law_odd ["tower", "machine", "foresight"] (defScope s__law_odd) := ⟨rfl, rfl, rfl, by decide +kernel, rfl, by decide +kernel, by decide +kernel⟩
theorem bd__law_odd {K : PySem.W.Frag} {f : Addr} {fd : FuncData} (F : Fun K "_law_odd" "_law_odd" s__law_odd f fd) : Binds K fd ["tower", "machine", "foresight"] [] := F.binds fun _ _ _ _ _ _ us hl => match us, hl with | [_, _, _], _ => rfl
theorem ok__law_odd {P : Program} {w : World} {K : PySem.W.Frag} {mg : Str → Option Value} {base : Heap} {f : Addr} {fd : FuncData} (T : Txt mg) (F : Fun K "_law_odd" "_law_odd" s__law_odd f fd) (C__law_peal : CalX P w K mg base 1 "_law_peal" s__law_peal ["tower", "many", "place"] (spI (zP .lst 4 0) mg f__law_peal)) : FnOk P w K mg base (L2.CX P w) (1 + 1) f fd ["tower", "machine", "foresight"] (toSp K (spI (zP .lst 4 0) mg f__law_odd)) := by
  obtain ⟨a__law_peal, b__law_peal, G__law_peal, F__law_peal, m__law_peal, k__law_peal⟩ := C__law_peal
  have bi__law_peal := bd__law_peal F__law_peal
  refine okFI F sc__law_odd (fun ds s h => by
    unfold f__law_odd
    split
    · exact absurd rfl h
    · rfl) fun cdv A outer s H E C W a_ b_ hab hz hr hp tk rz ds hl => ?_
  match ds, hl with
  | [d1_, d2_], _ => exact ⟨_, c__law_odd d1_ d2_, fasgG (own := [3, 4]) (ftup (facons (fcallI 0 G__law_peal rz (hr.mono (by decide)) (by rfl) m__law_peal k__law_peal bi__law_peal hab hz (facons (fcallB c_len j_len (by rfl) T.len PySem.boot_len (facons (fv 2) (fanil))) (facons (fint) (fanil)))) (facons (fcallI 0 G__law_peal rz (hr.mono (by decide)) (by rfl) m__law_peal k__law_peal bi__law_peal hab hz (facons (fint) (facons (fint) (fanil)))) (fanil)))) (pg_tl rfl (pgs_cons (pgN 3 sc__law_odd.nd) (pgs_cons (pgN 4 sc__law_odd.nd) (pgs_nil)))) (fun d17 => gt2 fun d18 d19 => gsc (gn 3 (gsc (gn 4 (gsn (fifX (ftcmp (o_eq hr.units) i_eq (fv 4) (fint)) (fret1 (faddA o_add i_add (fv 2) (fix i_ix (ftup (facons (ftup (facons (fint) (fanil))) (facons (ftup (facons (fstr) (fanil))) (facons (ftup (facons (fnon) (fanil))) (fanil))))) (fcallI 0 G__law_peal rz (hr.mono (by decide)) (by rfl) m__law_peal k__law_peal bi__law_peal hab hz (facons (fint) (facons (fint) (fanil))))))) (fifX (ftcmp (o_eq hr.units) i_eq (fv 4) (fint)) (fret1 (fslA (fv 2) (fpsome (fint)) (fpno))) (fifX (ftcmp (o_eq hr.units) i_eq (fv 4) (fint)) (fret1 (ffl (fcallTyL c_list j_list (by rfl) T.list PySem.Pv.boot_list (facons (fv 2) (fanil))))) (fifX (ftcmp (o_eq hr.units) i_eq (fv 4) (fint)) (fret1 (fix i_ix (ftup (facons (fnon) (facons (fint) (facons (fstr) (facons (ftup (fanil)) (facons (fbl) (facons (ffl (flst (fanil))) (facons (fop o_mul i_mul (ftup (facons (fstr) (fanil))) (fint)) (facons (ftup (facons (fstr) (facons (fstr) (facons (fstr) (fanil))))) (fanil)))))))))) (fcallI 0 G__law_peal rz (hr.mono (by decide)) (by rfl) m__law_peal k__law_peal bi__law_peal hab hz (facons (fint) (facons (fint) (fanil)))))) (fifX ((fwand (ftcmp (o_eq hr.units) i_eq (fv 4) (fint)) (fwand1 (ftcmp o_gt i_gt (fcallB c_len j_len (by rfl) T.len PySem.boot_len (facons (fv 2) (fanil))) (fint)))).pt) (fset 6 sc__law_odd.nd (fop o_mod i_mod (fcallTy c_int j_int (by rfl) T.int PySem.Pv.boot_int (facons (faddA o_add i_add (fv 3) (fint)) (fanil))) (fcallB c_len j_len (by rfl) T.len PySem.boot_len (facons (fv 2) (fanil)))) (fun d125 => fret1 (fcallTy c_tuple j_tuple (by rfl) T.tuple PySem.Pv.boot_tuple (facons (ffl (flc (own := [("one", 7)]) rfl sc__law_odd.nd ((firange1 (by rfl) T.range (facons (fcallB c_len j_len (by rfl) T.len PySem.boot_len (facons (fv 2) (fanil))) (fanil))).ip) (show blkC N__law_odd (defScope s__law_odd) _ _ = true by decide +kernel) (fun _ _ _ _ _ => pgN 7 sc__law_odd.nd) (fun _ _ _ _ _ d132 => gn 7 (lcp0 (fif (ftcmp (o_eq hr.units) i_eq (fv 7) (fv 3)) (fstr) (fif (ftcmp (o_eq hr.units) i_eq (fv 7) (fv 6)) (fstr) (fix i_ix (fv 2) (fv 7)))))))) (fanil))))) (fset 5 sc__law_odd.nd (fix i_ix (ftup (facons (fneg (fint)) (facons (fint) (facons (fbl) (facons (fbl) (facons (fnon) (facons (fstr) (facons (fstr) (facons (fstr) (facons (ftup (facons (fint) (fanil))) (facons (ffl (flst (facons (fint) (fanil)))) (facons (fstr) (facons (fop o_pow i_pow (fint) (fint)) (fanil)))))))))))))) (fcallI 0 G__law_peal rz (hr.mono (by decide)) (by rfl) m__law_peal k__law_peal bi__law_peal hab hz (facons (fint) (facons (fint) (fanil))))) (fun d189 => fret1 (faddA o_add i_add (faddA o_add i_add (fslA (fv 2) (fpno) (fpsome (fv 3))) (ftup (facons (fv 5) (fanil)))) (fslA (fv 2) (fpsome (faddA o_add i_add (fv 3) (fint))) (fpno))))))))))))))), fun _ => rfl⟩
theorem sc__law_same : FnScope N__law_same ["told", "due"] (defScope s__law_same) := ⟨rfl, rfl, rfl, by decide +kernel, rfl, by decide +kernel, by decide +kernel⟩
theorem bd__law_same {K : PySem.W.Frag} {f : Addr} {fd : FuncData} (F : Fun K "_law_same" "_law_same" s__law_same f fd) : Binds K fd ["told", "due"] [] := F.binds fun _ _ _ _ _ _ us hl => match us, hl with | [_, _], _ => rfl
theorem ok__law_same {P : Program} {w : World} {K : PySem.W.Frag} {mg : Str → Option Value} {base : Heap} {f : Addr} {fd : FuncData} {n : Nat} {rc : List D → Res Unit D} (T : Txt mg) (F : Fun K "_law_same" "_law_same" s__law_same f fd) (C__law_same : CalX P w K mg base (0 + n) "_law_same" s__law_same ["told", "due"] (spP mg rc)) : FnOk P w K mg base (L2.CX P w) (0 + n + 1) f fd ["told", "due"] (toSp K (spP mg (h__law_same rc))) := by
  obtain ⟨a__law_same, b__law_same, G__law_same, F__law_same, m__law_same, k__law_same⟩ := C__law_same
  have bi__law_same := bd__law_same F__law_same
  refine okF F sc__law_same (fun ds h => by
    unfold h__law_same
    split
    · exact absurd rfl h
    · rfl) fun cdv A outer s H E C W hr hp tk rz ds hl => ?_
  match ds, hl with
  | [d0_, d1_], _ => exact ⟨_, c__law_same rc d0_ d1_, fifX (fttru (fisi (T := "tuple") (fv 1) (by rfl) T.isinstance PyProof.Rows.boot_isinstance (by rfl) T.tuple PySem.Pv.boot_tuple)) (fret1 (fand (fisi (T := "tuple") (fv 0) (by rfl) T.isinstance PyProof.Rows.boot_isinstance (by rfl) T.tuple PySem.Pv.boot_tuple) (fand (fcmp (o_eq hr.units) i_eq (fcallB c_len j_len (by rfl) T.len PySem.boot_len (facons (fv 0) (fanil))) (fcallB c_len j_len (by rfl) T.len PySem.boot_len (facons (fv 1) (fanil)))) (fone (fcmp (o_eq hr.units) i_eq (fcallB c_len j_len (by rfl) T.len PySem.boot_len (facons (ffl (flc (own := [("at", 2)]) rfl sc__law_same.nd ((firange1 (by rfl) T.range (facons (fcallB c_len j_len (by rfl) T.len PySem.boot_len (facons (fv 1) (fanil))) (fanil))).ip) (show blkC N__law_same (defScope s__law_same) _ _ = true by decide +kernel) (fun _ _ _ _ _ => pgN 2 sc__law_same.nd) (fun _ _ _ _ _ d18 => gn 2 (lcp (ftsone (ftnot (fttru (fcall G__law_same rz0 (hr.mono (by omega)) (by rfl) m__law_same k__law_same bi__law_same (facons (fix i_ix (fv 0) (fv 2)) (facons (fix i_ix (fv 1) (fv 2)) (fanil))))))) (fint))))) (fanil))) (fint)))))) (fifX (fttru (fisi (T := "str") (fv 1) (by rfl) T.isinstance PyProof.Rows.boot_isinstance (by rfl) T.str PySem.Pv.boot_str)) (fret1 (fand (fisi (T := "str") (fv 0) (by rfl) T.isinstance PyProof.Rows.boot_isinstance (by rfl) T.str PySem.Pv.boot_str) (fone (fcmp (o_eq hr.units) i_eq (fv 0) (fv 1))))) (fifX (fttru (fisi (T := "bool") (fv 1) (by rfl) T.isinstance PyProof.Rows.boot_isinstance (by rfl) T.bool PySem.Pv.boot_bool)) (fret1 (fand (fisi (T := "bool") (fv 0) (by rfl) T.isinstance PyProof.Rows.boot_isinstance (by rfl) T.bool PySem.Pv.boot_bool) (fone (fcmp (o_eq hr.units) i_eq (fv 0) (fv 1))))) (fret1 (fand (fisi (T := "int") (fv 0) (by rfl) T.isinstance PyProof.Rows.boot_isinstance (by rfl) T.int PySem.Pv.boot_int) (fand (fnot (fisi (T := "bool") (fv 0) (by rfl) T.isinstance PyProof.Rows.boot_isinstance (by rfl) T.bool PySem.Pv.boot_bool)) (fone (fcmp (o_eq hr.units) i_eq (fv 0) (fv 1)))))))), rfl⟩
theorem sc__law_heard : FnScope N__law_heard ["machine", "thing"] (defScope s__law_heard) := ⟨rfl, rfl, rfl, by decide +kernel, rfl, by decide +kernel, by decide +kernel⟩
theorem bd__law_heard {K : PySem.W.Frag} {f : Addr} {fd : FuncData} (F : Fun K "_law_heard" "_law_heard" s__law_heard f fd) : Binds K fd ["machine", "thing"] [] := F.binds fun _ _ _ _ _ _ us hl => match us, hl with | [_, _], _ => rfl
theorem ok__law_heard {P : Program} {w : World} {K : PySem.W.Frag} {mg : Str → Option Value} {base : Heap} {f : Addr} {fd : FuncData} (T : Txt mg) (XX : Exs P w K mg base) (F : Fun K "_law_heard" "_law_heard" s__law_heard f fd) (C_check_foresight : CalX P w K mg base 6 "check_foresight" s_check_foresight ["machine", "thing"] (spP mg f_check_foresight)) : FnOk P w K mg base (L2.CX P w) (6 + 1) f fd ["machine", "thing"] (toSp K (spP mg f__law_heard)) := by
  obtain ⟨a_check_foresight, b_check_foresight, G_check_foresight, F_check_foresight, m_check_foresight, k_check_foresight⟩ := C_check_foresight
  have bi_check_foresight := bd_check_foresight F_check_foresight
  obtain ⟨cc_BadStep, mc_BadStep⟩ := XX.m_BadStep
  obtain ⟨cc_FarError, mc_FarError⟩ := XX.m_FarError
  refine okF F sc__law_heard (fun ds h => by
    unfold f__law_heard
    split
    · exact absurd rfl h
    · rfl) fun cdv A outer s H E C W hr hp tk rz ds hl => ?_
  match ds, hl with
  | [d0_, d1_], _ => exact ⟨_, c__law_heard d0_ d1_, ftry (fun (st1 : Unit) => [none, none, none]) () [none, none, none] sc__law_heard.nd tk rz (fun _ _ => trivial) XX.isa (.as (i := 2) mc_BadStep (by rfl) (by decide) rfl rfl (fun _ => rfl) rfl (fun e13 C_x a_x oe cv d vs pn hCZ hXi hmg hzc hfv hd hm fr rm => ⟨_, fret1 (ftup (facons (fstr) (facons (fexf 2 XX.xf_word hmg hzc hfv hd hm fr rm) (fanil))))⟩) (.cons mc_FarError (by rfl) (by decide) (fun e20 C_x a_x oe cv d vs pn hCZ hXi hmg hzc hfv hd hm fr rm => ⟨_, fret1 (ftup (facons (fstr) (fanil)))⟩) .nil)) (fun C_x W_x pn xe hCZ tk hp rz => ⟨_, fret1 (ftup (facons (fstr) (facons (fcall G_check_foresight rz (hr.mono (by decide)) (by rfl) m_check_foresight k_check_foresight bi_check_foresight (facons (fv 0) (facons (fv 1) (fanil))) (hk := trivial)) (fanil))))⟩) (fun st1 => fnil rfl) (fun _ => rfl), rfl⟩
theorem sc__law_asked : FnScope N__law_asked ["machine", "thing"] (defScope s__law_asked) := ⟨rfl, rfl, rfl, by decide +kernel, rfl, by decide +kernel, by decide +kernel⟩
theorem bd__law_asked {K : PySem.W.Frag} {f : Addr} {fd : FuncData} (F : Fun K "_law_asked" "_law_asked" s__law_asked f fd) : Binds K fd ["machine", "thing"] [] := F.binds fun _ _ _ _ _ _ us hl => match us, hl with | [_, _], _ => rfl
theorem ok__law_asked {P : Program} {w : World} {K : PySem.W.Frag} {mg : Str → Option Value} {base : Heap} {f : Addr} {fd : FuncData} (T : Txt mg) (F : Fun K "_law_asked" "_law_asked" s__law_asked f fd) (C__law_is : CalX P w K mg base 2 "_law_is" s__law_is ["machine", "thing"] (spP mg f__law_is)) (C__law_same : CalX P w K mg base 5 "_law_same" s__law_same ["told", "due"] (spP mg (f__law_same 4))) (C_is_foresight : CalX P w K mg base 5 "is_foresight" s_is_foresight ["machine", "thing"] (spP mg f_is_foresight)) (C__law_count : CalX P w K mg base 1 "_law_count" s__law_count ["machine", "foresight"] (spP mg f__law_count)) (C_kind_of : CalX P w K mg base 1 "kind_of" s_kind_of ["foresight"] (spP mg f_kind_of)) (C_long_streams : CalX P w K mg base 1 "long_streams" s_long_streams ["foresight"] (spP mg f_long_streams)) (C__law_heard : CalX P w K mg base 7 "_law_heard" s__law_heard ["machine", "thing"] (spP mg f__law_heard)) : FnOk P w K mg base (L2.CX P w) (7 + 1) f fd ["machine", "thing"] (toSp K (spP mg f__law_asked)) := by
  obtain ⟨a__law_is, b__law_is, G__law_is, F__law_is, m__law_is, k__law_is⟩ := C__law_is
  have bi__law_is := bd__law_is F__law_is
  obtain ⟨a__law_same, b__law_same, G__law_same, F__law_same, m__law_same, k__law_same⟩ := C__law_same
  have bi__law_same := bd__law_same F__law_same
  obtain ⟨a_is_foresight, b_is_foresight, G_is_foresight, F_is_foresight, m_is_foresight, k_is_foresight⟩ := C_is_foresight
  have bi_is_foresight := bd_is_foresight F_is_foresight
  obtain ⟨a__law_count, b__law_count, G__law_count, F__law_count, m__law_count, k__law_count⟩ := C__law_count
  have bi__law_count := bd__law_count F__law_count
  obtain ⟨a_kind_of, b_kind_of, G_kind_of, F_kind_of, m_kind_of, k_kind_of⟩ := C_kind_of
  have bi_kind_of := bd_kind_of F_kind_of
  obtain ⟨a_long_streams, b_long_streams, G_long_streams, F_long_streams, m_long_streams, k_long_streams⟩ := C_long_streams
  have bi_long_streams := bd_long_streams F_long_streams
  obtain ⟨a__law_heard, b__law_heard, G__law_heard, F__law_heard, m__law_heard, k__law_heard⟩ := C__law_heard
  have bi__law_heard := bd__law_heard F__law_heard
  refine okF F sc__law_asked (fun ds h => by
    unfold f__law_asked
    split
    · exact absurd rfl h
    · rfl) fun cdv A outer s H E C W hr hp tk rz ds hl => ?_
  match ds, hl with
  | [d0_, d1_], _ => exact ⟨_, c__law_asked d0_ d1_, fset 2 sc__law_asked.nd (fcall G__law_is rz (hr.mono (by decide)) (by rfl) m__law_is k__law_is bi__law_is (facons (fv 0) (facons (fv 1) (fanil)))) (fun d6 => fifX (ftnot (fttru (fcall G__law_same rz (hr.mono (by decide)) (by rfl) m__law_same k__law_same bi__law_same (facons (fcallK0 G_is_foresight rz (hr.mono (by decide)) (by rfl) m_is_foresight k_is_foresight (kb_0 F_is_foresight) kbo_0 (fkcons (fv 1) (fkcons (fv 0) (fknil)))) (facons (fv 2) (fanil)))))) (fret1 (fbl)) (fset 3 sc__law_asked.nd (ftup (facons (fstr) (facons (fstr) (fanil)))) (fun d26 => fifJ (fun (st28 : D) => [some (.val d0_), some (.val d1_), none, some (.val st28), none, none, none]) .non (fun st28 => fret1 (fcall G__law_same rz (hr.mono (by decide)) (by rfl) m__law_same k__law_same bi__law_same (facons (fcall G__law_heard rz (hr.mono (by decide)) (by rfl) m__law_heard k__law_heard bi__law_heard (facons (fv 0) (facons (fv 1) (fanil)))) (facons (fv 3) (fanil))))) (fttru (fv 2)) (fun j29 => fset 4 sc__law_asked.nd (fcall G__law_count rz (hr.mono (by decide)) (by rfl) m__law_count k__law_count bi__law_count (facons (fv 0) (facons (fv 1) (fanil)))) (fun d46 => fset 3 sc__law_asked.nd (fif (ftcmp o_is i_is (fv 4) (fnon)) (ftup (facons (fstr) (facons (fstr) (fanil)))) (ftup (facons (fstr) (facons (fv 4) (fanil))))) (fun d60 => fset 5 sc__law_asked.nd (fif (ftcmp (o_inF (hu65 hr)) i_in (fstr) (fv 1)) (fstr) (fif (ftcmp (o_inF (hu65 hr)) i_in (fstr) (fv 1)) (fstr) (fstr))) (fun d67 => fifE ((fwor (ftnot (fttru (fcall G__law_same rz (hr.mono (by decide)) (by rfl) m__law_same k__law_same bi__law_same (facons (fcall G_kind_of rz (hr.mono (by decide)) (by rfl) m_kind_of k_kind_of bi_kind_of (facons (fv 1) (fanil))) (facons (fv 5) (fanil)))))) (fwor1 (ftnot (fttru (fcall G__law_same rz (hr.mono (by decide)) (by rfl) m__law_same k__law_same bi__law_same (facons (fcallK0 G_long_streams rz (hr.mono (by decide)) (by rfl) m_long_streams k_long_streams (kb_1 F_long_streams) kbo_1 (fkcons (fv 1) (fknil))) (facons (fcallTy c_tuple j_tuple (by rfl) T.tuple PySem.Pv.boot_tuple (facons (ffl (flc (own := [("at", 6)]) rfl sc__law_asked.nd ((firange1 (by rfl) T.range (facons (fcallB c_len j_len (by rfl) T.len PySem.boot_len (facons (fv 1) (fanil))) (fanil))).ip) (show blkC N__law_asked (defScope s__law_asked) _ _ = true by decide +kernel) (fun _ _ _ _ _ => pgN 6 sc__law_asked.nd) (fun _ _ _ _ _ d87 => gn 6 (lcp (ftsone (fttru (fisi (T := "str") (fix i_ix (fv 1) (fv 6)) (by rfl) T.isinstance PyProof.Rows.boot_isinstance (by rfl) T.str PySem.Pv.boot_str))) (fv 6))))) (fanil))) (fanil)))))))).pt) (fret1 (fbl)) (fnil ⟨d60, ⟨rfl, ⟨rfl, ⟨rfl, trivial⟩⟩⟩, rfl⟩))))) (fun j29 => fnil ⟨d26, ⟨rfl, ⟨rfl, ⟨rfl, trivial⟩⟩⟩, rfl⟩)))), rfl⟩
theorem sc_law : FnScope N_law ["script"] (defScope s_law) := ⟨rfl, rfl, rfl, by decide +kernel, rfl, by decide +kernel, by decide +kernel⟩
theorem bd_law {K : PySem.W.Frag} {f : Addr} {fd : FuncData} (F : Fun K "law" "law" s_law f fd) : Binds K fd ["script"] [] := F.binds fun _ _ _ _ _ _ us hl => match us, hl with | [_], _ => rfl
theorem ok_law {P : Program} {w : World} {K : PySem.W.Frag} {mg : Str → Option Value} {base : Heap} {f : Addr} {fd : FuncData} (T : Txt mg) (F : Fun K "law" "law" s_law f fd) (C__law_tower : CalX P w K mg base 1 "_law_tower" s__law_tower ["script"] (spN .lst 4 0 mg f__law_tower)) (C__law_machine : CalX P w K mg base 2 "_law_machine" s__law_machine ["tower"] (spI (zP .lst 4 0) mg f__law_machine)) (C__law_foresight : CalX P w K mg base 2 "_law_foresight" s__law_foresight ["tower", "machine"] (spI (zP .lst 4 0) mg f__law_foresight)) (C__law_asked : CalX P w K mg base 8 "_law_asked" s__law_asked ["machine", "thing"] (spP mg f__law_asked)) (C__law_edge : CalX P w K mg base 2 "_law_edge" s__law_edge ["tower", "machine", "foresight"] (spI (zP .lst 4 0) mg f__law_edge)) (C__law_odd : CalX P w K mg base 2 "_law_odd" s__law_odd ["tower", "machine", "foresight"] (spI (zP .lst 4 0) mg f__law_odd)) (C__law_same : CalX P w K mg base 5 "_law_same" s__law_same ["told", "due"] (spP mg (f__law_same 4))) (C__law_heard : CalX P w K mg base 7 "_law_heard" s__law_heard ["machine", "thing"] (spP mg f__law_heard)) (hlaw : ∀ ns : List Int, ns.length ≤ 63 → c_law (.fl (ns.map .int)) () = .ok (.bl true) ()) : FnOk P w K mg base (L2.CX P w) (8 + 1) f fd ["script"] (toSp K spLaw) := by
  obtain ⟨a__law_tower, b__law_tower, G__law_tower, F__law_tower, m__law_tower, k__law_tower⟩ := C__law_tower
  have bi__law_tower := bd__law_tower F__law_tower
  obtain ⟨a__law_machine, b__law_machine, G__law_machine, F__law_machine, m__law_machine, k__law_machine⟩ := C__law_machine
  have bi__law_machine := bd__law_machine F__law_machine
  obtain ⟨a__law_foresight, b__law_foresight, G__law_foresight, F__law_foresight, m__law_foresight, k__law_foresight⟩ := C__law_foresight
  have bi__law_foresight := bd__law_foresight F__law_foresight
  obtain ⟨a__law_asked, b__law_asked, G__law_asked, F__law_asked, m__law_asked, k__law_asked⟩ := C__law_asked
  have bi__law_asked := bd__law_asked F__law_asked
  obtain ⟨a__law_edge, b__law_edge, G__law_edge, F__law_edge, m__law_edge, k__law_edge⟩ := C__law_edge
  have bi__law_edge := bd__law_edge F__law_edge
  obtain ⟨a__law_odd, b__law_odd, G__law_odd, F__law_odd, m__law_odd, k__law_odd⟩ := C__law_odd
  have bi__law_odd := bd__law_odd F__law_odd
  obtain ⟨a__law_same, b__law_same, G__law_same, F__law_same, m__law_same, k__law_same⟩ := C__law_same
  have bi__law_same := bd__law_same F__law_same
  obtain ⟨a__law_heard, b__law_heard, G__law_heard, F__law_heard, m__law_heard, k__law_heard⟩ := C__law_heard
  have bi__law_heard := bd__law_heard F__law_heard
  refine okLaw F sc_law fun cdv A outer s H E C W hc hZ hr hp tk rz ns hl => ?_
  have key : ∀ d0_ : D, ∃ ts, PFB (cxOf (L2.CX P w) P w K mg base N_law "law" (defScope s_law) f cdv A outer s H E) C (defBody s_law) ts (startF N_law [d0_]) funF (c_law d0_) := fun d0_ => ⟨_, finit 1 G__law_tower rz hZ (hr.mono (by decide)) (by rfl) m__law_tower k__law_tower bi__law_tower sc_law.nd (facons (fv 0) (fanil)) (fun a_ b_ hab => fforX (own := [2]) (fun (st8 : Unit) => [none, some (.val (.ref a_)), none, none, none, none, none, none, none, none, none]) () hp rfl (firange1 (by rfl) T.range (facons (fint) (fanil))) (pgN 2 sc_law.nd) (fun st8 d9 => gn 2 (fset 6 sc_law.nd (fcallI 1 G__law_machine (rz.sw hZ) (hr.mono (by decide)) (by rfl) m__law_machine k__law_machine bi__law_machine hab rfl (fanil)) (fun d10 => fforX (own := [9]) (fun (st14 : Unit) => [none, some (.val (.ref a_)), none, none, none, none, some (.val d10), none, none, none, none]) () hp rfl (firange1 (by rfl) T.range (facons (fint) (fanil))) (pgN 9 sc_law.nd) (fun st14 d15 => gn 9 (fset 7 sc_law.nd (fcallI 1 G__law_foresight (rz.sw hZ) (hr.mono (by decide)) (by rfl) m__law_foresight k__law_foresight bi__law_foresight hab rfl (facons (fv 6) (fanil))) (fun d18 => fifX (ftnot (fttru (fcall G__law_asked (rz.sw hZ) (hr.mono (by decide)) (by rfl) m__law_asked k__law_asked bi__law_asked (facons (fv 6) (facons (fv 7) (fanil)))))) (fret1 (fbl)) (fforX (own := [10]) (fun (st32 : Unit) => [none, some (.val (.ref a_)), none, none, none, none, some (.val d10), some (.val d18), none, none, none]) () hp rfl (fiseq (fcallI 1 G__law_edge (rz.sw hZ) (hr.mono (by decide)) (by rfl) m__law_edge k__law_edge bi__law_edge hab rfl (facons (fv 6) (facons (fv 7) (fanil))))) (pgN 10 sc_law.nd) (fun st32 d33 => gn 10 (fifE (ftnot (fttru (fcall G__law_asked (rz.sw hZ) (hr.mono (by decide)) (by rfl) m__law_asked k__law_asked bi__law_asked (facons (fv 6) (facons (fv 10) (fanil)))))) (fret1 (fbl)) (fnil ⟨(), ⟨rfl, ⟨rfl, ⟨rfl, trivial⟩⟩⟩, rfl⟩))) (fun st42 => fifE (ftnot (fttru (fcall G__law_asked (rz.sw hZ) (hr.mono (by decide)) (by rfl) m__law_asked k__law_asked bi__law_asked (facons (fv 6) (facons (fcallI 1 G__law_odd (rz.sw hZ) (hr.mono (by decide)) (by rfl) m__law_odd k__law_odd bi__law_odd hab rfl (facons (fv 6) (facons (fv 7) (fanil)))) (fanil)))))) (fret1 (fbl)) (fnil ⟨(), ⟨rfl, ⟨rfl, trivial⟩⟩, rfl⟩)) (fun _ => rfl) ⟨rfl, ⟨rfl, ⟨rfl, trivial⟩⟩⟩)))) (fun st57 => fnil ⟨(), ⟨rfl, trivial⟩, rfl⟩) (fun _ => rfl) ⟨rfl, ⟨rfl, trivial⟩⟩))) (fun st60 => fset 3 sc_law.nd (ftup (facons (ftup (facons (fint) (fanil))) (facons (fint) (facons (ftup (facons (ftup (facons (ftup (facons (fint) (fanil))) (facons (ftup (facons (fneg (fint)) (fanil))) (fanil)))) (fanil))) (fanil))))) (fun d86 => fset 4 sc_law.nd (ftup (facons (ftup (facons (fint) (facons (fint) (fanil)))) (facons (fint) (facons (fop o_mul i_mul (ftup (facons (fop o_mul i_mul (ftup (facons (ftup (facons (fint) (fanil))) (fanil))) (fint)) (fanil))) (fint)) (fanil))))) (fun d112 => fset 5 sc_law.nd (ffl (flst (facons (ftup (facons (fv 3) (facons (ftup (facons (fint) (fanil))) (facons (fint) (fanil))))) (facons (ftup (facons (fv 3) (facons (ftup (facons (fint) (fanil))) (facons (fnon) (fanil))))) (facons (ftup (facons (fv 3) (facons (ftup (facons (fstr) (fanil))) (facons (fint) (fanil))))) (facons (ftup (facons (fv 4) (facons (ftup (facons (fstr) (facons (fint) (fanil)))) (facons (fint) (fanil))))) (facons (ftup (facons (fv 4) (facons (ftup (facons (fstr) (facons (fint) (fanil)))) (facons (fnon) (fanil))))) (facons (ftup (facons (fv 4) (facons (ftup (facons (fint) (facons (fstr) (fanil)))) (facons (fint) (fanil))))) (facons (ftup (facons (fv 4) (facons (ftup (facons (fint) (facons (fstr) (fanil)))) (facons (fnon) (fanil))))) (fanil)))))))))) (fun d207 => fforX (own := [6, 7, 8]) (fun (st209 : Unit) => [none, none, none, some (.val d86), some (.val d112), none, none, none, none, none, none]) () hp rfl (fiseq (fv 5)) (pg_tl rfl (pgs_cons (pgN 6 sc_law.nd) (pgs_cons (pgN 7 sc_law.nd) (pgs_cons (pgN 8 sc_law.nd) (pgs_nil))))) (fun st209 d210 => gt3 fun d211 d212 d213 => gsc (gn 6 (gsc (gn 7 (gsc (gn 8 (gsn (fifE (ftnot (fttru (fcall G__law_same (rz.sw hZ) (hr.mono (by decide)) (by rfl) m__law_same k__law_same bi__law_same (facons (fcall G__law_heard (rz.sw hZ) (hr.mono (by decide)) (by rfl) m__law_heard k__law_heard bi__law_heard (facons (fv 6) (facons (fv 7) (fanil)))) (facons (fif (ftcmp o_is i_is (fv 8) (fnon)) (ftup (facons (fstr) (facons (fstr) (fanil)))) (ftup (facons (fstr) (facons (fv 8) (fanil))))) (fanil)))))) (fret1 (fbl)) (fnil ⟨(), ⟨rfl, ⟨rfl, trivial⟩⟩, rfl⟩))))))))) (fun st240 => fret1 (fand (fcall G__law_same (rz.sw hZ) (hr.mono (by decide)) (by rfl) m__law_same k__law_same bi__law_same (facons (fcall G__law_heard (rz.sw hZ) (hr.mono (by decide)) (by rfl) m__law_heard k__law_heard bi__law_heard (facons (fv 4) (facons (ftup (facons (fstr) (facons (fstr) (fanil)))) (fanil)))) (facons (ftup (facons (fstr) (facons (fstr) (fanil)))) (fanil)))) (fone (fcall G__law_same (rz.sw hZ) (hr.mono (by decide)) (by rfl) m__law_same k__law_same bi__law_same (facons (fcall G__law_heard (rz.sw hZ) (hr.mono (by decide)) (by rfl) m__law_heard k__law_heard bi__law_heard (facons (fv 3) (facons (ftup (facons (fint) (facons (fint) (fanil)))) (fanil)))) (facons (ftup (facons (fstr) (facons (fstr) (fanil)))) (fanil))))))) (fun _ => rfl) ⟨rfl, ⟨rfl, trivial⟩⟩)))) (fun _ => rfl) ⟨rfl, trivial⟩)⟩
  obtain ⟨ts, h⟩ := key (.fl (ns.map .int))
  exact ⟨ts, _, h, hlaw ns hl⟩
end Lw
end
section
set_option maxHeartbeats 4000000
/-! what the top has left, the head (printed by gen2.py) -/
namespace Lw
open PySem L2 DL FL
set_option maxHeartbeats 0 in
theorem tabs_all {K : PySem.W.Frag} {p : Addr × Addr} (hp : p ∈ tabsL K)
    {od5 an5 : Option Addr} {sl5 : Array (Option Value)} {oc5 kV5 dc5 pm5 cd5 ct5 : Value} {f_is_foresight : Addr} {ox_is_foresight : Value} {dx_is_foresight : Option Addr} {vs_is_foresight : Array Value} {sx_is_foresight : Array (Option Value)} {cc_is_foresight pt_is_foresight : Addr}
    (a_is_foresight : PySem.W.nsIn K mainGlobals "is_foresight" = some (some (.ref f_is_foresight)))
    (l_is_foresight : K.lookup f_is_foresight = some ⟨oc5, od5, .func (PySem.W.fnOf "is_foresight" "is_foresight" (defArgs s_is_foresight) (defBody s_is_foresight) (defScope s_is_foresight) .none kV5 dc5 pm5 an5 cd5 ct5), sl5⟩)
    (r_is_foresight : cd5 = .ref cc_is_foresight)
    (q_is_foresight : K.lookup cc_is_foresight = some ⟨ox_is_foresight, dx_is_foresight, .fields vs_is_foresight, sx_is_foresight⟩)
    (v_is_foresight : (vs_is_foresight[11]? : Option Value) = some (Value.ref pt_is_foresight))
    (n_is_foresight : K.lookup pt_is_foresight = none) : K.lookup p.2 = none := by
  have Q_is_foresight : tabQ K "is_foresight" = some (cc_is_foresight, pt_is_foresight) := by
    subst r_is_foresight
    unfold tabQ
    simp only [a_is_foresight, l_is_foresight, PySem.W.fnOf, q_is_foresight, v_is_foresight]
  obtain ⟨n, hn, e⟩ := List.mem_filterMap.mp hp
  simp only [genNames, List.mem_cons, List.not_mem_nil, or_false] at hn
  · subst hn
    rw [Q_is_foresight] at e
    cases e
    exact n_is_foresight

abbrev i_BadStep : Stmt := clsStmt (top 6) 0
theorem all_mk {l : PySem.W.OpenLaw} {w : World} {K : PySem.W.Frag} {h : Heap} {mg : Str → Option Value} {fa : Addr} (X : K.In h) (G : h.Ns mainGlobals mg) (hfa : mg "law" = some (.ref fa))
    {od0 an0 : Option Addr} {sl0 : Array (Option Value)} {oc0 kV0 dc0 pm0 cd0 ct0 : Value} {f_many_stands : Addr}
    (a_many_stands : PySem.W.nsIn K mainGlobals "many_stands" = some (some (.ref f_many_stands)))
    (l_many_stands : K.lookup f_many_stands = some ⟨oc0, od0, .func (PySem.W.fnOf "many_stands" "many_stands" (defArgs s_many_stands) (defBody s_many_stands) (defScope s_many_stands) .none kV0 dc0 pm0 an0 cd0 ct0), sl0⟩)
    (c_many_stands_ : PySem.W.codeIn K cd0 "many_stands" = true)
    (k_many_stands : PySem.W.keepIn K (.ref f_many_stands) = true)
    {od1 an1 : Option Addr} {sl1 : Array (Option Value)} {oc1 kV1 dc1 pm1 cd1 ct1 : Value} {f_is_integer : Addr}
    (a_is_integer : PySem.W.nsIn K mainGlobals "is_integer" = some (some (.ref f_is_integer)))
    (l_is_integer : K.lookup f_is_integer = some ⟨oc1, od1, .func (PySem.W.fnOf "is_integer" "is_integer" (defArgs s_is_integer) (defBody s_is_integer) (defScope s_is_integer) .none kV1 dc1 pm1 an1 cd1 ct1), sl1⟩)
    (c_is_integer_ : PySem.W.codeIn K cd1 "is_integer" = true)
    (k_is_integer : PySem.W.keepIn K (.ref f_is_integer) = true)
    {od2 an2 : Option Addr} {sl2 : Array (Option Value)} {oc2 kV2 dc2 pm2 cd2 ct2 : Value} {f_is_number : Addr}
    (a_is_number : PySem.W.nsIn K mainGlobals "is_number" = some (some (.ref f_is_number)))
    (l_is_number : K.lookup f_is_number = some ⟨oc2, od2, .func (PySem.W.fnOf "is_number" "is_number" (defArgs s_is_number) (defBody s_is_number) (defScope s_is_number) .none kV2 dc2 pm2 an2 cd2 ct2), sl2⟩)
    (c_is_number_ : PySem.W.codeIn K cd2 "is_number" = true)
    (k_is_number : PySem.W.keepIn K (.ref f_is_number) = true)
    {od3 an3 : Option Addr} {sl3 : Array (Option Value)} {oc3 kV3 dc3 pm3 cd3 ct3 : Value} {f_is_tuple_of : Addr}
    (a_is_tuple_of : PySem.W.nsIn K mainGlobals "is_tuple_of" = some (some (.ref f_is_tuple_of)))
    (l_is_tuple_of : K.lookup f_is_tuple_of = some ⟨oc3, od3, .func (PySem.W.fnOf "is_tuple_of" "is_tuple_of" (defArgs s_is_tuple_of) (defBody s_is_tuple_of) (defScope s_is_tuple_of) .none kV3 dc3 pm3 an3 cd3 ct3), sl3⟩)
    (c_is_tuple_of_ : PySem.W.codeIn K cd3 "is_tuple_of" = true)
    (k_is_tuple_of : PySem.W.keepIn K (.ref f_is_tuple_of) = true)
    {od4 an4 : Option Addr} {sl4 : Array (Option Value)} {oc4 kV4 dc4 pm4 cd4 ct4 : Value} {f_is_far_amount : Addr}
    (a_is_far_amount : PySem.W.nsIn K mainGlobals "is_far_amount" = some (some (.ref f_is_far_amount)))
    (l_is_far_amount : K.lookup f_is_far_amount = some ⟨oc4, od4, .func (PySem.W.fnOf "is_far_amount" "is_far_amount" (defArgs s_is_far_amount) (defBody s_is_far_amount) (defScope s_is_far_amount) .none kV4 dc4 pm4 an4 cd4 ct4), sl4⟩)
    (c_is_far_amount_ : PySem.W.codeIn K cd4 "is_far_amount" = true)
    (k_is_far_amount : PySem.W.keepIn K (.ref f_is_far_amount) = true)
    {od5 an5 : Option Addr} {sl5 : Array (Option Value)} {oc5 kV5 dc5 pm5 cd5 ct5 : Value} {f_is_foresight : Addr}
    (a_is_foresight : PySem.W.nsIn K mainGlobals "is_foresight" = some (some (.ref f_is_foresight)))
    (l_is_foresight : K.lookup f_is_foresight = some ⟨oc5, od5, .func (PySem.W.fnOf "is_foresight" "is_foresight" (defArgs s_is_foresight) (defBody s_is_foresight) (defScope s_is_foresight) .none kV5 dc5 pm5 an5 cd5 ct5), sl5⟩)
    (c_is_foresight_ : PySem.W.codeIn K cd5 "is_foresight" = true)
    (k_is_foresight : PySem.W.keepIn K (.ref f_is_foresight) = true)
    {od6 an6 : Option Addr} {sl6 : Array (Option Value)} {oc6 kV6 dc6 pm6 cd6 ct6 : Value} {f_kind_of : Addr}
    (a_kind_of : PySem.W.nsIn K mainGlobals "kind_of" = some (some (.ref f_kind_of)))
    (l_kind_of : K.lookup f_kind_of = some ⟨oc6, od6, .func (PySem.W.fnOf "kind_of" "kind_of" (defArgs s_kind_of) (defBody s_kind_of) (defScope s_kind_of) .none kV6 dc6 pm6 an6 cd6 ct6), sl6⟩)
    (c_kind_of_ : PySem.W.codeIn K cd6 "kind_of" = true)
    (k_kind_of : PySem.W.keepIn K (.ref f_kind_of) = true)
    {od7 an7 : Option Addr} {sl7 : Array (Option Value)} {oc7 kV7 dc7 pm7 cd7 ct7 : Value} {f_long_streams : Addr}
    (a_long_streams : PySem.W.nsIn K mainGlobals "long_streams" = some (some (.ref f_long_streams)))
    (l_long_streams : K.lookup f_long_streams = some ⟨oc7, od7, .func (PySem.W.fnOf "long_streams" "long_streams" (defArgs s_long_streams) (defBody s_long_streams) (defScope s_long_streams) .none kV7 dc7 pm7 an7 cd7 ct7), sl7⟩)
    (c_long_streams_ : PySem.W.codeIn K cd7 "long_streams" = true)
    (k_long_streams : PySem.W.keepIn K (.ref f_long_streams) = true)
    {od8 an8 : Option Addr} {sl8 : Array (Option Value)} {oc8 kV8 dc8 pm8 cd8 ct8 : Value} {f_is_within_bounds : Addr}
    (a_is_within_bounds : PySem.W.nsIn K mainGlobals "is_within_bounds" = some (some (.ref f_is_within_bounds)))
    (l_is_within_bounds : K.lookup f_is_within_bounds = some ⟨oc8, od8, .func (PySem.W.fnOf "is_within_bounds" "is_within_bounds" (defArgs s_is_within_bounds) (defBody s_is_within_bounds) (defScope s_is_within_bounds) .none kV8 dc8 pm8 an8 cd8 ct8), sl8⟩)
    (c_is_within_bounds_ : PySem.W.codeIn K cd8 "is_within_bounds" = true)
    (k_is_within_bounds : PySem.W.keepIn K (.ref f_is_within_bounds) = true)
    {od9 an9 : Option Addr} {sl9 : Array (Option Value)} {oc9 kV9 dc9 pm9 cd9 ct9 : Value} {f_check_foresight : Addr}
    (a_check_foresight : PySem.W.nsIn K mainGlobals "check_foresight" = some (some (.ref f_check_foresight)))
    (l_check_foresight : K.lookup f_check_foresight = some ⟨oc9, od9, .func (PySem.W.fnOf "check_foresight" "check_foresight" (defArgs s_check_foresight) (defBody s_check_foresight) (defScope s_check_foresight) .none kV9 dc9 pm9 an9 cd9 ct9), sl9⟩)
    (c_check_foresight_ : PySem.W.codeIn K cd9 "check_foresight" = true)
    (k_check_foresight : PySem.W.keepIn K (.ref f_check_foresight) = true)
    {od10 an10 : Option Addr} {sl10 : Array (Option Value)} {oc10 kV10 dc10 pm10 cd10 ct10 : Value} {f__law_tower : Addr}
    (a__law_tower : PySem.W.nsIn K mainGlobals "_law_tower" = some (some (.ref f__law_tower)))
    (l__law_tower : K.lookup f__law_tower = some ⟨oc10, od10, .func (PySem.W.fnOf "_law_tower" "_law_tower" (defArgs s__law_tower) (defBody s__law_tower) (defScope s__law_tower) .none kV10 dc10 pm10 an10 cd10 ct10), sl10⟩)
    (c__law_tower_ : PySem.W.codeIn K cd10 "_law_tower" = true)
    (k__law_tower : PySem.W.keepIn K (.ref f__law_tower) = true)
    {od11 an11 : Option Addr} {sl11 : Array (Option Value)} {oc11 kV11 dc11 pm11 cd11 ct11 : Value} {f__law_peal : Addr}
    (a__law_peal : PySem.W.nsIn K mainGlobals "_law_peal" = some (some (.ref f__law_peal)))
    (l__law_peal : K.lookup f__law_peal = some ⟨oc11, od11, .func (PySem.W.fnOf "_law_peal" "_law_peal" (defArgs s__law_peal) (defBody s__law_peal) (defScope s__law_peal) .none kV11 dc11 pm11 an11 cd11 ct11), sl11⟩)
    (c__law_peal_ : PySem.W.codeIn K cd11 "_law_peal" = true)
    (k__law_peal : PySem.W.keepIn K (.ref f__law_peal) = true)
    {od12 an12 : Option Addr} {sl12 : Array (Option Value)} {oc12 kV12 dc12 pm12 cd12 ct12 : Value} {f__law_machine : Addr}
    (a__law_machine : PySem.W.nsIn K mainGlobals "_law_machine" = some (some (.ref f__law_machine)))
    (l__law_machine : K.lookup f__law_machine = some ⟨oc12, od12, .func (PySem.W.fnOf "_law_machine" "_law_machine" (defArgs s__law_machine) (defBody s__law_machine) (defScope s__law_machine) .none kV12 dc12 pm12 an12 cd12 ct12), sl12⟩)
    (c__law_machine_ : PySem.W.codeIn K cd12 "_law_machine" = true)
    (k__law_machine : PySem.W.keepIn K (.ref f__law_machine) = true)
    {od13 an13 : Option Addr} {sl13 : Array (Option Value)} {oc13 kV13 dc13 pm13 cd13 ct13 : Value} {f__law_number : Addr}
    (a__law_number : PySem.W.nsIn K mainGlobals "_law_number" = some (some (.ref f__law_number)))
    (l__law_number : K.lookup f__law_number = some ⟨oc13, od13, .func (PySem.W.fnOf "_law_number" "_law_number" (defArgs s__law_number) (defBody s__law_number) (defScope s__law_number) .none kV13 dc13 pm13 an13 cd13 ct13), sl13⟩)
    (c__law_number_ : PySem.W.codeIn K cd13 "_law_number" = true)
    (k__law_number : PySem.W.keepIn K (.ref f__law_number) = true)
    {od14 an14 : Option Addr} {sl14 : Array (Option Value)} {oc14 kV14 dc14 pm14 cd14 ct14 : Value} {f__law_word : Addr}
    (a__law_word : PySem.W.nsIn K mainGlobals "_law_word" = some (some (.ref f__law_word)))
    (l__law_word : K.lookup f__law_word = some ⟨oc14, od14, .func (PySem.W.fnOf "_law_word" "_law_word" (defArgs s__law_word) (defBody s__law_word) (defScope s__law_word) .none kV14 dc14 pm14 an14 cd14 ct14), sl14⟩)
    (c__law_word_ : PySem.W.codeIn K cd14 "_law_word" = true)
    (k__law_word : PySem.W.keepIn K (.ref f__law_word) = true)
    {od15 an15 : Option Addr} {sl15 : Array (Option Value)} {oc15 kV15 dc15 pm15 cd15 ct15 : Value} {f__law_is : Addr}
    (a__law_is : PySem.W.nsIn K mainGlobals "_law_is" = some (some (.ref f__law_is)))
    (l__law_is : K.lookup f__law_is = some ⟨oc15, od15, .func (PySem.W.fnOf "_law_is" "_law_is" (defArgs s__law_is) (defBody s__law_is) (defScope s__law_is) .none kV15 dc15 pm15 an15 cd15 ct15), sl15⟩)
    (c__law_is_ : PySem.W.codeIn K cd15 "_law_is" = true)
    (k__law_is : PySem.W.keepIn K (.ref f__law_is) = true)
    {od16 an16 : Option Addr} {sl16 : Array (Option Value)} {oc16 kV16 dc16 pm16 cd16 ct16 : Value} {f__law_count : Addr}
    (a__law_count : PySem.W.nsIn K mainGlobals "_law_count" = some (some (.ref f__law_count)))
    (l__law_count : K.lookup f__law_count = some ⟨oc16, od16, .func (PySem.W.fnOf "_law_count" "_law_count" (defArgs s__law_count) (defBody s__law_count) (defScope s__law_count) .none kV16 dc16 pm16 an16 cd16 ct16), sl16⟩)
    (c__law_count_ : PySem.W.codeIn K cd16 "_law_count" = true)
    (k__law_count : PySem.W.keepIn K (.ref f__law_count) = true)
    {od17 an17 : Option Addr} {sl17 : Array (Option Value)} {oc17 kV17 dc17 pm17 cd17 ct17 : Value} {f__law_foresight : Addr}
    (a__law_foresight : PySem.W.nsIn K mainGlobals "_law_foresight" = some (some (.ref f__law_foresight)))
    (l__law_foresight : K.lookup f__law_foresight = some ⟨oc17, od17, .func (PySem.W.fnOf "_law_foresight" "_law_foresight" (defArgs s__law_foresight) (defBody s__law_foresight) (defScope s__law_foresight) .none kV17 dc17 pm17 an17 cd17 ct17), sl17⟩)
    (c__law_foresight_ : PySem.W.codeIn K cd17 "_law_foresight" = true)
    (k__law_foresight : PySem.W.keepIn K (.ref f__law_foresight) = true)
    {od18 an18 : Option Addr} {sl18 : Array (Option Value)} {oc18 kV18 dc18 pm18 cd18 ct18 : Value} {f__law_edge : Addr}
    (a__law_edge : PySem.W.nsIn K mainGlobals "_law_edge" = some (some (.ref f__law_edge)))
    (l__law_edge : K.lookup f__law_edge = some ⟨oc18, od18, .func (PySem.W.fnOf "_law_edge" "_law_edge" (defArgs s__law_edge) (defBody s__law_edge) (defScope s__law_edge) .none kV18 dc18 pm18 an18 cd18 ct18), sl18⟩)
    (c__law_edge_ : PySem.W.codeIn K cd18 "_law_edge" = true)
    (k__law_edge : PySem.W.keepIn K (.ref f__law_edge) = true)
    {od19 an19 : Option Addr} {sl19 : Array (Option Value)} {oc19 kV19 dc19 pm19 cd19 ct19 : Value} {f__law_odd : Addr}
    (a__law_odd : PySem.W.nsIn K mainGlobals "_law_odd" = some (some (.ref f__law_odd)))
    (l__law_odd : K.lookup f__law_odd = some ⟨oc19, od19, .func (PySem.W.fnOf "_law_odd" "_law_odd" (defArgs s__law_odd) (defBody s__law_odd) (defScope s__law_odd) .none kV19 dc19 pm19 an19 cd19 ct19), sl19⟩)
    (c__law_odd_ : PySem.W.codeIn K cd19 "_law_odd" = true)
    (k__law_odd : PySem.W.keepIn K (.ref f__law_odd) = true)
    {od20 an20 : Option Addr} {sl20 : Array (Option Value)} {oc20 kV20 dc20 pm20 cd20 ct20 : Value} {f__law_same : Addr}
    (a__law_same : PySem.W.nsIn K mainGlobals "_law_same" = some (some (.ref f__law_same)))
    (l__law_same : K.lookup f__law_same = some ⟨oc20, od20, .func (PySem.W.fnOf "_law_same" "_law_same" (defArgs s__law_same) (defBody s__law_same) (defScope s__law_same) .none kV20 dc20 pm20 an20 cd20 ct20), sl20⟩)
    (c__law_same_ : PySem.W.codeIn K cd20 "_law_same" = true)
    (k__law_same : PySem.W.keepIn K (.ref f__law_same) = true)
    {od21 an21 : Option Addr} {sl21 : Array (Option Value)} {oc21 kV21 dc21 pm21 cd21 ct21 : Value} {f__law_heard : Addr}
    (a__law_heard : PySem.W.nsIn K mainGlobals "_law_heard" = some (some (.ref f__law_heard)))
    (l__law_heard : K.lookup f__law_heard = some ⟨oc21, od21, .func (PySem.W.fnOf "_law_heard" "_law_heard" (defArgs s__law_heard) (defBody s__law_heard) (defScope s__law_heard) .none kV21 dc21 pm21 an21 cd21 ct21), sl21⟩)
    (c__law_heard_ : PySem.W.codeIn K cd21 "_law_heard" = true)
    (k__law_heard : PySem.W.keepIn K (.ref f__law_heard) = true)
    {od22 an22 : Option Addr} {sl22 : Array (Option Value)} {oc22 kV22 dc22 pm22 cd22 ct22 : Value} {f__law_asked : Addr}
    (a__law_asked : PySem.W.nsIn K mainGlobals "_law_asked" = some (some (.ref f__law_asked)))
    (l__law_asked : K.lookup f__law_asked = some ⟨oc22, od22, .func (PySem.W.fnOf "_law_asked" "_law_asked" (defArgs s__law_asked) (defBody s__law_asked) (defScope s__law_asked) .none kV22 dc22 pm22 an22 cd22 ct22), sl22⟩)
    (c__law_asked_ : PySem.W.codeIn K cd22 "_law_asked" = true)
    (k__law_asked : PySem.W.keepIn K (.ref f__law_asked) = true)
    {od23 an23 : Option Addr} {sl23 : Array (Option Value)} {oc23 kV23 dc23 pm23 cd23 ct23 : Value} {f_law : Addr}
    (a_law : PySem.W.nsIn K mainGlobals "law" = some (some (.ref f_law)))
    (l_law : K.lookup f_law = some ⟨oc23, od23, .func (PySem.W.fnOf "law" "law" (defArgs s_law) (defBody s_law) (defScope s_law) .none kV23 dc23 pm23 an23 cd23 ct23), sl23⟩)
    (c_law_ : PySem.W.codeIn K cd23 "law" = true)
    (k_law : PySem.W.keepIn K (.ref f_law) = true)
    {ox_is_foresight : Value} {dx_is_foresight : Option Addr} {vs_is_foresight : Array Value} {sx_is_foresight : Array (Option Value)} {cc_is_foresight pt_is_foresight : Addr}
    (r_is_foresight : cd5 = .ref cc_is_foresight)
    (q_is_foresight : K.lookup cc_is_foresight = some ⟨ox_is_foresight, dx_is_foresight, .fields vs_is_foresight, sx_is_foresight⟩)
    (v_is_foresight : (vs_is_foresight[11]? : Option Value) = some (Value.ref pt_is_foresight))
    (z_abs : PySem.W.nsIn K mainGlobals "abs" = some none)
    (z_all : PySem.W.nsIn K mainGlobals "all" = some none)
    (z_bool : PySem.W.nsIn K mainGlobals "bool" = some none)
    (z_enumerate : PySem.W.nsIn K mainGlobals "enumerate" = some none)
    (z_int : PySem.W.nsIn K mainGlobals "int" = some none)
    (z_isinstance : PySem.W.nsIn K mainGlobals "isinstance" = some none)
    (z_len : PySem.W.nsIn K mainGlobals "len" = some none)
    (z_list : PySem.W.nsIn K mainGlobals "list" = some none)
    (z_min : PySem.W.nsIn K mainGlobals "min" = some none)
    (z_range : PySem.W.nsIn K mainGlobals "range" = some none)
    (z_str : PySem.W.nsIn K mainGlobals "str" = some none)
    (z_tuple : PySem.W.nsIn K mainGlobals "tuple" = some none)
    (z_zip : PySem.W.nsIn K mainGlobals "zip" = some none)
    {t_FORESIGHT_MOST : Tok}
    (g_FORESIGHT_MOST : PySem.W.nsIn K mainGlobals "FORESIGHT_MOST" = some (some (.int 9999 t_FORESIGHT_MOST)))
    {t_POSITIONS_MOST : Tok}
    (g_POSITIONS_MOST : PySem.W.nsIn K mainGlobals "POSITIONS_MOST" = some (some (.int 8192 t_POSITIONS_MOST)))
    {t_STANDS_MOST : Tok}
    (g_STANDS_MOST : PySem.W.nsIn K mainGlobals "STANDS_MOST" = some (some (.int 512 t_STANDS_MOST)))
    {C_FarError : Addr}
    (ca_FarError : PySem.W.nsIn K mainGlobals "FarError" = some (some (.ref C_FarError)))
    {C_BadStep : Addr}
    (ca_BadStep : PySem.W.nsIn K mainGlobals "BadStep" = some (some (.ref C_BadStep)))
    (ce_BadStep : PySem.W.subIn K (.ref C_BadStep) (.type "BaseException") = some true)
    (ci_BadStep : PySem.W.isClsIn K C_BadStep = true)
    (ct_BadStep : PySem.W.typeIn K (.ref C_BadStep) = some (.type "type"))
    (ce_FarError : PySem.W.subIn K (.ref C_FarError) (.type "BaseException") = some true)
    (ci_FarError : PySem.W.isClsIn K C_FarError = true)
    (ct_FarError : PySem.W.typeIn K (.ref C_FarError) = some (.type "type"))
    (cs_BadStep_BadStep : PySem.W.subIn K (.ref C_BadStep) (.ref C_BadStep) = some true)
    (cs_BadStep_FarError : PySem.W.subIn K (.ref C_BadStep) (.ref C_FarError) = some true)
    (xa_BadStep : PySem.W.findIn K (.ref C_BadStep) "__getattribute__" = some (some (.builtin "BaseException.__getattribute__")))
    (xb_BadStep : PySem.W.findIn K (.ref C_BadStep) "__getattr__" = some none)
    (xc_BadStep : PySem.W.subIn K (.ref C_BadStep) (.type "BaseException") = some true)
    (xd_BadStep : PySem.W.hasDictIn K C_BadStep = true)
    (xn_BadStep_word : PySem.W.findIn K (.ref C_BadStep) "word" = some none)
    (e_opq : PySem.W.nsIn K cStatics "thirdparty.any" = some none)
    (e_sup : PySem.W.nsIn K mainGlobals "super" = some none)
    (e_top : (l.prog.main.scope.names.lookup ("super" : Str)).isSome = false)
    {nm_BadStep q_BadStep : Str} {N_BadStep_ : Addr} {bs_BadStep bm_BadStep : List Value} {sn_BadStep : List Str} {sb_BadStep : List Value} {ab_BadStep : Bool} {co_BadStep : Option Bool} {dd_BadStep : Option Addr} {m0_BadStep m1_BadStep m2_BadStep m3_BadStep m5_BadStep : Option Value}
    (ol_BadStep : K.lookup C_BadStep = some (excClassObj nm_BadStep q_BadStep C_BadStep N_BadStep_ bs_BadStep bm_BadStep true sn_BadStep sb_BadStep ab_BadStep co_BadStep dd_BadStep m0_BadStep m1_BadStep m2_BadStep m3_BadStep m5_BadStep "ValueError.__new__"))
    (orv_BadStep : PySem.HandSPX.refsVE bm_BadStep = true)
    (osa_BadStep : PySem.W.findIn K (.ref C_BadStep) "__setattr__" = some (some (.builtin "object.__setattr__")))
    (oe_BadStep : PySem.W.subIn K (.ref C_BadStep) (.type "BaseException") = some true)
    (ot_BadStep : PySem.W.typeIn K (.ref C_BadStep) = some (.type "type"))
    (ok_BadStep_ : PySem.W.keepIn K (.ref C_BadStep) = true)
    {I_BadStep cda_BadStep ccc_BadStep : Addr} {ioc_BadStep ikV_BadStep idc_BadStep ipm_BadStep ict_BadStep icl_BadStep iccl_BadStep : Value} {iod_BadStep ian_BadStep icd_BadStep icld_BadStep : Option Addr} {iol_BadStep ics_BadStep icsl_BadStep : Array (Option Value)} {ivs_BadStep : Array Value} {ifl_BadStep : Str} {itf_BadStep : Tok}
    (oi_BadStep : PySem.W.findIn K (.ref C_BadStep) "__init__" = some (some (.ref I_BadStep)))
    (oti_BadStep : PySem.W.typeIn K (.ref I_BadStep) = some (.type "function"))
    (oli_BadStep : K.lookup I_BadStep = some ⟨ioc_BadStep, iod_BadStep, .func (PySem.W.ksFn "__init__" "BadStep.__init__" (defArgs i_BadStep) (defBody i_BadStep) (defScope i_BadStep) .none ikV_BadStep idc_BadStep ipm_BadStep ian_BadStep (.ref cda_BadStep) ict_BadStep ccc_BadStep), iol_BadStep⟩)
    (oci_BadStep : PySem.W.codeIn K (.ref cda_BadStep) "BadStep.__init__" = true)
    (olc_BadStep : K.lookup cda_BadStep = some ⟨iccl_BadStep, icd_BadStep, .fields ivs_BadStep, ics_BadStep⟩)
    (ov_BadStep : (ivs_BadStep[2]? : Option Value) = some (.str ifl_BadStep itf_BadStep))
    (of_BadStep : ((l.prog.main.file : Str) == ifl_BadStep) = true)
    (occ_BadStep : K.lookup ccc_BadStep = some ⟨icl_BadStep, icld_BadStep, .cell (some (.ref C_BadStep)), icsl_BadStep⟩)
    (osp_BadStep : PySem.W.ks_superIn K C_BadStep C_BadStep "__init__" = some (some (.builtin "ValueError.__init__")))
    (osv_BadStep : PySem.W.subIn K (.ref C_BadStep) (.type "ValueError") = some true)
    (osc_BadStep : PySem.W.mroIn K C_BadStep (.ref C_BadStep) = some true) :
    ∃ fd : FuncData, (∀ (s : Shared) (v : Value), BindsTo s fd ⟨[v], []⟩ [("script", v)]) ∧ ∀ base : Heap, K.In base → base.Ns mainGlobals mg → (∀ p ∈ tabsL K, GxR.TabB base mg p.1 p.2) → FnOk l.prog w K mg base (L2.CX l.prog w) 9 fa fd ["script"] (toSp K spLaw) := by
  have e := hfa.symm.trans (PySem.W.mg_of X G a_law)
  cases e
  have T : Txt mg := ⟨PySem.W.mg_none_of X G z_abs, PySem.W.mg_none_of X G z_all, PySem.W.mg_none_of X G z_bool, PySem.W.mg_none_of X G z_enumerate, PySem.W.mg_none_of X G z_int, PySem.W.mg_none_of X G z_isinstance, PySem.W.mg_none_of X G z_len, PySem.W.mg_none_of X G z_list, PySem.W.mg_none_of X G z_min, PySem.W.mg_none_of X G z_range, PySem.W.mg_none_of X G z_str, PySem.W.mg_none_of X G z_tuple, PySem.W.mg_none_of X G z_zip, ⟨_, PySem.W.mg_of X G g_FORESIGHT_MOST⟩, ⟨_, PySem.W.mg_of X G g_POSITIONS_MOST⟩, ⟨_, PySem.W.mg_of X G g_STANDS_MOST⟩⟩
  have F_many_stands := fun_mk (st := s_many_stands) l_many_stands c_many_stands_ k_many_stands
  have F_is_integer := fun_mk (st := s_is_integer) l_is_integer c_is_integer_ k_is_integer
  have F_is_number := fun_mk (st := s_is_number) l_is_number c_is_number_ k_is_number
  have F_is_tuple_of := fun_mk (st := s_is_tuple_of) l_is_tuple_of c_is_tuple_of_ k_is_tuple_of
  have F_is_far_amount := fun_mk (st := s_is_far_amount) l_is_far_amount c_is_far_amount_ k_is_far_amount
  have F_is_foresight := fun_mk (st := s_is_foresight) l_is_foresight c_is_foresight_ k_is_foresight
  have F_kind_of := fun_mk (st := s_kind_of) l_kind_of c_kind_of_ k_kind_of
  have F_long_streams := fun_mk (st := s_long_streams) l_long_streams c_long_streams_ k_long_streams
  have F_is_within_bounds := fun_mk (st := s_is_within_bounds) l_is_within_bounds c_is_within_bounds_ k_is_within_bounds
  have F_check_foresight := fun_mk (st := s_check_foresight) l_check_foresight c_check_foresight_ k_check_foresight
  have F__law_tower := fun_mk (st := s__law_tower) l__law_tower c__law_tower_ k__law_tower
  have F__law_peal := fun_mk (st := s__law_peal) l__law_peal c__law_peal_ k__law_peal
  have F__law_machine := fun_mk (st := s__law_machine) l__law_machine c__law_machine_ k__law_machine
  have F__law_number := fun_mk (st := s__law_number) l__law_number c__law_number_ k__law_number
  have F__law_word := fun_mk (st := s__law_word) l__law_word c__law_word_ k__law_word
  have F__law_is := fun_mk (st := s__law_is) l__law_is c__law_is_ k__law_is
  have F__law_count := fun_mk (st := s__law_count) l__law_count c__law_count_ k__law_count
  have F__law_foresight := fun_mk (st := s__law_foresight) l__law_foresight c__law_foresight_ k__law_foresight
  have F__law_edge := fun_mk (st := s__law_edge) l__law_edge c__law_edge_ k__law_edge
  have F__law_odd := fun_mk (st := s__law_odd) l__law_odd c__law_odd_ k__law_odd
  have F__law_same := fun_mk (st := s__law_same) l__law_same c__law_same_ k__law_same
  have F__law_heard := fun_mk (st := s__law_heard) l__law_heard c__law_heard_ k__law_heard
  have F__law_asked := fun_mk (st := s__law_asked) l__law_asked c__law_asked_ k__law_asked
  have F_law := fun_mk (st := s_law) l_law c_law_ k_law
  refine ⟨PySem.W.fnOf "law" "law" (defArgs s_law) (defBody s_law) (defScope s_law) .none kV23 dc23 pm23 an23 cd23 ct23, fun s v => .of_eq rfl, fun base _ _ hTB => ?_⟩
  have Q_is_foresight : tabQ K "is_foresight" = some (cc_is_foresight, pt_is_foresight) := by
    subst r_is_foresight
    unfold tabQ
    simp only [a_is_foresight, l_is_foresight, PySem.W.fnOf, q_is_foresight, v_is_foresight]
  have M_is_foresight : ("is_foresight" : Str) ∈ genNames := by decide
  have GT_is_foresight : GenTab K base mg (PySem.W.fnOf "is_foresight" "is_foresight" (defArgs s_is_foresight) (defBody s_is_foresight) (defScope s_is_foresight) .none kV5 dc5 pm5 an5 cd5 ct5) := ⟨cc_is_foresight, pt_is_foresight, r_is_foresight, hTB (cc_is_foresight, pt_is_foresight) (List.mem_filterMap.mpr ⟨_, M_is_foresight, Q_is_foresight⟩), ⟨_, M_is_foresight, _, Q_is_foresight⟩⟩
  have S_BadStep : SX.SupC l.prog K C_BadStep I_BadStep "BadStep.__init__" i_BadStep := ⟨⟨⟨_, _, _, _, _, _, _, _, _, _, _, _, _, _, _, ol_BadStep, orv_BadStep⟩, osa_BadStep, oe_BadStep, ot_BadStep, ok_BadStep_⟩, oi_BadStep, oti_BadStep, ⟨_, _, _, _, _, _, _, _, _, _, _, _, _, _, _, _, _, _, _, oli_BadStep, oci_BadStep, olc_BadStep, ov_BadStep, of_BadStep, occ_BadStep⟩, osp_BadStep, osv_BadStep, osc_BadStep, e_opq, e_top⟩
  have E_BadStep : ExcOk l.prog w K mg base "BadStep" ["word"] := excOk1 S_BadStep (PySem.W.mg_of X G ca_BadStep) (PySem.W.mg_none_of X G e_sup) xn_BadStep_word rfl rfl rfl (by decide) (by decide) (by decide) (fun _ _ _ _ _ _ _ us hl => match us, hl with | [_, _], _ => rfl) rfl rfl rfl rfl rfl (by decide +kernel) rfl rfl (fun _ _ _ => rfl) (fun _ _ _ => rfl) (fun _ _ _ => rfl) (fun _ _ => rfl) (by decide)
  have XX : Exs l.prog w K mg base := ⟨(isaOk_of (by unfold isat_; simp only [List.forall_mem_cons]; exact ⟨⟨_, _, PySem.W.mg_of X G ca_BadStep, PySem.W.mg_of X G ca_BadStep, exm_of ce_BadStep ci_BadStep ct_BadStep cs_BadStep_BadStep⟩, ⟨_, _, PySem.W.mg_of X G ca_BadStep, PySem.W.mg_of X G ca_FarError, exm_of ce_FarError ci_FarError ct_FarError cs_BadStep_FarError⟩, fun _ h => nomatch h⟩)), E_BadStep, ⟨_, PySem.W.mg_of X G ca_BadStep⟩, ⟨_, PySem.W.mg_of X G ca_FarError⟩, (by simp only [List.forall_mem_cons]; exact ⟨⟨_, PySem.W.mg_of X G ca_BadStep, ⟨xa_BadStep, xb_BadStep, xc_BadStep, xd_BadStep⟩, xn_BadStep_word⟩, fun _ h => nomatch h⟩)⟩
  have C_many_stands : CalX l.prog w K mg base 1 "many_stands" s_many_stands ["sizes", "states", "foresight"] (spP mg Lw.f_many_stands) := ⟨_, _, ok_many_stands T F_many_stands , F_many_stands, PySem.W.mg_of X G a_many_stands, k_many_stands⟩
  have C_is_integer : CalX l.prog w K mg base 1 "is_integer" s_is_integer ["thing"] (spP mg Lw.f_is_integer) := ⟨_, _, ok_is_integer T F_is_integer , F_is_integer, PySem.W.mg_of X G a_is_integer, k_is_integer⟩
  have C_is_tuple_of : CalX l.prog w K mg base 1 "is_tuple_of" s_is_tuple_of ["thing", "many"] (spP mg Lw.f_is_tuple_of) := ⟨_, _, ok_is_tuple_of T F_is_tuple_of , F_is_tuple_of, PySem.W.mg_of X G a_is_tuple_of, k_is_tuple_of⟩
  have C_kind_of : CalX l.prog w K mg base 1 "kind_of" s_kind_of ["foresight"] (spP mg Lw.f_kind_of) := ⟨_, _, ok_kind_of T F_kind_of , F_kind_of, PySem.W.mg_of X G a_kind_of, k_kind_of⟩
  have C_long_streams : CalX l.prog w K mg base 1 "long_streams" s_long_streams ["foresight"] (spP mg Lw.f_long_streams) := ⟨_, _, ok_long_streams T F_long_streams , F_long_streams, PySem.W.mg_of X G a_long_streams, k_long_streams⟩
  have C__law_tower : CalX l.prog w K mg base 1 "_law_tower" s__law_tower ["script"] (spN .lst 4 0 mg Lw.f__law_tower) := ⟨_, _, ok__law_tower T F__law_tower , F__law_tower, PySem.W.mg_of X G a__law_tower, k__law_tower⟩
  have C__law_peal : CalX l.prog w K mg base 1 "_law_peal" s__law_peal ["tower", "many", "place"] (spI (zP .lst 4 0) mg Lw.f__law_peal) := ⟨_, _, ok__law_peal T F__law_peal , F__law_peal, PySem.W.mg_of X G a__law_peal, k__law_peal⟩
  have C__law_number : CalX l.prog w K mg base 1 "_law_number" s__law_number ["thing", "bound"] (spP mg Lw.f__law_number) := ⟨_, _, ok__law_number T F__law_number , F__law_number, PySem.W.mg_of X G a__law_number, k__law_number⟩
  have C__law_word : CalX l.prog w K mg base 1 "_law_word" s__law_word ["thing", "word"] (spP mg Lw.f__law_word) := ⟨_, _, ok__law_word T F__law_word , F__law_word, PySem.W.mg_of X G a__law_word, k__law_word⟩
  have C__law_count : CalX l.prog w K mg base 1 "_law_count" s__law_count ["machine", "foresight"] (spP mg Lw.f__law_count) := ⟨_, _, ok__law_count T F__law_count , F__law_count, PySem.W.mg_of X G a__law_count, k__law_count⟩
  have C_is_number : CalX l.prog w K mg base 2 "is_number" s_is_number ["thing"] (spP mg Lw.f_is_number) := ⟨_, _, ok_is_number T F_is_number C_is_integer, F_is_number, PySem.W.mg_of X G a_is_number, k_is_number⟩
  have C_is_within_bounds : CalX l.prog w K mg base 2 "is_within_bounds" s_is_within_bounds ["machine", "foresight"] (spP mg Lw.f_is_within_bounds) := ⟨_, _, ok_is_within_bounds T F_is_within_bounds C_many_stands C_kind_of, F_is_within_bounds, PySem.W.mg_of X G a_is_within_bounds, k_is_within_bounds⟩
  have C__law_machine : CalX l.prog w K mg base 2 "_law_machine" s__law_machine ["tower"] (spI (zP .lst 4 0) mg Lw.f__law_machine) := ⟨_, _, ok__law_machine T F__law_machine C__law_peal, F__law_machine, PySem.W.mg_of X G a__law_machine, k__law_machine⟩
  have C__law_is : CalX l.prog w K mg base 2 "_law_is" s__law_is ["machine", "thing"] (spP mg Lw.f__law_is) := ⟨_, _, ok__law_is T F__law_is C__law_number C__law_word, F__law_is, PySem.W.mg_of X G a__law_is, k__law_is⟩
  have C__law_foresight : CalX l.prog w K mg base 2 "_law_foresight" s__law_foresight ["tower", "machine"] (spI (zP .lst 4 0) mg Lw.f__law_foresight) := ⟨_, _, ok__law_foresight T F__law_foresight C__law_peal, F__law_foresight, PySem.W.mg_of X G a__law_foresight, k__law_foresight⟩
  have C__law_edge : CalX l.prog w K mg base 2 "_law_edge" s__law_edge ["tower", "machine", "foresight"] (spI (zP .lst 4 0) mg Lw.f__law_edge) := ⟨_, _, ok__law_edge T F__law_edge C__law_peal C__law_count, F__law_edge, PySem.W.mg_of X G a__law_edge, k__law_edge⟩
  have C__law_odd : CalX l.prog w K mg base 2 "_law_odd" s__law_odd ["tower", "machine", "foresight"] (spI (zP .lst 4 0) mg Lw.f__law_odd) := ⟨_, _, ok__law_odd T F__law_odd C__law_peal, F__law_odd, PySem.W.mg_of X G a__law_odd, k__law_odd⟩
  have C_is_far_amount : CalX l.prog w K mg base 3 "is_far_amount" s_is_far_amount ["thing"] (spP mg Lw.f_is_far_amount) := ⟨_, _, ok_is_far_amount T F_is_far_amount C_is_number, F_is_far_amount, PySem.W.mg_of X G a_is_far_amount, k_is_far_amount⟩
  have C_is_foresight : CalX l.prog w K mg base 5 "is_foresight" s_is_foresight ["machine", "thing"] (spP mg Lw.f_is_foresight) := ⟨_, _, ok_is_foresight T F_is_foresight GT_is_foresight C_is_tuple_of C_is_far_amount, F_is_foresight, PySem.W.mg_of X G a_is_foresight, k_is_foresight⟩
  have R__law_same : ∀ n : Nat, FnOk l.prog w K mg base (L2.CX l.prog w) (0 + n) f__law_same _ ["told", "due"] (toSp K (spP mg (Lw.f__law_same n))) := fun n => by
    induction n with
    | zero => exact fnOk_noF fun _ _ _ _ z => z.elim
    | succ n ih => exact ok__law_same T F__law_same ⟨_, _, ih, F__law_same, PySem.W.mg_of X G a__law_same, k__law_same⟩
  have C__law_same : CalX l.prog w K mg base 5 "_law_same" s__law_same ["told", "due"] (spP mg (Lw.f__law_same 4)) := ⟨_, _, (R__law_same 4).mono (by decide), F__law_same, PySem.W.mg_of X G a__law_same, k__law_same⟩
  have C_check_foresight : CalX l.prog w K mg base 6 "check_foresight" s_check_foresight ["machine", "thing"] (spP mg Lw.f_check_foresight) := ⟨_, _, ok_check_foresight T XX F_check_foresight C_is_foresight C_is_within_bounds C_many_stands, F_check_foresight, PySem.W.mg_of X G a_check_foresight, k_check_foresight⟩
  have C__law_heard : CalX l.prog w K mg base 7 "_law_heard" s__law_heard ["machine", "thing"] (spP mg Lw.f__law_heard) := ⟨_, _, ok__law_heard T XX F__law_heard C_check_foresight, F__law_heard, PySem.W.mg_of X G a__law_heard, k__law_heard⟩
  have C__law_asked : CalX l.prog w K mg base 8 "_law_asked" s__law_asked ["machine", "thing"] (spP mg Lw.f__law_asked) := ⟨_, _, ok__law_asked T F__law_asked C__law_is C__law_same C_is_foresight C__law_count C_kind_of C_long_streams C__law_heard, F__law_asked, PySem.W.mg_of X G a__law_asked, k__law_asked⟩
  exact ok_law T F_law C__law_tower C__law_machine C__law_foresight C__law_asked C__law_edge C__law_odd C__law_same C__law_heard law_holds
end Lw
open PySem PySem.W PyProof.Rows in
set_option maxRecDepth 100000 in
set_option maxHeartbeats 0 in
theorem PySem.Challenge.cw_foresightenough_k14_foresights_holds : PySem.Challenge.rw_foresightenough_k14_foresights.Holds := by
  w_on; o_law; k_head; (case hw => w_witness2)
  k_fill
  refine FL.walkF (l := PySem.Challenge.rw_foresightenough_k14_foresights) (k := 9) rfl rfl ⟨rfl, by decide, by decide⟩ (fun w h Y => PySem.W.kIn_of Y) (by decide +kernel) (fun w p hp => ?T) ?F
  case F =>
    intro w mg fa h KX G hmg
    refine' Lw.all_mk KX G hmg ?a_many_stands ?l_many_stands ?c_many_stands_ ?k_many_stands ?a_is_integer ?l_is_integer ?c_is_integer_ ?k_is_integer ?a_is_number ?l_is_number ?c_is_number_ ?k_is_number ?a_is_tuple_of ?l_is_tuple_of ?c_is_tuple_of_ ?k_is_tuple_of ?a_is_far_amount ?l_is_far_amount ?c_is_far_amount_ ?k_is_far_amount ?a_is_foresight ?l_is_foresight ?c_is_foresight_ ?k_is_foresight ?a_kind_of ?l_kind_of ?c_kind_of_ ?k_kind_of ?a_long_streams ?l_long_streams ?c_long_streams_ ?k_long_streams ?a_is_within_bounds ?l_is_within_bounds ?c_is_within_bounds_ ?k_is_within_bounds ?a_check_foresight ?l_check_foresight ?c_check_foresight_ ?k_check_foresight ?a__law_tower ?l__law_tower ?c__law_tower_ ?k__law_tower ?a__law_peal ?l__law_peal ?c__law_peal_ ?k__law_peal ?a__law_machine ?l__law_machine ?c__law_machine_ ?k__law_machine ?a__law_number ?l__law_number ?c__law_number_ ?k__law_number ?a__law_word ?l__law_word ?c__law_word_ ?k__law_word ?a__law_is ?l__law_is ?c__law_is_ ?k__law_is ?a__law_count ?l__law_count ?c__law_count_ ?k__law_count ?a__law_foresight ?l__law_foresight ?c__law_foresight_ ?k__law_foresight ?a__law_edge ?l__law_edge ?c__law_edge_ ?k__law_edge ?a__law_odd ?l__law_odd ?c__law_odd_ ?k__law_odd ?a__law_same ?l__law_same ?c__law_same_ ?k__law_same ?a__law_heard ?l__law_heard ?c__law_heard_ ?k__law_heard ?a__law_asked ?l__law_asked ?c__law_asked_ ?k__law_asked ?a_law ?l_law ?c_law_ ?k_law ?r_is_foresight ?q_is_foresight ?v_is_foresight ?z_abs ?z_all ?z_bool ?z_enumerate ?z_int ?z_isinstance ?z_len ?z_list ?z_min ?z_range ?z_str ?z_tuple ?z_zip ?g_FORESIGHT_MOST ?g_POSITIONS_MOST ?g_STANDS_MOST ?ca_FarError ?ca_BadStep ?ce_BadStep ?ci_BadStep ?ct_BadStep ?ce_FarError ?ci_FarError ?ct_FarError ?cs_BadStep_BadStep ?cs_BadStep_FarError ?xa_BadStep ?xb_BadStep ?xc_BadStep ?xd_BadStep ?xn_BadStep_word ?e_opq ?e_sup ?e_top ?ol_BadStep ?orv_BadStep ?osa_BadStep ?oe_BadStep ?ot_BadStep ?ok_BadStep_ ?oi_BadStep ?oti_BadStep ?oli_BadStep ?oci_BadStep ?olc_BadStep ?ov_BadStep ?of_BadStep ?occ_BadStep ?osp_BadStep ?osv_BadStep ?osc_BadStep
    (case a_many_stands => k_is)
    (case l_many_stands => k_is)
    (case c_many_stands_ => k_is)
    (case k_many_stands => k_is)
    (case a_is_integer => k_is)
    (case l_is_integer => k_is)
    (case c_is_integer_ => k_is)
    (case k_is_integer => k_is)
    (case a_is_number => k_is)
    (case l_is_number => k_is)
    (case c_is_number_ => k_is)
    (case k_is_number => k_is)
    (case a_is_tuple_of => k_is)
    (case l_is_tuple_of => k_is)
    (case c_is_tuple_of_ => k_is)
    (case k_is_tuple_of => k_is)
    (case a_is_far_amount => k_is)
    (case l_is_far_amount => k_is)
    (case c_is_far_amount_ => k_is)
    (case k_is_far_amount => k_is)
    (case a_is_foresight => k_is)
    (case l_is_foresight => k_is)
    (case c_is_foresight_ => k_is)
    (case k_is_foresight => k_is)
    (case a_kind_of => k_is)
    (case l_kind_of => k_is)
    (case c_kind_of_ => k_is)
    (case k_kind_of => k_is)
    (case a_long_streams => k_is)
    (case l_long_streams => k_is)
    (case c_long_streams_ => k_is)
    (case k_long_streams => k_is)
    (case a_is_within_bounds => k_is)
    (case l_is_within_bounds => k_is)
    (case c_is_within_bounds_ => k_is)
    (case k_is_within_bounds => k_is)
    (case a_check_foresight => k_is)
    (case l_check_foresight => k_is)
    (case c_check_foresight_ => k_is)
    (case k_check_foresight => k_is)
    (case a__law_tower => k_is)
    (case l__law_tower => k_is)
    (case c__law_tower_ => k_is)
    (case k__law_tower => k_is)
    (case a__law_peal => k_is)
    (case l__law_peal => k_is)
    (case c__law_peal_ => k_is)
    (case k__law_peal => k_is)
    (case a__law_machine => k_is)
    (case l__law_machine => k_is)
    (case c__law_machine_ => k_is)
    (case k__law_machine => k_is)
    (case a__law_number => k_is)
    (case l__law_number => k_is)
    (case c__law_number_ => k_is)
    (case k__law_number => k_is)
    (case a__law_word => k_is)
    (case l__law_word => k_is)
    (case c__law_word_ => k_is)
    (case k__law_word => k_is)
    (case a__law_is => k_is)
    (case l__law_is => k_is)
    (case c__law_is_ => k_is)
    (case k__law_is => k_is)
    (case a__law_count => k_is)
    (case l__law_count => k_is)
    (case c__law_count_ => k_is)
    (case k__law_count => k_is)
    (case a__law_foresight => k_is)
    (case l__law_foresight => k_is)
    (case c__law_foresight_ => k_is)
    (case k__law_foresight => k_is)
    (case a__law_edge => k_is)
    (case l__law_edge => k_is)
    (case c__law_edge_ => k_is)
    (case k__law_edge => k_is)
    (case a__law_odd => k_is)
    (case l__law_odd => k_is)
    (case c__law_odd_ => k_is)
    (case k__law_odd => k_is)
    (case a__law_same => k_is)
    (case l__law_same => k_is)
    (case c__law_same_ => k_is)
    (case k__law_same => k_is)
    (case a__law_heard => k_is)
    (case l__law_heard => k_is)
    (case c__law_heard_ => k_is)
    (case k__law_heard => k_is)
    (case a__law_asked => k_is)
    (case l__law_asked => k_is)
    (case c__law_asked_ => k_is)
    (case k__law_asked => k_is)
    (case a_law => k_is)
    (case l_law => k_is)
    (case c_law_ => k_is)
    (case k_law => k_is)
    (case r_is_foresight => first | rfl | decide +kernel)
    (case q_is_foresight => k_is)
    (case v_is_foresight => first | rfl | decide +kernel)
    (case z_abs => k_is)
    (case z_all => k_is)
    (case z_bool => k_is)
    (case z_enumerate => k_is)
    (case z_int => k_is)
    (case z_isinstance => k_is)
    (case z_len => k_is)
    (case z_list => k_is)
    (case z_min => k_is)
    (case z_range => k_is)
    (case z_str => k_is)
    (case z_tuple => k_is)
    (case z_zip => k_is)
    (case g_FORESIGHT_MOST => k_is)
    (case g_POSITIONS_MOST => k_is)
    (case g_STANDS_MOST => k_is)
    (case ca_FarError => k_is)
    (case ca_BadStep => k_is)
    (case ce_BadStep => k_is)
    (case ci_BadStep => k_is)
    (case ct_BadStep => k_is)
    (case ce_FarError => k_is)
    (case ci_FarError => k_is)
    (case ct_FarError => k_is)
    (case cs_BadStep_BadStep => k_is)
    (case cs_BadStep_FarError => k_is)
    (case xa_BadStep => k_is)
    (case xb_BadStep => k_is)
    (case xc_BadStep => k_is)
    (case xd_BadStep => k_is)
    (case xn_BadStep_word => k_is)
    (case e_opq => k_is)
    (case e_sup => k_is)
    (case e_top => first | rfl | decide +kernel)
    (case ol_BadStep => k_is)
    (case orv_BadStep => first | rfl | decide +kernel)
    (case osa_BadStep => k_is)
    (case oe_BadStep => k_is)
    (case ot_BadStep => k_is)
    (case ok_BadStep_ => k_is)
    (case oi_BadStep => k_is)
    (case oti_BadStep => k_is)
    (case oli_BadStep => k_is)
    (case oci_BadStep => k_is)
    (case olc_BadStep => k_is)
    (case ov_BadStep => first | rfl | decide +kernel)
    (case of_BadStep => first | rfl | decide +kernel)
    (case occ_BadStep => k_is)
    (case osp_BadStep => ks_is)
    (case osv_BadStep => k_is)
    (case osc_BadStep => k_is)
  case T =>
    refine' Lw.tabs_all hp ?a_is_foresight ?l_is_foresight ?r_is_foresight ?q_is_foresight ?v_is_foresight ?n_is_foresight
    (case a_is_foresight => k_is)
    (case l_is_foresight => k_is)
    (case r_is_foresight => first | rfl | decide +kernel)
    (case q_is_foresight => k_is)
    (case v_is_foresight => first | rfl | decide +kernel)
    (case n_is_foresight => first | rfl | decide +kernel)
end
