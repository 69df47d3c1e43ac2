import PyProof.Rows.All
import Wide.All
import OpenK.AllK
import Wide.FinOn
import HandS.ForMost
import HandS.TupAny
import HandS.TupMul
import HandS.Zip
import HandS.IsInst
import HandS.NoneIn
import HandS.Wide
import HandS.More
import HandS.TryOnly
import PySem.Challenge.RW_foresightenough_k07_pattern_looks
set_option Elab.async false
set_option linter.all false
set_option maxRecDepth 100000
section
set_option maxHeartbeats 4000000
/-! DL0: values as trees over the hand layer. A tuple is a tree; a list, a dict is an address of the store M. -/
namespace DL
open PySem L2

inductive D where
  | non | bl (b : Bool) | int (i : Int) | str (x : Str) | tup (ds : List D) | ref (a : Addr) | fl (ds : List D)

/-- a read-only list: locked, or written at the top -/
def RdL (K : PySem.W.Frag) (H : Hp) (a : Addr) (xs : List V) : Prop :=
  (∃ o, H a = some (.frz o (.lst xs))) ∨
    ∃ (o : Obj) (its : Array Value) (n : Nat), K.lookup a = some o ∧ o.cls = .type "list" ∧ o.dict = none ∧ o.data = .seq its n ∧ its.size ≤ sizeLine ∧ Vals xs its.toList
theorem RdL.sq {K : PySem.W.Frag} {H : Hp} {a : Addr} {xs : List V} (h : RdL K H a xs) : SqL K H a xs := by
  rcases h with ⟨o, h⟩ | h
  · exact .inl (.inr ⟨o, h⟩)
  · exact .inr h

mutual
inductive Rep (K : PySem.W.Frag) (H : Hp) : V → D → Prop
  | non : Rep K H .non .non
  | bl (b : Bool) : Rep K H (.bl b) (.bl b)
  | int (i : Int) : Rep K H (.int i) (.int i)
  | str (x : Str) : Rep K H (.str x) (.str x)
  | ref (a : Addr) : Rep K H (.ref a) (.ref a)
  | tup {a : Addr} {vs : List V} {ds : List D} : SqT K H a vs → Reps K H vs ds → Rep K H (.ref a) (.tup ds)
  | fl {a : Addr} {vs : List V} {ds : List D} : RdL K H a vs → Reps K H vs ds → Rep K H (.ref a) (.fl ds)
inductive Reps (K : PySem.W.Frag) (H : Hp) : List V → List D → Prop
  | nil : Reps K H [] []
  | cons {v : V} {vs : List V} {d : D} {ds : List D} : Rep K H v d → Reps K H vs ds → Reps K H (v :: vs) (d :: ds)
end

/-- what stands at an address of the store -/
inductive MO where
  | lst (ds : List D)
  | dct (kvs : List (Key × D))
abbrev St (α : Type) := α
abbrev Mp := Addr → Option MO
def mupd (M : Mp) (a : Addr) (o : MO) : Mp := fun b => if b = a then some o else M b
theorem mupd_same {M : Mp} {a : Addr} {o : MO} : mupd M a o a = some o := by unfold mupd; rw [if_pos rfl]
theorem mupd_ne {M : Mp} {a b : Addr} {o : MO} (h : b ≠ a) : mupd M a o b = M b := by unfold mupd; rw [if_neg h]
theorem mupd_upd {M : Mp} {a : Addr} {o u : MO} : mupd (mupd M a o) a u = mupd M a u := by
  funext b; unfold mupd; split <;> rfl

inductive KReps (K : PySem.W.Frag) (H : Hp) : List (Key × V) → List (Key × D) → Prop
  | nil : KReps K H [] []
  | cons {k : Key} {v : V} {d : D} {vs : List (Key × V)} {ds : List (Key × D)} : Rep K H v d → KReps K H vs ds → KReps K H ((k, v) :: vs) ((k, d) :: ds)

def RepO (K : PySem.W.Frag) (H : Hp) (a : Addr) : MO → Prop
  | .lst ds => ∃ vs, H a = some (.lst vs) ∧ Reps K H vs ds
  | .dct kvs => ∃ ks, H a = some (.dK ks) ∧ KReps K H ks kvs
def RepM (K : PySem.W.Frag) (H : Hp) (M : Mp) : Prop := ∀ a o, M a = some o → RepO K H a o

/-- what is not of the store stands as it stood, and does not come to it -/
def Step (M : Mp) (H : Hp) (M' : Mp) (H' : Hp) : Prop := ∀ a o, H a = some o → M a = none → H' a = some o ∧ M' a = none
theorem Step.refl {M : Mp} {H : Hp} : Step M H M H := fun _ _ h m => ⟨h, m⟩
theorem Step.trans {M M1 M2 : Mp} {H H1 H2 : Hp} (a : Step M H M1 H1) (b : Step M1 H1 M2 H2) : Step M H M2 H2 := fun x o h m =>
  b x o (a x o h m).1 (a x o h m).2

section
variable {K : PySem.W.Frag} {M M' : Mp} {H H' : Hp}
theorem RepM.tupNone {a : Addr} {xs : List V} (hM : RepM K H M) (h : Rd H a (.tup xs)) : M a = none := by
  cases e : M a with
  | none => rfl
  | some o =>
    have r := hM a o e
    cases o with
    | lst ds =>
      obtain ⟨vs, h1, _⟩ := r
      rcases h with h | ⟨o, h⟩ <;> rw [h] at h1 <;> cases h1
    | dct kvs =>
      obtain ⟨ks, h1, _⟩ := r
      rcases h with h | ⟨o, h⟩ <;> rw [h] at h1 <;> cases h1
theorem SqT.step {a : Addr} {xs : List V} (hM : RepM K H M) (st : Step M H M' H') (h : SqT K H a xs) : SqT K H' a xs := by
  rcases h with h | h
  · have hn := hM.tupNone h
    rcases h with h | ⟨o, h⟩
    · exact .inl (.inl (st _ _ h hn).1)
    · exact .inl (.inr ⟨o, (st _ _ h hn).1⟩)
  · exact .inr h
theorem RepM.frzNone {a : Addr} {o : Obj} {u : HO} (hM : RepM K H M) (h : H a = some (.frz o u)) : M a = none := by
  cases e : M a with
  | none => rfl
  | some o =>
    have r := hM a o e
    cases o with
    | lst ds => obtain ⟨vs, h1, _⟩ := r; rw [h] at h1; cases h1
    | dct kvs => obtain ⟨ks, h1, _⟩ := r; rw [h] at h1; cases h1
theorem RdL.step {a : Addr} {xs : List V} (hM : RepM K H M) (st : Step M H M' H') (h : RdL K H a xs) : RdL K H' a xs := by
  rcases h with ⟨o, h⟩ | h
  · exact .inl ⟨o, (st _ _ h (hM.frzNone h)).1⟩
  · exact .inr h
mutual
theorem Rep.step (hM : RepM K H M) (st : Step M H M' H') : ∀ {v : V} {d : D}, Rep K H v d → Rep K H' v d
  | _, _, .non => .non
  | _, _, .bl b => .bl b
  | _, _, .int i => .int i
  | _, _, .str x => .str x
  | _, _, .ref a => .ref a
  | _, _, .tup h r => .tup (SqT.step hM st h) (Reps.step hM st r)
  | _, _, .fl h r => .fl (RdL.step hM st h) (Reps.step hM st r)
theorem Reps.step (hM : RepM K H M) (st : Step M H M' H') : ∀ {vs : List V} {ds : List D}, Reps K H vs ds → Reps K H' vs ds
  | _, _, .nil => .nil
  | _, _, .cons r t => .cons (Rep.step hM st r) (Reps.step hM st t)
end
theorem KReps.step (hM : RepM K H M) (st : Step M H M' H') {vs : List (Key × V)} {ds : List (Key × D)} (h : KReps K H vs ds) : KReps K H' vs ds := by
  induction h with
  | nil => exact .nil
  | cons r _ ih => exact .cons (Rep.step hM st r) ih
theorem Reps.length : ∀ {vs : List V} {ds : List D}, Reps K H vs ds → vs.length = ds.length
  | _, _, .nil => rfl
  | _, _, .cons _ t => by rw [List.length_cons, List.length_cons, Reps.length t]
theorem Reps.append : ∀ {vs ws : List V} {ds es : List D}, Reps K H vs ds → Reps K H ws es → Reps K H (vs ++ ws) (ds ++ es)
  | _, _, _, _, .nil, s => s
  | _, _, _, _, .cons r t, s => .cons r (Reps.append t s)
theorem Reps.get : ∀ {vs : List V} {ds : List D} {i : Nat} {d : D}, Reps K H vs ds → ds[i]? = some d → ∃ v, vs[i]? = some v ∧ Rep K H v d
  | _, _, _, _, .nil, e => by simp at e
  | _, _, 0, d, .cons r _, e => by simp at e; subst e; exact ⟨_, rfl, r⟩
  | _, _, i + 1, d, .cons _ t, e => by
    obtain ⟨v, h1, h2⟩ := Reps.get (i := i) (d := d) t (by simpa using e)
    exact ⟨v, by simpa using h1, h2⟩
theorem Reps.getV : ∀ {vs : List V} {ds : List D} {i : Nat} {v : V}, Reps K H vs ds → vs[i]? = some v → ∃ d, ds[i]? = some d ∧ Rep K H v d
  | _, _, _, _, .nil, e => by simp at e
  | _, _, 0, d, .cons r _, e => by simp at e; subst e; exact ⟨_, rfl, r⟩
  | _, _, i + 1, v, .cons _ t, e => by
    obtain ⟨d, h1, h2⟩ := Reps.getV (i := i) (v := v) t (by simpa using e)
    exact ⟨d, by simpa using h1, h2⟩
theorem Reps.set {v : V} {d : D} (r : Rep K H v d) : ∀ {vs : List V} {ds : List D} (i : Nat), Reps K H vs ds → Reps K H (vs.set i v) (ds.set i d)
  | _, _, _, .nil => .nil
  | _, _, 0, .cons _ t => .cons r t
  | _, _, i + 1, .cons q t => .cons q (Reps.set r i t)
theorem Reps.take : ∀ {vs : List V} {ds : List D} (n : Nat), Reps K H vs ds → Reps K H (vs.take n) (ds.take n)
  | _, _, 0, _ => .nil
  | _, _, _ + 1, .nil => .nil
  | _, _, n + 1, .cons r t => .cons r (Reps.take n t)
theorem Reps.drop : ∀ {vs : List V} {ds : List D} (n : Nat), Reps K H vs ds → Reps K H (vs.drop n) (ds.drop n)
  | _, _, 0, r => r
  | _, _, _ + 1, .nil => .nil
  | _, _, n + 1, .cons _ t => Reps.drop n t
theorem Reps.dropLast {vs : List V} {ds : List D} (h : Reps K H vs ds) : Reps K H vs.dropLast ds.dropLast := by
  rw [List.dropLast_eq_take, List.dropLast_eq_take, h.length]
  exact h.take _
theorem Reps.rep {vs : List V} {ds : List D} (h : Reps K H vs ds) : ∀ n : Nat, Reps K H (List.replicate n vs).flatten (List.replicate n ds).flatten
  | 0 => .nil
  | n + 1 => by
    rw [List.replicate_succ, List.replicate_succ, List.flatten_cons, List.flatten_cons]
    exact h.append (Reps.rep h n)
theorem Reps.nilV {ds : List D} (h : Reps K H [] ds) : ds = [] := by cases h; rfl
theorem Reps.nilD {vs : List V} (h : Reps K H vs []) : vs = [] := by cases h; rfl

/-- the store behind a step: every object of it stands again -/
theorem RepM.sub (hM : RepM K H M) (h : ∀ a o, M' a = some o → M a = some o) : RepM K H M' := fun a o e => hM a o (h a o e)
theorem RepM.fresh (hM : RepM K H M) {p : Addr} (hp : H p = none) : M p = none := by
  cases e : M p with
  | none => rfl
  | some o =>
    have r := hM p o e
    cases o with
    | lst ds =>
      obtain ⟨vs, h1, _⟩ := r
      rw [hp] at h1
      cases h1
    | dct kvs =>
      obtain ⟨vs, h1, _⟩ := r
      rw [hp] at h1
      cases h1
theorem fresh_ne {p a : Addr} {o : MO} (h : M p = none) (e : M a = some o) : a ≠ p := by
  intro z; subst z
  rw [e] at h; cases h
/-- a new object, not of the store (a tuple) -/
theorem Step.new {p : Addr} {o : HO} (hp : H p = none) : Step M H M (upd H p o) := fun a u e m => ⟨by rw [upd_ne (ne_of_none e hp)]; exact e, m⟩
/-- a new object of the store -/
theorem Step.newM {p : Addr} {o : HO} {u : MO} (hp : H p = none) : Step M H (mupd M p u) (upd H p o) := fun a v e m => by
  have hn : a ≠ p := ne_of_none e hp
  exact ⟨by rw [upd_ne hn]; exact e, by rw [mupd_ne hn]; exact m⟩
/-- an object of the store turns -/
theorem Step.mut {p : Addr} {o : HO} {u v : MO} (hp : M p = some v) : Step M H (mupd M p u) (upd H p o) := fun a w e m => by
  have hn : a ≠ p := fun z => by subst z; rw [hp] at m; cases m
  exact ⟨by rw [upd_ne hn]; exact e, by rw [mupd_ne hn]; exact m⟩
theorem RepO.step (hM : RepM K H M) (st : Step M H M' H') {a : Addr} {o : MO} (h : RepO K H a o) (e : H' a = H a) : RepO K H' a o := by
  cases o with
  | lst ds => obtain ⟨vs, h1, h2⟩ := h; exact ⟨vs, e.trans h1, h2.step hM st⟩
  | dct kvs => obtain ⟨vs, h1, h2⟩ := h; exact ⟨vs, e.trans h1, h2.step hM st⟩
theorem RepM.new (hM : RepM K H M) {p : Addr} {o : HO} (hp : H p = none) : RepM K (upd H p o) M := fun a u e => by
  have hn : a ≠ p := fresh_ne (hM.fresh hp) e
  exact RepO.step hM (Step.new hp) (hM a u e) (upd_ne hn)
theorem RepM.newM (hM : RepM K H M) {p : Addr} {o : HO} {u : MO} (hp : H p = none) (r : RepO K (upd H p o) p u) : RepM K (upd H p o) (mupd M p u) := fun a v e => by
  by_cases hn : a = p
  · subst hn
    rw [mupd_same] at e
    cases e
    exact r
  · rw [mupd_ne hn] at e
    exact RepO.step hM (Step.newM (u := u) hp) (hM a v e) (upd_ne hn)
theorem RepM.mut (hM : RepM K H M) {p : Addr} {o : HO} {u v : MO} (hp : M p = some v) (r : RepO K (upd H p o) p u) : RepM K (upd H p o) (mupd M p u) := fun a w e => by
  by_cases hn : a = p
  · subst hn
    rw [mupd_same] at e
    cases e
    exact r
  · rw [mupd_ne hn] at e
    exact RepO.step hM (Step.mut (u := u) hp) (hM a w e) (upd_ne hn)
end
/-! ### what is kept of tuples -/
def KT (H H' : Hp) : Prop := (∀ a xs, H a = some (.tup xs) → H' a = some (.tup xs)) ∧ ∀ a o u, H a = some (.frz o u) → H' a = some (.frz o u)
theorem KT.sq {K : PySem.W.Frag} {H H' : Hp} (k : KT H H') {a : Addr} {xs : List V} (h : SqT K H a xs) : SqT K H' a xs := by
  rcases h with (h | ⟨o, h⟩) | h
  · exact .inl (.inl (k.1 _ _ h))
  · exact .inl (.inr ⟨o, k.2 _ _ _ h⟩)
  · exact .inr h
mutual
theorem Rep.kt {K : PySem.W.Frag} {H H' : Hp} (k : KT H H') : ∀ {v : V} {d : D}, Rep K H v d → Rep K H' v d
  | _, _, .non => .non
  | _, _, .bl b => .bl b
  | _, _, .int i => .int i
  | _, _, .str x => .str x
  | _, _, .ref a => .ref a
  | _, _, .tup h r => .tup (k.sq h) (Reps.kt k r)
  | _, _, .fl h r => .fl (by rcases h with ⟨o, h⟩ | h; exact .inl ⟨o, k.2 _ _ _ h⟩; exact .inr h) (Reps.kt k r)
theorem Reps.kt {K : PySem.W.Frag} {H H' : Hp} (k : KT H H') : ∀ {vs : List V} {ds : List D}, Reps K H vs ds → Reps K H' vs ds
  | _, _, .nil => .nil
  | _, _, .cons r t => .cons (Rep.kt k r) (Reps.kt k t)
end
theorem KReps.kt {K : PySem.W.Frag} {H H' : Hp} (k : KT H H') {vs : List (Key × V)} {ds : List (Key × D)} (h : KReps K H vs ds) : KReps K H' vs ds := by
  induction h with
  | nil => exact .nil
  | cons r _ ih => exact .cons (Rep.kt k r) ih
theorem RepO.kt {K : PySem.W.Frag} {H H' : Hp} (k : KT H H') {a : Addr} {o : MO} (h : RepO K H a o) (e : H' a = H a) : RepO K H' a o := by
  cases o with
  | lst ds => obtain ⟨vs, h1, h2⟩ := h; exact ⟨vs, e.trans h1, h2.kt k⟩
  | dct kvs => obtain ⟨vs, h1, h2⟩ := h; exact ⟨vs, e.trans h1, h2.kt k⟩
/-- a list that is not of the store turns -/
theorem KT.lst {H : Hp} {L : Addr} {vs : List V} {u : HO} (h : H L = some (.lst vs)) : KT H (upd H L u) :=
  ⟨fun a xs e => by rw [upd_ne (ne_of e h (by intro z; cases z))]; exact e, fun a o w e => by rw [upd_ne (ne_of e h (by intro z; cases z))]; exact e⟩

theorem KT.trans {H H1 H2 : Hp} (a : KT H H1) (b : KT H1 H2) : KT H H2 := ⟨fun x xs e => b.1 _ _ (a.1 _ _ e), fun x o u e => b.2 _ _ _ (a.2 _ _ _ e)⟩
theorem KT.refl {H : Hp} : KT H H := ⟨fun _ _ e => e, fun _ _ _ e => e⟩
theorem Step.kt {K : PySem.W.Frag} {M M' : Mp} {H H' : Hp} (hM : RepM K H M) (s : Step M H M' H') : KT H H' := ⟨fun a xs e => (s _ _ e (hM.tupNone (.inl e))).1, fun a o u e => (s _ _ e (hM.frzNone e)).1⟩
theorem RdL.kt {K : PySem.W.Frag} {H H' : Hp} (k : KT H H') {a : Addr} {xs : List V} (h : RdL K H a xs) : RdL K H' a xs := by
  rcases h with ⟨o, h⟩ | h
  · exact .inl ⟨o, k.2 _ _ _ h⟩
  · exact .inr h
end DL
end
section
set_option maxHeartbeats 4000000
/-! DL1: the judgements over trees: expressions, tests, arguments, statements. -/
namespace DL
open PySem L2

abbrev Gm := List (Option D)
def gv : Gm → Nat → Option D
  | [], _ => none
  | o :: _, 0 => o
  | _ :: r, n + 1 => gv r n
theorem gv_get : ∀ {Γ : Gm} {i : Nat} {d : D}, gv Γ i = some d → Γ[i]? = some (some d)
  | [], _, _, h => by cases h
  | o :: r, 0, d, h => by
    have h' : o = some d := h
    simp [h']
  | _ :: r, n + 1, d, h => by
    have h' : gv r n = some d := h
    simpa using gv_get h'
/-- a slot changed -/
def sv : Gm → Nat → D → Gm
  | [], _, _ => []
  | _ :: r, 0, d => some d :: r
  | o :: r, n + 1, d => o :: sv r n d
theorem sv_set : ∀ (Γ : Gm) (i : Nat) (d : D), sv Γ i d = Γ.set i (some d)
  | [], _, _ => rfl
  | _ :: _, 0, _ => rfl
  | o :: r, n + 1, d => by show o :: sv r n d = o :: r.set n (some d); rw [sv_set]
def RG (K : PySem.W.Frag) (H : Hp) (σ : L2.St) (Γ : Gm) : Prop := σ.length = Γ.length ∧ ∀ (i : Nat) (d : D), Γ[i]? = some (some d) → ∃ v, σ[i]? = some (some v) ∧ Rep K H v d

abbrev DK := D → Mp → Prop
abbrev DE := Gm → Mp → DK → Prop
abbrev DT := Gm → Mp → (Bool → Mp → Prop) → Prop
abbrev DA := Gm → Mp → (List D → Mp → Prop) → Prop
abbrev DO := Gm → Mp → (Option Int → Mp → Prop) → Prop
def Lift (K : PySem.W.Frag) (M : Mp) (H : Hp) (Qd : DK) (Q : VK) : Prop := ∀ d M' v H', Qd d M' → Step M H M' H' → Rep K H' v d → RepM K H' M' → Q v H'
def SE (K : PySem.W.Frag) (te : TE) (t : DE) : Prop := ∀ σ H Γ M Qd Q, RG K H σ Γ → RepM K H M → t Γ M Qd → Lift K M H Qd Q → te σ H Q
def ST (K : PySem.W.Frag) (te : TT) (t : DT) : Prop := ∀ σ H Γ M (Qd : Bool → Mp → Prop) (Q : Bool → Hp → Prop), RG K H σ Γ → RepM K H M → t Γ M Qd → (∀ b M' H', Qd b M' → Step M H M' H' → RepM K H' M' → Q b H') → te σ H Q
def SA (K : PySem.W.Frag) (te : TA) (t : DA) : Prop := ∀ σ H Γ M (Qd : List D → Mp → Prop) (Q : List V → Hp → Prop), RG K H σ Γ → RepM K H M → t Γ M Qd → (∀ ds M' vs H', Qd ds M' → Step M H M' H' → Reps K H' vs ds → RepM K H' M' → Q vs H') → te σ H Q
def SO (K : PySem.W.Frag) (te : TO) (t : DO) : Prop := ∀ σ H Γ M (Qd : Option Int → Mp → Prop) (Q : Option Int → Hp → Prop), RG K H σ Γ → RepM K H M → t Γ M Qd → (∀ o M' H', Qd o M' → Step M H M' H' → RepM K H' M' → Q o H') → te σ H Q
structure PD (X : Cx) (K : PySem.W.Frag) (e : Expr) (s : TE) (t : DE) : Prop where
  hK : X.K = K
  pe : PE X e s
  se : SE K s t
structure PDT (X : Cx) (K : PySem.W.Frag) (e : Expr) (s : TT) (t : DT) : Prop where
  hK : X.K = K
  pe : PT X e s
  se : ST K s t
structure PDW (X : Cx) (K : PySem.W.Frag) (e : Expr) (s : TT) (t : DT) : Prop where
  hK : X.K = K
  pe : PW X e s
  se : ST K s t
structure PDA (X : Cx) (K : PySem.W.Frag) (es : List Expr) (s : TA) (t : DA) : Prop where
  hK : X.K = K
  pe : PA X es s
  se : SA K s t
structure PDO (X : Cx) (K : PySem.W.Frag) (e : Option Expr) (s : TO) (t : DO) : Prop where
  hK : X.K = K
  pe : PO X e s
  se : SO K s t
/-- a statement -/
structure DEnds where
  nx : Gm → Mp → Prop
  rt : DK
  bk : Gm → Mp → Prop := fun _ _ => False
  ct : Gm → Mp → Prop := fun _ _ => False
abbrev DS := DEnds → Gm → Mp → Prop
def LiftG (K : PySem.W.Frag) (M : Mp) (H : Hp) (f : Gm → Mp → Prop) (g : L2.St → Hp → Prop) : Prop := ∀ Γ' M' σ' H', f Γ' M' → Step M H M' H' → RG K H' σ' Γ' → RepM K H' M' → g σ' H'
structure LiftS (K : PySem.W.Frag) (M : Mp) (H : Hp) (F : DEnds) (E : Ends) : Prop where
  nx : LiftG K M H F.nx E.nx
  rt : Lift K M H F.rt E.rt
  bk : LiftG K M H F.bk E.bk
  ct : LiftG K M H F.ct E.ct
def SS (K : PySem.W.Frag) (ts : TS) (t : DS) : Prop := ∀ σ H Γ M F E, RG K H σ Γ → RepM K H M → t F Γ M → LiftS K M H F E → ts E σ H
structure PDS (X : Cx) (K : PySem.W.Frag) (st : Stmt) (s : TS) (t : DS) : Prop where
  hK : X.K = K
  pe : PS X st s
  se : SS K s t
structure PDSs (X : Cx) (K : PySem.W.Frag) (st : List Stmt) (s : TS) (t : DS) : Prop where
  hK : X.K = K
  pe : PSs X st s
  se : SS K s t

section
variable {K : PySem.W.Frag} {M M1 M2 : Mp} {H H1 H2 : Hp} {σ : L2.St} {Γ : Gm}
theorem RG.step (hM : RepM K H M) (st : Step M H M1 H1) (h : RG K H σ Γ) : RG K H1 σ Γ := ⟨h.1, fun i d e => by
  obtain ⟨v, h1, h2⟩ := h.2 i d e
  exact ⟨v, h1, h2.step hM st⟩⟩
theorem RG.set {v : V} {d : D} (h : RG K H σ Γ) (r : Rep K H v d) (i : Nat) : RG K H (σ.set i (some v)) (sv Γ i d) := by
  rw [sv_set]
  refine ⟨by rw [List.length_set, List.length_set]; exact h.1, fun j e hj => ?_⟩
  rw [List.getElem?_set] at hj ⊢
  by_cases q : i = j
  · subst q
    rw [if_pos rfl] at hj ⊢
    by_cases l : i < Γ.length
    · rw [if_pos l] at hj
      rw [if_pos (by rw [h.1]; exact l)]
      cases hj
      exact ⟨v, rfl, r⟩
    · rw [if_neg l] at hj
      cases hj
  · rw [if_neg q] at hj ⊢
    exact h.2 j e hj
theorem Lift.step {Qd : DK} {Q : VK} (h : Lift K M H Qd Q) (st : Step M H M1 H1) : Lift K M1 H1 Qd Q := fun d M' v H' q s r m => h d M' v H' q (st.trans s) r m
theorem LiftG.step {f : Gm → Mp → Prop} {g : L2.St → Hp → Prop} (h : LiftG K M H f g) (st : Step M H M1 H1) : LiftG K M1 H1 f g := fun d M' v H' q s r m => h d M' v H' q (st.trans s) r m
theorem LiftS.step {F : DEnds} {E : Ends} (h : LiftS K M H F E) (st : Step M H M1 H1) : LiftS K M1 H1 F E := ⟨h.nx.step st, h.rt.step st, h.bk.step st, h.ct.step st⟩
end

section
variable {X : Cx} {K : PySem.W.Frag} {a b c e : Expr} {sta stb ste : TE} {stt stu : TT} {ta tb te : DE} {tt tu : DT} {pos : Pos}

/-- a bool, and what is wanted of it -/
def asB (d : D) (f : Bool → Prop) : Prop := match d with
  | .bl c => f c
  | _ => False
theorem bool_of {K : PySem.W.Frag} {H : Hp} {x : V} {d : D} {f : Bool → Prop} (r : Rep K H x d) (h : asB d f) : ∃ c, x = .bl c ∧ d = .bl c ∧ f c := by
  cases r with
  | bl c => exact ⟨c, rfl, rfl, h⟩
  | non => exact h.elim
  | int => exact h.elim
  | str => exact h.elim
  | ref => exact h.elim
  | tup => exact h.elim
  | fl => exact h.elim

/-! ### names, constants -/
def dVar (i : Nat) : DE := fun Γ M Q => match gv Γ i with
  | some d => Q d M
  | none => False
theorem pd_pe {i : Nat} (h : PE X e (tVar i)) (hK : X.K = K := by rfl) : PD X K e (tVar i) (dVar i) := by
  subst hK
  exact ⟨rfl, h, fun σ H Γ M Qd Q hg hM ht hL => by
  unfold dVar at ht
  cases q : gv Γ i with
  | none => rw [q] at ht; exact ht.elim
  | some d =>
    rw [q] at ht
    obtain ⟨v, h1, h2⟩ := hg.2 i d (gv_get q)
    exact ⟨v, h1, hL d M v H ht Step.refl h2 hM⟩⟩
theorem dv (i : Nat) {x : Str} {pos : Pos} (hN : X.N[i]? = some x := by rfl) (hv : Vis X.env.scope x := by first | exact Or.inl rfl | exact Or.inr (Or.inl rfl) | exact Or.inr (Or.inr rfl)) (hd : (x == ("__debug__" : Str)) = false := by decide)
    (hcd : (x == ("__classdict__" : Str)) = false := by decide) (hK : X.K = K := by rfl) : PD X K (.Name x pos) (tVar i) (dVar i) := pd_pe (pe_var hN hv hd hcd) hK
def dC (d : D) : DE := fun _ M Q => Q d M
theorem se_c {v : V} {d : D} (r : ∀ K H, Rep K H v d) (K : PySem.W.Frag) : SE K (tC v) (dC d) := fun σ H Γ M Qd Q hg hM ht hL => hL d M v H ht Step.refl (r K H) hM
theorem dint {i j} (hK : X.K = K := by rfl) : PD X K (.Constant (.int i) j pos) (tC (.int i)) (dC (.int i)) := by
  subst hK
  exact ⟨rfl, pe_int, se_c (fun _ _ => .int i) _⟩
theorem dbl {i j} (hK : X.K = K := by rfl) : PD X K (.Constant (.bool i) j pos) (tC (.bl i)) (dC (.bl i)) := by
  subst hK
  exact ⟨rfl, pe_bl, se_c (fun _ _ => .bl i) _⟩
theorem dnon {j} (hK : X.K = K := by rfl) : PD X K (.Constant .none j pos) (tC .non) (dC .non) := by
  subst hK
  exact ⟨rfl, pe_non, se_c (fun _ _ => .non) _⟩
theorem dstr {x j} (hK : X.K = K := by rfl) : PD X K (.Constant (.str x) j pos) (tC (.str x)) (dC (.str x)) := by
  subst hK
  exact ⟨rfl, pe_str, se_c (fun _ _ => .str x) _⟩
/-- a constant of the module (an int) -/
theorem dglobI {x : Str} {i : Int} {t : Tok} (hg : Gl X x) (hm : X.mg x = some (.int i t)) (hd : (x == ("__debug__" : Str)) = false := by decide) (hK : X.K = K := by rfl) : PD X K (.Name x pos) (tC (.int i)) (dC (.int i)) := by
  subst hK
  exact ⟨rfl, pe_glob (v := .int i) hg hm ⟨_, rfl⟩ hd, se_c (fun _ _ => .int i) _⟩

/-! ### two-place operations by values -/
abbrev O2 := D → D → Mp → DK → Prop
def SOp (K : PySem.W.Frag) (r : R2) (o : O2) : Prop := ∀ x y d e H M Qd Q, Rep K H x d → Rep K H y e → RepM K H M → o d e M Qd → Lift K M H Qd Q → r x y H Q
structure POp (X : Cx) (K : PySem.W.Frag) (f : Value → Value → Sem Value) (r : R2) (o : O2) : Prop where
  hK : X.K = K
  pe : OpR X f r
  se : SOp K r o
def dOp (o : O2) (ta tb : DE) : DE := fun Γ M Q => ta Γ M fun d M1 => tb Γ M1 fun e M2 => o d e M2 Q
theorem se_op {K : PySem.W.Frag} {r : R2} {o : O2} {sa sb : TE} (ho : SOp K r o) (ha : SE K sa ta) (hb : SE K sb tb) : SE K (tOp r sa sb) (dOp o ta tb) := fun σ H Γ M Qd Q hg hM ht hL =>
  ha σ H Γ M _ _ hg hM ht fun d M1 x H1 h1 s1 r1 m1 => hb σ H1 Γ M1 _ _ (hg.step hM s1) m1 h1 fun e M2 y H2 h2 s2 r2 m2 =>
    ho x y d e H2 M2 Qd Q (r1.step m1 s2) r2 m2 h2 (hL.step (s1.trans s2))
theorem dop {ro : R2} {op : Operator} {o : O2} (ho : POp X K (binaryOp op) ro o) (ha : PD X K a sta ta) (hb : PD X K b stb tb) : PD X K (.BinOp a op b pos) (tOp ro sta stb) (dOp o ta tb) := by
  have hK := ho.hK; subst hK
  obtain ⟨_, h1, h2⟩ := ho
  obtain ⟨_, p1, p2⟩ := ha
  obtain ⟨_, q1, q2⟩ := hb
  exact ⟨rfl, pe_op h1 p1 q1, se_op h2 p2 q2⟩
theorem dcmp {ro : R2} {op : CmpOp} {o : O2} (ho : POp X K (compareOp op) ro o) (ha : PD X K a sta ta) (hb : PD X K b stb tb) (hm : behindInMarks op b = false := by first | exact nomark _ | rfl) : PD X K (.Compare a [op] [b] pos) (tOp ro sta stb) (dOp o ta tb) := by
  have hK := ho.hK; subst hK
  obtain ⟨_, h1, h2⟩ := ho
  obtain ⟨_, p1, p2⟩ := ha
  obtain ⟨_, q1, q2⟩ := hb
  exact ⟨rfl, pe_cmpR h1 p1 q1 hm, se_op h2 p2 q2⟩
/-- a value that is a bool, as a test -/
def dB (t : DE) : DT := fun Γ M Q => t Γ M fun d M1 => asB d fun c => Q c M1
theorem st_test {K : PySem.W.Frag} {sa : TE} (ha : SE K sa ta) : ST K (tTest sa) (dB ta) := fun σ H Γ M Qd Q hg hM ht hL =>
  ha σ H Γ M _ _ hg hM ht fun d M1 x H1 h1 s1 r1 m1 => by
    obtain ⟨c, rfl, rfl, h1⟩ := bool_of r1 h1
    exact ⟨c, rfl, hL c M1 H1 h1 s1 m1⟩
theorem tcmp {ro : R2} {op : CmpOp} {o : O2} (ho : POp X K (compareOp op) ro o) (ha : PD X K a sta ta) (hb : PD X K b stb tb) (hm : behindInMarks op b = false := by first | exact nomark _ | rfl) : PDT X K (.Compare a [op] [b] pos) (tTest (tOp ro sta stb)) (dB (dOp o ta tb)) := by
  have hK := ho.hK; subst hK
  obtain ⟨_, h1, h2⟩ := ho
  obtain ⟨_, p1, p2⟩ := ha
  obtain ⟨_, q1, q2⟩ := hb
  exact ⟨rfl, pt_cmpR h1 p1 q1 hm, st_test (se_op h2 p2 q2)⟩
theorem tval (h : PD X K e ste te) (he : ∀ whole, isTrue e X.env whole = (do let v ← whole; standAt e.pos; holding [v] (truthy v)) := by intro _; rfl) : PDT X K e (tB ste) (dB te) := by
  have hK := h.hK; subst hK
  obtain ⟨_, p1, p2⟩ := h
  exact ⟨rfl, pt_val p1 he, st_test p2⟩
/-- truth of any value -/
def DTru (d : D) (M : Mp) (Q : Bool → Mp → Prop) : Prop := match d with
  | .non => Q false M
  | .bl b => Q b M
  | .int i => Q (i != 0) M
  | .str y => y.length ≤ sizeLine ∧ Q ((y.length : Int) != 0) M
  | .tup ds => Q (!ds.isEmpty) M
  | .fl ds => Q (!ds.isEmpty) M
  | .ref a => match M a with
    | some (.lst ds) => Q (!ds.isEmpty) M
    | some (.dct kvs) => Q (!kvs.isEmpty) M
    | none => False
def dTru (t : DE) : DT := fun Γ M Q => t Γ M fun d M1 => DTru d M1 Q
theorem reps_isEmpty {K : PySem.W.Frag} {H : Hp} {vs : List V} {ds : List D} (h : Reps K H vs ds) : (!vs.isEmpty) = (!ds.isEmpty) := by cases h <;> rfl
theorem kreps_isEmpty {K : PySem.W.Frag} {H : Hp} {vs : List (Key × V)} {ds : List (Key × D)} (h : KReps K H vs ds) : (!vs.isEmpty) = (!ds.isEmpty) := by cases h <;> rfl
theorem tru_of {K : PySem.W.Frag} {x : V} {d : D} {M : Mp} {H : Hp} {Qd : Bool → Mp → Prop} (r : Rep K H x d) (m : RepM K H M) (h : DTru d M Qd) : ∃ k, TruV K x H k ∧ Qd k M := by
  cases r with
  | non => exact ⟨false, rfl, h⟩
  | bl b => exact ⟨b, rfl, h⟩
  | int i => exact ⟨_, rfl, h⟩
  | str y => exact ⟨_, ⟨h.1, rfl⟩, h.2⟩
  | tup q r => exact ⟨_, .inr (.inl ⟨_, q, (reps_isEmpty r).symm⟩), h⟩
  | fl q r => exact ⟨_, .inl ⟨_, q.sq, (reps_isEmpty r).symm⟩, h⟩
  | ref a =>
    unfold DTru at h
    dsimp only at h
    cases e : M a with
    | none => rw [e] at h; exact h.elim
    | some o =>
      have ro := m a o e
      rw [e] at h
      cases o with
      | lst ds =>
        obtain ⟨vs, h1, h2⟩ := ro
        exact ⟨_, .inl ⟨_, SqL.of h1, (reps_isEmpty h2).symm⟩, h⟩
      | dct kvs =>
        obtain ⟨ks, h1, h2⟩ := ro
        exact ⟨_, .inr (.inr ⟨_, h1, (kreps_isEmpty h2).symm⟩), h⟩
theorem ttru (h : PD X K e ste te) (he : ∀ whole, isTrue e X.env whole = (do let v ← whole; standAt e.pos; holding [v] (truthy v)) := by intro _; rfl) : PDT X K e (fun σ H Q => ste σ H fun x H1 => ∃ k, TruV K x H1 k ∧ Q k H1) (dTru te) := by
  have hK := h.hK; subst hK
  obtain ⟨_, p1, p2⟩ := h
  refine ⟨rfl, pt_truth p1 he, fun σ H Γ M Qd Q hg hM ht hL => ?_⟩
  refine p2 σ H Γ M _ _ hg hM ht fun d M1 x H1 h1 s1 r1 m1 => ?_
  obtain ⟨k, h2, h3⟩ := tru_of r1 m1 h1
  exact ⟨k, h2, hL k M1 H1 h3 s1 m1⟩

/-! ### and, or, not, if-else -/
def dAnd (t u : DT) : DT := fun Γ M Q => t Γ M fun c M1 => if c = true then u Γ M1 Q else Q false M1
def dOr (t u : DT) : DT := fun Γ M Q => t Γ M fun c M1 => if c = true then Q true M1 else u Γ M1 Q
def dNot (t : DT) : DT := fun Γ M Q => t Γ M fun c M1 => Q (!c) M1
theorem st_and {K : PySem.W.Frag} {s u : TT} (hs : ST K s tt) (hu : ST K u tu) : ST K (tAnd s u) (dAnd tt tu) := fun σ H Γ M Qd Q hg hM ht hL =>
  hs σ H Γ M _ _ hg hM ht fun c M1 H1 h1 s1 m1 => by
    cases c with
    | true =>
      rw [if_pos rfl] at h1 ⊢
      exact hu σ H1 Γ M1 _ _ (hg.step hM s1) m1 h1 fun b M2 H2 h2 s2 m2 => hL b M2 H2 h2 (s1.trans s2) m2
    | false =>
      rw [if_neg Bool.false_ne_true] at h1 ⊢
      exact hL false M1 H1 h1 s1 m1
theorem st_or {K : PySem.W.Frag} {s u : TT} (hs : ST K s tt) (hu : ST K u tu) : ST K (tOr s u) (dOr tt tu) := fun σ H Γ M Qd Q hg hM ht hL =>
  hs σ H Γ M _ _ hg hM ht fun c M1 H1 h1 s1 m1 => by
    cases c with
    | false =>
      rw [if_neg Bool.false_ne_true] at h1 ⊢
      exact hu σ H1 Γ M1 _ _ (hg.step hM s1) m1 h1 fun b M2 H2 h2 s2 m2 => hL b M2 H2 h2 (s1.trans s2) m2
    | true =>
      rw [if_pos rfl] at h1 ⊢
      exact hL true M1 H1 h1 s1 m1
theorem wand1 (ha : PDT X K a stt tt) : PDW X K (.BoolOp .And [a] pos) stt tt := by have hK := ha.hK; subst hK; obtain ⟨_, h1, h2⟩ := ha; exact ⟨rfl, pw_and1 h1, h2⟩
theorem wor1 (ha : PDT X K a stt tt) : PDW X K (.BoolOp .Or [a] pos) stt tt := by have hK := ha.hK; subst hK; obtain ⟨_, h1, h2⟩ := ha; exact ⟨rfl, pw_or1 h1, h2⟩
variable {rest : List Expr}
theorem wand (ha : PDT X K a stt tt) (hb : PDW X K (.BoolOp .And (b :: rest) pos) stu tu) : PDW X K (.BoolOp .And (a :: b :: rest) pos) (tAnd stt stu) (dAnd tt tu) := by
  have hK := ha.hK; subst hK
  obtain ⟨_, h1, h2⟩ := ha
  obtain ⟨_, g1, g2⟩ := hb
  exact ⟨rfl, pw_and h1 g1, st_and h2 g2⟩
theorem wor (ha : PDT X K a stt tt) (hb : PDW X K (.BoolOp .Or (b :: rest) pos) stu tu) : PDW X K (.BoolOp .Or (a :: b :: rest) pos) (tOr stt stu) (dOr tt tu) := by
  have hK := ha.hK; subst hK
  obtain ⟨_, h1, h2⟩ := ha
  obtain ⟨_, g1, g2⟩ := hb
  exact ⟨rfl, pw_or h1 g1, st_or h2 g2⟩
theorem PDW.pt (h : PDW X K e stt tt) : PDT X K e stt tt := by have hK := h.hK; subst hK; obtain ⟨_, h1, h2⟩ := h; exact ⟨rfl, h1.pt, h2⟩
theorem tnot (ha : PDT X K a stt tt) : PDT X K (.UnaryOp .Not a pos) (tNot stt) (dNot tt) := by
  have hK := ha.hK; subst hK
  obtain ⟨_, h1, h2⟩ := ha
  exact ⟨rfl, pt_not h1, fun σ H Γ M Qd Q hg hM ht hL => h2 σ H Γ M _ _ hg hM ht fun c M1 H1 h1 s1 m1 => hL _ M1 H1 h1 s1 m1⟩
def dAndV (ta tb : DE) : DE := fun Γ M Q => ta Γ M fun d M1 => asB d fun c => if c = true then tb Γ M1 Q else Q (.bl false) M1
def dOrV (ta tb : DE) : DE := fun Γ M Q => ta Γ M fun d M1 => asB d fun c => if c = true then Q (.bl true) M1 else tb Γ M1 Q
def dNotV (ta : DE) : DE := fun Γ M Q => ta Γ M fun d M1 => asB d fun c => Q (.bl (!c)) M1
theorem done1 {op} (h : PD X K a sta ta) : PD X K (.BoolOp op [a] pos) sta ta := by have hK := h.hK; subst hK; obtain ⟨_, h1, h2⟩ := h; exact ⟨rfl, pe_one h1, h2⟩
theorem dand (ha : PD X K a sta ta) (hb : PD X K (.BoolOp .And (b :: rest) pos) stb tb) : PD X K (.BoolOp .And (a :: b :: rest) pos) (tAndV sta stb) (dAndV ta tb) := by
  have hK := ha.hK; subst hK
  obtain ⟨_, p1, p2⟩ := ha
  obtain ⟨_, q1, q2⟩ := hb
  refine ⟨rfl, pe_and p1 q1, fun σ H Γ M Qd Q hg hM ht hL => p2 σ H Γ M _ _ hg hM ht fun d M1 x H1 h1 s1 r1 m1 => ?_⟩
  obtain ⟨c, rfl, rfl, h9⟩ := bool_of r1 h1
  refine ⟨c, rfl, ?_⟩
  cases c with
  | true =>
    rw [if_pos rfl] at h9 ⊢
    exact q2 σ H1 Γ M1 _ _ (hg.step hM s1) m1 h9 (hL.step s1)
  | false =>
    rw [if_neg Bool.false_ne_true] at h9 ⊢
    exact hL _ M1 _ H1 h9 s1 (.bl false) m1
theorem dor (ha : PD X K a sta ta) (hb : PD X K (.BoolOp .Or (b :: rest) pos) stb tb) : PD X K (.BoolOp .Or (a :: b :: rest) pos) (tOrV sta stb) (dOrV ta tb) := by
  have hK := ha.hK; subst hK
  obtain ⟨_, p1, p2⟩ := ha
  obtain ⟨_, q1, q2⟩ := hb
  refine ⟨rfl, pe_or p1 q1, fun σ H Γ M Qd Q hg hM ht hL => p2 σ H Γ M _ _ hg hM ht fun d M1 x H1 h1 s1 r1 m1 => ?_⟩
  obtain ⟨c, rfl, rfl, h9⟩ := bool_of r1 h1
  refine ⟨c, rfl, ?_⟩
  cases c with
  | false =>
    rw [if_neg Bool.false_ne_true] at h9 ⊢
    exact q2 σ H1 Γ M1 _ _ (hg.step hM s1) m1 h9 (hL.step s1)
  | true =>
    rw [if_pos rfl] at h9 ⊢
    exact hL _ M1 _ H1 h9 s1 (.bl true) m1
theorem dnot (ha : PD X K a sta ta) : PD X K (.UnaryOp .Not a pos) (tNotV sta) (dNotV ta) := by
  have hK := ha.hK; subst hK
  obtain ⟨_, p1, p2⟩ := ha
  refine ⟨rfl, pe_not p1, fun σ H Γ M Qd Q hg hM ht hL => p2 σ H Γ M _ _ hg hM ht fun d M1 x H1 h1 s1 r1 m1 => ?_⟩
  obtain ⟨c, rfl, rfl, h1⟩ := bool_of r1 h1
  exact ⟨c, rfl, hL _ M1 _ H1 h1 s1 (.bl _) m1⟩
def dIf (t : DT) (ta tb : DE) : DE := fun Γ M Q => t Γ M fun c M1 => if c = true then ta Γ M1 Q else tb Γ M1 Q
theorem dif (hc : PDT X K c stt tt) (ha : PD X K a sta ta) (hb : PD X K b stb tb) : PD X K (.IfExp c a b pos) (tIf stt sta stb) (dIf tt ta tb) := by
  have hK := hc.hK; subst hK
  obtain ⟨_, g1, g2⟩ := hc
  obtain ⟨_, p1, p2⟩ := ha
  obtain ⟨_, q1, q2⟩ := hb
  refine ⟨rfl, pe_ifExp g1 p1 q1, fun σ H Γ M Qd Q hg hM ht hL => g2 σ H Γ M _ _ hg hM ht fun c M1 H1 h1 s1 m1 => ?_⟩
  cases c with
  | true =>
    rw [if_pos rfl] at h1 ⊢
    exact p2 σ H1 Γ M1 _ _ (hg.step hM s1) m1 h1 (hL.step s1)
  | false =>
    rw [if_neg Bool.false_ne_true] at h1 ⊢
    exact q2 σ H1 Γ M1 _ _ (hg.step hM s1) m1 h1 (hL.step s1)

/-! ### arguments, displays -/
def dNil : DA := fun _ M Q => Q [] M
def dCons (ta : DE) (tr : DA) : DA := fun Γ M Q => ta Γ M fun d M1 => tr Γ M1 fun ds M2 => Q (d :: ds) M2
variable {es : List Expr} {str : TA} {tr : DA}
theorem anil (hK : X.K = K := by rfl) : PDA X K [] tNil dNil := by
  subst hK
  exact ⟨rfl, pa_nil, fun σ H Γ M Qd Q hg hM ht hL => hL [] M [] H ht Step.refl .nil hM⟩
theorem acons (ha : PD X K e sta ta) (hr : PDA X K es str tr) (hs : starEach (e :: es) X.env = (false, eval e X.env) :: starEach es X.env := by rfl) : PDA X K (e :: es) (tCons sta str) (dCons ta tr) := by
  have hK := ha.hK; subst hK
  obtain ⟨_, p1, p2⟩ := ha
  obtain ⟨_, q1, q2⟩ := hr
  exact ⟨rfl, pa_cons p1 q1 hs, fun σ H Γ M Qd Q hg hM ht hL => p2 σ H Γ M _ _ hg hM ht fun d M1 x H1 h1 s1 r1 m1 =>
    q2 σ H1 Γ M1 _ _ (hg.step hM s1) m1 h1 fun ds M2 vs H2 h2 s2 r2 m2 => hL _ M2 _ H2 h2 (s1.trans s2) (.cons (r1.step m1 s2) r2) m2⟩
def dTup (tr : DA) : DE := fun Γ M Q => tr Γ M fun ds M1 => ds.length ≤ sizeLine ∧ Q (.tup ds) M1
def dLst (tr : DA) : DE := fun Γ M Q => tr Γ M fun ds M1 => ds.length ≤ sizeLine ∧ ∀ p, M1 p = none → Q (.ref p) (mupd M1 p (.lst ds))
/-- a new tuple -/
theorem Lift.newTup {K : PySem.W.Frag} {M : Mp} {H : Hp} {Qd : DK} {Q : VK} {vs : List V} {ds : List D} (hL : Lift K M H Qd Q) (hM : RepM K H M) (r : Reps K H vs ds) (q : Qd (.tup ds) M) : ∀ p, H p = none → Q (.ref p) (upd H p (.tup vs)) := fun p hp =>
  hL _ M _ _ q (Step.new hp) (.tup (SqT.of upd_same) (r.step hM (Step.new hp))) (hM.new hp)
theorem Lift.newLst {K : PySem.W.Frag} {M : Mp} {H : Hp} {Qd : DK} {Q : VK} {vs : List V} {ds : List D} (hL : Lift K M H Qd Q) (hM : RepM K H M) (r : Reps K H vs ds) (q : ∀ p, M p = none → Qd (.ref p) (mupd M p (.lst ds))) : ∀ p, H p = none → Q (.ref p) (upd H p (.lst vs)) := fun p hp =>
  hL _ _ _ _ (q p (hM.fresh hp)) (Step.newM hp) (.ref p) (hM.newM hp ⟨vs, upd_same, r.step hM (Step.new hp)⟩)
theorem dtup {x1} (h : PDA X K es str tr) : PD X K (.Tuple es x1 pos) (tTup str) (dTup tr) := by
  have hK := h.hK; subst hK
  obtain ⟨_, q1, q2⟩ := h
  exact ⟨rfl, pe_tup q1, fun σ H Γ M Qd Q hg hM ht hL => q2 σ H Γ M _ _ hg hM ht fun ds M1 vs H1 h1 s1 r1 m1 =>
    ⟨by rw [r1.length]; exact h1.1, (hL.step s1).newTup m1 r1 h1.2⟩⟩
theorem dlst (h : PDA X K es str tr) : PD X K (.List es pos) (tLst str) (dLst tr) := by
  have hK := h.hK; subst hK
  obtain ⟨_, q1, q2⟩ := h
  exact ⟨rfl, pe_lst q1, fun σ H Γ M Qd Q hg hM ht hL => q2 σ H Γ M _ _ hg hM ht fun ds M1 vs H1 h1 s1 r1 m1 =>
    ⟨by rw [r1.length]; exact h1.1, (hL.step s1).newLst m1 r1 h1.2⟩⟩

/-! ### built-ins by values -/
abbrev OC := List D → Mp → DK → Prop
def SCall (K : PySem.W.Frag) (r : List V → Hp → VK → Prop) (o : OC) : Prop := ∀ vs ds H M Qd Q, Reps K H vs ds → RepM K H M → o ds M Qd → Lift K M H Qd Q → r vs H Q
structure PCall (X : Cx) (K : PySem.W.Frag) (f : Value) (r : List V → Hp → VK → Prop) (o : OC) : Prop where
  hK : X.K = K
  pe : CallR X f r
  se : SCall K r o
def dCB (o : OC) (tr : DA) : DE := fun Γ M Q => tr Γ M fun ds M1 => o ds M1 Q
variable {x : Str} {p : Pos} {id T : String} {ro : List V → Hp → VK → Prop} {o : OC}
theorem se_cb {K : PySem.W.Frag} {r : List V → Hp → VK → Prop} {sr : TA} (h : SCall K r o) (hr : SA K sr tr) : SE K (tCB r sr) (dCB o tr) := fun σ H Γ M Qd Q hg hM ht hL =>
  hr σ H Γ M _ _ hg hM ht fun ds M1 vs H1 h1 s1 r1 m1 => h vs ds H1 M1 Qd Q r1 m1 h1 (hL.step s1)
theorem dcallB (hc : PCall X K (.builtin id) ro o) (hg : Gl X x) (hm : X.mg x = none) (hv : bootBuiltins x = some (.builtin id)) (ha : PDA X K (e :: es) str tr) (hn : x ≠ "__name__" := by decide) (hdb : (x == ("__debug__" : Str)) = false := by decide)
    (he : starEach (e :: es) X.env = (false, eval e X.env) :: starEach es X.env := by rfl) (hpl : (backTo pos (starEach es X.env)).any (·.1) = false := by rfl) : PD X K (.Call (.Name x p) (e :: es) [] pos) (tCB ro str) (dCB o tr) := by
  have hK := hc.hK; subst hK
  obtain ⟨_, h1, h2⟩ := hc
  obtain ⟨_, q1, q2⟩ := ha
  exact ⟨rfl, pe_callB h1 hg hm hv q1 hn hdb he hpl, se_cb h2 q2⟩
theorem dcallTy (hc : PCall X K (.type T) ro o) (hg : Gl X x) (hm : X.mg x = none) (hv : bootBuiltins x = some (.type T)) (ha : PDA X K (e :: es) str tr) (hn : x ≠ "__name__" := by decide) (hdb : (x == ("__debug__" : Str)) = false := by decide)
    (he : starEach (e :: es) X.env = (false, eval e X.env) :: starEach es X.env := by rfl) (hpl : (backTo pos (starEach es X.env)).any (·.1) = false := by rfl) : PD X K (.Call (.Name x p) (e :: es) [] pos) (tCB ro str) (dCB o tr) := by
  have hK := hc.hK; subst hK
  obtain ⟨_, h1, h2⟩ := hc
  obtain ⟨_, q1, q2⟩ := ha
  exact ⟨rfl, pe_callTy h1 hg hm hv q1 hn hdb he hpl, se_cb h2 q2⟩

/-! ### calls of own defs -/
/-- what an exception bears: its class, its fields -/
abbrev DXK := Value → List (Str × D) → Mp → Prop
abbrev DSp := List D → Mp → DK → DXK → Prop
inductive FReps (K : PySem.W.Frag) (H : Hp) : List (Str × V) → List (Str × D) → Prop
  | nil : FReps K H [] []
  | cons {k : Str} {v : V} {d : D} {vs : List (Str × V)} {ds : List (Str × D)} : Rep K H v d → FReps K H vs ds → FReps K H ((k, v) :: vs) ((k, d) :: ds)
end
end DL
end
section
set_option maxHeartbeats 4000000
/-! DL2: operators, built-ins, subscripts, methods over trees. -/
namespace DL
open PySem L2

/-! ### plain data -/
mutual
def toPy : D → PyData
  | .non => .none
  | .bl b => .bool b
  | .int i => .int i
  | .str x => .str x
  | .tup ds => .tuple (toPys ds)
  | .ref _ => .none
  | .fl ds => .list (toPys ds)
def toPys : List D → List PyData
  | [] => []
  | d :: r => toPy d :: toPys r
end
mutual
def plain : D → Bool
  | .tup ds => plains ds
  | .fl ds => plains ds
  | .ref _ => false
  | _ => true
def plains : List D → Bool
  | [] => true
  | d :: r => plain d && plains r
end
mutual
def eqD : D → D → Bool
  | .non, .non => true
  | .bl a, .bl b => a == b
  | .bl a, .int j => (if a then 1 else 0) == j
  | .int i, .bl b => i == (if b then 1 else 0)
  | .int i, .int j => i == j
  | .str x, .str y => decide (x = y)
  | .tup a, .tup b => eqDs a b
  | .fl a, .fl b => eqDs a b
  | _, _ => false
def eqDs : List D → List D → Bool
  | [], [] => true
  | x :: xs, y :: ys => eqD x y && eqDs xs ys
  | _, _ => false
end
theorem str_beq (x y : Str) : (x == y) = decide (x = y) := by
  by_cases h : x = y
  · subst h; simp
  · rw [decide_eq_false h]; exact beq_eq_false_iff_ne.mpr h
mutual
theorem eqv_eqD : ∀ (d e : D), plain d = true → plain e = true → PyData.eqv (toPy d) (toPy e) = eqD d e
  | .non, e, _, h => by cases e <;> first | rfl | cases h
  | .bl b, e, _, h => by cases e <;> first | rfl | cases h
  | .int i, e, _, h => by cases e <;> first | rfl | cases h
  | .str x, e, _, h => by
    cases e with
    | str y => exact str_beq x y
    | ref => cases h
    | _ => rfl
  | .tup ds, e, h1, h => by
    cases e with
    | tup es => exact eqv_eqDs ds es h1 h
    | ref => cases h
    | _ => rfl
  | .fl ds, e, h1, h => by
    cases e with
    | fl es => exact eqv_eqDs ds es h1 h
    | ref => cases h
    | _ => rfl
  | .ref _, _, h, _ => by cases h
theorem eqv_eqDs : ∀ (ds es : List D), plains ds = true → plains es = true → PyData.eqvAll (toPys ds) (toPys es) = eqDs ds es
  | [], [], _, _ => rfl
  | [], _ :: _, _, _ => rfl
  | _ :: _, [], _, _ => rfl
  | d :: ds, e :: es, h1, h2 => by
    have a := Bool.and_eq_true_iff.mp (show (plain d && plains ds) = true from h1)
    have b := Bool.and_eq_true_iff.mp (show (plain e && plains es) = true from h2)
    show (PyData.eqv (toPy d) (toPy e) && PyData.eqvAll (toPys ds) (toPys es)) = (eqD d e && eqDs ds es)
    rw [eqv_eqD d e a.1 b.1, eqv_eqDs ds es a.2 b.2]
end
mutual
theorem Rep.dp {K : PySem.W.Frag} {H : Hp} : ∀ {v : V} {d : D}, Rep K H v d → plain d = true → Dp K H v (toPy d)
  | _, _, .non, _ => .non
  | _, _, .bl b, _ => .bl b
  | _, _, .int i, _ => .int i
  | _, _, .str x, _ => .str x
  | _, _, .ref a, h => by cases h
  | _, _, .tup q r, h => .tup q (Reps.dp r h)
  | _, _, .fl q r, h => .lst q.sq (Reps.dp r h)
theorem Reps.dp {K : PySem.W.Frag} {H : Hp} : ∀ {vs : List V} {ds : List D}, Reps K H vs ds → plains ds = true → DpAll K H vs (toPys ds)
  | _, _, .nil, _ => .nil
  | _, _, .cons r t, h => by
    have a := Bool.and_eq_true_iff.mp (show (plain _ && plains _) = true from h)
    exact .cons (Rep.dp r a.1) (Reps.dp t a.2)
end
def shp (d : D) : Bool := plain d && SeqAt.shaped (toPy d)
def scaD : D → Bool
  | .non => true
  | .bl _ => true
  | .int _ => true
  | .str _ => true
  | _ => false
def eqOk (d e : D) : Bool := (scaD d && scaD e) || (shp d && shp e)

/-! ### operators -/
def oAdd : O2 := fun d e M Q => match d, e with
  | .int i, .int j => Q (.int (i + j)) M
  | .str a, .str b => a.length + b.length ≤ sizeLine ∧ Q (.str (a ++ b)) M
  | .tup a, .tup b => a.length + b.length ≤ sizeLine ∧ Q (.tup (a ++ b)) M
  | .ref a, .ref b => ∃ xs ys, M a = some (.lst xs) ∧ M b = some (.lst ys) ∧ xs.length + ys.length ≤ sizeLine ∧ ∀ p, M p = none → Q (.ref p) (mupd M p (.lst (xs ++ ys)))
  | _, _ => False
def MulOk (i j : Int) : Prop := CMul i j ∨ CMulW i j
def oMul : O2 := fun d e M Q => match d, e with
  | .int i, .int j => MulOk i j ∧ Q (.int (i * j)) M
  | .tup a, .int k => (a ≠ [] ∧ 2 ≤ k ∧ k ≤ 1000 ∧ a.length ≤ 1000) ∧ Q (.tup (List.replicate k.toNat a).flatten) M
  | .ref a, .int k => ∃ xs, M a = some (.lst xs) ∧ -(2 ^ 63) ≤ k ∧ k < 2 ^ 63 ∧ xs.length * k.toNat ≤ sizeLine ∧ ∀ p, M p = none → Q (.ref p) (mupd M p (.lst (List.replicate k.toNat xs).flatten))
  | _, _ => False
def oI (C : Int → Int → Prop) (g : Int → Int → Int) : O2 := fun d e M Q => match d, e with
  | .int i, .int j => C i j ∧ Q (.int (g i j)) M
  | _, _ => False
def oI0 (g : Int → Int → Int) : O2 := fun d e M Q => match d, e with
  | .int i, .int j => Q (.int (g i j)) M
  | _, _ => False
def oB0 (g : Int → Int → Bool) : O2 := fun d e M Q => match d, e with
  | .int i, .int j => Q (.bl (g i j)) M
  | _, _ => False
def DivOk (i j : Int) : Prop := CDiv i j ∨ CDivW i j
abbrev oSub : O2 := oI0 fun i j => i - j
abbrev oFdiv : O2 := oI DivOk fun i j => i / j
abbrev oMod : O2 := oI (fun _ j => 0 < j) fun i j => i % j
abbrev oPow : O2 := oI CPow fun i j => i ^ j.toNat
abbrev oShl : O2 := oI CPow fun i j => i * 2 ^ j.toNat
abbrev oShr : O2 := oI (fun _ j => 0 ≤ j) fun i j => i / 2 ^ j.toNat
abbrev oLt : O2 := oB0 fun i j => decide (i < j)
abbrev oLe : O2 := oB0 fun i j => decide (i ≤ j)
abbrev oGt : O2 := oB0 fun i j => decide (j < i)
abbrev oGe : O2 := oB0 fun i j => decide (j ≤ i)
def oEq : O2 := fun d e M Q => eqOk d e = true ∧ Q (.bl (eqD d e)) M
def oNe : O2 := fun d e M Q => eqOk d e = true ∧ Q (.bl (!eqD d e)) M
def isNon : D → Bool
  | .non => true
  | _ => false
def oIs : O2 := fun d e M Q => match e with
  | .non => Q (.bl (isNon d)) M
  | _ => False
def oIsNot : O2 := fun d e M Q => match e with
  | .non => Q (.bl (!isNon d)) M
  | _ => False

section
variable {K : PySem.W.Frag}
theorem sop_or1 {r r' : R2} {o : O2} (h : SOp K r o) : SOp K (fun x y H Q => r x y H Q ∨ r' x y H Q) o := fun x y d e H M Qd Q a b m q l => .inl (h x y d e H M Qd Q a b m q l)
theorem sop_i0 {g : Int → Int → Int} : SOp K (rI0 fun i j => .int (g i j)) (oI0 g) := by
  intro x y d e H M Qd Q r s m q l
  cases r <;> cases s <;> first | exact q.elim | skip
  exact ⟨_, _, rfl, rfl, l _ M _ H q Step.refl (.int _) m⟩
theorem sop_b0 {g : Int → Int → Bool} : SOp K (rI0 fun i j => .bl (g i j)) (oB0 g) := by
  intro x y d e H M Qd Q r s m q l
  cases r <;> cases s <;> first | exact q.elim | skip
  exact ⟨_, _, rfl, rfl, l _ M _ H q Step.refl (.bl _) m⟩
theorem sop_i {C : Int → Int → Prop} {g : Int → Int → Int} : SOp K (rI C fun i j => .int (g i j)) (oI C g) := by
  intro x y d e H M Qd Q r s m q l
  cases r <;> cases s <;> first | exact q.elim | skip
  exact ⟨_, _, rfl, rfl, q.1, l _ M _ H q.2 Step.refl (.int _) m⟩
end

def rFdivA : R2 := fun x y H Q => (rI CDiv fun i j => .int (i / j)) x y H Q ∨ (rI CDivW fun i j => .int (i / j)) x y H Q
def rAddA (K : PySem.W.Frag) : R2 := fun x y H Q => (rI0 fun i j => .int (i + j)) x y H Q ∨ (∃ i j, x = .str i ∧ y = .str j ∧ i.length + j.length ≤ sizeLine ∧ Q (.str (i ++ j)) H) ∨ rCatA K x y H Q ∨ rCat x y H Q
def rMulA (K : PySem.W.Frag) : R2 := fun x y H Q => (rI CMul fun i j => .int (i * j)) x y H Q ∨ (rI CMulW fun i j => .int (i * j)) x y H Q ∨ rRepT K x y H Q ∨ rRep x y H Q
def rEqA (K : PySem.W.Frag) : R2 := fun x y H Q => rEq x y H Q ∨ rEqD K x y H Q
def rNeA (K : PySem.W.Frag) : R2 := fun x y H Q => rNe x y H Q ∨ rNeD K x y H Q
def rIsN : R2 := fun x y H Q => y = .non ∧ Q (.bl (decide (x = .non))) H
def rNotN : R2 := fun x y H Q => y = .non ∧ Q (.bl (!decide (x = .non))) H
section
variable {X : Cx} {K : PySem.W.Frag}
theorem o_sub (hK : X.K = K := by rfl) : POp X K (binaryOp .Sub) (rI0 fun i j => .int (i - j)) oSub := by
  subst hK
  exact ⟨rfl, op_sub, sop_i0⟩
theorem o_mod (hK : X.K = K := by rfl) : POp X K (binaryOp .Mod) (rI (fun _ j => 0 < j) fun i j => .int (i % j)) oMod := by
  subst hK
  exact ⟨rfl, op_mod, sop_i⟩
theorem o_pow (hK : X.K = K := by rfl) : POp X K (binaryOp .Pow) (rI CPow fun i j => .int (i ^ j.toNat)) oPow := by
  subst hK
  exact ⟨rfl, op_pow, sop_i⟩
theorem o_shl (hK : X.K = K := by rfl) : POp X K (binaryOp .LShift) (rI CPow fun i j => .int (i * 2 ^ j.toNat)) oShl := by
  subst hK
  exact ⟨rfl, op_shl, sop_i⟩
theorem o_shr (hK : X.K = K := by rfl) : POp X K (binaryOp .RShift) (rI (fun _ j => 0 ≤ j) fun i j => .int (i / 2 ^ j.toNat)) oShr := by
  subst hK
  exact ⟨rfl, op_shr, sop_i⟩
theorem o_lt (hK : X.K = K := by rfl) : POp X K (compareOp .Lt) (rI0 fun i j => .bl (decide (i < j))) oLt := by
  subst hK
  exact ⟨rfl, op_lt, sop_b0⟩
theorem o_le (hK : X.K = K := by rfl) : POp X K (compareOp .LtE) (rI0 fun i j => .bl (decide (i ≤ j))) oLe := by
  subst hK
  exact ⟨rfl, op_le, sop_b0⟩
theorem o_gt (hK : X.K = K := by rfl) : POp X K (compareOp .Gt) (rI0 fun i j => .bl (decide (j < i))) oGt := by
  subst hK
  exact ⟨rfl, op_gt, sop_b0⟩
theorem o_ge (hK : X.K = K := by rfl) : POp X K (compareOp .GtE) (rI0 fun i j => .bl (decide (j ≤ i))) oGe := by
  subst hK
  exact ⟨rfl, op_ge, sop_b0⟩
theorem o_fdiv (hK : X.K = K := by rfl) : POp X K (binaryOp .FloorDiv) rFdivA oFdiv := by
  subst hK
  refine ⟨rfl, op_fdiv.or op_fdivW, ?_⟩
  intro x y d e H M Qd Q r s m q l
  cases r <;> cases s <;> first | exact q.elim | skip
  obtain ⟨c, q⟩ := q
  have w := l _ M _ H q Step.refl (.int _) m
  rcases c with c | c
  · exact .inl ⟨_, _, rfl, rfl, c, w⟩
  · exact .inr ⟨_, _, rfl, rfl, c, w⟩
theorem o_add (hK : X.K = K := by rfl) : POp X K (binaryOp .Add) (rAddA K) oAdd := by
  subst hK
  refine ⟨rfl, op_add.or (op_add_str.or (op_catA.or op_cat)), ?_⟩
  intro x y d e H M Qd Q r s m q l
  cases r <;> cases s <;> first | exact q.elim | skip
  · exact .inl ⟨_, _, rfl, rfl, l _ M _ H q Step.refl (.int _) m⟩
  · exact .inr (.inl ⟨_, _, rfl, rfl, q.1, l _ M _ H q.2 Step.refl (.str _) m⟩)
  · obtain ⟨xs, ys, h1, h2, h3, q⟩ := q
    obtain ⟨vs, g1, r1⟩ := m _ _ h1
    obtain ⟨ws, g2, r2⟩ := m _ _ h2
    exact .inr (.inr (.inr ⟨_, _, _, _, rfl, rfl, g1, g2, by rw [r1.length, r2.length]; exact h3, l.newLst m (r1.append r2) q⟩))
  · rename_i a vs ds h1 r1 b ws es h2 r2
    refine .inr (.inr (.inl ⟨_, _, _, _, rfl, rfl, h1, h2, by rw [r1.length, r2.length]; exact q.1, fun e => ?_, fun _ e => ?_, fun _ _ => l.newTup m (r1.append r2) q.2⟩))
    · subst e
      have e2 := r1.nilV
      subst e2
      exact l _ M _ H q.2 Step.refl (.tup h2 r2) m
    · subst e
      have e2 := r2.nilV
      subst e2
      have e3 := q.2
      rw [List.append_nil] at e3
      exact l _ M _ H e3 Step.refl (.tup h1 r1) m
theorem o_mul (hK : X.K = K := by rfl) : POp X K (binaryOp .Mult) (rMulA K) oMul := by
  subst hK
  refine ⟨rfl, op_mul.or (op_mulW.or (op_repT.or op_rep)), ?_⟩
  intro x y d e H M Qd Q r s m q l
  cases r <;> cases s <;> first | exact q.elim | skip
  · obtain ⟨c, q⟩ := q
    have w := l _ M _ H q Step.refl (.int _) m
    rcases c with c | c
    · exact .inl ⟨_, _, rfl, rfl, c, w⟩
    · exact .inr (.inl ⟨_, _, rfl, rfl, c, w⟩)
  · obtain ⟨xs, h1, h2, h3, h4, q⟩ := q
    obtain ⟨vs, g1, r1⟩ := m _ _ h1
    exact .inr (.inr (.inr ⟨_, _, _, rfl, rfl, g1, h2, h3, by rw [r1.length]; exact h4, l.newLst m (r1.rep _) q⟩))
  · rename_i a vs ds h1 r1 k
    obtain ⟨⟨h2, h3, h4, h5⟩, q⟩ := q
    exact .inr (.inr (.inl ⟨_, _, _, rfl, rfl, h1, fun z => h2 (by subst z; exact r1.nilV), h3, h4, by rw [r1.length]; exact h5, l.newTup m (r1.rep _) q⟩))
theorem eq_sca {K : PySem.W.Frag} {H : Hp} {x y : V} {d e : D} (r : Rep K H x d) (s : Rep K H y e) (h1 : scaD d = true) (h2 : scaD e = true) : (scal x y = true ∧ decide (x = y) = eqD d e) ∨ (shp d = true ∧ shp e = true) := by
  cases r <;> cases s <;> first | (cases h1; done) | (cases h2; done) | skip
  all_goals first
    | (refine .inl ⟨rfl, ?_⟩; first | rfl | exact dec_int | exact dec_bl | (rename_i a b; show decide (V.str a = V.str b) = decide (a = b); rw [dec_str, str_beq]) | (show decide (_ = _) = false; exact decide_eq_false (fun z => nomatch z)))
    | exact .inr ⟨rfl, rfl⟩
theorem o_eq (hu : X.A.units + 64 < cLine) (hK : X.K = K := by rfl) : POp X K (compareOp .Eq) (rEqA K) oEq := by
  subst hK
  refine ⟨rfl, op_eq.or (op_eqD hu), ?_⟩
  intro x y d e H M Qd Q r s m q l
  obtain ⟨ok, q⟩ := q
  have w := l _ M _ H q Step.refl (.bl _) m
  have deep : shp d = true ∧ shp e = true → _ := fun ⟨a, b⟩ => by
    obtain ⟨a1, a2⟩ := Bool.and_eq_true_iff.mp a
    obtain ⟨b1, b2⟩ := Bool.and_eq_true_iff.mp b
    exact (⟨toPy d, toPy e, r.dp a1, s.dp b1, a2, b2, by rw [eqv_eqD d e a1 b1]; exact w⟩ : rEqD X.K x y H Q)
  rcases Bool.or_eq_true_iff.mp ok with ok | ok
  · obtain ⟨a, b⟩ := Bool.and_eq_true_iff.mp ok
    rcases eq_sca r s a b with ⟨h1, h2⟩ | h
    · exact .inl ⟨h1, by rw [h2]; exact w⟩
    · exact .inr (deep h)
  · exact .inr (deep (Bool.and_eq_true_iff.mp ok))
theorem o_ne (hu : X.A.units + 64 < cLine) (hK : X.K = K := by rfl) : POp X K (compareOp .NotEq) (rNeA K) oNe := by
  subst hK
  refine ⟨rfl, op_ne.or (op_neD hu), ?_⟩
  intro x y d e H M Qd Q r s m q l
  obtain ⟨ok, q⟩ := q
  have w := l _ M _ H q Step.refl (.bl _) m
  have deep : shp d = true ∧ shp e = true → _ := fun ⟨a, b⟩ => by
    obtain ⟨a1, a2⟩ := Bool.and_eq_true_iff.mp a
    obtain ⟨b1, b2⟩ := Bool.and_eq_true_iff.mp b
    exact (⟨toPy d, toPy e, r.dp a1, s.dp b1, a2, b2, by rw [eqv_eqD d e a1 b1]; exact w⟩ : rNeD X.K x y H Q)
  rcases Bool.or_eq_true_iff.mp ok with ok | ok
  · obtain ⟨a, b⟩ := Bool.and_eq_true_iff.mp ok
    rcases eq_sca r s a b with ⟨h1, h2⟩ | h
    · exact .inl ⟨h1, by rw [h2]; exact w⟩
    · exact .inr (deep h)
  · exact .inr (deep (Bool.and_eq_true_iff.mp ok))
theorem isNon_dec {K : PySem.W.Frag} {H : Hp} {x : V} {d : D} (r : Rep K H x d) : decide (x = V.non) = isNon d := by
  cases r <;> first | rfl | exact decide_eq_false (fun z => nomatch z)
theorem o_is (hK : X.K = K := by rfl) : POp X K (compareOp .Is) rIsN oIs := by
  subst hK
  refine ⟨rfl, op_isN, ?_⟩
  intro x y d e H M Qd Q r s m q l
  cases s <;> first | exact q.elim | skip
  exact ⟨rfl, by rw [isNon_dec r]; exact l _ M _ H q Step.refl (.bl _) m⟩
theorem o_isnot (hK : X.K = K := by rfl) : POp X K (compareOp .IsNot) rNotN oIsNot := by
  subst hK
  refine ⟨rfl, op_notN, ?_⟩
  intro x y d e H M Qd Q r s m q l
  cases s <;> first | exact q.elim | skip
  exact ⟨rfl, by rw [isNon_dec r]; exact l _ M _ H q Step.refl (.bl _) m⟩
end

/-! ### -x -/
def dNeg (ta : DE) : DE := fun Γ M Q => ta Γ M fun d M1 => match d with
  | .int i => Q (.int (-i)) M1
  | _ => False
section
variable {X : Cx} {K : PySem.W.Frag} {a b e : Expr} {sta stb ste : TE} {ta tb te : DE} {pos : Pos}
theorem dneg (ha : PD X K a sta ta) : PD X K (.UnaryOp .USub a pos) (tUn (rU fun i => .int (-i)) sta) (dNeg ta) := by
  have hK := ha.hK; subst hK
  obtain ⟨_, p1, p2⟩ := ha
  refine ⟨rfl, pe_un un_neg p1, fun σ H Γ M Qd Q hg hM ht hL => p2 σ H Γ M _ _ hg hM ht fun d M1 x H1 h1 s1 r1 m1 => ?_⟩
  cases r1 <;> first | exact h1.elim | skip
  exact ⟨_, rfl, hL _ M1 _ H1 h1 s1 (.int _) m1⟩

def rLenA (K : PySem.W.Frag) : List V → Hp → VK → Prop := fun xs H Q => (∃ p ys, xs = [.ref p] ∧ (SqL K H p ys ∨ SqT K H p ys) ∧ Q (.int ys.length) H) ∨ ∃ z, xs = [.str z] ∧ z.length ≤ sizeLine ∧ Q (.int z.length) H
def rTupleA (K : PySem.W.Frag) : List V → Hp → VK → Prop := fun xs H Q => ∃ p ys, xs = [.ref p] ∧ ((SqL K H p ys ∧ ∀ l, H l = none → Q (.ref l) (upd H l (.tup ys))) ∨ (SqT K H p ys ∧ Q (.ref p) H))
def rListA (K : PySem.W.Frag) : List V → Hp → VK → Prop := fun xs H Q => ∃ p ys, xs = [.ref p] ∧ (SqL K H p ys ∨ SqT K H p ys) ∧ ∀ l, H l = none → Q (.ref l) (upd H l (.lst ys))
def rIntA : List V → Hp → VK → Prop := fun xs H Q => (∃ i, xs = [.int i] ∧ Q (.int i) H) ∨ ∃ k, xs = [.bl k] ∧ Q (.int (if k then 1 else 0)) H
def rAbsA : List V → Hp → VK → Prop := fun xs H Q => ∃ i, xs = [.int i] ∧ Q (.int (if i < 0 then -i else i)) H
def rMaxA (K : PySem.W.Frag) : List V → Hp → VK → Prop := fun xs H Q => (∃ i j, xs = [.int i, .int j] ∧ Q (.int (if j > i then j else i)) H) ∨ rMax K xs H Q
def rMinA (K : PySem.W.Frag) : List V → Hp → VK → Prop := fun xs H Q => (∃ i j, xs = [.int i, .int j] ∧ Q (.int (if j < i then j else i)) H) ∨ rMin K xs H Q
/-! ### built-ins -/
/-- what a value that is walked or measured holds -/
def itemsD (d : D) (M : Mp) : Option (List D) := match d with
  | .tup ds => some ds
  | .fl ds => some ds
  | .ref a => match M a with
    | some (.lst ds) => some ds
    | _ => none
  | _ => none
theorem items_sq {K : PySem.W.Frag} {H : Hp} {x : V} {d : D} {M : Mp} {ds : List D} (r : Rep K H x d) (m : RepM K H M) (h : itemsD d M = some ds) : ∃ p vs, x = .ref p ∧ (SqL K H p vs ∨ SqT K H p vs) ∧ Reps K H vs ds := by
  cases r with
  | non => cases h
  | bl => cases h
  | int => cases h
  | str => cases h
  | tup q r => cases h; exact ⟨_, _, rfl, .inr q, r⟩
  | fl q r => cases h; exact ⟨_, _, rfl, .inl q.sq, r⟩
  | ref a =>
    unfold itemsD at h
    dsimp only at h
    cases e : M a with
    | none => rw [e] at h; cases h
    | some o =>
      have ro := m a o e
      rw [e] at h
      cases o with
      | lst ds =>
        cases h
        obtain ⟨vs, h1, h2⟩ := ro
        exact ⟨_, _, rfl, .inl (SqL.of h1), h2⟩
      | dct kvs => cases h
theorem reps1 {K : PySem.W.Frag} {H : Hp} {vs : List V} {d : D} (h : Reps K H vs [d]) : ∃ v, vs = [v] ∧ Rep K H v d := by
  cases h with
  | cons r t => cases t; exact ⟨_, rfl, r⟩
theorem reps2 {K : PySem.W.Frag} {H : Hp} {vs : List V} {d e : D} (h : Reps K H vs [d, e]) : ∃ v w, vs = [v, w] ∧ Rep K H v d ∧ Rep K H w e := by
  cases h with
  | cons r t => cases t with
    | cons s u => cases u; exact ⟨_, _, rfl, r, s⟩
def oLen : OC := fun ds M Q => match ds with
  | [.str y] => y.length ≤ sizeLine ∧ Q (.int y.length) M
  | [d] => ∃ es, itemsD d M = some es ∧ Q (.int es.length) M
  | _ => False
theorem one_of {ds : List D} {f : D → Prop} (h : match ds with | [d] => f d | _ => False) : ∃ d, ds = [d] ∧ f d := by
  cases ds with
  | nil => exact h.elim
  | cons d r => cases r with
    | nil => exact ⟨d, rfl, h⟩
    | cons => exact h.elim
theorem c_len (hK : X.K = K := by rfl) : PCall X K (.builtin "len") (rLenA K) oLen := by
  subst hK
  refine ⟨rfl, call_len_seq.or call_len_str, ?_⟩
  intro vs ds H M Qd Q rr m q l
  cases ds with
  | nil => exact q.elim
  | cons d t => cases t with
    | cons => cases d <;> exact q.elim
    | nil =>
      obtain ⟨v, rfl, r⟩ := reps1 rr
      have seq : (∃ es, itemsD d M = some es ∧ Qd (.int es.length) M) → (∃ p ys, [v] = [V.ref p] ∧ (SqL X.K H p ys ∨ SqT X.K H p ys) ∧ Q (.int ys.length) H) ∨ ∃ z, [v] = [V.str z] ∧ z.length ≤ sizeLine ∧ Q (.int z.length) H := fun ⟨es, h1, h2⟩ => by
        obtain ⟨p, ws, rfl, h3, h4⟩ := items_sq r m h1
        exact .inl ⟨p, ws, rfl, h3, by rw [h4.length]; exact l _ M _ H h2 Step.refl (.int _) m⟩
      cases r with
      | str y => exact .inr ⟨y, rfl, q.1, l _ M _ H q.2 Step.refl (.int _) m⟩
      | non => exact seq q
      | bl => exact seq q
      | int => exact seq q
      | tup => exact seq q
      | fl => exact seq q
      | ref => exact seq q
def oTuple : OC := fun ds M Q => match ds with
  | [d] => ∃ es, itemsD d M = some es ∧ Q (.tup es) M
  | _ => False
theorem c_tuple (hK : X.K = K := by rfl) : PCall X K (.type "tuple") (rTupleA K) oTuple := by
  subst hK
  refine ⟨rfl, call_tuple_of, ?_⟩
  intro vs ds H M Qd Q rr m q l
  obtain ⟨d, rfl, es, h1, h2⟩ := one_of q
  obtain ⟨v, rfl, r⟩ := reps1 rr
  obtain ⟨p, ws, rfl, h3, h4⟩ := items_sq r m h1
  refine ⟨p, ws, rfl, ?_⟩
  rcases h3 with h3 | h3
  · exact .inl ⟨h3, l.newTup m h4 h2⟩
  · exact .inr ⟨h3, l _ M _ H h2 Step.refl (.tup h3 h4) m⟩
def oList : OC := fun ds M Q => match ds with
  | [d] => ∃ es, itemsD d M = some es ∧ ∀ p, M p = none → Q (.ref p) (mupd M p (.lst es))
  | _ => False
theorem c_list (hK : X.K = K := by rfl) : PCall X K (.type "list") (rListA K) oList := by
  subst hK
  refine ⟨rfl, call_list_of, ?_⟩
  intro vs ds H M Qd Q rr m q l
  obtain ⟨d, rfl, es, h1, h2⟩ := one_of q
  obtain ⟨v, rfl, r⟩ := reps1 rr
  obtain ⟨p, ws, rfl, h3, h4⟩ := items_sq r m h1
  exact ⟨p, ws, rfl, h3, l.newLst m h4 h2⟩
def oInt : OC := fun ds M Q => match ds with
  | [.int i] => Q (.int i) M
  | [.bl b] => Q (.int (if b then 1 else 0)) M
  | _ => False
theorem c_int (hK : X.K = K := by rfl) : PCall X K (.type "int") rIntA oInt := by
  subst hK
  refine ⟨rfl, call_int1, ?_⟩
  intro vs ds H M Qd Q rr m q l
  cases ds with
  | nil => exact q.elim
  | cons d t => cases t with
    | cons => cases d <;> exact q.elim
    | nil =>
      obtain ⟨v, rfl, r⟩ := reps1 rr
      cases r <;> first | exact q.elim | skip
      all_goals first | exact .inr ⟨_, rfl, l _ M _ H q Step.refl (.int _) m⟩ | exact .inl ⟨_, rfl, l _ M _ H q Step.refl (.int _) m⟩
def oAbs : OC := fun ds M Q => match ds with
  | [.int i] => Q (.int (if i < 0 then -i else i)) M
  | _ => False
theorem c_abs (hK : X.K = K := by rfl) : PCall X K (.builtin "abs") rAbsA oAbs := by
  subst hK
  refine ⟨rfl, call_abs, ?_⟩
  intro vs ds H M Qd Q rr m q l
  cases ds with
  | nil => exact q.elim
  | cons d t => cases t with
    | cons => cases d <;> exact q.elim
    | nil =>
      obtain ⟨v, rfl, r⟩ := reps1 rr
      cases r <;> first | exact q.elim | skip
      exact ⟨_, rfl, l _ M _ H q Step.refl (.int _) m⟩
/-- the ints of a row -/
def intsOf : List D → Option (List Int)
  | [] => some []
  | .int i :: r => (intsOf r).map (i :: ·)
  | _ :: _ => none
theorem ints_reps {K : PySem.W.Frag} {H : Hp} : ∀ {vs : List V} {ds : List D} {ns : List Int}, Reps K H vs ds → intsOf ds = some ns → vs = ns.map V.int
  | _, _, _, .nil, h => by cases h; rfl
  | _, d :: ds, ns, .cons r t, h => by
    cases d <;> first | (cases h; done) | skip
    rename_i i
    have h' : (intsOf ds).map (i :: ·) = some ns := h
    cases e : intsOf ds with
    | none => rw [e] at h'; cases h'
    | some ms =>
      rw [e] at h'
      cases h'
      cases r
      rw [ints_reps t e]
      rfl
def oMax : OC := fun ds M Q => match ds with
  | [.int i, .int j] => Q (.int (if j > i then j else i)) M
  | [.ref a] => ∃ es ns, M a = some (.lst es) ∧ intsOf es = some ns ∧ 0 < ns.length ∧ ∀ m, m ∈ ns → (∀ y, y ∈ ns → y ≤ m) → Q (.int m) M
  | _ => False
theorem c_max (hc : X.calm = true) (hK : X.K = K := by rfl) : PCall X K (.builtin "max") (rMaxA K) oMax := by
  subst hK
  refine ⟨rfl, (call_max2 hc).or (cr_max hc), ?_⟩
  intro vs ds H M Qd Q rr m q l
  cases ds with
  | nil => exact q.elim
  | cons d t => cases t with
    | nil =>
      obtain ⟨v, rfl, r⟩ := reps1 rr
      cases d <;> first | exact q.elim | skip
      obtain ⟨es, ns, h1, h2, h3, h4⟩ := q
      obtain ⟨ws, g1, g2⟩ := m _ _ h1
      cases r
      exact .inr ⟨_, ns, rfl, by rw [← ints_reps g2 h2]; exact SqL.of g1, h3, fun k hk hm => l _ M _ H (h4 k hk hm) Step.refl (.int _) m⟩
    | cons e t => cases t with
      | cons => cases d <;> first | exact q.elim | (cases e <;> exact q.elim)
      | nil =>
        obtain ⟨v, w, rfl, r, s⟩ := reps2 rr
        cases r <;> first | exact q.elim | skip
        cases s <;> first | exact q.elim | skip
        exact .inl ⟨_, _, rfl, l _ M _ H q Step.refl (.int _) m⟩
def oMin : OC := fun ds M Q => match ds with
  | [.int i, .int j] => Q (.int (if j < i then j else i)) M
  | [.ref a] => ∃ es ns, M a = some (.lst es) ∧ intsOf es = some ns ∧ 0 < ns.length ∧ ∀ m, m ∈ ns → (∀ y, y ∈ ns → m ≤ y) → Q (.int m) M
  | _ => False
theorem c_min (hc : X.calm = true) (hK : X.K = K := by rfl) : PCall X K (.builtin "min") (rMinA K) oMin := by
  subst hK
  refine ⟨rfl, (call_min2 hc).or (cr_min hc), ?_⟩
  intro vs ds H M Qd Q rr m q l
  cases ds with
  | nil => exact q.elim
  | cons d t => cases t with
    | nil =>
      obtain ⟨v, rfl, r⟩ := reps1 rr
      cases d <;> first | exact q.elim | skip
      obtain ⟨es, ns, h1, h2, h3, h4⟩ := q
      obtain ⟨ws, g1, g2⟩ := m _ _ h1
      cases r
      exact .inr ⟨_, ns, rfl, by rw [← ints_reps g2 h2]; exact SqL.of g1, h3, fun k hk hm => l _ M _ H (h4 k hk hm) Step.refl (.int _) m⟩
    | cons e t => cases t with
      | cons => cases d <;> first | exact q.elim | (cases e <;> exact q.elim)
      | nil =>
        obtain ⟨v, w, rfl, r, s⟩ := reps2 rr
        cases r <;> first | exact q.elim | skip
        cases s <;> first | exact q.elim | skip
        exact .inl ⟨_, _, rfl, l _ M _ H q Step.refl (.int _) m⟩
def oSum : OC := fun ds M Q => match ds with
  | [.ref a] => ∃ es ns, M a = some (.lst es) ∧ intsOf es = some ns ∧ Q (.int ns.sum) M
  | _ => False
theorem c_sum (hc : X.calm = true) (hK : X.K = K := by rfl) : PCall X K (.builtin "sum") (rSum K) oSum := by
  subst hK
  refine ⟨rfl, cr_sum hc, ?_⟩
  intro vs ds H M Qd Q rr m q l
  cases ds with
  | nil => exact q.elim
  | cons d t => cases t with
    | cons => cases d <;> exact q.elim
    | nil =>
      obtain ⟨v, rfl, r⟩ := reps1 rr
      cases d <;> first | exact q.elim | skip
      obtain ⟨es, ns, h1, h2, h3⟩ := q
      obtain ⟨ws, g1, g2⟩ := m _ _ h1
      cases r
      exact ⟨_, ns, rfl, by rw [← ints_reps g2 h2]; exact SqL.of g1, l _ M _ H h3 Step.refl (.int _) m⟩
end
end DL
end
section
set_option maxHeartbeats 4000000
/-! DL3: subscripts, slices, methods of lists, dicts, isinstance, calls of own defs. -/
namespace DL
open PySem L2

/-! ### o[i] -/
theorem ixN_len {n m : Nat} {i : Int} (h : n = m) : ixN n i = ixN m i := by rw [h]
theorem atI_reps {K : PySem.W.Frag} {H : Hp} {vs : List V} {ds : List D} {i : Int} {d : D} (r : Reps K H vs ds) (h : atI ds i = some d) : ∃ v, atI vs i = some v ∧ Rep K H v d := by
  unfold atI at h ⊢
  rw [r.length]
  cases e : ixN ds.length i with
  | none => rw [e] at h; cases h
  | some j =>
    rw [e] at h
    exact r.get (show ds[j]? = some d from h)
def oIx : O2 := fun d e M Q => match d, e with
  | .str z, .int i => z.length ≤ sizeLine ∧ ∃ c, atI z.cps.toList i = some c ∧ Q (.str ⟨#[c]⟩) M
  | d, .int i => ∃ es, itemsD d M = some es ∧ ∃ y, atI es i = some y ∧ Q y M
  | _, _ => False
section
variable {X : Cx} {K : PySem.W.Frag} {a b e : Expr} {sta stb ste : TE} {ta tb te : DE} {pos : Pos}
theorem sop_ix {K : PySem.W.Frag} : SOp K (rIx K) oIx := by
  intro x y d e H M Qd Q r s m q l
  have seq : ∀ (i : Int), (∃ es, itemsD d M = some es ∧ ∃ z, atI es i = some z ∧ Qd z M) → rIx K x (.int i) H Q := fun i ⟨es, h1, z, h2, h3⟩ => by
    obtain ⟨p, ws, rfl, h4, h5⟩ := items_sq r m h1
    obtain ⟨v, h6, h7⟩ := atI_reps h5 h2
    have w := l _ M _ H h3 Step.refl h7 m
    rcases h4 with h4 | h4
    · exact .inl ⟨p, ws, i, v, rfl, rfl, h4, h6, w⟩
    · exact .inr (.inl ⟨p, ws, i, v, rfl, rfl, h4, h6, w⟩)
  cases s <;> first | (cases r <;> exact q.elim) | skip
  rename_i i
  cases r with
  | str z =>
    obtain ⟨h1, c, h2, h3⟩ := q
    exact .inr (.inr ⟨z, i, c, rfl, rfl, h1, h2, l _ M _ H h3 Step.refl (.str _) m⟩)
  | non => exact seq i q
  | bl => exact seq i q
  | int => exact seq i q
  | ref => exact seq i q
  | tup => exact seq i q
  | fl => exact seq i q
theorem dix (ha : PD X K a sta ta) (hb : PD X K b stb tb) (hs : PlainIx b := by intro _ _; rfl) : PD X K (.Subscript a b pos) (tOp (rIx K) sta stb) (dOp oIx ta tb) := by
  have hK := ha.hK; subst hK
  obtain ⟨_, p1, p2⟩ := ha
  obtain ⟨_, q1, q2⟩ := hb
  exact ⟨rfl, pe_ix ix_seq p1 q1 hs, se_op sop_ix p2 q2⟩

/-! ### o[lo:hi] -/
def dNo : DO := fun _ M Q => Q none M
def dPart (t : DE) : DO := fun Γ M Q => t Γ M fun d M1 => match d with
  | .int i => Q (some i) M1
  | _ => False
theorem pno (hK : X.K = K := by rfl) : PDO X K none tNoPart dNo := by
  subst hK
  exact ⟨rfl, po_none, fun σ H Γ M Qd Q hg hM ht hL => hL none M H ht Step.refl hM⟩
theorem psome (h : PD X K e ste te) : PDO X K (some e) (tPart ste) (dPart te) := by
  have hK := h.hK; subst hK
  obtain ⟨_, p1, p2⟩ := h
  refine ⟨rfl, po_some p1, fun σ H Γ M Qd Q hg hM ht hL => p2 σ H Γ M _ _ hg hM ht fun d M1 x H1 h1 s1 r1 m1 => ?_⟩
  cases r1 <;> first | exact h1.elim | skip
  exact ⟨_, rfl, hL _ M1 H1 h1 s1 m1⟩
theorem items_sl {K : PySem.W.Frag} {H : Hp} {x : V} {d : D} {M : Mp} {ds : List D} (r : Rep K H x d) (m : RepM K H M) (h : itemsD d M = some ds) (hn : ∀ es, d ≠ .tup es) : ∃ p vs, x = .ref p ∧ SqL K H p vs ∧ Reps K H vs ds := by
  cases r with
  | non => cases h
  | bl => cases h
  | int => cases h
  | str => cases h
  | tup q r => exact absurd rfl (hn _)
  | fl q r => cases h; exact ⟨_, _, rfl, q.sq, r⟩
  | ref a =>
    unfold itemsD at h
    dsimp only at h
    cases e : M a with
    | none => rw [e] at h; cases h
    | some o =>
      have ro := m a o e
      rw [e] at h
      cases o with
      | lst ds =>
        cases h
        obtain ⟨vs, h1, h2⟩ := ro
        exact ⟨_, _, rfl, SqL.of h1, h2⟩
      | dct kvs => cases h
def cutD {α : Type} (xs : List α) (lo hi : Option Int) : List α := (xs.drop (HT.sIx xs.length 0 lo)).take (HT.sIx xs.length xs.length hi - HT.sIx xs.length 0 lo)
theorem cutD_reps {K : PySem.W.Frag} {H : Hp} {vs : List V} {ds : List D} (r : Reps K H vs ds) (lo hi : Option Int) : Reps K H (cutV vs lo hi) (cutD ds lo hi) := by
  unfold cutV cutD
  rw [r.length]
  exact (r.drop _).take _
def dSl (t : DE) (tl th : DO) : DE := fun Γ M Q => t Γ M fun d M1 => tl Γ M1 fun lo M2 => th Γ M2 fun hi M3 => match d with
  | .tup ds => Q (.tup (cutD ds lo hi)) M3
  | d => ∃ es, itemsD d M3 = some es ∧ ∀ p, M3 p = none → Q (.ref p) (mupd M3 p (.lst (cutD es lo hi)))
variable {lo hi : Option Expr} {stl sth : TO} {tl th : DO} {p2 : Pos}
theorem dsl (he : PD X K e ste te) (hl : PDO X K lo stl tl) (hu : PDO X K hi sth th) : PD X K (.Subscript e (.Slice lo hi none p2) pos) (tSl (fun x lo hi H Q => rSlL K x lo hi H Q ∨ rSlA K x lo hi H Q) ste stl sth) (dSl te tl th) := by
  have hK := he.hK; subst hK
  obtain ⟨_, g1, g2⟩ := he
  obtain ⟨_, k1, k2⟩ := hl
  obtain ⟨_, j1, j2⟩ := hu
  refine ⟨rfl, pe_slice (sl_list.or sl_tupA) g1 k1 j1, fun σ H Γ M Qd Q hg hM ht hL => g2 σ H Γ M _ _ hg hM ht fun d M1 x H1 h1 s1 r1 m1 =>
    k2 σ H1 Γ M1 _ _ (hg.step hM s1) m1 h1 fun lo M2 H2 h2 s2 m2 => j2 σ H2 Γ M2 _ _ ((hg.step hM s1).step m1 s2) m2 h2 fun hi M3 H3 h3 s3 m3 => ?_⟩
  have r3 := (r1.step m1 s2).step m2 s3
  have L := hL.step ((s1.trans s2).trans s3)
  have seq : (∀ ds, d ≠ .tup ds) → (∃ es, itemsD d M3 = some es ∧ ∀ p, M3 p = none → Qd (.ref p) (mupd M3 p (.lst (cutD es lo hi)))) → rSlL X.K x lo hi H3 Q := fun hn ⟨es, g1, g2⟩ => by
    obtain ⟨p, ws, rfl, h4, h5⟩ := items_sl r3 m3 g1 hn
    exact ⟨p, ws, rfl, h4, L.newLst m3 (cutD_reps h5 lo hi) g2⟩
  cases r3 with
  | tup q r =>
    refine .inr ⟨_, _, rfl, q, fun hw => ?_, fun _ => L.newTup m3 (cutD_reps r lo hi) h3⟩
    have e : ∀ {α : Type} (xs : List α), HT.sIx xs.length 0 lo = 0 → HT.sIx xs.length xs.length hi = xs.length → cutD xs lo hi = xs := fun xs a b => by
      unfold cutD
      rw [a, b, List.drop_zero, Nat.sub_zero, List.take_length]
    rw [r.length] at hw
    refine L _ M3 _ H3 h3 Step.refl ?_ m3
    rw [e _ hw.1 hw.2]
    exact .tup q r
  | non => exact .inl (seq (fun _ z => nomatch z) h3)
  | bl => exact .inl (seq (fun _ z => nomatch z) h3)
  | int => exact .inl (seq (fun _ z => nomatch z) h3)
  | str => exact .inl (seq (fun _ z => nomatch z) h3)
  | ref => exact .inl (seq (fun _ z => nomatch z) h3)
  | fl => exact .inl (seq (fun _ z => nomatch z) h3)

/-! ### methods of lists -/
abbrev OM := Addr → List D → List D → Mp → DK → Prop
def dLM (o : OM) (ta : DE) (tr : DA) : DE := fun Γ M Q => ta Γ M fun d M1 => match d with
  | .ref a => (∃ es, M1 a = some (.lst es)) ∧ tr Γ M1 fun ds M2 => ∃ es, M2 a = some (.lst es) ∧ o a es ds M2 Q
  | _ => False
def SMt (K : PySem.W.Frag) (r : V → List V → Hp → VK → Prop) (o : OM) : Prop := ∀ a es vs ds H M Qd Q, M a = some (.lst es) → Reps K H vs ds → RepM K H M → o a es ds M Qd → Lift K M H Qd Q → r (.ref a) vs H Q
structure PMt (X : Cx) (K : PySem.W.Frag) (id : String) (r : V → List V → Hp → VK → Prop) (o : OM) : Prop where
  hK : X.K = K
  pe : MtR X id r
  se : SMt K r o
theorem se_lm {K : PySem.W.Frag} {r : V → List V → Hp → VK → Prop} {o : OM} {sa : TE} {sr : TA} {tr : DA} (ho : SMt K r o) (ha : SE K sa ta) (hr : SA K sr tr) : SE K (tBM K "list" r sa sr) (dLM o ta tr) := fun σ H Γ M Qd Q hg hM ht hL =>
  ha σ H Γ M _ _ hg hM ht fun d M1 x H1 h1 s1 r1 m1 => by
    cases r1 <;> first | exact h1.elim | skip
    rename_i a
    obtain ⟨⟨es, h2⟩, h3⟩ := h1
    obtain ⟨ws, g1, g2⟩ := m1 _ _ h2
    refine ⟨.inl ⟨rfl, ws, SqL.of g1⟩, hr σ H1 Γ M1 _ _ (hg.step hM s1) m1 h3 fun ds M2 vs H2 ⟨es2, h4, h5⟩ s2 r2 m2 => ?_⟩
    exact ho a es2 vs ds H2 M2 Qd Q h4 r2 m2 h5 (hL.step (s1.trans s2))
theorem se_lm0 {K : PySem.W.Frag} {r : V → List V → Hp → VK → Prop} {o : OM} {sa : TE} (ho : SMt K r o) (ha : SE K sa ta) : SE K (tBM0 K "list" r sa) (dLM o ta dNil) := fun σ H Γ M Qd Q hg hM ht hL =>
  ha σ H Γ M _ _ hg hM ht fun d M1 x H1 h1 s1 r1 m1 => by
    cases r1 <;> first | exact h1.elim | skip
    rename_i a
    obtain ⟨⟨es, h2⟩, es2, h4, h5⟩ := h1
    obtain ⟨ws, g1, g2⟩ := m1 _ _ h2
    exact ⟨.inl ⟨rfl, ws, SqL.of g1⟩, ho a es2 [] [] H1 M1 Qd Q h4 .nil m1 h5 (hL.step s1)⟩
def oAppend : OM := fun a es ds M Q => match ds with
  | [d] => es.length < sizeLine ∧ Q .non (mupd M a (.lst (es ++ [d])))
  | _ => False
theorem Lift.mut {K : PySem.W.Frag} {M : Mp} {H : Hp} {Qd : DK} {Q : VK} {a : Addr} {u : MO} {vs : List V} {es : List D} {v : V} {d : D} (l : Lift K M H Qd Q) (m : RepM K H M) (h : M a = some u) (r : Reps K H vs es) (rv : Rep K H v d)
    (q : Qd d (mupd M a (.lst es))) : Q v (upd H a (.lst vs)) := by
  have hs : Step M H (mupd M a (.lst es)) (upd H a (.lst vs)) := Step.mut h
  exact l _ _ _ _ q hs (rv.step m hs) (m.mut h ⟨vs, upd_same, r.step m hs⟩)
theorem m_append (hK : X.K = K := by rfl) : PMt X K "list.append" rAppend oAppend := by
  subst hK
  refine ⟨rfl, mt_append, ?_⟩
  intro a es vs ds H M Qd Q h rr m q l
  obtain ⟨d, rfl, h1, h2⟩ := one_of q
  obtain ⟨v, rfl, r⟩ := reps1 rr
  obtain ⟨ws, g1, g2⟩ := m _ _ h
  exact ⟨a, ws, v, rfl, rfl, g1, by rw [g2.length]; exact h1, l.mut m h (g2.append (.cons r .nil)) .non h2⟩
def oExtend : OM := fun a es ds M Q => match ds with
  | [.ref b] => ∃ fs, M b = some (.lst fs) ∧ es.length + fs.length ≤ sizeLine ∧ Q .non (mupd M a (.lst (es ++ fs)))
  | _ => False
theorem m_extend (hK : X.K = K := by rfl) : PMt X K "list.extend" rExtend oExtend := by
  subst hK
  refine ⟨rfl, mt_extend, ?_⟩
  intro a es vs ds H M Qd Q h rr m q l
  cases ds with
  | nil => exact q.elim
  | cons d t => cases t with
    | cons => cases d <;> exact q.elim
    | nil =>
      obtain ⟨v, rfl, r⟩ := reps1 rr
      cases d <;> first | exact q.elim | skip
      obtain ⟨fs, h1, h2, h3⟩ := q
      cases r
      obtain ⟨ws, g1, g2⟩ := m _ _ h
      obtain ⟨zs, k1, k2⟩ := m _ _ h1
      exact ⟨a, _, ws, zs, rfl, rfl, g1, k1, by rw [g2.length, k2.length]; exact h2, l.mut m h (g2.append k2) .non h3⟩
def oPop : OM := fun a es ds M Q => match ds with
  | [] => ∃ y, es[es.length - 1]? = some y ∧ Q y (mupd M a (.lst es.dropLast))
  | _ => False
theorem m_pop (hK : X.K = K := by rfl) : PMt X K "list.pop" rPop oPop := by
  subst hK
  refine ⟨rfl, mt_pop, ?_⟩
  intro a es vs ds H M Qd Q h rr m q l
  cases ds with
  | cons => exact q.elim
  | nil =>
    obtain ⟨y, h1, h2⟩ := q
    cases rr
    obtain ⟨ws, g1, g2⟩ := m _ _ h
    obtain ⟨v, h3, h4⟩ := g2.get h1
    exact ⟨a, ws, v, rfl, rfl, g1, by rw [g2.length]; exact h3, l.mut m h g2.dropLast h4 h2⟩
theorem Reps.eraseIdx {K : PySem.W.Frag} {H : Hp} : ∀ {vs : List V} {ds : List D} (n : Nat), Reps K H vs ds → Reps K H (vs.eraseIdx n) (ds.eraseIdx n)
  | _, _, _, .nil => .nil
  | _, _, 0, .cons _ t => t
  | _, _, n + 1, .cons r t => .cons r (Reps.eraseIdx n t)
def oPopAt : OM := fun a es ds M Q => match ds with
  | [.int i] => -(2 ^ 63) ≤ i ∧ i < 2 ^ 63 ∧ ∃ k y, seqIndex? i es.length = some k ∧ es[k]? = some y ∧ Q y (mupd M a (.lst (es.eraseIdx k)))
  | _ => False
theorem m_popAt (hK : X.K = K := by rfl) : PMt X K "list.pop" rPopAt oPopAt := by
  subst hK
  refine ⟨rfl, mt_popAt, ?_⟩
  intro a es vs ds H M Qd Q h rr m q l
  cases ds with
  | nil => exact q.elim
  | cons d t => cases t with
    | cons => cases d <;> exact q.elim
    | nil =>
      obtain ⟨v, rfl, r⟩ := reps1 rr
      cases d <;> first | exact q.elim | skip
      obtain ⟨h0, h00, k, y, h1, h2, h3⟩ := q
      cases r
      obtain ⟨ws, g1, g2⟩ := m _ _ h
      obtain ⟨v, h4, h5⟩ := g2.get h2
      exact ⟨a, ws, _, k, v, rfl, rfl, g1, h0, h00, by rw [g2.length]; exact h1, h4, l.mut m h (g2.eraseIdx k) h5 h3⟩
def oInsert : OM := fun a es ds M Q => match ds with
  | [.int i, d] => es.length < sizeLine ∧ 0 ≤ i ∧ i < 2 ^ 63 ∧ Q .non (mupd M a (.lst (es.take i.toNat ++ [d] ++ es.drop i.toNat)))
  | _ => False
def rInsertA : V → List V → Hp → VK → Prop := fun x vs H Q => ∃ (l : Addr) (xs : List V) (i : Int) (y : V), x = .ref l ∧ vs = [.int i, y] ∧ H l = some (.lst xs) ∧ xs.length < sizeLine ∧ 0 ≤ i ∧ i < 2 ^ 63 ∧
    Q .non (upd H l (.lst (xs.take i.toNat ++ [y] ++ xs.drop i.toNat)))
theorem m_insert (hK : X.K = K := by rfl) : PMt X K "list.insert" rInsertA oInsert := by
  subst hK
  refine ⟨rfl, mt_insert, ?_⟩
  intro a es vs ds H M Qd Q h rr m q l
  cases ds with
  | nil => exact q.elim
  | cons d t => cases t with
    | nil => cases d <;> exact q.elim
    | cons e t => cases t with
      | cons => cases d <;> exact q.elim
      | nil =>
        obtain ⟨v, w, rfl, r, s⟩ := reps2 rr
        cases d <;> first | exact q.elim | skip
        obtain ⟨h1, h2, h3, h4⟩ := q
        cases r
        obtain ⟨ws, g1, g2⟩ := m _ _ h
        exact ⟨a, ws, _, w, rfl, rfl, g1, by rw [g2.length]; exact h1, h2, h3, l.mut m h (((g2.take _).append (.cons s .nil)).append (g2.drop _)) .non h4⟩
variable {es : List Expr} {str : TA} {tr : DA} {rm : V → List V → Hp → VK → Prop} {o : OM} {id : String} {name : Str} {apos cpos : Pos}
theorem dlm (pa : PlainAttrs "list") (slot : Slot "list" name id) (hty : typeOf (.builtin id) = pure (.type "method_descriptor")) (hm : PMt X K id rm o) (ha : PD X K a sta ta) (hr : PDA X K (e :: es) str tr)
    (hbase : attributeBase a name X.env (eval a X.env) = eval a X.env := by rfl)
    (hfew : ((backTo cpos (starEach (e :: es) X.env)).all (fun x => !x.1) && (backToKw cpos (keywordEach [] X.env)).all (fun x => x.1.isSome)
      && decide ((e :: es).length + ([] : List Keyword).length + (if ([] : List Keyword).isEmpty then 0 else 1) < 30)) = true := by rfl)
    (hline : (apos.endLine == cpos.line) = true := by rfl) (hs : starEach (e :: es) X.env = (false, eval e X.env) :: starEach es X.env := by rfl) (hplain : (backTo cpos (starEach es X.env)).any (·.1) = false := by rfl) :
    PD X K (.Call (.Attribute a name apos) (e :: es) [] cpos) (tBM K "list" rm sta str) (dLM o ta tr) := by
  have hK := hm.hK; subst hK
  obtain ⟨_, h1, h2⟩ := hm
  obtain ⟨_, p1, p2⟩ := ha
  obtain ⟨_, q1, q2⟩ := hr
  exact ⟨rfl, pe_bm pa slot hty h1 p1 q1 hbase hfew hline hs hplain, se_lm h2 p2 q2⟩
theorem dlm0 (pa : PlainAttrs "list") (slot : Slot "list" name id) (hty : typeOf (.builtin id) = pure (.type "method_descriptor")) (hm : PMt X K id rm o) (ha : PD X K a sta ta)
    (hbase : attributeBase a name X.env (eval a X.env) = eval a X.env := by rfl) (hline : (apos.endLine == cpos.line) = true := by rfl) :
    PD X K (.Call (.Attribute a name apos) [] [] cpos) (tBM0 K "list" rm sta) (dLM o ta dNil) := by
  have hK := hm.hK; subst hK
  obtain ⟨_, h1, h2⟩ := hm
  obtain ⟨_, p1, p2⟩ := ha
  exact ⟨rfl, pe_bm0 pa slot hty h1 p1 hbase hline, se_lm0 h2 p2⟩

/-! ### isinstance(e, T), T a built-in type -/
def tyD (d : D) (M : Mp) : Option String := match d with
  | .non => some "NoneType"
  | .bl _ => some "bool"
  | .int _ => some "int"
  | .str _ => some "str"
  | .tup _ => some "tuple"
  | .fl _ => some "list"
  | .ref a => match M a with
    | some (.lst _) => some "list"
    | some (.dct _) => some "dict"
    | none => none
theorem ty_of {K : PySem.W.Frag} {H : Hp} {x : V} {d : D} {M : Mp} {T : String} (r : Rep K H x d) (m : RepM K H M) (h : tyD d M = some T) : TyX K H x (.type T) := by
  cases r with
  | non => cases h; exact .base .non
  | bl b => cases h; exact .base (.bl b)
  | int i => cases h; exact .base (.int i)
  | str y => cases h; exact .base (.str y)
  | tup q r =>
    cases h
    rcases q with (q | ⟨o, q⟩) | ⟨o, its, n, q1, q2, _⟩
    · exact .base (.tup q)
    · exact .fTuple q
    · exact .kTuple q1 q2
  | fl q r =>
    cases h
    rcases q with ⟨o, q⟩ | ⟨o, its, n, q1, q2, _⟩
    · exact .base (.frz q)
    · exact .kList q1 q2
  | ref a =>
    unfold tyD at h
    dsimp only at h
    cases e : M a with
    | none => rw [e] at h; cases h
    | some o =>
      have ro := m a o e
      rw [e] at h
      cases o with
      | lst ds => cases h; obtain ⟨vs, h1, _⟩ := ro; exact .base (.lst h1)
      | dct kvs => cases h; obtain ⟨vs, h1, _⟩ := ro; exact .base (.dK h1)
def dIsi (T : String) (te : DE) : DE := fun Γ M Q => te Γ M fun d M1 => ∃ S b, tyD d M1 = some S ∧ kitB S T = some b ∧ Q (.bl b) M1
theorem disi {T : String} {x : Str} {p pt : Pos} (he : PD X K e ste te) (hg : Gl X "isinstance") (hm : X.mg "isinstance" = none) (hv : bootBuiltins "isinstance" = some (.builtin "isinstance")) (hg2 : Gl X x) (hm2 : X.mg x = none) (hv2 : bootBuiltins x = some (.type T))
    (hn : x ≠ "__name__" := by decide) (hd : (x == ("__debug__" : Str)) = false := by decide) (h1 : starEach [e, .Name x pt] X.env = (false, eval e X.env) :: starEach [.Name x pt] X.env := by rfl) (h2 : starEach [.Name x pt] X.env = (false, eval (.Name x pt) X.env) :: starEach [] X.env := by rfl)
    (hpl : (backTo pos (starEach [.Name x pt] X.env)).any (·.1) = false := by rfl) : PD X K (.Call (.Name "isinstance" p) [e, .Name x pt] [] pos) (tCB (rIsi K) (tCons ste (tCons (tC (.ty T)) tNil))) (dIsi T te) := by
  have hK := he.hK; subst hK
  obtain ⟨_, p1, p2⟩ := he
  refine ⟨rfl, pe_callB call_isi hg hm hv (pa_cons p1 (pa_cons (pe_bltn (v := .ty T) hg2 hm2 hv2 rfl hn hd) pa_nil h2) h1) (by decide) (by decide) h1 hpl, fun σ H Γ M Qd Q hg hM ht hL => p2 σ H Γ M _ _ hg hM ht fun d M1 x H1 h1 s1 r1 m1 => ?_⟩
  obtain ⟨S, b, h3, h4, h5⟩ := h1
  exact ⟨_, _, _, _, b, rfl, .ty T, ty_of r1 m1 h3, kit_ty h4, hL _ M1 _ H1 h5 s1 (.bl b) m1⟩

/-! ### dicts with written keys -/
def valD (kvs : List (Key × D)) (k : Key) : Option D := (kvs.find? fun kv => decide (kv.1 = k)).map (·.2)
def putD (kvs : List (Key × D)) (k : Key) (v : D) : List (Key × D) := if kvs.any (fun kv => decide (kv.1 = k)) then kvs.map (fun kv => if kv.1 = k then (kv.1, v) else kv) else kvs ++ [(k, v)]
def keyD : D → Option Key
  | .int i => some (.inl i)
  | .str x => some (.inr x)
  | _ => none
theorem kreps_val {K : PySem.W.Frag} {H : Hp} {k : Key} : ∀ {vs : List (Key × V)} {ds : List (Key × D)} {d : D}, KReps K H vs ds → valD ds k = some d → ∃ v, valV vs k = some v ∧ Rep K H v d := by
  intro vs ds d h
  induction h with
  | nil => intro e; cases e
  | @cons j v d' vs ds r t ih =>
    intro e
    by_cases hk : j = k
    · have e1 : valD ((j, d') :: ds) k = some d' := by simp [valD, List.find?_cons, hk]
      rw [e1] at e; cases e
      exact ⟨v, valV_pos hk, r⟩
    · have e1 : valD ((j, d') :: ds) k = valD ds k := by simp [valD, List.find?_cons, hk]
      rw [e1] at e
      rw [valV_neg hk]
      exact ih e
theorem key_rep {K : PySem.W.Frag} {H : Hp} {v : V} {d : D} {k : Key} (r : Rep K H v d) (h : keyD d = some k) : v = kV k := by
  cases r <;> cases h <;> rfl
def dDGet (td ty : DE) : DE := fun Γ M Q => td Γ M fun d M1 => ty Γ M1 fun e M2 => match d with
  | .ref a => ∃ kvs k v, M2 a = some (.dct kvs) ∧ keyD e = some k ∧ valD kvs k = some v ∧ Q v M2
  | _ => False
theorem ddget (hu : X.A.units + 1 < cLine) (ha : PD X K a sta ta) (hb : PD X K b stb tb) (hs : NoSl b := by intro _ _; rfl) : PD X K (.Subscript a b pos) (tDGet sta stb) (dDGet ta tb) := by
  have hK := ha.hK; subst hK
  obtain ⟨_, p1, p2⟩ := ha
  obtain ⟨_, q1, q2⟩ := hb
  refine ⟨rfl, pe_dget hu p1 q1 hs, fun σ H Γ M Qd Q hg hM ht hL => p2 σ H Γ M _ _ hg hM ht fun d M1 x H1 h1 s1 r1 m1 => q2 σ H1 Γ M1 _ _ (hg.step hM s1) m1 h1 fun e M2 y H2 h2 s2 r2 m2 => ?_⟩
  cases d <;> first | exact h2.elim | skip
  cases r1
  obtain ⟨kvs, k, v, h3, h4, h5, h6⟩ := h2
  obtain ⟨ks, g1, g2⟩ := m2 _ _ h3
  obtain ⟨u, g3, g4⟩ := kreps_val g2 h5
  refine ⟨_, u, rfl, ?_, hL _ M2 _ H2 h6 (s1.trans s2) g4 m2⟩
  rw [key_rep r2 h4, ← g3]
  exact DGet.k g1
end
end DL
end
section
set_option maxHeartbeats 4000000
/-! DL4: statements, targets, loops, comprehensions, calls of own defs over trees. -/
namespace DL
open PySem PySem.Spec PyProof.Rows L2

section
variable {X : Cx} {K : PySem.W.Frag} {st : Stmt} {rest : List Stmt} {st' su : TS} {t u : DS} {e : Expr} {ste : TE} {te : DE} {pos : Pos}
/-! ### blocks -/
def dNext : DS := fun F Γ M => F.nx Γ M
def dSeq (t u : DS) : DS := fun F Γ M => t { F with nx := u F } Γ M
theorem snil (hK : X.K = K := by rfl) : PDSs X K [] tNext dNext := by
  subst hK
  exact ⟨rfl, pss_nil, fun σ H Γ M F E hg hM ht hL => hL.nx Γ M σ H ht Step.refl hg hM⟩
theorem scons (h1 : PDS X K st st' t) (h2 : PDSs X K rest su u) : PDSs X K (st :: rest) (tSeq st' su) (dSeq t u) := by
  have hK := h1.hK; subst hK
  obtain ⟨_, p1, p2⟩ := h1
  obtain ⟨_, q1, q2⟩ := h2
  exact ⟨rfl, pss_cons p1 q1, fun σ H Γ M F E hg hM ht hL => p2 σ H Γ M { F with nx := u F } { E with nx := su E } hg hM ht
    ⟨fun Γ' M' σ' H' h st hg' hM' => q2 σ' H' Γ' M' F E hg' hM' h (hL.step st), hL.rt, hL.bk, hL.ct⟩⟩
theorem sone (h1 : PDS X K st st' t) : PDSs X K [st] st' t := by have hK := h1.hK; subst hK; obtain ⟨_, p1, p2⟩ := h1; exact ⟨rfl, pss_one p1, p2⟩
def dBreak : DS := fun F Γ M => F.bk Γ M
def dCont : DS := fun F Γ M => F.ct Γ M
theorem sbreak (hK : X.K = K := by rfl) : PDS X K (.Break pos) tBreak dBreak := by
  subst hK
  exact ⟨rfl, ps_break, fun σ H Γ M F E hg hM ht hL => hL.bk Γ M σ H ht Step.refl hg hM⟩
theorem scontinue (hK : X.K = K := by rfl) : PDS X K (.Continue pos) tCont dCont := by
  subst hK
  exact ⟨rfl, ps_continue, fun σ H Γ M F E hg hM ht hL => hL.ct Γ M σ H ht Step.refl hg hM⟩
theorem spass (hK : X.K = K := by rfl) : PDS X K (.Pass pos) tNext dNext := by
  subst hK
  exact ⟨rfl, ps_pass, fun σ H Γ M F E hg hM ht hL => hL.nx Γ M σ H ht Step.refl hg hM⟩
def dDrop (te : DE) : DS := fun F Γ M => te Γ M fun _ M1 => F.nx Γ M1
theorem sexpr (he : PD X K e ste te) (hs : swapsWith e none pos.line X.env = pure false := by rfl) : PDS X K (.Expr e pos) (tDrop ste) (dDrop te) := by
  have hK := he.hK; subst hK
  obtain ⟨_, p1, p2⟩ := he
  exact ⟨rfl, ps_expr p1 hs, fun σ H Γ M F E hg hM ht hL => p2 σ H Γ M _ _ hg hM ht fun d M1 v H1 h s r m => hL.nx Γ M1 σ H1 h s (hg.step hM s) m⟩
def dRet (te : DE) : DS := fun F Γ M => te Γ M F.rt
theorem sret (he : PD X K e ste te) : PDS X K (.Return (some e) pos) (tRet ste) (dRet te) := by
  have hK := he.hK; subst hK
  obtain ⟨_, p1, p2⟩ := he
  exact ⟨rfl, ps_ret p1, fun σ H Γ M F E hg hM ht hL => p2 σ H Γ M _ _ hg hM ht hL.rt⟩
def dRetN : DS := fun F _ M => F.rt .non M
theorem sretN (hK : X.K = K := by rfl) : PDS X K (.Return none pos) tRetN dRetN := by
  subst hK
  exact ⟨rfl, ps_retN, fun σ H Γ M F E hg hM ht hL => hL.rt _ M _ H ht Step.refl .non hM⟩
def dIfS (c : DT) (t u : DS) : DS := fun F Γ M => c Γ M fun b M1 => if b = true then t F Γ M1 else u F Γ M1
theorem sif {stc : TT} {c : Expr} {a b : List Stmt} {tc : DT} (hc : PDT X K c stc tc) (ha : PDSs X K a st' t) (hb : PDSs X K b su u) : PDS X K (.If c a b pos) (tIfS stc st' su) (dIfS tc t u) := by
  have hK := hc.hK; subst hK
  obtain ⟨_, g1, g2⟩ := hc
  obtain ⟨_, p1, p2⟩ := ha
  obtain ⟨_, q1, q2⟩ := hb
  refine ⟨rfl, ps_if g1 p1 q1, fun σ H Γ M F E hg hM ht hL => g2 σ H Γ M _ _ hg hM ht fun c M1 H1 h s m => ?_⟩
  cases c with
  | true =>
    rw [if_pos rfl] at h ⊢
    exact p2 σ H1 Γ M1 F E (hg.step hM s) m h (hL.step s)
  | false =>
    rw [if_neg Bool.false_ne_true] at h ⊢
    exact q2 σ H1 Γ M1 F E (hg.step hM s) m h (hL.step s)

/-! ### targets -/
abbrev DG := D → Gm → Mp → (Gm → Mp → Prop) → Prop
/-- slots outside of own stand -/
def But (own : List Nat) (σ σ' : L2.St) : Prop := σ'.length = σ.length ∧ ∀ j, j ∉ own → σ'[j]? = σ[j]?
def SG (K : PySem.W.Frag) (own : List Nat) (tg : TG) (g : DG) : Prop := ∀ v d σ H Γ M Qd (Q : L2.St → Hp → Prop), Rep K H v d → RG K H σ Γ → RepM K H M → g d Γ M Qd →
  (∀ Γ' M' σ' H', Qd Γ' M' → Step M H M' H' → RG K H' σ' Γ' → RepM K H' M' → But own σ σ' → Q σ' H') → tg v σ H Q
structure PDG (X : Cx) (K : PySem.W.Frag) (own : List Nat) (target : Expr) (s : TG) (g : DG) : Prop where
  hK : X.K = K
  pe : PG X target s
  se : SG K own s g
def dgN (i : Nat) : DG := fun d Γ M Q => Q (sv Γ i d) M
theorem But.set {own : List Nat} {σ : L2.St} {i : Nat} {x : Option V} (h : i ∈ own) : But own σ (σ.set i x) := ⟨List.length_set .., fun j hj => List.getElem?_set_ne (fun e => hj (by rw [← e]; exact h))⟩
theorem But.trans {own : List Nat} {a b c : L2.St} (x : But own a b) (y : But own b c) : But own a c := ⟨y.1.trans x.1, fun j hj => (y.2 j hj).trans (x.2 j hj)⟩
theorem gname {own : List Nat} {i : Nat} {x : Str} (hN : X.N.Nodup) (hi : X.N[i]? = some x := by rfl) (ho : i ∈ own := by decide) (hx : Loc X.env.scope x := by first | exact .inl rfl | exact .inr rfl) (hf : X.fn x = true ∨ X.env.scope.names.lookup x = some .local := by first | exact .inl rfl | exact .inr rfl | assumption) (hK : X.K = K := by rfl) :
    PDG X K own (.Name x pos) (gName i) (dgN i) := by
  subst hK
  exact ⟨rfl, pg_name hN hi hx hf, fun v d σ H Γ M Qd Q r hg hM h k => k _ M _ H h Step.refl (hg.set r i) hM (But.set ho)⟩
def dgAll : List DG → List D → Gm → Mp → (Gm → Mp → Prop) → Prop
  | [], [], Γ, M, Q => Q Γ M
  | g :: gs, d :: ds, Γ, M, Q => g d Γ M fun Γ1 M1 => dgAll gs ds Γ1 M1 Q
  | _, _, _, _, _ => False
structure PDGs (X : Cx) (K : PySem.W.Frag) (own : List Nat) (ts : List Expr) (tg : TGs) (gs : List DG) : Prop where
  hK : X.K = K
  pe : PGs X ts tg
  se : ∀ vs ds σ H Γ M Qd (Q : L2.St → Hp → Prop), Reps K H vs ds → RG K H σ Γ → RepM K H M → dgAll gs ds Γ M Qd →
    (∀ Γ' M' σ' H', Qd Γ' M' → Step M H M' H' → RG K H' σ' Γ' → RepM K H' M' → But own σ σ' → Q σ' H') → tg vs σ H Q
theorem gsnil {own : List Nat} (hK : X.K = K := by rfl) : PDGs X K own [] gNil [] := by
  subst hK
  exact ⟨rfl, pgs_nil, fun vs ds σ H Γ M Qd Q r hg hM h k => by
  cases r with
  | nil => exact ⟨rfl, k _ M _ H h Step.refl hg hM ⟨rfl, fun _ _ => rfl⟩⟩
  | cons => exact h.elim⟩
theorem gscons {sg : TG} {sgs : TGs} {own : List Nat} {e : Expr} {es : List Expr} {g : DG} {gs : List DG} (h1 : PDG X K own e sg g) (h2 : PDGs X K own es sgs gs)
    (hs : (assignEach (e :: es) X.env).map (·.2) = assign e X.env :: (assignEach es X.env).map (·.2) := by rfl) : PDGs X K own (e :: es) (gCons sg sgs) (g :: gs) := by
  have hK := h1.hK; subst hK
  obtain ⟨_, p1, p2⟩ := h1
  obtain ⟨_, q1, q2⟩ := h2
  refine ⟨rfl, pgs_cons p1 q1 hs, fun vs ds σ H Γ M Qd Q r hg hM h k => ?_⟩
  cases r with
  | nil => exact h.elim
  | cons r rs =>
    refine ⟨_, _, rfl, p2 _ _ σ H Γ M _ _ r hg hM h fun Γ1 M1 σ1 H1 h1 s1 g1 m1 b1 => ?_⟩
    exact q2 _ _ σ1 H1 Γ1 M1 _ _ (rs.step hM s1) g1 m1 h1 fun Γ2 M2 σ2 H2 h2 s2 g2 m2 b2 => k Γ2 M2 σ2 H2 h2 (s1.trans s2) g2 m2 (b1.trans b2)
def dgT (gs : List DG) : DG := fun d Γ M Q => match d with
  | .tup ds => ds.length = gs.length ∧ dgAll gs ds Γ M Q
  | .ref a => match M a with
    | some (.lst ds) => ds.length = gs.length ∧ dgAll gs ds Γ M Q
    | _ => False
  | _ => False
def gTL (K : PySem.W.Frag) (n : Nat) (t : TGs) : TG := fun v σ H Q => gTup K n t v σ H Q ∨ gLst K n t v σ H Q
theorem gtup {sgs : TGs} {own : List Nat} {es : List Expr} {k : Nat} {gs : List DG} (hc : X.calm = true) (h : PDGs X K own es sgs gs)
    (hn : (assignEach es X.env).length = gs.length := by rfl) (hst : (assignEach es X.env).findIdx? (·.1) = none := by rfl) : PDG X K own (.Tuple es k pos) (gTL K gs.length sgs) (dgT gs) := by
  have hK := h.hK; subst hK
  obtain ⟨_, p1, p2⟩ := h
  refine ⟨rfl, ⟨fun pins s σ H v u Q I r hw => hw.elim (fun hw => (pg_tup hc p1 hn hst).run pins s σ H v u Q I r hw) fun hw => (pg_lst hc p1 hn hst).run pins s σ H v u Q I r hw⟩, fun v d σ H Γ M Qd Q r hg hM h k => ?_⟩
  obtain ⟨ds, e1, e2, e3⟩ : ∃ ds, itemsD d M = some ds ∧ ds.length = gs.length ∧ dgAll gs ds Γ M Qd := by
    cases d with
    | tup ds => exact ⟨ds, rfl, h.1, h.2⟩
    | ref a =>
      unfold dgT at h
      dsimp only at h
      cases e : M a with
      | none => rw [e] at h; exact h.elim
      | some o => cases o with
        | lst ds =>
          rw [e] at h
          exact ⟨ds, by unfold itemsD; dsimp only; rw [e], h.1, h.2⟩
        | dct kvs => rw [e] at h; exact h.elim
    | _ => exact h.elim
  obtain ⟨p, vs, rfl, hq, rs⟩ := items_sq r hM e1
  rcases hq with hq | hq
  · exact .inr ⟨_, _, rfl, hq, by rw [rs.length]; exact e2, p2 _ _ σ H Γ M _ _ rs hg hM e3 k⟩
  · exact .inl ⟨_, _, rfl, hq, by rw [rs.length]; exact e2, p2 _ _ σ H Γ M _ _ rs hg hM e3 k⟩

/-! ### assignments -/
def dAsg (te : DE) (g : DG) : DS := fun F Γ M => te Γ M fun d M1 => g d Γ M1 F.nx
theorem ss_asg {K : PySem.W.Frag} {own : List Nat} {s1 : TE} {tg : TG} {g : DG} (p2 : SE K s1 te) (q2 : SG K own tg g) : SS K (tAsg s1 tg) (dAsg te g) := fun σ H Γ M F E hg hM ht hL =>
  p2 σ H Γ M _ _ hg hM ht fun d M1 v H1 h s r m => q2 v d σ H1 Γ M1 _ _ r (hg.step hM s) m h fun Γ' M' σ' H' h' s' g' m' _ => hL.nx Γ' M' σ' H' h' (s.trans s') g' m'
theorem sasg {sg : TG} {own : List Nat} {tg : Expr} {g : DG} (he : PD X K e ste te) (hg : PDG X K own tg sg g) (hs : swapsWithSole [tg] e pos.line X.env = pure false := by rfl) (hw : swappedStores [tg] e X.env = pure none := by rfl)
    (h1 : (assignEach [tg] X.env).map (·.2) = [assign tg X.env] := by rfl) : PDS X K (.Assign [tg] e pos) (tAsg ste sg) (dAsg te g) := by
  have hK := he.hK; subst hK
  obtain ⟨_, p1, p2⟩ := he
  obtain ⟨_, q1, q2⟩ := hg
  exact ⟨rfl, ps_asg p1 q1 hs hw h1, ss_asg p2 q2⟩
theorem sset {i : Nat} {x : Str} {pos' : Pos} (hN : X.N.Nodup) (he : PD X K e ste te) (hi : X.N[i]? = some x := by rfl) (hx : Loc X.env.scope x := by first | exact .inl rfl | exact .inr rfl) (hs : swapsWith e (some (.Name x pos')) pos.line X.env = pure false := by rfl) (hf : X.fn x = true ∨ X.env.scope.names.lookup x = some .local := by first | exact .inl rfl | exact .inr rfl | assumption) :
    PDS X K (.Assign [.Name x pos'] e pos) (tAsg ste (gName i)) (dAsg te (dgN i)) := by
  have hK := he.hK; subst hK
  obtain ⟨_, p1, p2⟩ := he
  exact ⟨rfl, ps_set hN hi hx p1 hs hf, ss_asg (own := [i]) p2 (fun v d σ H Γ M Qd Q r hg hM h k => k _ M _ H h Step.refl (hg.set r i) hM (But.set (by simp)))⟩
/-- xs[i] = e -/
def dSetL (to ti te : DE) : DS := fun F Γ M => te Γ M fun d M1 => to Γ M1 fun o M2 => ti Γ M2 fun j M3 => match o, j with
  | .ref a, .int k => ∃ es n, M3 a = some (.lst es) ∧ ixN es.length k = some n ∧ F.nx Γ (mupd M3 a (.lst (es.set n d)))
  | _, _ => False
theorem ssetL {sto sti : TE} {o i : Expr} {to ti : DE} {pos' : Pos} (ho : PD X K o sto to) (hi : PD X K i sti ti) (he : PD X K e ste te) (hs : swapsWithSole [.Subscript o i pos'] e pos.line X.env = pure false := by rfl) (hw : swappedStores [.Subscript o i pos'] e X.env = pure none := by rfl)
    (h1 : (assignEach [.Subscript o i pos'] X.env).map (·.2) = [assign (.Subscript o i pos') X.env] := by rfl) (ha : ∀ v, assign (.Subscript o i pos') X.env v = (do
      let ov ← holding [v] (eval o X.env)
      let iv ← holding [v, ov] (eval i X.env)
      standAt pos'
      holding [v, ov, iv] (setItem ov iv v)
      release [v, ov, iv] []) := by intro _; rfl) : PDS X K (.Assign [.Subscript o i pos'] e pos) (tAsg ste (gSub sto sti rSetL)) (dSetL to ti te) := by
  have hK := ho.hK; subst hK
  obtain ⟨_, p1, p2⟩ := he
  obtain ⟨_, q1, q2⟩ := ho
  obtain ⟨_, k1, k2⟩ := hi
  refine ⟨rfl, ps_asg p1 (pg_sub q1 k1 set_list ha) hs hw h1, fun σ H Γ M F E hg hM ht hL => p2 σ H Γ M _ _ hg hM ht fun d M1 v H1 h s r m =>
    q2 σ H1 Γ M1 _ _ (hg.step hM s) m h fun o M2 w H2 h2 st2 r2 m2 => k2 σ H2 Γ M2 _ _ ((hg.step hM s).step m st2) m2 h2 fun j M3 z H3 h3 st3 r3 m3 => ?_⟩
  have rv := (r.step m st2).step m2 st3
  cases o <;> cases j <;> first | exact h3.elim | skip
  cases r2
  cases r3
  obtain ⟨es, n, g1, g2, g3⟩ := h3
  obtain ⟨ws, f1, f2⟩ := m3 _ _ g1
  have hs3 : Step M3 H3 _ (upd H3 _ (.lst (ws.set n v))) := Step.mut (u := .lst (es.set n d)) g1
  have hst := (s.trans st2).trans st3
  refine ⟨_, ws, _, n, rfl, rfl, f1, by rw [f2.length]; exact g2, hL.nx _ _ σ _ g3 (hst.trans hs3) ((((hg.step hM s).step m st2).step m2 st3).step m3 hs3) (m3.mut g1 ⟨_, upd_same, (f2.set rv n).step m3 hs3⟩)⟩

/-! ### what is walked -/
abbrev DI := Gm → Mp → (List D → (Mp → Prop) → Mp → Prop) → Prop
/-- J yields the items, as long as inv holds of the store -/
def Gives (K : PySem.W.Frag) (H1 : Hp) (J : It) (items : List D) (inv : Mp → Prop) : Prop := ∀ M2 H2, KT H1 H2 → RepM K H2 M2 → inv M2 →
  (∀ i d, items[i]? = some d → J.go i H2 ∧ ∀ x H3, J.yld i H2 x H3 → Rep K H3 x d ∧ Step M2 H2 M2 H3 ∧ RepM K H3 M2) ∧ J.stop items.length H2
def SI (K : PySem.W.Frag) (wi : TI) (t : DI) : Prop := ∀ σ H Γ M Qd (R : It → Hp → Prop), RG K H σ Γ → RepM K H M → t Γ M Qd →
  (∀ items inv M' J H', Qd items inv M' → Step M H M' H' → RepM K H' M' → Gives K H' J items inv → R J H') → wi σ H R
structure PDI (X : Cx) (K : PySem.W.Frag) (tg iter : Expr) (s : TI) (t : DI) : Prop where
  hK : X.K = K
  pe : PI X tg iter s
  se : SI K s t
def iSeq (K : PySem.W.Frag) (tl : TE) : TI := fun σ H R => tl σ H fun x H1 => ∃ a, x = .ref a ∧ ((∃ xs, SqL K H1 a xs ∧ R (Itl K a) H1) ∨ ∃ xs, SqT K H1 a xs ∧ R (Itt K a) H1)
theorem pi_seq {tg l : Expr} {tl : TE} (hl : PE X l tl) : PI X tg l (iSeq X.K tl) := by
  refine ⟨fun pins s σ H R I h => ?_⟩
  refine thn (hl.run pins s σ H _ I h) fun v s1 ⟨x, H1, I1, r1, q1⟩ => ?_
  obtain ⟨a, e, q⟩ := q1
  subst e
  cases r1
  rcases q with ⟨xs, hq, q⟩ | ⟨xs, hq, q⟩
  · obtain ⟨its, rv, p, hz⟩ := I1.list hq
    refine wpAny_pyIter_list p.isList ?_
    refine ⟨s1.heap.objs.size, [s1.heap.objs.size], _, _, H1, rfl, I1.kept (t' := s1.toks) fun b o e => Heap.get?_push_of_some _ e, turn_list a _, ⟨_, Heap.get?_push_size _ rfl, rfl, rfl⟩, fun b hb => ?_, q⟩
    have e : b = s1.heap.objs.size := by simpa using hb
    subst e
    exact I1.fpOk (Nat.le_refl _) (I1.hok.fresh (Nat.le_refl _))
  · obtain ⟨its, rv, p, hz⟩ := I1.tuple hq
    refine wpAny_pyIter_tuple (show s1.heap.IsTuple a its.toArray from p) ?_
    refine ⟨s1.heap.objs.size, [s1.heap.objs.size], _, _, H1, rfl, I1.kept (t' := s1.toks) fun b o e => Heap.get?_push_of_some _ e, turn_tuple a _, ⟨_, Heap.get?_push_size _ rfl, rfl, rfl⟩, fun b hb => ?_, q⟩
    have e : b = s1.heap.objs.size := by simpa using hb
    subst e
    exact I1.fpOk (Nat.le_refl _) (I1.hok.fresh (Nat.le_refl _))
/-- the items stand as they stood -/
def same (d : D) (es : List D) : Mp → Prop := match d with
  | .ref a => fun M => M a = some (.lst es)
  | _ => fun _ => True
def diSeq (te : DE) : DI := fun Γ M Q => te Γ M fun d M1 => ∃ es, itemsD d M1 = some es ∧ Q es (same d es) M1
theorem gives_l {K : PySem.W.Frag} {H1 : Hp} {p : Addr} {es : List D} {inv : Mp → Prop} (h : ∀ M2 H2, KT H1 H2 → RepM K H2 M2 → inv M2 → ∃ vs, SqL K H2 p vs ∧ Reps K H2 vs es) : Gives K H1 (Itl K p) es inv := fun M2 H2 s m v => by
  obtain ⟨vs, h1, h2⟩ := h M2 H2 s m v
  refine ⟨fun i d e => ?_, vs, h1, by rw [h2.length]; exact Nat.le_refl _⟩
  obtain ⟨w, g1, g2⟩ := h2.get e
  refine ⟨⟨vs, w, h1, g1⟩, fun x H3 y => ?_⟩
  obtain ⟨rfl, y⟩ := y
  have e2 := y vs h1
  rw [g1] at e2
  cases e2
  exact ⟨g2, Step.refl, m⟩
theorem gives_t {K : PySem.W.Frag} {H1 : Hp} {p : Addr} {es : List D} {inv : Mp → Prop} (h : ∀ M2 H2, KT H1 H2 → RepM K H2 M2 → inv M2 → ∃ vs, SqT K H2 p vs ∧ Reps K H2 vs es) : Gives K H1 (Itt K p) es inv := fun M2 H2 s m v => by
  obtain ⟨vs, h1, h2⟩ := h M2 H2 s m v
  refine ⟨fun i d e => ?_, vs, h1, by rw [h2.length]; exact Nat.le_refl _⟩
  obtain ⟨w, g1, g2⟩ := h2.get e
  refine ⟨⟨vs, w, h1, g1⟩, fun x H3 y => ?_⟩
  obtain ⟨rfl, y⟩ := y
  have e2 := y vs h1
  rw [g1] at e2
  cases e2
  exact ⟨g2, Step.refl, m⟩
theorem iseq {tg : Expr} (he : PD X K e ste te) : PDI X K tg e (iSeq K ste) (diSeq te) := by
  have hK := he.hK; subst hK
  obtain ⟨_, p1, p2⟩ := he
  refine ⟨rfl, pi_seq p1, fun σ H Γ M Qd R hg hM ht hL => p2 σ H Γ M _ _ hg hM ht fun d M1 v H1 h s r m => ?_⟩
  obtain ⟨es, h1, h2⟩ := h
  cases r with
  | non => cases h1
  | bl => cases h1
  | int => cases h1
  | str => cases h1
  | tup q r =>
    cases h1
    exact ⟨_, rfl, .inr ⟨_, q, hL es _ M1 _ H1 h2 s m (gives_t fun M2 H2 s2 m2 _ => ⟨_, s2.sq q, r.kt s2⟩)⟩⟩
  | fl q r =>
    cases h1
    exact ⟨_, rfl, .inl ⟨_, q.sq, hL es _ M1 _ H1 h2 s m (gives_l fun M2 H2 s2 m2 _ => ⟨_, (RdL.kt s2 q).sq, r.kt s2⟩)⟩⟩
  | ref a =>
    unfold itemsD at h1
    dsimp only at h1
    cases q : M1 a with
    | none => rw [q] at h1; cases h1
    | some o =>
      have ro := m a o q
      rw [q] at h1
      cases o with
      | dct => cases h1
      | lst ds =>
        cases h1
        obtain ⟨vs, g1, g2⟩ := ro
        exact ⟨_, rfl, .inl ⟨_, SqL.of g1, hL es _ M1 _ H1 h2 s m (gives_l fun M2 H2 s2 m2 i2 => by
          obtain ⟨ws, k1, k2⟩ := m2 a _ i2
          exact ⟨ws, SqL.of k1, k2⟩)⟩⟩
def rgD (lo : Int) (n : Nat) : List D := (List.range n).map fun i => .int (lo + (i : Nat))
theorem rgD_len (lo : Int) (n : Nat) : (rgD lo n).length = n := by unfold rgD; rw [List.length_map, List.length_range]
theorem rgD_get {lo : Int} {n i : Nat} {d : D} (h : (rgD lo n)[i]? = some d) : i < n ∧ d = .int (lo + (i : Nat)) := by
  unfold rgD at h
  rw [List.getElem?_map] at h
  have hl : i < n := by
    cases e : (List.range n)[i]? with
    | none => rw [e] at h; cases h
    | some j =>
      have := (List.getElem?_eq_some_iff.mp e).1
      simpa using this
  rw [List.getElem?_range hl] at h
  cases h
  exact ⟨hl, rfl⟩
theorem gives_r {K : PySem.W.Frag} {H1 : Hp} {lo : Int} {n : Nat} : Gives K H1 (Itr lo n) (rgD lo n) (fun _ => True) := fun M2 H2 s m _ => by
  refine ⟨fun i d e => ?_, by rw [rgD_len]; exact Nat.le_refl _⟩
  obtain ⟨h1, rfl⟩ := rgD_get e
  refine ⟨h1, fun x H3 y => ?_⟩
  obtain ⟨rfl, rfl⟩ := y
  exact ⟨.int _, Step.refl, m⟩
def diR1 (tr : DA) : DI := fun Γ M Q => tr Γ M fun ds M1 => match ds with
  | [.int j] => (-(2 ^ 62) ≤ j ∧ j < 2 ^ 62) ∧ Q (rgD 0 j.toNat) (fun _ => True) M1
  | _ => False
def diR2 (tr : DA) : DI := fun Γ M Q => tr Γ M fun ds M1 => match ds with
  | [.int i, .int j] => (-(2 ^ 62) ≤ i ∧ i < 2 ^ 62 ∧ -(2 ^ 62) ≤ j ∧ j < 2 ^ 62) ∧ Q (rgD i (j - i).toNat) (fun _ => True) M1
  | _ => False
theorem irange1 {str : TA} {tg a : Expr} {tr : DA} {p : Pos} (hg : Gl X "range") (hm : X.mg "range" = none) (ha : PDA X K [a] str tr) (hs : starEach [a] X.env = [(false, eval a X.env)] := by rfl) : PDI X K tg (.Call (.Name "range" p) [a] [] pos) (iRng1 str) (diR1 tr) := by
  have hK := ha.hK; subst hK
  obtain ⟨_, p1, p2⟩ := ha
  refine ⟨rfl, pi_range1 hg hm p1 hs, fun σ H Γ M Qd R hg hM ht hL => p2 σ H Γ M _ _ hg hM ht fun ds M1 vs H1 h s r m => ?_⟩
  cases ds with
  | nil => exact h.elim
  | cons d t => cases t with
    | cons => cases d <;> exact h.elim
    | nil =>
      obtain ⟨v, rfl, r1⟩ := reps1 r
      cases r1 <;> first | exact h.elim | skip
      exact ⟨_, rfl, h.1.1, h.1.2, hL _ _ M1 _ H1 h.2 s m gives_r⟩
theorem irange2 {str : TA} {tg a b : Expr} {tr : DA} {p : Pos} (hg : Gl X "range") (hm : X.mg "range" = none) (ha : PDA X K [a, b] str tr) (hs : starEach [a, b] X.env = [(false, eval a X.env), (false, eval b X.env)] := by rfl) (hs2 : starEach [b] X.env = [(false, eval b X.env)] := by rfl) :
    PDI X K tg (.Call (.Name "range" p) [a, b] [] pos) (iRng2 str) (diR2 tr) := by
  have hK := ha.hK; subst hK
  obtain ⟨_, p1, p2⟩ := ha
  refine ⟨rfl, pi_range2 hg hm p1 hs hs2, fun σ H Γ M Qd R hg hM ht hL => p2 σ H Γ M _ _ hg hM ht fun ds M1 vs H1 h s r m => ?_⟩
  cases ds with
  | nil => exact h.elim
  | cons d t => cases t with
    | nil => cases d <;> exact h.elim
    | cons e t => cases t with
      | cons => cases d <;> first | exact h.elim | (cases e <;> exact h.elim)
      | nil =>
        obtain ⟨v, w, rfl, r1, r2⟩ := reps2 r
        cases r1 <;> first | exact h.elim | skip
        cases r2 <;> first | exact h.elim | skip
        exact ⟨_, _, rfl, h.1, hL _ _ M1 _ H1 h.2 s m gives_r⟩

/-! ### for -/
def dLoop (g : DG) (tb : DS) (inv : Mp → Prop) (F : DEnds) : List D → Gm → Mp → Prop
  | [], Γ, M => inv M ∧ F.nx Γ M
  | d :: ds, Γ, M => inv M ∧ g d Γ M fun Γ1 M1 => tb { nx := dLoop g tb inv F ds, rt := F.rt, bk := F.nx, ct := dLoop g tb inv F ds } Γ1 M1
def dFor (ti : DI) (g : DG) (tb : DS) : DS := fun F Γ M => ti Γ M fun items inv M1 => dLoop g tb inv F items Γ M1
theorem ss_for {K : PySem.W.Frag} {own : List Nat} {wi : TI} {tg : TG} {ts : TS} {ti : DI} {g : DG} {tb : DS} (hi : SI K wi ti) (hg : SG K own tg g) (hb : SS K ts tb) : SS K (tFor wi tg ts) (dFor ti g tb) := fun σ H Γ M F E hΓ hM ht hL =>
  hi σ H Γ M _ _ hΓ hM ht fun items inv M1 J H1 h s m gv => by
    refine ⟨fun i k σ2 H2 => ∃ Γ2 M2, k = items.length - i ∧ i ≤ items.length ∧ Step M1 H1 M2 H2 ∧ RG K H2 σ2 Γ2 ∧ RepM K H2 M2 ∧ dLoop g tb inv F (items.drop i) Γ2 M2, ⟨items.length, Γ, M1, by simp, Nat.zero_le _, Step.refl, hΓ.step hM s, m, by simpa using h⟩, ?_⟩
    rintro i k σ2 H2 ⟨Γ2, M2, rfl, hi, s2, g2, m2, h2⟩
    by_cases hlt : i < items.length
    · have e : items.drop i = items[i] :: items.drop (i + 1) := List.drop_eq_getElem_cons hlt
      rw [e] at h2
      obtain ⟨v2, h2⟩ := h2
      obtain ⟨q1, q2⟩ := (gv M2 H2 (s2.kt m) m2 v2).1 i items[i] (by simp [hlt])
      refine .inr ⟨q1, fun σ3 H3 => ∃ Γ3 M3, Step M1 H1 M3 H3 ∧ RG K H3 σ3 Γ3 ∧ RepM K H3 M3 ∧ dLoop g tb inv F (items.drop (i + 1)) Γ3 M3, fun σ' H' ⟨Γ3, M3, s3, g3, m3, h3⟩ => ⟨_, by omega, Γ3, M3, rfl, hlt, s3, g3, m3, h3⟩, fun x H3 y => ?_⟩
      obtain ⟨r3, s3, m3⟩ := q2 x H3 y
      refine hg x _ σ2 H3 Γ2 M2 _ _ r3 (g2.step m2 s3) m3 h2 fun Γ4 M4 σ4 H4 h4 s4 g4 m4 _ => ?_
      have st4 := (s2.trans s3).trans s4
      refine hb σ4 H4 Γ4 M4 _ _ g4 m4 h4 ⟨fun Γ' M' σ' H' h' s' g' m' => ⟨Γ', M', st4.trans s', g', m', h'⟩, fun d M' v H' h' s' r' m' => hL.rt d M' v H' h' (s.trans (st4.trans s')) r' m',
        fun Γ' M' σ' H' h' s' g' m' => hL.nx Γ' M' σ' H' h' (s.trans (st4.trans s')) g' m', fun Γ' M' σ' H' h' s' g' m' => ⟨Γ', M', st4.trans s', g', m', h'⟩⟩
    · have e : i = items.length := by omega
      subst e
      rw [List.drop_length] at h2
      exact .inl ⟨(gv M2 H2 (s2.kt m) m2 h2.1).2, hL.nx Γ2 M2 σ2 H2 h2.2 (s.trans s2) g2 m2⟩
theorem sfor {sti : TI} {sg : TG} {stb : TS} {own : List Nat} {tg iter : Expr} {body : List Stmt} {ti : DI} {g : DG} {tb : DS} (hp : PassesOwn (model X.prog X.w) X.A X.env X.xe) (hc : X.calm = true) (hi : PDI X K tg iter sti ti) (hg : PDG X K own tg sg g) (hb : PDSs X K body stb tb)
    (hs : ∀ x, foldedSetIterable iter X.env x = pure x := by intro _; rfl) : PDS X K (.For tg iter body [] pos) (tFor sti sg stb) (dFor ti g tb) := by
  have hK := hi.hK; subst hK
  obtain ⟨_, i1, i2⟩ := hi
  obtain ⟨_, g1, g2⟩ := hg
  obtain ⟨_, b1, b2⟩ := hb
  exact ⟨rfl, ps_for hp hc i1 g1 b1 hs, ss_for i2 g2 b2⟩
end
end DL
end
section
set_option maxHeartbeats 4000000
/-! DL5: comprehensions, calls of own defs, a def's body, dicts stored, while. -/
namespace DL
open PySem PySem.Spec PyProof.Rows L2

/-! ### list comprehensions -/
structure PDTs (X : Cx) (K : PySem.W.Frag) (ifs : List Expr) (s : TT) (t : DT) : Prop where
  hK : X.K = K
  pe : PTs X ifs s
  se : ST K s t
def dYes : DT := fun _ M Q => Q true M
theorem wipe_in {σ : L2.St} {i : Nat} : ∀ {vs : List Nat}, i ∈ vs → i < σ.length → (wipe σ vs)[i]? = some none
  | v :: vs, h, hl => by
    unfold wipe
    by_cases e : v = i
    · subst e
      rw [List.getElem?_set_self (by rw [wipe_length]; exact hl)]
    · rw [List.getElem?_set_ne e]
      rcases List.mem_cons.mp h with h | h
      · exact absurd h.symm e
      · exact wipe_in h hl
theorem wipe_but {own : List Nat} {σ σ' : L2.St} (h : But own (wipe σ own) σ') : wipe σ' own = wipe σ own := by
  apply List.ext_getElem?
  intro i
  have hl : σ'.length = σ.length := by rw [h.1, wipe_length]
  by_cases hi : i ∈ own
  · by_cases l : i < σ.length
    · rw [wipe_in hi (by rw [hl]; exact l), wipe_in hi l]
    · rw [List.getElem?_eq_none (by rw [wipe_length, hl]; omega), List.getElem?_eq_none (by rw [wipe_length]; omega)]
  · rw [wipe_out hi, h.2 i hi]
def wipeG (Γ : Gm) : List Nat → Gm
  | [] => Γ
  | v :: vs => nv (wipeG Γ vs) v
where nv : Gm → Nat → Gm
  | [], _ => []
  | _ :: r, 0 => none :: r
  | o :: r, n + 1 => o :: nv r n
theorem nv_set : ∀ (Γ : Gm) (i : Nat), wipeG.nv Γ i = Γ.set i none
  | [], _ => rfl
  | _ :: _, 0 => rfl
  | o :: r, n + 1 => by show o :: wipeG.nv r n = o :: r.set n none; rw [nv_set]
theorem RG.wipe {K : PySem.W.Frag} {H : Hp} {σ : L2.St} {Γ : Gm} (h : RG K H σ Γ) : ∀ vs : List Nat, RG K H (L2.wipe σ vs) (wipeG Γ vs)
  | [] => h
  | v :: vs => by
    have q := RG.wipe h vs
    unfold L2.wipe wipeG
    rw [nv_set]
    refine ⟨by rw [List.length_set, List.length_set]; exact q.1, fun i d e => ?_⟩
    rw [List.getElem?_set] at e ⊢
    by_cases hi : v = i
    · subst hi
      rw [if_pos rfl] at e
      split at e <;> cases e
    · rw [if_neg hi] at e ⊢
      exact q.2 i d e
/-- the rest of the turns: acc is made so far -/
def dCL (g : DG) (tt : DT) (te : DE) (inv : Mp → Prop) (Γ : Gm) : List D → List D → Mp → (List D → Mp → Prop) → Prop
  | [], acc, M, Q => inv M ∧ Q acc M
  | d :: ds, acc, M, Q => inv M ∧ g d Γ M fun Γ1 M1 => tt Γ1 M1 fun b M2 => if b = true then te Γ1 M2 fun y M3 => acc.length < sizeLine ∧ dCL g tt te inv Γ ds (acc ++ [y]) M3 Q else dCL g tt te inv Γ ds acc M2 Q
def dLc (ti : DI) (g : DG) (tt : DT) (te : DE) (own : List Nat) : DE := fun Γ M Q => ti Γ M fun items inv M1 => dCL g tt te inv (wipeG Γ own) items [] M1 fun acc M2 => ∀ p, M2 p = none → Q (.ref p) (mupd M2 p (.lst acc))
theorem se_lc {K : PySem.W.Frag} {own : List Nat} {wi : TI} {tg : TG} {stt : TT} {ste : TE} {ti : DI} {g : DG} {tt : DT} {te : DE} (hi : SI K wi ti) (hg : SG K own tg g) (htt : ST K stt tt) (he : SE K ste te) : SE K (tLc wi tg stt ste own) (dLc ti g tt te own) := fun σ H Γ M Qd Q hΓ hM ht hL =>
  hi σ H Γ M _ _ hΓ hM ht fun items inv M1 J H1 h s m gv L hD => by
    have hΓ1 := hΓ.step hM s
    refine ⟨fun i k H2 => ∃ M2 acc vs, k = items.length - i ∧ i ≤ items.length ∧ Step M1 H1 M2 H2 ∧ RepM K H2 M2 ∧ H2 L = some (.lst vs) ∧ M2 L = none ∧ Reps K H2 vs acc ∧
      dCL g tt te inv (wipeG Γ own) (items.drop i) acc M2 fun acc M2 => ∀ p, M2 p = none → Qd (.ref p) (mupd M2 p (.lst acc)), ⟨items.length, M1, [], [], by simp, Nat.zero_le _, Step.new hD, m.new hD, upd_same, m.fresh hD, .nil, by simpa using h⟩, ?_⟩
    rintro i k H2 ⟨M2, acc, vs, rfl, hi, s2, m2, hL2, hM2, ra, h2⟩
    by_cases hlt : i < items.length
    · have e : items.drop i = items[i] :: items.drop (i + 1) := List.drop_eq_getElem_cons hlt
      rw [e] at h2
      obtain ⟨v2, h2⟩ := h2
      obtain ⟨q1, q2⟩ := (gv M2 H2 (s2.kt m) m2 v2).1 i items[i] (by simp [hlt])
      refine .inr ⟨q1, fun H3 => ∃ M3 acc vs, Step M1 H1 M3 H3 ∧ RepM K H3 M3 ∧ H3 L = some (.lst vs) ∧ M3 L = none ∧ Reps K H3 vs acc ∧ dCL g tt te inv (wipeG Γ own) (items.drop (i + 1)) acc M3 fun acc M2 => ∀ p, M2 p = none → Qd (.ref p) (mupd M2 p (.lst acc)),
        fun H' ⟨M3, acc, vs, s3, m3, a, b, c, d⟩ => ⟨_, by omega, M3, acc, vs, rfl, hlt, s3, m3, a, b, c, d⟩, fun x H3 y => ?_⟩
      obtain ⟨r3, s3, m3⟩ := q2 x H3 y
      refine hg x _ (wipe σ own) H3 (wipeG Γ own) M2 _ _ r3 (((hΓ1.wipe own).step m s2).step m2 s3) m3 h2 fun Γ4 M4 σ4 H4 h4 s4 g4 m4 b4 => ⟨wipe_but b4, ?_⟩
      have st4 := s3.trans s4
      refine htt σ4 H4 Γ4 M4 _ _ g4 m4 h4 fun b M5 H5 h5 s5 m5 => ?_
      have st5 := st4.trans s5
      cases b with
      | true =>
        rw [if_pos rfl] at h5 ⊢
        refine he σ4 H5 Γ4 M5 _ _ (g4.step m4 s5) m5 h5 fun d M6 z H6 h6 s6 r6 m6 => ?_
        have st6 := st5.trans s6
        obtain ⟨e1, e2⟩ := st6 L _ hL2 hM2
        refine ⟨vs, e1, by rw [ra.length]; exact h6.1, M6, acc ++ [d], vs ++ [z], ?_, ?_, upd_same, e2, ?_, h6.2⟩
        · have w := s2.trans st6
          exact fun a o ha hm => by
            obtain ⟨w1, w2⟩ := w a o ha hm
            have hn : a ≠ L := ne_of_none ha hD
            exact ⟨by rw [upd_ne hn]; exact w1, w2⟩
        · exact fun a o ha => (m6 a o ha).kt (KT.lst e1) (upd_ne fun z => by rw [z, e2] at ha; cases ha)
        · exact ((ra.step m2 st6).append (.cons r6 .nil)).kt (KT.lst e1)
      | false =>
        rw [if_neg Bool.false_ne_true] at h5 ⊢
        obtain ⟨e1, e2⟩ := st5 L _ hL2 hM2
        exact ⟨M5, acc, vs, s2.trans st5, m5, e1, e2, ra.step m2 st5, h5⟩
    · have e : i = items.length := by omega
      subst e
      rw [List.drop_length] at h2
      refine .inl ⟨(gv M2 H2 (s2.kt m) m2 h2.1).2, hL _ _ _ _ (h2.2 L hM2) ?_ (.ref L) ?_⟩
      · exact fun a o ha hm => by
          obtain ⟨w1, w2⟩ := (s.trans s2) a o ha hm
          refine ⟨w1, ?_⟩
          have hn : a ≠ L := fun z => by
            subst z
            have := (s _ _ ha hm).1
            rw [hD] at this
            cases this
          rw [mupd_ne hn]
          exact w2
      · exact fun a o ha => by
          by_cases hn : a = L
          · subst hn
            rw [mupd_same] at ha
            cases ha
            exact ⟨vs, hL2, ra⟩
          · rw [mupd_ne hn] at ha
            exact m2 a o ha
section
variable {X : Cx} {K : PySem.W.Frag} {e : Expr} {pos : Pos}
theorem tsnil (hK : X.K = K := by rfl) : PDTs X K [] tYes dYes := by
  subst hK
  exact ⟨rfl, pts_nil, fun σ H Γ M Qd Q hg hM ht hL => hL true M H ht Step.refl hM⟩
theorem tsone {c : Expr} {s : TT} {t : DT} (h : PDT X K c s t) : PDTs X K [c] s t := by
  have hK := h.hK; subst hK
  exact ⟨rfl, pts_one h.pe, h.se⟩
theorem dlc {elt tg iter : Expr} {ifs : List Expr} {scope : Scope} {own : List (Str × Nat)} {sti : TI} {sg : TG} {stt : TT} {ste : TE} {ti : DI} {g : DG} {tt : DT} {te : DE} (hc : X.calm = true) (hN : X.N.Nodup) (hi : PDI X K tg iter sti ti) (ok : blkC X.N X.env.scope scope own = true)
    (hg : ∀ (s : Shared) (H : Hp) (C : Addr) (cl : List (Str × Addr)) (fp : List Addr), PDG (X.blk s H scope (compEnvC scope cl C X.env) fp) K (own.map (·.2)) tg sg g)
    (ht : ∀ (s : Shared) (H : Hp) (C : Addr) (cl : List (Str × Addr)) (fp : List Addr), PDTs (X.blk s H scope (compEnvC scope cl C X.env) fp) K ifs stt tt)
    (he : ∀ (s : Shared) (H : Hp) (C : Addr) (cl : List (Str × Addr)) (fp : List Addr), PD (X.blk s H scope (compEnvC scope cl C X.env) fp) K elt ste te) (hs : ∀ x, foldedSetIterable iter X.env x = pure x := by intro _; rfl) :
    PD X K (.ListComp elt [⟨tg, iter, ifs, 0⟩] scope pos) (tLc sti sg stt ste (own.map (·.2))) (dLc ti g tt te (own.map (·.2))) := by
  have hK := hi.hK; subst hK
  exact ⟨rfl, pe_lc hc hN hi.pe (blkOk_by ok) (fun s H C cl fp => (hg s H C cl fp).pe) (fun s H C cl fp => (ht s H C cl fp).pe) (fun s H C cl fp => (he s H C cl fp).pe) hs,
    se_lc hi.se (hg X.s_0 (fun _ => none) 0 [] []).se (ht X.s_0 (fun _ => none) 0 [] []).se (he X.s_0 (fun _ => none) 0 [] []).se⟩
end

/-! ### a def's promise over trees -/
def LiftX (K : PySem.W.Frag) (M : Mp) (H : Hp) (Ed : DXK) (E : XK) : Prop := ∀ c fs M' d vs H', Ed c fs M' → Step M H M' H' → H' d = some (.xd vs) → FReps K H' vs fs → RepM K H' M' → E c (some d) H'
def toSp (K : PySem.W.Frag) (sp : DSp) : Sp := fun vs H Q E => ∃ ds M Qd Ed, Reps K H vs ds ∧ RepM K H M ∧ sp ds M Qd Ed ∧ Lift K M H Qd Q ∧ LiftX K M H Ed E
def E0d : DXK := fun _ _ _ => False
def dCall (sp : DSp) (tr : DA) : DE := fun Γ M Q => tr Γ M fun ds M1 => sp ds M1 Q E0d
section
variable {X : Cx} {K : PySem.W.Frag} {k : Nat} {f : Addr} {fd : FuncData} {ps : List Str} {sp : DSp} {x : Str} {p pos : Pos} {e : Expr} {es : List Expr} {str stk : TA} {tr tk : DA}
theorem liftX0 {K : PySem.W.Frag} {M : Mp} {H : Hp} {E : XK} : LiftX K M H E0d E := fun _ _ _ _ _ _ h => h.elim
theorem dcall (F : FnOk X.prog X.w K X.mg X.base CX0 k f fd ps (toSp K sp)) (hr : Room k X.A) (hg : Gl X x) (hm : X.mg x = some (.ref f)) (hk : PySem.W.keepIn K (.ref f) = true) (hb : Binds K fd ps [])
    (ha : PDA X K (e :: es) str tr) (hdb : (x == ("__debug__" : Str)) = false := by decide) (he : starEach (e :: es) X.env = (false, eval e X.env) :: starEach es X.env := by rfl) (hpl : (backTo pos (starEach es X.env)).any (·.1) = false := by rfl) :
    PD X K (.Call (.Name x p) (e :: es) [] pos) (tCall (toSp K sp) [] E0 str) (dCall sp tr) := by
  have hK := ha.hK; subst hK
  exact ⟨rfl, pe_call F hr hg hm hk hb .nil pass0 ha.pe hdb he hpl, fun σ H Γ M Qd Q hΓ hM ht hL => ha.se σ H Γ M _ _ hΓ hM ht fun ds M1 vs H1 h s r m =>
    ⟨ds, M1, Qd, E0d, by rw [List.append_nil]; exact r, m, h, hL.step s, liftX0⟩⟩
theorem dcall0 (F : FnOk X.prog X.w K X.mg X.base CX0 k f fd ps (toSp K sp)) (hr : Room k X.A) (hg : Gl X x) (hm : X.mg x = some (.ref f)) (hk : PySem.W.keepIn K (.ref f) = true) (hb : Binds K fd ps [])
    (hdb : (x == ("__debug__" : Str)) = false := by decide) (hK : X.K = K := by rfl) : PD X K (.Call (.Name x p) [] [] pos) (fun σ H Q => toSp K sp [] H Q E0) (fun _ M Q => sp [] M Q E0d) := by
  subst hK
  exact ⟨rfl, by
    have h := pe_call0 (p := p) (pos := pos) F hr hg hm hk hb .nil (pass0 (X := X)) hdb
    refine ⟨fun pins s σ H Q I q => h.run pins s σ H Q I ?_⟩
    exact q, fun σ H Γ M Qd Q hΓ hM ht hL => ⟨[], M, Qd, E0d, .nil, hM, ht, hL, liftX0⟩⟩

/-! ### keywords -/
structure PDK (X : Cx) (K : PySem.W.Frag) (kws : List Keyword) (s : TA) (t : DA) : Prop where
  hK : X.K = K
  pe : PK X kws s
  se : SA K s t
variable {kws : List Keyword} {nm : Option Str} {kpos : Pos} {ste : TE} {te : DE}
theorem knil (hK : X.K = K := by rfl) : PDK X K [] tNil dNil := by
  subst hK
  exact ⟨rfl, pk_nil, fun σ H Γ M Qd Q hg hM ht hL => hL [] M [] H ht Step.refl .nil hM⟩
theorem kcons (ha : PD X K e ste te) (hr : PDK X K kws stk tk) : PDK X K (⟨nm, e, kpos⟩ :: kws) (tCons ste stk) (dCons te tk) := by
  have hK := ha.hK; subst hK
  exact ⟨rfl, pk_cons ha.pe hr.pe, fun σ H Γ M Qd Q hg hM ht hL => ha.se σ H Γ M _ _ hg hM ht fun d M1 x H1 h1 s1 r1 m1 =>
    hr.se σ H1 Γ M1 _ _ (hg.step hM s1) m1 h1 fun ds M2 vs H2 h2 s2 r2 m2 => hL _ M2 _ H2 h2 (s1.trans s2) (.cons (r1.step m1 s2) r2) m2⟩
variable {ks : List Str} {g : List Value → List Value → List Value} {gV : List V → List V → List V}
def dCallK (sp : DSp) (gD : List D → List D → List D) (tr tk : DA) : DE := fun Γ M Q => tr Γ M fun ds M1 => tk Γ M1 fun zs M2 => sp (gD ds zs) M2 Q E0d
/-- the order of parameters, over trees -/
def OrdOk (gV : List V → List V → List V) (gD : List D → List D → List D) : Prop := ∀ K H vs ds ws es, Reps K H vs ds → Reps K H ws es → Reps K H (gV vs ws) (gD ds es)
theorem dcallK {gD : List D → List D → List D} (F : FnOk X.prog X.w K X.mg X.base CX0 k f fd ps (toSp K sp)) (hr : Room k X.A) (hg : Gl X x) (hm : X.mg x = some (.ref f)) (hk : PySem.W.keepIn K (.ref f) = true) (hb : KBinds K fd ps ks g gV) (ho : OrdOk gV gD)
    (ha : PDA X K (e :: es) str tr) (hkw : PDK X K kws stk tk) (hall : (backToKw pos (keywordEach kws X.env)).all (·.1.isSome) = true := by rfl) (hks : (backToKw pos (keywordEach kws X.env)).filterMap (·.1) = ks := by rfl)
    (hdb : (x == ("__debug__" : Str)) = false := by decide) (he : starEach (e :: es) X.env = (false, eval e X.env) :: starEach es X.env := by rfl)
    (hpl : ((backTo pos (starEach (e :: es) X.env)).any (·.1) || (backToKw pos (keywordEach kws X.env)).any (·.1.isNone)) = false := by rfl) :
    PD X K (.Call (.Name x p) (e :: es) kws pos) (tCallK (toSp K sp) gV E0 str stk) (dCallK sp gD tr tk) := by
  have hK := ha.hK; subst hK
  exact ⟨rfl, pe_callK F hr hg hm hk hb pass0 ha.pe hkw.pe hall hks hdb he hpl, fun σ H Γ M Qd Q hΓ hM ht hL => ha.se σ H Γ M _ _ hΓ hM ht fun ds M1 vs H1 h s r m =>
    hkw.se σ H1 Γ M1 _ _ (hΓ.step hM s) m h fun zs M2 ws H2 h2 s2 r2 m2 => ⟨gD ds zs, M2, Qd, E0d, ho _ _ _ _ _ _ (r.step m s2) r2, m2, h2, hL.step (s.trans s2), liftX0⟩⟩
theorem pe_callK0 {sp : Sp} (F : FnOk X.prog X.w X.K X.mg X.base CX0 k f fd ps sp) (hr : Room k X.A) (hg : Gl X x) (hm : X.mg x = some (.ref f)) (hk : PySem.W.keepIn X.K (.ref f) = true) (hb : KBinds X.K fd ps ks g gV)
    (hkw : PK X kws stk) (hall : (backToKw pos (keywordEach kws X.env)).all (·.1.isSome) = true := by rfl) (hks : (backToKw pos (keywordEach kws X.env)).filterMap (·.1) = ks := by rfl)
    (hdb : (x == ("__debug__" : Str)) = false := by decide) (hpl : ((backTo pos (starEach [] X.env)).any (·.1) || (backToKw pos (keywordEach kws X.env)).any (·.1.isNone)) = false := by rfl) :
    PE X (.Call (.Name x p) [] kws pos) (tCallK sp gV E0 tNil stk) := by
  refine ⟨fun pins s σ H Q I h => ?_⟩
  refine wpAny_Call_Name_kw (ld_glob I hg hm ?_ hdb)
  refine PySem.W.callWith_KW0 (h₀ := X.base) I.ok.mod.kin hk hall ?_ hpl
  refine thn (hkw.run pos pins s σ H _ I h) fun ws s2 ⟨zs, H2, I2, rz, q2⟩ => ⟨I2.kIn, ?_⟩
  rw [hks]
  exact run_fnk F hr hb pass0 I2 .nil rz q2
theorem dcallK0 {gD : List D → List D → List D} (F : FnOk X.prog X.w K X.mg X.base CX0 k f fd ps (toSp K sp)) (hr : Room k X.A) (hg : Gl X x) (hm : X.mg x = some (.ref f)) (hk : PySem.W.keepIn K (.ref f) = true) (hb : KBinds K fd ps ks g gV) (ho : OrdOk gV gD)
    (hkw : PDK X K kws stk tk) (hall : (backToKw pos (keywordEach kws X.env)).all (·.1.isSome) = true := by rfl) (hks : (backToKw pos (keywordEach kws X.env)).filterMap (·.1) = ks := by rfl)
    (hdb : (x == ("__debug__" : Str)) = false := by decide) (hpl : ((backTo pos (starEach [] X.env)).any (·.1) || (backToKw pos (keywordEach kws X.env)).any (·.1.isNone)) = false := by rfl) :
    PD X K (.Call (.Name x p) [] kws pos) (tCallK (toSp K sp) gV E0 tNil stk) (dCallK sp gD dNil tk) := by
  have hK := hkw.hK; subst hK
  exact ⟨rfl, pe_callK0 F hr hg hm hk hb hkw.pe hall hks hdb hpl, fun σ H Γ M Qd Q hΓ hM ht hL =>
    hkw.se σ H Γ M _ _ hΓ hM ht fun zs M2 ws H2 h2 s2 r2 m2 => ⟨gD [] zs, M2, Qd, E0d, ho _ _ _ _ _ _ .nil r2, m2, h2, hL.step s2, liftX0⟩⟩

/-! ### a def's body -/
def startG (N : List Str) (ds : List D) : Gm := ds.map some ++ List.replicate (N.length - ds.length) none
theorem rg_start {K : PySem.W.Frag} {H : Hp} {N : List Str} {vs : List V} {ds : List D} (r : Reps K H vs ds) : RG K H (L2.start N vs) (startG N ds) := by
  unfold L2.start startG
  refine ⟨by simp [r.length], fun i d e => ?_⟩
  rw [List.getElem?_append] at e ⊢
  rw [List.length_map] at e ⊢
  by_cases h : i < ds.length
  · rw [if_pos h] at e
    rw [if_pos (by rw [r.length]; exact h)]
    rw [List.getElem?_map] at e ⊢
    cases q : ds[i]? with
    | none => rw [q] at e; cases e
    | some d' =>
      rw [q] at e
      cases e
      obtain ⟨v, h1, h2⟩ := r.get q
      exact ⟨v, by rw [h1]; rfl, h2⟩
  · rw [if_neg h] at e
    have : ∀ (n j : Nat), (List.replicate n (none : Option D))[j]? ≠ some (some d) := fun n j z => by
      rw [List.getElem?_replicate] at z
      split at z <;> cases z
    exact absurd e (this _ _)
end
section
variable {P : Program} {w : World} {K : PySem.W.Frag} {mg : Str → Option Value} {base : Heap}
/-- what is of no more use in the store may be left out where a def ends -/
def Wk (Q : DK) : DK := fun d M' => ∃ M'' : Mp, (∀ a o, M'' a = some o → M' a = some o) ∧ Q d M''
theorem Wk.of {Q : DK} {d : D} {M : Mp} (h : Q d M) : Wk Q d M := ⟨M, fun _ _ e => e, h⟩
theorem Lift.wk {K : PySem.W.Frag} {M : Mp} {H : Hp} {Qd : DK} {Q : VK} (l : Lift K M H Qd Q) : Lift K M H (Wk Qd) Q := fun d M' v H' ⟨M'', hs, q⟩ s r m => l d M'' v H' q (fun a o e n => by
  obtain ⟨e1, e2⟩ := s a o e n
  refine ⟨e1, ?_⟩
  cases z : M'' a with
  | none => rfl
  | some u => rw [hs a u z] at e2; cases e2) r (m.sub hs)
/-- THE RULE for a def: its body's term, then its promise from the body's reading -/
theorem okD {x qual : Str} {st : Stmt} {f : Addr} {fd : FuncData} {N ps : List Str} {k : Nat} {sp : DSp} (F : Fun K x qual st f fd) (S : FnScope N ps (defScope st)) (len : ∀ ds M Q E, sp ds M Q E → ds.length = ps.length)
    (hbody : ∀ (cdv : Value) (A : Around) (outer : List Env) (s : Shared) (H : Hp) (E : XK), Room k (A.deeper (envOfC qual (defScope st) s.heap.objs.size f cdv)) →
      ∃ ts t, PDSs (cxOf CX0 P w K mg base N qual (defScope st) f cdv A outer s H E).nox K (defBody st) ts t ∧ ∀ ds M Q E, sp ds M Q E → t { nx := fun _ M' => Wk Q .non M', rt := Wk Q } (startG N ds) M) :
    FnOk P w K mg base CX0 (k + 1) f fd ps (toSp K sp) := by
  refine F.ok S (fun vs H Q E h => ?_) (fun cdv A outer s H vs Q E hr h => ?_)
  · obtain ⟨ds, M, Qd, Ed, r, _, q, _⟩ := h
    rw [r.length]
    exact len _ _ _ _ q
  · obtain ⟨ds, M, Qd, Ed, r, m, q, l, _⟩ := h
    obtain ⟨ts, t, h1, h2⟩ := hbody cdv A outer s H E hr
    refine ⟨ts, h1.pe, h1.se _ _ _ _ { nx := fun _ M' => Wk Qd .non M', rt := Wk Qd } _ (rg_start r) m (h2 ds M Qd Ed q) ⟨fun Γ' M' σ' H' h s r m => l.wk _ _ _ _ h s .non m, l.wk, fun _ _ _ _ h => h.elim, fun _ _ _ _ h => h.elim⟩⟩
end
end DL
end
section
set_option maxHeartbeats 4000000
/-! DL6: zip, comprehensions of two clauses, name = [..], pairs stored at once, chains of comparisons. -/
namespace DL
open PySem PySem.Spec PyProof.Rows L2 RZ

/-! ### zip -/
def zipD (xs ys : List D) : List D := List.zipWith (fun x y => .tup [x, y]) xs ys
theorem zipD_get {xs ys : List D} {i : Nat} {d : D} (h : (zipD xs ys)[i]? = some d) : ∃ x y, xs[i]? = some x ∧ ys[i]? = some y ∧ d = .tup [x, y] := by
  unfold zipD at h
  rw [List.getElem?_zipWith] at h
  cases e1 : xs[i]? with
  | none => rw [e1] at h; cases h
  | some x =>
    cases e2 : ys[i]? with
    | none => rw [e1, e2] at h; cases h
    | some y => rw [e1, e2] at h; cases h; exact ⟨x, y, rfl, rfl, rfl⟩
theorem zipD_len (xs ys : List D) : (zipD xs ys).length = min xs.length ys.length := by unfold zipD; simp
theorem zip_step {K : PySem.W.Frag} {M : Mp} {H : Hp} {T : Addr} {x y : V} {d e : D} (m : RepM K H M) (hT : H T = none) (r1 : Rep K H x d) (r2 : Rep K H y e) :
    Rep K (upd H T (.tup [x, y])) (.ref T) (.tup [d, e]) ∧ Step M H M (upd H T (.tup [x, y])) ∧ RepM K (upd H T (.tup [x, y])) M :=
  ⟨.tup (SqT.of upd_same) ((Reps.cons r1 (.cons r2 .nil)).step m (Step.new hT)), Step.new hT, m.new hT⟩
def diZip (tr : DA) : DI := fun Γ M Q => tr Γ M fun ds M1 => match ds with
  | [.tup xs, .tup ys] => Q (zipD xs ys) (fun _ => True) M1
  | [.ref a, .ref b] => ∃ xs ys, M1 a = some (.lst xs) ∧ M1 b = some (.lst ys) ∧ Q (zipD xs ys) (fun M => M a = some (.lst xs) ∧ M b = some (.lst ys)) M1
  | _ => False
section
variable {X : Cx} {K : PySem.W.Frag} {e e2 : Expr} {str : TA} {tr : DA} {p pos tpos : Pos}
theorem izip {elts : List Expr} {kk : Nat} (hg : Gl X "zip") (hm : X.mg "zip" = none) (ha : PDA X K [e, e2] str tr)
    (hs : starEach [e, e2] X.env = (false, eval e X.env) :: starEach [e2] X.env := by rfl) (hpl : (backTo pos (starEach [e2] X.env)).any (·.1) = false := by rfl) :
    PDI X K (.Tuple elts kk tpos) (.Call (.Name "zip" p) [e, e2] [] pos) (iZipA K str) (diZip tr) := by
  have hK := ha.hK; subst hK
  refine ⟨rfl, pi_zipA hg hm ha.pe hs hpl, fun σ H Γ M Qd R hΓ hM ht hL => ha.se σ H Γ M _ _ hΓ hM ht fun ds M1 vs H1 h s r m => ?_⟩
  cases ds with
  | nil => exact h.elim
  | cons d t => cases t with
    | nil => cases d <;> exact h.elim
    | cons d2 t => cases t with
      | cons => cases d <;> first | exact h.elim | (cases d2 <;> exact h.elim)
      | nil =>
        obtain ⟨v, w, rfl, r1, r2⟩ := reps2 r
        cases d <;> first | exact h.elim | skip
        · cases d2 <;> first | exact h.elim | skip
          cases r1 with
          | tup q1 rs1 => cases r2 with
            | tup q2 rs2 =>
              refine ⟨_, _, _, _, rfl, .inr ⟨q1, q2, hL _ _ M1 _ H1 h s m fun M2 H2 s2 m2 _ => ⟨fun i d e => ?_, ?_⟩⟩⟩
              · obtain ⟨x, y, h1, h2, rfl⟩ := zipD_get e
                obtain ⟨a, k1, k2⟩ := (rs1.kt s2).get h1
                obtain ⟨b, k3, k4⟩ := (rs2.kt s2).get h2
                refine ⟨⟨_, _, a, b, s2.sq q1, s2.sq q2, k1, k3⟩, fun x' H3 yy => ?_⟩
                obtain ⟨T, x1, y1, rfl, hT, rfl, e1, e2⟩ := yy
                have f1 := e1 _ (s2.sq q1)
                have f2 := e2 _ (s2.sq q2)
                rw [k1] at f1; cases f1
                rw [k3] at f2; cases f2
                exact zip_step m2 hT k2 k4
              · refine ⟨_, _, s2.sq q1, s2.sq q2, ?_⟩
                rw [zipD_len, rs1.length, rs2.length]
                omega
        · cases d2 <;> first | exact h.elim | skip
          obtain ⟨xs, ys, h1, h2, h3⟩ := h
          cases r1
          cases r2
          obtain ⟨vs1, g1, g2⟩ := m _ _ h1
          obtain ⟨vs2, g3, g4⟩ := m _ _ h2
          refine ⟨_, _, _, _, rfl, .inl ⟨SqL.of g1, SqL.of g3, hL _ _ M1 _ H1 h3 s m fun M2 H2 s2 m2 i2 => ?_⟩⟩
          obtain ⟨us1, j1, j2⟩ := m2 _ _ i2.1
          obtain ⟨us2, j3, j4⟩ := m2 _ _ i2.2
          refine ⟨fun i d e => ?_, _, _, SqL.of j1, SqL.of j3, by rw [zipD_len, j2.length, j4.length]; omega⟩
          obtain ⟨x, y, h1, h2, rfl⟩ := zipD_get e
          obtain ⟨a, k1, k2⟩ := j2.get h1
          obtain ⟨b, k3, k4⟩ := j4.get h2
          refine ⟨⟨_, _, a, b, SqL.of j1, SqL.of j3, k1, k3⟩, fun x' H3 yy => ?_⟩
          obtain ⟨T, x1, y1, rfl, hT, rfl, e1, e2⟩ := yy
          have f1 := e1 _ (SqL.of j1)
          have f2 := e2 _ (SqL.of j3)
          rw [k1] at f1; cases f1
          rw [k3] at f2; cases f2
          exact zip_step m2 hT k2 k4
end

/-! ### two clauses -/
def dCL2 (g : DG) (tt : DT) (ti1 : DI) (g1 : DG) (tt1 : DT) (te : DE) (vs1 : List Nat) (inv : Mp → Prop) (Γ : Gm) : List D → List D → Mp → (List D → Mp → Prop) → Prop
  | [], acc, M, Q => inv M ∧ Q acc M
  | d :: ds, acc, M, Q => inv M ∧ g d Γ M fun Γ1 M1 => tt Γ1 M1 fun b M2 => if b = true then ti1 Γ1 M2 fun items1 inv1 M3 => dCL g1 tt1 te inv1 (wipeG Γ1 vs1) items1 acc M3 fun acc' M4 => dCL2 g tt ti1 g1 tt1 te vs1 inv Γ ds acc' M4 Q
    else dCL2 g tt ti1 g1 tt1 te vs1 inv Γ ds acc M2 Q
def dLc2 (ti : DI) (g : DG) (tt : DT) (ti1 : DI) (g1 : DG) (tt1 : DT) (te : DE) (own vs1 : List Nat) : DE := fun Γ M Q => ti Γ M fun items inv M1 => dCL2 g tt ti1 g1 tt1 te vs1 inv (wipeG Γ own) items [] M1 fun acc M2 => ∀ p, M2 p = none → Q (.ref p) (mupd M2 p (.lst acc))
/-- what is made so far stands at L, aside of the store -/
structure Acc (K : PySem.W.Frag) (L : Addr) (M1 : Mp) (H1 : Hp) (M2 : Mp) (H2 : Hp) (acc : List D) : Prop where
  st : Step M1 H1 M2 H2
  kt : KT H1 H2
  m : RepM K H2 M2
  at_ : ∃ vs, H2 L = some (.lst vs) ∧ Reps K H2 vs acc
  no : M2 L = none
theorem Acc.step {K : PySem.W.Frag} {L : Addr} {M1 M2 M3 : Mp} {H1 H2 H3 : Hp} {acc : List D} (a : Acc K L M1 H1 M2 H2 acc) (s : Step M2 H2 M3 H3) (m3 : RepM K H3 M3) : Acc K L M1 H1 M3 H3 acc := by
  obtain ⟨st, kt, m, ⟨vs, h1, h2⟩, no⟩ := a
  obtain ⟨e1, e2⟩ := s L _ h1 no
  exact ⟨st.trans s, kt.trans (s.kt m), m3, ⟨vs, e1, h2.step m s⟩, e2⟩
theorem Acc.put {K : PySem.W.Frag} {L : Addr} {M1 M2 : Mp} {H1 H2 : Hp} {acc : List D} {z : V} {d : D} (a : Acc K L M1 H1 M2 H2 acc) (hD : H1 L = none) (r : Rep K H2 z d) :
    ∃ vs, H2 L = some (.lst vs) ∧ vs.length = acc.length ∧ Acc K L M1 H1 M2 (upd H2 L (.lst (vs ++ [z]))) (acc ++ [d]) := by
  obtain ⟨st, kt, m, ⟨vs, h1, h2⟩, no⟩ := a
  refine ⟨vs, h1, h2.length, fun a o ha hm => ?_, kt.trans (KT.lst h1), fun a o ha => (m a o ha).kt (KT.lst h1) (upd_ne fun z => by rw [z, no] at ha; cases ha), ⟨_, upd_same, (h2.append (.cons r .nil)).kt (KT.lst h1)⟩, no⟩
  obtain ⟨w1, w2⟩ := st a o ha hm
  exact ⟨by rw [upd_ne (ne_of_none ha hD)]; exact w1, w2⟩
theorem RG.kt {K : PySem.W.Frag} {H H1 : Hp} {σ : L2.St} {Γ : Gm} (h : RG K H σ Γ) (k : KT H H1) : RG K H1 σ Γ := ⟨h.1, fun i d e => by
  obtain ⟨v, h1, h2⟩ := h.2 i d e
  exact ⟨v, h1, h2.kt k⟩⟩
theorem se_lc2 {K : PySem.W.Frag} {own vs1 : List Nat} {wi wi1 : TI} {tg tg1 : TG} {stt stt1 : TT} {ste : TE} {ti ti1 : DI} {g g1 : DG} {tt tt1 : DT} {te : DE} (hi : SI K wi ti) (hg : SG K own tg g) (htt : ST K stt tt)
    (hi1 : SI K wi1 ti1) (hg1 : SG K vs1 tg1 g1) (htt1 : ST K stt1 tt1) (he : SE K ste te) : SE K (tLc2 wi tg stt wi1 tg1 stt1 ste own vs1) (dLc2 ti g tt ti1 g1 tt1 te own vs1) := fun σ H Γ M Qd Q hΓ hM ht hL =>
  hi σ H Γ M _ _ hΓ hM ht fun items inv M1 J H1 h s m gv L hD => by
    have hΓ1 := hΓ.step hM s
    refine ⟨fun i k H2 => ∃ M2 acc, k = items.length - i ∧ i ≤ items.length ∧ Acc K L M1 H1 M2 H2 acc ∧
      dCL2 g tt ti1 g1 tt1 te vs1 inv (wipeG Γ own) (items.drop i) acc M2 fun acc M2 => ∀ p, M2 p = none → Qd (.ref p) (mupd M2 p (.lst acc)), ⟨items.length, M1, [], by simp, Nat.zero_le _, ⟨Step.new hD, (Step.new (M := M1) hD).kt m, m.new hD, ⟨[], upd_same, .nil⟩, m.fresh hD⟩, by simpa using h⟩, ?_⟩
    rintro i k H2 ⟨M2, acc, rfl, hi, A, h2⟩
    by_cases hlt : i < items.length
    · have e : items.drop i = items[i] :: items.drop (i + 1) := List.drop_eq_getElem_cons hlt
      rw [e] at h2
      obtain ⟨v2, h2⟩ := h2
      obtain ⟨q1, q2⟩ := (gv M2 H2 A.kt A.m v2).1 i items[i] (by simp [hlt])
      refine .inr ⟨q1, fun H3 => ∃ M3 acc, Acc K L M1 H1 M3 H3 acc ∧ dCL2 g tt ti1 g1 tt1 te vs1 inv (wipeG Γ own) (items.drop (i + 1)) acc M3 fun acc M2 => ∀ p, M2 p = none → Qd (.ref p) (mupd M2 p (.lst acc)),
        fun H' ⟨M3, acc, a, b⟩ => ⟨_, by omega, M3, acc, rfl, hlt, a, b⟩, fun x H3 y => ?_⟩
      obtain ⟨r3, s3, m3⟩ := q2 x H3 y
      refine hg x _ (wipe σ own) H3 (wipeG Γ own) M2 _ _ r3 (((hΓ1.wipe own).step m A.st).step A.m s3) m3 h2 fun Γ4 M4 σ4 H4 h4 s4 g4 m4 b4 => ⟨wipe_but b4, ?_⟩
      have A4 := (A.step s3 m3).step s4 m4
      refine htt σ4 H4 Γ4 M4 _ _ g4 m4 h4 fun b M5 H5 h5 s5 m5 => ?_
      have A5 := A4.step s5 m5
      cases b with
      | false =>
        rw [if_neg Bool.false_ne_true] at h5 ⊢
        exact ⟨M5, acc, A5, h5⟩
      | true =>
        rw [if_pos rfl] at h5 ⊢
        refine hi1 σ4 H5 Γ4 M5 _ _ (g4.step m4 s5) m5 h5 fun items1 inv1 M6 J1 H6 h6 s6 m6 gv1 => ?_
        have A6 := A5.step s6 m6
        have g6 := (g4.step m4 s5).step m5 s6
        refine ⟨fun j k H7 => ∃ M7 acc, k = items1.length - j ∧ j ≤ items1.length ∧ Acc K L M1 H1 M7 H7 acc ∧ KT H6 H7 ∧
          dCL g1 tt1 te inv1 (wipeG Γ4 vs1) (items1.drop j) acc M7 fun acc' M4 => dCL2 g tt ti1 g1 tt1 te vs1 inv (wipeG Γ own) (items.drop (i + 1)) acc' M4 fun acc M2 => ∀ p, M2 p = none → Qd (.ref p) (mupd M2 p (.lst acc)),
          ⟨items1.length, M6, acc, by simp, Nat.zero_le _, A6, KT.refl, by simpa using h6⟩, ?_⟩
        rintro j k H7 ⟨M7, acc7, rfl, hj, A7, s7, h7⟩
        by_cases hlt1 : j < items1.length
        · have e : items1.drop j = items1[j] :: items1.drop (j + 1) := List.drop_eq_getElem_cons hlt1
          rw [e] at h7
          obtain ⟨v7, h7⟩ := h7
          obtain ⟨q1, q2⟩ := (gv1 M7 H7 s7 A7.m v7).1 j items1[j] (by simp [hlt1])
          refine .inr ⟨q1, fun H8 => ∃ M8 acc, Acc K L M1 H1 M8 H8 acc ∧ KT H6 H8 ∧ dCL g1 tt1 te inv1 (wipeG Γ4 vs1) (items1.drop (j + 1)) acc M8 fun acc' M4 => dCL2 g tt ti1 g1 tt1 te vs1 inv (wipeG Γ own) (items.drop (i + 1)) acc' M4 fun acc M2 => ∀ p, M2 p = none → Qd (.ref p) (mupd M2 p (.lst acc)),
            fun H' ⟨M3, acc, a, b, c⟩ => ⟨_, by omega, M3, acc, rfl, hlt1, a, b, c⟩, fun x H8 y => ?_⟩
          obtain ⟨r8, s8, m8⟩ := q2 x H8 y
          refine hg1 x _ (wipe σ4 vs1) H8 (wipeG Γ4 vs1) M7 _ _ r8 (((g6.wipe vs1).kt s7).step A7.m s8) m8 h7 fun Γ9 M9 σ9 H9 h9 s9 g9 m9 b9 => ⟨wipe_but b9, ?_⟩
          have A9 := (A7.step s8 m8).step s9 m9
          refine htt1 σ9 H9 Γ9 M9 _ _ g9 m9 h9 fun b M10 H10 h10 s10 m10 => ?_
          have A10 := A9.step s10 m10
          have s67 := ((s7.trans (s8.kt A7.m)).trans (s9.kt m8)).trans (s10.kt m9)
          cases b with
          | false =>
            rw [if_neg Bool.false_ne_true] at h10 ⊢
            exact ⟨M10, acc7, A10, s67, h10⟩
          | true =>
            rw [if_pos rfl] at h10 ⊢
            refine he σ9 H10 Γ9 M10 _ _ (g9.step m9 s10) m10 h10 fun d M11 z H11 h11 s11 r11 m11 => ?_
            obtain ⟨vs, f1, f2, f3⟩ := (A10.step s11 m11).put hD r11
            exact ⟨vs, f1, by rw [f2]; exact h11.1, M11, _, f3, (s67.trans (s11.kt m10)).trans (KT.lst f1), h11.2⟩
        · have e : j = items1.length := by omega
          subst e
          rw [List.drop_length] at h7
          exact .inl ⟨(gv1 M7 H7 s7 A7.m h7.1).2, M7, acc7, A7, h7.2⟩
    · have e : i = items.length := by omega
      subst e
      rw [List.drop_length] at h2
      obtain ⟨st, kt2, m2, ⟨vs, hL2, ra⟩, hM2⟩ := A
      refine .inl ⟨(gv M2 H2 kt2 m2 h2.1).2, hL _ _ _ _ (h2.2 L hM2) ?_ (.ref L) ?_⟩
      · exact fun a o ha hm => by
          obtain ⟨w1, w2⟩ := (s.trans st) a o ha hm
          refine ⟨w1, ?_⟩
          have hn : a ≠ L := fun z => by
            subst z
            have := (s _ _ ha hm).1
            rw [hD] at this
            cases this
          rw [mupd_ne hn]
          exact w2
      · exact fun a o ha => by
          by_cases hn : a = L
          · subst hn
            rw [mupd_same] at ha
            cases ha
            exact ⟨vs, hL2, ra⟩
          · rw [mupd_ne hn] at ha
            exact m2 a o ha

section
variable {X : Cx} {K : PySem.W.Frag} {e : Expr} {pos : Pos}
abbrev Blk (X : Cx) (f : Cx → Prop) (scope : Scope) : Prop := ∀ (s : Shared) (H : Hp) (C : Addr) (cl : List (Str × Addr)) (fp : List Addr), f (X.blk s H scope (compEnvC scope cl C X.env) fp)
theorem Blk.get {f : Cx → Prop} {scope : Scope} (h : Blk X f scope) : f (X.blk X.s_0 (fun _ => none) scope (compEnvC scope [] 0 X.env) []) := h _ _ _ _ _
theorem dlc2 {tg iter tg1 iter1 : Expr} {ifs ifs1 : List Expr} {scope : Scope} {own : List (Str × Nat)} {vs1 : List Nat} {sti sti1 : TI} {sg sg1 : TG} {stt stt1 : TT} {ste : TE} {ti ti1 : DI} {g g1 : DG} {tt tt1 : DT} {te : DE} (hc : X.calm = true) (hN : X.N.Nodup) (hi : PDI X K tg iter sti ti) (ok : blkC X.N X.env.scope scope own = true) (hv : ∀ i ∈ vs1, i ∈ own.map (·.2))
    (hg : ∀ (s : Shared) (H : Hp) (C : Addr) (cl : List (Str × Addr)) (fp : List Addr), PDG (X.blk s H scope (compEnvC scope cl C X.env) fp) K (own.map (·.2)) tg sg g)
    (ht : ∀ (s : Shared) (H : Hp) (C : Addr) (cl : List (Str × Addr)) (fp : List Addr), PDTs (X.blk s H scope (compEnvC scope cl C X.env) fp) K ifs stt tt)
    (hi1 : ∀ (s : Shared) (H : Hp) (C : Addr) (cl : List (Str × Addr)) (fp : List Addr), PDI (X.blk s H scope (compEnvC scope cl C X.env) fp) K tg1 iter1 sti1 ti1)
    (hg1 : ∀ (s : Shared) (H : Hp) (C : Addr) (cl : List (Str × Addr)) (fp : List Addr), PDG (X.blk s H scope (compEnvC scope cl C X.env) fp) K vs1 tg1 sg1 g1)
    (ht1 : ∀ (s : Shared) (H : Hp) (C : Addr) (cl : List (Str × Addr)) (fp : List Addr), PDTs (X.blk s H scope (compEnvC scope cl C X.env) fp) K ifs1 stt1 tt1)
    (he : ∀ (s : Shared) (H : Hp) (C : Addr) (cl : List (Str × Addr)) (fp : List Addr), PD (X.blk s H scope (compEnvC scope cl C X.env) fp) K e ste te) (hs : ∀ x, foldedSetIterable iter X.env x = pure x := by intro _; rfl) (hs1 : ∀ env x, foldedSetIterable iter1 env x = pure x := by intro _ _; rfl) :
    PD X K (.ListComp e [⟨tg, iter, ifs, 0⟩, ⟨tg1, iter1, ifs1, 0⟩] scope pos) (tLc2 sti sg stt sti1 sg1 stt1 ste (own.map (·.2)) vs1) (dLc2 ti g tt ti1 g1 tt1 te (own.map (·.2)) vs1) := by
  have hK := hi.hK; subst hK
  exact ⟨rfl, pe_lc2 hc hN hi.pe (blkOk_by ok) hv (fun s H C cl fp => (hg s H C cl fp).pe) (fun s H C cl fp => (ht s H C cl fp).pe) (fun s H C cl fp => (hi1 s H C cl fp).pe) (fun s H C cl fp => (hg1 s H C cl fp).pe) (fun s H C cl fp => (ht1 s H C cl fp).pe) (fun s H C cl fp => (he s H C cl fp).pe) hs hs1,
    se_lc2 hi.se (hg X.s_0 (fun _ => none) 0 [] []).se (ht X.s_0 (fun _ => none) 0 [] []).se (hi1 X.s_0 (fun _ => none) 0 [] []).se (hg1 X.s_0 (fun _ => none) 0 [] []).se (ht1 X.s_0 (fun _ => none) 0 [] []).se (he X.s_0 (fun _ => none) 0 [] []).se⟩
/-- name = [..] on one line, the name a local -/
theorem ssetLc {i : Nat} {y : Str} {py : Pos} {elt tg iter : Expr} {ifs : List Expr} {scope : Scope} {own : List (Str × Nat)} {spos : Pos} {sti : TI} {sg : TG} {stt : TT} {ste : TE} {ti : DI} {g : DG} {tt : DT} {te : DE} (hc : X.calm = true) (hN : X.N.Nodup)
    (hi : PDI X K tg iter sti ti) (ok : blkC X.N X.env.scope scope own = true)
    (hg : ∀ (s : Shared) (H : Hp) (C : Addr) (cl : List (Str × Addr)) (fp : List Addr), PDG (X.blk s H scope (compEnvC scope cl C X.env) fp) K (own.map (·.2)) tg sg g)
    (ht : ∀ (s : Shared) (H : Hp) (C : Addr) (cl : List (Str × Addr)) (fp : List Addr), PDTs (X.blk s H scope (compEnvC scope cl C X.env) fp) K ifs stt tt)
    (he : ∀ (s : Shared) (H : Hp) (C : Addr) (cl : List (Str × Addr)) (fp : List Addr), PD (X.blk s H scope (compEnvC scope cl C X.env) fp) K elt ste te)
    (hy : X.N[i]? = some y := by rfl) (hyl : X.env.scope.names.lookup y = some .local := by rfl)
    (hsw : swapsWith (.ListComp elt [⟨tg, iter, ifs, 0⟩] scope pos) (some (.Name y py)) spos.line X.env = pure true := by exact sw_true rfl rfl rfl (by decide +kernel)) (hs : ∀ x, foldedSetIterable iter X.env x = pure x := by intro _; rfl) :
    PDS X K (.Assign [.Name y py] (.ListComp elt [⟨tg, iter, ifs, 0⟩] scope pos) spos) (tAsg (tLc sti sg stt ste (own.map (·.2))) (gName i)) (dAsg (dLc ti g tt te (own.map (·.2))) (dgN i)) := by
  have hK := hi.hK; subst hK
  exact ⟨rfl, ps_setLc hc hN hy hyl hsw hi.pe (blkOk_by ok) (fun s H C cl fp => (hg s H C cl fp).pe) (fun s H C cl fp => (ht s H C cl fp).pe) (fun s H C cl fp => (he s H C cl fp).pe) hs,
    ss_asg (own := [i]) (se_lc hi.se (hg X.s_0 (fun _ => none) 0 [] []).se (ht X.s_0 (fun _ => none) 0 [] []).se (he X.s_0 (fun _ => none) 0 [] []).se) (fun v d σ H Γ M Qd Q r hg hM h k => k _ M _ H h Step.refl (hg.set r i) hM (But.set (by simp)))⟩
/-- a, b = x, y -/
def dPar (i j : Nat) (tr : DA) : DS := fun F Γ M => tr Γ M fun ds M1 => match ds with
  | [d, e] => F.nx (sv (sv Γ i d) j e) M1
  | _ => False
theorem spar {i j : Nat} {x y : Str} {a b : Expr} {str : TA} {tr : DA} {px py pt : Pos} {kt k2 pt2} (hc : X.calm = true) (hN : X.N.Nodup) (ha : PDA X K [a, b] str tr) (hi : X.N[i]? = some x := by rfl) (hj : X.N[j]? = some y := by rfl) (hij : i ≠ j := by decide)
    (hx : X.env.scope.names.lookup x = some .local := by rfl) (hy : X.env.scope.names.lookup y = some .local := by rfl)
    (hw : swappedStores [.Tuple [.Name x px, .Name y py] kt pt] (.Tuple [a, b] k2 pt2) X.env = pure (some [x, y]) := by rfl)
    (hs : swapsWithSole [.Tuple [.Name x px, .Name y py] kt pt] (.Tuple [a, b] k2 pt2) pos.line X.env = pure false := by rfl) : PDS X K (.Assign [.Tuple [.Name x px, .Name y py] kt pt] (.Tuple [a, b] k2 pt2) pos) (tPar i j str) (dPar i j tr) := by
  have hK := ha.hK; subst hK
  exact ⟨rfl, ps_par hc hN hi hj hij hx hy ha.pe hw hs, fun σ H Γ M F E hΓ hM ht hL => ha.se σ H Γ M _ _ hΓ hM ht fun ds M1 vs H1 h s r m => by
    cases ds with
    | nil => exact h.elim
    | cons d t => cases t with
      | nil => exact h.elim
      | cons e t => cases t with
        | cons => exact h.elim
        | nil =>
          obtain ⟨v, w, rfl, r1, r2⟩ := reps2 r
          exact ⟨v, w, rfl, hL.nx _ M1 _ H1 h s (((hΓ.step hM s).set r1 i).set r2 j) m⟩⟩
/-- a op b op' c -/
def dChain (o o' : O2) (ta tb tc : DE) : DE := fun Γ M Q => ta Γ M fun d M1 => tb Γ M1 fun e M2 => o d e M2 fun z M3 => asB z fun k => if k = true then tc Γ M3 fun f M4 => o' e f M4 Q else Q (.bl false) M3
variable {a b c : Expr} {sta stb stc : TE} {ta tb tc : DE} {ro ro' : R2} {o o' : O2}
theorem se_chain {K : PySem.W.Frag} (ho : SOp K ro o) (ho' : SOp K ro' o') (ha : SE K sta ta) (hb : SE K stb tb) (hc : SE K stc tc) : SE K (tChain ro ro' sta stb stc) (dChain o o' ta tb tc) := fun σ H Γ M Qd Q hg hM ht hL =>
  ha σ H Γ M _ _ hg hM ht fun d M1 x H1 h1 s1 r1 m1 => hb σ H1 Γ M1 _ _ (hg.step hM s1) m1 h1 fun e M2 y H2 h2 s2 r2 m2 =>
    ho x y d e H2 M2 _ _ (r1.step m1 s2) r2 m2 h2 fun z M3 w H3 h3 s3 r3 m3 => by
      obtain ⟨k, rfl, rfl, h9⟩ := bool_of r3 h3
      refine ⟨k, rfl, ?_⟩
      have st := (s1.trans s2).trans s3
      cases k with
      | true =>
        rw [if_pos rfl] at h9 ⊢
        exact hc σ H3 Γ M3 _ _ (hg.step hM st) m3 h9 fun f M4 u H4 h4 s4 r4 m4 => ho' y u e f H4 M4 Qd Q ((r2.step m2 s3).step m3 s4) r4 m4 h4 (hL.step (st.trans s4))
      | false =>
        rw [if_neg Bool.false_ne_true] at h9 ⊢
        exact hL _ M3 _ H3 h9 st (.bl false) m3
theorem dchain {op op' : CmpOp} (ho : POp X K (compareOp op) ro o) (ho' : POp X K (compareOp op') ro' o') (ha : PD X K a sta ta) (hb : PD X K b stb tb) (hc : PD X K c stc tc) (hm : lastMarks [op, op'] [b, c] = false := by with_unfolding_all rfl) :
    PD X K (.Compare a [op, op'] [b, c] pos) (tChain ro ro' sta stb stc) (dChain o o' ta tb tc) := by
  have hK := ho.hK; subst hK
  exact ⟨rfl, pe_chain ho.pe ho'.pe ha.pe hb.pe hc.pe hm, se_chain ho.se ho'.se ha.se hb.se hc.se⟩
theorem tchain {op op' : CmpOp} (ho : POp X K (compareOp op) ro o) (ho' : POp X K (compareOp op') ro' o') (ha : PD X K a sta ta) (hb : PD X K b stb tb) (hc : PD X K c stc tc) (hm : lastMarks [op, op'] [b, c] = false := by with_unfolding_all rfl) :
    PDT X K (.Compare a [op, op'] [b, c] pos) (tTest (tChain ro ro' sta stb stc)) (dB (dChain o o' ta tb tc)) := by
  have hK := ho.hK; subst hK
  exact ⟨rfl, pt_chain ho.pe ho'.pe ha.pe hb.pe hc.pe hm, st_test (se_chain ho.se ho'.se ha.se hb.se hc.se)⟩
end

/-! ### a def of the text that keeps its promise, as a caller sees it -/
def Cal (P : Program) (w : World) (K : PySem.W.Frag) (mg : Str → Option Value) (base : Heap) (k : Nat) (x : Str) (st : Stmt) (ps : List Str) (sp : DSp) : Prop :=
  ∃ (f : Addr) (fd : FuncData), FnOk P w K mg base CX0 k f fd ps (toSp K sp) ∧ Fun K x x st f fd ∧ mg x = some (.ref f) ∧ PySem.W.keepIn K (.ref f) = true
end DL
end
section
set_option maxHeartbeats 4000000
/-! DL7: the ends: a law's promise, a recursion's start. -/
namespace DL
open PySem PySem.Spec PyProof.Rows L2

/-- the law's promise: a list of at most 63 ints, nothing else in the store; True comes back -/
def spLaw : DSp := fun ds M Q _ => ∃ ns : List Int, ds = [.fl (ns.map D.int)] ∧ ns.length ≤ 63 ∧ M = (fun _ => none) ∧ ∀ M', Q (.bl true) M'
theorem reps_ints {K : PySem.W.Frag} {H : Hp} : ∀ ns : List Int, Reps K H (ns.map V.int) (ns.map D.int)
  | [] => .nil
  | n :: ns => .cons (.int n) (reps_ints ns)
theorem spLaw_of {K : PySem.W.Frag} {H : Hp} {a : Addr} {ns : List Int} (hl : ns.length ≤ 63) (hO : Only H) (h : SqL K H a (ns.map V.int)) : toSp K spLaw [.ref a] H (fun v _ => v = .bl true) fun _ _ _ => False := by
  have hr : RdL K H a (ns.map V.int) := by
    rcases h with (h | ⟨o, h⟩) | h
    · rcases hO a with e | ⟨o, xs, e⟩ <;> rw [h] at e <;> cases e
    · exact .inl ⟨o, h⟩
    · exact .inr h
  refine ⟨[.fl (ns.map D.int)], fun _ => none, fun d _ => d = .bl true, E0d, .cons (.fl hr (reps_ints ns)) .nil, fun _ _ e => by (cases e), ⟨ns, rfl, hl, rfl, fun _ => rfl⟩, fun d M' v H' h _ r _ => ?_, liftX0⟩
  cases h
  cases r
  rfl
theorem fnOk_no {P : Program} {w : World} {K : PySem.W.Frag} {mg : Str → Option Value} {base : Heap} {k : Nat} {f : Addr} {fd : FuncData} {ps : List Str} {sp : DSp} (h : ∀ ds M Q E, ¬ sp ds M Q E) : FnOk P w K mg base CX0 k f fd ps (toSp K sp) :=
  ⟨fun vs H Q E ⟨ds, M, Qd, Ed, _, _, q, _⟩ => (h _ _ _ _ q).elim, fun A outer s H args us vs Q E _ _ _ _ ⟨ds, M, Qd, Ed, _, _, q, _⟩ => (h _ _ _ _ q).elim⟩
theorem walkD {l : PySem.W.OpenLaw} {k : Nat} {q : Program} {loose : List Str} {XP : (Str → Option Value) → Heap → Prop} {YP : World → Heap → Prop} {d : DefRec} {K : Params → PySem.W.Frag} (hn : l.most = some 63) (hdf : d.params.defaults = []) (hr : Room k callerA)
    (hY : ∀ (w : World) (h : Heap), YP w h → (K w.params).In h)
    (F : ∀ (w : World) (mg : Str → Option Value) (fa : Addr) (h : Heap), (K w.params).In h → h.Ns mainGlobals mg → mg d.name = some (.ref fa) →
      ∃ fd : FuncData, (∀ (s : Shared) (u : Value), BindsTo s fd ⟨[u], []⟩ [("script", u)]) ∧ ∀ base : Heap, (K w.params).In base → base.Ns mainGlobals mg → FnOk l.prog w (K w.params) mg base CX0 k fa fd ["script"] (toSp (K w.params) spLaw)) :
    PySem.W.WalkO q loose XP YP l.row.toRowW d [] (fun f vs => PySem.call f vs) :=
  L2.walk_of (n := 63) (k := k) (x := "script") (CX := fun _ => CX0) (sp := fun w => toSp (K w.params) spLaw) hn (by decide) hdf hr hY F (fun w H a ns hl hO hS => spLaw_of hl hO hS) fun _ _ _ _ _ z => z
end DL
end
section
set_option maxHeartbeats 4000000
/-! DL8: tools for the readings: loops by an invariant, comprehensions whose elements leave the store. -/
namespace DL
open PySem L2

theorem dLoop_inv {g : DG} {tb : DS} {inv : Mp → Prop} {F : DEnds} {items : List D} (I : Nat → Gm → Mp → Prop)
    (step : ∀ i d Γ M (N : Gm → Mp → Prop), items[i]? = some d → I i Γ M → (∀ Γ' M', I (i + 1) Γ' M' → N Γ' M') → inv M ∧ g d Γ M fun Γ1 M1 => tb { nx := N, rt := F.rt, bk := F.nx, ct := N } Γ1 M1)
    (done : ∀ Γ M, I items.length Γ M → inv M ∧ F.nx Γ M) {Γ : Gm} {M : Mp} (h0 : I 0 Γ M) : dLoop g tb inv F items Γ M := by
  have core : ∀ (k i : Nat), items.length - i = k → i ≤ items.length → ∀ Γ M, I i Γ M → dLoop g tb inv F (items.drop i) Γ M := by
    intro k
    induction k with
    | zero =>
      intro i hk hi Γ M h
      have e : i = items.length := by omega
      subst e
      rw [List.drop_length]
      exact done Γ M h
    | succ k ih =>
      intro i hk hi Γ M h
      have hlt : i < items.length := by omega
      rw [List.drop_eq_getElem_cons hlt]
      exact step i items[i] Γ M _ (by simp [hlt]) h fun Γ' M' h' => ih (i + 1) (by omega) hlt Γ' M' h'
  have := core _ 0 rfl (Nat.zero_le _) Γ M h0
  rwa [List.drop_zero] at this
theorem dCL_inv {g : DG} {tt : DT} {te : DE} {inv : Mp → Prop} {Γ : Gm} {items : List D} {Q : List D → Mp → Prop} (I : Nat → List D → Mp → Prop)
    (step : ∀ i d acc M (Ny : D → Mp → Prop) (Nn : Mp → Prop), items[i]? = some d → I i acc M → (∀ y M', I (i + 1) (acc ++ [y]) M' → acc.length < sizeLine ∧ Ny y M') → (∀ M', I (i + 1) acc M' → Nn M') →
      inv M ∧ g d Γ M fun Γ1 M1 => tt Γ1 M1 fun b M2 => if b = true then te Γ1 M2 Ny else Nn M2)
    (small : ∀ i acc M, I i acc M → acc.length ≤ sizeLine) (done : ∀ acc M, I items.length acc M → inv M ∧ Q acc M) {M : Mp} (h0 : I 0 [] M) : dCL g tt te inv Γ items [] M Q := by
  have core : ∀ (k i : Nat), items.length - i = k → i ≤ items.length → ∀ acc M, I i acc M → dCL g tt te inv Γ (items.drop i) acc M Q := by
    intro k
    induction k with
    | zero =>
      intro i hk hi acc M h
      have e : i = items.length := by omega
      subst e
      rw [List.drop_length]
      exact done acc M h
    | succ k ih =>
      intro i hk hi acc M h
      have hlt : i < items.length := by omega
      rw [List.drop_eq_getElem_cons hlt]
      have q := step i items[i] acc M (fun y M3 => acc.length < sizeLine ∧ dCL g tt te inv Γ (items.drop (i + 1)) (acc ++ [y]) M3 Q) (fun M2 => dCL g tt te inv Γ (items.drop (i + 1)) acc M2 Q) (by simp [hlt]) h
        (fun y M' h' => ⟨by have := small _ _ _ h'; rw [List.length_append, List.length_singleton] at this; omega, by have := small _ _ _ h'; rw [List.length_append, List.length_singleton] at this; omega, ih (i + 1) (by omega) hlt _ M' h'⟩) fun M' h' => ih (i + 1) (by omega) hlt acc M' h'
      exact q
  have := core _ 0 rfl (Nat.zero_le _) [] M h0
  rwa [List.drop_zero] at this
/-- the elements are reckoned and leave the store as it is -/
theorem dCL_pure {g : DG} {tt : DT} {te : DE} {inv : Mp → Prop} {Γ : Gm} {items acc : List D} {M : Mp} {Q : List D → Mp → Prop} (f : D → Option D) (hl : acc.length + items.length ≤ sizeLine) (hi : inv M)
    (h : ∀ d ∈ items, ∀ (Ny : D → Mp → Prop) (Nn : Mp → Prop), (∀ y, f d = some y → Ny y M) → (f d = none → Nn M) → g d Γ M fun Γ1 M1 => tt Γ1 M1 fun b M2 => if b = true then te Γ1 M2 Ny else Nn M2)
    (q : Q (acc ++ items.filterMap f) M) : dCL g tt te inv Γ items acc M Q := by
  induction items generalizing acc with
  | nil => exact ⟨hi, by simpa using q⟩
  | cons d ds ih =>
    rw [List.length_cons] at hl
    refine ⟨hi, h d List.mem_cons_self _ _ (fun y e => ⟨by omega, ih (by rw [List.length_append, List.length_singleton]; omega) (fun d hd => h d (List.mem_cons_of_mem _ hd)) ?_⟩) fun e => ih (by omega) (fun d hd => h d (List.mem_cons_of_mem _ hd)) ?_⟩
    · rw [List.filterMap_cons_some e] at q
      rw [List.append_assoc]
      exact q
    · rw [List.filterMap_cons_none e] at q
      exact q
theorem dCL2_pure {g : DG} {tt : DT} {ti1 : DI} {g1 : DG} {tt1 : DT} {te : DE} {vs1 : List Nat} {inv : Mp → Prop} {Γ : Gm} {items acc : List D} {M : Mp} {Q : List D → Mp → Prop} (f : D → List D) (hl : acc.length + (items.flatMap f).length ≤ sizeLine) (hi : inv M)
    (h : ∀ d ∈ items, ∀ (acc : List D) (N : List D → Mp → Prop) (Nn : Mp → Prop), acc.length + (f d).length ≤ sizeLine → N (acc ++ f d) M → g d Γ M fun Γ1 M1 => tt Γ1 M1 fun b M2 => if b = true then ti1 Γ1 M2 fun items1 inv1 M3 => dCL g1 tt1 te inv1 (wipeG Γ1 vs1) items1 acc M3 N else Nn M2)
    (q : Q (acc ++ items.flatMap f) M) : dCL2 g tt ti1 g1 tt1 te vs1 inv Γ items acc M Q := by
  induction items generalizing acc with
  | nil => exact ⟨hi, by simpa using q⟩
  | cons d ds ih =>
    rw [List.flatMap_cons, List.length_append] at hl
    refine ⟨hi, h d List.mem_cons_self acc (fun acc' M4 => dCL2 g tt ti1 g1 tt1 te vs1 inv Γ ds acc' M4 Q) _ (by omega) ?_⟩
    refine ih (by rw [List.length_append]; omega) (fun d hd => h d (List.mem_cons_of_mem _ hd)) ?_
    rw [List.flatMap_cons, ← List.append_assoc] at q
    exact q
theorem atI_nn {α : Type} {xs : List α} {i : Int} (h0 : 0 ≤ i) (h1 : i < xs.length) : atI xs i = xs[i.toNat]? := by
  unfold atI ixN
  rw [if_pos h0, if_pos h1]
  rfl
theorem atI_some {α : Type} {xs : List α} {i : Int} (h0 : 0 ≤ i) (h1 : i < xs.length) : ∃ x, atI xs i = some x ∧ xs[i.toNat]? = some x := by
  have hl : i.toNat < xs.length := by omega
  exact ⟨xs[i.toNat], by rw [atI_nn h0 h1]; simp [hl], by simp [hl]⟩
theorem ixN_nn {n : Nat} {i : Int} (h0 : 0 ≤ i) (h1 : i < n) : ixN n i = some i.toNat := by
  unfold ixN
  rw [if_pos h0, if_pos h1]
theorem cut_take {α : Type} (xs : List α) (k : Nat) : cutD xs none (some (k : Int)) = xs.take k := by
  unfold cutD
  rw [HT.sIx_none, HT.sIx_nat, List.drop_zero, Nat.sub_zero]
  rcases Nat.le_total k xs.length with h | h
  · rw [Nat.min_eq_left h]
  · rw [Nat.min_eq_right h, List.take_of_length_le h, List.take_of_length_le (Nat.le_refl _)]
theorem cut_drop {α : Type} (xs : List α) (k : Nat) : cutD xs (some (k : Int)) none = xs.drop k := by
  unfold cutD
  rw [HT.sIx_none, HT.sIx_nat]
  rcases Nat.le_total k xs.length with h | h
  · rw [Nat.min_eq_left h, List.take_of_length_le (by rw [List.length_drop]; omega)]
  · rw [Nat.min_eq_right h, Nat.sub_self, List.take_zero, List.drop_of_length_le h]
theorem sz {n : Nat} (h : n ≤ 16777216) : n ≤ sizeLine := by rw [sizeLine_eq]; exact h
theorem szl {n : Nat} (h : n < 16777216) : n < sizeLine := by rw [sizeLine_eq]; exact h
end DL
end
section
set_option maxHeartbeats 4000000
/-! DL9: the readings' equations (for simp only). -/
namespace DL
open PySem L2
section
variable {a b c d e : D} {r ds es : List D} {M : Mp} {Q : DK} {x y : Str} {i j : Int}
theorem ix_t0 : oIx (.tup (a :: r)) (.int 0) M Q = Q a M := by
  apply propext; constructor
  · rintro ⟨es, h1, y, h2, h3⟩
    cases h1
    have e : atI (a :: r) 0 = some a := atI_nat (j := 0) rfl
    rw [e] at h2; cases h2; exact h3
  · exact fun h => ⟨_, rfl, a, atI_nat (j := 0) rfl, h⟩
theorem ix_t1 : oIx (.tup (a :: b :: r)) (.int 1) M Q = Q b M := by
  apply propext; constructor
  · rintro ⟨es, h1, y, h2, h3⟩
    cases h1
    have e : atI (a :: b :: r) 1 = some b := atI_nat (j := 1) rfl
    rw [e] at h2; cases h2; exact h3
  · exact fun h => ⟨_, rfl, b, atI_nat (j := 1) rfl, h⟩
theorem ix_t2 : oIx (.tup (a :: b :: c :: r)) (.int 2) M Q = Q c M := by
  apply propext; constructor
  · rintro ⟨es, h1, y, h2, h3⟩
    cases h1
    have e : atI (a :: b :: c :: r) 2 = some c := atI_nat (j := 2) rfl
    rw [e] at h2; cases h2; exact h3
  · exact fun h => ⟨_, rfl, c, atI_nat (j := 2) rfl, h⟩
theorem ix_t3 : oIx (.tup (a :: b :: c :: d :: r)) (.int 3) M Q = Q d M := by
  apply propext; constructor
  · rintro ⟨es, h1, y, h2, h3⟩
    cases h1
    have e : atI (a :: b :: c :: d :: r) 3 = some d := atI_nat (j := 3) rfl
    rw [e] at h2; cases h2; exact h3
  · exact fun h => ⟨_, rfl, d, atI_nat (j := 3) rfl, h⟩
theorem ix_t4 : oIx (.tup (a :: b :: c :: d :: e :: r)) (.int 4) M Q = Q e M := by
  apply propext; constructor
  · rintro ⟨es, h1, y, h2, h3⟩
    cases h1
    have e' : atI (a :: b :: c :: d :: e :: r) 4 = some e := atI_nat (j := 4) rfl
    rw [e'] at h2; cases h2; exact h3
  · exact fun h => ⟨_, rfl, e, atI_nat (j := 4) rfl, h⟩
/-- an item of a tuple at a place that is reckoned -/
theorem ix_tup (h : atI ds i = some a) : oIx (.tup ds) (.int i) M Q = Q a M := by
  apply propext; constructor
  · rintro ⟨es, h1, y, h2, h3⟩
    cases h1
    rw [h] at h2; cases h2; exact h3
  · exact fun q => ⟨_, rfl, a, h, q⟩
theorem ix_lst {p : Addr} (hM : M p = some (.lst ds)) (h : atI ds i = some a) : oIx (.ref p) (.int i) M Q = Q a M := by
  have e : itemsD (.ref p) M = some ds := by unfold itemsD; dsimp only; rw [hM]
  apply propext; constructor
  · rintro ⟨es, h1, y, h2, h3⟩
    rw [e] at h1; cases h1
    rw [h] at h2; cases h2; exact h3
  · exact fun q => ⟨_, e, a, h, q⟩
theorem eq_ss : oEq (.str x) (.str y) M Q = Q (.bl (decide (x = y))) M := propext ⟨fun h => h.2, fun h => ⟨rfl, h⟩⟩
theorem eq_ii : oEq (.int i) (.int j) M Q = Q (.bl (i == j)) M := propext ⟨fun h => h.2, fun h => ⟨rfl, h⟩⟩
theorem eq_si : oEq (.str x) (.int j) M Q = Q (.bl false) M := propext ⟨fun h => h.2, fun h => ⟨rfl, h⟩⟩
theorem eq_is : oEq (.int i) (.str x) M Q = Q (.bl false) M := propext ⟨fun h => h.2, fun h => ⟨rfl, h⟩⟩
theorem eq_bb {p q : Bool} : oEq (.bl p) (.bl q) M Q = Q (.bl (p == q)) M := propext ⟨fun h => h.2, fun h => ⟨rfl, h⟩⟩
theorem ne_ss : oNe (.str x) (.str y) M Q = Q (.bl (!decide (x = y))) M := propext ⟨fun h => h.2, fun h => ⟨rfl, h⟩⟩
theorem ne_ii : oNe (.int i) (.int j) M Q = Q (.bl (!(i == j))) M := propext ⟨fun h => h.2, fun h => ⟨rfl, h⟩⟩
theorem ne_si : oNe (.str x) (.int j) M Q = Q (.bl true) M := propext ⟨fun h => h.2, fun h => ⟨rfl, h⟩⟩
theorem ne_is : oNe (.int i) (.str x) M Q = Q (.bl true) M := propext ⟨fun h => h.2, fun h => ⟨rfl, h⟩⟩
theorem ne_bb {p q : Bool} : oNe (.bl p) (.bl q) M Q = Q (.bl (!(p == q))) M := propext ⟨fun h => h.2, fun h => ⟨rfl, h⟩⟩
theorem add_ii : oAdd (.int i) (.int j) M Q = Q (.int (i + j)) M := rfl
theorem add_ss : oAdd (.str x) (.str y) M Q = (x.length + y.length ≤ sizeLine ∧ Q (.str (x ++ y)) M) := rfl
theorem add_tt : oAdd (.tup ds) (.tup es) M Q = (ds.length + es.length ≤ sizeLine ∧ Q (.tup (ds ++ es)) M) := rfl
theorem add_ll {p q : Addr} (h1 : M p = some (.lst ds)) (h2 : M q = some (.lst es)) : oAdd (.ref p) (.ref q) M Q = (ds.length + es.length ≤ sizeLine ∧ ∀ l, M l = none → Q (.ref l) (mupd M l (.lst (ds ++ es)))) := by
  apply propext; constructor
  · rintro ⟨xs, ys, a, b, c, d⟩
    rw [h1] at a; rw [h2] at b; cases a; cases b; exact ⟨c, d⟩
  · exact fun ⟨c, d⟩ => ⟨_, _, h1, h2, c, d⟩
theorem mul_ii : oMul (.int i) (.int j) M Q = (MulOk i j ∧ Q (.int (i * j)) M) := rfl
theorem mul_li {p : Addr} (h1 : M p = some (.lst ds)) : oMul (.ref p) (.int i) M Q = (-(2 ^ 63) ≤ i ∧ i < 2 ^ 63 ∧ ds.length * i.toNat ≤ sizeLine ∧ ∀ l, M l = none → Q (.ref l) (mupd M l (.lst (List.replicate i.toNat ds).flatten))) := by
  apply propext; constructor
  · rintro ⟨xs, a, b⟩
    rw [h1] at a; cases a; exact b
  · exact fun b => ⟨_, h1, b⟩
theorem mul_ti : oMul (.tup ds) (.int i) M Q = ((ds ≠ [] ∧ 2 ≤ i ∧ i ≤ 1000 ∧ ds.length ≤ 1000) ∧ Q (.tup (List.replicate i.toNat ds).flatten) M) := rfl
theorem oI_ii {C : Int → Int → Prop} {g : Int → Int → Int} : oI C g (.int i) (.int j) M Q = (C i j ∧ Q (.int (g i j)) M) := rfl
theorem oI0_ii {g : Int → Int → Int} : oI0 g (.int i) (.int j) M Q = Q (.int (g i j)) M := rfl
theorem oB0_ii {g : Int → Int → Bool} : oB0 g (.int i) (.int j) M Q = Q (.bl (g i j)) M := rfl
theorem is_non : oIs d .non M Q = Q (.bl (isNon d)) M := rfl
theorem isnot_non : oIsNot d .non M Q = Q (.bl (!isNon d)) M := rfl
theorem isNon_non : isNon .non = true := rfl
theorem isNon_int : isNon (.int i) = false := rfl
theorem isNon_str : isNon (.str x) = false := rfl
theorem isNon_bl {p : Bool} : isNon (.bl p) = false := rfl
theorem isNon_tup : isNon (.tup ds) = false := rfl
theorem len_tup : oLen [.tup ds] M Q = Q (.int ds.length) M := propext ⟨fun ⟨es, h, q⟩ => by cases h; exact q, fun q => ⟨_, rfl, q⟩⟩
theorem len_fl : oLen [.fl ds] M Q = Q (.int ds.length) M := propext ⟨fun ⟨es, h, q⟩ => by cases h; exact q, fun q => ⟨_, rfl, q⟩⟩
theorem len_str : oLen [.str x] M Q = (x.length ≤ sizeLine ∧ Q (.int x.length) M) := rfl
theorem items_lst {p : Addr} (hM : M p = some (.lst ds)) : itemsD (.ref p) M = some ds := by unfold itemsD; dsimp only; rw [hM]
theorem items_tup : itemsD (.tup ds) M = some ds := rfl
theorem items_fl : itemsD (.fl ds) M = some ds := rfl
theorem len_lst {p : Addr} (hM : M p = some (.lst ds)) : oLen [.ref p] M Q = Q (.int ds.length) M := propext ⟨fun ⟨es, h, q⟩ => by rw [items_lst hM] at h; cases h; exact q, fun q => ⟨_, items_lst hM, q⟩⟩
theorem tuple_lst {p : Addr} (hM : M p = some (.lst ds)) : oTuple [.ref p] M Q = Q (.tup ds) M := propext ⟨fun ⟨es, h, q⟩ => by rw [items_lst hM] at h; cases h; exact q, fun q => ⟨_, items_lst hM, q⟩⟩
theorem tuple_tup : oTuple [.tup ds] M Q = Q (.tup ds) M := propext ⟨fun ⟨es, h, q⟩ => by cases h; exact q, fun q => ⟨_, rfl, q⟩⟩
theorem int_i : oInt [.int i] M Q = Q (.int i) M := rfl
theorem int_b {p : Bool} : oInt [.bl p] M Q = Q (.int (if p then 1 else 0)) M := rfl
theorem abs_i : oAbs [.int i] M Q = Q (.int (if i < 0 then -i else i)) M := rfl
theorem max_ii : oMax [.int i, .int j] M Q = Q (.int (if j > i then j else i)) M := rfl
theorem min_ii : oMin [.int i, .int j] M Q = Q (.int (if j < i then j else i)) M := rfl
theorem asB_b {p : Bool} {f : Bool → Prop} : asB (.bl p) f = f p := rfl
theorem gv_0 {o : Option D} {Γ : Gm} : gv (o :: Γ) 0 = o := rfl
theorem gv_s {o : Option D} {Γ : Gm} {n : Nat} : gv (o :: Γ) (n + 1) = gv Γ n := rfl
theorem sv_0 {o : Option D} {Γ : Gm} : sv (o :: Γ) 0 d = some d :: Γ := rfl
theorem sv_s {o : Option D} {Γ : Gm} {n : Nat} : sv (o :: Γ) (n + 1) d = o :: sv Γ n d := rfl
theorem dVar_some {Γ : Gm} {n : Nat} (h : gv Γ n = some d) : dVar n Γ M Q = Q d M := by unfold dVar; rw [h]
theorem slice_t {Γ : Gm} {tl th : DO} {te : DE} : dSl te tl th Γ M Q = te Γ M fun d M1 => tl Γ M1 fun lo M2 => th Γ M2 fun hi M3 => match d with
  | .tup ds => Q (.tup (cutD ds lo hi)) M3
  | d => ∃ es, itemsD d M3 = some es ∧ ∀ p, M3 p = none → Q (.ref p) (mupd M3 p (.lst (cutD es lo hi))) := rfl
end
theorem cut_1 {a : D} {r : List D} : cutD (a :: r) (some 1) none = r := cut_drop (a :: r) 1
/-- one store within another -/
def Sub (M M' : Mp) : Prop := ∀ a o, M a = some o → M' a = some o
theorem Sub.refl {M : Mp} : Sub M M := fun _ _ h => h
theorem Sub.trans {M M1 M2 : Mp} (a : Sub M M1) (b : Sub M1 M2) : Sub M M2 := fun x o h => b x o (a x o h)
theorem Sub.drop {M M' : Mp} {p : Addr} {o : MO} (h : M p = none) (s : Sub M M') : Sub M (mupd M' p o) := fun a u e => by
  rw [mupd_ne (fresh_ne h e)]
  exact s a u e
theorem Sub.upd {M M' : Mp} {p : Addr} {o : MO} (s : Sub M M') : Sub (mupd M p o) (mupd M' p o) := fun a u e => by
  by_cases h : a = p
  · subst h; rw [mupd_same] at e ⊢; exact e
  · rw [mupd_ne h] at e ⊢; exact s a u e
theorem Wk.sub {Q : DK} {d : D} {M M' : Mp} (s : Sub M M') (h : Q d M) : Wk Q d M' := ⟨M, s, h⟩
theorem none_of_upd {M : Mp} {p q : Addr} {o : MO} (h : mupd M p o q = none) : q ≠ p ∧ M q = none := by
  by_cases e : q = p
  · subst e; rw [mupd_same] at h; cases h
  · rw [mupd_ne e] at h; exact ⟨e, h⟩
theorem append_at {a : Addr} {es : List D} {d : D} {M : Mp} {Q : DK} : oAppend a es [d] M Q = (es.length < sizeLine ∧ Q .non (mupd M a (.lst (es ++ [d])))) := rfl
theorem extend_at {a b : Addr} {es fs : List D} {M : Mp} {Q : DK} (h : M b = some (.lst fs)) : oExtend a es [.ref b] M Q = (es.length + fs.length ≤ sizeLine ∧ Q .non (mupd M a (.lst (es ++ fs)))) := by
  apply propext; constructor
  · rintro ⟨x, e, r⟩; rw [h] at e; cases e; exact r
  · exact fun r => ⟨fs, h, r⟩
theorem lm_at {o : OM} {ta : DE} {tr : DA} {Γ : Gm} {M : Mp} {Q : DK} {a : Addr} {es : List D} (h1 : ∀ K, ta Γ M K = K (.ref a) M) (h : M a = some (.lst es)) : dLM o ta tr Γ M Q = tr Γ M fun ds M2 => ∃ es, M2 a = some (.lst es) ∧ o a es ds M2 Q := by
  unfold dLM
  rw [h1]
  dsimp only
  apply propext; constructor
  · exact fun x => x.2
  · exact fun x => ⟨⟨es, h⟩, x⟩
end DL
end
section
set_option maxHeartbeats 4000000
/-! DL10: the readings' equations that look the store up. -/
namespace DL
open PySem L2
/-- an item wanted -/
def wantI (o : Option D) (Q : D → Prop) : Prop := match o with
  | some d => Q d
  | none => False
/-- a list wanted -/
def wantL (o : Option MO) (Q : List D → Prop) : Prop := match o with
  | some (.lst ds) => Q ds
  | _ => False
def wantK (o : Option MO) (Q : List (Key × D) → Prop) : Prop := match o with
  | some (.dct ds) => Q ds
  | _ => False
theorem wantI_some {d : D} {Q : D → Prop} : wantI (some d) Q = Q d := rfl
theorem wantL_some {ds : List D} {Q : List D → Prop} : wantL (some (.lst ds)) Q = Q ds := rfl
theorem wantK_some {ds : List (Key × D)} {Q : List (Key × D) → Prop} : wantK (some (.dct ds)) Q = Q ds := rfl
theorem mupd_app {M : Mp} {a b : Addr} {o : MO} : mupd M a o b = if b = a then some o else M b := rfl
section
variable {p q : Addr} {i : Int} {d e : D} {M : Mp} {Q : DK} {Γ : Gm} {ds : List D}
theorem items_ref_iff {R : List D → Prop} : (∃ es, itemsD (.ref p) M = some es ∧ R es) = wantL (M p) R := by
  unfold itemsD wantL
  dsimp only
  apply propext
  generalize M p = o
  cases o with
  | none => exact ⟨fun ⟨_, h, _⟩ => (nomatch h), fun h => h.elim⟩
  | some o => cases o with
    | lst ds => exact ⟨fun ⟨_, h, r⟩ => by cases h; exact r, fun r => ⟨_, rfl, r⟩⟩
    | dct => exact ⟨fun ⟨_, h, _⟩ => (nomatch h), fun h => h.elim⟩
theorem want_iff {o : Option D} {R : D → Prop} : (∃ y, o = some y ∧ R y) = wantI o R := by
  apply propext
  cases o with
  | none => exact ⟨fun ⟨_, h, _⟩ => (nomatch h), fun h => h.elim⟩
  | some d => exact ⟨fun ⟨_, h, r⟩ => by cases h; exact r, fun r => ⟨_, rfl, r⟩⟩
theorem ix_ref : oIx (.ref p) (.int i) M Q = wantL (M p) fun es => wantI (atI es i) fun y => Q y M := by
  show (∃ es, itemsD (.ref p) M = some es ∧ ∃ y, atI es i = some y ∧ Q y M) = _
  rw [items_ref_iff]
  congr 1
  funext es
  exact want_iff
theorem ix_tupA : oIx (.tup ds) (.int i) M Q = wantI (atI ds i) fun y => Q y M := by
  show (∃ es, some ds = some es ∧ ∃ y, atI es i = some y ∧ Q y M) = _
  rw [← want_iff]
  apply propext
  exact ⟨fun ⟨_, h, r⟩ => by cases h; exact r, fun r => ⟨_, rfl, r⟩⟩
theorem len_ref : oLen [.ref p] M Q = wantL (M p) fun es => Q (.int es.length) M := items_ref_iff
theorem tuple_ref : oTuple [.ref p] M Q = wantL (M p) fun es => Q (.tup es) M := items_ref_iff
theorem list_ref : oList [.ref p] M Q = wantL (M p) fun es => ∀ l, M l = none → Q (.ref l) (mupd M l (.lst es)) := items_ref_iff
theorem list_tup : oList [.tup ds] M Q = ∀ l, M l = none → Q (.ref l) (mupd M l (.lst ds)) := propext ⟨fun ⟨_, h, r⟩ => by cases h; exact r, fun r => ⟨_, rfl, r⟩⟩
theorem list_fl : oList [.fl ds] M Q = ∀ l, M l = none → Q (.ref l) (mupd M l (.lst ds)) := propext ⟨fun ⟨_, h, r⟩ => by cases h; exact r, fun r => ⟨_, rfl, r⟩⟩
theorem sl_ref {te : DE} {tl th : DO} : dSl te tl th Γ M Q = te Γ M fun d M1 => tl Γ M1 fun lo M2 => th Γ M2 fun hi M3 => match d with
  | .tup ds => Q (.tup (cutD ds lo hi)) M3
  | .fl ds => ∀ p, M3 p = none → Q (.ref p) (mupd M3 p (.lst (cutD ds lo hi)))
  | .ref a => wantL (M3 a) fun es => ∀ p, M3 p = none → Q (.ref p) (mupd M3 p (.lst (cutD es lo hi)))
  | d => ∃ es, itemsD d M3 = some es ∧ ∀ p, M3 p = none → Q (.ref p) (mupd M3 p (.lst (cutD es lo hi))) := by
  unfold dSl
  congr 1
  funext d M1
  congr 1
  funext lo M2
  congr 1
  funext hi M3
  cases d <;> try rfl
  · exact items_ref_iff
  · exact propext ⟨fun ⟨_, h, r⟩ => by cases h; exact r, fun r => ⟨_, rfl, r⟩⟩
theorem mul_ref : oMul (.ref p) (.int i) M Q = wantL (M p) fun xs => -(2 ^ 63) ≤ i ∧ i < 2 ^ 63 ∧ xs.length * i.toNat ≤ sizeLine ∧ ∀ p, M p = none → Q (.ref p) (mupd M p (.lst (List.replicate i.toNat xs).flatten)) := by
  unfold oMul wantL
  apply propext
  dsimp only
  cases M p with
  | none => exact ⟨fun ⟨_, h, _⟩ => (nomatch h), fun h => h.elim⟩
  | some o => cases o with
    | lst ds => exact ⟨fun ⟨_, h, r⟩ => by cases h; exact r, fun r => ⟨_, rfl, r⟩⟩
    | dct => exact ⟨fun ⟨_, h, _⟩ => (nomatch h), fun h => h.elim⟩
theorem add_ref : oAdd (.ref p) (.ref q) M Q = wantL (M p) fun xs => wantL (M q) fun ys => xs.length + ys.length ≤ sizeLine ∧ ∀ l, M l = none → Q (.ref l) (mupd M l (.lst (xs ++ ys))) := by
  unfold oAdd wantL
  apply propext
  dsimp only
  constructor
  · rintro ⟨xs, ys, h1, h2, r⟩
    rw [h1, h2]; exact r
  · intro h
    cases h1 : M p with
    | none => rw [h1] at h; exact h.elim
    | some o => cases o with
      | dct => rw [h1] at h; exact h.elim
      | lst xs =>
        rw [h1] at h
        dsimp only at h
        cases h2 : M q with
        | none => rw [h2] at h; exact h.elim
        | some o => cases o with
          | dct => rw [h2] at h; exact h.elim
          | lst ys => rw [h2] at h; exact ⟨xs, ys, rfl, rfl, h⟩
theorem seq_ref {te : DE} {R : List D → (Mp → Prop) → Mp → Prop} : diSeq te Γ M R = te Γ M fun d M1 => match d with
  | .tup ds => R ds (fun _ => True) M1
  | .fl ds => R ds (fun _ => True) M1
  | .ref a => wantL (M1 a) fun es => R es (fun M => M a = some (.lst es)) M1
  | d => ∃ es, itemsD d M1 = some es ∧ R es (same d es) M1 := by
  unfold diSeq
  congr 1
  funext d M1
  cases d <;> try rfl
  · exact propext ⟨fun ⟨_, h, r⟩ => by cases h; exact r, fun r => ⟨_, rfl, r⟩⟩
  · exact items_ref_iff
  · exact propext ⟨fun ⟨_, h, r⟩ => by cases h; exact r, fun r => ⟨_, rfl, r⟩⟩
theorem setL_ref {to ti te : DE} {F : DEnds} : dSetL to ti te F Γ M = te Γ M fun d M1 => to Γ M1 fun o M2 => ti Γ M2 fun j M3 => match o, j with
  | .ref a, .int k => wantL (M3 a) fun es => match ixN es.length k with
    | some n => F.nx Γ (mupd M3 a (.lst (es.set n d)))
    | none => False
  | _, _ => False := by
  unfold dSetL
  congr 1
  funext d M1
  congr 1
  funext o M2
  congr 1
  funext j M3
  cases o <;> try rfl
  cases j <;> try rfl
  rename_i a k
  dsimp only
  unfold wantL
  apply propext
  constructor
  · rintro ⟨es, n, h1, h2, r⟩
    rw [h1]
    dsimp only
    rw [h2]
    exact r
  · intro h
    cases h1 : M3 a with
    | none => rw [h1] at h; exact h.elim
    | some o => cases o with
      | dct => rw [h1] at h; exact h.elim
      | lst xs =>
        rw [h1] at h
        dsimp only at h
        cases h2 : ixN xs.length k with
        | none => rw [h2] at h; exact h.elim
        | some n => rw [h2] at h; exact ⟨xs, n, rfl, h2, h⟩
theorem lm_ref {o : OM} {ta : DE} {tr : DA} : dLM o ta tr Γ M Q = ta Γ M fun d M1 => match d with
  | .ref a => wantL (M1 a) fun _ => tr Γ M1 fun ds M2 => wantL (M2 a) fun es => o a es ds M2 Q
  | _ => False := by
  unfold dLM
  congr 1
  funext d M1
  cases d <;> try rfl
  rename_i a
  dsimp only
  unfold wantL
  apply propext
  have e : (fun ds M2 => ∃ es, M2 a = some (.lst es) ∧ o a es ds M2 Q) = (fun ds (M2 : Mp) => match M2 a with | some (.lst es) => o a es ds M2 Q | _ => False) := by
    funext ds M2
    apply propext
    cases M2 a with
    | none => exact ⟨fun ⟨_, h, _⟩ => (nomatch h), fun h => h.elim⟩
    | some o => cases o with
      | lst ds => exact ⟨fun ⟨_, h, r⟩ => by cases h; exact r, fun r => ⟨_, rfl, r⟩⟩
      | dct => exact ⟨fun ⟨_, h, _⟩ => (nomatch h), fun h => h.elim⟩
  rw [e]
  cases M1 a with
  | none => exact ⟨fun ⟨⟨_, h⟩, _⟩ => (nomatch h), fun h => h.elim⟩
  | some o => cases o with
    | lst ds => exact ⟨fun x => x.2, fun x => ⟨⟨_, rfl⟩, x⟩⟩
    | dct => exact ⟨fun ⟨⟨_, h⟩, _⟩ => (nomatch h), fun h => h.elim⟩
theorem extend_ref {a b : Addr} {es : List D} : oExtend a es [.ref b] M Q = wantL (M b) fun fs => es.length + fs.length ≤ sizeLine ∧ Q .non (mupd M a (.lst (es ++ fs))) := by
  unfold oExtend wantL
  apply propext
  dsimp only
  cases M b with
  | none => exact ⟨fun ⟨_, h, _⟩ => (nomatch h), fun h => h.elim⟩
  | some o => cases o with
    | lst ds => exact ⟨fun ⟨_, h, r⟩ => by cases h; exact r, fun r => ⟨_, rfl, r⟩⟩
    | dct => exact ⟨fun ⟨_, h, _⟩ => (nomatch h), fun h => h.elim⟩
theorem dget_ref {td ty : DE} : dDGet td ty Γ M Q = td Γ M fun d M1 => ty Γ M1 fun e M2 => match d with
  | .ref a => wantK (M2 a) fun kvs => match keyD e with
    | some k => wantI (valD kvs k) fun v => Q v M2
    | none => False
  | _ => False := by
  unfold dDGet
  congr 1
  funext d M1
  congr 1
  funext e M2
  cases d <;> try rfl
  rename_i a
  dsimp only
  unfold wantK
  apply propext
  constructor
  · rintro ⟨kvs, k, v, h1, h2, h3, r⟩
    rw [h1]
    dsimp only
    rw [h2]
    dsimp only
    rw [h3]
    exact r
  · intro h
    cases h1 : M2 a with
    | none => rw [h1] at h; exact h.elim
    | some o => cases o with
      | lst => rw [h1] at h; exact h.elim
      | dct kvs =>
        rw [h1] at h
        dsimp only at h
        cases h2 : keyD e with
        | none => rw [h2] at h; exact h.elim
        | some k =>
          rw [h2] at h
          dsimp only at h
          cases h3 : valD kvs k with
          | none => rw [h3] at h; exact h.elim
          | some v => rw [h3] at h; exact ⟨kvs, k, v, rfl, rfl, h3, h⟩
theorem sum_ref : oSum [.ref p] M Q = wantL (M p) fun es => match intsOf es with
  | some ns => Q (.int ns.sum) M
  | none => False := by
  unfold oSum wantL
  apply propext
  dsimp only
  constructor
  · rintro ⟨es, ns, h1, h2, r⟩
    rw [h1]; dsimp only; rw [h2]; exact r
  · intro h
    cases h1 : M p with
    | none => rw [h1] at h; exact h.elim
    | some o => cases o with
      | dct => rw [h1] at h; exact h.elim
      | lst xs =>
        rw [h1] at h
        dsimp only at h
        cases h2 : intsOf xs with
        | none => rw [h2] at h; exact h.elim
        | some n => rw [h2] at h; exact ⟨xs, n, rfl, h2, h⟩
theorem max_ref : oMax [.ref p] M Q = wantL (M p) fun es => match intsOf es with
  | some ns => 0 < ns.length ∧ ∀ m, m ∈ ns → (∀ y, y ∈ ns → y ≤ m) → Q (.int m) M
  | none => False := by
  unfold oMax wantL
  apply propext
  dsimp only
  constructor
  · rintro ⟨es, ns, h1, h2, r⟩
    rw [h1]; dsimp only; rw [h2]; exact r
  · intro h
    cases h1 : M p with
    | none => rw [h1] at h; exact h.elim
    | some o => cases o with
      | dct => rw [h1] at h; exact h.elim
      | lst xs =>
        rw [h1] at h
        dsimp only at h
        cases h2 : intsOf xs with
        | none => rw [h2] at h; exact h.elim
        | some n => rw [h2] at h; exact ⟨xs, n, rfl, h2, h⟩
theorem min_ref : oMin [.ref p] M Q = wantL (M p) fun es => match intsOf es with
  | some ns => 0 < ns.length ∧ ∀ m, m ∈ ns → (∀ y, y ∈ ns → m ≤ y) → Q (.int m) M
  | none => False := by
  unfold oMin wantL
  apply propext
  dsimp only
  constructor
  · rintro ⟨es, ns, h1, h2, r⟩
    rw [h1]; dsimp only; rw [h2]; exact r
  · intro h
    cases h1 : M p with
    | none => rw [h1] at h; exact h.elim
    | some o => cases o with
      | dct => rw [h1] at h; exact h.elim
      | lst xs =>
        rw [h1] at h
        dsimp only at h
        cases h2 : intsOf xs with
        | none => rw [h2] at h; exact h.elim
        | some n => rw [h2] at h; exact ⟨xs, n, rfl, h2, h⟩
end
section
variable {α : Type} {a b c d e : α} {r : List α}
theorem at_0 : atI (a :: r) 0 = some a := atI_nat (j := 0) rfl
theorem at_1 : atI (a :: b :: r) 1 = some b := atI_nat (j := 1) rfl
theorem at_2 : atI (a :: b :: c :: r) 2 = some c := atI_nat (j := 2) rfl
theorem at_3 : atI (a :: b :: c :: d :: r) 3 = some d := atI_nat (j := 3) rfl
theorem at_4 : atI (a :: b :: c :: d :: e :: r) 4 = some e := atI_nat (j := 4) rfl
theorem at_m1 {xs : List α} : atI (xs ++ [a]) (-1) = some a := atI_last xs a
end
theorem tyD_int {i : Int} {M : Mp} : tyD (.int i) M = some "int" := rfl
theorem tyD_bl {b : Bool} {M : Mp} : tyD (.bl b) M = some "bool" := rfl
theorem tyD_str {x : Str} {M : Mp} : tyD (.str x) M = some "str" := rfl
theorem tyD_tup {ds : List D} {M : Mp} : tyD (.tup ds) M = some "tuple" := rfl
theorem tyD_non {M : Mp} : tyD .non M = some "NoneType" := rfl
theorem isi_ty {S T : String} {b : Bool} {d : D} {te : DE} {Γ : Gm} {M : Mp} {Q : DK} (ht : te Γ M = fun K => K d M) (h1 : tyD d M = some S) (h2 : kitB S T = some b) : dIsi T te Γ M Q = Q (.bl b) M := by
  unfold dIsi
  rw [ht]
  apply propext
  constructor
  · rintro ⟨S', b', e1, e2, r⟩
    rw [h1] at e1; cases e1
    rw [h2] at e2; cases e2
    exact r
  · exact fun r => ⟨S, b, h1, h2, r⟩
def wantB (o : Option Bool) (Q : Bool → Prop) : Prop := match o with
  | some d => Q d
  | none => False
theorem wantB_some {b : Bool} {Q : Bool → Prop} : wantB (some b) Q = Q b := rfl
theorem isi_eq {T : String} {te : DE} {Γ : Gm} {M : Mp} {Q : DK} : dIsi T te Γ M Q = te Γ M fun d M1 => match tyD d M1 with
  | some S => wantB (kitB S T) fun b => Q (.bl b) M1
  | none => False := by
  unfold dIsi
  congr 1
  funext d M1
  apply propext
  cases h1 : tyD d M1 with
  | none => exact ⟨fun ⟨_, _, h, _⟩ => (nomatch h), fun h => h.elim⟩
  | some S =>
    dsimp only
    unfold wantB
    cases h2 : kitB S T with
    | none => exact ⟨fun ⟨_, _, h, h', _⟩ => (by cases h; rw [h2] at h'; cases h'), fun h => h.elim⟩
    | some b => exact ⟨fun ⟨_, _, h, h', r⟩ => (by cases h; rw [h2] at h'; cases h'; exact r), fun r => ⟨S, b, rfl, h2, r⟩⟩
theorem kit_ii : kitB "int" "int" = some true := by decide +kernel
theorem kit_ib : kitB "int" "bool" = some false := by decide +kernel
theorem kit_is : kitB "int" "str" = some false := by decide +kernel
theorem kit_it : kitB "int" "tuple" = some false := by decide +kernel
theorem kit_bi : kitB "bool" "int" = some true := by decide +kernel
theorem kit_bb : kitB "bool" "bool" = some true := by decide +kernel
theorem kit_bs : kitB "bool" "str" = some false := by decide +kernel
theorem kit_bt : kitB "bool" "tuple" = some false := by decide +kernel
theorem kit_si : kitB "str" "int" = some false := by decide +kernel
theorem kit_sb : kitB "str" "bool" = some false := by decide +kernel
theorem kit_ss : kitB "str" "str" = some true := by decide +kernel
theorem kit_st : kitB "str" "tuple" = some false := by decide +kernel
theorem kit_ti : kitB "tuple" "int" = some false := by decide +kernel
theorem kit_tb : kitB "tuple" "bool" = some false := by decide +kernel
theorem kit_ts : kitB "tuple" "str" = some false := by decide +kernel
theorem kit_tt : kitB "tuple" "tuple" = some true := by decide +kernel
theorem kit_ni : kitB "NoneType" "int" = some false := by decide +kernel
theorem kit_nb : kitB "NoneType" "bool" = some false := by decide +kernel
theorem kit_ns : kitB "NoneType" "str" = some false := by decide +kernel
theorem kit_nt : kitB "NoneType" "tuple" = some false := by decide +kernel
theorem kit_li : kitB "list" "int" = some false := by decide +kernel
theorem kit_lb : kitB "list" "bool" = some false := by decide +kernel
theorem kit_ls : kitB "list" "str" = some false := by decide +kernel
theorem kit_lt : kitB "list" "tuple" = some false := by decide +kernel
end DL
end
section
set_option maxHeartbeats 4000000
/-! the readings of the bodies (printed by gen.py) -/
namespace Lw
open PySem L2 DL
def kD_0 : List D → List D → List D
  | [], [w0] => [w0]
  | _, _ => []
def kD_1 : List D → List D → List D
  | [], [w0] => [w0]
  | _, _ => []
def kD_2 : List D → List D → List D
  | [], [w0] => [w0]
  | _, _ => []
def kD_3 : List D → List D → List D
  | [], [w0] => [w0]
  | _, _ => []
def kD_4 : List D → List D → List D
  | [], [w0] => [w0]
  | _, _ => []
/-- matches_empty: pattern=0 -/
def b_matches_empty (sp_matches_empty : DSp) : DS :=
  dSeq (dIfS (dB (dOp oEq (dOp oIx (dVar 0) (dC (.int 0))) (dC (.str ("test" : Str))))) (dRet (dC (.bl false))) (dNext)) (dSeq (dIfS (dB (dOp oEq (dOp oIx (dVar 0) (dC (.int 0))) (dC (.str ("again" : Str))))) (dRet (dC (.bl true))) (dNext)) (dSeq (dIfS (dB (dOp oEq (dOp oIx (dVar 0) (dC (.int 0))) (dC (.str ("or" : Str))))) (dRet (dOrV (dCall sp_matches_empty (dCons (dOp oIx (dVar 0) (dC (.int 1))) (dNil))) (dCall sp_matches_empty (dCons (dOp oIx (dVar 0) (dC (.int 2))) (dNil))))) (dNext)) (dRet (dAndV (dCall sp_matches_empty (dCons (dOp oIx (dVar 0) (dC (.int 1))) (dNil))) (dCall sp_matches_empty (dCons (dOp oIx (dVar 0) (dC (.int 2))) (dNil)))))))
abbrev N_matches_empty : List Str := ["pattern"]
/-- tests_of: pattern=0 told=1 part=2 -/
def b_tests_of (sp_tests_of : DSp) : DS :=
  dSeq (dIfS (dB (dOp oEq (dOp oIx (dVar 0) (dC (.int 0))) (dC (.str ("test" : Str))))) (dRet (dLst (dCons (dOp oIx (dVar 0) (dC (.int 1))) (dNil)))) (dNext)) (dSeq (dAsg (dLst (dNil)) (dgN 1)) (dSeq (dFor (diSeq (dSl (dVar 0) (dPart (dC (.int 1))) (dNo))) (dgN 2) (dDrop (dLM oExtend (dVar 1) (dCons (dCall sp_tests_of (dCons (dVar 2) (dNil))) (dNil))))) (dRet (dVar 1))))
abbrev N_tests_of : List Str := ["pattern", "told", "part"]
/-- names_of: pattern=0 tests=1 word=2 name=3 -/
def b_names_of (sp_tests_of : DSp) : DS :=
  dRet (dCB oTuple (dCons (dLc2 (diSeq (dCall sp_tests_of (dCons (dVar 0) (dNil)))) (dgN 1) (dYes) (diSeq (dVar 1)) (dgT [dgN 2, dgN 3]) (dYes) (dVar 3) [1, 2, 3] [2, 3]) (dNil)))
abbrev N_names_of : List Str := ["pattern", "tests", "word", "name"]
/-- pattern_size: pattern=0 -/
def b_pattern_size (sp_tests_of : DSp) : DS :=
  dRet (dCB oLen (dCons (dCall sp_tests_of (dCons (dVar 0) (dNil))) (dNil)))
abbrev N_pattern_size : List Str := ["pattern"]
/-- pattern_depth: pattern=0 part=1 -/
def b_pattern_depth (sp_pattern_depth : DSp) : DS :=
  dSeq (dIfS (dB (dOp oEq (dOp oIx (dVar 0) (dC (.int 0))) (dC (.str ("test" : Str))))) (dRet (dC (.int 1))) (dNext)) (dRet (dOp oAdd (dC (.int 1)) (dCB oMax (dCons (dLc (diSeq (dSl (dVar 0) (dPart (dC (.int 1))) (dNo))) (dgN 1) (dYes) (dCall sp_pattern_depth (dCons (dVar 1) (dNil))) [1]) (dNil)))))
abbrev N_pattern_depth : List Str := ["pattern", "part"]
/-- most_of: pattern=0 ones=1 -/
def b_most_of : DS :=
  dSeq (dIfS (dB (dOp oEq (dOp oIx (dVar 0) (dC (.int 0))) (dC (.str ("again" : Str))))) (dRet (dIf (dB (dOp oEq (dOp oIx (dVar 1) (dC (.int 0))) (dC (.int 0)))) (dC (.int 0)) (dC .non))) (dNext)) (dSeq (dIfS (dOr (dB (dOp oIs (dOp oIx (dVar 1) (dC (.int 0))) (dC .non))) (dB (dOp oIs (dOp oIx (dVar 1) (dC (.int 1))) (dC .non)))) (dRet (dC .non)) (dNext)) (dRet (dIf (dB (dOp oEq (dOp oIx (dVar 0) (dC (.int 0))) (dC (.str ("or" : Str))))) (dCB oMax (dCons (dVar 1) (dNil))) (dCB oSum (dCons (dVar 1) (dNil))))))
abbrev N_most_of : List Str := ["pattern", "ones"]
/-- sequence_of: pattern=0 told=1 least=2 most=3 part=4 pair=5 -/
def b_sequence_of (sp_sequence_of : DSp) (sp_most_of : DSp) : DS :=
  dSeq (dIfS (dB (dOp oEq (dOp oIx (dVar 0) (dC (.int 0))) (dC (.str ("test" : Str))))) (dRet (dTup (dCons (dC (.int 1)) (dCons (dC (.int 1)) (dNil))))) (dNext)) (dSeq (dAsg (dLc (diSeq (dSl (dVar 0) (dPart (dC (.int 1))) (dNo))) (dgN 4) (dYes) (dCall sp_sequence_of (dCons (dVar 4) (dNil))) [4]) (dgN 1)) (dSeq (dAsg (dLc (diSeq (dVar 1)) (dgN 5) (dYes) (dOp oIx (dVar 5) (dC (.int 0))) [5]) (dgN 2)) (dSeq (dAsg (dCall sp_most_of (dCons (dVar 0) (dCons (dLc (diSeq (dVar 1)) (dgN 5) (dYes) (dOp oIx (dVar 5) (dC (.int 1))) [5]) (dNil)))) (dgN 3)) (dSeq (dIfS (dB (dOp oEq (dOp oIx (dVar 0) (dC (.int 0))) (dC (.str ("again" : Str))))) (dRet (dTup (dCons (dC (.int 0)) (dCons (dVar 3) (dNil))))) (dNext)) (dRet (dTup (dCons (dIf (dB (dOp oEq (dOp oIx (dVar 0) (dC (.int 0))) (dC (.str ("or" : Str))))) (dCB oMin (dCons (dVar 2) (dNil))) (dCB oSum (dCons (dVar 2) (dNil)))) (dCons (dVar 3) (dNil)))))))))
abbrev N_sequence_of : List Str := ["pattern", "told", "least", "most", "part", "pair"]
/-- _law_drum: script=0 skin=1 cell=2 -/
def b__law_drum : DS :=
  dSeq (dAsg (dOp oMul (dOp oMul (dOp oMul (dOp oMul (dOp oPow (dC (.int 10)) (dC (.int 60))) (dOp oPow (dC (.int 10)) (dC (.int 60)))) (dOp oPow (dC (.int 10)) (dC (.int 60)))) (dOp oPow (dC (.int 10)) (dC (.int 60)))) (dOp oPow (dC (.int 10)) (dC (.int 60)))) (dgN 1)) (dRet (dLst (dCons (dLc (diSeq (dSl (dVar 0) (dNo) (dPart (dC (.int 63))))) (dgN 2) (dYes) (dOp oMod (dCB oInt (dCons (dVar 2) (dNil))) (dVar 1)) [2]) (dCons (dC (.int 0)) (dCons (dC (.int 0)) (dNil))))))
abbrev N__law_drum : List Str := ["script", "skin", "cell"]
/-- _law_pull: drum=0 many=1 beats=2 turn=3 beat=4 roll=5 place=6 -/
def b__law_pull : DS :=
  dSeq (dAsg (dOp oIx (dVar 0) (dC (.int 0))) (dgN 2)) (dSeq (dSetL (dVar 0) (dC (.int 1)) (dOp oAdd (dOp oIx (dVar 0) (dC (.int 1))) (dC (.int 1)))) (dSeq (dAsg (dCB oInt (dCons (dOp oIx (dVar 0) (dC (.int 1))) (dNil))) (dgN 3)) (dSeq (dAsg (dC (.int 73)) (dgN 4)) (dSeq (dIfS (dB (dOp oGt (dCB oLen (dCons (dVar 2) (dNil))) (dC (.int 0)))) (dSeq (dAsg (dOp oMod (dCB oInt (dCons (dOp oIx (dVar 0) (dC (.int 2))) (dNil))) (dCB oLen (dCons (dVar 2) (dNil)))) (dgN 6)) (dSeq (dAsg (dOp oIx (dVar 2) (dVar 6)) (dgN 4)) (dSeq (dIfS (dB (dOp oGe (dVar 4) (dOp oPow (dC (.int 10)) (dC (.int 17))))) (dSeq (dSetL (dVar 2) (dVar 6) (dOp oFdiv (dVar 4) (dVar 1))) (dRet (dOp oMod (dCB oInt (dCons (dVar 4) (dNil))) (dVar 1)))) (dNext)) (dSetL (dVar 0) (dC (.int 2)) (dOp oAdd (dVar 6) (dC (.int 1))))))) (dNext)) (dSeq (dAsg (dOp oMod (dCB oInt (dCons (dOp oAdd (dOp oAdd (dOp oMul (dVar 4) (dC (.int 1103515245))) (dOp oMul (dVar 3) (dC (.int 69621)))) (dC (.int 2147001325))) (dNil))) (dC (.int 4294967291))) (dgN 5)) (dSeq (dAsg (dOp oMod (dCB oInt (dCons (dOp oAdd (dOp oAdd (dOp oMul (dVar 5) (dOp oAdd (dOp oMod (dVar 3) (dC (.int 97))) (dC (.int 367)))) (dOp oMul (dVar 4) (dC (.int 53)))) (dVar 3)) (dNil))) (dC (.int 2147483647))) (dgN 5)) (dSeq (dAsg (dOp oMod (dCB oInt (dCons (dOp oAdd (dOp oMul (dVar 5) (dVar 5)) (dOp oMul (dVar 3) (dC (.int 101)))) (dNil))) (dC (.int 2147483543))) (dgN 5)) (dRet (dOp oMod (dCB oInt (dCons (dOp oFdiv (dVar 5) (dC (.int 256))) (dNil))) (dVar 1))))))))))
abbrev N__law_pull : List Str := ["drum", "many", "beats", "turn", "beat", "roll", "place"]
/-- _law_whole: value=0 -/
def b__law_whole : DS :=
  dRet (dAndV (dIsi "int" (dVar 0)) (dNotV (dIsi "bool" (dVar 0))))
abbrev N__law_whole : List Str := ["value"]
/-- _law_name: drum=0 letters=1 signs=2 fixed=3 name=4 turn=5 -/
def b__law_name (sp__law_pull : DSp) : DS :=
  dSeq (dAsg (dC (.str ("abcdefghijklmnopqrstuvwxyz" : Str))) (dgN 1)) (dSeq (dAsg (dOp oAdd (dVar 1) (dC (.str ("0123456789" : Str)))) (dgN 2)) (dSeq (dAsg (dLst (dCons (dC (.str ("a" : Str))) (dCons (dC (.str ("ab" : Str))) (dCons (dC (.str ("abcdefgh" : Str))) (dCons (dC (.str ("andy" : Str))) (dCons (dC (.str ("orb" : Str))) (dCons (dC (.str ("anyone" : Str))) (dCons (dC (.str ("first1" : Str))) (dCons (dC (.str ("never9" : Str))) (dCons (dC (.str ("z0" : Str))) (dCons (dC (.str ("thens" : Str))) (dCons (dC (.str ("x" : Str))) (dNil))))))))))))) (dgN 3)) (dSeq (dIfS (dB (dOp oEq (dCall sp__law_pull (dCons (dVar 0) (dCons (dC (.int 2)) (dNil)))) (dC (.int 0)))) (dRet (dOp oIx (dVar 3) (dCall sp__law_pull (dCons (dVar 0) (dCons (dCB oLen (dCons (dVar 3) (dNil))) (dNil)))))) (dNext)) (dSeq (dAsg (dOp oAdd (dC (.str ("q" : Str))) (dOp oIx (dVar 1) (dCall sp__law_pull (dCons (dVar 0) (dCons (dC (.int 26)) (dNil)))))) (dgN 4)) (dSeq (dFor (diR1 (dCons (dCall sp__law_pull (dCons (dVar 0) (dCons (dC (.int 7)) (dNil)))) (dNil))) (dgN 5) (dAsg (dOp oAdd (dVar 4) (dOp oIx (dVar 2) (dCall sp__law_pull (dCons (dVar 0) (dCons (dC (.int 36)) (dNil)))))) (dgN 4))) (dRet (dVar 4)))))))
abbrev N__law_name : List Str := ["drum", "letters", "signs", "fixed", "name", "turn"]
/-- _law_test: drum=0 many=1 tests=2 turn=3 -/
def b__law_test (sp__law_pull : DSp) (sp__law_name : DSp) : DS :=
  dSeq (dAsg (dOp oIx (dTup (dCons (dC (.int 0)) (dCons (dC (.int 1)) (dCons (dC (.int 1)) (dCons (dC (.int 2)) (dCons (dC (.int 6)) (dCons (dCall sp__law_pull (dCons (dVar 0) (dCons (dC (.int 7)) (dNil)))) (dNil)))))))) (dCall sp__law_pull (dCons (dVar 0) (dCons (dC (.int 6)) (dNil))))) (dgN 1)) (dSeq (dAsg (dLst (dNil)) (dgN 2)) (dSeq (dFor (diR1 (dCons (dVar 1) (dNil))) (dgN 3) (dDrop (dLM oAppend (dVar 2) (dCons (dTup (dCons (dOp oIx (dTup (dCons (dC (.str ("is" : Str))) (dCons (dC (.str ("not" : Str))) (dNil)))) (dCall sp__law_pull (dCons (dVar 0) (dCons (dC (.int 2)) (dNil))))) (dCons (dCall sp__law_name (dCons (dVar 0) (dNil))) (dNil)))) (dNil))))) (dSeq (dIfS (dAnd (dB (dOp oGt (dVar 1) (dC (.int 1)))) (dB (dOp oEq (dCall sp__law_pull (dCons (dVar 0) (dCons (dC (.int 2)) (dNil)))) (dC (.int 0))))) (dSetL (dVar 2) (dC (.int 0)) (dOp oIx (dVar 2) (dOp oSub (dVar 1) (dC (.int 1))))) (dNext)) (dRet (dTup (dCons (dC (.str ("test" : Str))) (dCons (dCB oTuple (dCons (dVar 2) (dNil))) (dNil))))))))
abbrev N__law_test : List Str := ["drum", "many", "tests", "turn"]
def b__law_pattern_T1 (sp__law_test : DSp) (sp__law_pull : DSp) : DS :=
  dAsg (dOp oAdd (dOp oAdd (dSl (dVar 3) (dNo) (dPart (dVar 5))) (dLst (dCons (dTup (dCons (dTup (dCons (dVar 14) (dCons (dVar 10) (dCons (dVar 12) (dNil))))) (dCons (dOp oAdd (dCB oMax (dCons (dVar 11) (dCons (dVar 13) (dNil)))) (dC (.int 1))) (dNil)))) (dNil)))) (dSl (dVar 3) (dPart (dOp oAdd (dVar 5) (dC (.int 2)))) (dNo))) (dgN 3)
def b__law_pattern_T2 (sp__law_test : DSp) (sp__law_pull : DSp) : DS :=
  dSeq (dAsg (dCB oMin (dCons (dVar 5) (dCons (dOp oSub (dCB oLen (dCons (dVar 3) (dNil))) (dC (.int 2))) (dNil)))) (dgN 5)) (dSeq (dAsg (dOp oIx (dVar 3) (dVar 5)) (dgT [dgN 10, dgN 11])) (dSeq (dAsg (dOp oIx (dVar 3) (dOp oAdd (dVar 5) (dC (.int 1)))) (dgT [dgN 12, dgN 13])) (dSeq (dAsg (dOp oIx (dTup (dCons (dC (.str ("then" : Str))) (dCons (dC (.str ("or" : Str))) (dNil)))) (dOp oMod (dCB oInt (dCons (dVar 8) (dNil))) (dC (.int 2)))) (dgN 14)) (dIfS (dB (dOp oLe (dOp oAdd (dCB oMax (dCons (dVar 11) (dCons (dVar 13) (dNil)))) (dC (.int 1))) (dOp oSub (dVar 2) (dOp oSub (dCB oLen (dCons (dVar 3) (dNil))) (dC (.int 2)))))) (b__law_pattern_T1 sp__law_test sp__law_pull) (dNext)))))
def b__law_pattern_T3 (sp__law_test : DSp) (sp__law_pull : DSp) : DS :=
  dSetL (dVar 3) (dVar 5) (dTup (dCons (dTup (dCons (dC (.str ("again" : Str))) (dCons (dVar 6) (dNil)))) (dCons (dOp oAdd (dVar 7) (dC (.int 1))) (dNil))))
def b__law_pattern_R1 (sp__law_test : DSp) (sp__law_pull : DSp) : DS :=
  dIfS (dAnd (dB (dOp oEq (dVar 8) (dC (.int 0)))) (dB (dOp oLt (dOp oAdd (dVar 7) (dCB oLen (dCons (dVar 3) (dNil)))) (dVar 2)))) (b__law_pattern_T3 sp__law_test sp__law_pull) (dIfS (dB (dOp oGt (dCB oLen (dCons (dVar 3) (dNil))) (dC (.int 1)))) (b__law_pattern_T2 sp__law_test sp__law_pull) (dNext))
def b__law_pattern_L1 (sp__law_test : DSp) (sp__law_pull : DSp) : DS :=
  dSeq (dAsg (dCall sp__law_pull (dCons (dVar 0) (dCons (dCB oLen (dCons (dVar 3) (dNil))) (dNil)))) (dgN 5)) (dSeq (dAsg (dOp oIx (dVar 3) (dVar 5)) (dgT [dgN 6, dgN 7])) (dSeq (dAsg (dCall sp__law_pull (dCons (dVar 0) (dCons (dC (.int 5)) (dNil)))) (dgN 8)) (dSeq (dIfS (dAnd (dB (dOp oEq (dCB oLen (dCons (dVar 3) (dNil))) (dC (.int 1)))) (dB (dOp oGt (dVar 8) (dC (.int 2))))) (dBreak) (dNext)) (b__law_pattern_R1 sp__law_test sp__law_pull))))
def b__law_pattern_T4 (sp__law_test : DSp) (sp__law_pull : DSp) : DS :=
  dAsg (dVar 9) (dgN 5)
def b__law_pattern_L2 (sp__law_test : DSp) (sp__law_pull : DSp) : DS :=
  dIfS (dB (dOp oLt (dCB oMax (dCons (dOp oIx (dOp oIx (dVar 3) (dVar 9)) (dC (.int 1))) (dCons (dOp oIx (dOp oIx (dVar 3) (dOp oAdd (dVar 9) (dC (.int 1)))) (dC (.int 1))) (dNil)))) (dCB oMax (dCons (dOp oIx (dOp oIx (dVar 3) (dVar 5)) (dC (.int 1))) (dCons (dOp oIx (dOp oIx (dVar 3) (dOp oAdd (dVar 5) (dC (.int 1)))) (dC (.int 1))) (dNil)))))) (b__law_pattern_T4 sp__law_test sp__law_pull) (dNext)
def b__law_pattern_R2 (sp__law_test : DSp) (sp__law_pull : DSp) : DS :=
  dSeq (dAsg (dOp oIx (dVar 3) (dVar 5)) (dgT [dgN 10, dgN 11])) (dSeq (dAsg (dOp oIx (dVar 3) (dOp oAdd (dVar 5) (dC (.int 1)))) (dgT [dgN 12, dgN 13])) (dAsg (dOp oAdd (dOp oAdd (dSl (dVar 3) (dNo) (dPart (dVar 5))) (dLst (dCons (dTup (dCons (dTup (dCons (dC (.str ("then" : Str))) (dCons (dVar 10) (dCons (dVar 12) (dNil))))) (dCons (dOp oAdd (dCB oMax (dCons (dVar 11) (dCons (dVar 13) (dNil)))) (dC (.int 1))) (dNil)))) (dNil)))) (dSl (dVar 3) (dPart (dOp oAdd (dVar 5) (dC (.int 2)))) (dNo))) (dgN 3)))
def b__law_pattern_T5 (sp__law_test : DSp) (sp__law_pull : DSp) : DS :=
  dSeq (dAsg (dC (.int 0)) (dgN 5)) (dSeq (dFor (diR1 (dCons (dOp oSub (dCB oLen (dCons (dVar 3) (dNil))) (dC (.int 1))) (dNil))) (dgN 9) (b__law_pattern_L2 sp__law_test sp__law_pull)) (b__law_pattern_R2 sp__law_test sp__law_pull))
def b__law_pattern_L3 (sp__law_test : DSp) (sp__law_pull : DSp) : DS :=
  dIfS (dB (dOp oGt (dCB oLen (dCons (dVar 3) (dNil))) (dC (.int 1)))) (b__law_pattern_T5 sp__law_test sp__law_pull) (dNext)
def b__law_pattern_R3 (sp__law_test : DSp) (sp__law_pull : DSp) : DS :=
  dRet (dOp oIx (dOp oIx (dVar 3) (dC (.int 0))) (dC (.int 0)))
def b__law_pattern_R4 (sp__law_test : DSp) (sp__law_pull : DSp) : DS :=
  dSeq (dFor (diR1 (dCons (dCB oLen (dCons (dVar 3) (dNil))) (dNil))) (dgN 4) (b__law_pattern_L3 sp__law_test sp__law_pull)) (b__law_pattern_R3 sp__law_test sp__law_pull)
/-- _law_pattern: drum=0 many=1 most=2 row=3 turn=4 place=5 pattern=6 deep=7 kind=8 at=9 one=10 low=11 other=12 high=13 word=14 -/
def b__law_pattern (sp__law_test : DSp) (sp__law_pull : DSp) : DS :=
  dSeq (dAsg (dLc (diR1 (dCons (dVar 1) (dNil))) (dgN 4) (dYes) (dTup (dCons (dCall sp__law_test (dCons (dVar 0) (dNil))) (dCons (dC (.int 1)) (dNil)))) [4]) (dgN 3)) (dSeq (dFor (diR1 (dCons (dC (.int 200)) (dNil))) (dgN 4) (b__law_pattern_L1 sp__law_test sp__law_pull)) (b__law_pattern_R4 sp__law_test sp__law_pull))
abbrev N__law_pattern : List Str := ["drum", "many", "most", "row", "turn", "place", "pattern", "deep", "kind", "at", "one", "low", "other", "high", "word"]
def b__law_chain_T1 (sp__law_test : DSp) (sp__law_pull : DSp) : DS :=
  dSeq (dAsg (dOp oIx (dTup (dCons (dC (.str ("then" : Str))) (dCons (dC (.str ("or" : Str))) (dNil)))) (dCall sp__law_pull (dCons (dVar 0) (dCons (dC (.int 2)) (dNil))))) (dgN 7)) (dSeq (dAsg (dCall sp__law_test (dCons (dVar 0) (dNil))) (dgN 8)) (dSeq (dAsg (dOp oSub (dVar 5) (dC (.int 1))) (dgN 5)) (dAsg (dOp oIx (dTup (dCons (dTup (dCons (dVar 7) (dCons (dVar 3) (dCons (dVar 8) (dNil))))) (dCons (dTup (dCons (dVar 7) (dCons (dVar 8) (dCons (dVar 3) (dNil))))) (dNil)))) (dCall sp__law_pull (dCons (dVar 0) (dCons (dC (.int 2)) (dNil))))) (dgN 3))))
def b__law_chain_F1 (sp__law_test : DSp) (sp__law_pull : DSp) : DS :=
  dAsg (dTup (dCons (dC (.str ("again" : Str))) (dCons (dVar 3) (dNil)))) (dgN 3)
def b__law_chain_R1 (sp__law_test : DSp) (sp__law_pull : DSp) : DS :=
  dAsg (dOp oSub (dVar 4) (dC (.int 1))) (dgN 4)
def b__law_chain_L1 (sp__law_test : DSp) (sp__law_pull : DSp) : DS :=
  dSeq (dIfS (dAnd (dB (dOp oGt (dVar 5) (dC (.int 0)))) (dB (dOp oGt (dCall sp__law_pull (dCons (dVar 0) (dCons (dC (.int 3)) (dNil)))) (dC (.int 0))))) (b__law_chain_T1 sp__law_test sp__law_pull) (b__law_chain_F1 sp__law_test sp__law_pull)) (b__law_chain_R1 sp__law_test sp__law_pull)
def b__law_chain_R2 (sp__law_test : DSp) (sp__law_pull : DSp) : DS :=
  dRet (dVar 3)
/-- _law_chain: drum=0 many=1 deep=2 pattern=3 left=4 tests=5 turn=6 word=7 other=8 -/
def b__law_chain (sp__law_test : DSp) (sp__law_pull : DSp) : DS :=
  dSeq (dAsg (dCall sp__law_test (dCons (dVar 0) (dNil))) (dgN 3)) (dSeq (dAsg (dOp oSub (dVar 2) (dC (.int 1))) (dgN 4)) (dSeq (dAsg (dOp oSub (dVar 1) (dC (.int 1))) (dgN 5)) (dSeq (dFor (diR1 (dCons (dOp oSub (dVar 2) (dC (.int 1))) (dNil))) (dgN 6) (b__law_chain_L1 sp__law_test sp__law_pull)) (b__law_chain_R2 sp__law_test sp__law_pull))))
abbrev N__law_chain : List Str := ["drum", "many", "deep", "pattern", "left", "tests", "turn", "word", "other"]
def b__law_nodes_L1 : DS :=
  dSeq (dDrop (dLM oAppend (dVar 5) (dCons (dCB oLen (dCons (dVar 1) (dNil))) (dNil)))) (dDrop (dLM oAppend (dVar 1) (dCons (dVar 6) (dNil))))
def b__law_nodes_T1 : DS :=
  dFor (diSeq (dSl (dVar 4) (dPart (dC (.int 1))) (dNo))) (dgN 6) (b__law_nodes_L1)
def b__law_nodes_R1 : DS :=
  dDrop (dLM oAppend (dVar 2) (dCons (dVar 5) (dNil)))
def b__law_nodes_R2 : DS :=
  dSeq (dAsg (dOp oIx (dVar 1) (dVar 3)) (dgN 4)) (dSeq (dAsg (dLst (dNil)) (dgN 5)) (dSeq (dIfS (dB (dOp oNe (dOp oIx (dVar 4) (dC (.int 0))) (dC (.str ("test" : Str))))) (b__law_nodes_T1) (dNext)) (b__law_nodes_R1)))
def b__law_nodes_L2 : DS :=
  dSeq (dIfS (dB (dOp oGe (dVar 3) (dCB oLen (dCons (dVar 1) (dNil))))) (dBreak) (dNext)) (b__law_nodes_R2)
def b__law_nodes_R3 : DS :=
  dRet (dTup (dCons (dVar 1) (dCons (dVar 2) (dNil))))
/-- _law_nodes: pattern=0 nodes=1 parts=2 turn=3 node=4 here=5 part=6 -/
def b__law_nodes : DS :=
  dSeq (dAsg (dLst (dCons (dVar 0) (dNil))) (dgN 1)) (dSeq (dAsg (dLst (dNil)) (dgN 2)) (dSeq (dFor (diR1 (dCons (dC (.int 2000)) (dNil))) (dgN 3) (b__law_nodes_L2)) (b__law_nodes_R3)))
abbrev N__law_nodes : List Str := ["pattern", "nodes", "parts", "turn", "node", "here", "part"]
def b__law_due_T1 (sp__law_nodes : DSp) : DS :=
  dAsg (dCB oMax (dCons (dOp oIx (dOp oIx (dVar 13) (dC (.int 4))) (dC (.int 1))) (dCons (dOp oIx (dOp oIx (dVar 14) (dC (.int 4))) (dC (.int 1))) (dNil)))) (dgN 15)
def b__law_due_T2 (sp__law_nodes : DSp) : DS :=
  dSeq (dAsg (dOp oAdd (dOp oIx (dOp oIx (dVar 13) (dC (.int 4))) (dC (.int 1))) (dOp oIx (dOp oIx (dVar 14) (dC (.int 4))) (dC (.int 1)))) (dgN 15)) (dIfS (dB (dOp oEq (dOp oIx (dVar 6) (dC (.int 0))) (dC (.str ("or" : Str))))) (b__law_due_T1 sp__law_nodes) (dNext))
def b__law_due_T3 (sp__law_nodes : DSp) : DS :=
  dSeq (dAsg (dCB oMin (dCons (dOp oIx (dOp oIx (dVar 13) (dC (.int 4))) (dC (.int 0))) (dCons (dOp oIx (dOp oIx (dVar 14) (dC (.int 4))) (dC (.int 0))) (dNil)))) (dgN 16)) (dAsg (dOrV (dOp oIx (dVar 13) (dC (.int 0))) (dOp oIx (dVar 14) (dC (.int 0)))) (dgN 8))
def b__law_due_R1 (sp__law_nodes : DSp) : DS :=
  dSetL (dVar 3) (dVar 5) (dTup (dCons (dVar 8) (dCons (dOp oAdd (dOp oIx (dVar 13) (dC (.int 1))) (dOp oIx (dVar 14) (dC (.int 1)))) (dCons (dOp oAdd (dOp oIx (dVar 13) (dC (.int 2))) (dOp oIx (dVar 14) (dC (.int 2)))) (dCons (dOp oAdd (dCB oMax (dCons (dOp oIx (dVar 13) (dC (.int 3))) (dCons (dOp oIx (dVar 14) (dC (.int 3))) (dNil)))) (dC (.int 1))) (dCons (dTup (dCons (dVar 16) (dCons (dVar 15) (dNil)))) (dNil)))))))
def b__law_due_R2 (sp__law_nodes : DSp) : DS :=
  dSeq (dAsg (dOp oAdd (dOp oIx (dOp oIx (dVar 13) (dC (.int 4))) (dC (.int 0))) (dOp oIx (dOp oIx (dVar 14) (dC (.int 4))) (dC (.int 0)))) (dgN 16)) (dSeq (dAsg (dAndV (dOp oIx (dVar 13) (dC (.int 0))) (dOp oIx (dVar 14) (dC (.int 0)))) (dgN 8)) (dSeq (dIfS (dB (dOp oEq (dOp oIx (dVar 6) (dC (.int 0))) (dC (.str ("or" : Str))))) (b__law_due_T3 sp__law_nodes) (dNext)) (b__law_due_R1 sp__law_nodes)))
def b__law_due_T4 (sp__law_nodes : DSp) : DS :=
  dSeq (dAsg (dOp oIx (dVar 7) (dC (.int 0))) (dgT [dgN 8, dgN 9, dgN 10, dgN 11, dgN 12])) (dSetL (dVar 3) (dVar 5) (dTup (dCons (dC (.bl true)) (dCons (dVar 9) (dCons (dVar 10) (dCons (dOp oAdd (dVar 11) (dC (.int 1))) (dCons (dTup (dCons (dC (.int 0)) (dCons (dC .non) (dNil)))) (dNil))))))))
def b__law_due_F1 (sp__law_nodes : DSp) : DS :=
  dSeq (dAsg (dVar 7) (dgT [dgN 13, dgN 14])) (dSeq (dAsg (dC .non) (dgN 15)) (dSeq (dIfS (dAnd (dB (dOp oIsNot (dOp oIx (dOp oIx (dVar 13) (dC (.int 4))) (dC (.int 1))) (dC .non))) (dB (dOp oIsNot (dOp oIx (dOp oIx (dVar 14) (dC (.int 4))) (dC (.int 1))) (dC .non)))) (b__law_due_T2 sp__law_nodes) (dNext)) (b__law_due_R2 sp__law_nodes)))
def b__law_due_T5 (sp__law_nodes : DSp) : DS :=
  dSetL (dVar 3) (dVar 5) (dTup (dCons (dC (.bl false)) (dCons (dCB oTuple (dCons (dLc (diSeq (dOp oIx (dVar 6) (dC (.int 1)))) (dgN 18) (dYes) (dOp oIx (dVar 18) (dC (.int 1))) [18]) (dNil))) (dCons (dC (.int 1)) (dCons (dC (.int 1)) (dCons (dTup (dCons (dC (.int 1)) (dCons (dC (.int 1)) (dNil)))) (dNil)))))))
def b__law_due_L1 (sp__law_nodes : DSp) : DS :=
  dSeq (dAsg (dOp oSub (dOp oSub (dCB oLen (dCons (dVar 1) (dNil))) (dC (.int 1))) (dVar 4)) (dgN 5)) (dSeq (dAsg (dOp oIx (dVar 1) (dVar 5)) (dgN 6)) (dSeq (dAsg (dLc (diSeq (dOp oIx (dVar 2) (dVar 5))) (dgN 17) (dYes) (dOp oIx (dVar 3) (dVar 17)) [17]) (dgN 7)) (dIfS (dB (dOp oEq (dOp oIx (dVar 6) (dC (.int 0))) (dC (.str ("test" : Str))))) (b__law_due_T5 sp__law_nodes) (dIfS (dB (dOp oEq (dOp oIx (dVar 6) (dC (.int 0))) (dC (.str ("again" : Str))))) (b__law_due_T4 sp__law_nodes) (b__law_due_F1 sp__law_nodes)))))
def b__law_due_R3 (sp__law_nodes : DSp) : DS :=
  dRet (dOp oIx (dVar 3) (dC (.int 0)))
/-- _law_due: pattern=0 nodes=1 parts=2 told=3 step=4 place=5 node=6 below=7 empty=8 names=9 size=10 deep=11 rows=12 one=13 other=14 most=15 least=16 part=17 test=18 -/
def b__law_due (sp__law_nodes : DSp) : DS :=
  dSeq (dAsg (dCall sp__law_nodes (dCons (dVar 0) (dNil))) (dgT [dgN 1, dgN 2])) (dSeq (dAsg (dOp oMul (dLst (dCons (dC .non) (dNil))) (dCB oLen (dCons (dVar 1) (dNil)))) (dgN 3)) (dSeq (dFor (diR1 (dCons (dCB oLen (dCons (dVar 1) (dNil))) (dNil))) (dgN 4) (b__law_due_L1 sp__law_nodes)) (b__law_due_R3 sp__law_nodes)))
abbrev N__law_due : List Str := ["pattern", "nodes", "parts", "told", "step", "place", "node", "below", "empty", "names", "size", "deep", "rows", "one", "other", "most", "least", "part", "test"]
def b__law_holds_T1 (sp__law_due : DSp) (sp__law_pull : DSp) (sp_matches_empty : DSp) (sp_names_of : DSp) (sp_pattern_size : DSp) (sp_pattern_depth : DSp) (sp_sequence_of : DSp) (sp__law_whole : DSp) : DS :=
  dAsg (dLst (dCons (dCall sp_matches_empty (dCons (dVar 1) (dNil))) (dCons (dCall sp_names_of (dCons (dVar 1) (dNil))) (dCons (dCall sp_pattern_size (dCons (dVar 1) (dNil))) (dCons (dCall sp_pattern_depth (dCons (dVar 1) (dNil))) (dCons (dCall sp_sequence_of (dCons (dVar 1) (dNil))) (dNil))))))) (dgN 9)
def b__law_holds_F1 (sp__law_due : DSp) (sp__law_pull : DSp) (sp_matches_empty : DSp) (sp_names_of : DSp) (sp_pattern_size : DSp) (sp_pattern_depth : DSp) (sp_sequence_of : DSp) (sp__law_whole : DSp) : DS :=
  dSeq (dAsg (dLst (dCons (dCallK sp_matches_empty kD_0 dNil (dCons (dVar 1) (dNil))) (dCons (dCallK sp_names_of kD_1 dNil (dCons (dVar 1) (dNil))) (dCons (dCallK sp_pattern_size kD_2 dNil (dCons (dVar 1) (dNil))) (dNil))))) (dgN 9)) (dAsg (dOp oAdd (dVar 9) (dLst (dCons (dCallK sp_pattern_depth kD_3 dNil (dCons (dVar 1) (dNil))) (dCons (dCallK sp_sequence_of kD_4 dNil (dCons (dVar 1) (dNil))) (dNil))))) (dgN 9))
def b__law_holds_L1 (sp__law_due : DSp) (sp__law_pull : DSp) (sp_matches_empty : DSp) (sp_names_of : DSp) (sp_pattern_size : DSp) (sp_pattern_depth : DSp) (sp_sequence_of : DSp) (sp__law_whole : DSp) : DS :=
  dIfS (dOr (dNot (dTru (dIsi "str" (dVar 8)))) (dB (dOp oNe (dVar 7) (dVar 8)))) (dRet (dC (.bl false))) (dNext)
def b__law_holds_R1 (sp__law_due : DSp) (sp__law_pull : DSp) (sp_matches_empty : DSp) (sp_names_of : DSp) (sp_pattern_size : DSp) (sp_pattern_depth : DSp) (sp_sequence_of : DSp) (sp__law_whole : DSp) : DS :=
  dRet (dAndV (dCall sp__law_whole (dCons (dOp oIx (dOp oIx (dVar 9) (dC (.int 4))) (dC (.int 1))) (dNil))) (dOp oEq (dOp oIx (dOp oIx (dVar 9) (dC (.int 4))) (dC (.int 1))) (dOp oIx (dVar 6) (dC (.int 1)))))
def b__law_holds_R2 (sp__law_due : DSp) (sp__law_pull : DSp) (sp_matches_empty : DSp) (sp_names_of : DSp) (sp_pattern_size : DSp) (sp_pattern_depth : DSp) (sp_sequence_of : DSp) (sp__law_whole : DSp) : DS :=
  dSeq (dIfS (dB (dOp oIs (dOp oIx (dVar 6) (dC (.int 1))) (dC .non))) (dRet (dOp oIs (dOp oIx (dOp oIx (dVar 9) (dC (.int 4))) (dC (.int 1))) (dC .non))) (dNext)) (b__law_holds_R1 sp__law_due sp__law_pull sp_matches_empty sp_names_of sp_pattern_size sp_pattern_depth sp_sequence_of sp__law_whole)
def b__law_holds_R3 (sp__law_due : DSp) (sp__law_pull : DSp) (sp_matches_empty : DSp) (sp_names_of : DSp) (sp_pattern_size : DSp) (sp_pattern_depth : DSp) (sp_sequence_of : DSp) (sp__law_whole : DSp) : DS :=
  dSeq (dIfS (dOr (dNot (dTru (dIsi "tuple" (dOp oIx (dVar 9) (dC (.int 4)))))) (dOr (dB (dOp oNe (dCB oLen (dCons (dOp oIx (dVar 9) (dC (.int 4))) (dNil))) (dC (.int 2)))) (dOr (dNot (dTru (dCall sp__law_whole (dCons (dOp oIx (dOp oIx (dVar 9) (dC (.int 4))) (dC (.int 0))) (dNil))))) (dB (dOp oNe (dOp oIx (dOp oIx (dVar 9) (dC (.int 4))) (dC (.int 0))) (dOp oIx (dVar 6) (dC (.int 0)))))))) (dRet (dC (.bl false))) (dNext)) (b__law_holds_R2 sp__law_due sp__law_pull sp_matches_empty sp_names_of sp_pattern_size sp_pattern_depth sp_sequence_of sp__law_whole)
def b__law_holds_R4 (sp__law_due : DSp) (sp__law_pull : DSp) (sp_matches_empty : DSp) (sp_names_of : DSp) (sp_pattern_size : DSp) (sp_pattern_depth : DSp) (sp_sequence_of : DSp) (sp__law_whole : DSp) : DS :=
  dSeq (dIfS (dOr (dNot (dTru (dCall sp__law_whole (dCons (dOp oIx (dVar 9) (dC (.int 2))) (dNil))))) (dOr (dB (dOp oNe (dOp oIx (dVar 9) (dC (.int 2))) (dVar 4))) (dOr (dNot (dTru (dCall sp__law_whole (dCons (dOp oIx (dVar 9) (dC (.int 3))) (dNil))))) (dB (dOp oNe (dOp oIx (dVar 9) (dC (.int 3))) (dVar 5)))))) (dRet (dC (.bl false))) (dNext)) (b__law_holds_R3 sp__law_due sp__law_pull sp_matches_empty sp_names_of sp_pattern_size sp_pattern_depth sp_sequence_of sp__law_whole)
def b__law_holds_R5 (sp__law_due : DSp) (sp__law_pull : DSp) (sp_matches_empty : DSp) (sp_names_of : DSp) (sp_pattern_size : DSp) (sp_pattern_depth : DSp) (sp_sequence_of : DSp) (sp__law_whole : DSp) : DS :=
  dSeq (dFor (diZip (dCons (dVar 3) (dCons (dOp oIx (dVar 9) (dC (.int 1))) (dNil)))) (dgT [dgN 7, dgN 8]) (b__law_holds_L1 sp__law_due sp__law_pull sp_matches_empty sp_names_of sp_pattern_size sp_pattern_depth sp_sequence_of sp__law_whole)) (b__law_holds_R4 sp__law_due sp__law_pull sp_matches_empty sp_names_of sp_pattern_size sp_pattern_depth sp_sequence_of sp__law_whole)
def b__law_holds_R6 (sp__law_due : DSp) (sp__law_pull : DSp) (sp_matches_empty : DSp) (sp_names_of : DSp) (sp_pattern_size : DSp) (sp_pattern_depth : DSp) (sp_sequence_of : DSp) (sp__law_whole : DSp) : DS :=
  dSeq (dIfS (dOr (dNot (dTru (dIsi "bool" (dOp oIx (dVar 9) (dC (.int 0)))))) (dOr (dB (dOp oNe (dOp oIx (dVar 9) (dC (.int 0))) (dVar 2))) (dOr (dNot (dTru (dIsi "tuple" (dOp oIx (dVar 9) (dC (.int 1)))))) (dB (dOp oNe (dCB oLen (dCons (dOp oIx (dVar 9) (dC (.int 1))) (dNil))) (dCB oLen (dCons (dVar 3) (dNil)))))))) (dRet (dC (.bl false))) (dNext)) (b__law_holds_R5 sp__law_due sp__law_pull sp_matches_empty sp_names_of sp_pattern_size sp_pattern_depth sp_sequence_of sp__law_whole)
/-- _law_holds: drum=0 pattern=1 empty=2 names=3 size=4 deep=5 rows=6 one=7 other=8 told=9 -/
def b__law_holds (sp__law_due : DSp) (sp__law_pull : DSp) (sp_matches_empty : DSp) (sp_names_of : DSp) (sp_pattern_size : DSp) (sp_pattern_depth : DSp) (sp_sequence_of : DSp) (sp__law_whole : DSp) : DS :=
  dSeq (dAsg (dCall sp__law_due (dCons (dVar 1) (dNil))) (dgT [dgN 2, dgN 3, dgN 4, dgN 5, dgN 6])) (dSeq (dIfS (dB (dOp oEq (dCall sp__law_pull (dCons (dVar 0) (dCons (dC (.int 2)) (dNil)))) (dC (.int 0)))) (b__law_holds_T1 sp__law_due sp__law_pull sp_matches_empty sp_names_of sp_pattern_size sp_pattern_depth sp_sequence_of sp__law_whole) (b__law_holds_F1 sp__law_due sp__law_pull sp_matches_empty sp_names_of sp_pattern_size sp_pattern_depth sp_sequence_of sp__law_whole)) (b__law_holds_R6 sp__law_due sp__law_pull sp_matches_empty sp_names_of sp_pattern_size sp_pattern_depth sp_sequence_of sp__law_whole))
abbrev N__law_holds : List Str := ["drum", "pattern", "empty", "names", "size", "deep", "rows", "one", "other", "told"]
def b_law_L1 (sp__law_drum : DSp) (sp__law_pattern : DSp) (sp__law_pull : DSp) (sp__law_chain : DSp) (sp__law_test : DSp) (sp__law_due : DSp) (sp__law_holds : DSp) (sp__law_nodes : DSp) : DS :=
  dDrop (dLM oAppend (dVar 2) (dCons (dCall sp__law_pattern (dCons (dVar 1) (dCons (dOp oAdd (dC (.int 1)) (dCall sp__law_pull (dCons (dVar 1) (dCons (dC (.int 8)) (dNil))))) (dCons (dC (.int 36)) (dNil))))) (dNil)))
def b_law_T1 (sp__law_drum : DSp) (sp__law_pattern : DSp) (sp__law_pull : DSp) (sp__law_chain : DSp) (sp__law_test : DSp) (sp__law_due : DSp) (sp__law_holds : DSp) (sp__law_nodes : DSp) : DS :=
  dDrop (dLM oAppend (dVar 2) (dCons (dCall sp__law_pattern (dCons (dVar 1) (dCons (dC (.int 24)) (dCons (dC (.int 40)) (dNil))))) (dNil)))
def b_law_F1 (sp__law_drum : DSp) (sp__law_pattern : DSp) (sp__law_pull : DSp) (sp__law_chain : DSp) (sp__law_test : DSp) (sp__law_due : DSp) (sp__law_holds : DSp) (sp__law_nodes : DSp) : DS :=
  dDrop (dLM oAppend (dVar 2) (dCons (dCall sp__law_chain (dCons (dVar 1) (dCons (dOp oAdd (dC (.int 1)) (dCall sp__law_pull (dCons (dVar 1) (dCons (dC (.int 9)) (dNil))))) (dCons (dOp oAdd (dC (.int 1)) (dCall sp__law_pull (dCons (dVar 1) (dCons (dC (.int 14)) (dNil))))) (dNil))))) (dNil)))
def b_law_T2 (sp__law_drum : DSp) (sp__law_pattern : DSp) (sp__law_pull : DSp) (sp__law_chain : DSp) (sp__law_test : DSp) (sp__law_due : DSp) (sp__law_holds : DSp) (sp__law_nodes : DSp) : DS :=
  dDrop (dLM oAppend (dVar 2) (dCons (dCall sp__law_chain (dCons (dVar 1) (dCons (dC (.int 24)) (dCons (dC (.int 40)) (dNil))))) (dNil)))
def b_law_L2 (sp__law_drum : DSp) (sp__law_pattern : DSp) (sp__law_pull : DSp) (sp__law_chain : DSp) (sp__law_test : DSp) (sp__law_due : DSp) (sp__law_holds : DSp) (sp__law_nodes : DSp) : DS :=
  dSeq (dSetL (dVar 6) (dCB oInt (dCons (dOp oIx (dCall sp__law_due (dCons (dVar 7) (dNil))) (dC (.int 0))) (dNil))) (dOp oAdd (dOp oIx (dVar 6) (dCB oInt (dCons (dOp oIx (dCall sp__law_due (dCons (dVar 7) (dNil))) (dC (.int 0))) (dNil)))) (dC (.int 1)))) (dIfS (dNot (dTru (dCall sp__law_holds (dCons (dVar 1) (dCons (dVar 7) (dNil)))))) (dRet (dC (.bl false))) (dNext))
def b_law_R1 (sp__law_drum : DSp) (sp__law_pattern : DSp) (sp__law_pull : DSp) (sp__law_chain : DSp) (sp__law_test : DSp) (sp__law_due : DSp) (sp__law_holds : DSp) (sp__law_nodes : DSp) : DS :=
  dSeq (dAsg (dCall sp__law_nodes (dCons (dOp oIx (dVar 2) (dC (.int 3))) (dNil))) (dgT [dgN 8, dgN 9])) (dSeq (dAsg (dOp oIx (dVar 8) (dCall sp__law_pull (dCons (dVar 1) (dCons (dCB oLen (dCons (dVar 8) (dNil))) (dNil))))) (dgN 10)) (dRet (dAndV (dOp oGt (dOp oIx (dVar 6) (dC (.int 0))) (dC (.int 0))) (dAndV (dOp oGt (dOp oIx (dVar 6) (dC (.int 1))) (dC (.int 0))) (dCall sp__law_holds (dCons (dVar 1) (dCons (dVar 10) (dNil))))))))
def b_law_R2 (sp__law_drum : DSp) (sp__law_pattern : DSp) (sp__law_pull : DSp) (sp__law_chain : DSp) (sp__law_test : DSp) (sp__law_due : DSp) (sp__law_holds : DSp) (sp__law_nodes : DSp) : DS :=
  dSeq (dAsg (dCall sp__law_test (dCons (dVar 1) (dNil))) (dgN 5)) (dSeq (dAsg (dOp oAdd (dVar 2) (dSl (dLst (dCons (dVar 5) (dCons (dTup (dCons (dC (.str ("again" : Str))) (dCons (dVar 5) (dNil)))) (dCons (dTup (dCons (dC (.str ("then" : Str))) (dCons (dTup (dCons (dC (.str ("again" : Str))) (dCons (dVar 5) (dNil)))) (dCons (dOp oIx (dVar 2) (dC (.int 0))) (dNil))))) (dCons (dTup (dCons (dC (.str ("or" : Str))) (dCons (dOp oIx (dVar 2) (dC (.int 1))) (dCons (dTup (dCons (dC (.str ("again" : Str))) (dCons (dOp oIx (dVar 2) (dC (.int 0))) (dNil)))) (dNil))))) (dNil)))))) (dNo) (dPart (dOp oAdd (dC (.int 2)) (dOp oMul (dC (.int 2)) (dCB oInt (dCons (dOp oLt (dVar 4) (dC (.int 3))) (dNil)))))))) (dgN 2)) (dSeq (dAsg (dLst (dCons (dC (.int 0)) (dCons (dC (.int 0)) (dNil)))) (dgN 6)) (dSeq (dFor (diSeq (dVar 2)) (dgN 7) (b_law_L2 sp__law_drum sp__law_pattern sp__law_pull sp__law_chain sp__law_test sp__law_due sp__law_holds sp__law_nodes)) (b_law_R1 sp__law_drum sp__law_pattern sp__law_pull sp__law_chain sp__law_test sp__law_due sp__law_holds sp__law_nodes))))
def b_law_R3 (sp__law_drum : DSp) (sp__law_pattern : DSp) (sp__law_pull : DSp) (sp__law_chain : DSp) (sp__law_test : DSp) (sp__law_due : DSp) (sp__law_holds : DSp) (sp__law_nodes : DSp) : DS :=
  dSeq (dAsg (dCall sp__law_pull (dCons (dVar 1) (dCons (dC (.int 7)) (dNil)))) (dgN 4)) (dSeq (dIfS (dB (dOp oEq (dVar 4) (dC (.int 3)))) (b_law_T2 sp__law_drum sp__law_pattern sp__law_pull sp__law_chain sp__law_test sp__law_due sp__law_holds sp__law_nodes) (dIfS (dB (dOp oEq (dVar 4) (dC (.int 4)))) (b_law_T1 sp__law_drum sp__law_pattern sp__law_pull sp__law_chain sp__law_test sp__law_due sp__law_holds sp__law_nodes) (b_law_F1 sp__law_drum sp__law_pattern sp__law_pull sp__law_chain sp__law_test sp__law_due sp__law_holds sp__law_nodes))) (b_law_R2 sp__law_drum sp__law_pattern sp__law_pull sp__law_chain sp__law_test sp__law_due sp__law_holds sp__law_nodes))
/-- law: script=0 drum=1 rows=2 turn=3 great=4 one=5 asked=6 pattern=7 nodes=8 parts=9 part=10 -/
def b_law (sp__law_drum : DSp) (sp__law_pattern : DSp) (sp__law_pull : DSp) (sp__law_chain : DSp) (sp__law_test : DSp) (sp__law_due : DSp) (sp__law_holds : DSp) (sp__law_nodes : DSp) : DS :=
  dSeq (dAsg (dCall sp__law_drum (dCons (dVar 0) (dNil))) (dgN 1)) (dSeq (dAsg (dLst (dNil)) (dgN 2)) (dSeq (dFor (diR1 (dCons (dC (.int 3)) (dNil))) (dgN 3) (b_law_L1 sp__law_drum sp__law_pattern sp__law_pull sp__law_chain sp__law_test sp__law_due sp__law_holds sp__law_nodes)) (b_law_R3 sp__law_drum sp__law_pattern sp__law_pull sp__law_chain sp__law_test sp__law_due sp__law_holds sp__law_nodes)))
abbrev N_law : List Str := ["script", "drum", "rows", "turn", "great", "one", "asked", "pattern", "nodes", "parts", "part"]
end Lw
end
section
set_option maxHeartbeats 4000000
/-! k07, part A: patterns and the program's functions. -/
namespace Lw
open PySem L2 DL

inductive Pat where
  | test (ts : List (Bool × Str))
  | again (p : Pat)
  | bin (o : Bool) (p q : Pat)
def encT (t : Bool × Str) : D := .tup [.str (if t.1 then ("is" : Str) else ("not" : Str)), .str t.2]
def enc : Pat → D
  | .test ts => .tup [.str ("test" : Str), .tup (ts.map encT)]
  | .again p => .tup [.str ("again" : Str), enc p]
  | .bin o p q => .tup [.str (if o then ("or" : Str) else ("then" : Str)), enc p, enc q]
def Pat.depth : Pat → Nat
  | .test _ => 1
  | .again p => p.depth + 1
  | .bin _ p q => max p.depth q.depth + 1
def Pat.empty : Pat → Bool
  | .test _ => false
  | .again _ => true
  | .bin o p q => if o then p.empty || q.empty else p.empty && q.empty
def Pat.tests : Pat → List (List (Bool × Str))
  | .test ts => [ts]
  | .again p => p.tests
  | .bin _ p q => p.tests ++ q.tests
/-- how many patterns stand in it -/
def Pat.many : Pat → Nat
  | .test _ => 1
  | .again p => p.many + 1
  | .bin _ p q => p.many + q.many + 1
/-- the tests of each test pattern are few -/
def Pat.few : Pat → Prop
  | .test ts => ts.length ≤ 6
  | .again p => p.few
  | .bin _ p q => p.few ∧ q.few
def Pat.least : Pat → Int
  | .test _ => 1
  | .again _ => 0
  | .bin o p q => if o then min p.least q.least else p.least + q.least
def Pat.most : Pat → Option Int
  | .test _ => some 1
  | .again p => if p.most = some 0 then some 0 else none
  | .bin o p q => match p.most, q.most with
    | some a, some b => some (if o then max a b else a + b)
    | _, _ => none
theorem depth_pos (p : Pat) : 1 ≤ p.depth := by cases p <;> simp only [Pat.depth] <;> omega
theorem tests_many (p : Pat) : p.tests.length ≤ p.many := by
  induction p with
  | test ts => simp [Pat.tests, Pat.many]
  | again p ih => simp only [Pat.tests, Pat.many]; omega
  | bin o p q ih1 ih2 => simp only [Pat.tests, Pat.many, List.length_append]; omega
theorem s_ta : (("test" : Str) = ("again" : Str)) = False := eq_false (by decide)
theorem s_at : (("again" : Str) = ("test" : Str)) = False := eq_false (by decide)
theorem s_ot : (("or" : Str) = ("test" : Str)) = False := eq_false (by decide)
theorem s_oa : (("or" : Str) = ("again" : Str)) = False := eq_false (by decide)
theorem s_tt : (("then" : Str) = ("test" : Str)) = False := eq_false (by decide)
theorem s_tha : (("then" : Str) = ("again" : Str)) = False := eq_false (by decide)
theorem s_tho : (("then" : Str) = ("or" : Str)) = False := eq_false (by decide)
theorem s_to : (("test" : Str) = ("or" : Str)) = False := eq_false (by decide)
theorem s_ao : (("again" : Str) = ("or" : Str)) = False := eq_false (by decide)

/-! ### matches_empty -/
def sp_matches_empty (n : Nat) : DSp := fun ds M Q _ => ∃ p : Pat, ds = [enc p] ∧ p.depth ≤ n ∧ Q (.bl p.empty) M
theorem no_matches_empty : ∀ ds M Q E, ¬ sp_matches_empty 0 ds M Q E := fun _ _ _ _ ⟨p, _, h, _⟩ => by have := depth_pos p; omega
theorem ln_matches_empty (n : Nat) : ∀ ds M Q E, sp_matches_empty n ds M Q E → ds.length = 1 := fun _ _ _ _ ⟨p, h, _⟩ => by rw [h]; rfl
theorem hs_matches_empty (n : Nat) : ∀ ds M Q E, sp_matches_empty (n + 1) ds M Q E → b_matches_empty (sp_matches_empty n) { nx := fun _ M' => Wk Q .non M', rt := Wk Q } (startG N_matches_empty ds) M := by
  rintro ds M Q E ⟨p, rfl, hd, q⟩
  show b_matches_empty _ _ [some (enc p)] M
  replace q := Wk.of q
  cases p with
  | test ts => simp only [b_matches_empty, enc, dSeq, dAsg, dgN, dRet, dRetN, dIfS, dVar, gv_0, gv_s, sv_0, sv_s, dC, dOp, dB, asB_b, dAnd, dOr, dNot, dAndV, dOrV, dNotV, dIf, dTru, DTru, dCons, dNil, dTup, dLst, dCall, dCB, dFor, dDrop, dPart, dNo, dNext, dBreak, dCont, dPar, dgT, dgAll, ix_t0, ix_t1, ix_t2, ix_t3, ix_t4, eq_ss, eq_ii, eq_si, eq_is, eq_bb, ne_ss, ne_ii, ne_si, ne_is, ne_bb, add_ii, add_ss, add_tt, mul_ii, mul_ti, oI_ii, oI0_ii, oB0_ii, is_non, isnot_non, isNon_non, isNon_int, isNon_str, isNon_bl, isNon_tup, len_tup, len_fl, len_str, tuple_tup, int_i, int_b, abs_i, max_ii, min_ii, seq_ref, diR1, diR2, items_tup, items_fl, same, Option.some.injEq, exists_eq_left', exists_eq_left, true_and, and_true, if_true, if_false, ite_true, ite_false, Bool.false_eq_true, reduceIte, List.length_cons, List.length_nil, Nat.reduceAdd, Nat.zero_add, decide_true, decide_false, Bool.not_true, Bool.not_false, forall_const, forall_eq, sl_ref, dNeg, wipeG, wipeG.nv, dYes, cut_1, dLoop, wantI_some, wantL_some, wantK_some, wantB_some, mupd_app, ix_ref, ix_tupA, len_ref, tuple_ref, list_ref, list_tup, list_fl, mul_ref, add_ref, setL_ref, lm_ref, append_at, extend_ref, dget_ref, sum_ref, max_ref, min_ref, at_0, at_1, at_2, at_3, at_4, isi_eq, tyD_int, tyD_bl, tyD_str, tyD_tup, tyD_non, kit_ii, kit_ib, kit_is, kit_it, kit_bi, kit_bb, kit_bs, kit_bt, kit_si, kit_sb, kit_ss, kit_st, kit_ti, kit_tb, kit_ts, kit_tt, kit_ni, kit_nb, kit_ns, kit_nt, kit_li, kit_lb, kit_ls, kit_lt, eq_self]; exact q
  | again p => simp only [b_matches_empty, enc, dSeq, dAsg, dgN, dRet, dRetN, dIfS, dVar, gv_0, gv_s, sv_0, sv_s, dC, dOp, dB, asB_b, dAnd, dOr, dNot, dAndV, dOrV, dNotV, dIf, dTru, DTru, dCons, dNil, dTup, dLst, dCall, dCB, dFor, dDrop, dPart, dNo, dNext, dBreak, dCont, dPar, dgT, dgAll, ix_t0, ix_t1, ix_t2, ix_t3, ix_t4, eq_ss, eq_ii, eq_si, eq_is, eq_bb, ne_ss, ne_ii, ne_si, ne_is, ne_bb, add_ii, add_ss, add_tt, mul_ii, mul_ti, oI_ii, oI0_ii, oB0_ii, is_non, isnot_non, isNon_non, isNon_int, isNon_str, isNon_bl, isNon_tup, len_tup, len_fl, len_str, tuple_tup, int_i, int_b, abs_i, max_ii, min_ii, seq_ref, diR1, diR2, items_tup, items_fl, same, Option.some.injEq, exists_eq_left', exists_eq_left, true_and, and_true, if_true, if_false, ite_true, ite_false, Bool.false_eq_true, reduceIte, List.length_cons, List.length_nil, Nat.reduceAdd, Nat.zero_add, decide_true, decide_false, Bool.not_true, Bool.not_false, forall_const, forall_eq, sl_ref, dNeg, wipeG, wipeG.nv, dYes, cut_1, dLoop, wantI_some, wantL_some, wantK_some, wantB_some, mupd_app, ix_ref, ix_tupA, len_ref, tuple_ref, list_ref, list_tup, list_fl, mul_ref, add_ref, setL_ref, lm_ref, append_at, extend_ref, dget_ref, sum_ref, max_ref, min_ref, at_0, at_1, at_2, at_3, at_4, isi_eq, tyD_int, tyD_bl, tyD_str, tyD_tup, tyD_non, kit_ii, kit_ib, kit_is, kit_it, kit_bi, kit_bb, kit_bs, kit_bt, kit_si, kit_sb, kit_ss, kit_st, kit_ti, kit_tb, kit_ts, kit_tt, kit_ni, kit_nb, kit_ns, kit_nt, kit_li, kit_lb, kit_ls, kit_lt, eq_self, s_at]; exact q
  | bin o p r =>
    simp only [Pat.depth] at hd
    cases o with
    | true =>
      simp only [b_matches_empty, enc, dSeq, dAsg, dgN, dRet, dRetN, dIfS, dVar, gv_0, gv_s, sv_0, sv_s, dC, dOp, dB, asB_b, dAnd, dOr, dNot, dAndV, dOrV, dNotV, dIf, dTru, DTru, dCons, dNil, dTup, dLst, dCall, dCB, dFor, dDrop, dPart, dNo, dNext, dBreak, dCont, dPar, dgT, dgAll, ix_t0, ix_t1, ix_t2, ix_t3, ix_t4, eq_ss, eq_ii, eq_si, eq_is, eq_bb, ne_ss, ne_ii, ne_si, ne_is, ne_bb, add_ii, add_ss, add_tt, mul_ii, mul_ti, oI_ii, oI0_ii, oB0_ii, is_non, isnot_non, isNon_non, isNon_int, isNon_str, isNon_bl, isNon_tup, len_tup, len_fl, len_str, tuple_tup, int_i, int_b, abs_i, max_ii, min_ii, seq_ref, diR1, diR2, items_tup, items_fl, same, Option.some.injEq, exists_eq_left', exists_eq_left, true_and, and_true, if_true, if_false, ite_true, ite_false, Bool.false_eq_true, reduceIte, List.length_cons, List.length_nil, Nat.reduceAdd, Nat.zero_add, decide_true, decide_false, Bool.not_true, Bool.not_false, forall_const, forall_eq, sl_ref, dNeg, wipeG, wipeG.nv, dYes, cut_1, dLoop, wantI_some, wantL_some, wantK_some, wantB_some, mupd_app, ix_ref, ix_tupA, len_ref, tuple_ref, list_ref, list_tup, list_fl, mul_ref, add_ref, setL_ref, lm_ref, append_at, extend_ref, dget_ref, sum_ref, max_ref, min_ref, at_0, at_1, at_2, at_3, at_4, isi_eq, tyD_int, tyD_bl, tyD_str, tyD_tup, tyD_non, kit_ii, kit_ib, kit_is, kit_it, kit_bi, kit_bb, kit_bs, kit_bt, kit_si, kit_sb, kit_ss, kit_st, kit_ti, kit_tb, kit_ts, kit_tt, kit_ni, kit_nb, kit_ns, kit_nt, kit_li, kit_lb, kit_ls, kit_lt, eq_self, s_ot, s_oa]
      refine ⟨p, rfl, by omega, ?_⟩
      simp only [dSeq, dAsg, dgN, dRet, dRetN, dIfS, dVar, gv_0, gv_s, sv_0, sv_s, dC, dOp, dB, asB_b, dAnd, dOr, dNot, dAndV, dOrV, dNotV, dIf, dTru, DTru, dCons, dNil, dTup, dLst, dCall, dCB, dFor, dDrop, dPart, dNo, dNext, dBreak, dCont, dPar, dgT, dgAll, ix_t0, ix_t1, ix_t2, ix_t3, ix_t4, eq_ss, eq_ii, eq_si, eq_is, eq_bb, ne_ss, ne_ii, ne_si, ne_is, ne_bb, add_ii, add_ss, add_tt, mul_ii, mul_ti, oI_ii, oI0_ii, oB0_ii, is_non, isnot_non, isNon_non, isNon_int, isNon_str, isNon_bl, isNon_tup, len_tup, len_fl, len_str, tuple_tup, int_i, int_b, abs_i, max_ii, min_ii, seq_ref, diR1, diR2, items_tup, items_fl, same, Option.some.injEq, exists_eq_left', exists_eq_left, true_and, and_true, if_true, if_false, ite_true, ite_false, Bool.false_eq_true, reduceIte, List.length_cons, List.length_nil, Nat.reduceAdd, Nat.zero_add, decide_true, decide_false, Bool.not_true, Bool.not_false, forall_const, forall_eq, sl_ref, dNeg, wipeG, wipeG.nv, dYes, cut_1, dLoop, wantI_some, wantL_some, wantK_some, wantB_some, mupd_app, ix_ref, ix_tupA, len_ref, tuple_ref, list_ref, list_tup, list_fl, mul_ref, add_ref, setL_ref, lm_ref, append_at, extend_ref, dget_ref, sum_ref, max_ref, min_ref, at_0, at_1, at_2, at_3, at_4, isi_eq, tyD_int, tyD_bl, tyD_str, tyD_tup, tyD_non, kit_ii, kit_ib, kit_is, kit_it, kit_bi, kit_bb, kit_bs, kit_bt, kit_si, kit_sb, kit_ss, kit_st, kit_ti, kit_tb, kit_ts, kit_tt, kit_ni, kit_nb, kit_ns, kit_nt, kit_li, kit_lb, kit_ls, kit_lt, eq_self]
      cases e : p.empty with
      | true => simp only [Pat.empty, e, dSeq, dAsg, dgN, dRet, dRetN, dIfS, dVar, gv_0, gv_s, sv_0, sv_s, dC, dOp, dB, asB_b, dAnd, dOr, dNot, dAndV, dOrV, dNotV, dIf, dTru, DTru, dCons, dNil, dTup, dLst, dCall, dCB, dFor, dDrop, dPart, dNo, dNext, dBreak, dCont, dPar, dgT, dgAll, ix_t0, ix_t1, ix_t2, ix_t3, ix_t4, eq_ss, eq_ii, eq_si, eq_is, eq_bb, ne_ss, ne_ii, ne_si, ne_is, ne_bb, add_ii, add_ss, add_tt, mul_ii, mul_ti, oI_ii, oI0_ii, oB0_ii, is_non, isnot_non, isNon_non, isNon_int, isNon_str, isNon_bl, isNon_tup, len_tup, len_fl, len_str, tuple_tup, int_i, int_b, abs_i, max_ii, min_ii, seq_ref, diR1, diR2, items_tup, items_fl, same, Option.some.injEq, exists_eq_left', exists_eq_left, true_and, and_true, if_true, if_false, ite_true, ite_false, Bool.false_eq_true, reduceIte, List.length_cons, List.length_nil, Nat.reduceAdd, Nat.zero_add, decide_true, decide_false, Bool.not_true, Bool.not_false, forall_const, forall_eq, sl_ref, dNeg, wipeG, wipeG.nv, dYes, cut_1, dLoop, wantI_some, wantL_some, wantK_some, wantB_some, mupd_app, ix_ref, ix_tupA, len_ref, tuple_ref, list_ref, list_tup, list_fl, mul_ref, add_ref, setL_ref, lm_ref, append_at, extend_ref, dget_ref, sum_ref, max_ref, min_ref, at_0, at_1, at_2, at_3, at_4, isi_eq, tyD_int, tyD_bl, tyD_str, tyD_tup, tyD_non, kit_ii, kit_ib, kit_is, kit_it, kit_bi, kit_bb, kit_bs, kit_bt, kit_si, kit_sb, kit_ss, kit_st, kit_ti, kit_tb, kit_ts, kit_tt, kit_ni, kit_nb, kit_ns, kit_nt, kit_li, kit_lb, kit_ls, kit_lt, eq_self, Bool.true_or] at q ⊢; exact q
      | false =>
        simp only [Pat.empty, e, dSeq, dAsg, dgN, dRet, dRetN, dIfS, dVar, gv_0, gv_s, sv_0, sv_s, dC, dOp, dB, asB_b, dAnd, dOr, dNot, dAndV, dOrV, dNotV, dIf, dTru, DTru, dCons, dNil, dTup, dLst, dCall, dCB, dFor, dDrop, dPart, dNo, dNext, dBreak, dCont, dPar, dgT, dgAll, ix_t0, ix_t1, ix_t2, ix_t3, ix_t4, eq_ss, eq_ii, eq_si, eq_is, eq_bb, ne_ss, ne_ii, ne_si, ne_is, ne_bb, add_ii, add_ss, add_tt, mul_ii, mul_ti, oI_ii, oI0_ii, oB0_ii, is_non, isnot_non, isNon_non, isNon_int, isNon_str, isNon_bl, isNon_tup, len_tup, len_fl, len_str, tuple_tup, int_i, int_b, abs_i, max_ii, min_ii, seq_ref, diR1, diR2, items_tup, items_fl, same, Option.some.injEq, exists_eq_left', exists_eq_left, true_and, and_true, if_true, if_false, ite_true, ite_false, Bool.false_eq_true, reduceIte, List.length_cons, List.length_nil, Nat.reduceAdd, Nat.zero_add, decide_true, decide_false, Bool.not_true, Bool.not_false, forall_const, forall_eq, sl_ref, dNeg, wipeG, wipeG.nv, dYes, cut_1, dLoop, wantI_some, wantL_some, wantK_some, wantB_some, mupd_app, ix_ref, ix_tupA, len_ref, tuple_ref, list_ref, list_tup, list_fl, mul_ref, add_ref, setL_ref, lm_ref, append_at, extend_ref, dget_ref, sum_ref, max_ref, min_ref, at_0, at_1, at_2, at_3, at_4, isi_eq, tyD_int, tyD_bl, tyD_str, tyD_tup, tyD_non, kit_ii, kit_ib, kit_is, kit_it, kit_bi, kit_bb, kit_bs, kit_bt, kit_si, kit_sb, kit_ss, kit_st, kit_ti, kit_tb, kit_ts, kit_tt, kit_ni, kit_nb, kit_ns, kit_nt, kit_li, kit_lb, kit_ls, kit_lt, eq_self, Bool.false_or] at q ⊢
        exact ⟨r, rfl, by omega, q⟩
    | false =>
      simp only [b_matches_empty, enc, dSeq, dAsg, dgN, dRet, dRetN, dIfS, dVar, gv_0, gv_s, sv_0, sv_s, dC, dOp, dB, asB_b, dAnd, dOr, dNot, dAndV, dOrV, dNotV, dIf, dTru, DTru, dCons, dNil, dTup, dLst, dCall, dCB, dFor, dDrop, dPart, dNo, dNext, dBreak, dCont, dPar, dgT, dgAll, ix_t0, ix_t1, ix_t2, ix_t3, ix_t4, eq_ss, eq_ii, eq_si, eq_is, eq_bb, ne_ss, ne_ii, ne_si, ne_is, ne_bb, add_ii, add_ss, add_tt, mul_ii, mul_ti, oI_ii, oI0_ii, oB0_ii, is_non, isnot_non, isNon_non, isNon_int, isNon_str, isNon_bl, isNon_tup, len_tup, len_fl, len_str, tuple_tup, int_i, int_b, abs_i, max_ii, min_ii, seq_ref, diR1, diR2, items_tup, items_fl, same, Option.some.injEq, exists_eq_left', exists_eq_left, true_and, and_true, if_true, if_false, ite_true, ite_false, Bool.false_eq_true, reduceIte, List.length_cons, List.length_nil, Nat.reduceAdd, Nat.zero_add, decide_true, decide_false, Bool.not_true, Bool.not_false, forall_const, forall_eq, sl_ref, dNeg, wipeG, wipeG.nv, dYes, cut_1, dLoop, wantI_some, wantL_some, wantK_some, wantB_some, mupd_app, ix_ref, ix_tupA, len_ref, tuple_ref, list_ref, list_tup, list_fl, mul_ref, add_ref, setL_ref, lm_ref, append_at, extend_ref, dget_ref, sum_ref, max_ref, min_ref, at_0, at_1, at_2, at_3, at_4, isi_eq, tyD_int, tyD_bl, tyD_str, tyD_tup, tyD_non, kit_ii, kit_ib, kit_is, kit_it, kit_bi, kit_bb, kit_bs, kit_bt, kit_si, kit_sb, kit_ss, kit_st, kit_ti, kit_tb, kit_ts, kit_tt, kit_ni, kit_nb, kit_ns, kit_nt, kit_li, kit_lb, kit_ls, kit_lt, eq_self, s_tt, s_tha, s_tho]
      refine ⟨p, rfl, by omega, ?_⟩
      simp only [dSeq, dAsg, dgN, dRet, dRetN, dIfS, dVar, gv_0, gv_s, sv_0, sv_s, dC, dOp, dB, asB_b, dAnd, dOr, dNot, dAndV, dOrV, dNotV, dIf, dTru, DTru, dCons, dNil, dTup, dLst, dCall, dCB, dFor, dDrop, dPart, dNo, dNext, dBreak, dCont, dPar, dgT, dgAll, ix_t0, ix_t1, ix_t2, ix_t3, ix_t4, eq_ss, eq_ii, eq_si, eq_is, eq_bb, ne_ss, ne_ii, ne_si, ne_is, ne_bb, add_ii, add_ss, add_tt, mul_ii, mul_ti, oI_ii, oI0_ii, oB0_ii, is_non, isnot_non, isNon_non, isNon_int, isNon_str, isNon_bl, isNon_tup, len_tup, len_fl, len_str, tuple_tup, int_i, int_b, abs_i, max_ii, min_ii, seq_ref, diR1, diR2, items_tup, items_fl, same, Option.some.injEq, exists_eq_left', exists_eq_left, true_and, and_true, if_true, if_false, ite_true, ite_false, Bool.false_eq_true, reduceIte, List.length_cons, List.length_nil, Nat.reduceAdd, Nat.zero_add, decide_true, decide_false, Bool.not_true, Bool.not_false, forall_const, forall_eq, sl_ref, dNeg, wipeG, wipeG.nv, dYes, cut_1, dLoop, wantI_some, wantL_some, wantK_some, wantB_some, mupd_app, ix_ref, ix_tupA, len_ref, tuple_ref, list_ref, list_tup, list_fl, mul_ref, add_ref, setL_ref, lm_ref, append_at, extend_ref, dget_ref, sum_ref, max_ref, min_ref, at_0, at_1, at_2, at_3, at_4, isi_eq, tyD_int, tyD_bl, tyD_str, tyD_tup, tyD_non, kit_ii, kit_ib, kit_is, kit_it, kit_bi, kit_bb, kit_bs, kit_bt, kit_si, kit_sb, kit_ss, kit_st, kit_ti, kit_tb, kit_ts, kit_tt, kit_ni, kit_nb, kit_ns, kit_nt, kit_li, kit_lb, kit_ls, kit_lt, eq_self]
      cases e : p.empty with
      | false => simp only [Pat.empty, e, dSeq, dAsg, dgN, dRet, dRetN, dIfS, dVar, gv_0, gv_s, sv_0, sv_s, dC, dOp, dB, asB_b, dAnd, dOr, dNot, dAndV, dOrV, dNotV, dIf, dTru, DTru, dCons, dNil, dTup, dLst, dCall, dCB, dFor, dDrop, dPart, dNo, dNext, dBreak, dCont, dPar, dgT, dgAll, ix_t0, ix_t1, ix_t2, ix_t3, ix_t4, eq_ss, eq_ii, eq_si, eq_is, eq_bb, ne_ss, ne_ii, ne_si, ne_is, ne_bb, add_ii, add_ss, add_tt, mul_ii, mul_ti, oI_ii, oI0_ii, oB0_ii, is_non, isnot_non, isNon_non, isNon_int, isNon_str, isNon_bl, isNon_tup, len_tup, len_fl, len_str, tuple_tup, int_i, int_b, abs_i, max_ii, min_ii, seq_ref, diR1, diR2, items_tup, items_fl, same, Option.some.injEq, exists_eq_left', exists_eq_left, true_and, and_true, if_true, if_false, ite_true, ite_false, Bool.false_eq_true, reduceIte, List.length_cons, List.length_nil, Nat.reduceAdd, Nat.zero_add, decide_true, decide_false, Bool.not_true, Bool.not_false, forall_const, forall_eq, sl_ref, dNeg, wipeG, wipeG.nv, dYes, cut_1, dLoop, wantI_some, wantL_some, wantK_some, wantB_some, mupd_app, ix_ref, ix_tupA, len_ref, tuple_ref, list_ref, list_tup, list_fl, mul_ref, add_ref, setL_ref, lm_ref, append_at, extend_ref, dget_ref, sum_ref, max_ref, min_ref, at_0, at_1, at_2, at_3, at_4, isi_eq, tyD_int, tyD_bl, tyD_str, tyD_tup, tyD_non, kit_ii, kit_ib, kit_is, kit_it, kit_bi, kit_bb, kit_bs, kit_bt, kit_si, kit_sb, kit_ss, kit_st, kit_ti, kit_tb, kit_ts, kit_tt, kit_ni, kit_nb, kit_ns, kit_nt, kit_li, kit_lb, kit_ls, kit_lt, eq_self, Bool.false_and] at q ⊢; exact q
      | true =>
        simp only [Pat.empty, e, dSeq, dAsg, dgN, dRet, dRetN, dIfS, dVar, gv_0, gv_s, sv_0, sv_s, dC, dOp, dB, asB_b, dAnd, dOr, dNot, dAndV, dOrV, dNotV, dIf, dTru, DTru, dCons, dNil, dTup, dLst, dCall, dCB, dFor, dDrop, dPart, dNo, dNext, dBreak, dCont, dPar, dgT, dgAll, ix_t0, ix_t1, ix_t2, ix_t3, ix_t4, eq_ss, eq_ii, eq_si, eq_is, eq_bb, ne_ss, ne_ii, ne_si, ne_is, ne_bb, add_ii, add_ss, add_tt, mul_ii, mul_ti, oI_ii, oI0_ii, oB0_ii, is_non, isnot_non, isNon_non, isNon_int, isNon_str, isNon_bl, isNon_tup, len_tup, len_fl, len_str, tuple_tup, int_i, int_b, abs_i, max_ii, min_ii, seq_ref, diR1, diR2, items_tup, items_fl, same, Option.some.injEq, exists_eq_left', exists_eq_left, true_and, and_true, if_true, if_false, ite_true, ite_false, Bool.false_eq_true, reduceIte, List.length_cons, List.length_nil, Nat.reduceAdd, Nat.zero_add, decide_true, decide_false, Bool.not_true, Bool.not_false, forall_const, forall_eq, sl_ref, dNeg, wipeG, wipeG.nv, dYes, cut_1, dLoop, wantI_some, wantL_some, wantK_some, wantB_some, mupd_app, ix_ref, ix_tupA, len_ref, tuple_ref, list_ref, list_tup, list_fl, mul_ref, add_ref, setL_ref, lm_ref, append_at, extend_ref, dget_ref, sum_ref, max_ref, min_ref, at_0, at_1, at_2, at_3, at_4, isi_eq, tyD_int, tyD_bl, tyD_str, tyD_tup, tyD_non, kit_ii, kit_ib, kit_is, kit_it, kit_bi, kit_bb, kit_bs, kit_bt, kit_si, kit_sb, kit_ss, kit_st, kit_ti, kit_tb, kit_ts, kit_tt, kit_ni, kit_nb, kit_ns, kit_nt, kit_li, kit_lb, kit_ls, kit_lt, eq_self, Bool.true_and] at q ⊢
        exact ⟨r, rfl, by omega, q⟩

/-! ### tests_of -/
def encTs (ts : List (Bool × Str)) : D := .tup (ts.map encT)
def sp_tests_of (n : Nat) : DSp := fun ds M Q _ => ∃ p : Pat, ds = [enc p] ∧ p.depth ≤ n ∧ p.many ≤ 100000 ∧ ∀ l, M l = none → Q (.ref l) (mupd M l (.lst (p.tests.map encTs)))
theorem no_tests_of : ∀ ds M Q E, ¬ sp_tests_of 0 ds M Q E := fun _ _ _ _ ⟨p, _, h, _⟩ => by have := depth_pos p; omega
theorem ln_tests_of (n : Nat) : ∀ ds M Q E, sp_tests_of n ds M Q E → ds.length = 1 := fun _ _ _ _ ⟨p, h, _⟩ => by rw [h]; rfl
theorem hs_tests_of (n : Nat) : ∀ ds M Q E, sp_tests_of (n + 1) ds M Q E → b_tests_of (sp_tests_of n) { nx := fun _ M' => Wk Q .non M', rt := Wk Q } (startG N_tests_of ds) M := by
  rintro ds M Q E ⟨p, rfl, hd, hm, q⟩
  show b_tests_of _ _ [some (enc p), none, none] M
  cases p with
  | test ts =>
    simp only [b_tests_of, enc, dSeq, dAsg, dgN, dRet, dRetN, dIfS, dVar, gv_0, gv_s, sv_0, sv_s, dC, dOp, dB, asB_b, dAnd, dOr, dNot, dAndV, dOrV, dNotV, dIf, dTru, DTru, dCons, dNil, dTup, dLst, dCall, dCB, dFor, dDrop, dPart, dNo, dNext, dBreak, dCont, dPar, dgT, dgAll, ix_t0, ix_t1, ix_t2, ix_t3, ix_t4, eq_ss, eq_ii, eq_si, eq_is, eq_bb, ne_ss, ne_ii, ne_si, ne_is, ne_bb, add_ii, add_ss, add_tt, mul_ii, mul_ti, oI_ii, oI0_ii, oB0_ii, is_non, isnot_non, isNon_non, isNon_int, isNon_str, isNon_bl, isNon_tup, len_tup, len_fl, len_str, tuple_tup, int_i, int_b, abs_i, max_ii, min_ii, seq_ref, diR1, diR2, items_tup, items_fl, same, Option.some.injEq, exists_eq_left', exists_eq_left, true_and, and_true, if_true, if_false, ite_true, ite_false, Bool.false_eq_true, reduceIte, List.length_cons, List.length_nil, Nat.reduceAdd, Nat.zero_add, decide_true, decide_false, Bool.not_true, Bool.not_false, forall_const, forall_eq, sl_ref, dNeg, wipeG, wipeG.nv, dYes, cut_1, dLoop, wantI_some, wantL_some, wantK_some, wantB_some, mupd_app, ix_ref, ix_tupA, len_ref, tuple_ref, list_ref, list_tup, list_fl, mul_ref, add_ref, setL_ref, lm_ref, append_at, extend_ref, dget_ref, sum_ref, max_ref, min_ref, at_0, at_1, at_2, at_3, at_4, isi_eq, tyD_int, tyD_bl, tyD_str, tyD_tup, tyD_non, kit_ii, kit_ib, kit_is, kit_it, kit_bi, kit_bb, kit_bs, kit_bt, kit_si, kit_sb, kit_ss, kit_st, kit_ti, kit_tb, kit_ts, kit_tt, kit_ni, kit_nb, kit_ns, kit_nt, kit_li, kit_lb, kit_ls, kit_lt, eq_self]
    exact ⟨sz (by decide), fun l hl => Wk.of (q l hl)⟩
  | again p =>
    simp only [Pat.depth, Pat.many] at hd hm
    have tm := tests_many p
    simp only [b_tests_of, enc, dSeq, dAsg, dgN, dRet, dRetN, dIfS, dVar, gv_0, gv_s, sv_0, sv_s, dC, dOp, dB, asB_b, dAnd, dOr, dNot, dAndV, dOrV, dNotV, dIf, dTru, DTru, dCons, dNil, dTup, dLst, dCall, dCB, dFor, dDrop, dPart, dNo, dNext, dBreak, dCont, dPar, dgT, dgAll, ix_t0, ix_t1, ix_t2, ix_t3, ix_t4, eq_ss, eq_ii, eq_si, eq_is, eq_bb, ne_ss, ne_ii, ne_si, ne_is, ne_bb, add_ii, add_ss, add_tt, mul_ii, mul_ti, oI_ii, oI0_ii, oB0_ii, is_non, isnot_non, isNon_non, isNon_int, isNon_str, isNon_bl, isNon_tup, len_tup, len_fl, len_str, tuple_tup, int_i, int_b, abs_i, max_ii, min_ii, seq_ref, diR1, diR2, items_tup, items_fl, same, Option.some.injEq, exists_eq_left', exists_eq_left, true_and, and_true, if_true, if_false, ite_true, ite_false, Bool.false_eq_true, reduceIte, List.length_cons, List.length_nil, Nat.reduceAdd, Nat.zero_add, decide_true, decide_false, Bool.not_true, Bool.not_false, forall_const, forall_eq, sl_ref, dNeg, wipeG, wipeG.nv, dYes, cut_1, dLoop, wantI_some, wantL_some, wantK_some, wantB_some, mupd_app, ix_ref, ix_tupA, len_ref, tuple_ref, list_ref, list_tup, list_fl, mul_ref, add_ref, setL_ref, lm_ref, append_at, extend_ref, dget_ref, sum_ref, max_ref, min_ref, at_0, at_1, at_2, at_3, at_4, isi_eq, tyD_int, tyD_bl, tyD_str, tyD_tup, tyD_non, kit_ii, kit_ib, kit_is, kit_it, kit_bi, kit_bb, kit_bs, kit_bt, kit_si, kit_sb, kit_ss, kit_st, kit_ti, kit_tb, kit_ts, kit_tt, kit_ni, kit_nb, kit_ns, kit_nt, kit_li, kit_lb, kit_ls, kit_lt, eq_self, s_at]
    refine ⟨sz (by decide), fun l hl => ⟨p, rfl, by omega, by omega, fun l2 hl2 => ?_⟩⟩
    obtain ⟨n2, hl2⟩ := none_of_upd hl2
    simp only [dSeq, dAsg, dgN, dRet, dRetN, dIfS, dVar, gv_0, gv_s, sv_0, sv_s, dC, dOp, dB, asB_b, dAnd, dOr, dNot, dAndV, dOrV, dNotV, dIf, dTru, DTru, dCons, dNil, dTup, dLst, dCall, dCB, dFor, dDrop, dPart, dNo, dNext, dBreak, dCont, dPar, dgT, dgAll, ix_t0, ix_t1, ix_t2, ix_t3, ix_t4, eq_ss, eq_ii, eq_si, eq_is, eq_bb, ne_ss, ne_ii, ne_si, ne_is, ne_bb, add_ii, add_ss, add_tt, mul_ii, mul_ti, oI_ii, oI0_ii, oB0_ii, is_non, isnot_non, isNon_non, isNon_int, isNon_str, isNon_bl, isNon_tup, len_tup, len_fl, len_str, tuple_tup, int_i, int_b, abs_i, max_ii, min_ii, seq_ref, diR1, diR2, items_tup, items_fl, same, Option.some.injEq, exists_eq_left', exists_eq_left, true_and, and_true, if_true, if_false, ite_true, ite_false, Bool.false_eq_true, reduceIte, List.length_cons, List.length_nil, Nat.reduceAdd, Nat.zero_add, decide_true, decide_false, Bool.not_true, Bool.not_false, forall_const, forall_eq, sl_ref, dNeg, wipeG, wipeG.nv, dYes, cut_1, dLoop, wantI_some, wantL_some, wantK_some, wantB_some, mupd_app, ix_ref, ix_tupA, len_ref, tuple_ref, list_ref, list_tup, list_fl, mul_ref, add_ref, setL_ref, lm_ref, append_at, extend_ref, dget_ref, sum_ref, max_ref, min_ref, at_0, at_1, at_2, at_3, at_4, isi_eq, tyD_int, tyD_bl, tyD_str, tyD_tup, tyD_non, kit_ii, kit_ib, kit_is, kit_it, kit_bi, kit_bb, kit_bs, kit_bt, kit_si, kit_sb, kit_ss, kit_st, kit_ti, kit_tb, kit_ts, kit_tt, kit_ni, kit_nb, kit_ns, kit_nt, kit_li, kit_lb, kit_ls, kit_lt, eq_self, n2.symm, List.nil_append]
    refine ⟨sz (by simp; omega), ?_⟩
    exact Wk.sub (.upd (.drop hl2 (.drop hl .refl))) (q l hl)
  | bin o p r =>
    simp only [Pat.depth, Pat.many] at hd hm
    have tm := tests_many p
    have tr := tests_many r
    have main : ∀ w : Str, ((w = ("test" : Str)) = False) → b_tests_of (sp_tests_of n) { nx := fun _ M' => Wk Q .non M', rt := Wk Q } [some (.tup [.str w, enc p, enc r]), none, none] M := fun w hw => by
      simp only [b_tests_of, dSeq, dAsg, dgN, dRet, dRetN, dIfS, dVar, gv_0, gv_s, sv_0, sv_s, dC, dOp, dB, asB_b, dAnd, dOr, dNot, dAndV, dOrV, dNotV, dIf, dTru, DTru, dCons, dNil, dTup, dLst, dCall, dCB, dFor, dDrop, dPart, dNo, dNext, dBreak, dCont, dPar, dgT, dgAll, ix_t0, ix_t1, ix_t2, ix_t3, ix_t4, eq_ss, eq_ii, eq_si, eq_is, eq_bb, ne_ss, ne_ii, ne_si, ne_is, ne_bb, add_ii, add_ss, add_tt, mul_ii, mul_ti, oI_ii, oI0_ii, oB0_ii, is_non, isnot_non, isNon_non, isNon_int, isNon_str, isNon_bl, isNon_tup, len_tup, len_fl, len_str, tuple_tup, int_i, int_b, abs_i, max_ii, min_ii, seq_ref, diR1, diR2, items_tup, items_fl, same, Option.some.injEq, exists_eq_left', exists_eq_left, true_and, and_true, if_true, if_false, ite_true, ite_false, Bool.false_eq_true, reduceIte, List.length_cons, List.length_nil, Nat.reduceAdd, Nat.zero_add, decide_true, decide_false, Bool.not_true, Bool.not_false, forall_const, forall_eq, sl_ref, dNeg, wipeG, wipeG.nv, dYes, cut_1, dLoop, wantI_some, wantL_some, wantK_some, wantB_some, mupd_app, ix_ref, ix_tupA, len_ref, tuple_ref, list_ref, list_tup, list_fl, mul_ref, add_ref, setL_ref, lm_ref, append_at, extend_ref, dget_ref, sum_ref, max_ref, min_ref, at_0, at_1, at_2, at_3, at_4, isi_eq, tyD_int, tyD_bl, tyD_str, tyD_tup, tyD_non, kit_ii, kit_ib, kit_is, kit_it, kit_bi, kit_bb, kit_bs, kit_bt, kit_si, kit_sb, kit_ss, kit_st, kit_ti, kit_tb, kit_ts, kit_tt, kit_ni, kit_nb, kit_ns, kit_nt, kit_li, kit_lb, kit_ls, kit_lt, eq_self, hw]
      refine ⟨sz (by decide), fun l hl => ⟨p, rfl, by omega, by omega, fun l2 hl2 => ?_⟩⟩
      obtain ⟨n2, hl2⟩ := none_of_upd hl2
      simp only [dSeq, dAsg, dgN, dRet, dRetN, dIfS, dVar, gv_0, gv_s, sv_0, sv_s, dC, dOp, dB, asB_b, dAnd, dOr, dNot, dAndV, dOrV, dNotV, dIf, dTru, DTru, dCons, dNil, dTup, dLst, dCall, dCB, dFor, dDrop, dPart, dNo, dNext, dBreak, dCont, dPar, dgT, dgAll, ix_t0, ix_t1, ix_t2, ix_t3, ix_t4, eq_ss, eq_ii, eq_si, eq_is, eq_bb, ne_ss, ne_ii, ne_si, ne_is, ne_bb, add_ii, add_ss, add_tt, mul_ii, mul_ti, oI_ii, oI0_ii, oB0_ii, is_non, isnot_non, isNon_non, isNon_int, isNon_str, isNon_bl, isNon_tup, len_tup, len_fl, len_str, tuple_tup, int_i, int_b, abs_i, max_ii, min_ii, seq_ref, diR1, diR2, items_tup, items_fl, same, Option.some.injEq, exists_eq_left', exists_eq_left, true_and, and_true, if_true, if_false, ite_true, ite_false, Bool.false_eq_true, reduceIte, List.length_cons, List.length_nil, Nat.reduceAdd, Nat.zero_add, decide_true, decide_false, Bool.not_true, Bool.not_false, forall_const, forall_eq, sl_ref, dNeg, wipeG, wipeG.nv, dYes, cut_1, dLoop, wantI_some, wantL_some, wantK_some, wantB_some, mupd_app, ix_ref, ix_tupA, len_ref, tuple_ref, list_ref, list_tup, list_fl, mul_ref, add_ref, setL_ref, lm_ref, append_at, extend_ref, dget_ref, sum_ref, max_ref, min_ref, at_0, at_1, at_2, at_3, at_4, isi_eq, tyD_int, tyD_bl, tyD_str, tyD_tup, tyD_non, kit_ii, kit_ib, kit_is, kit_it, kit_bi, kit_bb, kit_bs, kit_bt, kit_si, kit_sb, kit_ss, kit_st, kit_ti, kit_tb, kit_ts, kit_tt, kit_ni, kit_nb, kit_ns, kit_nt, kit_li, kit_lb, kit_ls, kit_lt, eq_self, n2.symm, List.nil_append]
      refine ⟨sz (by simp; omega), ⟨r, rfl, by omega, by omega, fun l3 hl3 => ?_⟩⟩
      obtain ⟨n3, hl3⟩ := none_of_upd hl3
      obtain ⟨n32, hl3⟩ := none_of_upd hl3
      obtain ⟨_, hl3⟩ := none_of_upd hl3
      simp only [dSeq, dAsg, dgN, dRet, dRetN, dIfS, dVar, gv_0, gv_s, sv_0, sv_s, dC, dOp, dB, asB_b, dAnd, dOr, dNot, dAndV, dOrV, dNotV, dIf, dTru, DTru, dCons, dNil, dTup, dLst, dCall, dCB, dFor, dDrop, dPart, dNo, dNext, dBreak, dCont, dPar, dgT, dgAll, ix_t0, ix_t1, ix_t2, ix_t3, ix_t4, eq_ss, eq_ii, eq_si, eq_is, eq_bb, ne_ss, ne_ii, ne_si, ne_is, ne_bb, add_ii, add_ss, add_tt, mul_ii, mul_ti, oI_ii, oI0_ii, oB0_ii, is_non, isnot_non, isNon_non, isNon_int, isNon_str, isNon_bl, isNon_tup, len_tup, len_fl, len_str, tuple_tup, int_i, int_b, abs_i, max_ii, min_ii, seq_ref, diR1, diR2, items_tup, items_fl, same, Option.some.injEq, exists_eq_left', exists_eq_left, true_and, and_true, if_true, if_false, ite_true, ite_false, Bool.false_eq_true, reduceIte, List.length_cons, List.length_nil, Nat.reduceAdd, Nat.zero_add, decide_true, decide_false, Bool.not_true, Bool.not_false, forall_const, forall_eq, sl_ref, dNeg, wipeG, wipeG.nv, dYes, cut_1, dLoop, wantI_some, wantL_some, wantK_some, wantB_some, mupd_app, ix_ref, ix_tupA, len_ref, tuple_ref, list_ref, list_tup, list_fl, mul_ref, add_ref, setL_ref, lm_ref, append_at, extend_ref, dget_ref, sum_ref, max_ref, min_ref, at_0, at_1, at_2, at_3, at_4, isi_eq, tyD_int, tyD_bl, tyD_str, tyD_tup, tyD_non, kit_ii, kit_ib, kit_is, kit_it, kit_bi, kit_bb, kit_bs, kit_bt, kit_si, kit_sb, kit_ss, kit_st, kit_ti, kit_tb, kit_ts, kit_tt, kit_ni, kit_nb, kit_ns, kit_nt, kit_li, kit_lb, kit_ls, kit_lt, eq_self, n3.symm]
      refine ⟨sz (by simp; omega), ?_⟩
      have e : (Pat.bin o p r).tests.map encTs = p.tests.map encTs ++ r.tests.map encTs := by simp [Pat.tests]
      rw [e] at q
      exact Wk.sub (.upd (.drop hl3 (.drop hl (.drop hl2 (.drop hl .refl))))) (q l hl)
    cases o with
    | true => exact main _ s_ot
    | false => exact main _ s_tt

/-! ### names_of, pattern_size -/
def Pat.names (p : Pat) : List Str := p.tests.flatMap fun ts => ts.map (·.2)
theorem names_len (p : Pat) (h : p.few) : p.names.length ≤ 6 * p.many := by
  unfold Pat.names
  induction p with
  | test ts => simp [Pat.tests, Pat.many, Pat.few] at h ⊢; omega
  | again p ih => have := ih h; simp only [Pat.tests, Pat.many]; omega
  | bin o p q ih1 ih2 => have := ih1 h.1; have := ih2 h.2; simp only [Pat.tests, Pat.many, List.flatMap_append, List.length_append]; omega
def sp_names_of : DSp := fun ds M Q _ => ∃ p : Pat, ds = [enc p] ∧ p.depth ≤ 45 ∧ p.many ≤ 100000 ∧ p.few ∧ Q (.tup (p.names.map .str)) M
theorem ln_names_of : ∀ ds M Q E, sp_names_of ds M Q E → ds.length = 1 := fun _ _ _ _ ⟨p, h, _⟩ => by rw [h]; rfl
theorem hs_names_of : ∀ ds M Q E, sp_names_of ds M Q E → b_names_of (sp_tests_of 45) { nx := fun _ M' => Wk Q .non M', rt := Wk Q } (startG N_names_of ds) M := by
  rintro ds M Q E ⟨p, rfl, hd, hm, hf, q⟩
  show b_names_of _ _ [some (enc p), none, none, none] M
  have nl := names_len p hf
  simp only [b_names_of, dSeq, dAsg, dgN, dRet, dRetN, dIfS, dVar, gv_0, gv_s, sv_0, sv_s, dC, dOp, dB, asB_b, dAnd, dOr, dNot, dAndV, dOrV, dNotV, dIf, dTru, DTru, dCons, dNil, dTup, dLst, dCall, dCB, dFor, dDrop, dPart, dNo, dNext, dBreak, dCont, dPar, dgT, dgAll, ix_t0, ix_t1, ix_t2, ix_t3, ix_t4, eq_ss, eq_ii, eq_si, eq_is, eq_bb, ne_ss, ne_ii, ne_si, ne_is, ne_bb, add_ii, add_ss, add_tt, mul_ii, mul_ti, oI_ii, oI0_ii, oB0_ii, is_non, isnot_non, isNon_non, isNon_int, isNon_str, isNon_bl, isNon_tup, len_tup, len_fl, len_str, tuple_tup, int_i, int_b, abs_i, max_ii, min_ii, seq_ref, diR1, diR2, items_tup, items_fl, same, Option.some.injEq, exists_eq_left', exists_eq_left, true_and, and_true, if_true, if_false, ite_true, ite_false, Bool.false_eq_true, reduceIte, List.length_cons, List.length_nil, Nat.reduceAdd, Nat.zero_add, decide_true, decide_false, Bool.not_true, Bool.not_false, forall_const, forall_eq, sl_ref, dNeg, wipeG, wipeG.nv, dYes, cut_1, dLoop, wantI_some, wantL_some, wantK_some, wantB_some, mupd_app, ix_ref, ix_tupA, len_ref, tuple_ref, list_ref, list_tup, list_fl, mul_ref, add_ref, setL_ref, lm_ref, append_at, extend_ref, dget_ref, sum_ref, max_ref, min_ref, at_0, at_1, at_2, at_3, at_4, isi_eq, tyD_int, tyD_bl, tyD_str, tyD_tup, tyD_non, kit_ii, kit_ib, kit_is, kit_it, kit_bi, kit_bb, kit_bs, kit_bt, kit_si, kit_sb, kit_ss, kit_st, kit_ti, kit_tb, kit_ts, kit_tt, kit_ni, kit_nb, kit_ns, kit_nt, kit_li, kit_lb, kit_ls, kit_lt, eq_self, dLc2]
  refine ⟨p, rfl, hd, hm, fun l hl => ?_⟩
  simp only [items_lst mupd_same, dSeq, dAsg, dgN, dRet, dRetN, dIfS, dVar, gv_0, gv_s, sv_0, sv_s, dC, dOp, dB, asB_b, dAnd, dOr, dNot, dAndV, dOrV, dNotV, dIf, dTru, DTru, dCons, dNil, dTup, dLst, dCall, dCB, dFor, dDrop, dPart, dNo, dNext, dBreak, dCont, dPar, dgT, dgAll, ix_t0, ix_t1, ix_t2, ix_t3, ix_t4, eq_ss, eq_ii, eq_si, eq_is, eq_bb, ne_ss, ne_ii, ne_si, ne_is, ne_bb, add_ii, add_ss, add_tt, mul_ii, mul_ti, oI_ii, oI0_ii, oB0_ii, is_non, isnot_non, isNon_non, isNon_int, isNon_str, isNon_bl, isNon_tup, len_tup, len_fl, len_str, tuple_tup, int_i, int_b, abs_i, max_ii, min_ii, seq_ref, diR1, diR2, items_tup, items_fl, same, Option.some.injEq, exists_eq_left', exists_eq_left, true_and, and_true, if_true, if_false, ite_true, ite_false, Bool.false_eq_true, reduceIte, List.length_cons, List.length_nil, Nat.reduceAdd, Nat.zero_add, decide_true, decide_false, Bool.not_true, Bool.not_false, forall_const, forall_eq, sl_ref, dNeg, wipeG, wipeG.nv, dYes, cut_1, dLoop, wantI_some, wantL_some, wantK_some, wantB_some, mupd_app, ix_ref, ix_tupA, len_ref, tuple_ref, list_ref, list_tup, list_fl, mul_ref, add_ref, setL_ref, lm_ref, append_at, extend_ref, dget_ref, sum_ref, max_ref, min_ref, at_0, at_1, at_2, at_3, at_4, isi_eq, tyD_int, tyD_bl, tyD_str, tyD_tup, tyD_non, kit_ii, kit_ib, kit_is, kit_it, kit_bi, kit_bb, kit_bs, kit_bt, kit_si, kit_sb, kit_ss, kit_st, kit_ti, kit_tb, kit_ts, kit_tt, kit_ni, kit_nb, kit_ns, kit_nt, kit_li, kit_lb, kit_ls, kit_lt, eq_self]
  have hn : (p.tests.map encTs).flatMap (fun d => match d with | .tup ds => ds.filterMap (fun t => match t with | .tup [_, x] => some x | _ => none) | _ => []) = p.names.map .str := by
    unfold Pat.names
    rw [List.flatMap_map, List.map_flatMap]
    congr 1
    funext ts
    simp only [encTs, Function.comp, List.filterMap_map]
    induction ts with
    | nil => rfl
    | cons t ts ih => simp [encT] at ih ⊢; exact ih
  refine dCL2_pure _ (by rw [hn]; refine sz ?_; simp; omega) mupd_same (fun d hd acc N Nn hl' hN => ?_) ?_
  · obtain ⟨ts, hts, rfl⟩ := List.mem_map.mp hd
    simp only [dSeq, dAsg, dgN, dRet, dRetN, dIfS, dVar, gv_0, gv_s, sv_0, sv_s, dC, dOp, dB, asB_b, dAnd, dOr, dNot, dAndV, dOrV, dNotV, dIf, dTru, DTru, dCons, dNil, dTup, dLst, dCall, dCB, dFor, dDrop, dPart, dNo, dNext, dBreak, dCont, dPar, dgT, dgAll, ix_t0, ix_t1, ix_t2, ix_t3, ix_t4, eq_ss, eq_ii, eq_si, eq_is, eq_bb, ne_ss, ne_ii, ne_si, ne_is, ne_bb, add_ii, add_ss, add_tt, mul_ii, mul_ti, oI_ii, oI0_ii, oB0_ii, is_non, isnot_non, isNon_non, isNon_int, isNon_str, isNon_bl, isNon_tup, len_tup, len_fl, len_str, tuple_tup, int_i, int_b, abs_i, max_ii, min_ii, seq_ref, diR1, diR2, items_tup, items_fl, same, Option.some.injEq, exists_eq_left', exists_eq_left, true_and, and_true, if_true, if_false, ite_true, ite_false, Bool.false_eq_true, reduceIte, List.length_cons, List.length_nil, Nat.reduceAdd, Nat.zero_add, decide_true, decide_false, Bool.not_true, Bool.not_false, forall_const, forall_eq, sl_ref, dNeg, wipeG, wipeG.nv, dYes, cut_1, dLoop, wantI_some, wantL_some, wantK_some, wantB_some, mupd_app, ix_ref, ix_tupA, len_ref, tuple_ref, list_ref, list_tup, list_fl, mul_ref, add_ref, setL_ref, lm_ref, append_at, extend_ref, dget_ref, sum_ref, max_ref, min_ref, at_0, at_1, at_2, at_3, at_4, isi_eq, tyD_int, tyD_bl, tyD_str, tyD_tup, tyD_non, kit_ii, kit_ib, kit_is, kit_it, kit_bi, kit_bb, kit_bs, kit_bt, kit_si, kit_sb, kit_ss, kit_st, kit_ti, kit_tb, kit_ts, kit_tt, kit_ni, kit_nb, kit_ns, kit_nt, kit_li, kit_lb, kit_ls, kit_lt, eq_self, encTs]
    refine dCL_pure (fun t => match t with | .tup [_, x] => some x | _ => none) ?_ trivial (fun d hd Ny Nn h1 h2 => ?_) hN
    · simp only [encTs] at hl'
      have : (List.filterMap (fun t => match t with | D.tup [_, x] => some x | _ => none) (ts.map encT)).length = ts.length := by
        clear hl' hN hts
        induction ts with
        | nil => rfl
        | cons t ts ih => simp [encT]
      rw [this] at hl'
      rw [List.length_map]
      exact hl'
    · obtain ⟨t, ht, rfl⟩ := List.mem_map.mp hd
      simp only [dSeq, dAsg, dgN, dRet, dRetN, dIfS, dVar, gv_0, gv_s, sv_0, sv_s, dC, dOp, dB, asB_b, dAnd, dOr, dNot, dAndV, dOrV, dNotV, dIf, dTru, DTru, dCons, dNil, dTup, dLst, dCall, dCB, dFor, dDrop, dPart, dNo, dNext, dBreak, dCont, dPar, dgT, dgAll, ix_t0, ix_t1, ix_t2, ix_t3, ix_t4, eq_ss, eq_ii, eq_si, eq_is, eq_bb, ne_ss, ne_ii, ne_si, ne_is, ne_bb, add_ii, add_ss, add_tt, mul_ii, mul_ti, oI_ii, oI0_ii, oB0_ii, is_non, isnot_non, isNon_non, isNon_int, isNon_str, isNon_bl, isNon_tup, len_tup, len_fl, len_str, tuple_tup, int_i, int_b, abs_i, max_ii, min_ii, seq_ref, diR1, diR2, items_tup, items_fl, same, Option.some.injEq, exists_eq_left', exists_eq_left, true_and, and_true, if_true, if_false, ite_true, ite_false, Bool.false_eq_true, reduceIte, List.length_cons, List.length_nil, Nat.reduceAdd, Nat.zero_add, decide_true, decide_false, Bool.not_true, Bool.not_false, forall_const, forall_eq, sl_ref, dNeg, wipeG, wipeG.nv, dYes, cut_1, dLoop, wantI_some, wantL_some, wantK_some, wantB_some, mupd_app, ix_ref, ix_tupA, len_ref, tuple_ref, list_ref, list_tup, list_fl, mul_ref, add_ref, setL_ref, lm_ref, append_at, extend_ref, dget_ref, sum_ref, max_ref, min_ref, at_0, at_1, at_2, at_3, at_4, isi_eq, tyD_int, tyD_bl, tyD_str, tyD_tup, tyD_non, kit_ii, kit_ib, kit_is, kit_it, kit_bi, kit_bb, kit_bs, kit_bt, kit_si, kit_sb, kit_ss, kit_st, kit_ti, kit_tb, kit_ts, kit_tt, kit_ni, kit_nb, kit_ns, kit_nt, kit_li, kit_lb, kit_ls, kit_lt, eq_self, encT]
      exact h1 _ rfl
  · intro l2 hl2
    rw [hn]
    obtain ⟨_, hl2⟩ := none_of_upd hl2
    exact Wk.sub (.drop hl2 (.drop hl .refl)) q
def sp_pattern_size : DSp := fun ds M Q _ => ∃ p : Pat, ds = [enc p] ∧ p.depth ≤ 45 ∧ p.many ≤ 100000 ∧ Q (.int p.tests.length) M
theorem ln_pattern_size : ∀ ds M Q E, sp_pattern_size ds M Q E → ds.length = 1 := fun _ _ _ _ ⟨p, h, _⟩ => by rw [h]; rfl
theorem hs_pattern_size : ∀ ds M Q E, sp_pattern_size ds M Q E → b_pattern_size (sp_tests_of 45) { nx := fun _ M' => Wk Q .non M', rt := Wk Q } (startG N_pattern_size ds) M := by
  rintro ds M Q E ⟨p, rfl, hd, hm, q⟩
  show b_pattern_size _ _ [some (enc p)] M
  simp only [b_pattern_size, dSeq, dAsg, dgN, dRet, dRetN, dIfS, dVar, gv_0, gv_s, sv_0, sv_s, dC, dOp, dB, asB_b, dAnd, dOr, dNot, dAndV, dOrV, dNotV, dIf, dTru, DTru, dCons, dNil, dTup, dLst, dCall, dCB, dFor, dDrop, dPart, dNo, dNext, dBreak, dCont, dPar, dgT, dgAll, ix_t0, ix_t1, ix_t2, ix_t3, ix_t4, eq_ss, eq_ii, eq_si, eq_is, eq_bb, ne_ss, ne_ii, ne_si, ne_is, ne_bb, add_ii, add_ss, add_tt, mul_ii, mul_ti, oI_ii, oI0_ii, oB0_ii, is_non, isnot_non, isNon_non, isNon_int, isNon_str, isNon_bl, isNon_tup, len_tup, len_fl, len_str, tuple_tup, int_i, int_b, abs_i, max_ii, min_ii, seq_ref, diR1, diR2, items_tup, items_fl, same, Option.some.injEq, exists_eq_left', exists_eq_left, true_and, and_true, if_true, if_false, ite_true, ite_false, Bool.false_eq_true, reduceIte, List.length_cons, List.length_nil, Nat.reduceAdd, Nat.zero_add, decide_true, decide_false, Bool.not_true, Bool.not_false, forall_const, forall_eq, sl_ref, dNeg, wipeG, wipeG.nv, dYes, cut_1, dLoop, wantI_some, wantL_some, wantK_some, wantB_some, mupd_app, ix_ref, ix_tupA, len_ref, tuple_ref, list_ref, list_tup, list_fl, mul_ref, add_ref, setL_ref, lm_ref, append_at, extend_ref, dget_ref, sum_ref, max_ref, min_ref, at_0, at_1, at_2, at_3, at_4, isi_eq, tyD_int, tyD_bl, tyD_str, tyD_tup, tyD_non, kit_ii, kit_ib, kit_is, kit_it, kit_bi, kit_bb, kit_bs, kit_bt, kit_si, kit_sb, kit_ss, kit_st, kit_ti, kit_tb, kit_ts, kit_tt, kit_ni, kit_nb, kit_ns, kit_nt, kit_li, kit_lb, kit_ls, kit_lt, eq_self]
  refine ⟨p, rfl, hd, hm, fun l hl => ?_⟩
  simp only [dSeq, dAsg, dgN, dRet, dRetN, dIfS, dVar, gv_0, gv_s, sv_0, sv_s, dC, dOp, dB, asB_b, dAnd, dOr, dNot, dAndV, dOrV, dNotV, dIf, dTru, DTru, dCons, dNil, dTup, dLst, dCall, dCB, dFor, dDrop, dPart, dNo, dNext, dBreak, dCont, dPar, dgT, dgAll, ix_t0, ix_t1, ix_t2, ix_t3, ix_t4, eq_ss, eq_ii, eq_si, eq_is, eq_bb, ne_ss, ne_ii, ne_si, ne_is, ne_bb, add_ii, add_ss, add_tt, mul_ii, mul_ti, oI_ii, oI0_ii, oB0_ii, is_non, isnot_non, isNon_non, isNon_int, isNon_str, isNon_bl, isNon_tup, len_tup, len_fl, len_str, tuple_tup, int_i, int_b, abs_i, max_ii, min_ii, seq_ref, diR1, diR2, items_tup, items_fl, same, Option.some.injEq, exists_eq_left', exists_eq_left, true_and, and_true, if_true, if_false, ite_true, ite_false, Bool.false_eq_true, reduceIte, List.length_cons, List.length_nil, Nat.reduceAdd, Nat.zero_add, decide_true, decide_false, Bool.not_true, Bool.not_false, forall_const, forall_eq, sl_ref, dNeg, wipeG, wipeG.nv, dYes, cut_1, dLoop, wantI_some, wantL_some, wantK_some, wantB_some, mupd_app, ix_ref, ix_tupA, len_ref, tuple_ref, list_ref, list_tup, list_fl, mul_ref, add_ref, setL_ref, lm_ref, append_at, extend_ref, dget_ref, sum_ref, max_ref, min_ref, at_0, at_1, at_2, at_3, at_4, isi_eq, tyD_int, tyD_bl, tyD_str, tyD_tup, tyD_non, kit_ii, kit_ib, kit_is, kit_it, kit_bi, kit_bb, kit_bs, kit_bt, kit_si, kit_sb, kit_ss, kit_st, kit_ti, kit_tb, kit_ts, kit_tt, kit_ni, kit_nb, kit_ns, kit_nt, kit_li, kit_lb, kit_ls, kit_lt, eq_self, List.length_map]
  exact Wk.sub (.drop hl .refl) q
end Lw
end
section
set_option maxHeartbeats 4000000
/-! k07, part B: depth, sequence. -/
namespace Lw
open PySem L2 DL
theorem eq_ni {j : Int} {M : Mp} {Q : DK} : oEq .non (.int j) M Q = Q (.bl false) M := propext ⟨fun h => h.2, fun h => ⟨rfl, h⟩⟩
theorem none_if {a b : Addr} {o : MO} {x : Option MO} (h : (if a = b then some o else x) = none) : a ≠ b ∧ x = none := by
  by_cases e : a = b
  · rw [if_pos e] at h; cases h
  · rw [if_neg e] at h; exact ⟨e, h⟩
theorem fls {P : Prop} : (if false = true then True else P) = P := by simp

/-! ### pattern_depth -/
def sp_pattern_depth (n : Nat) : DSp := fun ds M Q _ => ∃ p : Pat, ds = [enc p] ∧ p.depth ≤ n ∧ Q (.int p.depth) M
theorem no_pattern_depth : ∀ ds M Q E, ¬ sp_pattern_depth 0 ds M Q E := fun _ _ _ _ ⟨p, _, h, _⟩ => by have := depth_pos p; omega
theorem ln_pattern_depth (n : Nat) : ∀ ds M Q E, sp_pattern_depth n ds M Q E → ds.length = 1 := fun _ _ _ _ ⟨p, h, _⟩ => by rw [h]; rfl
theorem hs_pattern_depth (n : Nat) : ∀ ds M Q E, sp_pattern_depth (n + 1) ds M Q E → b_pattern_depth (sp_pattern_depth n) { nx := fun _ M' => Wk Q .non M', rt := Wk Q } (startG N_pattern_depth ds) M := by
  rintro ds M Q E ⟨p, rfl, hd, q⟩
  show b_pattern_depth _ _ [some (enc p), none] M
  cases p with
  | test ts => simp only [b_pattern_depth, enc, dSeq, dAsg, dgN, dRet, dRetN, dIfS, dVar, gv_0, gv_s, sv_0, sv_s, dC, dOp, dB, asB_b, dAnd, dOr, dNot, dAndV, dOrV, dNotV, dIf, dTru, DTru, dCons, dNil, dTup, dLst, dCall, dCB, dFor, dDrop, dPart, dNo, dNext, dBreak, dCont, dPar, dgT, dgAll, ix_t0, ix_t1, ix_t2, ix_t3, ix_t4, eq_ss, eq_ii, eq_si, eq_is, eq_bb, ne_ss, ne_ii, ne_si, ne_is, ne_bb, add_ii, add_ss, add_tt, mul_ii, mul_ti, oI_ii, oI0_ii, oB0_ii, is_non, isnot_non, isNon_non, isNon_int, isNon_str, isNon_bl, isNon_tup, len_tup, len_fl, len_str, tuple_tup, int_i, int_b, abs_i, max_ii, min_ii, seq_ref, diR1, diR2, items_tup, items_fl, same, Option.some.injEq, exists_eq_left', exists_eq_left, true_and, and_true, if_true, if_false, ite_true, ite_false, Bool.false_eq_true, reduceIte, List.length_cons, List.length_nil, Nat.reduceAdd, Nat.zero_add, decide_true, decide_false, Bool.not_true, Bool.not_false, forall_const, forall_eq, sl_ref, dNeg, wipeG, wipeG.nv, dYes, cut_1, dLoop, wantI_some, wantL_some, wantK_some, wantB_some, mupd_app, ix_ref, ix_tupA, len_ref, tuple_ref, list_ref, list_tup, list_fl, mul_ref, add_ref, setL_ref, lm_ref, append_at, extend_ref, dget_ref, sum_ref, max_ref, min_ref, at_0, at_1, at_2, at_3, at_4, isi_eq, tyD_int, tyD_bl, tyD_str, tyD_tup, tyD_non, kit_ii, kit_ib, kit_is, kit_it, kit_bi, kit_bb, kit_bs, kit_bt, kit_si, kit_sb, kit_ss, kit_st, kit_ti, kit_tb, kit_ts, kit_tt, kit_ni, kit_nb, kit_ns, kit_nt, kit_li, kit_lb, kit_ls, kit_lt, eq_self]; exact Wk.of q
  | again p =>
    simp only [Pat.depth] at hd
    simp only [b_pattern_depth, enc, dSeq, dAsg, dgN, dRet, dRetN, dIfS, dVar, gv_0, gv_s, sv_0, sv_s, dC, dOp, dB, asB_b, dAnd, dOr, dNot, dAndV, dOrV, dNotV, dIf, dTru, DTru, dCons, dNil, dTup, dLst, dCall, dCB, dFor, dDrop, dPart, dNo, dNext, dBreak, dCont, dPar, dgT, dgAll, ix_t0, ix_t1, ix_t2, ix_t3, ix_t4, eq_ss, eq_ii, eq_si, eq_is, eq_bb, ne_ss, ne_ii, ne_si, ne_is, ne_bb, add_ii, add_ss, add_tt, mul_ii, mul_ti, oI_ii, oI0_ii, oB0_ii, is_non, isnot_non, isNon_non, isNon_int, isNon_str, isNon_bl, isNon_tup, len_tup, len_fl, len_str, tuple_tup, int_i, int_b, abs_i, max_ii, min_ii, seq_ref, diR1, diR2, items_tup, items_fl, same, Option.some.injEq, exists_eq_left', exists_eq_left, true_and, and_true, if_true, if_false, ite_true, ite_false, Bool.false_eq_true, reduceIte, List.length_cons, List.length_nil, Nat.reduceAdd, Nat.zero_add, decide_true, decide_false, Bool.not_true, Bool.not_false, forall_const, forall_eq, sl_ref, dNeg, wipeG, wipeG.nv, dYes, cut_1, dLoop, wantI_some, wantL_some, wantK_some, wantB_some, mupd_app, ix_ref, ix_tupA, len_ref, tuple_ref, list_ref, list_tup, list_fl, mul_ref, add_ref, setL_ref, lm_ref, append_at, extend_ref, dget_ref, sum_ref, max_ref, min_ref, at_0, at_1, at_2, at_3, at_4, isi_eq, tyD_int, tyD_bl, tyD_str, tyD_tup, tyD_non, kit_ii, kit_ib, kit_is, kit_it, kit_bi, kit_bb, kit_bs, kit_bt, kit_si, kit_sb, kit_ss, kit_st, kit_ti, kit_tb, kit_ts, kit_tt, kit_ni, kit_nb, kit_ns, kit_nt, kit_li, kit_lb, kit_ls, kit_lt, eq_self, s_at, dLc, dCL]
    refine ⟨p, rfl, by omega, sz (by simp), fun l hl => ?_⟩
    simp only [dSeq, dAsg, dgN, dRet, dRetN, dIfS, dVar, gv_0, gv_s, sv_0, sv_s, dC, dOp, dB, asB_b, dAnd, dOr, dNot, dAndV, dOrV, dNotV, dIf, dTru, DTru, dCons, dNil, dTup, dLst, dCall, dCB, dFor, dDrop, dPart, dNo, dNext, dBreak, dCont, dPar, dgT, dgAll, ix_t0, ix_t1, ix_t2, ix_t3, ix_t4, eq_ss, eq_ii, eq_si, eq_is, eq_bb, ne_ss, ne_ii, ne_si, ne_is, ne_bb, add_ii, add_ss, add_tt, mul_ii, mul_ti, oI_ii, oI0_ii, oB0_ii, is_non, isnot_non, isNon_non, isNon_int, isNon_str, isNon_bl, isNon_tup, len_tup, len_fl, len_str, tuple_tup, int_i, int_b, abs_i, max_ii, min_ii, seq_ref, diR1, diR2, items_tup, items_fl, same, Option.some.injEq, exists_eq_left', exists_eq_left, true_and, and_true, if_true, if_false, ite_true, ite_false, Bool.false_eq_true, reduceIte, List.length_cons, List.length_nil, Nat.reduceAdd, Nat.zero_add, decide_true, decide_false, Bool.not_true, Bool.not_false, forall_const, forall_eq, sl_ref, dNeg, wipeG, wipeG.nv, dYes, cut_1, dLoop, wantI_some, wantL_some, wantK_some, wantB_some, mupd_app, ix_ref, ix_tupA, len_ref, tuple_ref, list_ref, list_tup, list_fl, mul_ref, add_ref, setL_ref, lm_ref, append_at, extend_ref, dget_ref, sum_ref, max_ref, min_ref, at_0, at_1, at_2, at_3, at_4, isi_eq, tyD_int, tyD_bl, tyD_str, tyD_tup, tyD_non, kit_ii, kit_ib, kit_is, kit_it, kit_bi, kit_bb, kit_bs, kit_bt, kit_si, kit_sb, kit_ss, kit_st, kit_ti, kit_tb, kit_ts, kit_tt, kit_ni, kit_nb, kit_ns, kit_nt, kit_li, kit_lb, kit_ls, kit_lt, eq_self, List.nil_append, intsOf, Option.map]
    refine ⟨by simp, fun m hm _ => ?_⟩
    simp only [List.mem_singleton] at hm
    subst hm
    refine Wk.sub (.drop hl .refl) ?_
    have e : (1 : Int) + (p.depth : Nat) = ((Pat.again p).depth : Nat) := by simp only [Pat.depth]; omega
    rw [e]
    exact q
  | bin o p r =>
    simp only [Pat.depth] at hd
    have main : ∀ w : Str, ((w = ("test" : Str)) = False) → b_pattern_depth (sp_pattern_depth n) { nx := fun _ M' => Wk Q .non M', rt := Wk Q } [some (.tup [.str w, enc p, enc r]), none] M := fun w hw => by
      simp only [b_pattern_depth, dSeq, dAsg, dgN, dRet, dRetN, dIfS, dVar, gv_0, gv_s, sv_0, sv_s, dC, dOp, dB, asB_b, dAnd, dOr, dNot, dAndV, dOrV, dNotV, dIf, dTru, DTru, dCons, dNil, dTup, dLst, dCall, dCB, dFor, dDrop, dPart, dNo, dNext, dBreak, dCont, dPar, dgT, dgAll, ix_t0, ix_t1, ix_t2, ix_t3, ix_t4, eq_ss, eq_ii, eq_si, eq_is, eq_bb, ne_ss, ne_ii, ne_si, ne_is, ne_bb, add_ii, add_ss, add_tt, mul_ii, mul_ti, oI_ii, oI0_ii, oB0_ii, is_non, isnot_non, isNon_non, isNon_int, isNon_str, isNon_bl, isNon_tup, len_tup, len_fl, len_str, tuple_tup, int_i, int_b, abs_i, max_ii, min_ii, seq_ref, diR1, diR2, items_tup, items_fl, same, Option.some.injEq, exists_eq_left', exists_eq_left, true_and, and_true, if_true, if_false, ite_true, ite_false, Bool.false_eq_true, reduceIte, List.length_cons, List.length_nil, Nat.reduceAdd, Nat.zero_add, decide_true, decide_false, Bool.not_true, Bool.not_false, forall_const, forall_eq, sl_ref, dNeg, wipeG, wipeG.nv, dYes, cut_1, dLoop, wantI_some, wantL_some, wantK_some, wantB_some, mupd_app, ix_ref, ix_tupA, len_ref, tuple_ref, list_ref, list_tup, list_fl, mul_ref, add_ref, setL_ref, lm_ref, append_at, extend_ref, dget_ref, sum_ref, max_ref, min_ref, at_0, at_1, at_2, at_3, at_4, isi_eq, tyD_int, tyD_bl, tyD_str, tyD_tup, tyD_non, kit_ii, kit_ib, kit_is, kit_it, kit_bi, kit_bb, kit_bs, kit_bt, kit_si, kit_sb, kit_ss, kit_st, kit_ti, kit_tb, kit_ts, kit_tt, kit_ni, kit_nb, kit_ns, kit_nt, kit_li, kit_lb, kit_ls, kit_lt, eq_self, hw, dLc, dCL]
      refine ⟨p, rfl, by omega, sz (by simp), r, rfl, by omega, sz (by simp), fun l hl => ?_⟩
      simp only [dSeq, dAsg, dgN, dRet, dRetN, dIfS, dVar, gv_0, gv_s, sv_0, sv_s, dC, dOp, dB, asB_b, dAnd, dOr, dNot, dAndV, dOrV, dNotV, dIf, dTru, DTru, dCons, dNil, dTup, dLst, dCall, dCB, dFor, dDrop, dPart, dNo, dNext, dBreak, dCont, dPar, dgT, dgAll, ix_t0, ix_t1, ix_t2, ix_t3, ix_t4, eq_ss, eq_ii, eq_si, eq_is, eq_bb, ne_ss, ne_ii, ne_si, ne_is, ne_bb, add_ii, add_ss, add_tt, mul_ii, mul_ti, oI_ii, oI0_ii, oB0_ii, is_non, isnot_non, isNon_non, isNon_int, isNon_str, isNon_bl, isNon_tup, len_tup, len_fl, len_str, tuple_tup, int_i, int_b, abs_i, max_ii, min_ii, seq_ref, diR1, diR2, items_tup, items_fl, same, Option.some.injEq, exists_eq_left', exists_eq_left, true_and, and_true, if_true, if_false, ite_true, ite_false, Bool.false_eq_true, reduceIte, List.length_cons, List.length_nil, Nat.reduceAdd, Nat.zero_add, decide_true, decide_false, Bool.not_true, Bool.not_false, forall_const, forall_eq, sl_ref, dNeg, wipeG, wipeG.nv, dYes, cut_1, dLoop, wantI_some, wantL_some, wantK_some, wantB_some, mupd_app, ix_ref, ix_tupA, len_ref, tuple_ref, list_ref, list_tup, list_fl, mul_ref, add_ref, setL_ref, lm_ref, append_at, extend_ref, dget_ref, sum_ref, max_ref, min_ref, at_0, at_1, at_2, at_3, at_4, isi_eq, tyD_int, tyD_bl, tyD_str, tyD_tup, tyD_non, kit_ii, kit_ib, kit_is, kit_it, kit_bi, kit_bb, kit_bs, kit_bt, kit_si, kit_sb, kit_ss, kit_st, kit_ti, kit_tb, kit_ts, kit_tt, kit_ni, kit_nb, kit_ns, kit_nt, kit_li, kit_lb, kit_ls, kit_lt, eq_self, List.nil_append, List.cons_append, intsOf, Option.map]
      refine ⟨by simp, fun m hm hx => ?_⟩
      refine Wk.sub (.drop hl .refl) ?_
      have h1 := hx p.depth (by simp)
      have h2 := hx r.depth (by simp)
      have e : (1 : Int) + m = ((Pat.bin o p r).depth : Nat) := by
        simp only [List.mem_cons, List.not_mem_nil, or_false] at hm
        simp only [Pat.depth]
        rcases hm with hm | hm <;> subst hm <;> omega
      rw [e]
      exact q
    cases o with
    | true => exact main _ s_ot
    | false => exact main _ s_tt

/-! ### most_of -/
def encO : Option Int → D
  | some i => .int i
  | none => .non
/-- what the parts' most ones come to -/
def mostD (p : Pat) (ms : List (Option Int)) : Option Int := match p, ms with
  | .again _, [m] => if m = some 0 then some 0 else none
  | .bin o _ _, [some a, some b] => some (if o then max a b else a + b)
  | _, _ => none
def sp_most_of : DSp := fun ds M Q _ => ∃ (p : Pat) (l : Addr) (ms : List (Option Int)), ds = [enc p, .ref l] ∧ M l = some (.lst (ms.map encO)) ∧ (match p with | .again _ => ms.length = 1 | .bin _ _ _ => ms.length = 2 | _ => False) ∧ Q (encO (mostD p ms)) M
theorem ln_most_of : ∀ ds M Q E, sp_most_of ds M Q E → ds.length = 2 := fun _ _ _ _ ⟨p, _, _, h, _⟩ => by rw [h]; rfl
theorem hs_most_of : ∀ ds M Q E, sp_most_of ds M Q E → b_most_of { nx := fun _ M' => Wk Q .non M', rt := Wk Q } (startG N_most_of ds) M := by
  rintro ds M Q E ⟨p, l, ms, rfl, hl, hm, q⟩
  show b_most_of _ [some (enc p), some (.ref l)] M
  cases p with
  | test => exact hm.elim
  | again p =>
    match ms, hm with
    | [m], _ =>
      cases m with
      | none =>
        simp only [b_most_of, enc, dSeq, dAsg, dgN, dRet, dRetN, dIfS, dVar, gv_0, gv_s, sv_0, sv_s, dC, dOp, dB, asB_b, dAnd, dOr, dNot, dAndV, dOrV, dNotV, dIf, dTru, DTru, dCons, dNil, dTup, dLst, dCall, dCB, dFor, dDrop, dPart, dNo, dNext, dBreak, dCont, dPar, dgT, dgAll, ix_t0, ix_t1, ix_t2, ix_t3, ix_t4, eq_ss, eq_ii, eq_si, eq_is, eq_bb, ne_ss, ne_ii, ne_si, ne_is, ne_bb, add_ii, add_ss, add_tt, mul_ii, mul_ti, oI_ii, oI0_ii, oB0_ii, is_non, isnot_non, isNon_non, isNon_int, isNon_str, isNon_bl, isNon_tup, len_tup, len_fl, len_str, tuple_tup, int_i, int_b, abs_i, max_ii, min_ii, seq_ref, diR1, diR2, items_tup, items_fl, same, Option.some.injEq, exists_eq_left', exists_eq_left, true_and, and_true, if_true, if_false, ite_true, ite_false, Bool.false_eq_true, reduceIte, List.length_cons, List.length_nil, Nat.reduceAdd, Nat.zero_add, decide_true, decide_false, Bool.not_true, Bool.not_false, forall_const, forall_eq, sl_ref, dNeg, wipeG, wipeG.nv, dYes, cut_1, dLoop, wantI_some, wantL_some, wantK_some, wantB_some, mupd_app, ix_ref, ix_tupA, len_ref, tuple_ref, list_ref, list_tup, list_fl, mul_ref, add_ref, setL_ref, lm_ref, append_at, extend_ref, dget_ref, sum_ref, max_ref, min_ref, at_0, at_1, at_2, at_3, at_4, isi_eq, tyD_int, tyD_bl, tyD_str, tyD_tup, tyD_non, kit_ii, kit_ib, kit_is, kit_it, kit_bi, kit_bb, kit_bs, kit_bt, kit_si, kit_sb, kit_ss, kit_st, kit_ti, kit_tb, kit_ts, kit_tt, kit_ni, kit_nb, kit_ns, kit_nt, kit_li, kit_lb, kit_ls, kit_lt, eq_self, hl, List.map, encO, eq_ni]
        exact Wk.of q
      | some i =>
        simp only [b_most_of, enc, dSeq, dAsg, dgN, dRet, dRetN, dIfS, dVar, gv_0, gv_s, sv_0, sv_s, dC, dOp, dB, asB_b, dAnd, dOr, dNot, dAndV, dOrV, dNotV, dIf, dTru, DTru, dCons, dNil, dTup, dLst, dCall, dCB, dFor, dDrop, dPart, dNo, dNext, dBreak, dCont, dPar, dgT, dgAll, ix_t0, ix_t1, ix_t2, ix_t3, ix_t4, eq_ss, eq_ii, eq_si, eq_is, eq_bb, ne_ss, ne_ii, ne_si, ne_is, ne_bb, add_ii, add_ss, add_tt, mul_ii, mul_ti, oI_ii, oI0_ii, oB0_ii, is_non, isnot_non, isNon_non, isNon_int, isNon_str, isNon_bl, isNon_tup, len_tup, len_fl, len_str, tuple_tup, int_i, int_b, abs_i, max_ii, min_ii, seq_ref, diR1, diR2, items_tup, items_fl, same, Option.some.injEq, exists_eq_left', exists_eq_left, true_and, and_true, if_true, if_false, ite_true, ite_false, Bool.false_eq_true, reduceIte, List.length_cons, List.length_nil, Nat.reduceAdd, Nat.zero_add, decide_true, decide_false, Bool.not_true, Bool.not_false, forall_const, forall_eq, sl_ref, dNeg, wipeG, wipeG.nv, dYes, cut_1, dLoop, wantI_some, wantL_some, wantK_some, wantB_some, mupd_app, ix_ref, ix_tupA, len_ref, tuple_ref, list_ref, list_tup, list_fl, mul_ref, add_ref, setL_ref, lm_ref, append_at, extend_ref, dget_ref, sum_ref, max_ref, min_ref, at_0, at_1, at_2, at_3, at_4, isi_eq, tyD_int, tyD_bl, tyD_str, tyD_tup, tyD_non, kit_ii, kit_ib, kit_is, kit_it, kit_bi, kit_bb, kit_bs, kit_bt, kit_si, kit_sb, kit_ss, kit_st, kit_ti, kit_tb, kit_ts, kit_tt, kit_ni, kit_nb, kit_ns, kit_nt, kit_li, kit_lb, kit_ls, kit_lt, eq_self, hl, List.map, encO]
        by_cases h : i = 0
        · subst h
          simp only [dSeq, dAsg, dgN, dRet, dRetN, dIfS, dVar, gv_0, gv_s, sv_0, sv_s, dC, dOp, dB, asB_b, dAnd, dOr, dNot, dAndV, dOrV, dNotV, dIf, dTru, DTru, dCons, dNil, dTup, dLst, dCall, dCB, dFor, dDrop, dPart, dNo, dNext, dBreak, dCont, dPar, dgT, dgAll, ix_t0, ix_t1, ix_t2, ix_t3, ix_t4, eq_ss, eq_ii, eq_si, eq_is, eq_bb, ne_ss, ne_ii, ne_si, ne_is, ne_bb, add_ii, add_ss, add_tt, mul_ii, mul_ti, oI_ii, oI0_ii, oB0_ii, is_non, isnot_non, isNon_non, isNon_int, isNon_str, isNon_bl, isNon_tup, len_tup, len_fl, len_str, tuple_tup, int_i, int_b, abs_i, max_ii, min_ii, seq_ref, diR1, diR2, items_tup, items_fl, same, Option.some.injEq, exists_eq_left', exists_eq_left, true_and, and_true, if_true, if_false, ite_true, ite_false, Bool.false_eq_true, reduceIte, List.length_cons, List.length_nil, Nat.reduceAdd, Nat.zero_add, decide_true, decide_false, Bool.not_true, Bool.not_false, forall_const, forall_eq, sl_ref, dNeg, wipeG, wipeG.nv, dYes, cut_1, dLoop, wantI_some, wantL_some, wantK_some, wantB_some, mupd_app, ix_ref, ix_tupA, len_ref, tuple_ref, list_ref, list_tup, list_fl, mul_ref, add_ref, setL_ref, lm_ref, append_at, extend_ref, dget_ref, sum_ref, max_ref, min_ref, at_0, at_1, at_2, at_3, at_4, isi_eq, tyD_int, tyD_bl, tyD_str, tyD_tup, tyD_non, kit_ii, kit_ib, kit_is, kit_it, kit_bi, kit_bb, kit_bs, kit_bt, kit_si, kit_sb, kit_ss, kit_st, kit_ti, kit_tb, kit_ts, kit_tt, kit_ni, kit_nb, kit_ns, kit_nt, kit_li, kit_lb, kit_ls, kit_lt, eq_self, beq_self_eq_true]
          simp only [mostD, if_true, encO] at q
          exact Wk.of q
        · have hb : (i == 0) = false := by simp [h]
          simp only [hb, dSeq, dAsg, dgN, dRet, dRetN, dIfS, dVar, gv_0, gv_s, sv_0, sv_s, dC, dOp, dB, asB_b, dAnd, dOr, dNot, dAndV, dOrV, dNotV, dIf, dTru, DTru, dCons, dNil, dTup, dLst, dCall, dCB, dFor, dDrop, dPart, dNo, dNext, dBreak, dCont, dPar, dgT, dgAll, ix_t0, ix_t1, ix_t2, ix_t3, ix_t4, eq_ss, eq_ii, eq_si, eq_is, eq_bb, ne_ss, ne_ii, ne_si, ne_is, ne_bb, add_ii, add_ss, add_tt, mul_ii, mul_ti, oI_ii, oI0_ii, oB0_ii, is_non, isnot_non, isNon_non, isNon_int, isNon_str, isNon_bl, isNon_tup, len_tup, len_fl, len_str, tuple_tup, int_i, int_b, abs_i, max_ii, min_ii, seq_ref, diR1, diR2, items_tup, items_fl, same, Option.some.injEq, exists_eq_left', exists_eq_left, true_and, and_true, if_true, if_false, ite_true, ite_false, Bool.false_eq_true, reduceIte, List.length_cons, List.length_nil, Nat.reduceAdd, Nat.zero_add, decide_true, decide_false, Bool.not_true, Bool.not_false, forall_const, forall_eq, sl_ref, dNeg, wipeG, wipeG.nv, dYes, cut_1, dLoop, wantI_some, wantL_some, wantK_some, wantB_some, mupd_app, ix_ref, ix_tupA, len_ref, tuple_ref, list_ref, list_tup, list_fl, mul_ref, add_ref, setL_ref, lm_ref, append_at, extend_ref, dget_ref, sum_ref, max_ref, min_ref, at_0, at_1, at_2, at_3, at_4, isi_eq, tyD_int, tyD_bl, tyD_str, tyD_tup, tyD_non, kit_ii, kit_ib, kit_is, kit_it, kit_bi, kit_bb, kit_bs, kit_bt, kit_si, kit_sb, kit_ss, kit_st, kit_ti, kit_tb, kit_ts, kit_tt, kit_ni, kit_nb, kit_ns, kit_nt, kit_li, kit_lb, kit_ls, kit_lt, eq_self]
          simp only [mostD, Option.some.injEq, h, if_false, encO] at q
          exact Wk.of q
  | bin o p r =>
    match ms, hm with
    | [a, b], _ =>
      cases a with
      | none =>
        cases o <;> simp only [b_most_of, enc, dSeq, dAsg, dgN, dRet, dRetN, dIfS, dVar, gv_0, gv_s, sv_0, sv_s, dC, dOp, dB, asB_b, dAnd, dOr, dNot, dAndV, dOrV, dNotV, dIf, dTru, DTru, dCons, dNil, dTup, dLst, dCall, dCB, dFor, dDrop, dPart, dNo, dNext, dBreak, dCont, dPar, dgT, dgAll, ix_t0, ix_t1, ix_t2, ix_t3, ix_t4, eq_ss, eq_ii, eq_si, eq_is, eq_bb, ne_ss, ne_ii, ne_si, ne_is, ne_bb, add_ii, add_ss, add_tt, mul_ii, mul_ti, oI_ii, oI0_ii, oB0_ii, is_non, isnot_non, isNon_non, isNon_int, isNon_str, isNon_bl, isNon_tup, len_tup, len_fl, len_str, tuple_tup, int_i, int_b, abs_i, max_ii, min_ii, seq_ref, diR1, diR2, items_tup, items_fl, same, Option.some.injEq, exists_eq_left', exists_eq_left, true_and, and_true, if_true, if_false, ite_true, ite_false, Bool.false_eq_true, reduceIte, List.length_cons, List.length_nil, Nat.reduceAdd, Nat.zero_add, decide_true, decide_false, Bool.not_true, Bool.not_false, forall_const, forall_eq, sl_ref, dNeg, wipeG, wipeG.nv, dYes, cut_1, dLoop, wantI_some, wantL_some, wantK_some, wantB_some, mupd_app, ix_ref, ix_tupA, len_ref, tuple_ref, list_ref, list_tup, list_fl, mul_ref, add_ref, setL_ref, lm_ref, append_at, extend_ref, dget_ref, sum_ref, max_ref, min_ref, at_0, at_1, at_2, at_3, at_4, isi_eq, tyD_int, tyD_bl, tyD_str, tyD_tup, tyD_non, kit_ii, kit_ib, kit_is, kit_it, kit_bi, kit_bb, kit_bs, kit_bt, kit_si, kit_sb, kit_ss, kit_st, kit_ti, kit_tb, kit_ts, kit_tt, kit_ni, kit_nb, kit_ns, kit_nt, kit_li, kit_lb, kit_ls, kit_lt, eq_self, hl, List.map, encO, s_oa, s_tha]
        all_goals exact Wk.of q
      | some i => cases b with
        | none =>
          cases o <;> simp only [b_most_of, enc, dSeq, dAsg, dgN, dRet, dRetN, dIfS, dVar, gv_0, gv_s, sv_0, sv_s, dC, dOp, dB, asB_b, dAnd, dOr, dNot, dAndV, dOrV, dNotV, dIf, dTru, DTru, dCons, dNil, dTup, dLst, dCall, dCB, dFor, dDrop, dPart, dNo, dNext, dBreak, dCont, dPar, dgT, dgAll, ix_t0, ix_t1, ix_t2, ix_t3, ix_t4, eq_ss, eq_ii, eq_si, eq_is, eq_bb, ne_ss, ne_ii, ne_si, ne_is, ne_bb, add_ii, add_ss, add_tt, mul_ii, mul_ti, oI_ii, oI0_ii, oB0_ii, is_non, isnot_non, isNon_non, isNon_int, isNon_str, isNon_bl, isNon_tup, len_tup, len_fl, len_str, tuple_tup, int_i, int_b, abs_i, max_ii, min_ii, seq_ref, diR1, diR2, items_tup, items_fl, same, Option.some.injEq, exists_eq_left', exists_eq_left, true_and, and_true, if_true, if_false, ite_true, ite_false, Bool.false_eq_true, reduceIte, List.length_cons, List.length_nil, Nat.reduceAdd, Nat.zero_add, decide_true, decide_false, Bool.not_true, Bool.not_false, forall_const, forall_eq, sl_ref, dNeg, wipeG, wipeG.nv, dYes, cut_1, dLoop, wantI_some, wantL_some, wantK_some, wantB_some, mupd_app, ix_ref, ix_tupA, len_ref, tuple_ref, list_ref, list_tup, list_fl, mul_ref, add_ref, setL_ref, lm_ref, append_at, extend_ref, dget_ref, sum_ref, max_ref, min_ref, at_0, at_1, at_2, at_3, at_4, isi_eq, tyD_int, tyD_bl, tyD_str, tyD_tup, tyD_non, kit_ii, kit_ib, kit_is, kit_it, kit_bi, kit_bb, kit_bs, kit_bt, kit_si, kit_sb, kit_ss, kit_st, kit_ti, kit_tb, kit_ts, kit_tt, kit_ni, kit_nb, kit_ns, kit_nt, kit_li, kit_lb, kit_ls, kit_lt, eq_self, hl, List.map, encO, s_oa, s_tha]
          all_goals exact Wk.of q
        | some j =>
          cases o with
          | true =>
            simp only [b_most_of, enc, dSeq, dAsg, dgN, dRet, dRetN, dIfS, dVar, gv_0, gv_s, sv_0, sv_s, dC, dOp, dB, asB_b, dAnd, dOr, dNot, dAndV, dOrV, dNotV, dIf, dTru, DTru, dCons, dNil, dTup, dLst, dCall, dCB, dFor, dDrop, dPart, dNo, dNext, dBreak, dCont, dPar, dgT, dgAll, ix_t0, ix_t1, ix_t2, ix_t3, ix_t4, eq_ss, eq_ii, eq_si, eq_is, eq_bb, ne_ss, ne_ii, ne_si, ne_is, ne_bb, add_ii, add_ss, add_tt, mul_ii, mul_ti, oI_ii, oI0_ii, oB0_ii, is_non, isnot_non, isNon_non, isNon_int, isNon_str, isNon_bl, isNon_tup, len_tup, len_fl, len_str, tuple_tup, int_i, int_b, abs_i, max_ii, min_ii, seq_ref, diR1, diR2, items_tup, items_fl, same, Option.some.injEq, exists_eq_left', exists_eq_left, true_and, and_true, if_true, if_false, ite_true, ite_false, Bool.false_eq_true, reduceIte, List.length_cons, List.length_nil, Nat.reduceAdd, Nat.zero_add, decide_true, decide_false, Bool.not_true, Bool.not_false, forall_const, forall_eq, sl_ref, dNeg, wipeG, wipeG.nv, dYes, cut_1, dLoop, wantI_some, wantL_some, wantK_some, wantB_some, mupd_app, ix_ref, ix_tupA, len_ref, tuple_ref, list_ref, list_tup, list_fl, mul_ref, add_ref, setL_ref, lm_ref, append_at, extend_ref, dget_ref, sum_ref, max_ref, min_ref, at_0, at_1, at_2, at_3, at_4, isi_eq, tyD_int, tyD_bl, tyD_str, tyD_tup, tyD_non, kit_ii, kit_ib, kit_is, kit_it, kit_bi, kit_bb, kit_bs, kit_bt, kit_si, kit_sb, kit_ss, kit_st, kit_ti, kit_tb, kit_ts, kit_tt, kit_ni, kit_nb, kit_ns, kit_nt, kit_li, kit_lb, kit_ls, kit_lt, eq_self, hl, List.map, encO, s_oa, intsOf, Option.map]
            refine ⟨by simp, fun m hm hx => ?_⟩
            have h1 := hx i (by simp)
            have h2 := hx j (by simp)
            have e : max i j = m := by
              simp only [List.mem_cons, List.not_mem_nil, or_false] at hm
              rcases hm with hm | hm <;> subst hm <;> omega
            simp only [mostD, if_true, encO, e] at q
            exact Wk.of q
          | false =>
            simp only [b_most_of, enc, dSeq, dAsg, dgN, dRet, dRetN, dIfS, dVar, gv_0, gv_s, sv_0, sv_s, dC, dOp, dB, asB_b, dAnd, dOr, dNot, dAndV, dOrV, dNotV, dIf, dTru, DTru, dCons, dNil, dTup, dLst, dCall, dCB, dFor, dDrop, dPart, dNo, dNext, dBreak, dCont, dPar, dgT, dgAll, ix_t0, ix_t1, ix_t2, ix_t3, ix_t4, eq_ss, eq_ii, eq_si, eq_is, eq_bb, ne_ss, ne_ii, ne_si, ne_is, ne_bb, add_ii, add_ss, add_tt, mul_ii, mul_ti, oI_ii, oI0_ii, oB0_ii, is_non, isnot_non, isNon_non, isNon_int, isNon_str, isNon_bl, isNon_tup, len_tup, len_fl, len_str, tuple_tup, int_i, int_b, abs_i, max_ii, min_ii, seq_ref, diR1, diR2, items_tup, items_fl, same, Option.some.injEq, exists_eq_left', exists_eq_left, true_and, and_true, if_true, if_false, ite_true, ite_false, Bool.false_eq_true, reduceIte, List.length_cons, List.length_nil, Nat.reduceAdd, Nat.zero_add, decide_true, decide_false, Bool.not_true, Bool.not_false, forall_const, forall_eq, sl_ref, dNeg, wipeG, wipeG.nv, dYes, cut_1, dLoop, wantI_some, wantL_some, wantK_some, wantB_some, mupd_app, ix_ref, ix_tupA, len_ref, tuple_ref, list_ref, list_tup, list_fl, mul_ref, add_ref, setL_ref, lm_ref, append_at, extend_ref, dget_ref, sum_ref, max_ref, min_ref, at_0, at_1, at_2, at_3, at_4, isi_eq, tyD_int, tyD_bl, tyD_str, tyD_tup, tyD_non, kit_ii, kit_ib, kit_is, kit_it, kit_bi, kit_bb, kit_bs, kit_bt, kit_si, kit_sb, kit_ss, kit_st, kit_ti, kit_tb, kit_ts, kit_tt, kit_ni, kit_nb, kit_ns, kit_nt, kit_li, kit_lb, kit_ls, kit_lt, eq_self, hl, List.map, encO, s_tha, s_tho, intsOf, Option.map, List.sum_cons, List.sum_nil, Int.add_zero]
            simp only [mostD, Bool.false_eq_true, if_false, encO] at q
            exact Wk.of q

/-! ### sequence_of -/
def sp_sequence_of (n : Nat) : DSp := fun ds M Q _ => ∃ p : Pat, ds = [enc p] ∧ p.depth ≤ n ∧ Q (.tup [.int p.least, encO p.most]) M
theorem no_sequence_of : ∀ ds M Q E, ¬ sp_sequence_of 0 ds M Q E := fun _ _ _ _ ⟨p, _, h, _⟩ => by have := depth_pos p; omega
theorem ln_sequence_of (n : Nat) : ∀ ds M Q E, sp_sequence_of n ds M Q E → ds.length = 1 := fun _ _ _ _ ⟨p, h, _⟩ => by rw [h]; rfl
theorem hs_sequence_of (n : Nat) : ∀ ds M Q E, sp_sequence_of (n + 1) ds M Q E → b_sequence_of (sp_sequence_of n) sp_most_of { nx := fun _ M' => Wk Q .non M', rt := Wk Q } (startG N_sequence_of ds) M := by
  rintro ds M Q E ⟨p, rfl, hd, q⟩
  show b_sequence_of _ _ _ [some (enc p), none, none, none, none, none] M
  cases p with
  | test ts =>
    simp only [b_sequence_of, enc, dSeq, dAsg, dgN, dRet, dRetN, dIfS, dVar, gv_0, gv_s, sv_0, sv_s, dC, dOp, dB, asB_b, dAnd, dOr, dNot, dAndV, dOrV, dNotV, dIf, dTru, DTru, dCons, dNil, dTup, dLst, dCall, dCB, dFor, dDrop, dPart, dNo, dNext, dBreak, dCont, dPar, dgT, dgAll, ix_t0, ix_t1, ix_t2, ix_t3, ix_t4, eq_ss, eq_ii, eq_si, eq_is, eq_bb, ne_ss, ne_ii, ne_si, ne_is, ne_bb, add_ii, add_ss, add_tt, mul_ii, mul_ti, oI_ii, oI0_ii, oB0_ii, is_non, isnot_non, isNon_non, isNon_int, isNon_str, isNon_bl, isNon_tup, len_tup, len_fl, len_str, tuple_tup, int_i, int_b, abs_i, max_ii, min_ii, seq_ref, diR1, diR2, items_tup, items_fl, same, Option.some.injEq, exists_eq_left', exists_eq_left, true_and, and_true, if_true, if_false, ite_true, ite_false, Bool.false_eq_true, reduceIte, List.length_cons, List.length_nil, Nat.reduceAdd, Nat.zero_add, decide_true, decide_false, Bool.not_true, Bool.not_false, forall_const, forall_eq, sl_ref, dNeg, wipeG, wipeG.nv, dYes, cut_1, dLoop, wantI_some, wantL_some, wantK_some, wantB_some, mupd_app, ix_ref, ix_tupA, len_ref, tuple_ref, list_ref, list_tup, list_fl, mul_ref, add_ref, setL_ref, lm_ref, append_at, extend_ref, dget_ref, sum_ref, max_ref, min_ref, at_0, at_1, at_2, at_3, at_4, isi_eq, tyD_int, tyD_bl, tyD_str, tyD_tup, tyD_non, kit_ii, kit_ib, kit_is, kit_it, kit_bi, kit_bb, kit_bs, kit_bt, kit_si, kit_sb, kit_ss, kit_st, kit_ti, kit_tb, kit_ts, kit_tt, kit_ni, kit_nb, kit_ns, kit_nt, kit_li, kit_lb, kit_ls, kit_lt, eq_self]
    exact ⟨sz (by simp), Wk.of q⟩
  | again p =>
    simp only [Pat.depth] at hd
    simp only [b_sequence_of, enc, dSeq, dAsg, dgN, dRet, dRetN, dIfS, dVar, gv_0, gv_s, sv_0, sv_s, dC, dOp, dB, asB_b, dAnd, dOr, dNot, dAndV, dOrV, dNotV, dIf, dTru, DTru, dCons, dNil, dTup, dLst, dCall, dCB, dFor, dDrop, dPart, dNo, dNext, dBreak, dCont, dPar, dgT, dgAll, ix_t0, ix_t1, ix_t2, ix_t3, ix_t4, eq_ss, eq_ii, eq_si, eq_is, eq_bb, ne_ss, ne_ii, ne_si, ne_is, ne_bb, add_ii, add_ss, add_tt, mul_ii, mul_ti, oI_ii, oI0_ii, oB0_ii, is_non, isnot_non, isNon_non, isNon_int, isNon_str, isNon_bl, isNon_tup, len_tup, len_fl, len_str, tuple_tup, int_i, int_b, abs_i, max_ii, min_ii, seq_ref, diR1, diR2, items_tup, items_fl, same, Option.some.injEq, exists_eq_left', exists_eq_left, true_and, and_true, if_true, if_false, ite_true, ite_false, Bool.false_eq_true, reduceIte, List.length_cons, List.length_nil, Nat.reduceAdd, Nat.zero_add, decide_true, decide_false, Bool.not_true, Bool.not_false, forall_const, forall_eq, sl_ref, dNeg, wipeG, wipeG.nv, dYes, cut_1, dLoop, wantI_some, wantL_some, wantK_some, wantB_some, mupd_app, ix_ref, ix_tupA, len_ref, tuple_ref, list_ref, list_tup, list_fl, mul_ref, add_ref, setL_ref, lm_ref, append_at, extend_ref, dget_ref, sum_ref, max_ref, min_ref, at_0, at_1, at_2, at_3, at_4, isi_eq, tyD_int, tyD_bl, tyD_str, tyD_tup, tyD_non, kit_ii, kit_ib, kit_is, kit_it, kit_bi, kit_bb, kit_bs, kit_bt, kit_si, kit_sb, kit_ss, kit_st, kit_ti, kit_tb, kit_ts, kit_tt, kit_ni, kit_nb, kit_ns, kit_nt, kit_li, kit_lb, kit_ls, kit_lt, eq_self, s_at, dLc, dCL, List.nil_append]
    refine ⟨p, rfl, by omega, sz (by simp), fun l hl => ?_⟩
    simp only [dSeq, dAsg, dgN, dRet, dRetN, dIfS, dVar, gv_0, gv_s, sv_0, sv_s, dC, dOp, dB, asB_b, dAnd, dOr, dNot, dAndV, dOrV, dNotV, dIf, dTru, DTru, dCons, dNil, dTup, dLst, dCall, dCB, dFor, dDrop, dPart, dNo, dNext, dBreak, dCont, dPar, dgT, dgAll, ix_t0, ix_t1, ix_t2, ix_t3, ix_t4, eq_ss, eq_ii, eq_si, eq_is, eq_bb, ne_ss, ne_ii, ne_si, ne_is, ne_bb, add_ii, add_ss, add_tt, mul_ii, mul_ti, oI_ii, oI0_ii, oB0_ii, is_non, isnot_non, isNon_non, isNon_int, isNon_str, isNon_bl, isNon_tup, len_tup, len_fl, len_str, tuple_tup, int_i, int_b, abs_i, max_ii, min_ii, seq_ref, diR1, diR2, items_tup, items_fl, same, Option.some.injEq, exists_eq_left', exists_eq_left, true_and, and_true, if_true, if_false, ite_true, ite_false, Bool.false_eq_true, reduceIte, List.length_cons, List.length_nil, Nat.reduceAdd, Nat.zero_add, decide_true, decide_false, Bool.not_true, Bool.not_false, forall_const, forall_eq, sl_ref, dNeg, wipeG, wipeG.nv, dYes, cut_1, dLoop, wantI_some, wantL_some, wantK_some, wantB_some, mupd_app, ix_ref, ix_tupA, len_ref, tuple_ref, list_ref, list_tup, list_fl, mul_ref, add_ref, setL_ref, lm_ref, append_at, extend_ref, dget_ref, sum_ref, max_ref, min_ref, at_0, at_1, at_2, at_3, at_4, isi_eq, tyD_int, tyD_bl, tyD_str, tyD_tup, tyD_non, kit_ii, kit_ib, kit_is, kit_it, kit_bi, kit_bb, kit_bs, kit_bt, kit_si, kit_sb, kit_ss, kit_st, kit_ti, kit_tb, kit_ts, kit_tt, kit_ni, kit_nb, kit_ns, kit_nt, kit_li, kit_lb, kit_ls, kit_lt, eq_self, dCL, List.nil_append]
    refine ⟨sz (by simp), fun l2 hl2 => ?_⟩
    obtain ⟨n2, hl2⟩ := none_if hl2
    simp only [dSeq, dAsg, dgN, dRet, dRetN, dIfS, dVar, gv_0, gv_s, sv_0, sv_s, dC, dOp, dB, asB_b, dAnd, dOr, dNot, dAndV, dOrV, dNotV, dIf, dTru, DTru, dCons, dNil, dTup, dLst, dCall, dCB, dFor, dDrop, dPart, dNo, dNext, dBreak, dCont, dPar, dgT, dgAll, ix_t0, ix_t1, ix_t2, ix_t3, ix_t4, eq_ss, eq_ii, eq_si, eq_is, eq_bb, ne_ss, ne_ii, ne_si, ne_is, ne_bb, add_ii, add_ss, add_tt, mul_ii, mul_ti, oI_ii, oI0_ii, oB0_ii, is_non, isnot_non, isNon_non, isNon_int, isNon_str, isNon_bl, isNon_tup, len_tup, len_fl, len_str, tuple_tup, int_i, int_b, abs_i, max_ii, min_ii, seq_ref, diR1, diR2, items_tup, items_fl, same, Option.some.injEq, exists_eq_left', exists_eq_left, true_and, and_true, if_true, if_false, ite_true, ite_false, Bool.false_eq_true, reduceIte, List.length_cons, List.length_nil, Nat.reduceAdd, Nat.zero_add, decide_true, decide_false, Bool.not_true, Bool.not_false, forall_const, forall_eq, sl_ref, dNeg, wipeG, wipeG.nv, dYes, cut_1, dLoop, wantI_some, wantL_some, wantK_some, wantB_some, mupd_app, ix_ref, ix_tupA, len_ref, tuple_ref, list_ref, list_tup, list_fl, mul_ref, add_ref, setL_ref, lm_ref, append_at, extend_ref, dget_ref, sum_ref, max_ref, min_ref, at_0, at_1, at_2, at_3, at_4, isi_eq, tyD_int, tyD_bl, tyD_str, tyD_tup, tyD_non, kit_ii, kit_ib, kit_is, kit_it, kit_bi, kit_bb, kit_bs, kit_bt, kit_si, kit_sb, kit_ss, kit_st, kit_ti, kit_tb, kit_ts, kit_tt, kit_ni, kit_nb, kit_ns, kit_nt, kit_li, kit_lb, kit_ls, kit_lt, eq_self, n2, n2.symm, dCL, List.nil_append]
    refine ⟨sz (by simp), fun l3 hl3 => ?_⟩
    obtain ⟨n3, hl3⟩ := none_if hl3
    obtain ⟨n32, hl3⟩ := none_if hl3
    refine ⟨.again p, l3, [p.most], rfl, ?_, rfl, sz (by simp), ?_⟩
    · simp only [dSeq, dAsg, dgN, dRet, dRetN, dIfS, dVar, gv_0, gv_s, sv_0, sv_s, dC, dOp, dB, asB_b, dAnd, dOr, dNot, dAndV, dOrV, dNotV, dIf, dTru, DTru, dCons, dNil, dTup, dLst, dCall, dCB, dFor, dDrop, dPart, dNo, dNext, dBreak, dCont, dPar, dgT, dgAll, ix_t0, ix_t1, ix_t2, ix_t3, ix_t4, eq_ss, eq_ii, eq_si, eq_is, eq_bb, ne_ss, ne_ii, ne_si, ne_is, ne_bb, add_ii, add_ss, add_tt, mul_ii, mul_ti, oI_ii, oI0_ii, oB0_ii, is_non, isnot_non, isNon_non, isNon_int, isNon_str, isNon_bl, isNon_tup, len_tup, len_fl, len_str, tuple_tup, int_i, int_b, abs_i, max_ii, min_ii, seq_ref, diR1, diR2, items_tup, items_fl, same, Option.some.injEq, exists_eq_left', exists_eq_left, true_and, and_true, if_true, if_false, ite_true, ite_false, Bool.false_eq_true, reduceIte, List.length_cons, List.length_nil, Nat.reduceAdd, Nat.zero_add, decide_true, decide_false, Bool.not_true, Bool.not_false, forall_const, forall_eq, sl_ref, dNeg, wipeG, wipeG.nv, dYes, cut_1, dLoop, wantI_some, wantL_some, wantK_some, wantB_some, mupd_app, ix_ref, ix_tupA, len_ref, tuple_ref, list_ref, list_tup, list_fl, mul_ref, add_ref, setL_ref, lm_ref, append_at, extend_ref, dget_ref, sum_ref, max_ref, min_ref, at_0, at_1, at_2, at_3, at_4, isi_eq, tyD_int, tyD_bl, tyD_str, tyD_tup, tyD_non, kit_ii, kit_ib, kit_is, kit_it, kit_bi, kit_bb, kit_bs, kit_bt, kit_si, kit_sb, kit_ss, kit_st, kit_ti, kit_tb, kit_ts, kit_tt, kit_ni, kit_nb, kit_ns, kit_nt, kit_li, kit_lb, kit_ls, kit_lt, eq_self]; rfl
    · refine Wk.sub (.drop hl3 (.drop hl2 (.drop hl .refl))) ?_
      exact q
  | bin o p r =>
    simp only [Pat.depth] at hd
    have hmost : mostD (.bin o p r) [p.most, r.most] = (Pat.bin o p r).most := by
      simp only [mostD, Pat.most]
      cases p.most <;> cases r.most <;> rfl
    have main : ∀ w : Str, w = (if o then ("or" : Str) else ("then" : Str)) → ((w = ("test" : Str)) = False) → ((w = ("again" : Str)) = False) → ((w = ("or" : Str)) = (o = true)) → b_sequence_of (sp_sequence_of n) sp_most_of { nx := fun _ M' => Wk Q .non M', rt := Wk Q } [some (.tup [.str w, enc p, enc r]), none, none, none, none, none] M := fun w hw0 hw hw2 hw3 => by
      simp only [b_sequence_of, dSeq, dAsg, dgN, dRet, dRetN, dIfS, dVar, gv_0, gv_s, sv_0, sv_s, dC, dOp, dB, asB_b, dAnd, dOr, dNot, dAndV, dOrV, dNotV, dIf, dTru, DTru, dCons, dNil, dTup, dLst, dCall, dCB, dFor, dDrop, dPart, dNo, dNext, dBreak, dCont, dPar, dgT, dgAll, ix_t0, ix_t1, ix_t2, ix_t3, ix_t4, eq_ss, eq_ii, eq_si, eq_is, eq_bb, ne_ss, ne_ii, ne_si, ne_is, ne_bb, add_ii, add_ss, add_tt, mul_ii, mul_ti, oI_ii, oI0_ii, oB0_ii, is_non, isnot_non, isNon_non, isNon_int, isNon_str, isNon_bl, isNon_tup, len_tup, len_fl, len_str, tuple_tup, int_i, int_b, abs_i, max_ii, min_ii, seq_ref, diR1, diR2, items_tup, items_fl, same, Option.some.injEq, exists_eq_left', exists_eq_left, true_and, and_true, if_true, if_false, ite_true, ite_false, Bool.false_eq_true, reduceIte, List.length_cons, List.length_nil, Nat.reduceAdd, Nat.zero_add, decide_true, decide_false, Bool.not_true, Bool.not_false, forall_const, forall_eq, sl_ref, dNeg, wipeG, wipeG.nv, dYes, cut_1, dLoop, wantI_some, wantL_some, wantK_some, wantB_some, mupd_app, ix_ref, ix_tupA, len_ref, tuple_ref, list_ref, list_tup, list_fl, mul_ref, add_ref, setL_ref, lm_ref, append_at, extend_ref, dget_ref, sum_ref, max_ref, min_ref, at_0, at_1, at_2, at_3, at_4, isi_eq, tyD_int, tyD_bl, tyD_str, tyD_tup, tyD_non, kit_ii, kit_ib, kit_is, kit_it, kit_bi, kit_bb, kit_bs, kit_bt, kit_si, kit_sb, kit_ss, kit_st, kit_ti, kit_tb, kit_ts, kit_tt, kit_ni, kit_nb, kit_ns, kit_nt, kit_li, kit_lb, kit_ls, kit_lt, eq_self, hw, hw2, dLc, dCL, List.nil_append]
      refine ⟨p, rfl, by omega, sz (by simp), r, rfl, by omega, sz (by simp), fun l hl => ?_⟩
      simp only [dSeq, dAsg, dgN, dRet, dRetN, dIfS, dVar, gv_0, gv_s, sv_0, sv_s, dC, dOp, dB, asB_b, dAnd, dOr, dNot, dAndV, dOrV, dNotV, dIf, dTru, DTru, dCons, dNil, dTup, dLst, dCall, dCB, dFor, dDrop, dPart, dNo, dNext, dBreak, dCont, dPar, dgT, dgAll, ix_t0, ix_t1, ix_t2, ix_t3, ix_t4, eq_ss, eq_ii, eq_si, eq_is, eq_bb, ne_ss, ne_ii, ne_si, ne_is, ne_bb, add_ii, add_ss, add_tt, mul_ii, mul_ti, oI_ii, oI0_ii, oB0_ii, is_non, isnot_non, isNon_non, isNon_int, isNon_str, isNon_bl, isNon_tup, len_tup, len_fl, len_str, tuple_tup, int_i, int_b, abs_i, max_ii, min_ii, seq_ref, diR1, diR2, items_tup, items_fl, same, Option.some.injEq, exists_eq_left', exists_eq_left, true_and, and_true, if_true, if_false, ite_true, ite_false, Bool.false_eq_true, reduceIte, List.length_cons, List.length_nil, Nat.reduceAdd, Nat.zero_add, decide_true, decide_false, Bool.not_true, Bool.not_false, forall_const, forall_eq, sl_ref, dNeg, wipeG, wipeG.nv, dYes, cut_1, dLoop, wantI_some, wantL_some, wantK_some, wantB_some, mupd_app, ix_ref, ix_tupA, len_ref, tuple_ref, list_ref, list_tup, list_fl, mul_ref, add_ref, setL_ref, lm_ref, append_at, extend_ref, dget_ref, sum_ref, max_ref, min_ref, at_0, at_1, at_2, at_3, at_4, isi_eq, tyD_int, tyD_bl, tyD_str, tyD_tup, tyD_non, kit_ii, kit_ib, kit_is, kit_it, kit_bi, kit_bb, kit_bs, kit_bt, kit_si, kit_sb, kit_ss, kit_st, kit_ti, kit_tb, kit_ts, kit_tt, kit_ni, kit_nb, kit_ns, kit_nt, kit_li, kit_lb, kit_ls, kit_lt, eq_self, dCL, List.nil_append, List.cons_append]
      refine ⟨sz (by simp), sz (by simp), fun l2 hl2 => ?_⟩
      obtain ⟨n2, hl2⟩ := none_if hl2
      simp only [dSeq, dAsg, dgN, dRet, dRetN, dIfS, dVar, gv_0, gv_s, sv_0, sv_s, dC, dOp, dB, asB_b, dAnd, dOr, dNot, dAndV, dOrV, dNotV, dIf, dTru, DTru, dCons, dNil, dTup, dLst, dCall, dCB, dFor, dDrop, dPart, dNo, dNext, dBreak, dCont, dPar, dgT, dgAll, ix_t0, ix_t1, ix_t2, ix_t3, ix_t4, eq_ss, eq_ii, eq_si, eq_is, eq_bb, ne_ss, ne_ii, ne_si, ne_is, ne_bb, add_ii, add_ss, add_tt, mul_ii, mul_ti, oI_ii, oI0_ii, oB0_ii, is_non, isnot_non, isNon_non, isNon_int, isNon_str, isNon_bl, isNon_tup, len_tup, len_fl, len_str, tuple_tup, int_i, int_b, abs_i, max_ii, min_ii, seq_ref, diR1, diR2, items_tup, items_fl, same, Option.some.injEq, exists_eq_left', exists_eq_left, true_and, and_true, if_true, if_false, ite_true, ite_false, Bool.false_eq_true, reduceIte, List.length_cons, List.length_nil, Nat.reduceAdd, Nat.zero_add, decide_true, decide_false, Bool.not_true, Bool.not_false, forall_const, forall_eq, sl_ref, dNeg, wipeG, wipeG.nv, dYes, cut_1, dLoop, wantI_some, wantL_some, wantK_some, wantB_some, mupd_app, ix_ref, ix_tupA, len_ref, tuple_ref, list_ref, list_tup, list_fl, mul_ref, add_ref, setL_ref, lm_ref, append_at, extend_ref, dget_ref, sum_ref, max_ref, min_ref, at_0, at_1, at_2, at_3, at_4, isi_eq, tyD_int, tyD_bl, tyD_str, tyD_tup, tyD_non, kit_ii, kit_ib, kit_is, kit_it, kit_bi, kit_bb, kit_bs, kit_bt, kit_si, kit_sb, kit_ss, kit_st, kit_ti, kit_tb, kit_ts, kit_tt, kit_ni, kit_nb, kit_ns, kit_nt, kit_li, kit_lb, kit_ls, kit_lt, eq_self, n2, n2.symm, dCL, List.nil_append, List.cons_append]
      refine ⟨sz (by simp), sz (by simp), fun l3 hl3 => ?_⟩
      obtain ⟨n3, hl3⟩ := none_if hl3
      obtain ⟨n32, hl3⟩ := none_if hl3
      refine ⟨.bin o p r, l3, [p.most, r.most], ?_, ?_, rfl, ?_⟩
      · simp only [enc, hw0]
      · simp only [dSeq, dAsg, dgN, dRet, dRetN, dIfS, dVar, gv_0, gv_s, sv_0, sv_s, dC, dOp, dB, asB_b, dAnd, dOr, dNot, dAndV, dOrV, dNotV, dIf, dTru, DTru, dCons, dNil, dTup, dLst, dCall, dCB, dFor, dDrop, dPart, dNo, dNext, dBreak, dCont, dPar, dgT, dgAll, ix_t0, ix_t1, ix_t2, ix_t3, ix_t4, eq_ss, eq_ii, eq_si, eq_is, eq_bb, ne_ss, ne_ii, ne_si, ne_is, ne_bb, add_ii, add_ss, add_tt, mul_ii, mul_ti, oI_ii, oI0_ii, oB0_ii, is_non, isnot_non, isNon_non, isNon_int, isNon_str, isNon_bl, isNon_tup, len_tup, len_fl, len_str, tuple_tup, int_i, int_b, abs_i, max_ii, min_ii, seq_ref, diR1, diR2, items_tup, items_fl, same, Option.some.injEq, exists_eq_left', exists_eq_left, true_and, and_true, if_true, if_false, ite_true, ite_false, Bool.false_eq_true, reduceIte, List.length_cons, List.length_nil, Nat.reduceAdd, Nat.zero_add, decide_true, decide_false, Bool.not_true, Bool.not_false, forall_const, forall_eq, sl_ref, dNeg, wipeG, wipeG.nv, dYes, cut_1, dLoop, wantI_some, wantL_some, wantK_some, wantB_some, mupd_app, ix_ref, ix_tupA, len_ref, tuple_ref, list_ref, list_tup, list_fl, mul_ref, add_ref, setL_ref, lm_ref, append_at, extend_ref, dget_ref, sum_ref, max_ref, min_ref, at_0, at_1, at_2, at_3, at_4, isi_eq, tyD_int, tyD_bl, tyD_str, tyD_tup, tyD_non, kit_ii, kit_ib, kit_is, kit_it, kit_bi, kit_bb, kit_bs, kit_bt, kit_si, kit_sb, kit_ss, kit_st, kit_ti, kit_tb, kit_ts, kit_tt, kit_ni, kit_nb, kit_ns, kit_nt, kit_li, kit_lb, kit_ls, kit_lt, eq_self]; rfl
      · rw [hmost]
        have fin : ∀ m : Int, m = (Pat.bin o p r).least → Wk Q (.tup [.int m, encO (Pat.bin o p r).most]) (mupd (mupd (mupd M l (.lst [.tup [.int p.least, encO p.most], .tup [.int r.least, encO r.most]])) l2 (.lst [.int p.least, .int r.least])) l3 (.lst [encO p.most, encO r.most])) := fun m hm => by
          rw [hm]
          exact Wk.sub (.drop hl3 (.drop hl2 (.drop hl .refl))) q
        simp only [hw3, dSeq, dAsg, dgN, dRet, dRetN, dIfS, dVar, gv_0, gv_s, sv_0, sv_s, dC, dOp, dB, asB_b, dAnd, dOr, dNot, dAndV, dOrV, dNotV, dIf, dTru, DTru, dCons, dNil, dTup, dLst, dCall, dCB, dFor, dDrop, dPart, dNo, dNext, dBreak, dCont, dPar, dgT, dgAll, ix_t0, ix_t1, ix_t2, ix_t3, ix_t4, eq_ss, eq_ii, eq_si, eq_is, eq_bb, ne_ss, ne_ii, ne_si, ne_is, ne_bb, add_ii, add_ss, add_tt, mul_ii, mul_ti, oI_ii, oI0_ii, oB0_ii, is_non, isnot_non, isNon_non, isNon_int, isNon_str, isNon_bl, isNon_tup, len_tup, len_fl, len_str, tuple_tup, int_i, int_b, abs_i, max_ii, min_ii, seq_ref, diR1, diR2, items_tup, items_fl, same, Option.some.injEq, exists_eq_left', exists_eq_left, true_and, and_true, if_true, if_false, ite_true, ite_false, Bool.false_eq_true, reduceIte, List.length_cons, List.length_nil, Nat.reduceAdd, Nat.zero_add, decide_true, decide_false, Bool.not_true, Bool.not_false, forall_const, forall_eq, sl_ref, dNeg, wipeG, wipeG.nv, dYes, cut_1, dLoop, wantI_some, wantL_some, wantK_some, wantB_some, mupd_app, ix_ref, ix_tupA, len_ref, tuple_ref, list_ref, list_tup, list_fl, mul_ref, add_ref, setL_ref, lm_ref, append_at, extend_ref, dget_ref, sum_ref, max_ref, min_ref, at_0, at_1, at_2, at_3, at_4, isi_eq, tyD_int, tyD_bl, tyD_str, tyD_tup, tyD_non, kit_ii, kit_ib, kit_is, kit_it, kit_bi, kit_bb, kit_bs, kit_bt, kit_si, kit_sb, kit_ss, kit_st, kit_ti, kit_tb, kit_ts, kit_tt, kit_ni, kit_nb, kit_ns, kit_nt, kit_li, kit_lb, kit_ls, kit_lt, eq_self]
        cases o with
        | true =>
          simp only [dSeq, dAsg, dgN, dRet, dRetN, dIfS, dVar, gv_0, gv_s, sv_0, sv_s, dC, dOp, dB, asB_b, dAnd, dOr, dNot, dAndV, dOrV, dNotV, dIf, dTru, DTru, dCons, dNil, dTup, dLst, dCall, dCB, dFor, dDrop, dPart, dNo, dNext, dBreak, dCont, dPar, dgT, dgAll, ix_t0, ix_t1, ix_t2, ix_t3, ix_t4, eq_ss, eq_ii, eq_si, eq_is, eq_bb, ne_ss, ne_ii, ne_si, ne_is, ne_bb, add_ii, add_ss, add_tt, mul_ii, mul_ti, oI_ii, oI0_ii, oB0_ii, is_non, isnot_non, isNon_non, isNon_int, isNon_str, isNon_bl, isNon_tup, len_tup, len_fl, len_str, tuple_tup, int_i, int_b, abs_i, max_ii, min_ii, seq_ref, diR1, diR2, items_tup, items_fl, same, Option.some.injEq, exists_eq_left', exists_eq_left, true_and, and_true, if_true, if_false, ite_true, ite_false, Bool.false_eq_true, reduceIte, List.length_cons, List.length_nil, Nat.reduceAdd, Nat.zero_add, decide_true, decide_false, Bool.not_true, Bool.not_false, forall_const, forall_eq, sl_ref, dNeg, wipeG, wipeG.nv, dYes, cut_1, dLoop, wantI_some, wantL_some, wantK_some, wantB_some, mupd_app, ix_ref, ix_tupA, len_ref, tuple_ref, list_ref, list_tup, list_fl, mul_ref, add_ref, setL_ref, lm_ref, append_at, extend_ref, dget_ref, sum_ref, max_ref, min_ref, at_0, at_1, at_2, at_3, at_4, isi_eq, tyD_int, tyD_bl, tyD_str, tyD_tup, tyD_non, kit_ii, kit_ib, kit_is, kit_it, kit_bi, kit_bb, kit_bs, kit_bt, kit_si, kit_sb, kit_ss, kit_st, kit_ti, kit_tb, kit_ts, kit_tt, kit_ni, kit_nb, kit_ns, kit_nt, kit_li, kit_lb, kit_ls, kit_lt, eq_self, n3, n3.symm, n2, n2.symm, n32, n32.symm, intsOf, Option.map]
          refine ⟨by simp, fun m hm hx => ⟨sz (by simp), fin m ?_⟩⟩
          have h1 := hx p.least (by simp)
          have h2 := hx r.least (by simp)
          simp only [List.mem_cons, List.not_mem_nil, or_false] at hm
          simp only [Pat.least, if_true]
          rcases hm with hm | hm <;> subst hm <;> omega
        | false =>
          simp only [dSeq, dAsg, dgN, dRet, dRetN, dIfS, dVar, gv_0, gv_s, sv_0, sv_s, dC, dOp, dB, asB_b, dAnd, dOr, dNot, dAndV, dOrV, dNotV, dIf, dTru, DTru, dCons, dNil, dTup, dLst, dCall, dCB, dFor, dDrop, dPart, dNo, dNext, dBreak, dCont, dPar, dgT, dgAll, ix_t0, ix_t1, ix_t2, ix_t3, ix_t4, eq_ss, eq_ii, eq_si, eq_is, eq_bb, ne_ss, ne_ii, ne_si, ne_is, ne_bb, add_ii, add_ss, add_tt, mul_ii, mul_ti, oI_ii, oI0_ii, oB0_ii, is_non, isnot_non, isNon_non, isNon_int, isNon_str, isNon_bl, isNon_tup, len_tup, len_fl, len_str, tuple_tup, int_i, int_b, abs_i, max_ii, min_ii, seq_ref, diR1, diR2, items_tup, items_fl, same, Option.some.injEq, exists_eq_left', exists_eq_left, true_and, and_true, if_true, if_false, ite_true, ite_false, Bool.false_eq_true, reduceIte, List.length_cons, List.length_nil, Nat.reduceAdd, Nat.zero_add, decide_true, decide_false, Bool.not_true, Bool.not_false, forall_const, forall_eq, sl_ref, dNeg, wipeG, wipeG.nv, dYes, cut_1, dLoop, wantI_some, wantL_some, wantK_some, wantB_some, mupd_app, ix_ref, ix_tupA, len_ref, tuple_ref, list_ref, list_tup, list_fl, mul_ref, add_ref, setL_ref, lm_ref, append_at, extend_ref, dget_ref, sum_ref, max_ref, min_ref, at_0, at_1, at_2, at_3, at_4, isi_eq, tyD_int, tyD_bl, tyD_str, tyD_tup, tyD_non, kit_ii, kit_ib, kit_is, kit_it, kit_bi, kit_bb, kit_bs, kit_bt, kit_si, kit_sb, kit_ss, kit_st, kit_ti, kit_tb, kit_ts, kit_tt, kit_ni, kit_nb, kit_ns, kit_nt, kit_li, kit_lb, kit_ls, kit_lt, eq_self, n3, n3.symm, n2, n2.symm, n32, n32.symm, intsOf, Option.map, List.sum_cons, List.sum_nil, Int.add_zero]
          exact ⟨sz (by simp), fin _ rfl⟩
    cases o with
    | true => exact main _ rfl s_ot s_oa (by simp)
    | false => exact main _ rfl s_tt s_tha (by simp [s_tho])
end Lw
end
section
set_option maxHeartbeats 4000000
/-! k07, part C: the drum. -/
namespace Lw
open PySem L2 DL

/-- what stands outside the drum stays -/
def Fr (a b : Addr) (M M' : Mp) : Prop := ∀ x o, x ≠ a → x ≠ b → M x = some o → M' x = some o
theorem Fr.refl {a b : Addr} {M : Mp} : Fr a b M M := fun _ _ _ _ h => h
theorem Fr.trans {a b : Addr} {M M1 M2 : Mp} (p : Fr a b M M1) (q : Fr a b M1 M2) : Fr a b M M2 := fun x o h1 h2 h => q x o h1 h2 (p x o h1 h2 h)
theorem Fr.new {a b l : Addr} {M M1 : Mp} {o : MO} (p : Fr a b M M1) (h : M1 l = none) : Fr a b M (mupd M1 l o) := fun x u h1 h2 h3 => by
  have := p x u h1 h2 h3
  rw [mupd_ne (fresh_ne h this)]; exact this
def Drum (M : Mp) (a b : Addr) : Prop := ∃ (cells : List Int) (turn place : Int), a ≠ b ∧ M a = some (.lst [.ref b, .int turn, .int place]) ∧ M b = some (.lst (cells.map D.int)) ∧ cells.length ≤ 63
theorem Drum.ne {M : Mp} {a b l : Addr} (h : Drum M a b) (hl : M l = none) : l ≠ a ∧ l ≠ b := by
  obtain ⟨_, _, _, _, h1, h2, _⟩ := h
  exact ⟨(fresh_ne hl h1).symm, (fresh_ne hl h2).symm⟩
theorem Drum.of {M M' : Mp} {a b : Addr} (h : Drum M a b) (ha : M' a = M a) (hb : M' b = M b) : Drum M' a b := by
  obtain ⟨c, t, p, n, h1, h2, h3⟩ := h
  exact ⟨c, t, p, n, by rw [ha]; exact h1, by rw [hb]; exact h2, h3⟩
theorem Drum.upd {M : Mp} {a b l : Addr} {o : MO} (h : Drum M a b) (h1 : l ≠ a) (h2 : l ≠ b) : Drum (mupd M l o) a b := h.of (mupd_ne h1.symm) (mupd_ne h2.symm)
theorem Drum.new {M : Mp} {a b l : Addr} {o : MO} (h : Drum M a b) (hl : M l = none) : Drum (mupd M l o) a b := h.upd (h.ne hl).1 (h.ne hl).2

/-! ### _law_drum -/
def sp__law_drum : DSp := fun ds M Q _ => ∃ ns : List Int, ds = [.fl (ns.map D.int)] ∧ ∀ a b M', Sub M M' → M a = none → M b = none → Drum M' a b → Q (.ref a) M'
theorem ln__law_drum : ∀ ds M Q E, sp__law_drum ds M Q E → ds.length = 1 := fun _ _ _ _ ⟨_, h, _⟩ => by rw [h]; rfl
theorem hs__law_drum : ∀ ds M Q E, sp__law_drum ds M Q E → b__law_drum { nx := fun _ M' => Wk Q .non M', rt := Wk Q } (startG N__law_drum ds) M := by
  rintro ds M Q E ⟨ns, rfl, q⟩
  show b__law_drum _ [some (.fl (ns.map D.int)), none, none] M
  simp only [b__law_drum, dSeq, dAsg, dgN, dRet, dRetN, dIfS, dVar, gv_0, gv_s, sv_0, sv_s, dC, dOp, dB, asB_b, dAnd, dOr, dNot, dAndV, dOrV, dNotV, dIf, dTru, DTru, dCons, dNil, dTup, dLst, dCall, dCB, dFor, dDrop, dPart, dNo, dNext, dBreak, dCont, dPar, dgT, dgAll, ix_t0, ix_t1, ix_t2, ix_t3, ix_t4, eq_ss, eq_ii, eq_si, eq_is, eq_bb, ne_ss, ne_ii, ne_si, ne_is, ne_bb, add_ii, add_ss, add_tt, mul_ii, mul_ti, oI_ii, oI0_ii, oB0_ii, is_non, isnot_non, isNon_non, isNon_int, isNon_str, isNon_bl, isNon_tup, len_tup, len_fl, len_str, tuple_tup, int_i, int_b, abs_i, max_ii, min_ii, seq_ref, diR1, diR2, items_tup, items_fl, same, Option.some.injEq, exists_eq_left', exists_eq_left, true_and, and_true, if_true, if_false, ite_true, ite_false, Bool.false_eq_true, reduceIte, List.length_cons, List.length_nil, Nat.reduceAdd, Nat.zero_add, decide_true, decide_false, Bool.not_true, Bool.not_false, forall_const, forall_eq, sl_ref, dNeg, wipeG, wipeG.nv, dYes, cut_1, dLoop, wantI_some, wantL_some, wantK_some, wantB_some, mupd_app, ix_ref, ix_tupA, len_ref, tuple_ref, list_ref, list_tup, list_fl, mul_ref, add_ref, setL_ref, lm_ref, append_at, extend_ref, dget_ref, sum_ref, max_ref, min_ref, at_0, at_1, at_2, at_3, at_4, isi_eq, tyD_int, tyD_bl, tyD_str, tyD_tup, tyD_non, kit_ii, kit_ib, kit_is, kit_it, kit_bi, kit_bb, kit_bs, kit_bt, kit_si, kit_sb, kit_ss, kit_st, kit_ti, kit_tb, kit_ts, kit_tt, kit_ni, kit_nb, kit_ns, kit_nt, kit_li, kit_lb, kit_ls, kit_lt, eq_self]
  have p10 : CPow 10 60 := by unfold CPow; decide
  refine ⟨p10, p10, .inr (by unfold CMulW; decide +kernel), p10, .inr (by unfold CMulW; decide +kernel), p10, .inr (by unfold CMulW; decide +kernel), p10, .inr (by unfold CMulW; decide +kernel), ?_⟩
  have hpos : (0 : Int) < 10 ^ Int.toNat 60 * 10 ^ Int.toNat 60 * 10 ^ Int.toNat 60 * 10 ^ Int.toNat 60 * 10 ^ Int.toNat 60 := by decide +kernel
  revert hpos
  generalize (10 : Int) ^ Int.toNat 60 * 10 ^ Int.toNat 60 * 10 ^ Int.toNat 60 * 10 ^ Int.toNat 60 * 10 ^ Int.toNat 60 = skin
  intro hpos
  simp only [dLc, dSeq, dAsg, dgN, dRet, dRetN, dIfS, dVar, gv_0, gv_s, sv_0, sv_s, dC, dOp, dB, asB_b, dAnd, dOr, dNot, dAndV, dOrV, dNotV, dIf, dTru, DTru, dCons, dNil, dTup, dLst, dCall, dCB, dFor, dDrop, dPart, dNo, dNext, dBreak, dCont, dPar, dgT, dgAll, ix_t0, ix_t1, ix_t2, ix_t3, ix_t4, eq_ss, eq_ii, eq_si, eq_is, eq_bb, ne_ss, ne_ii, ne_si, ne_is, ne_bb, add_ii, add_ss, add_tt, mul_ii, mul_ti, oI_ii, oI0_ii, oB0_ii, is_non, isnot_non, isNon_non, isNon_int, isNon_str, isNon_bl, isNon_tup, len_tup, len_fl, len_str, tuple_tup, int_i, int_b, abs_i, max_ii, min_ii, seq_ref, diR1, diR2, items_tup, items_fl, same, Option.some.injEq, exists_eq_left', exists_eq_left, true_and, and_true, if_true, if_false, ite_true, ite_false, Bool.false_eq_true, reduceIte, List.length_cons, List.length_nil, Nat.reduceAdd, Nat.zero_add, decide_true, decide_false, Bool.not_true, Bool.not_false, forall_const, forall_eq, sl_ref, dNeg, wipeG, wipeG.nv, dYes, cut_1, dLoop, wantI_some, wantL_some, wantK_some, wantB_some, mupd_app, ix_ref, ix_tupA, len_ref, tuple_ref, list_ref, list_tup, list_fl, mul_ref, add_ref, setL_ref, lm_ref, append_at, extend_ref, dget_ref, sum_ref, max_ref, min_ref, at_0, at_1, at_2, at_3, at_4, isi_eq, tyD_int, tyD_bl, tyD_str, tyD_tup, tyD_non, kit_ii, kit_ib, kit_is, kit_it, kit_bi, kit_bb, kit_bs, kit_bt, kit_si, kit_sb, kit_ss, kit_st, kit_ti, kit_tb, kit_ts, kit_tt, kit_ni, kit_nb, kit_ns, kit_nt, kit_li, kit_lb, kit_ls, kit_lt, eq_self]
  intro p hp
  have e63 : cutD (ns.map D.int) none (some 63) = (ns.take 63).map D.int := by
    rw [List.map_take]; exact cut_take _ 63
  rw [e63]
  refine dCL_pure (fun d => match d with | .int n => some (.int (n % skin)) | _ => none) ?_ ?_ ?_ ?_
  · refine sz ?_
    simp only [List.length_nil, List.length_map, List.length_take]; omega
  · simp only [dSeq, dAsg, dgN, dRet, dRetN, dIfS, dVar, gv_0, gv_s, sv_0, sv_s, dC, dOp, dB, asB_b, dAnd, dOr, dNot, dAndV, dOrV, dNotV, dIf, dTru, DTru, dCons, dNil, dTup, dLst, dCall, dCB, dFor, dDrop, dPart, dNo, dNext, dBreak, dCont, dPar, dgT, dgAll, ix_t0, ix_t1, ix_t2, ix_t3, ix_t4, eq_ss, eq_ii, eq_si, eq_is, eq_bb, ne_ss, ne_ii, ne_si, ne_is, ne_bb, add_ii, add_ss, add_tt, mul_ii, mul_ti, oI_ii, oI0_ii, oB0_ii, is_non, isnot_non, isNon_non, isNon_int, isNon_str, isNon_bl, isNon_tup, len_tup, len_fl, len_str, tuple_tup, int_i, int_b, abs_i, max_ii, min_ii, seq_ref, diR1, diR2, items_tup, items_fl, same, Option.some.injEq, exists_eq_left', exists_eq_left, true_and, and_true, if_true, if_false, ite_true, ite_false, Bool.false_eq_true, reduceIte, List.length_cons, List.length_nil, Nat.reduceAdd, Nat.zero_add, decide_true, decide_false, Bool.not_true, Bool.not_false, forall_const, forall_eq, sl_ref, dNeg, wipeG, wipeG.nv, dYes, cut_1, dLoop, wantI_some, wantL_some, wantK_some, wantB_some, mupd_app, ix_ref, ix_tupA, len_ref, tuple_ref, list_ref, list_tup, list_fl, mul_ref, add_ref, setL_ref, lm_ref, append_at, extend_ref, dget_ref, sum_ref, max_ref, min_ref, at_0, at_1, at_2, at_3, at_4, isi_eq, tyD_int, tyD_bl, tyD_str, tyD_tup, tyD_non, kit_ii, kit_ib, kit_is, kit_it, kit_bi, kit_bb, kit_bs, kit_bt, kit_si, kit_sb, kit_ss, kit_st, kit_ti, kit_tb, kit_ts, kit_tt, kit_ni, kit_nb, kit_ns, kit_nt, kit_li, kit_lb, kit_ls, kit_lt, eq_self]
  · intro d hd Ny Nn hy hn
    obtain ⟨n, hn', rfl⟩ := List.mem_map.mp hd
    simp only [dSeq, dAsg, dgN, dRet, dRetN, dIfS, dVar, gv_0, gv_s, sv_0, sv_s, dC, dOp, dB, asB_b, dAnd, dOr, dNot, dAndV, dOrV, dNotV, dIf, dTru, DTru, dCons, dNil, dTup, dLst, dCall, dCB, dFor, dDrop, dPart, dNo, dNext, dBreak, dCont, dPar, dgT, dgAll, ix_t0, ix_t1, ix_t2, ix_t3, ix_t4, eq_ss, eq_ii, eq_si, eq_is, eq_bb, ne_ss, ne_ii, ne_si, ne_is, ne_bb, add_ii, add_ss, add_tt, mul_ii, mul_ti, oI_ii, oI0_ii, oB0_ii, is_non, isnot_non, isNon_non, isNon_int, isNon_str, isNon_bl, isNon_tup, len_tup, len_fl, len_str, tuple_tup, int_i, int_b, abs_i, max_ii, min_ii, seq_ref, diR1, diR2, items_tup, items_fl, same, Option.some.injEq, exists_eq_left', exists_eq_left, true_and, and_true, if_true, if_false, ite_true, ite_false, Bool.false_eq_true, reduceIte, List.length_cons, List.length_nil, Nat.reduceAdd, Nat.zero_add, decide_true, decide_false, Bool.not_true, Bool.not_false, forall_const, forall_eq, sl_ref, dNeg, wipeG, wipeG.nv, dYes, cut_1, dLoop, wantI_some, wantL_some, wantK_some, wantB_some, mupd_app, ix_ref, ix_tupA, len_ref, tuple_ref, list_ref, list_tup, list_fl, mul_ref, add_ref, setL_ref, lm_ref, append_at, extend_ref, dget_ref, sum_ref, max_ref, min_ref, at_0, at_1, at_2, at_3, at_4, isi_eq, tyD_int, tyD_bl, tyD_str, tyD_tup, tyD_non, kit_ii, kit_ib, kit_is, kit_it, kit_bi, kit_bb, kit_bs, kit_bt, kit_si, kit_sb, kit_ss, kit_st, kit_ti, kit_tb, kit_ts, kit_tt, kit_ni, kit_nb, kit_ns, kit_nt, kit_li, kit_lb, kit_ls, kit_lt, eq_self]
    exact ⟨hpos, hy _ rfl⟩
  · intro b hb
    obtain ⟨hbp, hb⟩ := none_if hb
    refine ⟨sz (by decide), fun a ha => ?_⟩
    obtain ⟨hab, ha⟩ := none_if ha
    obtain ⟨hap, ha⟩ := none_if ha
    refine Wk.of (q a b _ (.drop ha (.drop hb (.drop hp .refl))) ha hb ⟨(ns.take 63).map (· % skin), 0, 0, hab, mupd_same, ?_, ?_⟩)
    · rw [mupd_ne hab.symm, mupd_same]
      congr 2
      rw [List.nil_append, List.filterMap_map, List.map_map]
      induction ns.take 63 with
      | nil => rfl
      | cons n r ih => simp only [List.filterMap_cons, Function.comp, List.map_cons, ih]
    · simp only [List.length_map, List.length_take]; omega

/-! ### _law_pull -/
def sp__law_pull : DSp := fun ds M Q _ => ∃ (a b : Addr) (m : Int), ds = [.ref a, .int m] ∧ Drum M a b ∧ 0 < m ∧ m < 1073741824 ∧ ∀ r M', 0 ≤ r → r < m → Drum M' a b → Fr a b M M' → Q (.int r) M'
theorem ln__law_pull : ∀ ds M Q E, sp__law_pull ds M Q E → ds.length = 2 := fun _ _ _ _ ⟨_, _, _, h, _⟩ => by rw [h]; rfl
theorem hs__law_pull : ∀ ds M Q E, sp__law_pull ds M Q E → b__law_pull { nx := fun _ M' => Wk Q .non M', rt := Wk Q } (startG N__law_pull ds) M := by
  rintro ds M Q E ⟨a, b, m, rfl, ⟨cells, turn, place, hab, h1, h2, h3⟩, m0, m1, q⟩
  show b__law_pull _ [some (.ref a), some (.int m), none, none, none, none, none] M
  have fr : ∀ (M' : Mp), (∀ x, x ≠ a → x ≠ b → M' x = M x) → Fr a b M M' := fun M' h x o n1 n2 e => by rw [h x n1 n2]; exact e
  have e1 : ixN 3 1 = some 1 := by decide
  have e2 : ixN 3 2 = some 2 := by decide
  have tail1 : ∀ (M' : Mp) (x : Int), Drum M' a b → Fr a b M M' → Wk Q (.int (x % m)) M' := fun M' x d f => Wk.of (q _ _ (Int.emod_nonneg _ (by omega)) (Int.emod_lt_of_pos _ m0) d f)
  simp only [b__law_pull, dSeq, dAsg, dgN, dRet, dRetN, dIfS, dVar, gv_0, gv_s, sv_0, sv_s, dC, dOp, dB, asB_b, dAnd, dOr, dNot, dAndV, dOrV, dNotV, dIf, dTru, DTru, dCons, dNil, dTup, dLst, dCall, dCB, dFor, dDrop, dPart, dNo, dNext, dBreak, dCont, dPar, dgT, dgAll, ix_t0, ix_t1, ix_t2, ix_t3, ix_t4, eq_ss, eq_ii, eq_si, eq_is, eq_bb, ne_ss, ne_ii, ne_si, ne_is, ne_bb, add_ii, add_ss, add_tt, mul_ii, mul_ti, oI_ii, oI0_ii, oB0_ii, is_non, isnot_non, isNon_non, isNon_int, isNon_str, isNon_bl, isNon_tup, len_tup, len_fl, len_str, tuple_tup, int_i, int_b, abs_i, max_ii, min_ii, seq_ref, diR1, diR2, items_tup, items_fl, same, Option.some.injEq, exists_eq_left', exists_eq_left, true_and, and_true, if_true, if_false, ite_true, ite_false, Bool.false_eq_true, reduceIte, List.length_cons, List.length_nil, Nat.reduceAdd, Nat.zero_add, decide_true, decide_false, Bool.not_true, Bool.not_false, forall_const, forall_eq, sl_ref, dNeg, wipeG, wipeG.nv, dYes, cut_1, dLoop, wantI_some, wantL_some, wantK_some, wantB_some, mupd_app, ix_ref, ix_tupA, len_ref, tuple_ref, list_ref, list_tup, list_fl, mul_ref, add_ref, setL_ref, lm_ref, append_at, extend_ref, dget_ref, sum_ref, max_ref, min_ref, at_0, at_1, at_2, at_3, at_4, isi_eq, tyD_int, tyD_bl, tyD_str, tyD_tup, tyD_non, kit_ii, kit_ib, kit_is, kit_it, kit_bi, kit_bb, kit_bs, kit_bt, kit_si, kit_sb, kit_ss, kit_st, kit_ti, kit_tb, kit_ts, kit_tt, kit_ni, kit_nb, kit_ns, kit_nt, kit_li, kit_lb, kit_ls, kit_lt, eq_self, h1, e1, List.set, hab.symm, h2]
  have mr : ∀ x y z : Int, 0 < z → z < 18446744073709551616 → MulOk (x % z) y := fun x y z h0 h1 => .inl (.inl ⟨by have := Int.emod_nonneg x (b := z) (by omega); omega, by have := Int.emod_lt_of_pos x h0; omega⟩)
  by_cases hc : decide (0 < ((cells.map D.int).length : Int)) = true
  · rw [if_pos hc]
    have hlen : 0 < ((cells.map D.int).length : Int) := of_decide_eq_true hc
    have p0 := Int.emod_nonneg place (b := ((cells.map D.int).length : Int)) (by omega)
    have p1 := Int.emod_lt_of_pos place hlen
    revert p0 p1
    generalize place % ((cells.map D.int).length : Int) = pl
    intro p0 p1
    obtain ⟨d, hd, hd2⟩ := atI_some p0 p1
    obtain ⟨c, hcm, rfl⟩ := List.mem_map.mp (List.mem_of_getElem? hd2)
    simp only [hd, dSeq, dAsg, dgN, dRet, dRetN, dIfS, dVar, gv_0, gv_s, sv_0, sv_s, dC, dOp, dB, asB_b, dAnd, dOr, dNot, dAndV, dOrV, dNotV, dIf, dTru, DTru, dCons, dNil, dTup, dLst, dCall, dCB, dFor, dDrop, dPart, dNo, dNext, dBreak, dCont, dPar, dgT, dgAll, ix_t0, ix_t1, ix_t2, ix_t3, ix_t4, eq_ss, eq_ii, eq_si, eq_is, eq_bb, ne_ss, ne_ii, ne_si, ne_is, ne_bb, add_ii, add_ss, add_tt, mul_ii, mul_ti, oI_ii, oI0_ii, oB0_ii, is_non, isnot_non, isNon_non, isNon_int, isNon_str, isNon_bl, isNon_tup, len_tup, len_fl, len_str, tuple_tup, int_i, int_b, abs_i, max_ii, min_ii, seq_ref, diR1, diR2, items_tup, items_fl, same, Option.some.injEq, exists_eq_left', exists_eq_left, true_and, and_true, if_true, if_false, ite_true, ite_false, Bool.false_eq_true, reduceIte, List.length_cons, List.length_nil, Nat.reduceAdd, Nat.zero_add, decide_true, decide_false, Bool.not_true, Bool.not_false, forall_const, forall_eq, sl_ref, dNeg, wipeG, wipeG.nv, dYes, cut_1, dLoop, wantI_some, wantL_some, wantK_some, wantB_some, mupd_app, ix_ref, ix_tupA, len_ref, tuple_ref, list_ref, list_tup, list_fl, mul_ref, add_ref, setL_ref, lm_ref, append_at, extend_ref, dget_ref, sum_ref, max_ref, min_ref, at_0, at_1, at_2, at_3, at_4, isi_eq, tyD_int, tyD_bl, tyD_str, tyD_tup, tyD_non, kit_ii, kit_ib, kit_is, kit_it, kit_bi, kit_bb, kit_bs, kit_bt, kit_si, kit_sb, kit_ss, kit_st, kit_ti, kit_tb, kit_ts, kit_tt, kit_ni, kit_nb, kit_ns, kit_nt, kit_li, kit_lb, kit_ls, kit_lt, eq_self, e2, List.set]
    refine ⟨hlen, by unfold CPow; decide, ?_⟩
    have hset : ∀ n (x : Int), ∃ cs : List Int, (cells.map D.int).set n (.int x) = cs.map D.int ∧ cs.length ≤ 63 := fun n x => ⟨cells.set n x, by rw [List.map_set], by rw [List.length_set]; exact h3⟩
    by_cases hg : decide (c ≥ 10 ^ Int.toNat 17) = true
    · rw [if_pos hg]
      simp only [ixN_nn p0 p1, h2, dSeq, dAsg, dgN, dRet, dRetN, dIfS, dVar, gv_0, gv_s, sv_0, sv_s, dC, dOp, dB, asB_b, dAnd, dOr, dNot, dAndV, dOrV, dNotV, dIf, dTru, DTru, dCons, dNil, dTup, dLst, dCall, dCB, dFor, dDrop, dPart, dNo, dNext, dBreak, dCont, dPar, dgT, dgAll, ix_t0, ix_t1, ix_t2, ix_t3, ix_t4, eq_ss, eq_ii, eq_si, eq_is, eq_bb, ne_ss, ne_ii, ne_si, ne_is, ne_bb, add_ii, add_ss, add_tt, mul_ii, mul_ti, oI_ii, oI0_ii, oB0_ii, is_non, isnot_non, isNon_non, isNon_int, isNon_str, isNon_bl, isNon_tup, len_tup, len_fl, len_str, tuple_tup, int_i, int_b, abs_i, max_ii, min_ii, seq_ref, diR1, diR2, items_tup, items_fl, same, Option.some.injEq, exists_eq_left', exists_eq_left, true_and, and_true, if_true, if_false, ite_true, ite_false, Bool.false_eq_true, reduceIte, List.length_cons, List.length_nil, Nat.reduceAdd, Nat.zero_add, decide_true, decide_false, Bool.not_true, Bool.not_false, forall_const, forall_eq, sl_ref, dNeg, wipeG, wipeG.nv, dYes, cut_1, dLoop, wantI_some, wantL_some, wantK_some, wantB_some, mupd_app, ix_ref, ix_tupA, len_ref, tuple_ref, list_ref, list_tup, list_fl, mul_ref, add_ref, setL_ref, lm_ref, append_at, extend_ref, dget_ref, sum_ref, max_ref, min_ref, at_0, at_1, at_2, at_3, at_4, isi_eq, tyD_int, tyD_bl, tyD_str, tyD_tup, tyD_non, kit_ii, kit_ib, kit_is, kit_it, kit_bi, kit_bb, kit_bs, kit_bt, kit_si, kit_sb, kit_ss, kit_st, kit_ti, kit_tb, kit_ts, kit_tt, kit_ni, kit_nb, kit_ns, kit_nt, kit_li, kit_lb, kit_ls, kit_lt, eq_self, hab.symm]
      refine ⟨.inl ⟨m0, m1⟩, m0, tail1 _ _ ?_ ?_⟩
      · obtain ⟨cs, e, hl⟩ := hset pl.toNat (c / m)
        refine ⟨cs, turn + 1, place, hab, ?_, ?_, hl⟩
        · rw [mupd_ne hab, mupd_same]
        · rw [mupd_same, e]
      · exact fr _ fun x n1 n2 => by rw [mupd_ne n2, mupd_ne n1]
    · rw [if_neg hg]
      refine ⟨.inl (.inr (by decide)), .inl (.inr (by decide)), by decide, by decide, mr _ _ _ (by decide) (by decide), .inl (.inr (by decide)), by decide, mr _ _ _ (by decide) (by decide), .inl (.inr (by decide)), by decide, .inl (by unfold CDiv; decide), m0, tail1 _ _ ?_ ?_⟩
      · refine ⟨cells, turn + 1, pl + 1, hab, mupd_same, ?_, h3⟩
        rw [mupd_ne hab.symm, mupd_ne hab.symm]; exact h2
      · exact fr _ fun x n1 n2 => by rw [mupd_ne n1, mupd_ne n1]
  · rw [if_neg hc]
    refine ⟨.inl (.inr (by decide)), .inl (.inr (by decide)), by decide, by decide, mr _ _ _ (by decide) (by decide), .inl (.inr (by decide)), by decide, mr _ _ _ (by decide) (by decide), .inl (.inr (by decide)), by decide, .inl (by unfold CDiv; decide), m0, tail1 _ _ ?_ ?_⟩
    · refine ⟨cells, turn + 1, place, hab, mupd_same, ?_, h3⟩
      rw [mupd_ne hab.symm]; exact h2
    · exact fr _ fun x n1 n2 => by rw [mupd_ne n1]

/-! ### _law_whole -/
def sp__law_whole : DSp := fun ds M Q _ => ∃ d, ds = [d] ∧ match d with
  | .int _ => Q (.bl true) M
  | .bl _ => Q (.bl false) M
  | .str _ => Q (.bl false) M
  | .tup _ => Q (.bl false) M
  | .non => Q (.bl false) M
  | _ => False
theorem ln__law_whole : ∀ ds M Q E, sp__law_whole ds M Q E → ds.length = 1 := fun _ _ _ _ ⟨_, h, _⟩ => by rw [h]; rfl
theorem hs__law_whole : ∀ ds M Q E, sp__law_whole ds M Q E → b__law_whole { nx := fun _ M' => Wk Q .non M', rt := Wk Q } (startG N__law_whole ds) M := by
  rintro ds M Q E ⟨d, rfl, q⟩
  show b__law_whole _ [some d] M
  cases d <;> first | exact q.elim | (simp only [b__law_whole, dSeq, dAsg, dgN, dRet, dRetN, dIfS, dVar, gv_0, gv_s, sv_0, sv_s, dC, dOp, dB, asB_b, dAnd, dOr, dNot, dAndV, dOrV, dNotV, dIf, dTru, DTru, dCons, dNil, dTup, dLst, dCall, dCB, dFor, dDrop, dPart, dNo, dNext, dBreak, dCont, dPar, dgT, dgAll, ix_t0, ix_t1, ix_t2, ix_t3, ix_t4, eq_ss, eq_ii, eq_si, eq_is, eq_bb, ne_ss, ne_ii, ne_si, ne_is, ne_bb, add_ii, add_ss, add_tt, mul_ii, mul_ti, oI_ii, oI0_ii, oB0_ii, is_non, isnot_non, isNon_non, isNon_int, isNon_str, isNon_bl, isNon_tup, len_tup, len_fl, len_str, tuple_tup, int_i, int_b, abs_i, max_ii, min_ii, seq_ref, diR1, diR2, items_tup, items_fl, same, Option.some.injEq, exists_eq_left', exists_eq_left, true_and, and_true, if_true, if_false, ite_true, ite_false, Bool.false_eq_true, reduceIte, List.length_cons, List.length_nil, Nat.reduceAdd, Nat.zero_add, decide_true, decide_false, Bool.not_true, Bool.not_false, forall_const, forall_eq, sl_ref, dNeg, wipeG, wipeG.nv, dYes, cut_1, dLoop, wantI_some, wantL_some, wantK_some, wantB_some, mupd_app, ix_ref, ix_tupA, len_ref, tuple_ref, list_ref, list_tup, list_fl, mul_ref, add_ref, setL_ref, lm_ref, append_at, extend_ref, dget_ref, sum_ref, max_ref, min_ref, at_0, at_1, at_2, at_3, at_4, isi_eq, tyD_int, tyD_bl, tyD_str, tyD_tup, tyD_non, kit_ii, kit_ib, kit_is, kit_it, kit_bi, kit_bb, kit_bs, kit_bt, kit_si, kit_sb, kit_ss, kit_st, kit_ti, kit_tb, kit_ts, kit_tt, kit_ni, kit_nb, kit_ns, kit_nt, kit_li, kit_lb, kit_ls, kit_lt, eq_self]; exact Wk.of q)
end Lw
end
section
set_option maxHeartbeats 4000000
/-! k07, part D: names, tests, patterns. -/
namespace Lw
open PySem L2 DL

theorem ix_str {z : Str} {i : Int} {M : Mp} {Q : DK} (hz : z.length ≤ sizeLine) (h0 : 0 ≤ i) (h1 : i < z.length) (q : ∀ c : Str, c.length = 1 → Q (.str c) M) : oIx (.str z) (.int i) M Q := by
  have hl : z.cps.toList.length = z.length := Array.length_toList
  obtain ⟨c, e, _⟩ := atI_some (xs := z.cps.toList) h0 (by omega)
  exact ⟨hz, c, e, q _ rfl⟩
theorem length_append_str (x y : Str) : (x ++ y).length = x.length + y.length := Array.size_append

/-! ### _law_name -/
def sp__law_name : DSp := fun ds M Q _ => ∃ (a b : Addr), ds = [.ref a] ∧ Drum M a b ∧ ∀ (s : Str) M', s.length ≤ 8 → Drum M' a b → Fr a b M M' → Q (.str s) M'
theorem ln__law_name : ∀ ds M Q E, sp__law_name ds M Q E → ds.length = 1 := fun _ _ _ _ ⟨_, _, h, _⟩ => by rw [h]; rfl
theorem hs__law_name : ∀ ds M Q E, sp__law_name ds M Q E → b__law_name sp__law_pull { nx := fun _ M' => Wk Q .non M', rt := Wk Q } (startG N__law_name ds) M := by
  rintro ds M Q E ⟨a, b, rfl, hD, q⟩
  show b__law_name _ _ [some (.ref a), none, none, none, none, none] M
  simp only [b__law_name, dSeq, dAsg, dgN, dRet, dRetN, dIfS, dVar, gv_0, gv_s, sv_0, sv_s, dC, dOp, dB, asB_b, dAnd, dOr, dNot, dAndV, dOrV, dNotV, dIf, dTru, DTru, dCons, dNil, dTup, dLst, dCall, dCB, dFor, dDrop, dPart, dNo, dNext, dBreak, dCont, dPar, dgT, dgAll, ix_t0, ix_t1, ix_t2, ix_t3, ix_t4, eq_ss, eq_ii, eq_si, eq_is, eq_bb, ne_ss, ne_ii, ne_si, ne_is, ne_bb, add_ii, add_ss, add_tt, mul_ii, mul_ti, oI_ii, oI0_ii, oB0_ii, is_non, isnot_non, isNon_non, isNon_int, isNon_str, isNon_bl, isNon_tup, len_tup, len_fl, len_str, tuple_tup, int_i, int_b, abs_i, max_ii, min_ii, seq_ref, diR1, diR2, items_tup, items_fl, same, Option.some.injEq, exists_eq_left', exists_eq_left, true_and, and_true, if_true, if_false, ite_true, ite_false, Bool.false_eq_true, reduceIte, List.length_cons, List.length_nil, Nat.reduceAdd, Nat.zero_add, decide_true, decide_false, Bool.not_true, Bool.not_false, forall_const, forall_eq, sl_ref, dNeg, wipeG, wipeG.nv, dYes, cut_1, dLoop, wantI_some, wantL_some, wantK_some, wantB_some, mupd_app, ix_ref, ix_tupA, len_ref, tuple_ref, list_ref, list_tup, list_fl, mul_ref, add_ref, setL_ref, lm_ref, append_at, extend_ref, dget_ref, sum_ref, max_ref, min_ref, at_0, at_1, at_2, at_3, at_4, isi_eq, tyD_int, tyD_bl, tyD_str, tyD_tup, tyD_non, kit_ii, kit_ib, kit_is, kit_it, kit_bi, kit_bb, kit_bs, kit_bt, kit_si, kit_sb, kit_ss, kit_st, kit_ti, kit_tb, kit_ts, kit_tt, kit_ni, kit_nb, kit_ns, kit_nt, kit_li, kit_lb, kit_ls, kit_lt, eq_self]
  refine ⟨sz (by decide +kernel), sz (by decide +kernel), fun l hl => ?_⟩
  have hD0 := hD.new (o := MO.lst [D.str "a", D.str "ab", D.str "abcdefgh", D.str "andy", D.str "orb", D.str "anyone", D.str "first1", D.str "never9", D.str "z0", D.str "thens", D.str "x"]) hl
  have hF0 := (Fr.refl (a := a) (b := b)).new (o := MO.lst [D.str "a", D.str "ab", D.str "abcdefgh", D.str "andy", D.str "orb", D.str "anyone", D.str "first1", D.str "never9", D.str "z0", D.str "thens", D.str "x"]) hl
  obtain ⟨la, lb⟩ := hD.ne hl
  refine ⟨a, b, 2, rfl, hD0, by decide, by decide, fun r M1 h0 h1 hD1 hF1 => ?_⟩
  have hM1 := hF1 l _ la lb mupd_same
  simp only [dSeq, dAsg, dgN, dRet, dRetN, dIfS, dVar, gv_0, gv_s, sv_0, sv_s, dC, dOp, dB, asB_b, dAnd, dOr, dNot, dAndV, dOrV, dNotV, dIf, dTru, DTru, dCons, dNil, dTup, dLst, dCall, dCB, dFor, dDrop, dPart, dNo, dNext, dBreak, dCont, dPar, dgT, dgAll, ix_t0, ix_t1, ix_t2, ix_t3, ix_t4, eq_ss, eq_ii, eq_si, eq_is, eq_bb, ne_ss, ne_ii, ne_si, ne_is, ne_bb, add_ii, add_ss, add_tt, mul_ii, mul_ti, oI_ii, oI0_ii, oB0_ii, is_non, isnot_non, isNon_non, isNon_int, isNon_str, isNon_bl, isNon_tup, len_tup, len_fl, len_str, tuple_tup, int_i, int_b, abs_i, max_ii, min_ii, seq_ref, diR1, diR2, items_tup, items_fl, same, Option.some.injEq, exists_eq_left', exists_eq_left, true_and, and_true, if_true, if_false, ite_true, ite_false, Bool.false_eq_true, reduceIte, List.length_cons, List.length_nil, Nat.reduceAdd, Nat.zero_add, decide_true, decide_false, Bool.not_true, Bool.not_false, forall_const, forall_eq, sl_ref, dNeg, wipeG, wipeG.nv, dYes, cut_1, dLoop, wantI_some, wantL_some, wantK_some, wantB_some, mupd_app, ix_ref, ix_tupA, len_ref, tuple_ref, list_ref, list_tup, list_fl, mul_ref, add_ref, setL_ref, lm_ref, append_at, extend_ref, dget_ref, sum_ref, max_ref, min_ref, at_0, at_1, at_2, at_3, at_4, isi_eq, tyD_int, tyD_bl, tyD_str, tyD_tup, tyD_non, kit_ii, kit_ib, kit_is, kit_it, kit_bi, kit_bb, kit_bs, kit_bt, kit_si, kit_sb, kit_ss, kit_st, kit_ti, kit_tb, kit_ts, kit_tt, kit_ni, kit_nb, kit_ns, kit_nt, kit_li, kit_lb, kit_ls, kit_lt, eq_self, hM1]
  have hs8 : ∀ d ∈ [D.str "a", D.str "ab", D.str "abcdefgh", D.str "andy", D.str "orb", D.str "anyone", D.str "first1", D.str "never9", D.str "z0", D.str "thens", D.str "x"], ∃ s : Str, d = .str s ∧ s.length ≤ 8 := by
    intro d hd
    simp only [List.mem_cons, List.not_mem_nil, or_false] at hd
    rcases hd with h | h | h | h | h | h | h | h | h | h | h <;> exact ⟨_, h, by decide +kernel⟩
  split
  · refine ⟨a, b, 11, rfl, hD1, by decide, by decide, fun r2 M2 r0 r1 hD2 hF2 => ?_⟩
    have hM2 := hF2 l _ la lb hM1
    obtain ⟨d, e1, e2⟩ := atI_some (xs := [D.str "a", D.str "ab", D.str "abcdefgh", D.str "andy", D.str "orb", D.str "anyone", D.str "first1", D.str "never9", D.str "z0", D.str "thens", D.str "x"]) r0 r1
    obtain ⟨s, rfl, hs⟩ := hs8 _ (List.mem_of_getElem? e2)
    simp only [dSeq, dAsg, dgN, dRet, dRetN, dIfS, dVar, gv_0, gv_s, sv_0, sv_s, dC, dOp, dB, asB_b, dAnd, dOr, dNot, dAndV, dOrV, dNotV, dIf, dTru, DTru, dCons, dNil, dTup, dLst, dCall, dCB, dFor, dDrop, dPart, dNo, dNext, dBreak, dCont, dPar, dgT, dgAll, ix_t0, ix_t1, ix_t2, ix_t3, ix_t4, eq_ss, eq_ii, eq_si, eq_is, eq_bb, ne_ss, ne_ii, ne_si, ne_is, ne_bb, add_ii, add_ss, add_tt, mul_ii, mul_ti, oI_ii, oI0_ii, oB0_ii, is_non, isnot_non, isNon_non, isNon_int, isNon_str, isNon_bl, isNon_tup, len_tup, len_fl, len_str, tuple_tup, int_i, int_b, abs_i, max_ii, min_ii, seq_ref, diR1, diR2, items_tup, items_fl, same, Option.some.injEq, exists_eq_left', exists_eq_left, true_and, and_true, if_true, if_false, ite_true, ite_false, Bool.false_eq_true, reduceIte, List.length_cons, List.length_nil, Nat.reduceAdd, Nat.zero_add, decide_true, decide_false, Bool.not_true, Bool.not_false, forall_const, forall_eq, sl_ref, dNeg, wipeG, wipeG.nv, dYes, cut_1, dLoop, wantI_some, wantL_some, wantK_some, wantB_some, mupd_app, ix_ref, ix_tupA, len_ref, tuple_ref, list_ref, list_tup, list_fl, mul_ref, add_ref, setL_ref, lm_ref, append_at, extend_ref, dget_ref, sum_ref, max_ref, min_ref, at_0, at_1, at_2, at_3, at_4, isi_eq, tyD_int, tyD_bl, tyD_str, tyD_tup, tyD_non, kit_ii, kit_ib, kit_is, kit_it, kit_bi, kit_bb, kit_bs, kit_bt, kit_si, kit_sb, kit_ss, kit_st, kit_ti, kit_tb, kit_ts, kit_tt, kit_ni, kit_nb, kit_ns, kit_nt, kit_li, kit_lb, kit_ls, kit_lt, eq_self, hM2, e1]
    exact Wk.of (q s _ hs hD2 ((hF0.trans hF1).trans hF2))
  · refine ⟨a, b, 26, rfl, hD1, by decide, by decide, fun r2 M2 r0 r1 hD2 hF2 => ?_⟩
    refine ix_str (sz (by decide +kernel)) r0 (by have : Str.length (Str.ofString "abcdefghijklmnopqrstuvwxyz") = 26 := by decide +kernel
                                                  omega) fun c hc => ?_
    simp only [dSeq, dAsg, dgN, dRet, dRetN, dIfS, dVar, gv_0, gv_s, sv_0, sv_s, dC, dOp, dB, asB_b, dAnd, dOr, dNot, dAndV, dOrV, dNotV, dIf, dTru, DTru, dCons, dNil, dTup, dLst, dCall, dCB, dFor, dDrop, dPart, dNo, dNext, dBreak, dCont, dPar, dgT, dgAll, ix_t0, ix_t1, ix_t2, ix_t3, ix_t4, eq_ss, eq_ii, eq_si, eq_is, eq_bb, ne_ss, ne_ii, ne_si, ne_is, ne_bb, add_ii, add_ss, add_tt, mul_ii, mul_ti, oI_ii, oI0_ii, oB0_ii, is_non, isnot_non, isNon_non, isNon_int, isNon_str, isNon_bl, isNon_tup, len_tup, len_fl, len_str, tuple_tup, int_i, int_b, abs_i, max_ii, min_ii, seq_ref, diR1, diR2, items_tup, items_fl, same, Option.some.injEq, exists_eq_left', exists_eq_left, true_and, and_true, if_true, if_false, ite_true, ite_false, Bool.false_eq_true, reduceIte, List.length_cons, List.length_nil, Nat.reduceAdd, Nat.zero_add, decide_true, decide_false, Bool.not_true, Bool.not_false, forall_const, forall_eq, sl_ref, dNeg, wipeG, wipeG.nv, dYes, cut_1, dLoop, wantI_some, wantL_some, wantK_some, wantB_some, mupd_app, ix_ref, ix_tupA, len_ref, tuple_ref, list_ref, list_tup, list_fl, mul_ref, add_ref, setL_ref, lm_ref, append_at, extend_ref, dget_ref, sum_ref, max_ref, min_ref, at_0, at_1, at_2, at_3, at_4, isi_eq, tyD_int, tyD_bl, tyD_str, tyD_tup, tyD_non, kit_ii, kit_ib, kit_is, kit_it, kit_bi, kit_bb, kit_bs, kit_bt, kit_si, kit_sb, kit_ss, kit_st, kit_ti, kit_tb, kit_ts, kit_tt, kit_ni, kit_nb, kit_ns, kit_nt, kit_li, kit_lb, kit_ls, kit_lt, eq_self]
    have hq1 : Str.length (Str.ofString "q") = 1 := by decide +kernel
    refine ⟨sz (by omega), a, b, 7, rfl, hD2, by decide, by decide, fun r3 M3 s0 s1 hD3 hF3 => ?_⟩
    simp only [dSeq, dAsg, dgN, dRet, dRetN, dIfS, dVar, gv_0, gv_s, sv_0, sv_s, dC, dOp, dB, asB_b, dAnd, dOr, dNot, dAndV, dOrV, dNotV, dIf, dTru, DTru, dCons, dNil, dTup, dLst, dCall, dCB, dFor, dDrop, dPart, dNo, dNext, dBreak, dCont, dPar, dgT, dgAll, ix_t0, ix_t1, ix_t2, ix_t3, ix_t4, eq_ss, eq_ii, eq_si, eq_is, eq_bb, ne_ss, ne_ii, ne_si, ne_is, ne_bb, add_ii, add_ss, add_tt, mul_ii, mul_ti, oI_ii, oI0_ii, oB0_ii, is_non, isnot_non, isNon_non, isNon_int, isNon_str, isNon_bl, isNon_tup, len_tup, len_fl, len_str, tuple_tup, int_i, int_b, abs_i, max_ii, min_ii, seq_ref, diR1, diR2, items_tup, items_fl, same, Option.some.injEq, exists_eq_left', exists_eq_left, true_and, and_true, if_true, if_false, ite_true, ite_false, Bool.false_eq_true, reduceIte, List.length_cons, List.length_nil, Nat.reduceAdd, Nat.zero_add, decide_true, decide_false, Bool.not_true, Bool.not_false, forall_const, forall_eq, sl_ref, dNeg, wipeG, wipeG.nv, dYes, cut_1, dLoop, wantI_some, wantL_some, wantK_some, wantB_some, mupd_app, ix_ref, ix_tupA, len_ref, tuple_ref, list_ref, list_tup, list_fl, mul_ref, add_ref, setL_ref, lm_ref, append_at, extend_ref, dget_ref, sum_ref, max_ref, min_ref, at_0, at_1, at_2, at_3, at_4, isi_eq, tyD_int, tyD_bl, tyD_str, tyD_tup, tyD_non, kit_ii, kit_ib, kit_is, kit_it, kit_bi, kit_bb, kit_bs, kit_bt, kit_si, kit_sb, kit_ss, kit_st, kit_ti, kit_tb, kit_ts, kit_tt, kit_ni, kit_nb, kit_ns, kit_nt, kit_li, kit_lb, kit_ls, kit_lt, eq_self]
    refine ⟨⟨by omega, by omega⟩, ?_⟩
    have hs36 : Str.length (Str.ofString "abcdefghijklmnopqrstuvwxyz" ++ Str.ofString "0123456789") = 36 := by decide +kernel
    refine dLoop_inv (fun i Γ M' => ∃ (s : Str) (x : Option D), Γ = [some (D.ref a), some (D.str (Str.ofString "abcdefghijklmnopqrstuvwxyz")), some (D.str (Str.ofString "abcdefghijklmnopqrstuvwxyz" ++ Str.ofString "0123456789")), some (D.ref l), some (.str s), x] ∧ s.length ≤ 2 + i ∧ Drum M' a b ∧ Fr a b M M') ?_ ?_ ?_
    · rintro i d Γ M' N hi ⟨s, x, rfl, hs, hD', hF'⟩ hN
      have hi6 : i < (rgD 0 r3.toNat).length := (List.getElem?_eq_some_iff.mp hi).1
      rw [rgD_len] at hi6
      simp only [dSeq, dAsg, dgN, dRet, dRetN, dIfS, dVar, gv_0, gv_s, sv_0, sv_s, dC, dOp, dB, asB_b, dAnd, dOr, dNot, dAndV, dOrV, dNotV, dIf, dTru, DTru, dCons, dNil, dTup, dLst, dCall, dCB, dFor, dDrop, dPart, dNo, dNext, dBreak, dCont, dPar, dgT, dgAll, ix_t0, ix_t1, ix_t2, ix_t3, ix_t4, eq_ss, eq_ii, eq_si, eq_is, eq_bb, ne_ss, ne_ii, ne_si, ne_is, ne_bb, add_ii, add_ss, add_tt, mul_ii, mul_ti, oI_ii, oI0_ii, oB0_ii, is_non, isnot_non, isNon_non, isNon_int, isNon_str, isNon_bl, isNon_tup, len_tup, len_fl, len_str, tuple_tup, int_i, int_b, abs_i, max_ii, min_ii, seq_ref, diR1, diR2, items_tup, items_fl, same, Option.some.injEq, exists_eq_left', exists_eq_left, true_and, and_true, if_true, if_false, ite_true, ite_false, Bool.false_eq_true, reduceIte, List.length_cons, List.length_nil, Nat.reduceAdd, Nat.zero_add, decide_true, decide_false, Bool.not_true, Bool.not_false, forall_const, forall_eq, sl_ref, dNeg, wipeG, wipeG.nv, dYes, cut_1, dLoop, wantI_some, wantL_some, wantK_some, wantB_some, mupd_app, ix_ref, ix_tupA, len_ref, tuple_ref, list_ref, list_tup, list_fl, mul_ref, add_ref, setL_ref, lm_ref, append_at, extend_ref, dget_ref, sum_ref, max_ref, min_ref, at_0, at_1, at_2, at_3, at_4, isi_eq, tyD_int, tyD_bl, tyD_str, tyD_tup, tyD_non, kit_ii, kit_ib, kit_is, kit_it, kit_bi, kit_bb, kit_bs, kit_bt, kit_si, kit_sb, kit_ss, kit_st, kit_ti, kit_tb, kit_ts, kit_tt, kit_ni, kit_nb, kit_ns, kit_nt, kit_li, kit_lb, kit_ls, kit_lt, eq_self]
      refine ⟨a, b, 36, rfl, hD', by decide, by decide, fun r4 M4 u0 u1 hD4 hF4 => ?_⟩
      refine ix_str (sz (by omega)) u0 (by omega) fun c hc => ?_
      simp only [dSeq, dAsg, dgN, dRet, dRetN, dIfS, dVar, gv_0, gv_s, sv_0, sv_s, dC, dOp, dB, asB_b, dAnd, dOr, dNot, dAndV, dOrV, dNotV, dIf, dTru, DTru, dCons, dNil, dTup, dLst, dCall, dCB, dFor, dDrop, dPart, dNo, dNext, dBreak, dCont, dPar, dgT, dgAll, ix_t0, ix_t1, ix_t2, ix_t3, ix_t4, eq_ss, eq_ii, eq_si, eq_is, eq_bb, ne_ss, ne_ii, ne_si, ne_is, ne_bb, add_ii, add_ss, add_tt, mul_ii, mul_ti, oI_ii, oI0_ii, oB0_ii, is_non, isnot_non, isNon_non, isNon_int, isNon_str, isNon_bl, isNon_tup, len_tup, len_fl, len_str, tuple_tup, int_i, int_b, abs_i, max_ii, min_ii, seq_ref, diR1, diR2, items_tup, items_fl, same, Option.some.injEq, exists_eq_left', exists_eq_left, true_and, and_true, if_true, if_false, ite_true, ite_false, Bool.false_eq_true, reduceIte, List.length_cons, List.length_nil, Nat.reduceAdd, Nat.zero_add, decide_true, decide_false, Bool.not_true, Bool.not_false, forall_const, forall_eq, sl_ref, dNeg, wipeG, wipeG.nv, dYes, cut_1, dLoop, wantI_some, wantL_some, wantK_some, wantB_some, mupd_app, ix_ref, ix_tupA, len_ref, tuple_ref, list_ref, list_tup, list_fl, mul_ref, add_ref, setL_ref, lm_ref, append_at, extend_ref, dget_ref, sum_ref, max_ref, min_ref, at_0, at_1, at_2, at_3, at_4, isi_eq, tyD_int, tyD_bl, tyD_str, tyD_tup, tyD_non, kit_ii, kit_ib, kit_is, kit_it, kit_bi, kit_bb, kit_bs, kit_bt, kit_si, kit_sb, kit_ss, kit_st, kit_ti, kit_tb, kit_ts, kit_tt, kit_ni, kit_nb, kit_ns, kit_nt, kit_li, kit_lb, kit_ls, kit_lt, eq_self]
      refine ⟨sz (by omega), hN _ _ ⟨s ++ c, some d, rfl, by rw [length_append_str]; omega, hD4, hF'.trans hF4⟩⟩
    · rintro Γ M' ⟨s, x, rfl, hs, hD', hF'⟩
      rw [rgD_len] at hs
      simp only [dSeq, dAsg, dgN, dRet, dRetN, dIfS, dVar, gv_0, gv_s, sv_0, sv_s, dC, dOp, dB, asB_b, dAnd, dOr, dNot, dAndV, dOrV, dNotV, dIf, dTru, DTru, dCons, dNil, dTup, dLst, dCall, dCB, dFor, dDrop, dPart, dNo, dNext, dBreak, dCont, dPar, dgT, dgAll, ix_t0, ix_t1, ix_t2, ix_t3, ix_t4, eq_ss, eq_ii, eq_si, eq_is, eq_bb, ne_ss, ne_ii, ne_si, ne_is, ne_bb, add_ii, add_ss, add_tt, mul_ii, mul_ti, oI_ii, oI0_ii, oB0_ii, is_non, isnot_non, isNon_non, isNon_int, isNon_str, isNon_bl, isNon_tup, len_tup, len_fl, len_str, tuple_tup, int_i, int_b, abs_i, max_ii, min_ii, seq_ref, diR1, diR2, items_tup, items_fl, same, Option.some.injEq, exists_eq_left', exists_eq_left, true_and, and_true, if_true, if_false, ite_true, ite_false, Bool.false_eq_true, reduceIte, List.length_cons, List.length_nil, Nat.reduceAdd, Nat.zero_add, decide_true, decide_false, Bool.not_true, Bool.not_false, forall_const, forall_eq, sl_ref, dNeg, wipeG, wipeG.nv, dYes, cut_1, dLoop, wantI_some, wantL_some, wantK_some, wantB_some, mupd_app, ix_ref, ix_tupA, len_ref, tuple_ref, list_ref, list_tup, list_fl, mul_ref, add_ref, setL_ref, lm_ref, append_at, extend_ref, dget_ref, sum_ref, max_ref, min_ref, at_0, at_1, at_2, at_3, at_4, isi_eq, tyD_int, tyD_bl, tyD_str, tyD_tup, tyD_non, kit_ii, kit_ib, kit_is, kit_it, kit_bi, kit_bb, kit_bs, kit_bt, kit_si, kit_sb, kit_ss, kit_st, kit_ti, kit_tb, kit_ts, kit_tt, kit_ni, kit_nb, kit_ns, kit_nt, kit_li, kit_lb, kit_ls, kit_lt, eq_self]
      exact Wk.of (q s _ (by omega) hD' hF')
    · exact ⟨_, none, rfl, by rw [length_append_str]; omega, hD3, ((hF0.trans hF1).trans hF2).trans hF3⟩

theorem Fr.own {a b l : Addr} {M M1 : Mp} {o : MO} (p : Fr a b M M1) (h : M l = none) : Fr a b M (mupd M1 l o) := fun x u h1 h2 h3 => by
  rw [mupd_ne (fresh_ne h h3)]; exact p x u h1 h2 h3
theorem at_map {α : Type} {f : α → D} {xs : List α} {i : Int} (h0 : 0 ≤ i) (h1 : i < xs.length) : ∃ x, atI (xs.map f) i = some (f x) ∧ xs[i.toNat]? = some x := by
  obtain ⟨d, e1, e2⟩ := atI_some (xs := xs.map f) h0 (by rw [List.length_map]; exact h1)
  rw [List.getElem?_map] at e2
  cases e : xs[i.toNat]? with
  | none => rw [e] at e2; cases e2
  | some x => rw [e] at e2; cases e2; exact ⟨x, e1, rfl⟩

/-! ### _law_test -/
def sp__law_test : DSp := fun ds M Q _ => ∃ (a b : Addr), ds = [.ref a] ∧ Drum M a b ∧ ∀ (ts : List (Bool × Str)) M', ts.length ≤ 6 → Drum M' a b → Fr a b M M' → Q (enc (.test ts)) M'
theorem ln__law_test : ∀ ds M Q E, sp__law_test ds M Q E → ds.length = 1 := fun _ _ _ _ ⟨_, _, h, _⟩ => by rw [h]; rfl
theorem hs__law_test : ∀ ds M Q E, sp__law_test ds M Q E → b__law_test sp__law_pull sp__law_name { nx := fun _ M' => Wk Q .non M', rt := Wk Q } (startG N__law_test ds) M := by
  rintro ds M Q E ⟨a, b, rfl, hD, q⟩
  show b__law_test _ _ _ [some (.ref a), none, none, none] M
  simp only [b__law_test, dSeq, dAsg, dgN, dRet, dRetN, dIfS, dVar, gv_0, gv_s, sv_0, sv_s, dC, dOp, dB, asB_b, dAnd, dOr, dNot, dAndV, dOrV, dNotV, dIf, dTru, DTru, dCons, dNil, dTup, dLst, dCall, dCB, dFor, dDrop, dPart, dNo, dNext, dBreak, dCont, dPar, dgT, dgAll, ix_t0, ix_t1, ix_t2, ix_t3, ix_t4, eq_ss, eq_ii, eq_si, eq_is, eq_bb, ne_ss, ne_ii, ne_si, ne_is, ne_bb, add_ii, add_ss, add_tt, mul_ii, mul_ti, oI_ii, oI0_ii, oB0_ii, is_non, isnot_non, isNon_non, isNon_int, isNon_str, isNon_bl, isNon_tup, len_tup, len_fl, len_str, tuple_tup, int_i, int_b, abs_i, max_ii, min_ii, seq_ref, diR1, diR2, items_tup, items_fl, same, Option.some.injEq, exists_eq_left', exists_eq_left, true_and, and_true, if_true, if_false, ite_true, ite_false, Bool.false_eq_true, reduceIte, List.length_cons, List.length_nil, Nat.reduceAdd, Nat.zero_add, decide_true, decide_false, Bool.not_true, Bool.not_false, forall_const, forall_eq, sl_ref, dNeg, wipeG, wipeG.nv, dYes, cut_1, dLoop, wantI_some, wantL_some, wantK_some, wantB_some, mupd_app, ix_ref, ix_tupA, len_ref, tuple_ref, list_ref, list_tup, list_fl, mul_ref, add_ref, setL_ref, lm_ref, append_at, extend_ref, dget_ref, sum_ref, max_ref, min_ref, at_0, at_1, at_2, at_3, at_4, isi_eq, tyD_int, tyD_bl, tyD_str, tyD_tup, tyD_non, kit_ii, kit_ib, kit_is, kit_it, kit_bi, kit_bb, kit_bs, kit_bt, kit_si, kit_sb, kit_ss, kit_st, kit_ti, kit_tb, kit_ts, kit_tt, kit_ni, kit_nb, kit_ns, kit_nt, kit_li, kit_lb, kit_ls, kit_lt, eq_self]
  refine ⟨a, b, 7, rfl, hD, by decide, by decide, fun r M1 r0 r1 hD1 hF1 => ?_⟩
  simp only [dSeq, dAsg, dgN, dRet, dRetN, dIfS, dVar, gv_0, gv_s, sv_0, sv_s, dC, dOp, dB, asB_b, dAnd, dOr, dNot, dAndV, dOrV, dNotV, dIf, dTru, DTru, dCons, dNil, dTup, dLst, dCall, dCB, dFor, dDrop, dPart, dNo, dNext, dBreak, dCont, dPar, dgT, dgAll, ix_t0, ix_t1, ix_t2, ix_t3, ix_t4, eq_ss, eq_ii, eq_si, eq_is, eq_bb, ne_ss, ne_ii, ne_si, ne_is, ne_bb, add_ii, add_ss, add_tt, mul_ii, mul_ti, oI_ii, oI0_ii, oB0_ii, is_non, isnot_non, isNon_non, isNon_int, isNon_str, isNon_bl, isNon_tup, len_tup, len_fl, len_str, tuple_tup, int_i, int_b, abs_i, max_ii, min_ii, seq_ref, diR1, diR2, items_tup, items_fl, same, Option.some.injEq, exists_eq_left', exists_eq_left, true_and, and_true, if_true, if_false, ite_true, ite_false, Bool.false_eq_true, reduceIte, List.length_cons, List.length_nil, Nat.reduceAdd, Nat.zero_add, decide_true, decide_false, Bool.not_true, Bool.not_false, forall_const, forall_eq, sl_ref, dNeg, wipeG, wipeG.nv, dYes, cut_1, dLoop, wantI_some, wantL_some, wantK_some, wantB_some, mupd_app, ix_ref, ix_tupA, len_ref, tuple_ref, list_ref, list_tup, list_fl, mul_ref, add_ref, setL_ref, lm_ref, append_at, extend_ref, dget_ref, sum_ref, max_ref, min_ref, at_0, at_1, at_2, at_3, at_4, isi_eq, tyD_int, tyD_bl, tyD_str, tyD_tup, tyD_non, kit_ii, kit_ib, kit_is, kit_it, kit_bi, kit_bb, kit_bs, kit_bt, kit_si, kit_sb, kit_ss, kit_st, kit_ti, kit_tb, kit_ts, kit_tt, kit_ni, kit_nb, kit_ns, kit_nt, kit_li, kit_lb, kit_ls, kit_lt, eq_self]
  refine ⟨sz (by decide), a, b, 6, rfl, hD1, by decide, by decide, fun r2 M2 s0 s1 hD2 hF2 => ?_⟩
  obtain ⟨m, e1, e2⟩ := at_map (f := D.int) (xs := [0, 1, 1, 2, 6, r]) s0 s1
  have hm := List.mem_of_getElem? e2
  have hm6 : 0 ≤ m ∧ m ≤ 6 := by
    simp only [List.mem_cons, List.not_mem_nil, or_false] at hm
    omega
  simp only [List.map] at e1
  simp only [ix_tupA, e1, dSeq, dAsg, dgN, dRet, dRetN, dIfS, dVar, gv_0, gv_s, sv_0, sv_s, dC, dOp, dB, asB_b, dAnd, dOr, dNot, dAndV, dOrV, dNotV, dIf, dTru, DTru, dCons, dNil, dTup, dLst, dCall, dCB, dFor, dDrop, dPart, dNo, dNext, dBreak, dCont, dPar, dgT, dgAll, ix_t0, ix_t1, ix_t2, ix_t3, ix_t4, eq_ss, eq_ii, eq_si, eq_is, eq_bb, ne_ss, ne_ii, ne_si, ne_is, ne_bb, add_ii, add_ss, add_tt, mul_ii, mul_ti, oI_ii, oI0_ii, oB0_ii, is_non, isnot_non, isNon_non, isNon_int, isNon_str, isNon_bl, isNon_tup, len_tup, len_fl, len_str, tuple_tup, int_i, int_b, abs_i, max_ii, min_ii, seq_ref, diR1, diR2, items_tup, items_fl, same, Option.some.injEq, exists_eq_left', exists_eq_left, true_and, and_true, if_true, if_false, ite_true, ite_false, Bool.false_eq_true, reduceIte, List.length_cons, List.length_nil, Nat.reduceAdd, Nat.zero_add, decide_true, decide_false, Bool.not_true, Bool.not_false, forall_const, forall_eq, sl_ref, dNeg, wipeG, wipeG.nv, dYes, cut_1, dLoop, wantI_some, wantL_some, wantK_some, wantB_some, mupd_app, ix_ref, ix_tupA, len_ref, tuple_ref, list_ref, list_tup, list_fl, mul_ref, add_ref, setL_ref, lm_ref, append_at, extend_ref, dget_ref, sum_ref, max_ref, min_ref, at_0, at_1, at_2, at_3, at_4, isi_eq, tyD_int, tyD_bl, tyD_str, tyD_tup, tyD_non, kit_ii, kit_ib, kit_is, kit_it, kit_bi, kit_bb, kit_bs, kit_bt, kit_si, kit_sb, kit_ss, kit_st, kit_ti, kit_tb, kit_ts, kit_tt, kit_ni, kit_nb, kit_ns, kit_nt, kit_li, kit_lb, kit_ls, kit_lt, eq_self]
  refine ⟨sz (by decide), fun l hl => ⟨⟨by omega, by omega⟩, ?_⟩⟩
  obtain ⟨la, lb⟩ := hD2.ne hl
  have hMl : M l = none := by
    cases e : M l with
    | none => rfl
    | some o => have := (hF1.trans hF2) l o la lb e; rw [hl] at this; cases this
  refine dLoop_inv (fun i Γ M' => ∃ (ts : List (Bool × Str)) (x : Option D), Γ = [some (D.ref a), some (D.int m), some (D.ref l), x] ∧ ts.length = i ∧ M' l = some (.lst (ts.map encT)) ∧ Drum M' a b ∧ Fr a b M M') ?_ ?_ ?_
  · rintro i d Γ M' N hi ⟨ts, x, rfl, hs, hM', hD', hF'⟩ hN
    have hi6 : i < (rgD 0 m.toNat).length := (List.getElem?_eq_some_iff.mp hi).1
    rw [rgD_len] at hi6
    simp only [dSeq, dAsg, dgN, dRet, dRetN, dIfS, dVar, gv_0, gv_s, sv_0, sv_s, dC, dOp, dB, asB_b, dAnd, dOr, dNot, dAndV, dOrV, dNotV, dIf, dTru, DTru, dCons, dNil, dTup, dLst, dCall, dCB, dFor, dDrop, dPart, dNo, dNext, dBreak, dCont, dPar, dgT, dgAll, ix_t0, ix_t1, ix_t2, ix_t3, ix_t4, eq_ss, eq_ii, eq_si, eq_is, eq_bb, ne_ss, ne_ii, ne_si, ne_is, ne_bb, add_ii, add_ss, add_tt, mul_ii, mul_ti, oI_ii, oI0_ii, oB0_ii, is_non, isnot_non, isNon_non, isNon_int, isNon_str, isNon_bl, isNon_tup, len_tup, len_fl, len_str, tuple_tup, int_i, int_b, abs_i, max_ii, min_ii, seq_ref, diR1, diR2, items_tup, items_fl, same, Option.some.injEq, exists_eq_left', exists_eq_left, true_and, and_true, if_true, if_false, ite_true, ite_false, Bool.false_eq_true, reduceIte, List.length_cons, List.length_nil, Nat.reduceAdd, Nat.zero_add, decide_true, decide_false, Bool.not_true, Bool.not_false, forall_const, forall_eq, sl_ref, dNeg, wipeG, wipeG.nv, dYes, cut_1, dLoop, wantI_some, wantL_some, wantK_some, wantB_some, mupd_app, ix_ref, ix_tupA, len_ref, tuple_ref, list_ref, list_tup, list_fl, mul_ref, add_ref, setL_ref, lm_ref, append_at, extend_ref, dget_ref, sum_ref, max_ref, min_ref, at_0, at_1, at_2, at_3, at_4, isi_eq, tyD_int, tyD_bl, tyD_str, tyD_tup, tyD_non, kit_ii, kit_ib, kit_is, kit_it, kit_bi, kit_bb, kit_bs, kit_bt, kit_si, kit_sb, kit_ss, kit_st, kit_ti, kit_tb, kit_ts, kit_tt, kit_ni, kit_nb, kit_ns, kit_nt, kit_li, kit_lb, kit_ls, kit_lt, eq_self, hM']
    refine ⟨sz (by decide), a, b, 2, rfl, hD', by decide, by decide, fun r4 M4 u0 u1 hD4 hF4 => ?_⟩
    have : r4 = 0 ∨ r4 = 1 := by omega
    have main : ∀ (t : Bool) (s : Str) M5, Drum M5 a b → Fr a b M4 M5 → 2 ≤ sizeLine ∧ wantL (M5 l) fun es => es.length < sizeLine ∧ N [some (D.ref a), some (D.int m), some (D.ref l), some d] (mupd M5 l (MO.lst (es ++ [encT (t, s)]))) := fun t s M5 hD5 hF5 => by
      have h5 := hF5 l _ la lb (hF4 l _ la lb hM')
      simp only [h5, dSeq, dAsg, dgN, dRet, dRetN, dIfS, dVar, gv_0, gv_s, sv_0, sv_s, dC, dOp, dB, asB_b, dAnd, dOr, dNot, dAndV, dOrV, dNotV, dIf, dTru, DTru, dCons, dNil, dTup, dLst, dCall, dCB, dFor, dDrop, dPart, dNo, dNext, dBreak, dCont, dPar, dgT, dgAll, ix_t0, ix_t1, ix_t2, ix_t3, ix_t4, eq_ss, eq_ii, eq_si, eq_is, eq_bb, ne_ss, ne_ii, ne_si, ne_is, ne_bb, add_ii, add_ss, add_tt, mul_ii, mul_ti, oI_ii, oI0_ii, oB0_ii, is_non, isnot_non, isNon_non, isNon_int, isNon_str, isNon_bl, isNon_tup, len_tup, len_fl, len_str, tuple_tup, int_i, int_b, abs_i, max_ii, min_ii, seq_ref, diR1, diR2, items_tup, items_fl, same, Option.some.injEq, exists_eq_left', exists_eq_left, true_and, and_true, if_true, if_false, ite_true, ite_false, Bool.false_eq_true, reduceIte, List.length_cons, List.length_nil, Nat.reduceAdd, Nat.zero_add, decide_true, decide_false, Bool.not_true, Bool.not_false, forall_const, forall_eq, sl_ref, dNeg, wipeG, wipeG.nv, dYes, cut_1, dLoop, wantI_some, wantL_some, wantK_some, wantB_some, mupd_app, ix_ref, ix_tupA, len_ref, tuple_ref, list_ref, list_tup, list_fl, mul_ref, add_ref, setL_ref, lm_ref, append_at, extend_ref, dget_ref, sum_ref, max_ref, min_ref, at_0, at_1, at_2, at_3, at_4, isi_eq, tyD_int, tyD_bl, tyD_str, tyD_tup, tyD_non, kit_ii, kit_ib, kit_is, kit_it, kit_bi, kit_bb, kit_bs, kit_bt, kit_si, kit_sb, kit_ss, kit_st, kit_ti, kit_tb, kit_ts, kit_tt, kit_ni, kit_nb, kit_ns, kit_nt, kit_li, kit_lb, kit_ls, kit_lt, eq_self]
      refine ⟨sz (by decide), szl (by rw [List.length_map]; omega), hN _ _ ⟨ts ++ [(t, s)], some d, rfl, by simp [hs], ?_, hD5.upd la lb, ((hF'.trans hF4).trans hF5).own hMl⟩⟩
      rw [mupd_same, List.map_append]; rfl
    rcases this with e | e <;> subst e <;> simp only [dSeq, dAsg, dgN, dRet, dRetN, dIfS, dVar, gv_0, gv_s, sv_0, sv_s, dC, dOp, dB, asB_b, dAnd, dOr, dNot, dAndV, dOrV, dNotV, dIf, dTru, DTru, dCons, dNil, dTup, dLst, dCall, dCB, dFor, dDrop, dPart, dNo, dNext, dBreak, dCont, dPar, dgT, dgAll, ix_t0, ix_t1, ix_t2, ix_t3, ix_t4, eq_ss, eq_ii, eq_si, eq_is, eq_bb, ne_ss, ne_ii, ne_si, ne_is, ne_bb, add_ii, add_ss, add_tt, mul_ii, mul_ti, oI_ii, oI0_ii, oB0_ii, is_non, isnot_non, isNon_non, isNon_int, isNon_str, isNon_bl, isNon_tup, len_tup, len_fl, len_str, tuple_tup, int_i, int_b, abs_i, max_ii, min_ii, seq_ref, diR1, diR2, items_tup, items_fl, same, Option.some.injEq, exists_eq_left', exists_eq_left, true_and, and_true, if_true, if_false, ite_true, ite_false, Bool.false_eq_true, reduceIte, List.length_cons, List.length_nil, Nat.reduceAdd, Nat.zero_add, decide_true, decide_false, Bool.not_true, Bool.not_false, forall_const, forall_eq, sl_ref, dNeg, wipeG, wipeG.nv, dYes, cut_1, dLoop, wantI_some, wantL_some, wantK_some, wantB_some, mupd_app, ix_ref, ix_tupA, len_ref, tuple_ref, list_ref, list_tup, list_fl, mul_ref, add_ref, setL_ref, lm_ref, append_at, extend_ref, dget_ref, sum_ref, max_ref, min_ref, at_0, at_1, at_2, at_3, at_4, isi_eq, tyD_int, tyD_bl, tyD_str, tyD_tup, tyD_non, kit_ii, kit_ib, kit_is, kit_it, kit_bi, kit_bb, kit_bs, kit_bt, kit_si, kit_sb, kit_ss, kit_st, kit_ti, kit_tb, kit_ts, kit_tt, kit_ni, kit_nb, kit_ns, kit_nt, kit_li, kit_lb, kit_ls, kit_lt, eq_self] <;> refine ⟨a, b, rfl, hD4, fun s M5 hs5 hD5 hF5 => ?_⟩
    · exact main true s M5 hD5 hF5
    · exact main false s M5 hD5 hF5
  · rintro Γ M' ⟨ts, x, rfl, hs, hM', hD', hF'⟩
    rw [rgD_len] at hs
    simp only [dSeq, dAsg, dgN, dRet, dRetN, dIfS, dVar, gv_0, gv_s, sv_0, sv_s, dC, dOp, dB, asB_b, dAnd, dOr, dNot, dAndV, dOrV, dNotV, dIf, dTru, DTru, dCons, dNil, dTup, dLst, dCall, dCB, dFor, dDrop, dPart, dNo, dNext, dBreak, dCont, dPar, dgT, dgAll, ix_t0, ix_t1, ix_t2, ix_t3, ix_t4, eq_ss, eq_ii, eq_si, eq_is, eq_bb, ne_ss, ne_ii, ne_si, ne_is, ne_bb, add_ii, add_ss, add_tt, mul_ii, mul_ti, oI_ii, oI0_ii, oB0_ii, is_non, isnot_non, isNon_non, isNon_int, isNon_str, isNon_bl, isNon_tup, len_tup, len_fl, len_str, tuple_tup, int_i, int_b, abs_i, max_ii, min_ii, seq_ref, diR1, diR2, items_tup, items_fl, same, Option.some.injEq, exists_eq_left', exists_eq_left, true_and, and_true, if_true, if_false, ite_true, ite_false, Bool.false_eq_true, reduceIte, List.length_cons, List.length_nil, Nat.reduceAdd, Nat.zero_add, decide_true, decide_false, Bool.not_true, Bool.not_false, forall_const, forall_eq, sl_ref, dNeg, wipeG, wipeG.nv, dYes, cut_1, dLoop, wantI_some, wantL_some, wantK_some, wantB_some, mupd_app, ix_ref, ix_tupA, len_ref, tuple_ref, list_ref, list_tup, list_fl, mul_ref, add_ref, setL_ref, lm_ref, append_at, extend_ref, dget_ref, sum_ref, max_ref, min_ref, at_0, at_1, at_2, at_3, at_4, isi_eq, tyD_int, tyD_bl, tyD_str, tyD_tup, tyD_non, kit_ii, kit_ib, kit_is, kit_it, kit_bi, kit_bb, kit_bs, kit_bt, kit_si, kit_sb, kit_ss, kit_st, kit_ti, kit_tb, kit_ts, kit_tt, kit_ni, kit_nb, kit_ns, kit_nt, kit_li, kit_lb, kit_ls, kit_lt, eq_self, hM']
    have hlm : (ts.length : Int) = m := by omega
    split
    · rename_i hgt
      have hgt := of_decide_eq_true hgt
      refine ⟨a, b, 2, rfl, hD', by decide, by decide, fun r4 M4 u0 u1 hD4 hF4 => ?_⟩
      have hM4 := hF4 l _ la lb hM'
      simp only [dSeq, dAsg, dgN, dRet, dRetN, dIfS, dVar, gv_0, gv_s, sv_0, sv_s, dC, dOp, dB, asB_b, dAnd, dOr, dNot, dAndV, dOrV, dNotV, dIf, dTru, DTru, dCons, dNil, dTup, dLst, dCall, dCB, dFor, dDrop, dPart, dNo, dNext, dBreak, dCont, dPar, dgT, dgAll, ix_t0, ix_t1, ix_t2, ix_t3, ix_t4, eq_ss, eq_ii, eq_si, eq_is, eq_bb, ne_ss, ne_ii, ne_si, ne_is, ne_bb, add_ii, add_ss, add_tt, mul_ii, mul_ti, oI_ii, oI0_ii, oB0_ii, is_non, isnot_non, isNon_non, isNon_int, isNon_str, isNon_bl, isNon_tup, len_tup, len_fl, len_str, tuple_tup, int_i, int_b, abs_i, max_ii, min_ii, seq_ref, diR1, diR2, items_tup, items_fl, same, Option.some.injEq, exists_eq_left', exists_eq_left, true_and, and_true, if_true, if_false, ite_true, ite_false, Bool.false_eq_true, reduceIte, List.length_cons, List.length_nil, Nat.reduceAdd, Nat.zero_add, decide_true, decide_false, Bool.not_true, Bool.not_false, forall_const, forall_eq, sl_ref, dNeg, wipeG, wipeG.nv, dYes, cut_1, dLoop, wantI_some, wantL_some, wantK_some, wantB_some, mupd_app, ix_ref, ix_tupA, len_ref, tuple_ref, list_ref, list_tup, list_fl, mul_ref, add_ref, setL_ref, lm_ref, append_at, extend_ref, dget_ref, sum_ref, max_ref, min_ref, at_0, at_1, at_2, at_3, at_4, isi_eq, tyD_int, tyD_bl, tyD_str, tyD_tup, tyD_non, kit_ii, kit_ib, kit_is, kit_it, kit_bi, kit_bb, kit_bs, kit_bt, kit_si, kit_sb, kit_ss, kit_st, kit_ti, kit_tb, kit_ts, kit_tt, kit_ni, kit_nb, kit_ns, kit_nt, kit_li, kit_lb, kit_ls, kit_lt, eq_self, hM4]
      split
      · obtain ⟨t, t1, t2⟩ := at_map (f := encT) (xs := ts) (i := m - 1) (by omega) (by omega)
        simp only [t1, dSeq, dAsg, dgN, dRet, dRetN, dIfS, dVar, gv_0, gv_s, sv_0, sv_s, dC, dOp, dB, asB_b, dAnd, dOr, dNot, dAndV, dOrV, dNotV, dIf, dTru, DTru, dCons, dNil, dTup, dLst, dCall, dCB, dFor, dDrop, dPart, dNo, dNext, dBreak, dCont, dPar, dgT, dgAll, ix_t0, ix_t1, ix_t2, ix_t3, ix_t4, eq_ss, eq_ii, eq_si, eq_is, eq_bb, ne_ss, ne_ii, ne_si, ne_is, ne_bb, add_ii, add_ss, add_tt, mul_ii, mul_ti, oI_ii, oI0_ii, oB0_ii, is_non, isnot_non, isNon_non, isNon_int, isNon_str, isNon_bl, isNon_tup, len_tup, len_fl, len_str, tuple_tup, int_i, int_b, abs_i, max_ii, min_ii, seq_ref, diR1, diR2, items_tup, items_fl, same, Option.some.injEq, exists_eq_left', exists_eq_left, true_and, and_true, if_true, if_false, ite_true, ite_false, Bool.false_eq_true, reduceIte, List.length_cons, List.length_nil, Nat.reduceAdd, Nat.zero_add, decide_true, decide_false, Bool.not_true, Bool.not_false, forall_const, forall_eq, sl_ref, dNeg, wipeG, wipeG.nv, dYes, cut_1, dLoop, wantI_some, wantL_some, wantK_some, wantB_some, mupd_app, ix_ref, ix_tupA, len_ref, tuple_ref, list_ref, list_tup, list_fl, mul_ref, add_ref, setL_ref, lm_ref, append_at, extend_ref, dget_ref, sum_ref, max_ref, min_ref, at_0, at_1, at_2, at_3, at_4, isi_eq, tyD_int, tyD_bl, tyD_str, tyD_tup, tyD_non, kit_ii, kit_ib, kit_is, kit_it, kit_bi, kit_bb, kit_bs, kit_bt, kit_si, kit_sb, kit_ss, kit_st, kit_ti, kit_tb, kit_ts, kit_tt, kit_ni, kit_nb, kit_ns, kit_nt, kit_li, kit_lb, kit_ls, kit_lt, eq_self, ixN_nn (n := (ts.map encT).length) (i := 0) (by omega) (by rw [List.length_map]; omega)]
        refine ⟨sz (by decide), Wk.of ?_⟩
        have := q (ts.set (Int.toNat 0) t) (mupd M4 l (.lst ((ts.map encT).set (Int.toNat 0) (encT t)))) (by rw [List.length_set]; omega) (hD4.upd la lb) ((hF'.trans hF4).own hMl)
        simp only [enc, List.map_set] at this
        exact this
      · exact ⟨sz (by decide), Wk.of (q ts _ (by omega) hD4 (hF'.trans hF4))⟩
    · exact ⟨sz (by decide), Wk.of (q ts _ (by omega) hD' hF')⟩
  · exact ⟨[], none, rfl, rfl, mupd_same, hD2.upd la lb, (hF1.trans hF2).own hMl⟩
end Lw
end
section
set_option maxHeartbeats 4000000
/-! k07, part E: patterns, chains. -/
namespace Lw
open PySem L2 DL

theorem Fr.none {a b l : Addr} {M M1 : Mp} (p : Fr a b M M1) (d : Drum M1 a b) (h : M1 l = none) : M l = none := by
  cases e : M l with
  | none => rfl
  | some o =>
    have := p l o (d.ne h).1 (d.ne h).2 e
    rw [h] at this; cases this
theorem many_pos (p : Pat) : 1 ≤ p.many := by cases p <;> simp only [Pat.many] <;> omega
def encR (p : Pat) : D := .tup [enc p, .int p.depth]
def RowOk (most n : Int) (ps : List Pat) : Prop := 1 ≤ ps.length ∧ (∀ p ∈ ps, p.few ∧ (p.depth + ps.length : Int) ≤ most + 1) ∧ ((ps.map Pat.many).sum : Int) ≤ n
theorem split2 {ps : List Pat} {k : Nat} {p q : Pat} (h1 : ps[k]? = some p) (h2 : ps[k + 1]? = some q) : ps = ps.take k ++ p :: q :: ps.drop (k + 2) := by
  have a1 : k < ps.length := (List.getElem?_eq_some_iff.mp h1).1
  have a2 : k + 1 < ps.length := (List.getElem?_eq_some_iff.mp h2).1
  have b1 : ps.drop k = p :: ps.drop (k + 1) := by
    rw [List.drop_eq_getElem_cons a1]; congr 1
    rw [List.getElem?_eq_getElem a1] at h1; exact Option.some.inj h1
  have b2 : ps.drop (k + 1) = q :: ps.drop (k + 2) := by
    rw [List.drop_eq_getElem_cons a2]; congr 1
    rw [List.getElem?_eq_getElem a2] at h2; exact Option.some.inj h2
  rw [← b2, ← b1, List.take_append_drop]
theorem RowOk.len {most n : Int} {ps : List Pat} (h : RowOk most n ps) : (ps.length : Int) ≤ most := by
  obtain ⟨h1, h2, _⟩ := h
  cases ps with
  | nil => simp at h1
  | cons p r =>
    have := (h2 p List.mem_cons_self).2
    have := depth_pos p
    omega
theorem RowOk.again {most n : Int} {ps : List Pat} {k : Nat} {p : Pat} (h : RowOk most n ps) (hk : ps[k]? = some p) (hd : (p.depth + ps.length : Int) < most) : RowOk most (n + 1) (ps.set k (.again p)) := by
  obtain ⟨h1, h2, h3⟩ := h
  have hp := h2 p (List.mem_of_getElem? hk)
  refine ⟨by rw [List.length_set]; exact h1, fun q hq => ?_, ?_⟩
  · rw [List.length_set]
    rcases List.mem_or_eq_of_mem_set hq with e | e
    · exact h2 q e
    · subst e
      simp only [Pat.few, Pat.depth]
      exact ⟨hp.1, by omega⟩
  · have a1 : k < ps.length := (List.getElem?_eq_some_iff.mp hk).1
    have e : ps = ps.take k ++ p :: ps.drop (k + 1) := by
      have b1 : ps.drop k = p :: ps.drop (k + 1) := by
        rw [List.drop_eq_getElem_cons a1]; congr 1
        rw [List.getElem?_eq_getElem a1] at hk; exact Option.some.inj hk
      rw [← b1, List.take_append_drop]
    rw [List.set_eq_take_append_cons_drop, if_pos a1]
    rw [e] at h3
    simp only [List.map_append, List.map_cons, List.sum_append, List.sum_cons, Pat.many] at h3 ⊢
    omega
theorem RowOk.bin {most n : Int} {ps : List Pat} {k : Nat} {p q : Pat} (o : Bool) (h : RowOk most n ps) (hk : ps[k]? = some p) (hk2 : ps[k + 1]? = some q) (hd : ((max p.depth q.depth : Nat) + ps.length : Int) ≤ most + 1) : RowOk most (n + 1) (ps.take k ++ [.bin o p q] ++ ps.drop (k + 2)) := by
  obtain ⟨h1, h2, h3⟩ := h
  have hp := h2 p (List.mem_of_getElem? hk)
  have hq := h2 q (List.mem_of_getElem? hk2)
  have e := split2 hk hk2
  have hl : (ps.take k ++ [Pat.bin o p q] ++ ps.drop (k + 2)).length + 1 = ps.length := by
    have := congrArg List.length e
    simp only [List.length_append, List.length_cons, List.length_nil] at this ⊢
    omega
  refine ⟨by simp only [List.length_append, List.length_cons]; omega, fun r hr => ?_, ?_⟩
  · simp only [List.mem_append, List.mem_singleton] at hr
    rcases hr with (hr | hr) | hr
    · have := h2 r (List.mem_of_mem_take hr)
      exact ⟨this.1, by omega⟩
    · subst hr
      simp only [Pat.few, Pat.depth]
      exact ⟨⟨hp.1, hq.1⟩, by omega⟩
    · have := h2 r (List.mem_of_mem_drop hr)
      exact ⟨this.1, by omega⟩
  · rw [e] at h3
    simp only [List.map_append, List.map_cons, List.map_nil, List.sum_append, List.sum_cons, List.sum_nil, Pat.many] at h3 ⊢
    omega
theorem enc_join {ps : List Pat} {k : Nat} {p q : Pat} {o : Bool} : (ps.take k).map encR ++ [encR (.bin o p q)] ++ (ps.drop (k + 2)).map encR = (ps.take k ++ [Pat.bin o p q] ++ ps.drop (k + 2)).map encR := by
  simp only [List.map_append, List.map_cons, List.map_nil]

theorem Drum.sub {M M' : Mp} {a b : Addr} (h : Drum M a b) (s : Sub M M') : Drum M' a b := by
  obtain ⟨c, t, p, n, h1, h2, h3⟩ := h
  exact ⟨c, t, p, n, s _ _ h1, s _ _ h2, h3⟩
theorem Fr.sub {a b : Addr} {M M1 M2 : Mp} (p : Fr a b M M1) (s : Sub M1 M2) : Fr a b M M2 := fun x o h1 h2 h => s x o (p x o h1 h2 h)
def word (o : Bool) : Str := if o then ("or" : Str) else ("then" : Str)
theorem ite_both {c : Prop} [Decidable c] {A B : Prop} (ha : A) (hb : B) : if c then A else B := by split <;> assumption
theorem ix_encR0 {p : Pat} {M : Mp} {Q : DK} : oIx (encR p) (.int 0) M Q = Q (enc p) M := ix_t0
theorem ix_encR1 {p : Pat} {M : Mp} {Q : DK} : oIx (encR p) (.int 1) M Q = Q (.int p.depth) M := ix_t1
def joinS (w : DE) : DS := dAsg (dOp oAdd (dOp oAdd (dSl (dVar 3) (dNo) (dPart (dVar 5))) (dLst (dCons (dTup (dCons (dTup (dCons w (dCons (dVar 10) (dCons (dVar 12) (dNil))))) (dCons (dOp oAdd (dCB oMax (dCons (dVar 11) (dCons (dVar 13) (dNil)))) (dC (.int 1))) (dNil)))) (dNil)))) (dSl (dVar 3) (dPart (dOp oAdd (dVar 5) (dC (.int 2)))) (dNo))) (dgN 3)
theorem T1_eq {s p : DSp} : b__law_pattern_T1 s p = joinS (dVar 14) := rfl
theorem R2_eq {s p : DSp} : b__law_pattern_R2 s p = dSeq (dAsg (dOp oIx (dVar 3) (dVar 5)) (dgT [dgN 10, dgN 11])) (dSeq (dAsg (dOp oIx (dVar 3) (dOp oAdd (dVar 5) (dC (.int 1)))) (dgT [dgN 12, dgN 13])) (joinS (dC (.str ("then" : Str))))) := rfl
theorem join_ok {M3 : Mp} {l : Addr} {ps : List Pat} {k : Nat} {p q : Pat} {o : Bool} {Γ : Gm} {w : DE} {F : DEnds} (h3 : gv Γ 3 = some (.ref l)) (h5 : gv Γ 5 = some (.int k)) (h10 : gv Γ 10 = some (enc p)) (h11 : gv Γ 11 = some (.int p.depth)) (h12 : gv Γ 12 = some (enc q)) (h13 : gv Γ 13 = some (.int q.depth))
    (hw : ∀ M Q, w Γ M Q = Q (.str (word o)) M) (hM : M3 l = some (.lst (ps.map encR))) (hl : ps.length ≤ 40) (hk : k + 1 < ps.length)
    (fin : ∀ l' M', M3 l' = none → M' l' = some (.lst ((ps.take k ++ [Pat.bin o p q] ++ ps.drop (k + 2)).map encR)) → Sub M3 M' → F.nx (sv Γ 3 (.ref l')) M') :
    joinS w F Γ M3 := by
  simp only [joinS, dSeq, dAsg, dgN, dRet, dRetN, dIfS, dVar, gv_0, gv_s, sv_0, sv_s, dC, dOp, dB, asB_b, dAnd, dOr, dNot, dAndV, dOrV, dNotV, dIf, dTru, DTru, dCons, dNil, dTup, dLst, dCall, dCB, dFor, dDrop, dPart, dNo, dNext, dBreak, dCont, dPar, dgT, dgAll, ix_t0, ix_t1, ix_t2, ix_t3, ix_t4, eq_ss, eq_ii, eq_si, eq_is, eq_bb, ne_ss, ne_ii, ne_si, ne_is, ne_bb, add_ii, add_ss, add_tt, mul_ii, mul_ti, oI_ii, oI0_ii, oB0_ii, is_non, isnot_non, isNon_non, isNon_int, isNon_str, isNon_bl, isNon_tup, len_tup, len_fl, len_str, tuple_tup, int_i, int_b, abs_i, max_ii, min_ii, seq_ref, diR1, diR2, items_tup, items_fl, same, Option.some.injEq, exists_eq_left', exists_eq_left, true_and, and_true, if_true, if_false, ite_true, ite_false, Bool.false_eq_true, reduceIte, List.length_cons, List.length_nil, Nat.reduceAdd, Nat.zero_add, decide_true, decide_false, Bool.not_true, Bool.not_false, forall_const, forall_eq, sl_ref, dNeg, wipeG, wipeG.nv, dYes, cut_1, dLoop, wantI_some, wantL_some, wantK_some, wantB_some, mupd_app, ix_ref, ix_tupA, len_ref, tuple_ref, list_ref, list_tup, list_fl, mul_ref, add_ref, setL_ref, lm_ref, append_at, extend_ref, dget_ref, sum_ref, max_ref, min_ref, at_0, at_1, at_2, at_3, at_4, isi_eq, tyD_int, tyD_bl, tyD_str, tyD_tup, tyD_non, kit_ii, kit_ib, kit_is, kit_it, kit_bi, kit_bb, kit_bs, kit_bt, kit_si, kit_sb, kit_ss, kit_st, kit_ti, kit_tb, kit_ts, kit_tt, kit_ni, kit_nb, kit_ns, kit_nt, kit_li, kit_lb, kit_ls, kit_lt, eq_self, h3, h5, hM]
  intro l1 h1
  simp only [hw, dSeq, dAsg, dgN, dRet, dRetN, dIfS, dVar, gv_0, gv_s, sv_0, sv_s, dC, dOp, dB, asB_b, dAnd, dOr, dNot, dAndV, dOrV, dNotV, dIf, dTru, DTru, dCons, dNil, dTup, dLst, dCall, dCB, dFor, dDrop, dPart, dNo, dNext, dBreak, dCont, dPar, dgT, dgAll, ix_t0, ix_t1, ix_t2, ix_t3, ix_t4, eq_ss, eq_ii, eq_si, eq_is, eq_bb, ne_ss, ne_ii, ne_si, ne_is, ne_bb, add_ii, add_ss, add_tt, mul_ii, mul_ti, oI_ii, oI0_ii, oB0_ii, is_non, isnot_non, isNon_non, isNon_int, isNon_str, isNon_bl, isNon_tup, len_tup, len_fl, len_str, tuple_tup, int_i, int_b, abs_i, max_ii, min_ii, seq_ref, diR1, diR2, items_tup, items_fl, same, Option.some.injEq, exists_eq_left', exists_eq_left, true_and, and_true, if_true, if_false, ite_true, ite_false, Bool.false_eq_true, reduceIte, List.length_cons, List.length_nil, Nat.reduceAdd, Nat.zero_add, decide_true, decide_false, Bool.not_true, Bool.not_false, forall_const, forall_eq, sl_ref, dNeg, wipeG, wipeG.nv, dYes, cut_1, dLoop, wantI_some, wantL_some, wantK_some, wantB_some, mupd_app, ix_ref, ix_tupA, len_ref, tuple_ref, list_ref, list_tup, list_fl, mul_ref, add_ref, setL_ref, lm_ref, append_at, extend_ref, dget_ref, sum_ref, max_ref, min_ref, at_0, at_1, at_2, at_3, at_4, isi_eq, tyD_int, tyD_bl, tyD_str, tyD_tup, tyD_non, kit_ii, kit_ib, kit_is, kit_it, kit_bi, kit_bb, kit_bs, kit_bt, kit_si, kit_sb, kit_ss, kit_st, kit_ti, kit_tb, kit_ts, kit_tt, kit_ni, kit_nb, kit_ns, kit_nt, kit_li, kit_lb, kit_ls, kit_lt, eq_self, h10, h11, h12, h13]
  refine ⟨sz (by decide), sz (by decide), sz (by decide), fun l2 h2 => ?_⟩
  obtain ⟨n2, h2⟩ := none_if h2
  simp only [n2.symm, dSeq, dAsg, dgN, dRet, dRetN, dIfS, dVar, gv_0, gv_s, sv_0, sv_s, dC, dOp, dB, asB_b, dAnd, dOr, dNot, dAndV, dOrV, dNotV, dIf, dTru, DTru, dCons, dNil, dTup, dLst, dCall, dCB, dFor, dDrop, dPart, dNo, dNext, dBreak, dCont, dPar, dgT, dgAll, ix_t0, ix_t1, ix_t2, ix_t3, ix_t4, eq_ss, eq_ii, eq_si, eq_is, eq_bb, ne_ss, ne_ii, ne_si, ne_is, ne_bb, add_ii, add_ss, add_tt, mul_ii, mul_ti, oI_ii, oI0_ii, oB0_ii, is_non, isnot_non, isNon_non, isNon_int, isNon_str, isNon_bl, isNon_tup, len_tup, len_fl, len_str, tuple_tup, int_i, int_b, abs_i, max_ii, min_ii, seq_ref, diR1, diR2, items_tup, items_fl, same, Option.some.injEq, exists_eq_left', exists_eq_left, true_and, and_true, if_true, if_false, ite_true, ite_false, Bool.false_eq_true, reduceIte, List.length_cons, List.length_nil, Nat.reduceAdd, Nat.zero_add, decide_true, decide_false, Bool.not_true, Bool.not_false, forall_const, forall_eq, sl_ref, dNeg, wipeG, wipeG.nv, dYes, cut_1, dLoop, wantI_some, wantL_some, wantK_some, wantB_some, mupd_app, ix_ref, ix_tupA, len_ref, tuple_ref, list_ref, list_tup, list_fl, mul_ref, add_ref, setL_ref, lm_ref, append_at, extend_ref, dget_ref, sum_ref, max_ref, min_ref, at_0, at_1, at_2, at_3, at_4, isi_eq, tyD_int, tyD_bl, tyD_str, tyD_tup, tyD_non, kit_ii, kit_ib, kit_is, kit_it, kit_bi, kit_bb, kit_bs, kit_bt, kit_si, kit_sb, kit_ss, kit_st, kit_ti, kit_tb, kit_ts, kit_tt, kit_ni, kit_nb, kit_ns, kit_nt, kit_li, kit_lb, kit_ls, kit_lt, eq_self]
  have e1 : cutD (ps.map encR) none (some (k : Int)) = (ps.take k).map encR := by rw [cut_take, List.map_take]
  have e2 : cutD (ps.map encR) (some ((k : Int) + 2)) none = (ps.drop (k + 2)).map encR := by
    rw [List.map_drop]; exact cut_drop _ (k + 2)
  rw [e1]
  refine ⟨sz (by rw [List.length_map, List.length_take]; omega), fun l3 h3' => ?_⟩
  obtain ⟨n3, h3'⟩ := none_if h3'
  obtain ⟨n31, h3'⟩ := none_if h3'
  have nl : l ≠ l1 := fresh_ne h1 hM
  have nl2 : l ≠ l2 := fresh_ne h2 hM
  have nl3 : l ≠ l3 := fresh_ne h3' hM
  simp only [nl, nl2, nl3, hM, dSeq, dAsg, dgN, dRet, dRetN, dIfS, dVar, gv_0, gv_s, sv_0, sv_s, dC, dOp, dB, asB_b, dAnd, dOr, dNot, dAndV, dOrV, dNotV, dIf, dTru, DTru, dCons, dNil, dTup, dLst, dCall, dCB, dFor, dDrop, dPart, dNo, dNext, dBreak, dCont, dPar, dgT, dgAll, ix_t0, ix_t1, ix_t2, ix_t3, ix_t4, eq_ss, eq_ii, eq_si, eq_is, eq_bb, ne_ss, ne_ii, ne_si, ne_is, ne_bb, add_ii, add_ss, add_tt, mul_ii, mul_ti, oI_ii, oI0_ii, oB0_ii, is_non, isnot_non, isNon_non, isNon_int, isNon_str, isNon_bl, isNon_tup, len_tup, len_fl, len_str, tuple_tup, int_i, int_b, abs_i, max_ii, min_ii, seq_ref, diR1, diR2, items_tup, items_fl, same, Option.some.injEq, exists_eq_left', exists_eq_left, true_and, and_true, if_true, if_false, ite_true, ite_false, Bool.false_eq_true, reduceIte, List.length_cons, List.length_nil, Nat.reduceAdd, Nat.zero_add, decide_true, decide_false, Bool.not_true, Bool.not_false, forall_const, forall_eq, sl_ref, dNeg, wipeG, wipeG.nv, dYes, cut_1, dLoop, wantI_some, wantL_some, wantK_some, wantB_some, mupd_app, ix_ref, ix_tupA, len_ref, tuple_ref, list_ref, list_tup, list_fl, mul_ref, add_ref, setL_ref, lm_ref, append_at, extend_ref, dget_ref, sum_ref, max_ref, min_ref, at_0, at_1, at_2, at_3, at_4, isi_eq, tyD_int, tyD_bl, tyD_str, tyD_tup, tyD_non, kit_ii, kit_ib, kit_is, kit_it, kit_bi, kit_bb, kit_bs, kit_bt, kit_si, kit_sb, kit_ss, kit_st, kit_ti, kit_tb, kit_ts, kit_tt, kit_ni, kit_nb, kit_ns, kit_nt, kit_li, kit_lb, kit_ls, kit_lt, eq_self, e2]
  intro l4 h4
  obtain ⟨n4, h4⟩ := none_if h4
  obtain ⟨n42, h4⟩ := none_if h4
  obtain ⟨n41, h4⟩ := none_if h4
  simp only [n4, n42, n41, n4.symm, dSeq, dAsg, dgN, dRet, dRetN, dIfS, dVar, gv_0, gv_s, sv_0, sv_s, dC, dOp, dB, asB_b, dAnd, dOr, dNot, dAndV, dOrV, dNotV, dIf, dTru, DTru, dCons, dNil, dTup, dLst, dCall, dCB, dFor, dDrop, dPart, dNo, dNext, dBreak, dCont, dPar, dgT, dgAll, ix_t0, ix_t1, ix_t2, ix_t3, ix_t4, eq_ss, eq_ii, eq_si, eq_is, eq_bb, ne_ss, ne_ii, ne_si, ne_is, ne_bb, add_ii, add_ss, add_tt, mul_ii, mul_ti, oI_ii, oI0_ii, oB0_ii, is_non, isnot_non, isNon_non, isNon_int, isNon_str, isNon_bl, isNon_tup, len_tup, len_fl, len_str, tuple_tup, int_i, int_b, abs_i, max_ii, min_ii, seq_ref, diR1, diR2, items_tup, items_fl, same, Option.some.injEq, exists_eq_left', exists_eq_left, true_and, and_true, if_true, if_false, ite_true, ite_false, Bool.false_eq_true, reduceIte, List.length_cons, List.length_nil, Nat.reduceAdd, Nat.zero_add, decide_true, decide_false, Bool.not_true, Bool.not_false, forall_const, forall_eq, sl_ref, dNeg, wipeG, wipeG.nv, dYes, cut_1, dLoop, wantI_some, wantL_some, wantK_some, wantB_some, mupd_app, ix_ref, ix_tupA, len_ref, tuple_ref, list_ref, list_tup, list_fl, mul_ref, add_ref, setL_ref, lm_ref, append_at, extend_ref, dget_ref, sum_ref, max_ref, min_ref, at_0, at_1, at_2, at_3, at_4, isi_eq, tyD_int, tyD_bl, tyD_str, tyD_tup, tyD_non, kit_ii, kit_ib, kit_is, kit_it, kit_bi, kit_bb, kit_bs, kit_bt, kit_si, kit_sb, kit_ss, kit_st, kit_ti, kit_tb, kit_ts, kit_tt, kit_ni, kit_nb, kit_ns, kit_nt, kit_li, kit_lb, kit_ls, kit_lt, eq_self]
  refine ⟨sz (by simp only [List.length_append, List.length_map, List.length_take, List.length_drop, List.length_cons, List.length_nil]; omega), fun l5 h5' => ?_⟩
  obtain ⟨n5, h5'⟩ := none_if h5'
  obtain ⟨_, h5'⟩ := none_if h5'
  obtain ⟨_, h5'⟩ := none_if h5'
  obtain ⟨_, h5'⟩ := none_if h5'
  refine fin l5 _ h5' ?_ (.drop h5' (.drop h4 (.drop h3' (.drop h2 (.drop h1 .refl)))))
  rw [mupd_same, ← enc_join]
  have : ((if q.depth > p.depth then (q.depth : Int) else p.depth) + 1) = ((max p.depth q.depth + 1 : Nat) : Int) := by split <;> omega
  have e3 : encR (Pat.bin o p q) = D.tup [.tup [.str (word o), enc p, enc q], .int ((if (q.depth : Int) > (p.depth : Int) then (q.depth : Int) else p.depth) + 1)] := by
    simp only [encR, enc, Pat.depth, word]
    congr 3
    congr 1
    split <;> omega
  rw [e3]

/-! ### _law_pattern -/
def sp__law_pattern : DSp := fun ds M Q _ => ∃ (a b : Addr) (many most : Int), ds = [.ref a, .int many, .int most] ∧ Drum M a b ∧ 1 ≤ many ∧ many ≤ 24 ∧ many ≤ most ∧ most ≤ 40 ∧ ∀ p M', p.few → (p.depth : Int) ≤ most → p.many ≤ 300 → Drum M' a b → Fr a b M M' → Q (enc p) M'
theorem ln__law_pattern : ∀ ds M Q E, sp__law_pattern ds M Q E → ds.length = 3 := fun _ _ _ _ ⟨_, _, _, _, h, _⟩ => by rw [h]; rfl
def PI (a b : Addr) (many most : Int) (M : Mp) (i : Nat) (Γ : Gm) (M' : Mp) : Prop := ∃ (x4 x5 x6 x7 x8 x9 x10 x11 x12 x13 x14 : Option D) (l : Addr) (ps : List Pat), Γ = [some (.ref a), some (.int many), some (.int most), some (.ref l), x4, x5, x6, x7, x8, x9, x10, x11, x12, x13, x14] ∧ M' l = some (.lst (ps.map encR)) ∧ M l = none ∧ l ≠ a ∧ l ≠ b ∧ RowOk most (many + i) ps ∧ Drum M' a b ∧ Fr a b M M'
theorem RowOk.mono {most n m : Int} {ps : List Pat} (h : RowOk most n ps) (e : n ≤ m) : RowOk most m ps := ⟨h.1, h.2.1, Int.le_trans h.2.2 e⟩
/-- what the first loop's body does after its pulls -/
theorem pattern_R1 {a b : Addr} {many most : Int} {M M3 : Mp} {i : Nat} {x4 x9 x10 x11 x12 x13 x14 : Option D} {r k : Int} {p : Pat} {l : Addr} {ps : List Pat} {F : DEnds}
    (hM3 : M3 l = some (.lst (ps.map encR))) (hMl : M l = none) (la : l ≠ a) (lb : l ≠ b) (hR : RowOk most (many + i) ps) (hm : most ≤ 40) (hD3 : Drum M3 a b) (hF3 : Fr a b M M3) (r0 : 0 ≤ r) (r1 : r < ps.length) (p2 : ps[r.toNat]? = some p) (k0 : 0 ≤ k)
    (hN : ∀ Γ M', PI a b many most M (i + 1) Γ M' → F.nx Γ M') :
    b__law_pattern_R1 sp__law_test sp__law_pull F [some (D.ref a), some (D.int many), some (D.int most), some (D.ref l), x4, some (D.int r), some (enc p), some (D.int p.depth), some (D.int k), x9, x10, x11, x12, x13, x14] M3 := by
  have hlen := hR.len
  have stay : ∀ Γ M', PI a b many most M i Γ M' → F.nx Γ M' := fun Γ M' ⟨x4, x5, x6, x7, x8, x9, x10, x11, x12, x13, x14, l, ps, e, h1, h2, h3, h4, h5, h6, h7⟩ => hN Γ M' ⟨x4, x5, x6, x7, x8, x9, x10, x11, x12, x13, x14, l, ps, e, h1, h2, h3, h4, h5.mono (by omega), h6, h7⟩
  have join : ((decide (1 < (ps.length : Int))) = true) → b__law_pattern_T2 sp__law_test sp__law_pull F [some (D.ref a), some (D.int many), some (D.int most), some (D.ref l), x4, some (D.int r), some (enc p), some (D.int p.depth), some (D.int k), x9, x10, x11, x12, x13, x14] M3 := fun hgt => by
    have hgt := of_decide_eq_true hgt
    obtain ⟨j, ej⟩ : ∃ j : Nat, (if (ps.length : Int) - 2 < r then (ps.length : Int) - 2 else r) = (j : Int) ∧ j + 1 < ps.length := by
      split
      · exact ⟨ps.length - 2, by omega, by omega⟩
      · exact ⟨r.toNat, by omega, by omega⟩
    obtain ⟨p', p1', p2'⟩ := at_map (f := encR) (xs := ps) (i := (j : Int)) (by omega) (by omega)
    obtain ⟨q', q1', q2'⟩ := at_map (f := encR) (xs := ps) (i := (j : Int) + 1) (by omega) (by omega)
    have ej1 := ej.1
    simp only [b__law_pattern_T2, dSeq, dAsg, dgN, dRet, dRetN, dIfS, dVar, gv_0, gv_s, sv_0, sv_s, dC, dOp, dB, asB_b, dAnd, dOr, dNot, dAndV, dOrV, dNotV, dIf, dTru, DTru, dCons, dNil, dTup, dLst, dCall, dCB, dFor, dDrop, dPart, dNo, dNext, dBreak, dCont, dPar, dgT, dgAll, ix_t0, ix_t1, ix_t2, ix_t3, ix_t4, eq_ss, eq_ii, eq_si, eq_is, eq_bb, ne_ss, ne_ii, ne_si, ne_is, ne_bb, add_ii, add_ss, add_tt, mul_ii, mul_ti, oI_ii, oI0_ii, oB0_ii, is_non, isnot_non, isNon_non, isNon_int, isNon_str, isNon_bl, isNon_tup, len_tup, len_fl, len_str, tuple_tup, int_i, int_b, abs_i, max_ii, min_ii, seq_ref, diR1, diR2, items_tup, items_fl, same, Option.some.injEq, exists_eq_left', exists_eq_left, true_and, and_true, if_true, if_false, ite_true, ite_false, Bool.false_eq_true, reduceIte, List.length_cons, List.length_nil, Nat.reduceAdd, Nat.zero_add, decide_true, decide_false, Bool.not_true, Bool.not_false, forall_const, forall_eq, sl_ref, dNeg, wipeG, wipeG.nv, dYes, cut_1, dLoop, wantI_some, wantL_some, wantK_some, wantB_some, mupd_app, ix_ref, ix_tupA, len_ref, tuple_ref, list_ref, list_tup, list_fl, mul_ref, add_ref, setL_ref, lm_ref, append_at, extend_ref, dget_ref, sum_ref, max_ref, min_ref, at_0, at_1, at_2, at_3, at_4, isi_eq, tyD_int, tyD_bl, tyD_str, tyD_tup, tyD_non, kit_ii, kit_ib, kit_is, kit_it, kit_bi, kit_bb, kit_bs, kit_bt, kit_si, kit_sb, kit_ss, kit_st, kit_ti, kit_tb, kit_ts, kit_tt, kit_ni, kit_nb, kit_ns, kit_nt, kit_li, kit_lb, kit_ls, kit_lt, eq_self, hM3, List.length_map, ej1, p1']
    simp only [encR, dSeq, dAsg, dgN, dRet, dRetN, dIfS, dVar, gv_0, gv_s, sv_0, sv_s, dC, dOp, dB, asB_b, dAnd, dOr, dNot, dAndV, dOrV, dNotV, dIf, dTru, DTru, dCons, dNil, dTup, dLst, dCall, dCB, dFor, dDrop, dPart, dNo, dNext, dBreak, dCont, dPar, dgT, dgAll, ix_t0, ix_t1, ix_t2, ix_t3, ix_t4, eq_ss, eq_ii, eq_si, eq_is, eq_bb, ne_ss, ne_ii, ne_si, ne_is, ne_bb, add_ii, add_ss, add_tt, mul_ii, mul_ti, oI_ii, oI0_ii, oB0_ii, is_non, isnot_non, isNon_non, isNon_int, isNon_str, isNon_bl, isNon_tup, len_tup, len_fl, len_str, tuple_tup, int_i, int_b, abs_i, max_ii, min_ii, seq_ref, diR1, diR2, items_tup, items_fl, same, Option.some.injEq, exists_eq_left', exists_eq_left, true_and, and_true, if_true, if_false, ite_true, ite_false, Bool.false_eq_true, reduceIte, List.length_cons, List.length_nil, Nat.reduceAdd, Nat.zero_add, decide_true, decide_false, Bool.not_true, Bool.not_false, forall_const, forall_eq, sl_ref, dNeg, wipeG, wipeG.nv, dYes, cut_1, dLoop, wantI_some, wantL_some, wantK_some, wantB_some, mupd_app, ix_ref, ix_tupA, len_ref, tuple_ref, list_ref, list_tup, list_fl, mul_ref, add_ref, setL_ref, lm_ref, append_at, extend_ref, dget_ref, sum_ref, max_ref, min_ref, at_0, at_1, at_2, at_3, at_4, isi_eq, tyD_int, tyD_bl, tyD_str, tyD_tup, tyD_non, kit_ii, kit_ib, kit_is, kit_it, kit_bi, kit_bb, kit_bs, kit_bt, kit_si, kit_sb, kit_ss, kit_st, kit_ti, kit_tb, kit_ts, kit_tt, kit_ni, kit_nb, kit_ns, kit_nt, kit_li, kit_lb, kit_ls, kit_lt, eq_self, hM3, q1']
    have key : ∀ o : Bool, if decide ((if (q'.depth : Int) > (p'.depth : Int) then (q'.depth : Int) else p'.depth) + 1 ≤ most - ((List.map encR ps).length - 2)) = true then b__law_pattern_T1 sp__law_test sp__law_pull F [some (D.ref a), some (D.int many), some (D.int most), some (D.ref l), x4, some (D.int j), some (enc p), some (D.int p.depth), some (D.int k), x9, some (enc p'), some (D.int p'.depth), some (enc q'), some (D.int q'.depth), some (.str (word o))] M3
        else F.nx [some (D.ref a), some (D.int many), some (D.int most), some (D.ref l), x4, some (D.int j), some (enc p), some (D.int p.depth), some (D.int k), x9, some (enc p'), some (D.int p'.depth), some (enc q'), some (D.int q'.depth), some (.str (word o))] M3 := fun o => by
      by_cases hle : decide ((if (q'.depth : Int) > (p'.depth : Int) then (q'.depth : Int) else p'.depth) + 1 ≤ most - ((List.map encR ps).length - 2)) = true
      · rw [if_pos hle]
        have hle := of_decide_eq_true hle
        rw [List.length_map] at hle
        have p2' : ps[j]? = some p' := by rw [Int.toNat_natCast] at p2'; exact p2'
        have q2' : ps[j + 1]? = some q' := by rw [show ((j : Int) + 1).toNat = j + 1 from by omega] at q2'; exact q2'
        have hR' := hR.bin o p2' q2' (by split at hle <;> omega)
        refine join_ok (o := o) rfl rfl rfl rfl rfl rfl (fun _ _ => rfl) hM3 (by omega) ej.2 fun l' M' h1 h2 h3 => hN _ _ ?_
        exact ⟨_, _, _, _, _, _, _, _, _, _, _, l', _, rfl, h2, hF3.none hD3 h1, (hD3.ne h1).1, (hD3.ne h1).2, hR'.mono (by omega), hD3.sub h3, hF3.sub h3⟩
      · rw [if_neg hle]
        exact stay _ _ ⟨_, _, _, _, _, _, _, _, _, _, _, l, ps, rfl, hM3, hMl, la, lb, hR, hD3, hF3⟩
    refine ⟨sz (by decide), by decide, ?_⟩
    have : k % 2 = 0 ∨ k % 2 = 1 := by omega
    rcases this with e | e <;> simp only [e, dSeq, dAsg, dgN, dRet, dRetN, dIfS, dVar, gv_0, gv_s, sv_0, sv_s, dC, dOp, dB, asB_b, dAnd, dOr, dNot, dAndV, dOrV, dNotV, dIf, dTru, DTru, dCons, dNil, dTup, dLst, dCall, dCB, dFor, dDrop, dPart, dNo, dNext, dBreak, dCont, dPar, dgT, dgAll, ix_t0, ix_t1, ix_t2, ix_t3, ix_t4, eq_ss, eq_ii, eq_si, eq_is, eq_bb, ne_ss, ne_ii, ne_si, ne_is, ne_bb, add_ii, add_ss, add_tt, mul_ii, mul_ti, oI_ii, oI0_ii, oB0_ii, is_non, isnot_non, isNon_non, isNon_int, isNon_str, isNon_bl, isNon_tup, len_tup, len_fl, len_str, tuple_tup, int_i, int_b, abs_i, max_ii, min_ii, seq_ref, diR1, diR2, items_tup, items_fl, same, Option.some.injEq, exists_eq_left', exists_eq_left, true_and, and_true, if_true, if_false, ite_true, ite_false, Bool.false_eq_true, reduceIte, List.length_cons, List.length_nil, Nat.reduceAdd, Nat.zero_add, decide_true, decide_false, Bool.not_true, Bool.not_false, forall_const, forall_eq, sl_ref, dNeg, wipeG, wipeG.nv, dYes, cut_1, dLoop, wantI_some, wantL_some, wantK_some, wantB_some, mupd_app, ix_ref, ix_tupA, len_ref, tuple_ref, list_ref, list_tup, list_fl, mul_ref, add_ref, setL_ref, lm_ref, append_at, extend_ref, dget_ref, sum_ref, max_ref, min_ref, at_0, at_1, at_2, at_3, at_4, isi_eq, tyD_int, tyD_bl, tyD_str, tyD_tup, tyD_non, kit_ii, kit_ib, kit_is, kit_it, kit_bi, kit_bb, kit_bs, kit_bt, kit_si, kit_sb, kit_ss, kit_st, kit_ti, kit_tb, kit_ts, kit_tt, kit_ni, kit_nb, kit_ns, kit_nt, kit_li, kit_lb, kit_ls, kit_lt, eq_self]
    · exact key false
    · exact key true
  simp only [b__law_pattern_R1, dSeq, dAsg, dgN, dRet, dRetN, dIfS, dVar, gv_0, gv_s, sv_0, sv_s, dC, dOp, dB, asB_b, dAnd, dOr, dNot, dAndV, dOrV, dNotV, dIf, dTru, DTru, dCons, dNil, dTup, dLst, dCall, dCB, dFor, dDrop, dPart, dNo, dNext, dBreak, dCont, dPar, dgT, dgAll, ix_t0, ix_t1, ix_t2, ix_t3, ix_t4, eq_ss, eq_ii, eq_si, eq_is, eq_bb, ne_ss, ne_ii, ne_si, ne_is, ne_bb, add_ii, add_ss, add_tt, mul_ii, mul_ti, oI_ii, oI0_ii, oB0_ii, is_non, isnot_non, isNon_non, isNon_int, isNon_str, isNon_bl, isNon_tup, len_tup, len_fl, len_str, tuple_tup, int_i, int_b, abs_i, max_ii, min_ii, seq_ref, diR1, diR2, items_tup, items_fl, same, Option.some.injEq, exists_eq_left', exists_eq_left, true_and, and_true, if_true, if_false, ite_true, ite_false, Bool.false_eq_true, reduceIte, List.length_cons, List.length_nil, Nat.reduceAdd, Nat.zero_add, decide_true, decide_false, Bool.not_true, Bool.not_false, forall_const, forall_eq, sl_ref, dNeg, wipeG, wipeG.nv, dYes, cut_1, dLoop, wantI_some, wantL_some, wantK_some, wantB_some, mupd_app, ix_ref, ix_tupA, len_ref, tuple_ref, list_ref, list_tup, list_fl, mul_ref, add_ref, setL_ref, lm_ref, append_at, extend_ref, dget_ref, sum_ref, max_ref, min_ref, at_0, at_1, at_2, at_3, at_4, isi_eq, tyD_int, tyD_bl, tyD_str, tyD_tup, tyD_non, kit_ii, kit_ib, kit_is, kit_it, kit_bi, kit_bb, kit_bs, kit_bt, kit_si, kit_sb, kit_ss, kit_st, kit_ti, kit_tb, kit_ts, kit_tt, kit_ni, kit_nb, kit_ns, kit_nt, kit_li, kit_lb, kit_ls, kit_lt, eq_self, hM3, List.length_map]
  split
  · split
    · rename_i hlt
      have hlt := of_decide_eq_true hlt
      simp only [b__law_pattern_T3, dSeq, dAsg, dgN, dRet, dRetN, dIfS, dVar, gv_0, gv_s, sv_0, sv_s, dC, dOp, dB, asB_b, dAnd, dOr, dNot, dAndV, dOrV, dNotV, dIf, dTru, DTru, dCons, dNil, dTup, dLst, dCall, dCB, dFor, dDrop, dPart, dNo, dNext, dBreak, dCont, dPar, dgT, dgAll, ix_t0, ix_t1, ix_t2, ix_t3, ix_t4, eq_ss, eq_ii, eq_si, eq_is, eq_bb, ne_ss, ne_ii, ne_si, ne_is, ne_bb, add_ii, add_ss, add_tt, mul_ii, mul_ti, oI_ii, oI0_ii, oB0_ii, is_non, isnot_non, isNon_non, isNon_int, isNon_str, isNon_bl, isNon_tup, len_tup, len_fl, len_str, tuple_tup, int_i, int_b, abs_i, max_ii, min_ii, seq_ref, diR1, diR2, items_tup, items_fl, same, Option.some.injEq, exists_eq_left', exists_eq_left, true_and, and_true, if_true, if_false, ite_true, ite_false, Bool.false_eq_true, reduceIte, List.length_cons, List.length_nil, Nat.reduceAdd, Nat.zero_add, decide_true, decide_false, Bool.not_true, Bool.not_false, forall_const, forall_eq, sl_ref, dNeg, wipeG, wipeG.nv, dYes, cut_1, dLoop, wantI_some, wantL_some, wantK_some, wantB_some, mupd_app, ix_ref, ix_tupA, len_ref, tuple_ref, list_ref, list_tup, list_fl, mul_ref, add_ref, setL_ref, lm_ref, append_at, extend_ref, dget_ref, sum_ref, max_ref, min_ref, at_0, at_1, at_2, at_3, at_4, isi_eq, tyD_int, tyD_bl, tyD_str, tyD_tup, tyD_non, kit_ii, kit_ib, kit_is, kit_it, kit_bi, kit_bb, kit_bs, kit_bt, kit_si, kit_sb, kit_ss, kit_st, kit_ti, kit_tb, kit_ts, kit_tt, kit_ni, kit_nb, kit_ns, kit_nt, kit_li, kit_lb, kit_ls, kit_lt, eq_self, hM3, List.length_map, ixN_nn r0 r1]
      refine ⟨sz (by decide), sz (by decide), hN _ _ ⟨_, _, _, _, _, _, _, _, _, _, _, l, ps.set r.toNat (.again p), rfl, ?_, hMl, la, lb, ?_, hD3.upd la lb, hF3.own hMl⟩⟩
      · rw [mupd_same, List.map_set]; rfl
      · have := hR.again p2 hlt
        exact this.mono (by omega)
    · split
      · rename_i h; exact join h
      · exact stay _ _ ⟨_, _, _, _, _, _, _, _, _, _, _, l, ps, rfl, hM3, hMl, la, lb, hR, hD3, hF3⟩
  · split
    · rename_i h; exact join h
    · exact stay _ _ ⟨_, _, _, _, _, _, _, _, _, _, _, l, ps, rfl, hM3, hMl, la, lb, hR, hD3, hF3⟩
/-- the inner loop keeps the row and a place -/
def PJ (a b : Addr) (many most : Int) (M : Mp) (n : Int) (Γ : Gm) (M' : Mp) : Prop := ∃ (x4 x6 x7 x8 x9 x10 x11 x12 x13 x14 : Option D) (j : Nat) (l : Addr) (ps : List Pat), Γ = [some (.ref a), some (.int many), some (.int most), some (.ref l), x4, some (.int j), x6, x7, x8, x9, x10, x11, x12, x13, x14] ∧ j + 1 < ps.length ∧ M' l = some (.lst (ps.map encR)) ∧ M l = none ∧ l ≠ a ∧ l ≠ b ∧ RowOk most n ps ∧ Drum M' a b ∧ Fr a b M M'
theorem pattern_L3 {a b : Addr} {many most : Int} {M M' : Mp} {i : Nat} {Γ : Gm} {F : DEnds} (hm : most ≤ 40) (h : PI a b many most M i Γ M') (hN : ∀ Γ M', PI a b many most M (i + 1) Γ M' → F.nx Γ M') :
    b__law_pattern_L3 sp__law_test sp__law_pull F Γ M' := by
  obtain ⟨x4, x5, x6, x7, x8, x9, x10, x11, x12, x13, x14, l, ps, rfl, hM', hMl, la, lb, hR, hD', hF'⟩ := h
  have hlen := hR.len
  simp only [b__law_pattern_L3, dSeq, dAsg, dgN, dRet, dRetN, dIfS, dVar, gv_0, gv_s, sv_0, sv_s, dC, dOp, dB, asB_b, dAnd, dOr, dNot, dAndV, dOrV, dNotV, dIf, dTru, DTru, dCons, dNil, dTup, dLst, dCall, dCB, dFor, dDrop, dPart, dNo, dNext, dBreak, dCont, dPar, dgT, dgAll, ix_t0, ix_t1, ix_t2, ix_t3, ix_t4, eq_ss, eq_ii, eq_si, eq_is, eq_bb, ne_ss, ne_ii, ne_si, ne_is, ne_bb, add_ii, add_ss, add_tt, mul_ii, mul_ti, oI_ii, oI0_ii, oB0_ii, is_non, isnot_non, isNon_non, isNon_int, isNon_str, isNon_bl, isNon_tup, len_tup, len_fl, len_str, tuple_tup, int_i, int_b, abs_i, max_ii, min_ii, seq_ref, diR1, diR2, items_tup, items_fl, same, Option.some.injEq, exists_eq_left', exists_eq_left, true_and, and_true, if_true, if_false, ite_true, ite_false, Bool.false_eq_true, reduceIte, List.length_cons, List.length_nil, Nat.reduceAdd, Nat.zero_add, decide_true, decide_false, Bool.not_true, Bool.not_false, forall_const, forall_eq, sl_ref, dNeg, wipeG, wipeG.nv, dYes, cut_1, dLoop, wantI_some, wantL_some, wantK_some, wantB_some, mupd_app, ix_ref, ix_tupA, len_ref, tuple_ref, list_ref, list_tup, list_fl, mul_ref, add_ref, setL_ref, lm_ref, append_at, extend_ref, dget_ref, sum_ref, max_ref, min_ref, at_0, at_1, at_2, at_3, at_4, isi_eq, tyD_int, tyD_bl, tyD_str, tyD_tup, tyD_non, kit_ii, kit_ib, kit_is, kit_it, kit_bi, kit_bb, kit_bs, kit_bt, kit_si, kit_sb, kit_ss, kit_st, kit_ti, kit_tb, kit_ts, kit_tt, kit_ni, kit_nb, kit_ns, kit_nt, kit_li, kit_lb, kit_ls, kit_lt, eq_self, hM', List.length_map]
  split
  · rename_i hgt
    have hgt := of_decide_eq_true hgt
    simp only [b__law_pattern_T5, dSeq, dAsg, dgN, dRet, dRetN, dIfS, dVar, gv_0, gv_s, sv_0, sv_s, dC, dOp, dB, asB_b, dAnd, dOr, dNot, dAndV, dOrV, dNotV, dIf, dTru, DTru, dCons, dNil, dTup, dLst, dCall, dCB, dFor, dDrop, dPart, dNo, dNext, dBreak, dCont, dPar, dgT, dgAll, ix_t0, ix_t1, ix_t2, ix_t3, ix_t4, eq_ss, eq_ii, eq_si, eq_is, eq_bb, ne_ss, ne_ii, ne_si, ne_is, ne_bb, add_ii, add_ss, add_tt, mul_ii, mul_ti, oI_ii, oI0_ii, oB0_ii, is_non, isnot_non, isNon_non, isNon_int, isNon_str, isNon_bl, isNon_tup, len_tup, len_fl, len_str, tuple_tup, int_i, int_b, abs_i, max_ii, min_ii, seq_ref, diR1, diR2, items_tup, items_fl, same, Option.some.injEq, exists_eq_left', exists_eq_left, true_and, and_true, if_true, if_false, ite_true, ite_false, Bool.false_eq_true, reduceIte, List.length_cons, List.length_nil, Nat.reduceAdd, Nat.zero_add, decide_true, decide_false, Bool.not_true, Bool.not_false, forall_const, forall_eq, sl_ref, dNeg, wipeG, wipeG.nv, dYes, cut_1, dLoop, wantI_some, wantL_some, wantK_some, wantB_some, mupd_app, ix_ref, ix_tupA, len_ref, tuple_ref, list_ref, list_tup, list_fl, mul_ref, add_ref, setL_ref, lm_ref, append_at, extend_ref, dget_ref, sum_ref, max_ref, min_ref, at_0, at_1, at_2, at_3, at_4, isi_eq, tyD_int, tyD_bl, tyD_str, tyD_tup, tyD_non, kit_ii, kit_ib, kit_is, kit_it, kit_bi, kit_bb, kit_bs, kit_bt, kit_si, kit_sb, kit_ss, kit_st, kit_ti, kit_tb, kit_ts, kit_tt, kit_ni, kit_nb, kit_ns, kit_nt, kit_li, kit_lb, kit_ls, kit_lt, eq_self, hM', List.length_map]
    refine ⟨⟨by omega, by omega⟩, ?_⟩
    refine dLoop_inv (fun i2 Γ M'' => ∃ (x9 : Option D) (j : Nat), Γ = [some (.ref a), some (.int many), some (.int most), some (.ref l), x4, some (.int j), x6, x7, x8, x9, x10, x11, x12, x13, x14] ∧ j + 1 < ps.length ∧ M'' = M') ?_ ?_ ?_
    · rintro i2 d Γ M'' N hi ⟨x9, j, rfl, hj, rfl⟩ hN2
      obtain ⟨hi1, rfl⟩ := rgD_get hi
      obtain ⟨p1, e1, _⟩ := at_map (f := encR) (xs := ps) (i := (j : Int)) (by omega) (by omega)
      obtain ⟨p2, e2, _⟩ := at_map (f := encR) (xs := ps) (i := (j : Int) + 1) (by omega) (by omega)
      obtain ⟨p3, e3, _⟩ := at_map (f := encR) (xs := ps) (i := (0 : Int) + (i2 : Int)) (by omega) (by omega)
      obtain ⟨p4, e4, _⟩ := at_map (f := encR) (xs := ps) (i := (0 : Int) + (i2 : Int) + 1) (by omega) (by omega)
      simp only [b__law_pattern_L2, b__law_pattern_T4, ix_encR1, dSeq, dAsg, dgN, dRet, dRetN, dIfS, dVar, gv_0, gv_s, sv_0, sv_s, dC, dOp, dB, asB_b, dAnd, dOr, dNot, dAndV, dOrV, dNotV, dIf, dTru, DTru, dCons, dNil, dTup, dLst, dCall, dCB, dFor, dDrop, dPart, dNo, dNext, dBreak, dCont, dPar, dgT, dgAll, ix_t0, ix_t1, ix_t2, ix_t3, ix_t4, eq_ss, eq_ii, eq_si, eq_is, eq_bb, ne_ss, ne_ii, ne_si, ne_is, ne_bb, add_ii, add_ss, add_tt, mul_ii, mul_ti, oI_ii, oI0_ii, oB0_ii, is_non, isnot_non, isNon_non, isNon_int, isNon_str, isNon_bl, isNon_tup, len_tup, len_fl, len_str, tuple_tup, int_i, int_b, abs_i, max_ii, min_ii, seq_ref, diR1, diR2, items_tup, items_fl, same, Option.some.injEq, exists_eq_left', exists_eq_left, true_and, and_true, if_true, if_false, ite_true, ite_false, Bool.false_eq_true, reduceIte, List.length_cons, List.length_nil, Nat.reduceAdd, Nat.zero_add, decide_true, decide_false, Bool.not_true, Bool.not_false, forall_const, forall_eq, sl_ref, dNeg, wipeG, wipeG.nv, dYes, cut_1, dLoop, wantI_some, wantL_some, wantK_some, wantB_some, mupd_app, ix_ref, ix_tupA, len_ref, tuple_ref, list_ref, list_tup, list_fl, mul_ref, add_ref, setL_ref, lm_ref, append_at, extend_ref, dget_ref, sum_ref, max_ref, min_ref, at_0, at_1, at_2, at_3, at_4, isi_eq, tyD_int, tyD_bl, tyD_str, tyD_tup, tyD_non, kit_ii, kit_ib, kit_is, kit_it, kit_bi, kit_bb, kit_bs, kit_bt, kit_si, kit_sb, kit_ss, kit_st, kit_ti, kit_tb, kit_ts, kit_tt, kit_ni, kit_nb, kit_ns, kit_nt, kit_li, kit_lb, kit_ls, kit_lt, eq_self, hM', e1, e2, e3, e4]
      simp only [Int.zero_add]
      exact ite_both (hN2 _ _ ⟨_, i2, rfl, by omega, rfl⟩) (hN2 _ _ ⟨_, j, rfl, hj, rfl⟩)
    · rintro Γ M'' ⟨x9, j, rfl, hj, rfl⟩
      obtain ⟨p1, e1, g1⟩ := at_map (f := encR) (xs := ps) (i := (j : Int)) (by omega) (by omega)
      obtain ⟨p2, e2, g2⟩ := at_map (f := encR) (xs := ps) (i := (j : Int) + 1) (by omega) (by omega)
      rw [Int.toNat_natCast] at g1
      rw [show ((j : Int) + 1).toNat = j + 1 from by omega] at g2
      have d1 := (hR.2.1 p1 (List.mem_of_getElem? g1)).2
      have d2 := (hR.2.1 p2 (List.mem_of_getElem? g2)).2
      simp only [R2_eq, dSeq, dAsg, dgN, dRet, dRetN, dIfS, dVar, gv_0, gv_s, sv_0, sv_s, dC, dOp, dB, asB_b, dAnd, dOr, dNot, dAndV, dOrV, dNotV, dIf, dTru, DTru, dCons, dNil, dTup, dLst, dCall, dCB, dFor, dDrop, dPart, dNo, dNext, dBreak, dCont, dPar, dgT, dgAll, ix_t0, ix_t1, ix_t2, ix_t3, ix_t4, eq_ss, eq_ii, eq_si, eq_is, eq_bb, ne_ss, ne_ii, ne_si, ne_is, ne_bb, add_ii, add_ss, add_tt, mul_ii, mul_ti, oI_ii, oI0_ii, oB0_ii, is_non, isnot_non, isNon_non, isNon_int, isNon_str, isNon_bl, isNon_tup, len_tup, len_fl, len_str, tuple_tup, int_i, int_b, abs_i, max_ii, min_ii, seq_ref, diR1, diR2, items_tup, items_fl, same, Option.some.injEq, exists_eq_left', exists_eq_left, true_and, and_true, if_true, if_false, ite_true, ite_false, Bool.false_eq_true, reduceIte, List.length_cons, List.length_nil, Nat.reduceAdd, Nat.zero_add, decide_true, decide_false, Bool.not_true, Bool.not_false, forall_const, forall_eq, sl_ref, dNeg, wipeG, wipeG.nv, dYes, cut_1, dLoop, wantI_some, wantL_some, wantK_some, wantB_some, mupd_app, ix_ref, ix_tupA, len_ref, tuple_ref, list_ref, list_tup, list_fl, mul_ref, add_ref, setL_ref, lm_ref, append_at, extend_ref, dget_ref, sum_ref, max_ref, min_ref, at_0, at_1, at_2, at_3, at_4, isi_eq, tyD_int, tyD_bl, tyD_str, tyD_tup, tyD_non, kit_ii, kit_ib, kit_is, kit_it, kit_bi, kit_bb, kit_bs, kit_bt, kit_si, kit_sb, kit_ss, kit_st, kit_ti, kit_tb, kit_ts, kit_tt, kit_ni, kit_nb, kit_ns, kit_nt, kit_li, kit_lb, kit_ls, kit_lt, eq_self, hM', e1]
      simp only [encR, dSeq, dAsg, dgN, dRet, dRetN, dIfS, dVar, gv_0, gv_s, sv_0, sv_s, dC, dOp, dB, asB_b, dAnd, dOr, dNot, dAndV, dOrV, dNotV, dIf, dTru, DTru, dCons, dNil, dTup, dLst, dCall, dCB, dFor, dDrop, dPart, dNo, dNext, dBreak, dCont, dPar, dgT, dgAll, ix_t0, ix_t1, ix_t2, ix_t3, ix_t4, eq_ss, eq_ii, eq_si, eq_is, eq_bb, ne_ss, ne_ii, ne_si, ne_is, ne_bb, add_ii, add_ss, add_tt, mul_ii, mul_ti, oI_ii, oI0_ii, oB0_ii, is_non, isnot_non, isNon_non, isNon_int, isNon_str, isNon_bl, isNon_tup, len_tup, len_fl, len_str, tuple_tup, int_i, int_b, abs_i, max_ii, min_ii, seq_ref, diR1, diR2, items_tup, items_fl, same, Option.some.injEq, exists_eq_left', exists_eq_left, true_and, and_true, if_true, if_false, ite_true, ite_false, Bool.false_eq_true, reduceIte, List.length_cons, List.length_nil, Nat.reduceAdd, Nat.zero_add, decide_true, decide_false, Bool.not_true, Bool.not_false, forall_const, forall_eq, sl_ref, dNeg, wipeG, wipeG.nv, dYes, cut_1, dLoop, wantI_some, wantL_some, wantK_some, wantB_some, mupd_app, ix_ref, ix_tupA, len_ref, tuple_ref, list_ref, list_tup, list_fl, mul_ref, add_ref, setL_ref, lm_ref, append_at, extend_ref, dget_ref, sum_ref, max_ref, min_ref, at_0, at_1, at_2, at_3, at_4, isi_eq, tyD_int, tyD_bl, tyD_str, tyD_tup, tyD_non, kit_ii, kit_ib, kit_is, kit_it, kit_bi, kit_bb, kit_bs, kit_bt, kit_si, kit_sb, kit_ss, kit_st, kit_ti, kit_tb, kit_ts, kit_tt, kit_ni, kit_nb, kit_ns, kit_nt, kit_li, kit_lb, kit_ls, kit_lt, eq_self, hM', e2]
      refine join_ok (o := false) rfl rfl rfl rfl rfl rfl (fun _ _ => rfl) hM' (by omega) hj fun l' M2 h1 h2 h3 => hN _ _ ?_
      exact ⟨_, _, _, _, _, _, _, _, _, _, _, l', _, rfl, h2, hF'.none hD' h1, (hD'.ne h1).1, (hD'.ne h1).2, (hR.bin false g1 g2 (by omega)).mono (by omega), hD'.sub h3, hF'.sub h3⟩
    · exact ⟨_, 0, rfl, by omega, rfl⟩
  · exact hN _ _ ⟨_, _, _, _, _, _, _, _, _, _, _, l, ps, rfl, hM', hMl, la, lb, hR.mono (by omega), hD', hF'⟩
theorem pattern_R4 {a b : Addr} {many most : Int} {M M' : Mp} {i : Nat} {Γ : Gm} {F : DEnds} (hm : most ≤ 40) (hm2 : many ≤ 24) (hi : i ≤ 200) (h : PI a b many most M i Γ M')
    (q : ∀ p M', p.few → (p.depth : Int) ≤ most → p.many ≤ 300 → Drum M' a b → Fr a b M M' → F.rt (enc p) M') : b__law_pattern_R4 sp__law_test sp__law_pull F Γ M' := by
  obtain ⟨x4, x5, x6, x7, x8, x9, x10, x11, x12, x13, x14, l, ps, rfl, hM', hMl, la, lb, hR, hD', hF'⟩ := h
  have hlen := hR.len
  simp only [b__law_pattern_R4, dSeq, dAsg, dgN, dRet, dRetN, dIfS, dVar, gv_0, gv_s, sv_0, sv_s, dC, dOp, dB, asB_b, dAnd, dOr, dNot, dAndV, dOrV, dNotV, dIf, dTru, DTru, dCons, dNil, dTup, dLst, dCall, dCB, dFor, dDrop, dPart, dNo, dNext, dBreak, dCont, dPar, dgT, dgAll, ix_t0, ix_t1, ix_t2, ix_t3, ix_t4, eq_ss, eq_ii, eq_si, eq_is, eq_bb, ne_ss, ne_ii, ne_si, ne_is, ne_bb, add_ii, add_ss, add_tt, mul_ii, mul_ti, oI_ii, oI0_ii, oB0_ii, is_non, isnot_non, isNon_non, isNon_int, isNon_str, isNon_bl, isNon_tup, len_tup, len_fl, len_str, tuple_tup, int_i, int_b, abs_i, max_ii, min_ii, seq_ref, diR1, diR2, items_tup, items_fl, same, Option.some.injEq, exists_eq_left', exists_eq_left, true_and, and_true, if_true, if_false, ite_true, ite_false, Bool.false_eq_true, reduceIte, List.length_cons, List.length_nil, Nat.reduceAdd, Nat.zero_add, decide_true, decide_false, Bool.not_true, Bool.not_false, forall_const, forall_eq, sl_ref, dNeg, wipeG, wipeG.nv, dYes, cut_1, dLoop, wantI_some, wantL_some, wantK_some, wantB_some, mupd_app, ix_ref, ix_tupA, len_ref, tuple_ref, list_ref, list_tup, list_fl, mul_ref, add_ref, setL_ref, lm_ref, append_at, extend_ref, dget_ref, sum_ref, max_ref, min_ref, at_0, at_1, at_2, at_3, at_4, isi_eq, tyD_int, tyD_bl, tyD_str, tyD_tup, tyD_non, kit_ii, kit_ib, kit_is, kit_it, kit_bi, kit_bb, kit_bs, kit_bt, kit_si, kit_sb, kit_ss, kit_st, kit_ti, kit_tb, kit_ts, kit_tt, kit_ni, kit_nb, kit_ns, kit_nt, kit_li, kit_lb, kit_ls, kit_lt, eq_self, hM', List.length_map]
  refine ⟨⟨by omega, by omega⟩, ?_⟩
  refine dLoop_inv (fun k => PI a b many most M (i + k)) ?_ ?_ ?_
  · intro k d Γ M2 N hi h hN
    refine ⟨trivial, ?_⟩
    obtain ⟨x4, x5, x6, x7, x8, x9, x10, x11, x12, x13, x14, l, ps, rfl, h⟩ := h
    exact pattern_L3 (i := i + k) hm ⟨_, _, _, _, _, _, _, _, _, _, _, l, ps, rfl, h⟩ hN
  · rintro Γ M2 ⟨x4, x5, x6, x7, x8, x9, x10, x11, x12, x13, x14, l2, qs, rfl, hM2, hMl2, la2, lb2, hR2, hD2, hF2⟩
    rw [rgD_len] at hR2
    have h1 := hR2.1
    obtain ⟨p, e1, e2⟩ := at_map (f := encR) (xs := qs) (i := (0 : Int)) (by omega) (by omega)
    simp only [b__law_pattern_R3, dSeq, dAsg, dgN, dRet, dRetN, dIfS, dVar, gv_0, gv_s, sv_0, sv_s, dC, dOp, dB, asB_b, dAnd, dOr, dNot, dAndV, dOrV, dNotV, dIf, dTru, DTru, dCons, dNil, dTup, dLst, dCall, dCB, dFor, dDrop, dPart, dNo, dNext, dBreak, dCont, dPar, dgT, dgAll, ix_t0, ix_t1, ix_t2, ix_t3, ix_t4, eq_ss, eq_ii, eq_si, eq_is, eq_bb, ne_ss, ne_ii, ne_si, ne_is, ne_bb, add_ii, add_ss, add_tt, mul_ii, mul_ti, oI_ii, oI0_ii, oB0_ii, is_non, isnot_non, isNon_non, isNon_int, isNon_str, isNon_bl, isNon_tup, len_tup, len_fl, len_str, tuple_tup, int_i, int_b, abs_i, max_ii, min_ii, seq_ref, diR1, diR2, items_tup, items_fl, same, Option.some.injEq, exists_eq_left', exists_eq_left, true_and, and_true, if_true, if_false, ite_true, ite_false, Bool.false_eq_true, reduceIte, List.length_cons, List.length_nil, Nat.reduceAdd, Nat.zero_add, decide_true, decide_false, Bool.not_true, Bool.not_false, forall_const, forall_eq, sl_ref, dNeg, wipeG, wipeG.nv, dYes, cut_1, dLoop, wantI_some, wantL_some, wantK_some, wantB_some, mupd_app, ix_ref, ix_tupA, len_ref, tuple_ref, list_ref, list_tup, list_fl, mul_ref, add_ref, setL_ref, lm_ref, append_at, extend_ref, dget_ref, sum_ref, max_ref, min_ref, at_0, at_1, at_2, at_3, at_4, isi_eq, tyD_int, tyD_bl, tyD_str, tyD_tup, tyD_non, kit_ii, kit_ib, kit_is, kit_it, kit_bi, kit_bb, kit_bs, kit_bt, kit_si, kit_sb, kit_ss, kit_st, kit_ti, kit_tb, kit_ts, kit_tt, kit_ni, kit_nb, kit_ns, kit_nt, kit_li, kit_lb, kit_ls, kit_lt, eq_self, hM2, e1, ix_encR0]
    have hp := hR2.2.1 p (List.mem_of_getElem? e2)
    refine q p _ hp.1 (by omega) ?_ hD2 hF2
    have : p.many ≤ (qs.map Pat.many).sum := by
      have hm := List.mem_of_getElem? e2
      clear hM2 hR2 hp h1 e1 e2
      induction qs with
      | nil => cases hm
      | cons y r ih =>
        rw [List.map_cons, List.sum_cons]
        rcases List.mem_cons.mp hm with h | h
        · subst h; omega
        · have := ih h; omega
    have := hR2.2.2
    omega
  · exact ⟨_, _, _, _, _, _, _, _, _, _, _, l, ps, rfl, hM', hMl, la, lb, hR, hD', hF'⟩
theorem hs__law_pattern : ∀ ds M Q E, sp__law_pattern ds M Q E → b__law_pattern sp__law_test sp__law_pull { nx := fun _ M' => Wk Q .non M', rt := Wk Q } (startG N__law_pattern ds) M := by
  rintro ds M Q E ⟨a, b, many, most, rfl, hD, hm1, hm2, hm3, hm4, q⟩
  show b__law_pattern _ _ _ [some (.ref a), some (.int many), some (.int most), none, none, none, none, none, none, none, none, none, none, none, none] M
  simp only [b__law_pattern, dLc, dSeq, dAsg, dgN, dRet, dRetN, dIfS, dVar, gv_0, gv_s, sv_0, sv_s, dC, dOp, dB, asB_b, dAnd, dOr, dNot, dAndV, dOrV, dNotV, dIf, dTru, DTru, dCons, dNil, dTup, dLst, dCall, dCB, dFor, dDrop, dPart, dNo, dNext, dBreak, dCont, dPar, dgT, dgAll, ix_t0, ix_t1, ix_t2, ix_t3, ix_t4, eq_ss, eq_ii, eq_si, eq_is, eq_bb, ne_ss, ne_ii, ne_si, ne_is, ne_bb, add_ii, add_ss, add_tt, mul_ii, mul_ti, oI_ii, oI0_ii, oB0_ii, is_non, isnot_non, isNon_non, isNon_int, isNon_str, isNon_bl, isNon_tup, len_tup, len_fl, len_str, tuple_tup, int_i, int_b, abs_i, max_ii, min_ii, seq_ref, diR1, diR2, items_tup, items_fl, same, Option.some.injEq, exists_eq_left', exists_eq_left, true_and, and_true, if_true, if_false, ite_true, ite_false, Bool.false_eq_true, reduceIte, List.length_cons, List.length_nil, Nat.reduceAdd, Nat.zero_add, decide_true, decide_false, Bool.not_true, Bool.not_false, forall_const, forall_eq, sl_ref, dNeg, wipeG, wipeG.nv, dYes, cut_1, dLoop, wantI_some, wantL_some, wantK_some, wantB_some, mupd_app, ix_ref, ix_tupA, len_ref, tuple_ref, list_ref, list_tup, list_fl, mul_ref, add_ref, setL_ref, lm_ref, append_at, extend_ref, dget_ref, sum_ref, max_ref, min_ref, at_0, at_1, at_2, at_3, at_4, isi_eq, tyD_int, tyD_bl, tyD_str, tyD_tup, tyD_non, kit_ii, kit_ib, kit_is, kit_it, kit_bi, kit_bb, kit_bs, kit_bt, kit_si, kit_sb, kit_ss, kit_st, kit_ti, kit_tb, kit_ts, kit_tt, kit_ni, kit_nb, kit_ns, kit_nt, kit_li, kit_lb, kit_ls, kit_lt, eq_self]
  refine ⟨⟨by omega, by omega⟩, ?_⟩
  refine dCL_inv (fun i acc M' => ∃ ps : List Pat, acc = ps.map encR ∧ ps.length = i ∧ i ≤ many.toNat ∧ (∀ p ∈ ps, p.few ∧ p.depth = 1 ∧ p.many = 1) ∧ Drum M' a b ∧ Fr a b M M') ?_ ?_ ?_ ?_
  · rintro i d acc M' Ny Nn hi ⟨ps, rfl, hl, hi2, hp, hD', hF'⟩ hy hn
    have hi1 := (rgD_get hi).1
    simp only [dSeq, dAsg, dgN, dRet, dRetN, dIfS, dVar, gv_0, gv_s, sv_0, sv_s, dC, dOp, dB, asB_b, dAnd, dOr, dNot, dAndV, dOrV, dNotV, dIf, dTru, DTru, dCons, dNil, dTup, dLst, dCall, dCB, dFor, dDrop, dPart, dNo, dNext, dBreak, dCont, dPar, dgT, dgAll, ix_t0, ix_t1, ix_t2, ix_t3, ix_t4, eq_ss, eq_ii, eq_si, eq_is, eq_bb, ne_ss, ne_ii, ne_si, ne_is, ne_bb, add_ii, add_ss, add_tt, mul_ii, mul_ti, oI_ii, oI0_ii, oB0_ii, is_non, isnot_non, isNon_non, isNon_int, isNon_str, isNon_bl, isNon_tup, len_tup, len_fl, len_str, tuple_tup, int_i, int_b, abs_i, max_ii, min_ii, seq_ref, diR1, diR2, items_tup, items_fl, same, Option.some.injEq, exists_eq_left', exists_eq_left, true_and, and_true, if_true, if_false, ite_true, ite_false, Bool.false_eq_true, reduceIte, List.length_cons, List.length_nil, Nat.reduceAdd, Nat.zero_add, decide_true, decide_false, Bool.not_true, Bool.not_false, forall_const, forall_eq, sl_ref, dNeg, wipeG, wipeG.nv, dYes, cut_1, dLoop, wantI_some, wantL_some, wantK_some, wantB_some, mupd_app, ix_ref, ix_tupA, len_ref, tuple_ref, list_ref, list_tup, list_fl, mul_ref, add_ref, setL_ref, lm_ref, append_at, extend_ref, dget_ref, sum_ref, max_ref, min_ref, at_0, at_1, at_2, at_3, at_4, isi_eq, tyD_int, tyD_bl, tyD_str, tyD_tup, tyD_non, kit_ii, kit_ib, kit_is, kit_it, kit_bi, kit_bb, kit_bs, kit_bt, kit_si, kit_sb, kit_ss, kit_st, kit_ti, kit_tb, kit_ts, kit_tt, kit_ni, kit_nb, kit_ns, kit_nt, kit_li, kit_lb, kit_ls, kit_lt, eq_self]
    refine ⟨a, b, rfl, hD', fun ts M2 ht hD2 hF2 => ?_⟩
    refine ⟨sz (by decide), (hy _ _ ?_).2⟩
    refine ⟨ps ++ [.test ts], by simp [encR, Pat.depth], by simp [hl], by omega, fun p hp' => ?_, hD2, hF'.trans hF2⟩
    rcases List.mem_append.mp hp' with h | h
    · exact hp p h
    · rw [List.mem_singleton.mp h]; exact ⟨ht, rfl, rfl⟩
  · rintro i acc M' ⟨ps, rfl, hl, hi2, hp, hD', hF'⟩
    exact sz (by rw [List.length_map]; omega)
  · rintro acc M' ⟨ps, rfl, hl, _, hp, hD', hF'⟩
    rw [rgD_len] at hl
    have hR0 : RowOk most (many + (0 : Nat)) ps := by
      refine ⟨by omega, fun p h => ⟨(hp p h).1, by have := (hp p h).2.1; omega⟩, ?_⟩
      have : ∀ qs : List Pat, (∀ p ∈ qs, p.many = 1) → (qs.map Pat.many).sum = qs.length := by
        intro qs
        induction qs with
        | nil => intro _; rfl
        | cons x r ih =>
          intro h
          rw [List.map_cons, List.sum_cons, ih fun p hp => h p (List.mem_cons_of_mem _ hp), h x List.mem_cons_self, List.length_cons]
          omega
      rw [this ps fun p h => (hp p h).2.2]
      omega
    refine ⟨trivial, fun l hl' => ⟨by decide, ?_⟩⟩
    refine dLoop_inv (PI a b many most M) ?_ ?_ ?_
    · rintro i d Γ M' N hi ⟨x4, x5, x6, x7, x8, x9, x10, x11, x12, x13, x14, l, ps, rfl, hM', hMl, la, lb, hR, hD', hF'⟩ hN
      have hlen := hR.len
      have hlen1 := hR.1
      have hi200 := (rgD_get hi).1
      simp only [b__law_pattern_L1, dSeq, dAsg, dgN, dRet, dRetN, dIfS, dVar, gv_0, gv_s, sv_0, sv_s, dC, dOp, dB, asB_b, dAnd, dOr, dNot, dAndV, dOrV, dNotV, dIf, dTru, DTru, dCons, dNil, dTup, dLst, dCall, dCB, dFor, dDrop, dPart, dNo, dNext, dBreak, dCont, dPar, dgT, dgAll, ix_t0, ix_t1, ix_t2, ix_t3, ix_t4, eq_ss, eq_ii, eq_si, eq_is, eq_bb, ne_ss, ne_ii, ne_si, ne_is, ne_bb, add_ii, add_ss, add_tt, mul_ii, mul_ti, oI_ii, oI0_ii, oB0_ii, is_non, isnot_non, isNon_non, isNon_int, isNon_str, isNon_bl, isNon_tup, len_tup, len_fl, len_str, tuple_tup, int_i, int_b, abs_i, max_ii, min_ii, seq_ref, diR1, diR2, items_tup, items_fl, same, Option.some.injEq, exists_eq_left', exists_eq_left, true_and, and_true, if_true, if_false, ite_true, ite_false, Bool.false_eq_true, reduceIte, List.length_cons, List.length_nil, Nat.reduceAdd, Nat.zero_add, decide_true, decide_false, Bool.not_true, Bool.not_false, forall_const, forall_eq, sl_ref, dNeg, wipeG, wipeG.nv, dYes, cut_1, dLoop, wantI_some, wantL_some, wantK_some, wantB_some, mupd_app, ix_ref, ix_tupA, len_ref, tuple_ref, list_ref, list_tup, list_fl, mul_ref, add_ref, setL_ref, lm_ref, append_at, extend_ref, dget_ref, sum_ref, max_ref, min_ref, at_0, at_1, at_2, at_3, at_4, isi_eq, tyD_int, tyD_bl, tyD_str, tyD_tup, tyD_non, kit_ii, kit_ib, kit_is, kit_it, kit_bi, kit_bb, kit_bs, kit_bt, kit_si, kit_sb, kit_ss, kit_st, kit_ti, kit_tb, kit_ts, kit_tt, kit_ni, kit_nb, kit_ns, kit_nt, kit_li, kit_lb, kit_ls, kit_lt, eq_self, hM']
      refine ⟨a, b, _, rfl, hD', by rw [List.length_map]; omega, by rw [List.length_map]; omega, fun r M2 r0 r1 hD2 hF2 => ?_⟩
      rw [List.length_map] at r1
      have hM2 := hF2 l _ la lb hM'
      obtain ⟨p, p1, p2⟩ := at_map (f := encR) (xs := ps) (i := r) (by omega) (by omega)
      simp only [dSeq, dAsg, dgN, dRet, dRetN, dIfS, dVar, gv_0, gv_s, sv_0, sv_s, dC, dOp, dB, asB_b, dAnd, dOr, dNot, dAndV, dOrV, dNotV, dIf, dTru, DTru, dCons, dNil, dTup, dLst, dCall, dCB, dFor, dDrop, dPart, dNo, dNext, dBreak, dCont, dPar, dgT, dgAll, ix_t0, ix_t1, ix_t2, ix_t3, ix_t4, eq_ss, eq_ii, eq_si, eq_is, eq_bb, ne_ss, ne_ii, ne_si, ne_is, ne_bb, add_ii, add_ss, add_tt, mul_ii, mul_ti, oI_ii, oI0_ii, oB0_ii, is_non, isnot_non, isNon_non, isNon_int, isNon_str, isNon_bl, isNon_tup, len_tup, len_fl, len_str, tuple_tup, int_i, int_b, abs_i, max_ii, min_ii, seq_ref, diR1, diR2, items_tup, items_fl, same, Option.some.injEq, exists_eq_left', exists_eq_left, true_and, and_true, if_true, if_false, ite_true, ite_false, Bool.false_eq_true, reduceIte, List.length_cons, List.length_nil, Nat.reduceAdd, Nat.zero_add, decide_true, decide_false, Bool.not_true, Bool.not_false, forall_const, forall_eq, sl_ref, dNeg, wipeG, wipeG.nv, dYes, cut_1, dLoop, wantI_some, wantL_some, wantK_some, wantB_some, mupd_app, ix_ref, ix_tupA, len_ref, tuple_ref, list_ref, list_tup, list_fl, mul_ref, add_ref, setL_ref, lm_ref, append_at, extend_ref, dget_ref, sum_ref, max_ref, min_ref, at_0, at_1, at_2, at_3, at_4, isi_eq, tyD_int, tyD_bl, tyD_str, tyD_tup, tyD_non, kit_ii, kit_ib, kit_is, kit_it, kit_bi, kit_bb, kit_bs, kit_bt, kit_si, kit_sb, kit_ss, kit_st, kit_ti, kit_tb, kit_ts, kit_tt, kit_ni, kit_nb, kit_ns, kit_nt, kit_li, kit_lb, kit_ls, kit_lt, eq_self, hM2, p1]
      simp only [encR, dSeq, dAsg, dgN, dRet, dRetN, dIfS, dVar, gv_0, gv_s, sv_0, sv_s, dC, dOp, dB, asB_b, dAnd, dOr, dNot, dAndV, dOrV, dNotV, dIf, dTru, DTru, dCons, dNil, dTup, dLst, dCall, dCB, dFor, dDrop, dPart, dNo, dNext, dBreak, dCont, dPar, dgT, dgAll, ix_t0, ix_t1, ix_t2, ix_t3, ix_t4, eq_ss, eq_ii, eq_si, eq_is, eq_bb, ne_ss, ne_ii, ne_si, ne_is, ne_bb, add_ii, add_ss, add_tt, mul_ii, mul_ti, oI_ii, oI0_ii, oB0_ii, is_non, isnot_non, isNon_non, isNon_int, isNon_str, isNon_bl, isNon_tup, len_tup, len_fl, len_str, tuple_tup, int_i, int_b, abs_i, max_ii, min_ii, seq_ref, diR1, diR2, items_tup, items_fl, same, Option.some.injEq, exists_eq_left', exists_eq_left, true_and, and_true, if_true, if_false, ite_true, ite_false, Bool.false_eq_true, reduceIte, List.length_cons, List.length_nil, Nat.reduceAdd, Nat.zero_add, decide_true, decide_false, Bool.not_true, Bool.not_false, forall_const, forall_eq, sl_ref, dNeg, wipeG, wipeG.nv, dYes, cut_1, dLoop, wantI_some, wantL_some, wantK_some, wantB_some, mupd_app, ix_ref, ix_tupA, len_ref, tuple_ref, list_ref, list_tup, list_fl, mul_ref, add_ref, setL_ref, lm_ref, append_at, extend_ref, dget_ref, sum_ref, max_ref, min_ref, at_0, at_1, at_2, at_3, at_4, isi_eq, tyD_int, tyD_bl, tyD_str, tyD_tup, tyD_non, kit_ii, kit_ib, kit_is, kit_it, kit_bi, kit_bb, kit_bs, kit_bt, kit_si, kit_sb, kit_ss, kit_st, kit_ti, kit_tb, kit_ts, kit_tt, kit_ni, kit_nb, kit_ns, kit_nt, kit_li, kit_lb, kit_ls, kit_lt, eq_self]
      refine ⟨a, b, 5, rfl, hD2, by decide, by decide, fun k M3 k0 k1 hD3 hF3 => ?_⟩
      have hM3 := hF3 l _ la lb hM2
      have hF3' := (hF'.trans hF2).trans hF3
      have rest := pattern_R1 (x4 := some d) (x9 := x9) (x10 := x10) (x11 := x11) (x12 := x12) (x13 := x13) (x14 := x14) (F := { nx := N, rt := Wk Q, bk := b__law_pattern_R4 sp__law_test sp__law_pull { nx := fun _ M' => Wk Q .non M', rt := Wk Q }, ct := N }) hM3 hMl la lb hR hm4 hD3 hF3' r0 r1 p2 k0 hN
      simp only [dSeq, dAsg, dgN, dRet, dRetN, dIfS, dVar, gv_0, gv_s, sv_0, sv_s, dC, dOp, dB, asB_b, dAnd, dOr, dNot, dAndV, dOrV, dNotV, dIf, dTru, DTru, dCons, dNil, dTup, dLst, dCall, dCB, dFor, dDrop, dPart, dNo, dNext, dBreak, dCont, dPar, dgT, dgAll, ix_t0, ix_t1, ix_t2, ix_t3, ix_t4, eq_ss, eq_ii, eq_si, eq_is, eq_bb, ne_ss, ne_ii, ne_si, ne_is, ne_bb, add_ii, add_ss, add_tt, mul_ii, mul_ti, oI_ii, oI0_ii, oB0_ii, is_non, isnot_non, isNon_non, isNon_int, isNon_str, isNon_bl, isNon_tup, len_tup, len_fl, len_str, tuple_tup, int_i, int_b, abs_i, max_ii, min_ii, seq_ref, diR1, diR2, items_tup, items_fl, same, Option.some.injEq, exists_eq_left', exists_eq_left, true_and, and_true, if_true, if_false, ite_true, ite_false, Bool.false_eq_true, reduceIte, List.length_cons, List.length_nil, Nat.reduceAdd, Nat.zero_add, decide_true, decide_false, Bool.not_true, Bool.not_false, forall_const, forall_eq, sl_ref, dNeg, wipeG, wipeG.nv, dYes, cut_1, dLoop, wantI_some, wantL_some, wantK_some, wantB_some, mupd_app, ix_ref, ix_tupA, len_ref, tuple_ref, list_ref, list_tup, list_fl, mul_ref, add_ref, setL_ref, lm_ref, append_at, extend_ref, dget_ref, sum_ref, max_ref, min_ref, at_0, at_1, at_2, at_3, at_4, isi_eq, tyD_int, tyD_bl, tyD_str, tyD_tup, tyD_non, kit_ii, kit_ib, kit_is, kit_it, kit_bi, kit_bb, kit_bs, kit_bt, kit_si, kit_sb, kit_ss, kit_st, kit_ti, kit_tb, kit_ts, kit_tt, kit_ni, kit_nb, kit_ns, kit_nt, kit_li, kit_lb, kit_ls, kit_lt, eq_self, hM3, List.length_map]
      split
      · split
        · refine pattern_R4 hm4 hm2 (i := i) (by omega) ⟨_, _, _, _, _, _, _, _, _, _, _, l, ps, rfl, hM3, hMl, la, lb, hR, hD3, hF3'⟩ fun p M' h1 h2 h3 h4 h5 => Wk.of (q p M' h1 h2 h3 h4 h5)
        · exact rest
      · exact rest
    · intro Γ M2 h
      rw [rgD_len] at h
      exact ⟨trivial, pattern_R4 hm4 hm2 (Nat.le_refl 200) h fun p M' h1 h2 h3 h4 h5 => Wk.of (q p M' h1 h2 h3 h4 h5)⟩
    · exact ⟨_, _, _, _, _, _, _, _, _, _, _, l, ps, rfl, mupd_same, hF'.none hD' hl', (hD'.ne hl').1, (hD'.ne hl').2, hR0, hD'.new hl', hF'.new hl'⟩
  · exact ⟨[], rfl, rfl, Nat.zero_le _, fun _ h => (nomatch h), hD, .refl⟩
end Lw
end
section
set_option maxHeartbeats 4000000
/-! k07, part F: chains, nodes. -/
namespace Lw
open PySem L2 DL

/-! ### _law_chain -/
def sp__law_chain : DSp := fun ds M Q _ => ∃ (a b : Addr) (many deep : Int), ds = [.ref a, .int many, .int deep] ∧ Drum M a b ∧ 1 ≤ deep ∧ deep ≤ 40 ∧ ∀ p M', p.few → (p.depth : Int) ≤ deep → p.many ≤ 300 → Drum M' a b → Fr a b M M' → Q (enc p) M'
theorem ln__law_chain : ∀ ds M Q E, sp__law_chain ds M Q E → ds.length = 3 := fun _ _ _ _ ⟨_, _, _, _, h, _⟩ => by rw [h]; rfl
theorem hs__law_chain : ∀ ds M Q E, sp__law_chain ds M Q E → b__law_chain sp__law_test sp__law_pull { nx := fun _ M' => Wk Q .non M', rt := Wk Q } (startG N__law_chain ds) M := by
  rintro ds M Q E ⟨a, b, many, deep, rfl, hD, hm1, hm2, q⟩
  show b__law_chain _ _ _ [some (.ref a), some (.int many), some (.int deep), none, none, none, none, none, none] M
  simp only [b__law_chain, dSeq, dAsg, dgN, dRet, dRetN, dIfS, dVar, gv_0, gv_s, sv_0, sv_s, dC, dOp, dB, asB_b, dAnd, dOr, dNot, dAndV, dOrV, dNotV, dIf, dTru, DTru, dCons, dNil, dTup, dLst, dCall, dCB, dFor, dDrop, dPart, dNo, dNext, dBreak, dCont, dPar, dgT, dgAll, ix_t0, ix_t1, ix_t2, ix_t3, ix_t4, eq_ss, eq_ii, eq_si, eq_is, eq_bb, ne_ss, ne_ii, ne_si, ne_is, ne_bb, add_ii, add_ss, add_tt, mul_ii, mul_ti, oI_ii, oI0_ii, oB0_ii, is_non, isnot_non, isNon_non, isNon_int, isNon_str, isNon_bl, isNon_tup, len_tup, len_fl, len_str, tuple_tup, int_i, int_b, abs_i, max_ii, min_ii, seq_ref, diR1, diR2, items_tup, items_fl, same, Option.some.injEq, exists_eq_left', exists_eq_left, true_and, and_true, if_true, if_false, ite_true, ite_false, Bool.false_eq_true, reduceIte, List.length_cons, List.length_nil, Nat.reduceAdd, Nat.zero_add, decide_true, decide_false, Bool.not_true, Bool.not_false, forall_const, forall_eq, sl_ref, dNeg, wipeG, wipeG.nv, dYes, cut_1, dLoop, wantI_some, wantL_some, wantK_some, wantB_some, mupd_app, ix_ref, ix_tupA, len_ref, tuple_ref, list_ref, list_tup, list_fl, mul_ref, add_ref, setL_ref, lm_ref, append_at, extend_ref, dget_ref, sum_ref, max_ref, min_ref, at_0, at_1, at_2, at_3, at_4, isi_eq, tyD_int, tyD_bl, tyD_str, tyD_tup, tyD_non, kit_ii, kit_ib, kit_is, kit_it, kit_bi, kit_bb, kit_bs, kit_bt, kit_si, kit_sb, kit_ss, kit_st, kit_ti, kit_tb, kit_ts, kit_tt, kit_ni, kit_nb, kit_ns, kit_nt, kit_li, kit_lb, kit_ls, kit_lt, eq_self]
  refine ⟨a, b, rfl, hD, fun ts M1 ht hD1 hF1 => ?_⟩
  simp only [dSeq, dAsg, dgN, dRet, dRetN, dIfS, dVar, gv_0, gv_s, sv_0, sv_s, dC, dOp, dB, asB_b, dAnd, dOr, dNot, dAndV, dOrV, dNotV, dIf, dTru, DTru, dCons, dNil, dTup, dLst, dCall, dCB, dFor, dDrop, dPart, dNo, dNext, dBreak, dCont, dPar, dgT, dgAll, ix_t0, ix_t1, ix_t2, ix_t3, ix_t4, eq_ss, eq_ii, eq_si, eq_is, eq_bb, ne_ss, ne_ii, ne_si, ne_is, ne_bb, add_ii, add_ss, add_tt, mul_ii, mul_ti, oI_ii, oI0_ii, oB0_ii, is_non, isnot_non, isNon_non, isNon_int, isNon_str, isNon_bl, isNon_tup, len_tup, len_fl, len_str, tuple_tup, int_i, int_b, abs_i, max_ii, min_ii, seq_ref, diR1, diR2, items_tup, items_fl, same, Option.some.injEq, exists_eq_left', exists_eq_left, true_and, and_true, if_true, if_false, ite_true, ite_false, Bool.false_eq_true, reduceIte, List.length_cons, List.length_nil, Nat.reduceAdd, Nat.zero_add, decide_true, decide_false, Bool.not_true, Bool.not_false, forall_const, forall_eq, sl_ref, dNeg, wipeG, wipeG.nv, dYes, cut_1, dLoop, wantI_some, wantL_some, wantK_some, wantB_some, mupd_app, ix_ref, ix_tupA, len_ref, tuple_ref, list_ref, list_tup, list_fl, mul_ref, add_ref, setL_ref, lm_ref, append_at, extend_ref, dget_ref, sum_ref, max_ref, min_ref, at_0, at_1, at_2, at_3, at_4, isi_eq, tyD_int, tyD_bl, tyD_str, tyD_tup, tyD_non, kit_ii, kit_ib, kit_is, kit_it, kit_bi, kit_bb, kit_bs, kit_bt, kit_si, kit_sb, kit_ss, kit_st, kit_ti, kit_tb, kit_ts, kit_tt, kit_ni, kit_nb, kit_ns, kit_nt, kit_li, kit_lb, kit_ls, kit_lt, eq_self]
  refine ⟨⟨by omega, by omega⟩, ?_⟩
  refine dLoop_inv (fun i Γ M' => ∃ (x6 x7 x8 : Option D) (p : Pat) (left tests : Int), Γ = [some (.ref a), some (.int many), some (.int deep), some (enc p), some (.int left), some (.int tests), x6, x7, x8] ∧ p.few ∧ p.depth ≤ 1 + i ∧ p.many ≤ 1 + 2 * i ∧ Drum M' a b ∧ Fr a b M M') ?_ ?_ ?_
  · rintro i d Γ M' N hi ⟨x6, x7, x8, p, left, tests, rfl, hf, hd, hm, hD', hF'⟩ hN
    have hi1 := (rgD_get hi).1
    have again : ∀ M2, Drum M2 a b → Fr a b M M2 → b__law_chain_F1 sp__law_test sp__law_pull { nx := b__law_chain_R1 sp__law_test sp__law_pull { nx := N, rt := Wk Q, bk := fun Γ M => b__law_chain_R2 sp__law_test sp__law_pull { nx := fun _ M' => Wk Q .non M', rt := Wk Q } Γ M, ct := N }, rt := Wk Q, bk := fun Γ M => b__law_chain_R2 sp__law_test sp__law_pull { nx := fun _ M' => Wk Q .non M', rt := Wk Q } Γ M, ct := N } [some (.ref a), some (.int many), some (.int deep), some (enc p), some (.int left), some (.int tests), some d, x7, x8] M2 := fun M2 hD2 hF2 => by
      simp only [b__law_chain_F1, b__law_chain_R1, dSeq, dAsg, dgN, dRet, dRetN, dIfS, dVar, gv_0, gv_s, sv_0, sv_s, dC, dOp, dB, asB_b, dAnd, dOr, dNot, dAndV, dOrV, dNotV, dIf, dTru, DTru, dCons, dNil, dTup, dLst, dCall, dCB, dFor, dDrop, dPart, dNo, dNext, dBreak, dCont, dPar, dgT, dgAll, ix_t0, ix_t1, ix_t2, ix_t3, ix_t4, eq_ss, eq_ii, eq_si, eq_is, eq_bb, ne_ss, ne_ii, ne_si, ne_is, ne_bb, add_ii, add_ss, add_tt, mul_ii, mul_ti, oI_ii, oI0_ii, oB0_ii, is_non, isnot_non, isNon_non, isNon_int, isNon_str, isNon_bl, isNon_tup, len_tup, len_fl, len_str, tuple_tup, int_i, int_b, abs_i, max_ii, min_ii, seq_ref, diR1, diR2, items_tup, items_fl, same, Option.some.injEq, exists_eq_left', exists_eq_left, true_and, and_true, if_true, if_false, ite_true, ite_false, Bool.false_eq_true, reduceIte, List.length_cons, List.length_nil, Nat.reduceAdd, Nat.zero_add, decide_true, decide_false, Bool.not_true, Bool.not_false, forall_const, forall_eq, sl_ref, dNeg, wipeG, wipeG.nv, dYes, cut_1, dLoop, wantI_some, wantL_some, wantK_some, wantB_some, mupd_app, ix_ref, ix_tupA, len_ref, tuple_ref, list_ref, list_tup, list_fl, mul_ref, add_ref, setL_ref, lm_ref, append_at, extend_ref, dget_ref, sum_ref, max_ref, min_ref, at_0, at_1, at_2, at_3, at_4, isi_eq, tyD_int, tyD_bl, tyD_str, tyD_tup, tyD_non, kit_ii, kit_ib, kit_is, kit_it, kit_bi, kit_bb, kit_bs, kit_bt, kit_si, kit_sb, kit_ss, kit_st, kit_ti, kit_tb, kit_ts, kit_tt, kit_ni, kit_nb, kit_ns, kit_nt, kit_li, kit_lb, kit_ls, kit_lt, eq_self]
      exact ⟨sz (by decide), hN _ _ ⟨_, _, _, .again p, _, _, rfl, hf, by simp only [Pat.depth]; omega, by simp only [Pat.many]; omega, hD2, hF2⟩⟩
    simp only [b__law_chain_L1, dSeq, dAsg, dgN, dRet, dRetN, dIfS, dVar, gv_0, gv_s, sv_0, sv_s, dC, dOp, dB, asB_b, dAnd, dOr, dNot, dAndV, dOrV, dNotV, dIf, dTru, DTru, dCons, dNil, dTup, dLst, dCall, dCB, dFor, dDrop, dPart, dNo, dNext, dBreak, dCont, dPar, dgT, dgAll, ix_t0, ix_t1, ix_t2, ix_t3, ix_t4, eq_ss, eq_ii, eq_si, eq_is, eq_bb, ne_ss, ne_ii, ne_si, ne_is, ne_bb, add_ii, add_ss, add_tt, mul_ii, mul_ti, oI_ii, oI0_ii, oB0_ii, is_non, isnot_non, isNon_non, isNon_int, isNon_str, isNon_bl, isNon_tup, len_tup, len_fl, len_str, tuple_tup, int_i, int_b, abs_i, max_ii, min_ii, seq_ref, diR1, diR2, items_tup, items_fl, same, Option.some.injEq, exists_eq_left', exists_eq_left, true_and, and_true, if_true, if_false, ite_true, ite_false, Bool.false_eq_true, reduceIte, List.length_cons, List.length_nil, Nat.reduceAdd, Nat.zero_add, decide_true, decide_false, Bool.not_true, Bool.not_false, forall_const, forall_eq, sl_ref, dNeg, wipeG, wipeG.nv, dYes, cut_1, dLoop, wantI_some, wantL_some, wantK_some, wantB_some, mupd_app, ix_ref, ix_tupA, len_ref, tuple_ref, list_ref, list_tup, list_fl, mul_ref, add_ref, setL_ref, lm_ref, append_at, extend_ref, dget_ref, sum_ref, max_ref, min_ref, at_0, at_1, at_2, at_3, at_4, isi_eq, tyD_int, tyD_bl, tyD_str, tyD_tup, tyD_non, kit_ii, kit_ib, kit_is, kit_it, kit_bi, kit_bb, kit_bs, kit_bt, kit_si, kit_sb, kit_ss, kit_st, kit_ti, kit_tb, kit_ts, kit_tt, kit_ni, kit_nb, kit_ns, kit_nt, kit_li, kit_lb, kit_ls, kit_lt, eq_self]
    by_cases hc : decide (0 < tests) = true
    · rw [if_pos hc]
      refine ⟨a, b, 3, rfl, hD', by decide, by decide, fun r M2 r0 r1 hD2 hF2 => ?_⟩
      simp only [dSeq, dAsg, dgN, dRet, dRetN, dIfS, dVar, gv_0, gv_s, sv_0, sv_s, dC, dOp, dB, asB_b, dAnd, dOr, dNot, dAndV, dOrV, dNotV, dIf, dTru, DTru, dCons, dNil, dTup, dLst, dCall, dCB, dFor, dDrop, dPart, dNo, dNext, dBreak, dCont, dPar, dgT, dgAll, ix_t0, ix_t1, ix_t2, ix_t3, ix_t4, eq_ss, eq_ii, eq_si, eq_is, eq_bb, ne_ss, ne_ii, ne_si, ne_is, ne_bb, add_ii, add_ss, add_tt, mul_ii, mul_ti, oI_ii, oI0_ii, oB0_ii, is_non, isnot_non, isNon_non, isNon_int, isNon_str, isNon_bl, isNon_tup, len_tup, len_fl, len_str, tuple_tup, int_i, int_b, abs_i, max_ii, min_ii, seq_ref, diR1, diR2, items_tup, items_fl, same, Option.some.injEq, exists_eq_left', exists_eq_left, true_and, and_true, if_true, if_false, ite_true, ite_false, Bool.false_eq_true, reduceIte, List.length_cons, List.length_nil, Nat.reduceAdd, Nat.zero_add, decide_true, decide_false, Bool.not_true, Bool.not_false, forall_const, forall_eq, sl_ref, dNeg, wipeG, wipeG.nv, dYes, cut_1, dLoop, wantI_some, wantL_some, wantK_some, wantB_some, mupd_app, ix_ref, ix_tupA, len_ref, tuple_ref, list_ref, list_tup, list_fl, mul_ref, add_ref, setL_ref, lm_ref, append_at, extend_ref, dget_ref, sum_ref, max_ref, min_ref, at_0, at_1, at_2, at_3, at_4, isi_eq, tyD_int, tyD_bl, tyD_str, tyD_tup, tyD_non, kit_ii, kit_ib, kit_is, kit_it, kit_bi, kit_bb, kit_bs, kit_bt, kit_si, kit_sb, kit_ss, kit_st, kit_ti, kit_tb, kit_ts, kit_tt, kit_ni, kit_nb, kit_ns, kit_nt, kit_li, kit_lb, kit_ls, kit_lt, eq_self]
      refine ite_both ?_ (again M2 hD2 (hF'.trans hF2))
      simp only [b__law_chain_T1, b__law_chain_R1, dSeq, dAsg, dgN, dRet, dRetN, dIfS, dVar, gv_0, gv_s, sv_0, sv_s, dC, dOp, dB, asB_b, dAnd, dOr, dNot, dAndV, dOrV, dNotV, dIf, dTru, DTru, dCons, dNil, dTup, dLst, dCall, dCB, dFor, dDrop, dPart, dNo, dNext, dBreak, dCont, dPar, dgT, dgAll, ix_t0, ix_t1, ix_t2, ix_t3, ix_t4, eq_ss, eq_ii, eq_si, eq_is, eq_bb, ne_ss, ne_ii, ne_si, ne_is, ne_bb, add_ii, add_ss, add_tt, mul_ii, mul_ti, oI_ii, oI0_ii, oB0_ii, is_non, isnot_non, isNon_non, isNon_int, isNon_str, isNon_bl, isNon_tup, len_tup, len_fl, len_str, tuple_tup, int_i, int_b, abs_i, max_ii, min_ii, seq_ref, diR1, diR2, items_tup, items_fl, same, Option.some.injEq, exists_eq_left', exists_eq_left, true_and, and_true, if_true, if_false, ite_true, ite_false, Bool.false_eq_true, reduceIte, List.length_cons, List.length_nil, Nat.reduceAdd, Nat.zero_add, decide_true, decide_false, Bool.not_true, Bool.not_false, forall_const, forall_eq, sl_ref, dNeg, wipeG, wipeG.nv, dYes, cut_1, dLoop, wantI_some, wantL_some, wantK_some, wantB_some, mupd_app, ix_ref, ix_tupA, len_ref, tuple_ref, list_ref, list_tup, list_fl, mul_ref, add_ref, setL_ref, lm_ref, append_at, extend_ref, dget_ref, sum_ref, max_ref, min_ref, at_0, at_1, at_2, at_3, at_4, isi_eq, tyD_int, tyD_bl, tyD_str, tyD_tup, tyD_non, kit_ii, kit_ib, kit_is, kit_it, kit_bi, kit_bb, kit_bs, kit_bt, kit_si, kit_sb, kit_ss, kit_st, kit_ti, kit_tb, kit_ts, kit_tt, kit_ni, kit_nb, kit_ns, kit_nt, kit_li, kit_lb, kit_ls, kit_lt, eq_self]
      refine ⟨sz (by decide), a, b, 2, rfl, hD2, by decide, by decide, fun r3 M3 s0 s1 hD3 hF3 => ?_⟩
      have key : ∀ o : Bool, sp__law_test [D.ref a] M3 (fun d_1 M1 => 3 ≤ sizeLine ∧ 3 ≤ sizeLine ∧ 2 ≤ sizeLine ∧ sp__law_pull [D.ref a, .int 2] M1 (fun e M2 => oIx (.tup [.tup [.str (word o), enc p, d_1], .tup [.str (word o), d_1, enc p]]) e M2 fun y M4 => N [some (.ref a), some (.int many), some (.int deep), some y, some (.int (left - 1)), some (.int (tests - 1)), some d, some (.str (word o)), some d_1] M4) E0d) E0d := fun o => by
        refine ⟨a, b, rfl, hD3, fun ts M4 ht4 hD4 hF4 => ?_⟩
        refine ⟨sz (by decide), sz (by decide), sz (by decide), a, b, 2, rfl, hD4, by decide, by decide, fun r5 M5 t0 t1 hD5 hF5 => ?_⟩
        have hF := (((hF'.trans hF2).trans hF3).trans hF4).trans hF5
        have : r5 = 0 ∨ r5 = 1 := by omega
        rcases this with e | e <;> subst e <;> simp only [dSeq, dAsg, dgN, dRet, dRetN, dIfS, dVar, gv_0, gv_s, sv_0, sv_s, dC, dOp, dB, asB_b, dAnd, dOr, dNot, dAndV, dOrV, dNotV, dIf, dTru, DTru, dCons, dNil, dTup, dLst, dCall, dCB, dFor, dDrop, dPart, dNo, dNext, dBreak, dCont, dPar, dgT, dgAll, ix_t0, ix_t1, ix_t2, ix_t3, ix_t4, eq_ss, eq_ii, eq_si, eq_is, eq_bb, ne_ss, ne_ii, ne_si, ne_is, ne_bb, add_ii, add_ss, add_tt, mul_ii, mul_ti, oI_ii, oI0_ii, oB0_ii, is_non, isnot_non, isNon_non, isNon_int, isNon_str, isNon_bl, isNon_tup, len_tup, len_fl, len_str, tuple_tup, int_i, int_b, abs_i, max_ii, min_ii, seq_ref, diR1, diR2, items_tup, items_fl, same, Option.some.injEq, exists_eq_left', exists_eq_left, true_and, and_true, if_true, if_false, ite_true, ite_false, Bool.false_eq_true, reduceIte, List.length_cons, List.length_nil, Nat.reduceAdd, Nat.zero_add, decide_true, decide_false, Bool.not_true, Bool.not_false, forall_const, forall_eq, sl_ref, dNeg, wipeG, wipeG.nv, dYes, cut_1, dLoop, wantI_some, wantL_some, wantK_some, wantB_some, mupd_app, ix_ref, ix_tupA, len_ref, tuple_ref, list_ref, list_tup, list_fl, mul_ref, add_ref, setL_ref, lm_ref, append_at, extend_ref, dget_ref, sum_ref, max_ref, min_ref, at_0, at_1, at_2, at_3, at_4, isi_eq, tyD_int, tyD_bl, tyD_str, tyD_tup, tyD_non, kit_ii, kit_ib, kit_is, kit_it, kit_bi, kit_bb, kit_bs, kit_bt, kit_si, kit_sb, kit_ss, kit_st, kit_ti, kit_tb, kit_ts, kit_tt, kit_ni, kit_nb, kit_ns, kit_nt, kit_li, kit_lb, kit_ls, kit_lt, eq_self]
        · exact hN _ _ ⟨_, _, _, .bin o p (.test ts), _, _, rfl, ⟨hf, ht4⟩, by simp only [Pat.depth]; omega, by simp only [Pat.many]; omega, hD5, hF⟩
        · exact hN _ _ ⟨_, _, _, .bin o (.test ts) p, _, _, rfl, ⟨ht4, hf⟩, by simp only [Pat.depth]; omega, by simp only [Pat.many]; omega, hD5, hF⟩
      have : r3 = 0 ∨ r3 = 1 := by omega
      rcases this with e | e <;> subst e <;> simp only [dSeq, dAsg, dgN, dRet, dRetN, dIfS, dVar, gv_0, gv_s, sv_0, sv_s, dC, dOp, dB, asB_b, dAnd, dOr, dNot, dAndV, dOrV, dNotV, dIf, dTru, DTru, dCons, dNil, dTup, dLst, dCall, dCB, dFor, dDrop, dPart, dNo, dNext, dBreak, dCont, dPar, dgT, dgAll, ix_t0, ix_t1, ix_t2, ix_t3, ix_t4, eq_ss, eq_ii, eq_si, eq_is, eq_bb, ne_ss, ne_ii, ne_si, ne_is, ne_bb, add_ii, add_ss, add_tt, mul_ii, mul_ti, oI_ii, oI0_ii, oB0_ii, is_non, isnot_non, isNon_non, isNon_int, isNon_str, isNon_bl, isNon_tup, len_tup, len_fl, len_str, tuple_tup, int_i, int_b, abs_i, max_ii, min_ii, seq_ref, diR1, diR2, items_tup, items_fl, same, Option.some.injEq, exists_eq_left', exists_eq_left, true_and, and_true, if_true, if_false, ite_true, ite_false, Bool.false_eq_true, reduceIte, List.length_cons, List.length_nil, Nat.reduceAdd, Nat.zero_add, decide_true, decide_false, Bool.not_true, Bool.not_false, forall_const, forall_eq, sl_ref, dNeg, wipeG, wipeG.nv, dYes, cut_1, dLoop, wantI_some, wantL_some, wantK_some, wantB_some, mupd_app, ix_ref, ix_tupA, len_ref, tuple_ref, list_ref, list_tup, list_fl, mul_ref, add_ref, setL_ref, lm_ref, append_at, extend_ref, dget_ref, sum_ref, max_ref, min_ref, at_0, at_1, at_2, at_3, at_4, isi_eq, tyD_int, tyD_bl, tyD_str, tyD_tup, tyD_non, kit_ii, kit_ib, kit_is, kit_it, kit_bi, kit_bb, kit_bs, kit_bt, kit_si, kit_sb, kit_ss, kit_st, kit_ti, kit_tb, kit_ts, kit_tt, kit_ni, kit_nb, kit_ns, kit_nt, kit_li, kit_lb, kit_ls, kit_lt, eq_self]
      · exact key false
      · exact key true
    · rw [if_neg hc]
      exact again M' hD' hF'
  · rintro Γ M' ⟨x6, x7, x8, p, left, tests, rfl, hf, hd, hm, hD', hF'⟩
    rw [rgD_len] at hd hm
    simp only [b__law_chain_R2, dSeq, dAsg, dgN, dRet, dRetN, dIfS, dVar, gv_0, gv_s, sv_0, sv_s, dC, dOp, dB, asB_b, dAnd, dOr, dNot, dAndV, dOrV, dNotV, dIf, dTru, DTru, dCons, dNil, dTup, dLst, dCall, dCB, dFor, dDrop, dPart, dNo, dNext, dBreak, dCont, dPar, dgT, dgAll, ix_t0, ix_t1, ix_t2, ix_t3, ix_t4, eq_ss, eq_ii, eq_si, eq_is, eq_bb, ne_ss, ne_ii, ne_si, ne_is, ne_bb, add_ii, add_ss, add_tt, mul_ii, mul_ti, oI_ii, oI0_ii, oB0_ii, is_non, isnot_non, isNon_non, isNon_int, isNon_str, isNon_bl, isNon_tup, len_tup, len_fl, len_str, tuple_tup, int_i, int_b, abs_i, max_ii, min_ii, seq_ref, diR1, diR2, items_tup, items_fl, same, Option.some.injEq, exists_eq_left', exists_eq_left, true_and, and_true, if_true, if_false, ite_true, ite_false, Bool.false_eq_true, reduceIte, List.length_cons, List.length_nil, Nat.reduceAdd, Nat.zero_add, decide_true, decide_false, Bool.not_true, Bool.not_false, forall_const, forall_eq, sl_ref, dNeg, wipeG, wipeG.nv, dYes, cut_1, dLoop, wantI_some, wantL_some, wantK_some, wantB_some, mupd_app, ix_ref, ix_tupA, len_ref, tuple_ref, list_ref, list_tup, list_fl, mul_ref, add_ref, setL_ref, lm_ref, append_at, extend_ref, dget_ref, sum_ref, max_ref, min_ref, at_0, at_1, at_2, at_3, at_4, isi_eq, tyD_int, tyD_bl, tyD_str, tyD_tup, tyD_non, kit_ii, kit_ib, kit_is, kit_it, kit_bi, kit_bb, kit_bs, kit_bt, kit_si, kit_sb, kit_ss, kit_st, kit_ti, kit_tb, kit_ts, kit_tt, kit_ni, kit_nb, kit_ns, kit_nt, kit_li, kit_lb, kit_ls, kit_lt, eq_self]
    exact Wk.of (q p _ hf (by omega) (by omega) hD' hF')
  · exact ⟨_, _, _, .test ts, _, _, rfl, ht, Nat.le_refl _, Nat.le_refl _, hD1, hF1⟩

/-! ### _law_nodes -/
def encN (n : Nat) : D := .int (n : Int)
/-- the places of a node's parts -/
def Kids (ns : List Pat) (j : Nat) (cs : List Nat) : Prop := ∃ n, ns[j]? = some n ∧ match n with
  | .test _ => cs = []
  | .again q => ∃ k, cs = [k] ∧ j < k ∧ ns[k]? = some q
  | .bin _ q r => ∃ k, cs = [k, k + 1] ∧ j < k ∧ ns[k]? = some q ∧ ns[k + 1]? = some r
theorem get_app {α : Type} {xs ys : List α} {k : Nat} {x : α} (h : xs[k]? = some x) : (xs ++ ys)[k]? = some x := by
  rw [List.getElem?_append_left (List.getElem?_eq_some_iff.mp h).1]; exact h
theorem get_end {α : Type} {xs ys : List α} {k : Nat} {x : α} (h : ys[k]? = some x) : (xs ++ ys)[xs.length + k]? = some x := by
  rw [List.getElem?_append_right (Nat.le_add_right _ _), Nat.add_sub_cancel_left]; exact h
theorem Kids.app {ns qs : List Pat} {j : Nat} {cs : List Nat} (h : Kids ns j cs) : Kids (ns ++ qs) j cs := by
  obtain ⟨n, e, h⟩ := h
  refine ⟨n, get_app e, ?_⟩
  cases n with
  | test => exact h
  | again q => obtain ⟨k, a, b, c⟩ := h; exact ⟨k, a, b, get_app c⟩
  | bin o q r => obtain ⟨k, a, b, c, d⟩ := h; exact ⟨k, a, b, get_app c, get_app d⟩
structure NI (p : Pat) (ln lp : Addr) (ns : List Pat) (hs : List Addr) (i : Nat) (M' : Mp) : Prop where
  n0 : ns[0]? = some p
  nodes : M' ln = some (.lst (ns.map enc))
  parts : M' lp = some (.lst (hs.map D.ref))
  ne : ln ≠ lp
  len : hs.length = i
  le : i ≤ ns.length
  kids : ∀ j, j < i → ∃ h cs, hs[j]? = some h ∧ M' h = some (.lst (cs.map encN)) ∧ h ≠ ln ∧ h ≠ lp ∧ Kids ns j cs
  sum : ((ns.drop i).map Pat.many).sum + i = p.many
  all : ∀ n ∈ ns, n.depth ≤ p.depth ∧ n.many ≤ p.many ∧ (p.few → n.few)
theorem many_sum (ns : List Pat) : ns.length ≤ (ns.map Pat.many).sum := by
  induction ns with
  | nil => exact Nat.le_refl _
  | cons n r ih =>
    have := many_pos n
    rw [List.map_cons, List.sum_cons, List.length_cons]; omega
theorem NI.size {p : Pat} {ln lp : Addr} {ns : List Pat} {hs : List Addr} {i : Nat} {M' : Mp} (h : NI p ln lp ns hs i M') : ns.length ≤ p.many := by
  have h1 := h.sum
  have h2 := many_sum (ns.drop i)
  have h3 := h.le
  rw [List.length_drop] at h2
  omega
def sp__law_nodes : DSp := fun ds M Q _ => ∃ p : Pat, ds = [enc p] ∧ p.many ≤ 1999 ∧ ∀ ln lp ns hs M', NI p ln lp ns hs ns.length M' → Sub M M' → Q (.tup [.ref ln, .ref lp]) M'
theorem ln__law_nodes : ∀ ds M Q E, sp__law_nodes ds M Q E → ds.length = 1 := fun _ _ _ _ ⟨_, h, _⟩ => by rw [h]; rfl
/-- one node done -/
theorem NI.step {p n : Pat} {ln lp h : Addr} {ns qs : List Pat} {hs : List Addr} {i : Nat} {M' M2 : Mp} (I : NI p ln lp ns hs i M') (hn : ns[i]? = some n) (hh : M' h = none) {cs : List Nat}
    (hq : (qs.map Pat.many).sum + 1 = n.many) (hq2 : ∀ q ∈ qs, q.depth ≤ n.depth ∧ q.many ≤ n.many ∧ (n.few → q.few)) (hk : Kids (ns ++ qs) i cs)
    (m1 : M2 ln = some (.lst ((ns ++ qs).map enc))) (m2 : M2 lp = some (.lst ((hs ++ [h]).map D.ref))) (m3 : M2 h = some (.lst (cs.map encN))) (m4 : ∀ x, x ≠ ln → x ≠ lp → x ≠ h → M2 x = M' x) : NI p ln lp (ns ++ qs) (hs ++ [h]) (i + 1) M2 where
  n0 := get_app I.n0
  nodes := m1
  parts := m2
  ne := I.ne
  len := by rw [List.length_append, I.len]; rfl
  le := by have := (List.getElem?_eq_some_iff.mp hn).1; rw [List.length_append]; omega
  kids := by
    intro j hj
    by_cases e : j = i
    · subst e
      refine ⟨h, cs, ?_, m3, (fresh_ne hh I.nodes).symm, (fresh_ne hh I.parts).symm, hk⟩
      have : (hs ++ [h])[hs.length + 0]? = some h := get_end rfl
      rwa [I.len] at this
    · obtain ⟨h', cs', a, b, c, d, k⟩ := I.kids j (by omega)
      exact ⟨h', cs', get_app a, by rw [m4 h' c d (fresh_ne hh b)]; exact b, c, d, k.app⟩
  sum := by
    have hi := (List.getElem?_eq_some_iff.mp hn).1
    have e : ns.drop i = n :: ns.drop (i + 1) := by
      rw [List.drop_eq_getElem_cons hi]; congr 1
      rw [List.getElem?_eq_getElem hi] at hn; exact Option.some.inj hn
    have s := I.sum
    rw [e, List.map_cons, List.sum_cons] at s
    rw [List.drop_append_of_le_length (by omega), List.map_append, List.sum_append]
    omega
  all := by
    intro x hx
    rcases List.mem_append.mp hx with hx | hx
    · exact I.all x hx
    · have a := I.all n (List.mem_of_getElem? hn)
      have b := hq2 x hx
      exact ⟨by omega, by omega, fun z => b.2.2 (a.2.2 z)⟩
theorem hs__law_nodes : ∀ ds M Q E, sp__law_nodes ds M Q E → b__law_nodes { nx := fun _ M' => Wk Q .non M', rt := Wk Q } (startG N__law_nodes ds) M := by
  rintro ds M Q E ⟨p, rfl, hm, q⟩
  show b__law_nodes _ [some (enc p), none, none, none, none, none, none] M
  simp only [b__law_nodes, dSeq, dAsg, dgN, dRet, dRetN, dIfS, dVar, gv_0, gv_s, sv_0, sv_s, dC, dOp, dB, asB_b, dAnd, dOr, dNot, dAndV, dOrV, dNotV, dIf, dTru, DTru, dCons, dNil, dTup, dLst, dCall, dCB, dFor, dDrop, dPart, dNo, dNext, dBreak, dCont, dPar, dgT, dgAll, ix_t0, ix_t1, ix_t2, ix_t3, ix_t4, eq_ss, eq_ii, eq_si, eq_is, eq_bb, ne_ss, ne_ii, ne_si, ne_is, ne_bb, add_ii, add_ss, add_tt, mul_ii, mul_ti, oI_ii, oI0_ii, oB0_ii, is_non, isnot_non, isNon_non, isNon_int, isNon_str, isNon_bl, isNon_tup, len_tup, len_fl, len_str, tuple_tup, int_i, int_b, abs_i, max_ii, min_ii, seq_ref, diR1, diR2, items_tup, items_fl, same, Option.some.injEq, exists_eq_left', exists_eq_left, true_and, and_true, if_true, if_false, ite_true, ite_false, Bool.false_eq_true, reduceIte, List.length_cons, List.length_nil, Nat.reduceAdd, Nat.zero_add, decide_true, decide_false, Bool.not_true, Bool.not_false, forall_const, forall_eq, sl_ref, dNeg, wipeG, wipeG.nv, dYes, cut_1, dLoop, wantI_some, wantL_some, wantK_some, wantB_some, mupd_app, ix_ref, ix_tupA, len_ref, tuple_ref, list_ref, list_tup, list_fl, mul_ref, add_ref, setL_ref, lm_ref, append_at, extend_ref, dget_ref, sum_ref, max_ref, min_ref, at_0, at_1, at_2, at_3, at_4, isi_eq, tyD_int, tyD_bl, tyD_str, tyD_tup, tyD_non, kit_ii, kit_ib, kit_is, kit_it, kit_bi, kit_bb, kit_bs, kit_bt, kit_si, kit_sb, kit_ss, kit_st, kit_ti, kit_tb, kit_ts, kit_tt, kit_ni, kit_nb, kit_ns, kit_nt, kit_li, kit_lb, kit_ls, kit_lt, eq_self]
  refine ⟨sz (by decide), fun ln hln => ⟨sz (by decide), fun lp hlp => ⟨by decide, ?_⟩⟩⟩
  obtain ⟨nlp, hlp⟩ := none_if hlp
  have ret : ∀ (x3 x4 x5 x6 : Option D) (ln lp : Addr) (ns : List Pat) (hs : List Addr) (M2 : Mp), NI p ln lp ns hs ns.length M2 → Sub M M2 → b__law_nodes_R3 { nx := fun _ M' => Wk Q .non M', rt := Wk Q } [some (enc p), some (.ref ln), some (.ref lp), x3, x4, x5, x6] M2 := fun x3 x4 x5 x6 ln lp ns hs M2 hI hS => by
    simp only [b__law_nodes_R3, dSeq, dAsg, dgN, dRet, dRetN, dIfS, dVar, gv_0, gv_s, sv_0, sv_s, dC, dOp, dB, asB_b, dAnd, dOr, dNot, dAndV, dOrV, dNotV, dIf, dTru, DTru, dCons, dNil, dTup, dLst, dCall, dCB, dFor, dDrop, dPart, dNo, dNext, dBreak, dCont, dPar, dgT, dgAll, ix_t0, ix_t1, ix_t2, ix_t3, ix_t4, eq_ss, eq_ii, eq_si, eq_is, eq_bb, ne_ss, ne_ii, ne_si, ne_is, ne_bb, add_ii, add_ss, add_tt, mul_ii, mul_ti, oI_ii, oI0_ii, oB0_ii, is_non, isnot_non, isNon_non, isNon_int, isNon_str, isNon_bl, isNon_tup, len_tup, len_fl, len_str, tuple_tup, int_i, int_b, abs_i, max_ii, min_ii, seq_ref, diR1, diR2, items_tup, items_fl, same, Option.some.injEq, exists_eq_left', exists_eq_left, true_and, and_true, if_true, if_false, ite_true, ite_false, Bool.false_eq_true, reduceIte, List.length_cons, List.length_nil, Nat.reduceAdd, Nat.zero_add, decide_true, decide_false, Bool.not_true, Bool.not_false, forall_const, forall_eq, sl_ref, dNeg, wipeG, wipeG.nv, dYes, cut_1, dLoop, wantI_some, wantL_some, wantK_some, wantB_some, mupd_app, ix_ref, ix_tupA, len_ref, tuple_ref, list_ref, list_tup, list_fl, mul_ref, add_ref, setL_ref, lm_ref, append_at, extend_ref, dget_ref, sum_ref, max_ref, min_ref, at_0, at_1, at_2, at_3, at_4, isi_eq, tyD_int, tyD_bl, tyD_str, tyD_tup, tyD_non, kit_ii, kit_ib, kit_is, kit_it, kit_bi, kit_bb, kit_bs, kit_bt, kit_si, kit_sb, kit_ss, kit_st, kit_ti, kit_tb, kit_ts, kit_tt, kit_ni, kit_nb, kit_ns, kit_nt, kit_li, kit_lb, kit_ls, kit_lt, eq_self]
    exact ⟨sz (by decide), Wk.of (q ln lp ns hs M2 hI hS)⟩
  refine dLoop_inv (fun i Γ M' => ∃ (x3 x4 x5 x6 : Option D) (ns : List Pat) (hs : List Addr), Γ = [some (enc p), some (.ref ln), some (.ref lp), x3, x4, x5, x6] ∧ NI p ln lp ns hs i M' ∧ Sub M M') ?_ ?_ ?_
  · rintro i d Γ M' N hi ⟨x3, x4, x5, x6, ns, hs, rfl, hI, hS⟩ hN
    obtain ⟨hi1, rfl⟩ := rgD_get hi
    have hnode := hI.nodes
    have hparts := hI.parts
    have hne := hI.ne
    have hsize := hI.size
    simp only [b__law_nodes_L2, dSeq, dAsg, dgN, dRet, dRetN, dIfS, dVar, gv_0, gv_s, sv_0, sv_s, dC, dOp, dB, asB_b, dAnd, dOr, dNot, dAndV, dOrV, dNotV, dIf, dTru, DTru, dCons, dNil, dTup, dLst, dCall, dCB, dFor, dDrop, dPart, dNo, dNext, dBreak, dCont, dPar, dgT, dgAll, ix_t0, ix_t1, ix_t2, ix_t3, ix_t4, eq_ss, eq_ii, eq_si, eq_is, eq_bb, ne_ss, ne_ii, ne_si, ne_is, ne_bb, add_ii, add_ss, add_tt, mul_ii, mul_ti, oI_ii, oI0_ii, oB0_ii, is_non, isnot_non, isNon_non, isNon_int, isNon_str, isNon_bl, isNon_tup, len_tup, len_fl, len_str, tuple_tup, int_i, int_b, abs_i, max_ii, min_ii, seq_ref, diR1, diR2, items_tup, items_fl, same, Option.some.injEq, exists_eq_left', exists_eq_left, true_and, and_true, if_true, if_false, ite_true, ite_false, Bool.false_eq_true, reduceIte, List.length_cons, List.length_nil, Nat.reduceAdd, Nat.zero_add, decide_true, decide_false, Bool.not_true, Bool.not_false, forall_const, forall_eq, sl_ref, dNeg, wipeG, wipeG.nv, dYes, cut_1, dLoop, wantI_some, wantL_some, wantK_some, wantB_some, mupd_app, ix_ref, ix_tupA, len_ref, tuple_ref, list_ref, list_tup, list_fl, mul_ref, add_ref, setL_ref, lm_ref, append_at, extend_ref, dget_ref, sum_ref, max_ref, min_ref, at_0, at_1, at_2, at_3, at_4, isi_eq, tyD_int, tyD_bl, tyD_str, tyD_tup, tyD_non, kit_ii, kit_ib, kit_is, kit_it, kit_bi, kit_bb, kit_bs, kit_bt, kit_si, kit_sb, kit_ss, kit_st, kit_ti, kit_tb, kit_ts, kit_tt, kit_ni, kit_nb, kit_ns, kit_nt, kit_li, kit_lb, kit_ls, kit_lt, eq_self, hnode, Int.zero_add, List.length_map]
    by_cases hc : decide ((i : Int) ≥ (ns.length : Int)) = true
    · rw [if_pos hc]
      have hc := of_decide_eq_true hc
      have e : i = ns.length := by have := hI.le; omega
      exact ret _ _ _ _ _ _ ns hs M' (e ▸ hI) hS
    · rw [if_neg hc]
      have hc : ¬ ((i : Int) ≥ (ns.length : Int)) := fun z => hc (decide_eq_true z)
      obtain ⟨n, e1, e2⟩ := at_map (f := enc) (xs := ns) (i := (i : Int)) (by omega) (by omega)
      rw [Int.toNat_natCast] at e2
      simp only [b__law_nodes_R2, dSeq, dAsg, dgN, dRet, dRetN, dIfS, dVar, gv_0, gv_s, sv_0, sv_s, dC, dOp, dB, asB_b, dAnd, dOr, dNot, dAndV, dOrV, dNotV, dIf, dTru, DTru, dCons, dNil, dTup, dLst, dCall, dCB, dFor, dDrop, dPart, dNo, dNext, dBreak, dCont, dPar, dgT, dgAll, ix_t0, ix_t1, ix_t2, ix_t3, ix_t4, eq_ss, eq_ii, eq_si, eq_is, eq_bb, ne_ss, ne_ii, ne_si, ne_is, ne_bb, add_ii, add_ss, add_tt, mul_ii, mul_ti, oI_ii, oI0_ii, oB0_ii, is_non, isnot_non, isNon_non, isNon_int, isNon_str, isNon_bl, isNon_tup, len_tup, len_fl, len_str, tuple_tup, int_i, int_b, abs_i, max_ii, min_ii, seq_ref, diR1, diR2, items_tup, items_fl, same, Option.some.injEq, exists_eq_left', exists_eq_left, true_and, and_true, if_true, if_false, ite_true, ite_false, Bool.false_eq_true, reduceIte, List.length_cons, List.length_nil, Nat.reduceAdd, Nat.zero_add, decide_true, decide_false, Bool.not_true, Bool.not_false, forall_const, forall_eq, sl_ref, dNeg, wipeG, wipeG.nv, dYes, cut_1, dLoop, wantI_some, wantL_some, wantK_some, wantB_some, mupd_app, ix_ref, ix_tupA, len_ref, tuple_ref, list_ref, list_tup, list_fl, mul_ref, add_ref, setL_ref, lm_ref, append_at, extend_ref, dget_ref, sum_ref, max_ref, min_ref, at_0, at_1, at_2, at_3, at_4, isi_eq, tyD_int, tyD_bl, tyD_str, tyD_tup, tyD_non, kit_ii, kit_ib, kit_is, kit_it, kit_bi, kit_bb, kit_bs, kit_bt, kit_si, kit_sb, kit_ss, kit_st, kit_ti, kit_tb, kit_ts, kit_tt, kit_ni, kit_nb, kit_ns, kit_nt, kit_li, kit_lb, kit_ls, kit_lt, eq_self, hnode, e1]
      have hil := hI.len
      have hI2 := hI.le
      have sub : ∀ (h : Addr) (M2 : Mp), M' h = none → (∀ x, x ≠ ln → x ≠ lp → x ≠ h → M2 x = M' x) → Sub M M2 := fun h M2 hh m x o e => by
        rw [m x (fresh_ne hln e) (fresh_ne hlp e) (fresh_ne hh (hS x o e))]; exact hS x o e
      have hlen : ((List.map enc ns).length : Int) = (ns.length : Nat) := by rw [List.length_map]
      cases n with
      | test ts =>
        simp only [enc, dSeq, dAsg, dgN, dRet, dRetN, dIfS, dVar, gv_0, gv_s, sv_0, sv_s, dC, dOp, dB, asB_b, dAnd, dOr, dNot, dAndV, dOrV, dNotV, dIf, dTru, DTru, dCons, dNil, dTup, dLst, dCall, dCB, dFor, dDrop, dPart, dNo, dNext, dBreak, dCont, dPar, dgT, dgAll, ix_t0, ix_t1, ix_t2, ix_t3, ix_t4, eq_ss, eq_ii, eq_si, eq_is, eq_bb, ne_ss, ne_ii, ne_si, ne_is, ne_bb, add_ii, add_ss, add_tt, mul_ii, mul_ti, oI_ii, oI0_ii, oB0_ii, is_non, isnot_non, isNon_non, isNon_int, isNon_str, isNon_bl, isNon_tup, len_tup, len_fl, len_str, tuple_tup, int_i, int_b, abs_i, max_ii, min_ii, seq_ref, diR1, diR2, items_tup, items_fl, same, Option.some.injEq, exists_eq_left', exists_eq_left, true_and, and_true, if_true, if_false, ite_true, ite_false, Bool.false_eq_true, reduceIte, List.length_cons, List.length_nil, Nat.reduceAdd, Nat.zero_add, decide_true, decide_false, Bool.not_true, Bool.not_false, forall_const, forall_eq, sl_ref, dNeg, wipeG, wipeG.nv, dYes, cut_1, dLoop, wantI_some, wantL_some, wantK_some, wantB_some, mupd_app, ix_ref, ix_tupA, len_ref, tuple_ref, list_ref, list_tup, list_fl, mul_ref, add_ref, setL_ref, lm_ref, append_at, extend_ref, dget_ref, sum_ref, max_ref, min_ref, at_0, at_1, at_2, at_3, at_4, isi_eq, tyD_int, tyD_bl, tyD_str, tyD_tup, tyD_non, kit_ii, kit_ib, kit_is, kit_it, kit_bi, kit_bb, kit_bs, kit_bt, kit_si, kit_sb, kit_ss, kit_st, kit_ti, kit_tb, kit_ts, kit_tt, kit_ni, kit_nb, kit_ns, kit_nt, kit_li, kit_lb, kit_ls, kit_lt, eq_self]
        refine ⟨sz (by decide), fun h hh => ?_⟩
        have h1 : h ≠ ln := (fresh_ne hh hnode).symm
        have h2 : h ≠ lp := (fresh_ne hh hparts).symm
        simp only [b__law_nodes_R1, dSeq, dAsg, dgN, dRet, dRetN, dIfS, dVar, gv_0, gv_s, sv_0, sv_s, dC, dOp, dB, asB_b, dAnd, dOr, dNot, dAndV, dOrV, dNotV, dIf, dTru, DTru, dCons, dNil, dTup, dLst, dCall, dCB, dFor, dDrop, dPart, dNo, dNext, dBreak, dCont, dPar, dgT, dgAll, ix_t0, ix_t1, ix_t2, ix_t3, ix_t4, eq_ss, eq_ii, eq_si, eq_is, eq_bb, ne_ss, ne_ii, ne_si, ne_is, ne_bb, add_ii, add_ss, add_tt, mul_ii, mul_ti, oI_ii, oI0_ii, oB0_ii, is_non, isnot_non, isNon_non, isNon_int, isNon_str, isNon_bl, isNon_tup, len_tup, len_fl, len_str, tuple_tup, int_i, int_b, abs_i, max_ii, min_ii, seq_ref, diR1, diR2, items_tup, items_fl, same, Option.some.injEq, exists_eq_left', exists_eq_left, true_and, and_true, if_true, if_false, ite_true, ite_false, Bool.false_eq_true, reduceIte, List.length_cons, List.length_nil, Nat.reduceAdd, Nat.zero_add, decide_true, decide_false, Bool.not_true, Bool.not_false, forall_const, forall_eq, sl_ref, dNeg, wipeG, wipeG.nv, dYes, cut_1, dLoop, wantI_some, wantL_some, wantK_some, wantB_some, mupd_app, ix_ref, ix_tupA, len_ref, tuple_ref, list_ref, list_tup, list_fl, mul_ref, add_ref, setL_ref, lm_ref, append_at, extend_ref, dget_ref, sum_ref, max_ref, min_ref, at_0, at_1, at_2, at_3, at_4, isi_eq, tyD_int, tyD_bl, tyD_str, tyD_tup, tyD_non, kit_ii, kit_ib, kit_is, kit_it, kit_bi, kit_bb, kit_bs, kit_bt, kit_si, kit_sb, kit_ss, kit_st, kit_ti, kit_tb, kit_ts, kit_tt, kit_ni, kit_nb, kit_ns, kit_nt, kit_li, kit_lb, kit_ls, kit_lt, eq_self, h2.symm, hparts]
        refine ⟨szl (by rw [List.length_map]; omega), ?_⟩
        have m4 : ∀ x, x ≠ ln → x ≠ lp → x ≠ h → mupd (mupd M' h (MO.lst [])) lp (MO.lst (List.map D.ref hs ++ [D.ref h])) x = M' x := fun x _ b c => by rw [mupd_ne b, mupd_ne c]
        refine hN _ _ ⟨_, _, _, _, ns ++ [], hs ++ [h], rfl, hI.step (cs := []) e2 hh rfl (fun _ z => (nomatch z)) ⟨_, get_app e2, rfl⟩ ?_ ?_ ?_ m4, sub h _ hh m4⟩
        · rw [mupd_ne hne, mupd_ne h1.symm, List.append_nil]; exact hnode
        · rw [mupd_same, List.map_append]; rfl
        · rw [mupd_ne h2, mupd_same]; rfl
      | again r =>
        simp only [enc, dSeq, dAsg, dgN, dRet, dRetN, dIfS, dVar, gv_0, gv_s, sv_0, sv_s, dC, dOp, dB, asB_b, dAnd, dOr, dNot, dAndV, dOrV, dNotV, dIf, dTru, DTru, dCons, dNil, dTup, dLst, dCall, dCB, dFor, dDrop, dPart, dNo, dNext, dBreak, dCont, dPar, dgT, dgAll, ix_t0, ix_t1, ix_t2, ix_t3, ix_t4, eq_ss, eq_ii, eq_si, eq_is, eq_bb, ne_ss, ne_ii, ne_si, ne_is, ne_bb, add_ii, add_ss, add_tt, mul_ii, mul_ti, oI_ii, oI0_ii, oB0_ii, is_non, isnot_non, isNon_non, isNon_int, isNon_str, isNon_bl, isNon_tup, len_tup, len_fl, len_str, tuple_tup, int_i, int_b, abs_i, max_ii, min_ii, seq_ref, diR1, diR2, items_tup, items_fl, same, Option.some.injEq, exists_eq_left', exists_eq_left, true_and, and_true, if_true, if_false, ite_true, ite_false, Bool.false_eq_true, reduceIte, List.length_cons, List.length_nil, Nat.reduceAdd, Nat.zero_add, decide_true, decide_false, Bool.not_true, Bool.not_false, forall_const, forall_eq, sl_ref, dNeg, wipeG, wipeG.nv, dYes, cut_1, dLoop, wantI_some, wantL_some, wantK_some, wantB_some, mupd_app, ix_ref, ix_tupA, len_ref, tuple_ref, list_ref, list_tup, list_fl, mul_ref, add_ref, setL_ref, lm_ref, append_at, extend_ref, dget_ref, sum_ref, max_ref, min_ref, at_0, at_1, at_2, at_3, at_4, isi_eq, tyD_int, tyD_bl, tyD_str, tyD_tup, tyD_non, kit_ii, kit_ib, kit_is, kit_it, kit_bi, kit_bb, kit_bs, kit_bt, kit_si, kit_sb, kit_ss, kit_st, kit_ti, kit_tb, kit_ts, kit_tt, kit_ni, kit_nb, kit_ns, kit_nt, kit_li, kit_lb, kit_ls, kit_lt, eq_self, s_at]
        refine ⟨sz (by decide), fun h hh => ?_⟩
        have h1 : h ≠ ln := (fresh_ne hh hnode).symm
        have h2 : h ≠ lp := (fresh_ne hh hparts).symm
        simp only [b__law_nodes_T1, b__law_nodes_L1, b__law_nodes_R1, dSeq, dAsg, dgN, dRet, dRetN, dIfS, dVar, gv_0, gv_s, sv_0, sv_s, dC, dOp, dB, asB_b, dAnd, dOr, dNot, dAndV, dOrV, dNotV, dIf, dTru, DTru, dCons, dNil, dTup, dLst, dCall, dCB, dFor, dDrop, dPart, dNo, dNext, dBreak, dCont, dPar, dgT, dgAll, ix_t0, ix_t1, ix_t2, ix_t3, ix_t4, eq_ss, eq_ii, eq_si, eq_is, eq_bb, ne_ss, ne_ii, ne_si, ne_is, ne_bb, add_ii, add_ss, add_tt, mul_ii, mul_ti, oI_ii, oI0_ii, oB0_ii, is_non, isnot_non, isNon_non, isNon_int, isNon_str, isNon_bl, isNon_tup, len_tup, len_fl, len_str, tuple_tup, int_i, int_b, abs_i, max_ii, min_ii, seq_ref, diR1, diR2, items_tup, items_fl, same, Option.some.injEq, exists_eq_left', exists_eq_left, true_and, and_true, if_true, if_false, ite_true, ite_false, Bool.false_eq_true, reduceIte, List.length_cons, List.length_nil, Nat.reduceAdd, Nat.zero_add, decide_true, decide_false, Bool.not_true, Bool.not_false, forall_const, forall_eq, sl_ref, dNeg, wipeG, wipeG.nv, dYes, cut_1, dLoop, wantI_some, wantL_some, wantK_some, wantB_some, mupd_app, ix_ref, ix_tupA, len_ref, tuple_ref, list_ref, list_tup, list_fl, mul_ref, add_ref, setL_ref, lm_ref, append_at, extend_ref, dget_ref, sum_ref, max_ref, min_ref, at_0, at_1, at_2, at_3, at_4, isi_eq, tyD_int, tyD_bl, tyD_str, tyD_tup, tyD_non, kit_ii, kit_ib, kit_is, kit_it, kit_bi, kit_bb, kit_bs, kit_bt, kit_si, kit_sb, kit_ss, kit_st, kit_ti, kit_tb, kit_ts, kit_tt, kit_ni, kit_nb, kit_ns, kit_nt, kit_li, kit_lb, kit_ls, kit_lt, eq_self, h2.symm, h1.symm, h1, h2, hne, hne.symm, hparts, hnode, List.length_map, List.nil_append]
        refine ⟨szl (by decide), szl (by omega), szl (by omega), ?_⟩
        generalize hM2 : mupd _ lp _ = M2
        have m4 : ∀ x, x ≠ ln → x ≠ lp → x ≠ h → M2 x = M' x := fun x a b c => by rw [← hM2]; simp only [mupd_ne, a, b, c, ne_eq, not_false_eq_true]
        refine hN _ _ ⟨_, _, _, _, ns ++ [r], hs ++ [h], rfl, hI.step (cs := [ns.length]) e2 hh ?_ ?_ ⟨_, get_app e2, ns.length, rfl, by omega, get_end (k := 0) rfl⟩ ?_ ?_ ?_ m4, sub h _ hh m4⟩
        · simp [Pat.many]
        · intro x hx; rw [List.mem_singleton.mp hx]; exact ⟨by simp only [Pat.depth]; omega, by simp only [Pat.many]; omega, id⟩
        · rw [← hM2, mupd_ne hne, mupd_same, List.map_append]; rfl
        · rw [← hM2, mupd_same, List.map_append]; rfl
        · rw [← hM2, mupd_ne h2, mupd_ne h1, mupd_same]; rfl
      | bin o r1 r2 =>
        obtain ⟨w, hw, hw2⟩ : ∃ w : Str, ((w = ("test" : Str)) = False) ∧ enc (.bin o r1 r2) = .tup [.str w, enc r1, enc r2] := by
          cases o
          · exact ⟨_, s_tt, rfl⟩
          · exact ⟨_, s_ot, rfl⟩
        rw [hw2]
        simp only [dSeq, dAsg, dgN, dRet, dRetN, dIfS, dVar, gv_0, gv_s, sv_0, sv_s, dC, dOp, dB, asB_b, dAnd, dOr, dNot, dAndV, dOrV, dNotV, dIf, dTru, DTru, dCons, dNil, dTup, dLst, dCall, dCB, dFor, dDrop, dPart, dNo, dNext, dBreak, dCont, dPar, dgT, dgAll, ix_t0, ix_t1, ix_t2, ix_t3, ix_t4, eq_ss, eq_ii, eq_si, eq_is, eq_bb, ne_ss, ne_ii, ne_si, ne_is, ne_bb, add_ii, add_ss, add_tt, mul_ii, mul_ti, oI_ii, oI0_ii, oB0_ii, is_non, isnot_non, isNon_non, isNon_int, isNon_str, isNon_bl, isNon_tup, len_tup, len_fl, len_str, tuple_tup, int_i, int_b, abs_i, max_ii, min_ii, seq_ref, diR1, diR2, items_tup, items_fl, same, Option.some.injEq, exists_eq_left', exists_eq_left, true_and, and_true, if_true, if_false, ite_true, ite_false, Bool.false_eq_true, reduceIte, List.length_cons, List.length_nil, Nat.reduceAdd, Nat.zero_add, decide_true, decide_false, Bool.not_true, Bool.not_false, forall_const, forall_eq, sl_ref, dNeg, wipeG, wipeG.nv, dYes, cut_1, dLoop, wantI_some, wantL_some, wantK_some, wantB_some, mupd_app, ix_ref, ix_tupA, len_ref, tuple_ref, list_ref, list_tup, list_fl, mul_ref, add_ref, setL_ref, lm_ref, append_at, extend_ref, dget_ref, sum_ref, max_ref, min_ref, at_0, at_1, at_2, at_3, at_4, isi_eq, tyD_int, tyD_bl, tyD_str, tyD_tup, tyD_non, kit_ii, kit_ib, kit_is, kit_it, kit_bi, kit_bb, kit_bs, kit_bt, kit_si, kit_sb, kit_ss, kit_st, kit_ti, kit_tb, kit_ts, kit_tt, kit_ni, kit_nb, kit_ns, kit_nt, kit_li, kit_lb, kit_ls, kit_lt, eq_self, hw]
        refine ⟨sz (by decide), fun h hh => ?_⟩
        have h1 : h ≠ ln := (fresh_ne hh hnode).symm
        have h2 : h ≠ lp := (fresh_ne hh hparts).symm
        simp only [b__law_nodes_T1, b__law_nodes_L1, b__law_nodes_R1, dSeq, dAsg, dgN, dRet, dRetN, dIfS, dVar, gv_0, gv_s, sv_0, sv_s, dC, dOp, dB, asB_b, dAnd, dOr, dNot, dAndV, dOrV, dNotV, dIf, dTru, DTru, dCons, dNil, dTup, dLst, dCall, dCB, dFor, dDrop, dPart, dNo, dNext, dBreak, dCont, dPar, dgT, dgAll, ix_t0, ix_t1, ix_t2, ix_t3, ix_t4, eq_ss, eq_ii, eq_si, eq_is, eq_bb, ne_ss, ne_ii, ne_si, ne_is, ne_bb, add_ii, add_ss, add_tt, mul_ii, mul_ti, oI_ii, oI0_ii, oB0_ii, is_non, isnot_non, isNon_non, isNon_int, isNon_str, isNon_bl, isNon_tup, len_tup, len_fl, len_str, tuple_tup, int_i, int_b, abs_i, max_ii, min_ii, seq_ref, diR1, diR2, items_tup, items_fl, same, Option.some.injEq, exists_eq_left', exists_eq_left, true_and, and_true, if_true, if_false, ite_true, ite_false, Bool.false_eq_true, reduceIte, List.length_cons, List.length_nil, Nat.reduceAdd, Nat.zero_add, decide_true, decide_false, Bool.not_true, Bool.not_false, forall_const, forall_eq, sl_ref, dNeg, wipeG, wipeG.nv, dYes, cut_1, dLoop, wantI_some, wantL_some, wantK_some, wantB_some, mupd_app, ix_ref, ix_tupA, len_ref, tuple_ref, list_ref, list_tup, list_fl, mul_ref, add_ref, setL_ref, lm_ref, append_at, extend_ref, dget_ref, sum_ref, max_ref, min_ref, at_0, at_1, at_2, at_3, at_4, isi_eq, tyD_int, tyD_bl, tyD_str, tyD_tup, tyD_non, kit_ii, kit_ib, kit_is, kit_it, kit_bi, kit_bb, kit_bs, kit_bt, kit_si, kit_sb, kit_ss, kit_st, kit_ti, kit_tb, kit_ts, kit_tt, kit_ni, kit_nb, kit_ns, kit_nt, kit_li, kit_lb, kit_ls, kit_lt, eq_self, h2.symm, h1.symm, h1, h2, hne, hne.symm, hparts, hnode, List.length_map, List.nil_append, List.length_append]
        refine ⟨szl (by decide), szl (by omega), szl (by simp), szl (by omega), szl (by omega), ?_⟩
        generalize hM2 : mupd _ lp _ = M2
        have m4 : ∀ x, x ≠ ln → x ≠ lp → x ≠ h → M2 x = M' x := fun x a b c => by rw [← hM2]; simp only [mupd_ne, a, b, c, ne_eq, not_false_eq_true]
        refine hN _ _ ⟨_, _, _, _, ns ++ [r1, r2], hs ++ [h], rfl, hI.step (cs := [ns.length, ns.length + 1]) e2 hh ?_ ?_ ⟨_, get_app e2, ns.length, rfl, by omega, get_end (k := 0) rfl, get_end (k := 1) rfl⟩ ?_ ?_ ?_ m4, sub h _ hh m4⟩
        · simp [Pat.many]
        · intro x hx
          simp only [List.mem_cons, List.not_mem_nil, or_false] at hx
          rcases hx with hx | hx <;> subst hx <;> simp only [Pat.depth, Pat.many, Pat.few] <;> exact ⟨by omega, by omega, fun z => by first | exact z.1 | exact z.2⟩
        · rw [← hM2, mupd_ne hne, mupd_same]; simp only [List.map_append, List.append_assoc]; rfl
        · rw [← hM2, mupd_same, List.map_append]; rfl
        · rw [← hM2, mupd_ne h2, mupd_ne h1, mupd_same]; rfl
  · rintro Γ M' ⟨x3, x4, x5, x6, ns, hs, rfl, hI, hS⟩
    have := hI.size
    have := hI.le
    rw [rgD_len] at this
    simp only [Int.toNat] at this
    omega
  · refine ⟨_, _, _, _, [p], [], rfl, ⟨rfl, ?_, mupd_same, nlp.symm, rfl, Nat.zero_le _, fun j h => absurd h (Nat.not_lt_zero _), by simp, fun n h => ?_⟩, .drop hlp (.drop hln .refl)⟩
    · rw [mupd_ne nlp.symm, mupd_same]; rfl
    · rw [List.mem_singleton.mp h]; exact ⟨Nat.le_refl _, Nat.le_refl _, id⟩
end Lw
end
section
set_option maxHeartbeats 4000000
/-! k07, part G: what is due. -/
namespace Lw
open PySem L2 DL

def encDue (p : Pat) : D := .tup [.bl p.empty, .tup (p.names.map D.str), .int p.tests.length, .int p.depth, .tup [.int p.least, encO p.most]]
theorem most_pos (p : Pat) : ∀ i, p.most = some i → 1 ≤ i := by
  induction p with
  | test => intro i h; simp only [Pat.most, Option.some.injEq] at h; omega
  | again p ih =>
    intro i h
    simp only [Pat.most] at h
    split at h
    · rename_i e; have := ih 0 e; omega
    · cases h
  | bin o p q ih1 ih2 =>
    intro i h
    simp only [Pat.most] at h
    cases e1 : p.most with
    | none => rw [e1] at h; cases h
    | some a => cases e2 : q.most with
      | none => rw [e1, e2] at h; cases h
      | some b =>
        rw [e1, e2] at h
        have := ih1 a e1
        have := ih2 b e2
        simp only [Option.some.injEq] at h
        split at h <;> omega
theorem again_most (p : Pat) : (Pat.again p).most = none := by
  simp only [Pat.most]
  split
  · rename_i e; have := most_pos p 0 e; omega
  · rfl
def sp__law_due : DSp := fun ds M Q _ => ∃ p : Pat, ds = [enc p] ∧ p.few ∧ p.many ≤ 1999 ∧ ∀ M', Sub M M' → Q (encDue p) M'
theorem ln__law_due : ∀ ds M Q E, sp__law_due ds M Q E → ds.length = 1 := fun _ _ _ _ ⟨_, h, _⟩ => by rw [h]; rfl
/-- the told ones above a place -/
def DI (M : Mp) (p : Pat) (ln lp lt : Addr) (ns : List Pat) (hs : List Addr) (s : Nat) (M' : Mp) : Prop := NI p ln lp ns hs ns.length M' ∧ Sub M M' ∧ M lt = none ∧ lt ≠ ln ∧ lt ≠ lp ∧ (∀ h ∈ hs, h ≠ lt) ∧ ∃ told : List D, M' lt = some (.lst told) ∧ told.length = ns.length ∧ ∀ j n, ns.length ≤ j + s → ns[j]? = some n → told[j]? = some (encDue n)
theorem NI.sub {p : Pat} {ln lp lt : Addr} {ns : List Pat} {hs : List Addr} {i : Nat} {M' M2 : Mp} (I : NI p ln lp ns hs i M') (m : ∀ x o, x ≠ lt → M' x = some o → M2 x = some o) (n1 : lt ≠ ln) (n2 : lt ≠ lp) (n3 : ∀ h ∈ hs, h ≠ lt) : NI p ln lp ns hs i M2 where
  n0 := I.n0
  nodes := m _ _ n1.symm I.nodes
  parts := m _ _ n2.symm I.parts
  ne := I.ne
  len := I.len
  le := I.le
  kids := fun j hj => by
    obtain ⟨h, cs, a, b, c⟩ := I.kids j hj
    exact ⟨h, cs, a, m _ _ (n3 h (List.mem_of_getElem? a)) b, c⟩
  sum := I.sum
  all := I.all
theorem names_test {ts : List (Bool × Str)} : (Pat.test ts).names = ts.map (·.2) := by simp [Pat.names, Pat.tests]
theorem names_again {p : Pat} : (Pat.again p).names = p.names := rfl
theorem names_bin {o : Bool} {p q : Pat} : (Pat.bin o p q).names = p.names ++ q.names := by simp [Pat.names, Pat.tests]
theorem hs__law_due : ∀ ds M Q E, sp__law_due ds M Q E → b__law_due sp__law_nodes { nx := fun _ M' => Wk Q .non M', rt := Wk Q } (startG N__law_due ds) M := by
  rintro ds M Q E ⟨p, rfl, hfew, hm, q⟩
  show b__law_due _ _ [some (enc p), none, none, none, none, none, none, none, none, none, none, none, none, none, none, none, none, none, none] M
  simp only [b__law_due, dSeq, dAsg, dgN, dRet, dRetN, dIfS, dVar, gv_0, gv_s, sv_0, sv_s, dC, dOp, dB, asB_b, dAnd, dOr, dNot, dAndV, dOrV, dNotV, dIf, dTru, DTru, dCons, dNil, dTup, dLst, dCall, dCB, dFor, dDrop, dPart, dNo, dNext, dBreak, dCont, dPar, dgT, dgAll, ix_t0, ix_t1, ix_t2, ix_t3, ix_t4, eq_ss, eq_ii, eq_si, eq_is, eq_bb, ne_ss, ne_ii, ne_si, ne_is, ne_bb, add_ii, add_ss, add_tt, mul_ii, mul_ti, oI_ii, oI0_ii, oB0_ii, is_non, isnot_non, isNon_non, isNon_int, isNon_str, isNon_bl, isNon_tup, len_tup, len_fl, len_str, tuple_tup, int_i, int_b, abs_i, max_ii, min_ii, seq_ref, diR1, diR2, items_tup, items_fl, same, Option.some.injEq, exists_eq_left', exists_eq_left, true_and, and_true, if_true, if_false, ite_true, ite_false, Bool.false_eq_true, reduceIte, List.length_cons, List.length_nil, Nat.reduceAdd, Nat.zero_add, decide_true, decide_false, Bool.not_true, Bool.not_false, forall_const, forall_eq, sl_ref, dNeg, wipeG, wipeG.nv, dYes, cut_1, dLoop, wantI_some, wantL_some, wantK_some, wantB_some, mupd_app, ix_ref, ix_tupA, len_ref, tuple_ref, list_ref, list_tup, list_fl, mul_ref, add_ref, setL_ref, lm_ref, append_at, extend_ref, dget_ref, sum_ref, max_ref, min_ref, at_0, at_1, at_2, at_3, at_4, isi_eq, tyD_int, tyD_bl, tyD_str, tyD_tup, tyD_non, kit_ii, kit_ib, kit_is, kit_it, kit_bi, kit_bb, kit_bs, kit_bt, kit_si, kit_sb, kit_ss, kit_st, kit_ti, kit_tb, kit_ts, kit_tt, kit_ni, kit_nb, kit_ns, kit_nt, kit_li, kit_lb, kit_ls, kit_lt, eq_self]
  refine ⟨p, rfl, hm, fun ln lp ns hs M1 hI hS => ?_⟩
  have hnode := hI.nodes
  have hparts := hI.parts
  have hne := hI.ne
  have hsize := hI.size
  simp only [dSeq, dAsg, dgN, dRet, dRetN, dIfS, dVar, gv_0, gv_s, sv_0, sv_s, dC, dOp, dB, asB_b, dAnd, dOr, dNot, dAndV, dOrV, dNotV, dIf, dTru, DTru, dCons, dNil, dTup, dLst, dCall, dCB, dFor, dDrop, dPart, dNo, dNext, dBreak, dCont, dPar, dgT, dgAll, ix_t0, ix_t1, ix_t2, ix_t3, ix_t4, eq_ss, eq_ii, eq_si, eq_is, eq_bb, ne_ss, ne_ii, ne_si, ne_is, ne_bb, add_ii, add_ss, add_tt, mul_ii, mul_ti, oI_ii, oI0_ii, oB0_ii, is_non, isnot_non, isNon_non, isNon_int, isNon_str, isNon_bl, isNon_tup, len_tup, len_fl, len_str, tuple_tup, int_i, int_b, abs_i, max_ii, min_ii, seq_ref, diR1, diR2, items_tup, items_fl, same, Option.some.injEq, exists_eq_left', exists_eq_left, true_and, and_true, if_true, if_false, ite_true, ite_false, Bool.false_eq_true, reduceIte, List.length_cons, List.length_nil, Nat.reduceAdd, Nat.zero_add, decide_true, decide_false, Bool.not_true, Bool.not_false, forall_const, forall_eq, sl_ref, dNeg, wipeG, wipeG.nv, dYes, cut_1, dLoop, wantI_some, wantL_some, wantK_some, wantB_some, mupd_app, ix_ref, ix_tupA, len_ref, tuple_ref, list_ref, list_tup, list_fl, mul_ref, add_ref, setL_ref, lm_ref, append_at, extend_ref, dget_ref, sum_ref, max_ref, min_ref, at_0, at_1, at_2, at_3, at_4, isi_eq, tyD_int, tyD_bl, tyD_str, tyD_tup, tyD_non, kit_ii, kit_ib, kit_is, kit_it, kit_bi, kit_bb, kit_bs, kit_bt, kit_si, kit_sb, kit_ss, kit_st, kit_ti, kit_tb, kit_ts, kit_tt, kit_ni, kit_nb, kit_ns, kit_nt, kit_li, kit_lb, kit_ls, kit_lt, eq_self]
  refine ⟨sz (by decide), fun lt0 hlt0 => ?_⟩
  have nt0 : ln ≠ lt0 := fresh_ne hlt0 hnode
  simp only [dSeq, dAsg, dgN, dRet, dRetN, dIfS, dVar, gv_0, gv_s, sv_0, sv_s, dC, dOp, dB, asB_b, dAnd, dOr, dNot, dAndV, dOrV, dNotV, dIf, dTru, DTru, dCons, dNil, dTup, dLst, dCall, dCB, dFor, dDrop, dPart, dNo, dNext, dBreak, dCont, dPar, dgT, dgAll, ix_t0, ix_t1, ix_t2, ix_t3, ix_t4, eq_ss, eq_ii, eq_si, eq_is, eq_bb, ne_ss, ne_ii, ne_si, ne_is, ne_bb, add_ii, add_ss, add_tt, mul_ii, mul_ti, oI_ii, oI0_ii, oB0_ii, is_non, isnot_non, isNon_non, isNon_int, isNon_str, isNon_bl, isNon_tup, len_tup, len_fl, len_str, tuple_tup, int_i, int_b, abs_i, max_ii, min_ii, seq_ref, diR1, diR2, items_tup, items_fl, same, Option.some.injEq, exists_eq_left', exists_eq_left, true_and, and_true, if_true, if_false, ite_true, ite_false, Bool.false_eq_true, reduceIte, List.length_cons, List.length_nil, Nat.reduceAdd, Nat.zero_add, decide_true, decide_false, Bool.not_true, Bool.not_false, forall_const, forall_eq, sl_ref, dNeg, wipeG, wipeG.nv, dYes, cut_1, dLoop, wantI_some, wantL_some, wantK_some, wantB_some, mupd_app, ix_ref, ix_tupA, len_ref, tuple_ref, list_ref, list_tup, list_fl, mul_ref, add_ref, setL_ref, lm_ref, append_at, extend_ref, dget_ref, sum_ref, max_ref, min_ref, at_0, at_1, at_2, at_3, at_4, isi_eq, tyD_int, tyD_bl, tyD_str, tyD_tup, tyD_non, kit_ii, kit_ib, kit_is, kit_it, kit_bi, kit_bb, kit_bs, kit_bt, kit_si, kit_sb, kit_ss, kit_st, kit_ti, kit_tb, kit_ts, kit_tt, kit_ni, kit_nb, kit_ns, kit_nt, kit_li, kit_lb, kit_ls, kit_lt, eq_self, nt0, hnode, List.length_map]
  refine ⟨by omega, by omega, sz (by rw [Int.toNat_natCast]; omega), fun lt hlt => ?_⟩
  obtain ⟨nlt, hlt⟩ := none_if hlt
  have nt : ln ≠ lt := fresh_ne hlt hnode
  simp only [nt, nt0, hnode, dSeq, dAsg, dgN, dRet, dRetN, dIfS, dVar, gv_0, gv_s, sv_0, sv_s, dC, dOp, dB, asB_b, dAnd, dOr, dNot, dAndV, dOrV, dNotV, dIf, dTru, DTru, dCons, dNil, dTup, dLst, dCall, dCB, dFor, dDrop, dPart, dNo, dNext, dBreak, dCont, dPar, dgT, dgAll, ix_t0, ix_t1, ix_t2, ix_t3, ix_t4, eq_ss, eq_ii, eq_si, eq_is, eq_bb, ne_ss, ne_ii, ne_si, ne_is, ne_bb, add_ii, add_ss, add_tt, mul_ii, mul_ti, oI_ii, oI0_ii, oB0_ii, is_non, isnot_non, isNon_non, isNon_int, isNon_str, isNon_bl, isNon_tup, len_tup, len_fl, len_str, tuple_tup, int_i, int_b, abs_i, max_ii, min_ii, seq_ref, diR1, diR2, items_tup, items_fl, same, Option.some.injEq, exists_eq_left', exists_eq_left, true_and, and_true, if_true, if_false, ite_true, ite_false, Bool.false_eq_true, reduceIte, List.length_cons, List.length_nil, Nat.reduceAdd, Nat.zero_add, decide_true, decide_false, Bool.not_true, Bool.not_false, forall_const, forall_eq, sl_ref, dNeg, wipeG, wipeG.nv, dYes, cut_1, dLoop, wantI_some, wantL_some, wantK_some, wantB_some, mupd_app, ix_ref, ix_tupA, len_ref, tuple_ref, list_ref, list_tup, list_fl, mul_ref, add_ref, setL_ref, lm_ref, append_at, extend_ref, dget_ref, sum_ref, max_ref, min_ref, at_0, at_1, at_2, at_3, at_4, isi_eq, tyD_int, tyD_bl, tyD_str, tyD_tup, tyD_non, kit_ii, kit_ib, kit_is, kit_it, kit_bi, kit_bb, kit_bs, kit_bt, kit_si, kit_sb, kit_ss, kit_st, kit_ti, kit_tb, kit_ts, kit_tt, kit_ni, kit_nb, kit_ns, kit_nt, kit_li, kit_lb, kit_ls, kit_lt, eq_self, List.length_map]
  refine ⟨⟨by omega, by omega⟩, ?_⟩
  have hMlt : M lt = none := by
    cases e : M lt with
    | none => rfl
    | some o => have := hS lt o e; rw [hlt] at this; cases this
  refine dLoop_inv (fun s Γ M' => ∃ (x4 x5 x6 x7 x8 x9 x10 x11 x12 x13 x14 x15 x16 x17 x18 : Option D), Γ = [some (enc p), some (.ref ln), some (.ref lp), some (.ref lt), x4, x5, x6, x7, x8, x9, x10, x11, x12, x13, x14, x15, x16, x17, x18] ∧ DI M p ln lp lt ns hs s M') ?_ ?_ ?_
  · rintro s d Γ M' N hi ⟨x4, x5, x6, x7, x8, x9, x10, x11, x12, x13, x14, x15, x16, x17, x18, rfl, hI, hS, _, n1, n2, n3, told, t1, t2, t3⟩ hN
    obtain ⟨hi1, rfl⟩ := rgD_get hi
    rw [Int.toNat_natCast] at hi1
    have hnode := hI.nodes
    have hparts := hI.parts
    obtain ⟨k, hk1, hk2⟩ : ∃ k : Nat, (ns.length : Int) - 1 - (0 + s) = k ∧ k + s + 1 = ns.length := ⟨ns.length - 1 - s, by omega, by omega⟩
    obtain ⟨n, e1, e2⟩ := at_map (f := enc) (xs := ns) (i := (k : Int)) (by omega) (by omega)
    rw [Int.toNat_natCast] at e2
    obtain ⟨h, cs, a1, a2, a3, a4, n', b1, b2⟩ := hI.kids k (by omega)
    have e : n' = n := by rw [e2] at b1; cases b1; rfl
    subst e
    have a5 : atI (hs.map D.ref) (k : Int) = some (.ref h) := atI_nat (by rw [List.getElem?_map, a1]; rfl)
    have hle := hI.all n' (List.mem_of_getElem? e2)
    have hfn := hle.2.2 hfew
    have hd200 : ixN told.length (k : Int) = some k := by rw [ixN_nn (by omega) (by omega), Int.toNat_natCast]
    have fin : ∀ (y4 y5 y6 y7 y8 y9 y10 y11 y12 y13 y14 y15 y16 y17 y18 : Option D) (M2 : Mp), (∀ x o, x ≠ lt → M' x = some o → M2 x = some o) → M2 lt = some (.lst (told.set k (encDue n'))) → N [some (enc p), some (.ref ln), some (.ref lp), some (.ref lt), y4, y5, y6, y7, y8, y9, y10, y11, y12, y13, y14, y15, y16, y17, y18] M2 := fun y4 y5 y6 y7 y8 y9 y10 y11 y12 y13 y14 y15 y16 y17 y18 M2 m1 m2 => by
      refine hN _ _ ⟨_, _, _, _, _, _, _, _, _, _, _, _, _, _, _, rfl, hI.sub m1 n1 n2 n3, fun x o e => m1 x o (fresh_ne hMlt e) (hS x o e), hMlt, n1, n2, n3, _, m2, by rw [List.length_set]; exact t2, fun j m hj hm => ?_⟩
      by_cases ej : j = k
      · subst ej
        rw [e2] at hm; cases hm
        rw [List.getElem?_set_self (by omega)]
      · rw [List.getElem?_set_ne (fun z => ej z.symm)]
        exact t3 j m (by omega) hm
    simp only [b__law_due_L1, dLc, dSeq, dAsg, dgN, dRet, dRetN, dIfS, dVar, gv_0, gv_s, sv_0, sv_s, dC, dOp, dB, asB_b, dAnd, dOr, dNot, dAndV, dOrV, dNotV, dIf, dTru, DTru, dCons, dNil, dTup, dLst, dCall, dCB, dFor, dDrop, dPart, dNo, dNext, dBreak, dCont, dPar, dgT, dgAll, ix_t0, ix_t1, ix_t2, ix_t3, ix_t4, eq_ss, eq_ii, eq_si, eq_is, eq_bb, ne_ss, ne_ii, ne_si, ne_is, ne_bb, add_ii, add_ss, add_tt, mul_ii, mul_ti, oI_ii, oI0_ii, oB0_ii, is_non, isnot_non, isNon_non, isNon_int, isNon_str, isNon_bl, isNon_tup, len_tup, len_fl, len_str, tuple_tup, int_i, int_b, abs_i, max_ii, min_ii, seq_ref, diR1, diR2, items_tup, items_fl, same, Option.some.injEq, exists_eq_left', exists_eq_left, true_and, and_true, if_true, if_false, ite_true, ite_false, Bool.false_eq_true, reduceIte, List.length_cons, List.length_nil, Nat.reduceAdd, Nat.zero_add, decide_true, decide_false, Bool.not_true, Bool.not_false, forall_const, forall_eq, sl_ref, dNeg, wipeG, wipeG.nv, dYes, cut_1, dLoop, wantI_some, wantL_some, wantK_some, wantB_some, mupd_app, ix_ref, ix_tupA, len_ref, tuple_ref, list_ref, list_tup, list_fl, mul_ref, add_ref, setL_ref, lm_ref, append_at, extend_ref, dget_ref, sum_ref, max_ref, min_ref, at_0, at_1, at_2, at_3, at_4, isi_eq, tyD_int, tyD_bl, tyD_str, tyD_tup, tyD_non, kit_ii, kit_ib, kit_is, kit_it, kit_bi, kit_bb, kit_bs, kit_bt, kit_si, kit_sb, kit_ss, kit_st, kit_ti, kit_tb, kit_ts, kit_tt, kit_ni, kit_nb, kit_ns, kit_nt, kit_li, kit_lb, kit_ls, kit_lt, eq_self, hnode, List.length_map, hk1, e1, hparts, a5, a2]
    cases n' with
    | test ts =>
      subst b2
      simp only [List.map, dCL, enc, dSeq, dAsg, dgN, dRet, dRetN, dIfS, dVar, gv_0, gv_s, sv_0, sv_s, dC, dOp, dB, asB_b, dAnd, dOr, dNot, dAndV, dOrV, dNotV, dIf, dTru, DTru, dCons, dNil, dTup, dLst, dCall, dCB, dFor, dDrop, dPart, dNo, dNext, dBreak, dCont, dPar, dgT, dgAll, ix_t0, ix_t1, ix_t2, ix_t3, ix_t4, eq_ss, eq_ii, eq_si, eq_is, eq_bb, ne_ss, ne_ii, ne_si, ne_is, ne_bb, add_ii, add_ss, add_tt, mul_ii, mul_ti, oI_ii, oI0_ii, oB0_ii, is_non, isnot_non, isNon_non, isNon_int, isNon_str, isNon_bl, isNon_tup, len_tup, len_fl, len_str, tuple_tup, int_i, int_b, abs_i, max_ii, min_ii, seq_ref, diR1, diR2, items_tup, items_fl, same, Option.some.injEq, exists_eq_left', exists_eq_left, true_and, and_true, if_true, if_false, ite_true, ite_false, Bool.false_eq_true, reduceIte, List.length_cons, List.length_nil, Nat.reduceAdd, Nat.zero_add, decide_true, decide_false, Bool.not_true, Bool.not_false, forall_const, forall_eq, sl_ref, dNeg, wipeG, wipeG.nv, dYes, cut_1, dLoop, wantI_some, wantL_some, wantK_some, wantB_some, mupd_app, ix_ref, ix_tupA, len_ref, tuple_ref, list_ref, list_tup, list_fl, mul_ref, add_ref, setL_ref, lm_ref, append_at, extend_ref, dget_ref, sum_ref, max_ref, min_ref, at_0, at_1, at_2, at_3, at_4, isi_eq, tyD_int, tyD_bl, tyD_str, tyD_tup, tyD_non, kit_ii, kit_ib, kit_is, kit_it, kit_bi, kit_bb, kit_bs, kit_bt, kit_si, kit_sb, kit_ss, kit_st, kit_ti, kit_tb, kit_ts, kit_tt, kit_ni, kit_nb, kit_ns, kit_nt, kit_li, kit_lb, kit_ls, kit_lt, eq_self, a2]
      intro l1 h1
      have u1 := fresh_ne h1 t1
      simp only [b__law_due_T5, dLc, dSeq, dAsg, dgN, dRet, dRetN, dIfS, dVar, gv_0, gv_s, sv_0, sv_s, dC, dOp, dB, asB_b, dAnd, dOr, dNot, dAndV, dOrV, dNotV, dIf, dTru, DTru, dCons, dNil, dTup, dLst, dCall, dCB, dFor, dDrop, dPart, dNo, dNext, dBreak, dCont, dPar, dgT, dgAll, ix_t0, ix_t1, ix_t2, ix_t3, ix_t4, eq_ss, eq_ii, eq_si, eq_is, eq_bb, ne_ss, ne_ii, ne_si, ne_is, ne_bb, add_ii, add_ss, add_tt, mul_ii, mul_ti, oI_ii, oI0_ii, oB0_ii, is_non, isnot_non, isNon_non, isNon_int, isNon_str, isNon_bl, isNon_tup, len_tup, len_fl, len_str, tuple_tup, int_i, int_b, abs_i, max_ii, min_ii, seq_ref, diR1, diR2, items_tup, items_fl, same, Option.some.injEq, exists_eq_left', exists_eq_left, true_and, and_true, if_true, if_false, ite_true, ite_false, Bool.false_eq_true, reduceIte, List.length_cons, List.length_nil, Nat.reduceAdd, Nat.zero_add, decide_true, decide_false, Bool.not_true, Bool.not_false, forall_const, forall_eq, sl_ref, dNeg, wipeG, wipeG.nv, dYes, cut_1, dLoop, wantI_some, wantL_some, wantK_some, wantB_some, mupd_app, ix_ref, ix_tupA, len_ref, tuple_ref, list_ref, list_tup, list_fl, mul_ref, add_ref, setL_ref, lm_ref, append_at, extend_ref, dget_ref, sum_ref, max_ref, min_ref, at_0, at_1, at_2, at_3, at_4, isi_eq, tyD_int, tyD_bl, tyD_str, tyD_tup, tyD_non, kit_ii, kit_ib, kit_is, kit_it, kit_bi, kit_bb, kit_bs, kit_bt, kit_si, kit_sb, kit_ss, kit_st, kit_ti, kit_tb, kit_ts, kit_tt, kit_ni, kit_nb, kit_ns, kit_nt, kit_li, kit_lb, kit_ls, kit_lt, eq_self, u1]
      refine dCL_pure (fun t => match t with | .tup [_, x] => some x | _ => none) (sz (by rw [List.length_map]; have : ts.length ≤ 6 := hfn; simp only [List.length_nil]; omega)) trivial (fun d hd Ny Nn y1 y2 => ?_) ?_
      · obtain ⟨t, ht, rfl⟩ := List.mem_map.mp hd
        simp only [dSeq, dAsg, dgN, dRet, dRetN, dIfS, dVar, gv_0, gv_s, sv_0, sv_s, dC, dOp, dB, asB_b, dAnd, dOr, dNot, dAndV, dOrV, dNotV, dIf, dTru, DTru, dCons, dNil, dTup, dLst, dCall, dCB, dFor, dDrop, dPart, dNo, dNext, dBreak, dCont, dPar, dgT, dgAll, ix_t0, ix_t1, ix_t2, ix_t3, ix_t4, eq_ss, eq_ii, eq_si, eq_is, eq_bb, ne_ss, ne_ii, ne_si, ne_is, ne_bb, add_ii, add_ss, add_tt, mul_ii, mul_ti, oI_ii, oI0_ii, oB0_ii, is_non, isnot_non, isNon_non, isNon_int, isNon_str, isNon_bl, isNon_tup, len_tup, len_fl, len_str, tuple_tup, int_i, int_b, abs_i, max_ii, min_ii, seq_ref, diR1, diR2, items_tup, items_fl, same, Option.some.injEq, exists_eq_left', exists_eq_left, true_and, and_true, if_true, if_false, ite_true, ite_false, Bool.false_eq_true, reduceIte, List.length_cons, List.length_nil, Nat.reduceAdd, Nat.zero_add, decide_true, decide_false, Bool.not_true, Bool.not_false, forall_const, forall_eq, sl_ref, dNeg, wipeG, wipeG.nv, dYes, cut_1, dLoop, wantI_some, wantL_some, wantK_some, wantB_some, mupd_app, ix_ref, ix_tupA, len_ref, tuple_ref, list_ref, list_tup, list_fl, mul_ref, add_ref, setL_ref, lm_ref, append_at, extend_ref, dget_ref, sum_ref, max_ref, min_ref, at_0, at_1, at_2, at_3, at_4, isi_eq, tyD_int, tyD_bl, tyD_str, tyD_tup, tyD_non, kit_ii, kit_ib, kit_is, kit_it, kit_bi, kit_bb, kit_bs, kit_bt, kit_si, kit_sb, kit_ss, kit_st, kit_ti, kit_tb, kit_ts, kit_tt, kit_ni, kit_nb, kit_ns, kit_nt, kit_li, kit_lb, kit_ls, kit_lt, eq_self, encT]
        exact y1 _ rfl
      · intro l2 h2
        obtain ⟨n21, h2⟩ := none_if h2
        have u2 := fresh_ne h2 t1
        simp only [u1, u2, dSeq, dAsg, dgN, dRet, dRetN, dIfS, dVar, gv_0, gv_s, sv_0, sv_s, dC, dOp, dB, asB_b, dAnd, dOr, dNot, dAndV, dOrV, dNotV, dIf, dTru, DTru, dCons, dNil, dTup, dLst, dCall, dCB, dFor, dDrop, dPart, dNo, dNext, dBreak, dCont, dPar, dgT, dgAll, ix_t0, ix_t1, ix_t2, ix_t3, ix_t4, eq_ss, eq_ii, eq_si, eq_is, eq_bb, ne_ss, ne_ii, ne_si, ne_is, ne_bb, add_ii, add_ss, add_tt, mul_ii, mul_ti, oI_ii, oI0_ii, oB0_ii, is_non, isnot_non, isNon_non, isNon_int, isNon_str, isNon_bl, isNon_tup, len_tup, len_fl, len_str, tuple_tup, int_i, int_b, abs_i, max_ii, min_ii, seq_ref, diR1, diR2, items_tup, items_fl, same, Option.some.injEq, exists_eq_left', exists_eq_left, true_and, and_true, if_true, if_false, ite_true, ite_false, Bool.false_eq_true, reduceIte, List.length_cons, List.length_nil, Nat.reduceAdd, Nat.zero_add, decide_true, decide_false, Bool.not_true, Bool.not_false, forall_const, forall_eq, sl_ref, dNeg, wipeG, wipeG.nv, dYes, cut_1, dLoop, wantI_some, wantL_some, wantK_some, wantB_some, mupd_app, ix_ref, ix_tupA, len_ref, tuple_ref, list_ref, list_tup, list_fl, mul_ref, add_ref, setL_ref, lm_ref, append_at, extend_ref, dget_ref, sum_ref, max_ref, min_ref, at_0, at_1, at_2, at_3, at_4, isi_eq, tyD_int, tyD_bl, tyD_str, tyD_tup, tyD_non, kit_ii, kit_ib, kit_is, kit_it, kit_bi, kit_bb, kit_bs, kit_bt, kit_si, kit_sb, kit_ss, kit_st, kit_ti, kit_tb, kit_ts, kit_tt, kit_ni, kit_nb, kit_ns, kit_nt, kit_li, kit_lb, kit_ls, kit_lt, eq_self, t1, hd200]
        have en : (ts.map encT).filterMap (fun t => match t with | .tup [_, x] => some x | _ => none) = (Pat.test ts).names.map D.str := by
          rw [names_test, List.map_map]
          clear e2 e1 b1 hfn hle fin
          induction ts with
          | nil => rfl
          | cons t ts ih => simp [encT] at ih ⊢; exact ih
        rw [List.nil_append, en]
        refine ⟨sz (by decide), sz (by decide), fin _ _ _ _ _ _ _ _ _ _ _ _ _ _ _ _ (fun x o n e => ?_) mupd_same⟩
        rw [mupd_ne n, mupd_ne (fresh_ne h2 e), mupd_ne (fresh_ne h1 e)]; exact e
    | again r =>
      obtain ⟨j, rfl, c2, c3⟩ := b2
      have d1 : atI told (j : Int) = some (encDue r) := atI_nat (t3 j r (by omega) c3)
      simp only [List.map, encN, dCL, enc, dSeq, dAsg, dgN, dRet, dRetN, dIfS, dVar, gv_0, gv_s, sv_0, sv_s, dC, dOp, dB, asB_b, dAnd, dOr, dNot, dAndV, dOrV, dNotV, dIf, dTru, DTru, dCons, dNil, dTup, dLst, dCall, dCB, dFor, dDrop, dPart, dNo, dNext, dBreak, dCont, dPar, dgT, dgAll, ix_t0, ix_t1, ix_t2, ix_t3, ix_t4, eq_ss, eq_ii, eq_si, eq_is, eq_bb, ne_ss, ne_ii, ne_si, ne_is, ne_bb, add_ii, add_ss, add_tt, mul_ii, mul_ti, oI_ii, oI0_ii, oB0_ii, is_non, isnot_non, isNon_non, isNon_int, isNon_str, isNon_bl, isNon_tup, len_tup, len_fl, len_str, tuple_tup, int_i, int_b, abs_i, max_ii, min_ii, seq_ref, diR1, diR2, items_tup, items_fl, same, Option.some.injEq, exists_eq_left', exists_eq_left, true_and, and_true, if_true, if_false, ite_true, ite_false, Bool.false_eq_true, reduceIte, List.length_cons, List.length_nil, Nat.reduceAdd, Nat.zero_add, decide_true, decide_false, Bool.not_true, Bool.not_false, forall_const, forall_eq, sl_ref, dNeg, wipeG, wipeG.nv, dYes, cut_1, dLoop, wantI_some, wantL_some, wantK_some, wantB_some, mupd_app, ix_ref, ix_tupA, len_ref, tuple_ref, list_ref, list_tup, list_fl, mul_ref, add_ref, setL_ref, lm_ref, append_at, extend_ref, dget_ref, sum_ref, max_ref, min_ref, at_0, at_1, at_2, at_3, at_4, isi_eq, tyD_int, tyD_bl, tyD_str, tyD_tup, tyD_non, kit_ii, kit_ib, kit_is, kit_it, kit_bi, kit_bb, kit_bs, kit_bt, kit_si, kit_sb, kit_ss, kit_st, kit_ti, kit_tb, kit_ts, kit_tt, kit_ni, kit_nb, kit_ns, kit_nt, kit_li, kit_lb, kit_ls, kit_lt, eq_self, a2, t1, d1]
      refine ⟨szl (by decide), fun l1 h1 => ?_⟩
      have u1 := fresh_ne h1 t1
      simp only [b__law_due_T4, encDue, dSeq, dAsg, dgN, dRet, dRetN, dIfS, dVar, gv_0, gv_s, sv_0, sv_s, dC, dOp, dB, asB_b, dAnd, dOr, dNot, dAndV, dOrV, dNotV, dIf, dTru, DTru, dCons, dNil, dTup, dLst, dCall, dCB, dFor, dDrop, dPart, dNo, dNext, dBreak, dCont, dPar, dgT, dgAll, ix_t0, ix_t1, ix_t2, ix_t3, ix_t4, eq_ss, eq_ii, eq_si, eq_is, eq_bb, ne_ss, ne_ii, ne_si, ne_is, ne_bb, add_ii, add_ss, add_tt, mul_ii, mul_ti, oI_ii, oI0_ii, oB0_ii, is_non, isnot_non, isNon_non, isNon_int, isNon_str, isNon_bl, isNon_tup, len_tup, len_fl, len_str, tuple_tup, int_i, int_b, abs_i, max_ii, min_ii, seq_ref, diR1, diR2, items_tup, items_fl, same, Option.some.injEq, exists_eq_left', exists_eq_left, true_and, and_true, if_true, if_false, ite_true, ite_false, Bool.false_eq_true, reduceIte, List.length_cons, List.length_nil, Nat.reduceAdd, Nat.zero_add, decide_true, decide_false, Bool.not_true, Bool.not_false, forall_const, forall_eq, sl_ref, dNeg, wipeG, wipeG.nv, dYes, cut_1, dLoop, wantI_some, wantL_some, wantK_some, wantB_some, mupd_app, ix_ref, ix_tupA, len_ref, tuple_ref, list_ref, list_tup, list_fl, mul_ref, add_ref, setL_ref, lm_ref, append_at, extend_ref, dget_ref, sum_ref, max_ref, min_ref, at_0, at_1, at_2, at_3, at_4, isi_eq, tyD_int, tyD_bl, tyD_str, tyD_tup, tyD_non, kit_ii, kit_ib, kit_is, kit_it, kit_bi, kit_bb, kit_bs, kit_bt, kit_si, kit_sb, kit_ss, kit_st, kit_ti, kit_tb, kit_ts, kit_tt, kit_ni, kit_nb, kit_ns, kit_nt, kit_li, kit_lb, kit_ls, kit_lt, eq_self, u1, s_at, List.nil_append, t1]
      simp only [hd200]
      refine ⟨sz (by decide), sz (by decide), fin _ _ _ _ _ _ _ _ _ _ _ _ _ _ _ _ (fun x o n e => ?_) ?_⟩
      · rw [mupd_ne n, mupd_ne (fresh_ne h1 e)]; exact e
      · rw [mupd_same]
        simp only [encDue, again_most, encO, Pat.empty, names_again, Pat.tests, Pat.depth, Pat.least, Int.natCast_add]
        rfl
    | bin o r1 r2 =>
      obtain ⟨j, rfl, c2, c3, c4⟩ := b2
      have d1 : atI told (j : Int) = some (encDue r1) := atI_nat (t3 j r1 (by omega) c3)
      have d2 : atI told ((j + 1 : Nat) : Int) = some (encDue r2) := atI_nat (t3 (j + 1) r2 (by omega) c4)
      obtain ⟨w, hw1, hw2, hw3, hw⟩ : ∃ w : Str, ((w = ("test" : Str)) = False) ∧ ((w = ("again" : Str)) = False) ∧ ((w = ("or" : Str)) = (o = true)) ∧ enc (.bin o r1 r2) = .tup [.str w, enc r1, enc r2] := by
        cases o
        · exact ⟨_, s_tt, s_tha, by simp [s_tho], rfl⟩
        · exact ⟨_, s_ot, s_oa, by simp, rfl⟩
      rw [hw]
      simp only [List.map, encN, dCL, dSeq, dAsg, dgN, dRet, dRetN, dIfS, dVar, gv_0, gv_s, sv_0, sv_s, dC, dOp, dB, asB_b, dAnd, dOr, dNot, dAndV, dOrV, dNotV, dIf, dTru, DTru, dCons, dNil, dTup, dLst, dCall, dCB, dFor, dDrop, dPart, dNo, dNext, dBreak, dCont, dPar, dgT, dgAll, ix_t0, ix_t1, ix_t2, ix_t3, ix_t4, eq_ss, eq_ii, eq_si, eq_is, eq_bb, ne_ss, ne_ii, ne_si, ne_is, ne_bb, add_ii, add_ss, add_tt, mul_ii, mul_ti, oI_ii, oI0_ii, oB0_ii, is_non, isnot_non, isNon_non, isNon_int, isNon_str, isNon_bl, isNon_tup, len_tup, len_fl, len_str, tuple_tup, int_i, int_b, abs_i, max_ii, min_ii, seq_ref, diR1, diR2, items_tup, items_fl, same, Option.some.injEq, exists_eq_left', exists_eq_left, true_and, and_true, if_true, if_false, ite_true, ite_false, Bool.false_eq_true, reduceIte, List.length_cons, List.length_nil, Nat.reduceAdd, Nat.zero_add, decide_true, decide_false, Bool.not_true, Bool.not_false, forall_const, forall_eq, sl_ref, dNeg, wipeG, wipeG.nv, dYes, cut_1, dLoop, wantI_some, wantL_some, wantK_some, wantB_some, mupd_app, ix_ref, ix_tupA, len_ref, tuple_ref, list_ref, list_tup, list_fl, mul_ref, add_ref, setL_ref, lm_ref, append_at, extend_ref, dget_ref, sum_ref, max_ref, min_ref, at_0, at_1, at_2, at_3, at_4, isi_eq, tyD_int, tyD_bl, tyD_str, tyD_tup, tyD_non, kit_ii, kit_ib, kit_is, kit_it, kit_bi, kit_bb, kit_bs, kit_bt, kit_si, kit_sb, kit_ss, kit_st, kit_ti, kit_tb, kit_ts, kit_tt, kit_ni, kit_nb, kit_ns, kit_nt, kit_li, kit_lb, kit_ls, kit_lt, eq_self, a2, t1, d1, d2]
      refine ⟨szl (by simp), szl (by simp), fun l1 h1 => ?_⟩
      have u1 := fresh_ne h1 t1
      simp only [dSeq, dAsg, dgN, dRet, dRetN, dIfS, dVar, gv_0, gv_s, sv_0, sv_s, dC, dOp, dB, asB_b, dAnd, dOr, dNot, dAndV, dOrV, dNotV, dIf, dTru, DTru, dCons, dNil, dTup, dLst, dCall, dCB, dFor, dDrop, dPart, dNo, dNext, dBreak, dCont, dPar, dgT, dgAll, ix_t0, ix_t1, ix_t2, ix_t3, ix_t4, eq_ss, eq_ii, eq_si, eq_is, eq_bb, ne_ss, ne_ii, ne_si, ne_is, ne_bb, add_ii, add_ss, add_tt, mul_ii, mul_ti, oI_ii, oI0_ii, oB0_ii, is_non, isnot_non, isNon_non, isNon_int, isNon_str, isNon_bl, isNon_tup, len_tup, len_fl, len_str, tuple_tup, int_i, int_b, abs_i, max_ii, min_ii, seq_ref, diR1, diR2, items_tup, items_fl, same, Option.some.injEq, exists_eq_left', exists_eq_left, true_and, and_true, if_true, if_false, ite_true, ite_false, Bool.false_eq_true, reduceIte, List.length_cons, List.length_nil, Nat.reduceAdd, Nat.zero_add, decide_true, decide_false, Bool.not_true, Bool.not_false, forall_const, forall_eq, sl_ref, dNeg, wipeG, wipeG.nv, dYes, cut_1, dLoop, wantI_some, wantL_some, wantK_some, wantB_some, mupd_app, ix_ref, ix_tupA, len_ref, tuple_ref, list_ref, list_tup, list_fl, mul_ref, add_ref, setL_ref, lm_ref, append_at, extend_ref, dget_ref, sum_ref, max_ref, min_ref, at_0, at_1, at_2, at_3, at_4, isi_eq, tyD_int, tyD_bl, tyD_str, tyD_tup, tyD_non, kit_ii, kit_ib, kit_is, kit_it, kit_bi, kit_bb, kit_bs, kit_bt, kit_si, kit_sb, kit_ss, kit_st, kit_ti, kit_tb, kit_ts, kit_tt, kit_ni, kit_nb, kit_ns, kit_nt, kit_li, kit_lb, kit_ls, kit_lt, eq_self, hw1, hw2]
      have hl1 := names_len r1 hfn.1
      have hl2 := names_len r2 hfn.2
      have hmm := hle.2.1
      simp only [Pat.many] at hmm
      have rest : ∀ (m : D) (F : DEnds) (y8 y9 y10 y11 y12 y16 : Option D) (M2 : Mp), (∀ Γ M', N Γ M' → F.nx Γ M') → m = encO (Pat.bin o r1 r2).most → (∀ x o, x ≠ lt → M' x = some o → M2 x = some o) → M2 lt = some (.lst told) →
          b__law_due_R2 sp__law_nodes F [some (enc p), some (.ref ln), some (.ref lp), some (.ref lt), some (.int (0 + s)), some (.int k), some (.tup [.str w, enc r1, enc r2]), some (.ref l1), y8, y9, y10, y11, y12, some (encDue r1), some (encDue r2), some m, y16, x17, x18] M2 := fun m F y8 y9 y10 y11 y12 y16 M2 hF hmost m1 m2 => by
        have last : ∀ (e : Bool) (l : Int), e = (Pat.bin o r1 r2).empty → l = (Pat.bin o r1 r2).least → b__law_due_R1 sp__law_nodes F [some (enc p), some (.ref ln), some (.ref lp), some (.ref lt), some (.int (0 + s)), some (.int k), some (.tup [.str w, enc r1, enc r2]), some (.ref l1), some (.bl e), y9, y10, y11, y12, some (encDue r1), some (encDue r2), some m, some (.int l), x17, x18] M2 := fun e l he hl => by
          simp only [b__law_due_R1, encDue, dSeq, dAsg, dgN, dRet, dRetN, dIfS, dVar, gv_0, gv_s, sv_0, sv_s, dC, dOp, dB, asB_b, dAnd, dOr, dNot, dAndV, dOrV, dNotV, dIf, dTru, DTru, dCons, dNil, dTup, dLst, dCall, dCB, dFor, dDrop, dPart, dNo, dNext, dBreak, dCont, dPar, dgT, dgAll, ix_t0, ix_t1, ix_t2, ix_t3, ix_t4, eq_ss, eq_ii, eq_si, eq_is, eq_bb, ne_ss, ne_ii, ne_si, ne_is, ne_bb, add_ii, add_ss, add_tt, mul_ii, mul_ti, oI_ii, oI0_ii, oB0_ii, is_non, isnot_non, isNon_non, isNon_int, isNon_str, isNon_bl, isNon_tup, len_tup, len_fl, len_str, tuple_tup, int_i, int_b, abs_i, max_ii, min_ii, seq_ref, diR1, diR2, items_tup, items_fl, same, Option.some.injEq, exists_eq_left', exists_eq_left, true_and, and_true, if_true, if_false, ite_true, ite_false, Bool.false_eq_true, reduceIte, List.length_cons, List.length_nil, Nat.reduceAdd, Nat.zero_add, decide_true, decide_false, Bool.not_true, Bool.not_false, forall_const, forall_eq, sl_ref, dNeg, wipeG, wipeG.nv, dYes, cut_1, dLoop, wantI_some, wantL_some, wantK_some, wantB_some, mupd_app, ix_ref, ix_tupA, len_ref, tuple_ref, list_ref, list_tup, list_fl, mul_ref, add_ref, setL_ref, lm_ref, append_at, extend_ref, dget_ref, sum_ref, max_ref, min_ref, at_0, at_1, at_2, at_3, at_4, isi_eq, tyD_int, tyD_bl, tyD_str, tyD_tup, tyD_non, kit_ii, kit_ib, kit_is, kit_it, kit_bi, kit_bb, kit_bs, kit_bt, kit_si, kit_sb, kit_ss, kit_st, kit_ti, kit_tb, kit_ts, kit_tt, kit_ni, kit_nb, kit_ns, kit_nt, kit_li, kit_lb, kit_ls, kit_lt, eq_self, m2, hd200]
          refine ⟨sz (by simp only [List.length_map]; omega), sz (by decide), sz (by decide), hF _ _ (fin _ _ _ _ _ _ _ _ _ _ _ _ _ _ _ _ (fun x o n e => ?_) ?_)⟩
          · rw [mupd_ne n]; exact m1 x o n e
          · rw [mupd_same]
            have ed : ((if (r2.depth : Int) > (r1.depth : Int) then (r2.depth : Int) else r1.depth) + 1) = ((Pat.bin o r1 r2).depth : Nat) := by simp only [Pat.depth]; split <;> omega
            have es : ((r1.tests.length : Int) + r2.tests.length) = ((Pat.bin o r1 r2).tests.length : Nat) := by simp only [Pat.tests, List.length_append]; omega
            rw [ed, es, he, hl, hmost, ← List.map_append, ← names_bin (o := o)]
            rfl
        simp only [b__law_due_R2, encDue, dSeq, dAsg, dgN, dRet, dRetN, dIfS, dVar, gv_0, gv_s, sv_0, sv_s, dC, dOp, dB, asB_b, dAnd, dOr, dNot, dAndV, dOrV, dNotV, dIf, dTru, DTru, dCons, dNil, dTup, dLst, dCall, dCB, dFor, dDrop, dPart, dNo, dNext, dBreak, dCont, dPar, dgT, dgAll, ix_t0, ix_t1, ix_t2, ix_t3, ix_t4, eq_ss, eq_ii, eq_si, eq_is, eq_bb, ne_ss, ne_ii, ne_si, ne_is, ne_bb, add_ii, add_ss, add_tt, mul_ii, mul_ti, oI_ii, oI0_ii, oB0_ii, is_non, isnot_non, isNon_non, isNon_int, isNon_str, isNon_bl, isNon_tup, len_tup, len_fl, len_str, tuple_tup, int_i, int_b, abs_i, max_ii, min_ii, seq_ref, diR1, diR2, items_tup, items_fl, same, Option.some.injEq, exists_eq_left', exists_eq_left, true_and, and_true, if_true, if_false, ite_true, ite_false, Bool.false_eq_true, reduceIte, List.length_cons, List.length_nil, Nat.reduceAdd, Nat.zero_add, decide_true, decide_false, Bool.not_true, Bool.not_false, forall_const, forall_eq, sl_ref, dNeg, wipeG, wipeG.nv, dYes, cut_1, dLoop, wantI_some, wantL_some, wantK_some, wantB_some, mupd_app, ix_ref, ix_tupA, len_ref, tuple_ref, list_ref, list_tup, list_fl, mul_ref, add_ref, setL_ref, lm_ref, append_at, extend_ref, dget_ref, sum_ref, max_ref, min_ref, at_0, at_1, at_2, at_3, at_4, isi_eq, tyD_int, tyD_bl, tyD_str, tyD_tup, tyD_non, kit_ii, kit_ib, kit_is, kit_it, kit_bi, kit_bb, kit_bs, kit_bt, kit_si, kit_sb, kit_ss, kit_st, kit_ti, kit_tb, kit_ts, kit_tt, kit_ni, kit_nb, kit_ns, kit_nt, kit_li, kit_lb, kit_ls, kit_lt, eq_self, hw3]
        cases o with
        | true =>
          cases hr1 : r1.empty <;> simp only [dSeq, dAsg, dgN, dRet, dRetN, dIfS, dVar, gv_0, gv_s, sv_0, sv_s, dC, dOp, dB, asB_b, dAnd, dOr, dNot, dAndV, dOrV, dNotV, dIf, dTru, DTru, dCons, dNil, dTup, dLst, dCall, dCB, dFor, dDrop, dPart, dNo, dNext, dBreak, dCont, dPar, dgT, dgAll, ix_t0, ix_t1, ix_t2, ix_t3, ix_t4, eq_ss, eq_ii, eq_si, eq_is, eq_bb, ne_ss, ne_ii, ne_si, ne_is, ne_bb, add_ii, add_ss, add_tt, mul_ii, mul_ti, oI_ii, oI0_ii, oB0_ii, is_non, isnot_non, isNon_non, isNon_int, isNon_str, isNon_bl, isNon_tup, len_tup, len_fl, len_str, tuple_tup, int_i, int_b, abs_i, max_ii, min_ii, seq_ref, diR1, diR2, items_tup, items_fl, same, Option.some.injEq, exists_eq_left', exists_eq_left, true_and, and_true, if_true, if_false, ite_true, ite_false, Bool.false_eq_true, reduceIte, List.length_cons, List.length_nil, Nat.reduceAdd, Nat.zero_add, decide_true, decide_false, Bool.not_true, Bool.not_false, forall_const, forall_eq, sl_ref, dNeg, wipeG, wipeG.nv, dYes, cut_1, dLoop, wantI_some, wantL_some, wantK_some, wantB_some, mupd_app, ix_ref, ix_tupA, len_ref, tuple_ref, list_ref, list_tup, list_fl, mul_ref, add_ref, setL_ref, lm_ref, append_at, extend_ref, dget_ref, sum_ref, max_ref, min_ref, at_0, at_1, at_2, at_3, at_4, isi_eq, tyD_int, tyD_bl, tyD_str, tyD_tup, tyD_non, kit_ii, kit_ib, kit_is, kit_it, kit_bi, kit_bb, kit_bs, kit_bt, kit_si, kit_sb, kit_ss, kit_st, kit_ti, kit_tb, kit_ts, kit_tt, kit_ni, kit_nb, kit_ns, kit_nt, kit_li, kit_lb, kit_ls, kit_lt, eq_self, b__law_due_T3, hr1]
          · have := last r2.empty (if r2.least < r1.least then r2.least else r1.least) (by simp [Pat.empty, hr1]) (by simp only [Pat.least, if_true]; split <;> omega)
            simp only [encDue, hr1] at this
            exact this
          · have := last true (if r2.least < r1.least then r2.least else r1.least) (by simp [Pat.empty, hr1]) (by simp only [Pat.least, if_true]; split <;> omega)
            simp only [encDue, hr1] at this
            exact this
        | false =>
          cases hr1 : r1.empty <;> simp only [dSeq, dAsg, dgN, dRet, dRetN, dIfS, dVar, gv_0, gv_s, sv_0, sv_s, dC, dOp, dB, asB_b, dAnd, dOr, dNot, dAndV, dOrV, dNotV, dIf, dTru, DTru, dCons, dNil, dTup, dLst, dCall, dCB, dFor, dDrop, dPart, dNo, dNext, dBreak, dCont, dPar, dgT, dgAll, ix_t0, ix_t1, ix_t2, ix_t3, ix_t4, eq_ss, eq_ii, eq_si, eq_is, eq_bb, ne_ss, ne_ii, ne_si, ne_is, ne_bb, add_ii, add_ss, add_tt, mul_ii, mul_ti, oI_ii, oI0_ii, oB0_ii, is_non, isnot_non, isNon_non, isNon_int, isNon_str, isNon_bl, isNon_tup, len_tup, len_fl, len_str, tuple_tup, int_i, int_b, abs_i, max_ii, min_ii, seq_ref, diR1, diR2, items_tup, items_fl, same, Option.some.injEq, exists_eq_left', exists_eq_left, true_and, and_true, if_true, if_false, ite_true, ite_false, Bool.false_eq_true, reduceIte, List.length_cons, List.length_nil, Nat.reduceAdd, Nat.zero_add, decide_true, decide_false, Bool.not_true, Bool.not_false, forall_const, forall_eq, sl_ref, dNeg, wipeG, wipeG.nv, dYes, cut_1, dLoop, wantI_some, wantL_some, wantK_some, wantB_some, mupd_app, ix_ref, ix_tupA, len_ref, tuple_ref, list_ref, list_tup, list_fl, mul_ref, add_ref, setL_ref, lm_ref, append_at, extend_ref, dget_ref, sum_ref, max_ref, min_ref, at_0, at_1, at_2, at_3, at_4, isi_eq, tyD_int, tyD_bl, tyD_str, tyD_tup, tyD_non, kit_ii, kit_ib, kit_is, kit_it, kit_bi, kit_bb, kit_bs, kit_bt, kit_si, kit_sb, kit_ss, kit_st, kit_ti, kit_tb, kit_ts, kit_tt, kit_ni, kit_nb, kit_ns, kit_nt, kit_li, kit_lb, kit_ls, kit_lt, eq_self, hr1]
          · have := last false (r1.least + r2.least) (by simp [Pat.empty, hr1]) (by simp [Pat.least])
            simp only [encDue, hr1] at this
            exact this
          · have := last r2.empty (r1.least + r2.least) (by simp [Pat.empty, hr1]) (by simp [Pat.least])
            simp only [encDue, hr1] at this
            exact this
      have hm1 : ∀ x o, x ≠ lt → M' x = some o → mupd M' l1 (.lst [encDue r1, encDue r2]) x = some o := fun x o _ e => by rw [mupd_ne (fresh_ne h1 e)]; exact e
      have hm2 : mupd M' l1 (.lst [encDue r1, encDue r2]) lt = some (.lst told) := by rw [mupd_ne u1]; exact t1
      simp only [encDue] at hm1 hm2 rest
      simp only [b__law_due_F1, encDue, dSeq, dAsg, dgN, dRet, dRetN, dIfS, dVar, gv_0, gv_s, sv_0, sv_s, dC, dOp, dB, asB_b, dAnd, dOr, dNot, dAndV, dOrV, dNotV, dIf, dTru, DTru, dCons, dNil, dTup, dLst, dCall, dCB, dFor, dDrop, dPart, dNo, dNext, dBreak, dCont, dPar, dgT, dgAll, ix_t0, ix_t1, ix_t2, ix_t3, ix_t4, eq_ss, eq_ii, eq_si, eq_is, eq_bb, ne_ss, ne_ii, ne_si, ne_is, ne_bb, add_ii, add_ss, add_tt, mul_ii, mul_ti, oI_ii, oI0_ii, oB0_ii, is_non, isnot_non, isNon_non, isNon_int, isNon_str, isNon_bl, isNon_tup, len_tup, len_fl, len_str, tuple_tup, int_i, int_b, abs_i, max_ii, min_ii, seq_ref, diR1, diR2, items_tup, items_fl, same, Option.some.injEq, exists_eq_left', exists_eq_left, true_and, and_true, if_true, if_false, ite_true, ite_false, Bool.false_eq_true, reduceIte, List.length_cons, List.length_nil, Nat.reduceAdd, Nat.zero_add, decide_true, decide_false, Bool.not_true, Bool.not_false, forall_const, forall_eq, sl_ref, dNeg, wipeG, wipeG.nv, dYes, cut_1, dLoop, wantI_some, wantL_some, wantK_some, wantB_some, mupd_app, ix_ref, ix_tupA, len_ref, tuple_ref, list_ref, list_tup, list_fl, mul_ref, add_ref, setL_ref, lm_ref, append_at, extend_ref, dget_ref, sum_ref, max_ref, min_ref, at_0, at_1, at_2, at_3, at_4, isi_eq, tyD_int, tyD_bl, tyD_str, tyD_tup, tyD_non, kit_ii, kit_ib, kit_is, kit_it, kit_bi, kit_bb, kit_bs, kit_bt, kit_si, kit_sb, kit_ss, kit_st, kit_ti, kit_tb, kit_ts, kit_tt, kit_ni, kit_nb, kit_ns, kit_nt, kit_li, kit_lb, kit_ls, kit_lt, eq_self, u1, List.nil_append, List.cons_append, t1]
      cases q1 : r1.most with
      | none =>
        simp only [encO, dSeq, dAsg, dgN, dRet, dRetN, dIfS, dVar, gv_0, gv_s, sv_0, sv_s, dC, dOp, dB, asB_b, dAnd, dOr, dNot, dAndV, dOrV, dNotV, dIf, dTru, DTru, dCons, dNil, dTup, dLst, dCall, dCB, dFor, dDrop, dPart, dNo, dNext, dBreak, dCont, dPar, dgT, dgAll, ix_t0, ix_t1, ix_t2, ix_t3, ix_t4, eq_ss, eq_ii, eq_si, eq_is, eq_bb, ne_ss, ne_ii, ne_si, ne_is, ne_bb, add_ii, add_ss, add_tt, mul_ii, mul_ti, oI_ii, oI0_ii, oB0_ii, is_non, isnot_non, isNon_non, isNon_int, isNon_str, isNon_bl, isNon_tup, len_tup, len_fl, len_str, tuple_tup, int_i, int_b, abs_i, max_ii, min_ii, seq_ref, diR1, diR2, items_tup, items_fl, same, Option.some.injEq, exists_eq_left', exists_eq_left, true_and, and_true, if_true, if_false, ite_true, ite_false, Bool.false_eq_true, reduceIte, List.length_cons, List.length_nil, Nat.reduceAdd, Nat.zero_add, decide_true, decide_false, Bool.not_true, Bool.not_false, forall_const, forall_eq, sl_ref, dNeg, wipeG, wipeG.nv, dYes, cut_1, dLoop, wantI_some, wantL_some, wantK_some, wantB_some, mupd_app, ix_ref, ix_tupA, len_ref, tuple_ref, list_ref, list_tup, list_fl, mul_ref, add_ref, setL_ref, lm_ref, append_at, extend_ref, dget_ref, sum_ref, max_ref, min_ref, at_0, at_1, at_2, at_3, at_4, isi_eq, tyD_int, tyD_bl, tyD_str, tyD_tup, tyD_non, kit_ii, kit_ib, kit_is, kit_it, kit_bi, kit_bb, kit_bs, kit_bt, kit_si, kit_sb, kit_ss, kit_st, kit_ti, kit_tb, kit_ts, kit_tt, kit_ni, kit_nb, kit_ns, kit_nt, kit_li, kit_lb, kit_ls, kit_lt, eq_self]
        simp only [q1, encO] at rest hm1 hm2
        exact rest _ _ _ _ _ _ _ _ _ (fun _ _ h => h) (by simp only [Pat.most, q1, encO]) hm1 hm2
      | some i1 =>
        cases q2 : r2.most with
        | none =>
          simp only [encO, dSeq, dAsg, dgN, dRet, dRetN, dIfS, dVar, gv_0, gv_s, sv_0, sv_s, dC, dOp, dB, asB_b, dAnd, dOr, dNot, dAndV, dOrV, dNotV, dIf, dTru, DTru, dCons, dNil, dTup, dLst, dCall, dCB, dFor, dDrop, dPart, dNo, dNext, dBreak, dCont, dPar, dgT, dgAll, ix_t0, ix_t1, ix_t2, ix_t3, ix_t4, eq_ss, eq_ii, eq_si, eq_is, eq_bb, ne_ss, ne_ii, ne_si, ne_is, ne_bb, add_ii, add_ss, add_tt, mul_ii, mul_ti, oI_ii, oI0_ii, oB0_ii, is_non, isnot_non, isNon_non, isNon_int, isNon_str, isNon_bl, isNon_tup, len_tup, len_fl, len_str, tuple_tup, int_i, int_b, abs_i, max_ii, min_ii, seq_ref, diR1, diR2, items_tup, items_fl, same, Option.some.injEq, exists_eq_left', exists_eq_left, true_and, and_true, if_true, if_false, ite_true, ite_false, Bool.false_eq_true, reduceIte, List.length_cons, List.length_nil, Nat.reduceAdd, Nat.zero_add, decide_true, decide_false, Bool.not_true, Bool.not_false, forall_const, forall_eq, sl_ref, dNeg, wipeG, wipeG.nv, dYes, cut_1, dLoop, wantI_some, wantL_some, wantK_some, wantB_some, mupd_app, ix_ref, ix_tupA, len_ref, tuple_ref, list_ref, list_tup, list_fl, mul_ref, add_ref, setL_ref, lm_ref, append_at, extend_ref, dget_ref, sum_ref, max_ref, min_ref, at_0, at_1, at_2, at_3, at_4, isi_eq, tyD_int, tyD_bl, tyD_str, tyD_tup, tyD_non, kit_ii, kit_ib, kit_is, kit_it, kit_bi, kit_bb, kit_bs, kit_bt, kit_si, kit_sb, kit_ss, kit_st, kit_ti, kit_tb, kit_ts, kit_tt, kit_ni, kit_nb, kit_ns, kit_nt, kit_li, kit_lb, kit_ls, kit_lt, eq_self]
          simp only [q1, q2, encO] at rest hm1 hm2
          exact rest _ _ _ _ _ _ _ _ _ (fun _ _ h => h) (by simp only [Pat.most, q1, q2, encO]) hm1 hm2
        | some i2 =>
          simp only [encO, dSeq, dAsg, dgN, dRet, dRetN, dIfS, dVar, gv_0, gv_s, sv_0, sv_s, dC, dOp, dB, asB_b, dAnd, dOr, dNot, dAndV, dOrV, dNotV, dIf, dTru, DTru, dCons, dNil, dTup, dLst, dCall, dCB, dFor, dDrop, dPart, dNo, dNext, dBreak, dCont, dPar, dgT, dgAll, ix_t0, ix_t1, ix_t2, ix_t3, ix_t4, eq_ss, eq_ii, eq_si, eq_is, eq_bb, ne_ss, ne_ii, ne_si, ne_is, ne_bb, add_ii, add_ss, add_tt, mul_ii, mul_ti, oI_ii, oI0_ii, oB0_ii, is_non, isnot_non, isNon_non, isNon_int, isNon_str, isNon_bl, isNon_tup, len_tup, len_fl, len_str, tuple_tup, int_i, int_b, abs_i, max_ii, min_ii, seq_ref, diR1, diR2, items_tup, items_fl, same, Option.some.injEq, exists_eq_left', exists_eq_left, true_and, and_true, if_true, if_false, ite_true, ite_false, Bool.false_eq_true, reduceIte, List.length_cons, List.length_nil, Nat.reduceAdd, Nat.zero_add, decide_true, decide_false, Bool.not_true, Bool.not_false, forall_const, forall_eq, sl_ref, dNeg, wipeG, wipeG.nv, dYes, cut_1, dLoop, wantI_some, wantL_some, wantK_some, wantB_some, mupd_app, ix_ref, ix_tupA, len_ref, tuple_ref, list_ref, list_tup, list_fl, mul_ref, add_ref, setL_ref, lm_ref, append_at, extend_ref, dget_ref, sum_ref, max_ref, min_ref, at_0, at_1, at_2, at_3, at_4, isi_eq, tyD_int, tyD_bl, tyD_str, tyD_tup, tyD_non, kit_ii, kit_ib, kit_is, kit_it, kit_bi, kit_bb, kit_bs, kit_bt, kit_si, kit_sb, kit_ss, kit_st, kit_ti, kit_tb, kit_ts, kit_tt, kit_ni, kit_nb, kit_ns, kit_nt, kit_li, kit_lb, kit_ls, kit_lt, eq_self, b__law_due_T2, b__law_due_T1, hw3]
          simp only [q1, q2, encO] at rest hm1 hm2
          cases o with
          | true =>
            simp only [dSeq, dAsg, dgN, dRet, dRetN, dIfS, dVar, gv_0, gv_s, sv_0, sv_s, dC, dOp, dB, asB_b, dAnd, dOr, dNot, dAndV, dOrV, dNotV, dIf, dTru, DTru, dCons, dNil, dTup, dLst, dCall, dCB, dFor, dDrop, dPart, dNo, dNext, dBreak, dCont, dPar, dgT, dgAll, ix_t0, ix_t1, ix_t2, ix_t3, ix_t4, eq_ss, eq_ii, eq_si, eq_is, eq_bb, ne_ss, ne_ii, ne_si, ne_is, ne_bb, add_ii, add_ss, add_tt, mul_ii, mul_ti, oI_ii, oI0_ii, oB0_ii, is_non, isnot_non, isNon_non, isNon_int, isNon_str, isNon_bl, isNon_tup, len_tup, len_fl, len_str, tuple_tup, int_i, int_b, abs_i, max_ii, min_ii, seq_ref, diR1, diR2, items_tup, items_fl, same, Option.some.injEq, exists_eq_left', exists_eq_left, true_and, and_true, if_true, if_false, ite_true, ite_false, Bool.false_eq_true, reduceIte, List.length_cons, List.length_nil, Nat.reduceAdd, Nat.zero_add, decide_true, decide_false, Bool.not_true, Bool.not_false, forall_const, forall_eq, sl_ref, dNeg, wipeG, wipeG.nv, dYes, cut_1, dLoop, wantI_some, wantL_some, wantK_some, wantB_some, mupd_app, ix_ref, ix_tupA, len_ref, tuple_ref, list_ref, list_tup, list_fl, mul_ref, add_ref, setL_ref, lm_ref, append_at, extend_ref, dget_ref, sum_ref, max_ref, min_ref, at_0, at_1, at_2, at_3, at_4, isi_eq, tyD_int, tyD_bl, tyD_str, tyD_tup, tyD_non, kit_ii, kit_ib, kit_is, kit_it, kit_bi, kit_bb, kit_bs, kit_bt, kit_si, kit_sb, kit_ss, kit_st, kit_ti, kit_tb, kit_ts, kit_tt, kit_ni, kit_nb, kit_ns, kit_nt, kit_li, kit_lb, kit_ls, kit_lt, eq_self]
            refine rest _ _ _ _ _ _ _ _ _ (fun _ _ h => h) ?_ hm1 hm2
            simp only [Pat.most, q1, q2, encO, if_true]
            congr 1
            split <;> omega
          | false =>
            simp only [dSeq, dAsg, dgN, dRet, dRetN, dIfS, dVar, gv_0, gv_s, sv_0, sv_s, dC, dOp, dB, asB_b, dAnd, dOr, dNot, dAndV, dOrV, dNotV, dIf, dTru, DTru, dCons, dNil, dTup, dLst, dCall, dCB, dFor, dDrop, dPart, dNo, dNext, dBreak, dCont, dPar, dgT, dgAll, ix_t0, ix_t1, ix_t2, ix_t3, ix_t4, eq_ss, eq_ii, eq_si, eq_is, eq_bb, ne_ss, ne_ii, ne_si, ne_is, ne_bb, add_ii, add_ss, add_tt, mul_ii, mul_ti, oI_ii, oI0_ii, oB0_ii, is_non, isnot_non, isNon_non, isNon_int, isNon_str, isNon_bl, isNon_tup, len_tup, len_fl, len_str, tuple_tup, int_i, int_b, abs_i, max_ii, min_ii, seq_ref, diR1, diR2, items_tup, items_fl, same, Option.some.injEq, exists_eq_left', exists_eq_left, true_and, and_true, if_true, if_false, ite_true, ite_false, Bool.false_eq_true, reduceIte, List.length_cons, List.length_nil, Nat.reduceAdd, Nat.zero_add, decide_true, decide_false, Bool.not_true, Bool.not_false, forall_const, forall_eq, sl_ref, dNeg, wipeG, wipeG.nv, dYes, cut_1, dLoop, wantI_some, wantL_some, wantK_some, wantB_some, mupd_app, ix_ref, ix_tupA, len_ref, tuple_ref, list_ref, list_tup, list_fl, mul_ref, add_ref, setL_ref, lm_ref, append_at, extend_ref, dget_ref, sum_ref, max_ref, min_ref, at_0, at_1, at_2, at_3, at_4, isi_eq, tyD_int, tyD_bl, tyD_str, tyD_tup, tyD_non, kit_ii, kit_ib, kit_is, kit_it, kit_bi, kit_bb, kit_bs, kit_bt, kit_si, kit_sb, kit_ss, kit_st, kit_ti, kit_tb, kit_ts, kit_tt, kit_ni, kit_nb, kit_ns, kit_nt, kit_li, kit_lb, kit_ls, kit_lt, eq_self]
            refine rest _ _ _ _ _ _ _ _ _ (fun _ _ h => h) ?_ hm1 hm2
            simp only [Pat.most, q1, q2, encO, Bool.false_eq_true, if_false]
  · rintro Γ M' ⟨x4, x5, x6, x7, x8, x9, x10, x11, x12, x13, x14, x15, x16, x17, x18, rfl, hI, hS, _, n1, n2, n3, told, t1, t2, t3⟩
    rw [rgD_len, Int.toNat_natCast] at t3
    have h0 := t3 0 p (by omega) hI.n0
    have : atI told 0 = some (encDue p) := atI_nat (j := 0) h0
    simp only [b__law_due_R3, dSeq, dAsg, dgN, dRet, dRetN, dIfS, dVar, gv_0, gv_s, sv_0, sv_s, dC, dOp, dB, asB_b, dAnd, dOr, dNot, dAndV, dOrV, dNotV, dIf, dTru, DTru, dCons, dNil, dTup, dLst, dCall, dCB, dFor, dDrop, dPart, dNo, dNext, dBreak, dCont, dPar, dgT, dgAll, ix_t0, ix_t1, ix_t2, ix_t3, ix_t4, eq_ss, eq_ii, eq_si, eq_is, eq_bb, ne_ss, ne_ii, ne_si, ne_is, ne_bb, add_ii, add_ss, add_tt, mul_ii, mul_ti, oI_ii, oI0_ii, oB0_ii, is_non, isnot_non, isNon_non, isNon_int, isNon_str, isNon_bl, isNon_tup, len_tup, len_fl, len_str, tuple_tup, int_i, int_b, abs_i, max_ii, min_ii, seq_ref, diR1, diR2, items_tup, items_fl, same, Option.some.injEq, exists_eq_left', exists_eq_left, true_and, and_true, if_true, if_false, ite_true, ite_false, Bool.false_eq_true, reduceIte, List.length_cons, List.length_nil, Nat.reduceAdd, Nat.zero_add, decide_true, decide_false, Bool.not_true, Bool.not_false, forall_const, forall_eq, sl_ref, dNeg, wipeG, wipeG.nv, dYes, cut_1, dLoop, wantI_some, wantL_some, wantK_some, wantB_some, mupd_app, ix_ref, ix_tupA, len_ref, tuple_ref, list_ref, list_tup, list_fl, mul_ref, add_ref, setL_ref, lm_ref, append_at, extend_ref, dget_ref, sum_ref, max_ref, min_ref, at_0, at_1, at_2, at_3, at_4, isi_eq, tyD_int, tyD_bl, tyD_str, tyD_tup, tyD_non, kit_ii, kit_ib, kit_is, kit_it, kit_bi, kit_bb, kit_bs, kit_bt, kit_si, kit_sb, kit_ss, kit_st, kit_ti, kit_tb, kit_ts, kit_tt, kit_ni, kit_nb, kit_ns, kit_nt, kit_li, kit_lb, kit_ls, kit_lt, eq_self, t1, this]
    exact Wk.of (q M' hS)
  · refine ⟨_, _, _, _, _, _, _, _, _, _, _, _, _, _, _, rfl, hI.sub (lt := lt) (fun x o n e => ?_) nt.symm (fun z => ?_) (fun h hh z => ?_), fun x o e => ?_, hMlt, nt.symm, fun z => ?_, fun h hh z => ?_, _, mupd_same, by simp, fun j n hj hn => ?_⟩
    · rw [mupd_ne n, mupd_ne (fresh_ne hlt0 e)]; exact e
    · rw [z, hparts] at hlt; cases hlt
    · obtain ⟨j, hj⟩ := List.mem_iff_getElem?.mp hh
      obtain ⟨h', cs, k1, k2, _⟩ := hI.kids j (by have := (List.getElem?_eq_some_iff.mp hj).1; rw [hI.len] at this; exact this)
      rw [hj] at k1; cases k1
      rw [z, hlt] at k2; cases k2
    · rw [mupd_ne (fresh_ne hlt (hS x o e)), mupd_ne (fresh_ne hlt0 (hS x o e))]; exact hS x o e
    · rw [z, hparts] at hlt; cases hlt
    · obtain ⟨j, hj⟩ := List.mem_iff_getElem?.mp hh
      obtain ⟨h', cs, k1, k2, _⟩ := hI.kids j (by have := (List.getElem?_eq_some_iff.mp hj).1; rw [hI.len] at this; exact this)
      rw [hj] at k1; cases k1
      rw [z, hlt] at k2; cases k2
    · have := (List.getElem?_eq_some_iff.mp hn).1
      omega
end Lw
end
section
set_option maxHeartbeats 4000000
/-! k07, part H: the comparison, the law. -/
namespace Lw
open PySem L2 DL

/-! ### _law_holds -/
def told5 (p : Pat) : List D := [.bl p.empty, .tup (p.names.map D.str), .int p.tests.length, .int p.depth, .tup [.int p.least, encO p.most]]
theorem holds_R6 {a lt : Addr} {p : Pat} {x7 x8 : Option D} {s1 s2 s3 s4 s5 s6 s7 : DSp} {F : DEnds} {M : Mp} (h : M lt = some (.lst (told5 p))) (q : F.rt (.bl true) M) :
    b__law_holds_R6 s1 s2 s3 s4 s5 s6 s7 sp__law_whole F [some (.ref a), some (enc p), some (.bl p.empty), some (.tup (p.names.map D.str)), some (.int p.tests.length), some (.int p.depth), some (.tup [.int p.least, encO p.most]), x7, x8, some (.ref lt)] M := by
  simp only [told5] at h
  simp only [b__law_holds_R6, dSeq, dAsg, dgN, dRet, dRetN, dIfS, dVar, gv_0, gv_s, sv_0, sv_s, dC, dOp, dB, asB_b, dAnd, dOr, dNot, dAndV, dOrV, dNotV, dIf, dTru, DTru, dCons, dNil, dTup, dLst, dCall, dCB, dFor, dDrop, dPart, dNo, dNext, dBreak, dCont, dPar, dgT, dgAll, ix_t0, ix_t1, ix_t2, ix_t3, ix_t4, eq_ss, eq_ii, eq_si, eq_is, eq_bb, ne_ss, ne_ii, ne_si, ne_is, ne_bb, add_ii, add_ss, add_tt, mul_ii, mul_ti, oI_ii, oI0_ii, oB0_ii, is_non, isnot_non, isNon_non, isNon_int, isNon_str, isNon_bl, isNon_tup, len_tup, len_fl, len_str, tuple_tup, int_i, int_b, abs_i, max_ii, min_ii, seq_ref, diR1, diR2, items_tup, items_fl, same, Option.some.injEq, exists_eq_left', exists_eq_left, true_and, and_true, if_true, if_false, ite_true, ite_false, Bool.false_eq_true, reduceIte, List.length_cons, List.length_nil, Nat.reduceAdd, Nat.zero_add, decide_true, decide_false, Bool.not_true, Bool.not_false, forall_const, forall_eq, sl_ref, dNeg, wipeG, wipeG.nv, dYes, cut_1, dLoop, wantI_some, wantL_some, wantK_some, wantB_some, mupd_app, ix_ref, ix_tupA, len_ref, tuple_ref, list_ref, list_tup, list_fl, mul_ref, add_ref, setL_ref, lm_ref, append_at, extend_ref, dget_ref, sum_ref, max_ref, min_ref, at_0, at_1, at_2, at_3, at_4, isi_eq, tyD_int, tyD_bl, tyD_str, tyD_tup, tyD_non, kit_ii, kit_ib, kit_is, kit_it, kit_bi, kit_bb, kit_bs, kit_bt, kit_si, kit_sb, kit_ss, kit_st, kit_ti, kit_tb, kit_ts, kit_tt, kit_ni, kit_nb, kit_ns, kit_nt, kit_li, kit_lb, kit_ls, kit_lt, eq_self, h, beq_self_eq_true]
  simp only [b__law_holds_R5, diZip, dSeq, dAsg, dgN, dRet, dRetN, dIfS, dVar, gv_0, gv_s, sv_0, sv_s, dC, dOp, dB, asB_b, dAnd, dOr, dNot, dAndV, dOrV, dNotV, dIf, dTru, DTru, dCons, dNil, dTup, dLst, dCall, dCB, dFor, dDrop, dPart, dNo, dNext, dBreak, dCont, dPar, dgT, dgAll, ix_t0, ix_t1, ix_t2, ix_t3, ix_t4, eq_ss, eq_ii, eq_si, eq_is, eq_bb, ne_ss, ne_ii, ne_si, ne_is, ne_bb, add_ii, add_ss, add_tt, mul_ii, mul_ti, oI_ii, oI0_ii, oB0_ii, is_non, isnot_non, isNon_non, isNon_int, isNon_str, isNon_bl, isNon_tup, len_tup, len_fl, len_str, tuple_tup, int_i, int_b, abs_i, max_ii, min_ii, seq_ref, diR1, diR2, items_tup, items_fl, same, Option.some.injEq, exists_eq_left', exists_eq_left, true_and, and_true, if_true, if_false, ite_true, ite_false, Bool.false_eq_true, reduceIte, List.length_cons, List.length_nil, Nat.reduceAdd, Nat.zero_add, decide_true, decide_false, Bool.not_true, Bool.not_false, forall_const, forall_eq, sl_ref, dNeg, wipeG, wipeG.nv, dYes, cut_1, dLoop, wantI_some, wantL_some, wantK_some, wantB_some, mupd_app, ix_ref, ix_tupA, len_ref, tuple_ref, list_ref, list_tup, list_fl, mul_ref, add_ref, setL_ref, lm_ref, append_at, extend_ref, dget_ref, sum_ref, max_ref, min_ref, at_0, at_1, at_2, at_3, at_4, isi_eq, tyD_int, tyD_bl, tyD_str, tyD_tup, tyD_non, kit_ii, kit_ib, kit_is, kit_it, kit_bi, kit_bb, kit_bs, kit_bt, kit_si, kit_sb, kit_ss, kit_st, kit_ti, kit_tb, kit_ts, kit_tt, kit_ni, kit_nb, kit_ns, kit_nt, kit_li, kit_lb, kit_ls, kit_lt, eq_self, h]
  refine dLoop_inv (fun i Γ M' => ∃ x7 x8 : Option D, Γ = [some (.ref a), some (enc p), some (.bl p.empty), some (.tup (p.names.map D.str)), some (.int p.tests.length), some (.int p.depth), some (.tup [.int p.least, encO p.most]), x7, x8, some (.ref lt)] ∧ M' = M) ?_ ?_ ⟨_, _, rfl, rfl⟩
  · rintro i d Γ M' N hi ⟨x7, x8, rfl, rfl⟩ hN
    obtain ⟨x, y, e1, e2, rfl⟩ := zipD_get hi
    rw [e1] at e2; cases e2
    rw [List.getElem?_map] at e1
    cases e : p.names[i]? with
    | none => rw [e] at e1; cases e1
    | some n =>
      rw [e] at e1; cases e1
      simp only [b__law_holds_L1, dSeq, dAsg, dgN, dRet, dRetN, dIfS, dVar, gv_0, gv_s, sv_0, sv_s, dC, dOp, dB, asB_b, dAnd, dOr, dNot, dAndV, dOrV, dNotV, dIf, dTru, DTru, dCons, dNil, dTup, dLst, dCall, dCB, dFor, dDrop, dPart, dNo, dNext, dBreak, dCont, dPar, dgT, dgAll, ix_t0, ix_t1, ix_t2, ix_t3, ix_t4, eq_ss, eq_ii, eq_si, eq_is, eq_bb, ne_ss, ne_ii, ne_si, ne_is, ne_bb, add_ii, add_ss, add_tt, mul_ii, mul_ti, oI_ii, oI0_ii, oB0_ii, is_non, isnot_non, isNon_non, isNon_int, isNon_str, isNon_bl, isNon_tup, len_tup, len_fl, len_str, tuple_tup, int_i, int_b, abs_i, max_ii, min_ii, seq_ref, diR1, diR2, items_tup, items_fl, same, Option.some.injEq, exists_eq_left', exists_eq_left, true_and, and_true, if_true, if_false, ite_true, ite_false, Bool.false_eq_true, reduceIte, List.length_cons, List.length_nil, Nat.reduceAdd, Nat.zero_add, decide_true, decide_false, Bool.not_true, Bool.not_false, forall_const, forall_eq, sl_ref, dNeg, wipeG, wipeG.nv, dYes, cut_1, dLoop, wantI_some, wantL_some, wantK_some, wantB_some, mupd_app, ix_ref, ix_tupA, len_ref, tuple_ref, list_ref, list_tup, list_fl, mul_ref, add_ref, setL_ref, lm_ref, append_at, extend_ref, dget_ref, sum_ref, max_ref, min_ref, at_0, at_1, at_2, at_3, at_4, isi_eq, tyD_int, tyD_bl, tyD_str, tyD_tup, tyD_non, kit_ii, kit_ib, kit_is, kit_it, kit_bi, kit_bb, kit_bs, kit_bt, kit_si, kit_sb, kit_ss, kit_st, kit_ti, kit_tb, kit_ts, kit_tt, kit_ni, kit_nb, kit_ns, kit_nt, kit_li, kit_lb, kit_ls, kit_lt, eq_self]
      exact hN _ _ ⟨_, _, rfl, rfl⟩
  · rintro Γ M' ⟨x7, x8, rfl, rfl⟩
    have hw : ∀ (i : Int) (Q : DK) (E : DXK), sp__law_whole [.int i] M' Q E = Q (.bl true) M' := fun i Q E => propext ⟨fun ⟨d, e, z⟩ => by cases e; exact z, fun z => ⟨_, rfl, z⟩⟩
    simp only [b__law_holds_R4, b__law_holds_R3, b__law_holds_R2, b__law_holds_R1, dSeq, dAsg, dgN, dRet, dRetN, dIfS, dVar, gv_0, gv_s, sv_0, sv_s, dC, dOp, dB, asB_b, dAnd, dOr, dNot, dAndV, dOrV, dNotV, dIf, dTru, DTru, dCons, dNil, dTup, dLst, dCall, dCB, dFor, dDrop, dPart, dNo, dNext, dBreak, dCont, dPar, dgT, dgAll, ix_t0, ix_t1, ix_t2, ix_t3, ix_t4, eq_ss, eq_ii, eq_si, eq_is, eq_bb, ne_ss, ne_ii, ne_si, ne_is, ne_bb, add_ii, add_ss, add_tt, mul_ii, mul_ti, oI_ii, oI0_ii, oB0_ii, is_non, isnot_non, isNon_non, isNon_int, isNon_str, isNon_bl, isNon_tup, len_tup, len_fl, len_str, tuple_tup, int_i, int_b, abs_i, max_ii, min_ii, seq_ref, diR1, diR2, items_tup, items_fl, same, Option.some.injEq, exists_eq_left', exists_eq_left, true_and, and_true, if_true, if_false, ite_true, ite_false, Bool.false_eq_true, reduceIte, List.length_cons, List.length_nil, Nat.reduceAdd, Nat.zero_add, decide_true, decide_false, Bool.not_true, Bool.not_false, forall_const, forall_eq, sl_ref, dNeg, wipeG, wipeG.nv, dYes, cut_1, dLoop, wantI_some, wantL_some, wantK_some, wantB_some, mupd_app, ix_ref, ix_tupA, len_ref, tuple_ref, list_ref, list_tup, list_fl, mul_ref, add_ref, setL_ref, lm_ref, append_at, extend_ref, dget_ref, sum_ref, max_ref, min_ref, at_0, at_1, at_2, at_3, at_4, isi_eq, tyD_int, tyD_bl, tyD_str, tyD_tup, tyD_non, kit_ii, kit_ib, kit_is, kit_it, kit_bi, kit_bb, kit_bs, kit_bt, kit_si, kit_sb, kit_ss, kit_st, kit_ti, kit_tb, kit_ts, kit_tt, kit_ni, kit_nb, kit_ns, kit_nt, kit_li, kit_lb, kit_ls, kit_lt, eq_self, h, hw, beq_self_eq_true]
    have l2 : (((2 : Nat) : Int) == 2) = true := rfl
    cases e : p.most with
    | none => simp only [encO, dSeq, dAsg, dgN, dRet, dRetN, dIfS, dVar, gv_0, gv_s, sv_0, sv_s, dC, dOp, dB, asB_b, dAnd, dOr, dNot, dAndV, dOrV, dNotV, dIf, dTru, DTru, dCons, dNil, dTup, dLst, dCall, dCB, dFor, dDrop, dPart, dNo, dNext, dBreak, dCont, dPar, dgT, dgAll, ix_t0, ix_t1, ix_t2, ix_t3, ix_t4, eq_ss, eq_ii, eq_si, eq_is, eq_bb, ne_ss, ne_ii, ne_si, ne_is, ne_bb, add_ii, add_ss, add_tt, mul_ii, mul_ti, oI_ii, oI0_ii, oB0_ii, is_non, isnot_non, isNon_non, isNon_int, isNon_str, isNon_bl, isNon_tup, len_tup, len_fl, len_str, tuple_tup, int_i, int_b, abs_i, max_ii, min_ii, seq_ref, diR1, diR2, items_tup, items_fl, same, Option.some.injEq, exists_eq_left', exists_eq_left, true_and, and_true, if_true, if_false, ite_true, ite_false, Bool.false_eq_true, reduceIte, List.length_cons, List.length_nil, Nat.reduceAdd, Nat.zero_add, decide_true, decide_false, Bool.not_true, Bool.not_false, forall_const, forall_eq, sl_ref, dNeg, wipeG, wipeG.nv, dYes, cut_1, dLoop, wantI_some, wantL_some, wantK_some, wantB_some, mupd_app, ix_ref, ix_tupA, len_ref, tuple_ref, list_ref, list_tup, list_fl, mul_ref, add_ref, setL_ref, lm_ref, append_at, extend_ref, dget_ref, sum_ref, max_ref, min_ref, at_0, at_1, at_2, at_3, at_4, isi_eq, tyD_int, tyD_bl, tyD_str, tyD_tup, tyD_non, kit_ii, kit_ib, kit_is, kit_it, kit_bi, kit_bb, kit_bs, kit_bt, kit_si, kit_sb, kit_ss, kit_st, kit_ti, kit_tb, kit_ts, kit_tt, kit_ni, kit_nb, kit_ns, kit_nt, kit_li, kit_lb, kit_ls, kit_lt, eq_self, hw, l2, h, e, beq_self_eq_true]; exact q
    | some i => simp only [encO, dSeq, dAsg, dgN, dRet, dRetN, dIfS, dVar, gv_0, gv_s, sv_0, sv_s, dC, dOp, dB, asB_b, dAnd, dOr, dNot, dAndV, dOrV, dNotV, dIf, dTru, DTru, dCons, dNil, dTup, dLst, dCall, dCB, dFor, dDrop, dPart, dNo, dNext, dBreak, dCont, dPar, dgT, dgAll, ix_t0, ix_t1, ix_t2, ix_t3, ix_t4, eq_ss, eq_ii, eq_si, eq_is, eq_bb, ne_ss, ne_ii, ne_si, ne_is, ne_bb, add_ii, add_ss, add_tt, mul_ii, mul_ti, oI_ii, oI0_ii, oB0_ii, is_non, isnot_non, isNon_non, isNon_int, isNon_str, isNon_bl, isNon_tup, len_tup, len_fl, len_str, tuple_tup, int_i, int_b, abs_i, max_ii, min_ii, seq_ref, diR1, diR2, items_tup, items_fl, same, Option.some.injEq, exists_eq_left', exists_eq_left, true_and, and_true, if_true, if_false, ite_true, ite_false, Bool.false_eq_true, reduceIte, List.length_cons, List.length_nil, Nat.reduceAdd, Nat.zero_add, decide_true, decide_false, Bool.not_true, Bool.not_false, forall_const, forall_eq, sl_ref, dNeg, wipeG, wipeG.nv, dYes, cut_1, dLoop, wantI_some, wantL_some, wantK_some, wantB_some, mupd_app, ix_ref, ix_tupA, len_ref, tuple_ref, list_ref, list_tup, list_fl, mul_ref, add_ref, setL_ref, lm_ref, append_at, extend_ref, dget_ref, sum_ref, max_ref, min_ref, at_0, at_1, at_2, at_3, at_4, isi_eq, tyD_int, tyD_bl, tyD_str, tyD_tup, tyD_non, kit_ii, kit_ib, kit_is, kit_it, kit_bi, kit_bb, kit_bs, kit_bt, kit_si, kit_sb, kit_ss, kit_st, kit_ti, kit_tb, kit_ts, kit_tt, kit_ni, kit_nb, kit_ns, kit_nt, kit_li, kit_lb, kit_ls, kit_lt, eq_self, hw, l2, h, e, beq_self_eq_true]; exact q

def sp__law_holds : DSp := fun ds M Q _ => ∃ (a b : Addr) (p : Pat), ds = [.ref a, enc p] ∧ Drum M a b ∧ p.few ∧ p.depth ≤ 45 ∧ p.many ≤ 1999 ∧ ∀ M', Drum M' a b → Fr a b M M' → Q (.bl true) M'
theorem ln__law_holds : ∀ ds M Q E, sp__law_holds ds M Q E → ds.length = 2 := fun _ _ _ _ ⟨_, _, _, h, _⟩ => by rw [h]; rfl
theorem hs__law_holds : ∀ ds M Q E, sp__law_holds ds M Q E → b__law_holds sp__law_due sp__law_pull (sp_matches_empty 45) sp_names_of sp_pattern_size (sp_pattern_depth 45) (sp_sequence_of 45) sp__law_whole { nx := fun _ M' => Wk Q .non M', rt := Wk Q } (startG N__law_holds ds) M := by
  rintro ds M Q E ⟨a, b, p, rfl, hD, hf, hd, hm, q⟩
  show b__law_holds _ _ _ _ _ _ _ _ _ [some (.ref a), some (enc p), none, none, none, none, none, none, none, none] M
  simp only [b__law_holds, dSeq, dAsg, dgN, dRet, dRetN, dIfS, dVar, gv_0, gv_s, sv_0, sv_s, dC, dOp, dB, asB_b, dAnd, dOr, dNot, dAndV, dOrV, dNotV, dIf, dTru, DTru, dCons, dNil, dTup, dLst, dCall, dCB, dFor, dDrop, dPart, dNo, dNext, dBreak, dCont, dPar, dgT, dgAll, ix_t0, ix_t1, ix_t2, ix_t3, ix_t4, eq_ss, eq_ii, eq_si, eq_is, eq_bb, ne_ss, ne_ii, ne_si, ne_is, ne_bb, add_ii, add_ss, add_tt, mul_ii, mul_ti, oI_ii, oI0_ii, oB0_ii, is_non, isnot_non, isNon_non, isNon_int, isNon_str, isNon_bl, isNon_tup, len_tup, len_fl, len_str, tuple_tup, int_i, int_b, abs_i, max_ii, min_ii, seq_ref, diR1, diR2, items_tup, items_fl, same, Option.some.injEq, exists_eq_left', exists_eq_left, true_and, and_true, if_true, if_false, ite_true, ite_false, Bool.false_eq_true, reduceIte, List.length_cons, List.length_nil, Nat.reduceAdd, Nat.zero_add, decide_true, decide_false, Bool.not_true, Bool.not_false, forall_const, forall_eq, sl_ref, dNeg, wipeG, wipeG.nv, dYes, cut_1, dLoop, wantI_some, wantL_some, wantK_some, wantB_some, mupd_app, ix_ref, ix_tupA, len_ref, tuple_ref, list_ref, list_tup, list_fl, mul_ref, add_ref, setL_ref, lm_ref, append_at, extend_ref, dget_ref, sum_ref, max_ref, min_ref, at_0, at_1, at_2, at_3, at_4, isi_eq, tyD_int, tyD_bl, tyD_str, tyD_tup, tyD_non, kit_ii, kit_ib, kit_is, kit_it, kit_bi, kit_bb, kit_bs, kit_bt, kit_si, kit_sb, kit_ss, kit_st, kit_ti, kit_tb, kit_ts, kit_tt, kit_ni, kit_nb, kit_ns, kit_nt, kit_li, kit_lb, kit_ls, kit_lt, eq_self]
  refine ⟨p, rfl, hf, hm, fun M1 hS1 => ?_⟩
  simp only [encDue, dSeq, dAsg, dgN, dRet, dRetN, dIfS, dVar, gv_0, gv_s, sv_0, sv_s, dC, dOp, dB, asB_b, dAnd, dOr, dNot, dAndV, dOrV, dNotV, dIf, dTru, DTru, dCons, dNil, dTup, dLst, dCall, dCB, dFor, dDrop, dPart, dNo, dNext, dBreak, dCont, dPar, dgT, dgAll, ix_t0, ix_t1, ix_t2, ix_t3, ix_t4, eq_ss, eq_ii, eq_si, eq_is, eq_bb, ne_ss, ne_ii, ne_si, ne_is, ne_bb, add_ii, add_ss, add_tt, mul_ii, mul_ti, oI_ii, oI0_ii, oB0_ii, is_non, isnot_non, isNon_non, isNon_int, isNon_str, isNon_bl, isNon_tup, len_tup, len_fl, len_str, tuple_tup, int_i, int_b, abs_i, max_ii, min_ii, seq_ref, diR1, diR2, items_tup, items_fl, same, Option.some.injEq, exists_eq_left', exists_eq_left, true_and, and_true, if_true, if_false, ite_true, ite_false, Bool.false_eq_true, reduceIte, List.length_cons, List.length_nil, Nat.reduceAdd, Nat.zero_add, decide_true, decide_false, Bool.not_true, Bool.not_false, forall_const, forall_eq, sl_ref, dNeg, wipeG, wipeG.nv, dYes, cut_1, dLoop, wantI_some, wantL_some, wantK_some, wantB_some, mupd_app, ix_ref, ix_tupA, len_ref, tuple_ref, list_ref, list_tup, list_fl, mul_ref, add_ref, setL_ref, lm_ref, append_at, extend_ref, dget_ref, sum_ref, max_ref, min_ref, at_0, at_1, at_2, at_3, at_4, isi_eq, tyD_int, tyD_bl, tyD_str, tyD_tup, tyD_non, kit_ii, kit_ib, kit_is, kit_it, kit_bi, kit_bb, kit_bs, kit_bt, kit_si, kit_sb, kit_ss, kit_st, kit_ti, kit_tb, kit_ts, kit_tt, kit_ni, kit_nb, kit_ns, kit_nt, kit_li, kit_lb, kit_ls, kit_lt, eq_self]
  refine ⟨a, b, 2, rfl, hD.sub hS1, by decide, by decide, fun r M2 r0 r1 hD2 hF2 => ?_⟩
  have hF : Fr a b M M2 := fun x o h1 h2 h => hF2 x o h1 h2 (hS1 x o h)
  simp only [dSeq, dAsg, dgN, dRet, dRetN, dIfS, dVar, gv_0, gv_s, sv_0, sv_s, dC, dOp, dB, asB_b, dAnd, dOr, dNot, dAndV, dOrV, dNotV, dIf, dTru, DTru, dCons, dNil, dTup, dLst, dCall, dCB, dFor, dDrop, dPart, dNo, dNext, dBreak, dCont, dPar, dgT, dgAll, ix_t0, ix_t1, ix_t2, ix_t3, ix_t4, eq_ss, eq_ii, eq_si, eq_is, eq_bb, ne_ss, ne_ii, ne_si, ne_is, ne_bb, add_ii, add_ss, add_tt, mul_ii, mul_ti, oI_ii, oI0_ii, oB0_ii, is_non, isnot_non, isNon_non, isNon_int, isNon_str, isNon_bl, isNon_tup, len_tup, len_fl, len_str, tuple_tup, int_i, int_b, abs_i, max_ii, min_ii, seq_ref, diR1, diR2, items_tup, items_fl, same, Option.some.injEq, exists_eq_left', exists_eq_left, true_and, and_true, if_true, if_false, ite_true, ite_false, Bool.false_eq_true, reduceIte, List.length_cons, List.length_nil, Nat.reduceAdd, Nat.zero_add, decide_true, decide_false, Bool.not_true, Bool.not_false, forall_const, forall_eq, sl_ref, dNeg, wipeG, wipeG.nv, dYes, cut_1, dLoop, wantI_some, wantL_some, wantK_some, wantB_some, mupd_app, ix_ref, ix_tupA, len_ref, tuple_ref, list_ref, list_tup, list_fl, mul_ref, add_ref, setL_ref, lm_ref, append_at, extend_ref, dget_ref, sum_ref, max_ref, min_ref, at_0, at_1, at_2, at_3, at_4, isi_eq, tyD_int, tyD_bl, tyD_str, tyD_tup, tyD_non, kit_ii, kit_ib, kit_is, kit_it, kit_bi, kit_bb, kit_bs, kit_bt, kit_si, kit_sb, kit_ss, kit_st, kit_ti, kit_tb, kit_ts, kit_tt, kit_ni, kit_nb, kit_ns, kit_nt, kit_li, kit_lb, kit_ls, kit_lt, eq_self]
  refine ite_both ?_ ?_
  · simp only [b__law_holds_T1, dSeq, dAsg, dgN, dRet, dRetN, dIfS, dVar, gv_0, gv_s, sv_0, sv_s, dC, dOp, dB, asB_b, dAnd, dOr, dNot, dAndV, dOrV, dNotV, dIf, dTru, DTru, dCons, dNil, dTup, dLst, dCall, dCB, dFor, dDrop, dPart, dNo, dNext, dBreak, dCont, dPar, dgT, dgAll, ix_t0, ix_t1, ix_t2, ix_t3, ix_t4, eq_ss, eq_ii, eq_si, eq_is, eq_bb, ne_ss, ne_ii, ne_si, ne_is, ne_bb, add_ii, add_ss, add_tt, mul_ii, mul_ti, oI_ii, oI0_ii, oB0_ii, is_non, isnot_non, isNon_non, isNon_int, isNon_str, isNon_bl, isNon_tup, len_tup, len_fl, len_str, tuple_tup, int_i, int_b, abs_i, max_ii, min_ii, seq_ref, diR1, diR2, items_tup, items_fl, same, Option.some.injEq, exists_eq_left', exists_eq_left, true_and, and_true, if_true, if_false, ite_true, ite_false, Bool.false_eq_true, reduceIte, List.length_cons, List.length_nil, Nat.reduceAdd, Nat.zero_add, decide_true, decide_false, Bool.not_true, Bool.not_false, forall_const, forall_eq, sl_ref, dNeg, wipeG, wipeG.nv, dYes, cut_1, dLoop, wantI_some, wantL_some, wantK_some, wantB_some, mupd_app, ix_ref, ix_tupA, len_ref, tuple_ref, list_ref, list_tup, list_fl, mul_ref, add_ref, setL_ref, lm_ref, append_at, extend_ref, dget_ref, sum_ref, max_ref, min_ref, at_0, at_1, at_2, at_3, at_4, isi_eq, tyD_int, tyD_bl, tyD_str, tyD_tup, tyD_non, kit_ii, kit_ib, kit_is, kit_it, kit_bi, kit_bb, kit_bs, kit_bt, kit_si, kit_sb, kit_ss, kit_st, kit_ti, kit_tb, kit_ts, kit_tt, kit_ni, kit_nb, kit_ns, kit_nt, kit_li, kit_lb, kit_ls, kit_lt, eq_self]
    refine ⟨p, rfl, hd, p, rfl, hd, by omega, hf, p, rfl, hd, by omega, p, rfl, hd, p, rfl, hd, sz (by decide), fun l hl => ?_⟩
    exact holds_R6 (mupd_same) (Wk.of (q _ (hD2.new hl) (hF.new hl)))
  · simp only [b__law_holds_F1, dCallK, kD_0, kD_1, kD_2, kD_3, kD_4, dSeq, dAsg, dgN, dRet, dRetN, dIfS, dVar, gv_0, gv_s, sv_0, sv_s, dC, dOp, dB, asB_b, dAnd, dOr, dNot, dAndV, dOrV, dNotV, dIf, dTru, DTru, dCons, dNil, dTup, dLst, dCall, dCB, dFor, dDrop, dPart, dNo, dNext, dBreak, dCont, dPar, dgT, dgAll, ix_t0, ix_t1, ix_t2, ix_t3, ix_t4, eq_ss, eq_ii, eq_si, eq_is, eq_bb, ne_ss, ne_ii, ne_si, ne_is, ne_bb, add_ii, add_ss, add_tt, mul_ii, mul_ti, oI_ii, oI0_ii, oB0_ii, is_non, isnot_non, isNon_non, isNon_int, isNon_str, isNon_bl, isNon_tup, len_tup, len_fl, len_str, tuple_tup, int_i, int_b, abs_i, max_ii, min_ii, seq_ref, diR1, diR2, items_tup, items_fl, same, Option.some.injEq, exists_eq_left', exists_eq_left, true_and, and_true, if_true, if_false, ite_true, ite_false, Bool.false_eq_true, reduceIte, List.length_cons, List.length_nil, Nat.reduceAdd, Nat.zero_add, decide_true, decide_false, Bool.not_true, Bool.not_false, forall_const, forall_eq, sl_ref, dNeg, wipeG, wipeG.nv, dYes, cut_1, dLoop, wantI_some, wantL_some, wantK_some, wantB_some, mupd_app, ix_ref, ix_tupA, len_ref, tuple_ref, list_ref, list_tup, list_fl, mul_ref, add_ref, setL_ref, lm_ref, append_at, extend_ref, dget_ref, sum_ref, max_ref, min_ref, at_0, at_1, at_2, at_3, at_4, isi_eq, tyD_int, tyD_bl, tyD_str, tyD_tup, tyD_non, kit_ii, kit_ib, kit_is, kit_it, kit_bi, kit_bb, kit_bs, kit_bt, kit_si, kit_sb, kit_ss, kit_st, kit_ti, kit_tb, kit_ts, kit_tt, kit_ni, kit_nb, kit_ns, kit_nt, kit_li, kit_lb, kit_ls, kit_lt, eq_self]
    refine ⟨p, rfl, hd, p, rfl, hd, by omega, hf, p, rfl, hd, by omega, sz (by decide), fun l hl => ⟨p, rfl, hd, p, rfl, hd, sz (by decide), fun l2 hl2 => ?_⟩⟩
    obtain ⟨n2, hl2⟩ := none_if hl2
    simp only [dSeq, dAsg, dgN, dRet, dRetN, dIfS, dVar, gv_0, gv_s, sv_0, sv_s, dC, dOp, dB, asB_b, dAnd, dOr, dNot, dAndV, dOrV, dNotV, dIf, dTru, DTru, dCons, dNil, dTup, dLst, dCall, dCB, dFor, dDrop, dPart, dNo, dNext, dBreak, dCont, dPar, dgT, dgAll, ix_t0, ix_t1, ix_t2, ix_t3, ix_t4, eq_ss, eq_ii, eq_si, eq_is, eq_bb, ne_ss, ne_ii, ne_si, ne_is, ne_bb, add_ii, add_ss, add_tt, mul_ii, mul_ti, oI_ii, oI0_ii, oB0_ii, is_non, isnot_non, isNon_non, isNon_int, isNon_str, isNon_bl, isNon_tup, len_tup, len_fl, len_str, tuple_tup, int_i, int_b, abs_i, max_ii, min_ii, seq_ref, diR1, diR2, items_tup, items_fl, same, Option.some.injEq, exists_eq_left', exists_eq_left, true_and, and_true, if_true, if_false, ite_true, ite_false, Bool.false_eq_true, reduceIte, List.length_cons, List.length_nil, Nat.reduceAdd, Nat.zero_add, decide_true, decide_false, Bool.not_true, Bool.not_false, forall_const, forall_eq, sl_ref, dNeg, wipeG, wipeG.nv, dYes, cut_1, dLoop, wantI_some, wantL_some, wantK_some, wantB_some, mupd_app, ix_ref, ix_tupA, len_ref, tuple_ref, list_ref, list_tup, list_fl, mul_ref, add_ref, setL_ref, lm_ref, append_at, extend_ref, dget_ref, sum_ref, max_ref, min_ref, at_0, at_1, at_2, at_3, at_4, isi_eq, tyD_int, tyD_bl, tyD_str, tyD_tup, tyD_non, kit_ii, kit_ib, kit_is, kit_it, kit_bi, kit_bb, kit_bs, kit_bt, kit_si, kit_sb, kit_ss, kit_st, kit_ti, kit_tb, kit_ts, kit_tt, kit_ni, kit_nb, kit_ns, kit_nt, kit_li, kit_lb, kit_ls, kit_lt, eq_self, n2.symm, List.cons_append, List.nil_append]
    refine ⟨sz (by decide), fun l3 hl3 => ?_⟩
    obtain ⟨n3, hl3⟩ := none_if hl3
    obtain ⟨n31, hl3⟩ := none_if hl3
    refine holds_R6 mupd_same (Wk.of (q _ ?_ ?_))
    · exact ((hD2.new hl).upd (hD2.ne hl2).1 (hD2.ne hl2).2).upd (hD2.ne hl3).1 (hD2.ne hl3).2
    · exact hF.sub (.drop hl3 (.drop hl2 (.drop hl .refl)))

/-! ### law -/
def OkP (d : Nat) (p : Pat) : Prop := p.few ∧ p.depth ≤ d ∧ p.many ≤ 650
abbrev bR2 := b_law_R2 sp__law_drum sp__law_pattern sp__law_pull sp__law_chain sp__law_test sp__law_due sp__law_holds sp__law_nodes
theorem law_R2 {ds0 : D} {a b lr : Addr} {x3 x5 x6 x7 x8 x9 x10 : Option D} {great : Int} {ps : List Pat} {M : Mp} {F : DEnds} (hD : Drum M a b) (hr : M lr = some (.lst (ps.map enc))) (la : lr ≠ a) (lb : lr ≠ b) (hl : ps.length = 4) (hp : ∀ p ∈ ps, p.few ∧ p.depth ≤ 40 ∧ p.many ≤ 300) (q : ∀ M', F.rt (.bl true) M') :
    bR2 F [some ds0, some (.ref a), some (.ref lr), x3, some (.int great), x5, x6, x7, x8, x9, x10] M := by
  obtain ⟨p0, p1, p2, p3, rfl⟩ : ∃ p0 p1 p2 p3, ps = [p0, p1, p2, p3] := by
    match ps, hl with
    | [p0, p1, p2, p3], _ => exact ⟨_, _, _, _, rfl⟩
  simp only [List.mem_cons, List.not_mem_nil, or_false, forall_eq_or_imp, forall_eq] at hp
  obtain ⟨h0, h1, h2, h3⟩ := hp
  simp only [bR2, b_law_R2, dSeq, dAsg, dgN, dRet, dRetN, dIfS, dVar, gv_0, gv_s, sv_0, sv_s, dC, dOp, dB, asB_b, dAnd, dOr, dNot, dAndV, dOrV, dNotV, dIf, dTru, DTru, dCons, dNil, dTup, dLst, dCall, dCB, dFor, dDrop, dPart, dNo, dNext, dBreak, dCont, dPar, dgT, dgAll, ix_t0, ix_t1, ix_t2, ix_t3, ix_t4, eq_ss, eq_ii, eq_si, eq_is, eq_bb, ne_ss, ne_ii, ne_si, ne_is, ne_bb, add_ii, add_ss, add_tt, mul_ii, mul_ti, oI_ii, oI0_ii, oB0_ii, is_non, isnot_non, isNon_non, isNon_int, isNon_str, isNon_bl, isNon_tup, len_tup, len_fl, len_str, tuple_tup, int_i, int_b, abs_i, max_ii, min_ii, seq_ref, diR1, diR2, items_tup, items_fl, same, Option.some.injEq, exists_eq_left', exists_eq_left, true_and, and_true, if_true, if_false, ite_true, ite_false, Bool.false_eq_true, reduceIte, List.length_cons, List.length_nil, Nat.reduceAdd, Nat.zero_add, decide_true, decide_false, Bool.not_true, Bool.not_false, forall_const, forall_eq, sl_ref, dNeg, wipeG, wipeG.nv, dYes, cut_1, dLoop, wantI_some, wantL_some, wantK_some, wantB_some, mupd_app, ix_ref, ix_tupA, len_ref, tuple_ref, list_ref, list_tup, list_fl, mul_ref, add_ref, setL_ref, lm_ref, append_at, extend_ref, dget_ref, sum_ref, max_ref, min_ref, at_0, at_1, at_2, at_3, at_4, isi_eq, tyD_int, tyD_bl, tyD_str, tyD_tup, tyD_non, kit_ii, kit_ib, kit_is, kit_it, kit_bi, kit_bb, kit_bs, kit_bt, kit_si, kit_sb, kit_ss, kit_st, kit_ti, kit_tb, kit_ts, kit_tt, kit_ni, kit_nb, kit_ns, kit_nt, kit_li, kit_lb, kit_ls, kit_lt, eq_self]
  refine ⟨a, b, rfl, hD, fun ts M1 ht hD1 hF1 => ?_⟩
  have hr1 := hF1 lr _ la lb hr
  simp only [List.map] at hr1
  simp only [dSeq, dAsg, dgN, dRet, dRetN, dIfS, dVar, gv_0, gv_s, sv_0, sv_s, dC, dOp, dB, asB_b, dAnd, dOr, dNot, dAndV, dOrV, dNotV, dIf, dTru, DTru, dCons, dNil, dTup, dLst, dCall, dCB, dFor, dDrop, dPart, dNo, dNext, dBreak, dCont, dPar, dgT, dgAll, ix_t0, ix_t1, ix_t2, ix_t3, ix_t4, eq_ss, eq_ii, eq_si, eq_is, eq_bb, ne_ss, ne_ii, ne_si, ne_is, ne_bb, add_ii, add_ss, add_tt, mul_ii, mul_ti, oI_ii, oI0_ii, oB0_ii, is_non, isnot_non, isNon_non, isNon_int, isNon_str, isNon_bl, isNon_tup, len_tup, len_fl, len_str, tuple_tup, int_i, int_b, abs_i, max_ii, min_ii, seq_ref, diR1, diR2, items_tup, items_fl, same, Option.some.injEq, exists_eq_left', exists_eq_left, true_and, and_true, if_true, if_false, ite_true, ite_false, Bool.false_eq_true, reduceIte, List.length_cons, List.length_nil, Nat.reduceAdd, Nat.zero_add, decide_true, decide_false, Bool.not_true, Bool.not_false, forall_const, forall_eq, sl_ref, dNeg, wipeG, wipeG.nv, dYes, cut_1, dLoop, wantI_some, wantL_some, wantK_some, wantB_some, mupd_app, ix_ref, ix_tupA, len_ref, tuple_ref, list_ref, list_tup, list_fl, mul_ref, add_ref, setL_ref, lm_ref, append_at, extend_ref, dget_ref, sum_ref, max_ref, min_ref, at_0, at_1, at_2, at_3, at_4, isi_eq, tyD_int, tyD_bl, tyD_str, tyD_tup, tyD_non, kit_ii, kit_ib, kit_is, kit_it, kit_bi, kit_bb, kit_bs, kit_bt, kit_si, kit_sb, kit_ss, kit_st, kit_ti, kit_tb, kit_ts, kit_tt, kit_ni, kit_nb, kit_ns, kit_nt, kit_li, kit_lb, kit_ls, kit_lt, eq_self, hr1]
  refine ⟨sz (by decide), sz (by decide), sz (by decide), sz (by decide), sz (by decide), sz (by decide), fun l hl => ?_⟩
  have n1 := fresh_ne hl hr1
  obtain ⟨ex, hex, rest, hrest, hlen, hok⟩ : ∃ ex : List Pat, cutD [enc (Pat.test ts), D.tup [D.str ("again" : Str), enc (Pat.test ts)], D.tup [D.str ("then" : Str), D.tup [D.str ("again" : Str), enc (Pat.test ts)], enc p0], D.tup [D.str ("or" : Str), enc p1, D.tup [D.str ("again" : Str), enc p0]]] none (some (2 + 2 * if decide (great < 3) = true then 1 else 0)) = ex.map enc ∧ ∃ rest, ex = .test ts :: .again (.test ts) :: rest ∧ rest.length ≤ 2 ∧ ∀ p ∈ ex, OkP 42 p := by
    have o1 : OkP 42 (.test ts) := ⟨ht, by simp [Pat.depth], by simp [Pat.many]⟩
    have o2 : OkP 42 (.again (.test ts)) := ⟨ht, by simp [Pat.depth], by simp [Pat.many]⟩
    by_cases hg : decide (great < 3) = true
    · rw [if_pos hg]
      refine ⟨[.test ts, .again (.test ts), .bin false (.again (.test ts)) p0, .bin true p1 (.again p0)], cut_take _ 4, _, rfl, by simp, ?_⟩
      intro p hp
      simp only [List.mem_cons, List.not_mem_nil, or_false] at hp
      rcases hp with hp | hp | hp | hp <;> subst hp
      · exact o1
      · exact o2
      · exact ⟨⟨ht, h0.1⟩, by simp only [Pat.depth]; omega, by simp only [Pat.many]; omega⟩
      · exact ⟨⟨h1.1, h0.1⟩, by simp only [Pat.depth]; omega, by simp only [Pat.many]; omega⟩
    · rw [if_neg hg]
      refine ⟨[.test ts, .again (.test ts)], cut_take _ 2, _, rfl, by simp, ?_⟩
      intro p hp
      simp only [List.mem_cons, List.not_mem_nil, or_false] at hp
      rcases hp with hp | hp <;> subst hp
      · exact o1
      · exact o2
  simp only [hex]
  refine ⟨.inl (.inl (by decide)), fun l2 hl2 => ?_⟩
  obtain ⟨n2, hl2⟩ := none_if hl2
  have n3 := fresh_ne hl2 hr1
  simp only [n1, n3, dSeq, dAsg, dgN, dRet, dRetN, dIfS, dVar, gv_0, gv_s, sv_0, sv_s, dC, dOp, dB, asB_b, dAnd, dOr, dNot, dAndV, dOrV, dNotV, dIf, dTru, DTru, dCons, dNil, dTup, dLst, dCall, dCB, dFor, dDrop, dPart, dNo, dNext, dBreak, dCont, dPar, dgT, dgAll, ix_t0, ix_t1, ix_t2, ix_t3, ix_t4, eq_ss, eq_ii, eq_si, eq_is, eq_bb, ne_ss, ne_ii, ne_si, ne_is, ne_bb, add_ii, add_ss, add_tt, mul_ii, mul_ti, oI_ii, oI0_ii, oB0_ii, is_non, isnot_non, isNon_non, isNon_int, isNon_str, isNon_bl, isNon_tup, len_tup, len_fl, len_str, tuple_tup, int_i, int_b, abs_i, max_ii, min_ii, seq_ref, diR1, diR2, items_tup, items_fl, same, Option.some.injEq, exists_eq_left', exists_eq_left, true_and, and_true, if_true, if_false, ite_true, ite_false, Bool.false_eq_true, reduceIte, List.length_cons, List.length_nil, Nat.reduceAdd, Nat.zero_add, decide_true, decide_false, Bool.not_true, Bool.not_false, forall_const, forall_eq, sl_ref, dNeg, wipeG, wipeG.nv, dYes, cut_1, dLoop, wantI_some, wantL_some, wantK_some, wantB_some, mupd_app, ix_ref, ix_tupA, len_ref, tuple_ref, list_ref, list_tup, list_fl, mul_ref, add_ref, setL_ref, lm_ref, append_at, extend_ref, dget_ref, sum_ref, max_ref, min_ref, at_0, at_1, at_2, at_3, at_4, isi_eq, tyD_int, tyD_bl, tyD_str, tyD_tup, tyD_non, kit_ii, kit_ib, kit_is, kit_it, kit_bi, kit_bb, kit_bs, kit_bt, kit_si, kit_sb, kit_ss, kit_st, kit_ti, kit_tb, kit_ts, kit_tt, kit_ni, kit_nb, kit_ns, kit_nt, kit_li, kit_lb, kit_ls, kit_lt, eq_self, List.length_map]
  refine ⟨sz (by rw [hrest]; simp only [List.length_cons]; omega), fun l3 hl3 => ⟨sz (by decide), fun l4 hl4 => ?_⟩⟩
  obtain ⟨n4, hl3⟩ := none_if hl3
  obtain ⟨n5, hl3⟩ := none_if hl3
  obtain ⟨n6, hl4⟩ := none_if hl4
  obtain ⟨n7, hl4⟩ := none_if hl4
  obtain ⟨n8, hl4⟩ := none_if hl4
  have e : [enc p0, enc p1, enc p2, enc p3] ++ List.map enc ex = ([p0, p1, p2, p3] ++ ex).map enc := rfl
  simp only [n6.symm, dSeq, dAsg, dgN, dRet, dRetN, dIfS, dVar, gv_0, gv_s, sv_0, sv_s, dC, dOp, dB, asB_b, dAnd, dOr, dNot, dAndV, dOrV, dNotV, dIf, dTru, DTru, dCons, dNil, dTup, dLst, dCall, dCB, dFor, dDrop, dPart, dNo, dNext, dBreak, dCont, dPar, dgT, dgAll, ix_t0, ix_t1, ix_t2, ix_t3, ix_t4, eq_ss, eq_ii, eq_si, eq_is, eq_bb, ne_ss, ne_ii, ne_si, ne_is, ne_bb, add_ii, add_ss, add_tt, mul_ii, mul_ti, oI_ii, oI0_ii, oB0_ii, is_non, isnot_non, isNon_non, isNon_int, isNon_str, isNon_bl, isNon_tup, len_tup, len_fl, len_str, tuple_tup, int_i, int_b, abs_i, max_ii, min_ii, seq_ref, diR1, diR2, items_tup, items_fl, same, Option.some.injEq, exists_eq_left', exists_eq_left, true_and, and_true, if_true, if_false, ite_true, ite_false, Bool.false_eq_true, reduceIte, List.length_cons, List.length_nil, Nat.reduceAdd, Nat.zero_add, decide_true, decide_false, Bool.not_true, Bool.not_false, forall_const, forall_eq, sl_ref, dNeg, wipeG, wipeG.nv, dYes, cut_1, dLoop, wantI_some, wantL_some, wantK_some, wantB_some, mupd_app, ix_ref, ix_tupA, len_ref, tuple_ref, list_ref, list_tup, list_fl, mul_ref, add_ref, setL_ref, lm_ref, append_at, extend_ref, dget_ref, sum_ref, max_ref, min_ref, at_0, at_1, at_2, at_3, at_4, isi_eq, tyD_int, tyD_bl, tyD_str, tyD_tup, tyD_non, kit_ii, kit_ib, kit_is, kit_it, kit_bi, kit_bb, kit_bs, kit_bt, kit_si, kit_sb, kit_ss, kit_st, kit_ti, kit_tb, kit_ts, kit_tt, kit_ni, kit_nb, kit_ns, kit_nt, kit_li, kit_lb, kit_ls, kit_lt, eq_self]
  rw [e]
  have hqs : ∀ p ∈ [p0, p1, p2, p3] ++ ex, OkP 42 p := fun p hp => by
    rcases List.mem_append.mp hp with hp | hp
    · simp only [List.mem_cons, List.not_mem_nil, or_false] at hp
      rcases hp with hp | hp | hp | hp <;> subst hp
      · exact ⟨h0.1, by omega, by omega⟩
      · exact ⟨h1.1, by omega, by omega⟩
      · exact ⟨h2.1, by omega, by omega⟩
      · exact ⟨h3.1, by omega, by omega⟩
    · exact hok p hp
  have hq4 : ([p0, p1, p2, p3] ++ ex)[4]? = some (.test ts) := by rw [hrest]; rfl
  have hq5 : ([p0, p1, p2, p3] ++ ex)[5]? = some (.again (.test ts)) := by rw [hrest]; rfl
  have hq3 : ([p0, p1, p2, p3] ++ ex)[3]? = some p3 := rfl
  have ha3 : l3 ≠ a ∧ l3 ≠ b := hD1.ne hl3
  have ha4 : l4 ≠ a ∧ l4 ≠ b := hD1.ne hl4
  refine dLoop_inv (fun i Γ M' => ∃ (x7 x8 x9 x10 : Option D) (x y : Int), Γ = [some ds0, some (.ref a), some (.ref l3), x3, some (.int great), some (enc (.test ts)), some (.ref l4), x7, x8, x9, x10] ∧ Drum M' a b ∧ M' l3 = some (.lst (([p0, p1, p2, p3] ++ ex).map enc)) ∧ M' l4 = some (.lst [.int x, .int y]) ∧ 0 ≤ x ∧ 0 ≤ y ∧ (4 < i → 0 < x) ∧ (5 < i → 0 < y)) ?_ ?_ ?_
  · rintro i d Γ M' N hi ⟨x7, x8, x9, x10, x, y, rfl, hD', m3, m4, k1, k2, k3, k4⟩ hN
    rw [List.getElem?_map] at hi
    obtain ⟨p, hp, rfl⟩ : ∃ p, ([p0, p1, p2, p3] ++ ex)[i]? = some p ∧ d = enc p := by
      cases e : ([p0, p1, p2, p3] ++ ex)[i]? with
      | none => rw [e] at hi; cases hi
      | some p => rw [e] at hi; cases hi; exact ⟨p, rfl, rfl⟩
    have hok := hqs p (List.mem_of_getElem? hp)
    refine ⟨m3, ?_⟩
    simp only [b_law_L2, dSeq, dAsg, dgN, dRet, dRetN, dIfS, dVar, gv_0, gv_s, sv_0, sv_s, dC, dOp, dB, asB_b, dAnd, dOr, dNot, dAndV, dOrV, dNotV, dIf, dTru, DTru, dCons, dNil, dTup, dLst, dCall, dCB, dFor, dDrop, dPart, dNo, dNext, dBreak, dCont, dPar, dgT, dgAll, ix_t0, ix_t1, ix_t2, ix_t3, ix_t4, eq_ss, eq_ii, eq_si, eq_is, eq_bb, ne_ss, ne_ii, ne_si, ne_is, ne_bb, add_ii, add_ss, add_tt, mul_ii, mul_ti, oI_ii, oI0_ii, oB0_ii, is_non, isnot_non, isNon_non, isNon_int, isNon_str, isNon_bl, isNon_tup, len_tup, len_fl, len_str, tuple_tup, int_i, int_b, abs_i, max_ii, min_ii, seq_ref, diR1, diR2, items_tup, items_fl, same, Option.some.injEq, exists_eq_left', exists_eq_left, true_and, and_true, if_true, if_false, ite_true, ite_false, Bool.false_eq_true, reduceIte, List.length_cons, List.length_nil, Nat.reduceAdd, Nat.zero_add, decide_true, decide_false, Bool.not_true, Bool.not_false, forall_const, forall_eq, sl_ref, dNeg, wipeG, wipeG.nv, dYes, cut_1, dLoop, wantI_some, wantL_some, wantK_some, wantB_some, mupd_app, ix_ref, ix_tupA, len_ref, tuple_ref, list_ref, list_tup, list_fl, mul_ref, add_ref, setL_ref, lm_ref, append_at, extend_ref, dget_ref, sum_ref, max_ref, min_ref, at_0, at_1, at_2, at_3, at_4, isi_eq, tyD_int, tyD_bl, tyD_str, tyD_tup, tyD_non, kit_ii, kit_ib, kit_is, kit_it, kit_bi, kit_bb, kit_bs, kit_bt, kit_si, kit_sb, kit_ss, kit_st, kit_ti, kit_tb, kit_ts, kit_tt, kit_ni, kit_nb, kit_ns, kit_nt, kit_li, kit_lb, kit_ls, kit_lt, eq_self, m4]
    have hlow : ∀ (x' y' : Int) M2, Drum M2 a b → Fr a b M' M2 → 0 ≤ x' → 0 ≤ y' → (4 < i + 1 → 0 < x') → (5 < i + 1 → 0 < y') → sp__law_holds [D.ref a, enc p] (mupd M2 l4 (.lst [.int x', .int y'])) (fun d M3 => d = .bl true ∧ N [some ds0, some (.ref a), some (.ref l3), x3, some (.int great), some (enc (.test ts)), some (.ref l4), some (enc p), x8, x9, x10] M3) E0d := fun x' y' M2 hD2 hF2 g1 g2 g3 g4 => by
      refine ⟨a, b, p, rfl, hD2.upd ha4.1 ha4.2, hok.1, by have := hok.2.1; omega, by have := hok.2.2; omega, fun M3 hD3 hF3 => ⟨rfl, hN _ _ ⟨_, _, _, _, x', y', rfl, hD3, hF3 _ _ ha3.1 ha3.2 ?_, hF3 _ _ ha4.1 ha4.2 mupd_same, g1, g2, g3, g4⟩⟩⟩
      rw [mupd_ne n6.symm]; exact hF2 _ _ ha3.1 ha3.2 m3
    have hmono : ∀ {K1 K2 : DK} {M2 : Mp}, sp__law_holds [D.ref a, enc p] M2 K1 E0d → (∀ d M3, K1 d M3 → K2 d M3) → sp__law_holds [D.ref a, enc p] M2 K2 E0d := fun ⟨a', b', p', e1, e2, e3, e4, e5, e6⟩ h => ⟨a', b', p', e1, e2, e3, e4, e5, fun M' h1 h2 => h _ _ (e6 M' h1 h2)⟩
    refine ⟨p, rfl, hok.1, by have := hok.2.2; omega, fun M2 hS2 => ?_⟩
    have hfr : Fr a b M' M2 := fun x o _ _ e => hS2 x o e
    have hl4 := hS2 _ _ m4
    have e2 : ixN 2 1 = some 1 := by decide
    have e3 : ixN 2 0 = some 0 := by decide
    cases he : p.empty with
    | true =>
      simp only [encDue, he, dSeq, dAsg, dgN, dRet, dRetN, dIfS, dVar, gv_0, gv_s, sv_0, sv_s, dC, dOp, dB, asB_b, dAnd, dOr, dNot, dAndV, dOrV, dNotV, dIf, dTru, DTru, dCons, dNil, dTup, dLst, dCall, dCB, dFor, dDrop, dPart, dNo, dNext, dBreak, dCont, dPar, dgT, dgAll, ix_t0, ix_t1, ix_t2, ix_t3, ix_t4, eq_ss, eq_ii, eq_si, eq_is, eq_bb, ne_ss, ne_ii, ne_si, ne_is, ne_bb, add_ii, add_ss, add_tt, mul_ii, mul_ti, oI_ii, oI0_ii, oB0_ii, is_non, isnot_non, isNon_non, isNon_int, isNon_str, isNon_bl, isNon_tup, len_tup, len_fl, len_str, tuple_tup, int_i, int_b, abs_i, max_ii, min_ii, seq_ref, diR1, diR2, items_tup, items_fl, same, Option.some.injEq, exists_eq_left', exists_eq_left, true_and, and_true, if_true, if_false, ite_true, ite_false, Bool.false_eq_true, reduceIte, List.length_cons, List.length_nil, Nat.reduceAdd, Nat.zero_add, decide_true, decide_false, Bool.not_true, Bool.not_false, forall_const, forall_eq, sl_ref, dNeg, wipeG, wipeG.nv, dYes, cut_1, dLoop, wantI_some, wantL_some, wantK_some, wantB_some, mupd_app, ix_ref, ix_tupA, len_ref, tuple_ref, list_ref, list_tup, list_fl, mul_ref, add_ref, setL_ref, lm_ref, append_at, extend_ref, dget_ref, sum_ref, max_ref, min_ref, at_0, at_1, at_2, at_3, at_4, isi_eq, tyD_int, tyD_bl, tyD_str, tyD_tup, tyD_non, kit_ii, kit_ib, kit_is, kit_it, kit_bi, kit_bb, kit_bs, kit_bt, kit_si, kit_sb, kit_ss, kit_st, kit_ti, kit_tb, kit_ts, kit_tt, kit_ni, kit_nb, kit_ns, kit_nt, kit_li, kit_lb, kit_ls, kit_lt, eq_self, hl4]
      refine ⟨p, rfl, hok.1, by have := hok.2.2; omega, fun M3 hS3 => ?_⟩
      have hl4' := hS3 _ _ hl4
      simp only [encDue, he, dSeq, dAsg, dgN, dRet, dRetN, dIfS, dVar, gv_0, gv_s, sv_0, sv_s, dC, dOp, dB, asB_b, dAnd, dOr, dNot, dAndV, dOrV, dNotV, dIf, dTru, DTru, dCons, dNil, dTup, dLst, dCall, dCB, dFor, dDrop, dPart, dNo, dNext, dBreak, dCont, dPar, dgT, dgAll, ix_t0, ix_t1, ix_t2, ix_t3, ix_t4, eq_ss, eq_ii, eq_si, eq_is, eq_bb, ne_ss, ne_ii, ne_si, ne_is, ne_bb, add_ii, add_ss, add_tt, mul_ii, mul_ti, oI_ii, oI0_ii, oB0_ii, is_non, isnot_non, isNon_non, isNon_int, isNon_str, isNon_bl, isNon_tup, len_tup, len_fl, len_str, tuple_tup, int_i, int_b, abs_i, max_ii, min_ii, seq_ref, diR1, diR2, items_tup, items_fl, same, Option.some.injEq, exists_eq_left', exists_eq_left, true_and, and_true, if_true, if_false, ite_true, ite_false, Bool.false_eq_true, reduceIte, List.length_cons, List.length_nil, Nat.reduceAdd, Nat.zero_add, decide_true, decide_false, Bool.not_true, Bool.not_false, forall_const, forall_eq, sl_ref, dNeg, wipeG, wipeG.nv, dYes, cut_1, dLoop, wantI_some, wantL_some, wantK_some, wantB_some, mupd_app, ix_ref, ix_tupA, len_ref, tuple_ref, list_ref, list_tup, list_fl, mul_ref, add_ref, setL_ref, lm_ref, append_at, extend_ref, dget_ref, sum_ref, max_ref, min_ref, at_0, at_1, at_2, at_3, at_4, isi_eq, tyD_int, tyD_bl, tyD_str, tyD_tup, tyD_non, kit_ii, kit_ib, kit_is, kit_it, kit_bi, kit_bb, kit_bs, kit_bt, kit_si, kit_sb, kit_ss, kit_st, kit_ti, kit_tb, kit_ts, kit_tt, kit_ni, kit_nb, kit_ns, kit_nt, kit_li, kit_lb, kit_ls, kit_lt, eq_self, hl4', e2, List.set]
      refine hmono (hlow x (y + 1) M3 ((hD'.sub hS2).sub hS3) (hfr.sub hS3) k1 (by omega) (fun z => ?_) (fun z => by omega)) ?_
      · by_cases i4 : i = 4
        · subst i4; rw [hq4] at hp; cases hp; cases he
        · exact k3 (by omega)
      · rintro d M4 ⟨rfl, h⟩; simp only [dSeq, dAsg, dgN, dRet, dRetN, dIfS, dVar, gv_0, gv_s, sv_0, sv_s, dC, dOp, dB, asB_b, dAnd, dOr, dNot, dAndV, dOrV, dNotV, dIf, dTru, DTru, dCons, dNil, dTup, dLst, dCall, dCB, dFor, dDrop, dPart, dNo, dNext, dBreak, dCont, dPar, dgT, dgAll, ix_t0, ix_t1, ix_t2, ix_t3, ix_t4, eq_ss, eq_ii, eq_si, eq_is, eq_bb, ne_ss, ne_ii, ne_si, ne_is, ne_bb, add_ii, add_ss, add_tt, mul_ii, mul_ti, oI_ii, oI0_ii, oB0_ii, is_non, isnot_non, isNon_non, isNon_int, isNon_str, isNon_bl, isNon_tup, len_tup, len_fl, len_str, tuple_tup, int_i, int_b, abs_i, max_ii, min_ii, seq_ref, diR1, diR2, items_tup, items_fl, same, Option.some.injEq, exists_eq_left', exists_eq_left, true_and, and_true, if_true, if_false, ite_true, ite_false, Bool.false_eq_true, reduceIte, List.length_cons, List.length_nil, Nat.reduceAdd, Nat.zero_add, decide_true, decide_false, Bool.not_true, Bool.not_false, forall_const, forall_eq, sl_ref, dNeg, wipeG, wipeG.nv, dYes, cut_1, dLoop, wantI_some, wantL_some, wantK_some, wantB_some, mupd_app, ix_ref, ix_tupA, len_ref, tuple_ref, list_ref, list_tup, list_fl, mul_ref, add_ref, setL_ref, lm_ref, append_at, extend_ref, dget_ref, sum_ref, max_ref, min_ref, at_0, at_1, at_2, at_3, at_4, isi_eq, tyD_int, tyD_bl, tyD_str, tyD_tup, tyD_non, kit_ii, kit_ib, kit_is, kit_it, kit_bi, kit_bb, kit_bs, kit_bt, kit_si, kit_sb, kit_ss, kit_st, kit_ti, kit_tb, kit_ts, kit_tt, kit_ni, kit_nb, kit_ns, kit_nt, kit_li, kit_lb, kit_ls, kit_lt, eq_self]; exact h
    | false =>
      simp only [encDue, he, dSeq, dAsg, dgN, dRet, dRetN, dIfS, dVar, gv_0, gv_s, sv_0, sv_s, dC, dOp, dB, asB_b, dAnd, dOr, dNot, dAndV, dOrV, dNotV, dIf, dTru, DTru, dCons, dNil, dTup, dLst, dCall, dCB, dFor, dDrop, dPart, dNo, dNext, dBreak, dCont, dPar, dgT, dgAll, ix_t0, ix_t1, ix_t2, ix_t3, ix_t4, eq_ss, eq_ii, eq_si, eq_is, eq_bb, ne_ss, ne_ii, ne_si, ne_is, ne_bb, add_ii, add_ss, add_tt, mul_ii, mul_ti, oI_ii, oI0_ii, oB0_ii, is_non, isnot_non, isNon_non, isNon_int, isNon_str, isNon_bl, isNon_tup, len_tup, len_fl, len_str, tuple_tup, int_i, int_b, abs_i, max_ii, min_ii, seq_ref, diR1, diR2, items_tup, items_fl, same, Option.some.injEq, exists_eq_left', exists_eq_left, true_and, and_true, if_true, if_false, ite_true, ite_false, Bool.false_eq_true, reduceIte, List.length_cons, List.length_nil, Nat.reduceAdd, Nat.zero_add, decide_true, decide_false, Bool.not_true, Bool.not_false, forall_const, forall_eq, sl_ref, dNeg, wipeG, wipeG.nv, dYes, cut_1, dLoop, wantI_some, wantL_some, wantK_some, wantB_some, mupd_app, ix_ref, ix_tupA, len_ref, tuple_ref, list_ref, list_tup, list_fl, mul_ref, add_ref, setL_ref, lm_ref, append_at, extend_ref, dget_ref, sum_ref, max_ref, min_ref, at_0, at_1, at_2, at_3, at_4, isi_eq, tyD_int, tyD_bl, tyD_str, tyD_tup, tyD_non, kit_ii, kit_ib, kit_is, kit_it, kit_bi, kit_bb, kit_bs, kit_bt, kit_si, kit_sb, kit_ss, kit_st, kit_ti, kit_tb, kit_ts, kit_tt, kit_ni, kit_nb, kit_ns, kit_nt, kit_li, kit_lb, kit_ls, kit_lt, eq_self, hl4]
      refine ⟨p, rfl, hok.1, by have := hok.2.2; omega, fun M3 hS3 => ?_⟩
      have hl4' := hS3 _ _ hl4
      simp only [encDue, he, dSeq, dAsg, dgN, dRet, dRetN, dIfS, dVar, gv_0, gv_s, sv_0, sv_s, dC, dOp, dB, asB_b, dAnd, dOr, dNot, dAndV, dOrV, dNotV, dIf, dTru, DTru, dCons, dNil, dTup, dLst, dCall, dCB, dFor, dDrop, dPart, dNo, dNext, dBreak, dCont, dPar, dgT, dgAll, ix_t0, ix_t1, ix_t2, ix_t3, ix_t4, eq_ss, eq_ii, eq_si, eq_is, eq_bb, ne_ss, ne_ii, ne_si, ne_is, ne_bb, add_ii, add_ss, add_tt, mul_ii, mul_ti, oI_ii, oI0_ii, oB0_ii, is_non, isnot_non, isNon_non, isNon_int, isNon_str, isNon_bl, isNon_tup, len_tup, len_fl, len_str, tuple_tup, int_i, int_b, abs_i, max_ii, min_ii, seq_ref, diR1, diR2, items_tup, items_fl, same, Option.some.injEq, exists_eq_left', exists_eq_left, true_and, and_true, if_true, if_false, ite_true, ite_false, Bool.false_eq_true, reduceIte, List.length_cons, List.length_nil, Nat.reduceAdd, Nat.zero_add, decide_true, decide_false, Bool.not_true, Bool.not_false, forall_const, forall_eq, sl_ref, dNeg, wipeG, wipeG.nv, dYes, cut_1, dLoop, wantI_some, wantL_some, wantK_some, wantB_some, mupd_app, ix_ref, ix_tupA, len_ref, tuple_ref, list_ref, list_tup, list_fl, mul_ref, add_ref, setL_ref, lm_ref, append_at, extend_ref, dget_ref, sum_ref, max_ref, min_ref, at_0, at_1, at_2, at_3, at_4, isi_eq, tyD_int, tyD_bl, tyD_str, tyD_tup, tyD_non, kit_ii, kit_ib, kit_is, kit_it, kit_bi, kit_bb, kit_bs, kit_bt, kit_si, kit_sb, kit_ss, kit_st, kit_ti, kit_tb, kit_ts, kit_tt, kit_ni, kit_nb, kit_ns, kit_nt, kit_li, kit_lb, kit_ls, kit_lt, eq_self, hl4', e3, List.set]
      refine hmono (hlow (x + 1) y M3 ((hD'.sub hS2).sub hS3) (hfr.sub hS3) (by omega) k2 (fun z => by omega) (fun z => ?_)) ?_
      · by_cases i5 : i = 5
        · subst i5; rw [hq5] at hp; cases hp; cases he
        · exact k4 (by omega)
      · rintro d M4 ⟨rfl, h⟩; simp only [dSeq, dAsg, dgN, dRet, dRetN, dIfS, dVar, gv_0, gv_s, sv_0, sv_s, dC, dOp, dB, asB_b, dAnd, dOr, dNot, dAndV, dOrV, dNotV, dIf, dTru, DTru, dCons, dNil, dTup, dLst, dCall, dCB, dFor, dDrop, dPart, dNo, dNext, dBreak, dCont, dPar, dgT, dgAll, ix_t0, ix_t1, ix_t2, ix_t3, ix_t4, eq_ss, eq_ii, eq_si, eq_is, eq_bb, ne_ss, ne_ii, ne_si, ne_is, ne_bb, add_ii, add_ss, add_tt, mul_ii, mul_ti, oI_ii, oI0_ii, oB0_ii, is_non, isnot_non, isNon_non, isNon_int, isNon_str, isNon_bl, isNon_tup, len_tup, len_fl, len_str, tuple_tup, int_i, int_b, abs_i, max_ii, min_ii, seq_ref, diR1, diR2, items_tup, items_fl, same, Option.some.injEq, exists_eq_left', exists_eq_left, true_and, and_true, if_true, if_false, ite_true, ite_false, Bool.false_eq_true, reduceIte, List.length_cons, List.length_nil, Nat.reduceAdd, Nat.zero_add, decide_true, decide_false, Bool.not_true, Bool.not_false, forall_const, forall_eq, sl_ref, dNeg, wipeG, wipeG.nv, dYes, cut_1, dLoop, wantI_some, wantL_some, wantK_some, wantB_some, mupd_app, ix_ref, ix_tupA, len_ref, tuple_ref, list_ref, list_tup, list_fl, mul_ref, add_ref, setL_ref, lm_ref, append_at, extend_ref, dget_ref, sum_ref, max_ref, min_ref, at_0, at_1, at_2, at_3, at_4, isi_eq, tyD_int, tyD_bl, tyD_str, tyD_tup, tyD_non, kit_ii, kit_ib, kit_is, kit_it, kit_bi, kit_bb, kit_bs, kit_bt, kit_si, kit_sb, kit_ss, kit_st, kit_ti, kit_tb, kit_ts, kit_tt, kit_ni, kit_nb, kit_ns, kit_nt, kit_li, kit_lb, kit_ls, kit_lt, eq_self]; exact h
  · rintro Γ M' ⟨x7, x8, x9, x10, x, y, rfl, hD', m3, m4, k1, k2, k3, k4⟩
    refine ⟨m3, ?_⟩
    have hx : 0 < x := k3 (by rw [List.length_map, List.length_append, hrest]; simp only [List.length_cons]; omega)
    have hy : 0 < y := k4 (by rw [List.length_map, List.length_append, hrest]; simp only [List.length_cons]; omega)
    have e3 : atI (([p0, p1, p2, p3] ++ ex).map enc) 3 = some (enc p3) := at_3
    simp only [b_law_R1, dSeq, dAsg, dgN, dRet, dRetN, dIfS, dVar, gv_0, gv_s, sv_0, sv_s, dC, dOp, dB, asB_b, dAnd, dOr, dNot, dAndV, dOrV, dNotV, dIf, dTru, DTru, dCons, dNil, dTup, dLst, dCall, dCB, dFor, dDrop, dPart, dNo, dNext, dBreak, dCont, dPar, dgT, dgAll, ix_t0, ix_t1, ix_t2, ix_t3, ix_t4, eq_ss, eq_ii, eq_si, eq_is, eq_bb, ne_ss, ne_ii, ne_si, ne_is, ne_bb, add_ii, add_ss, add_tt, mul_ii, mul_ti, oI_ii, oI0_ii, oB0_ii, is_non, isnot_non, isNon_non, isNon_int, isNon_str, isNon_bl, isNon_tup, len_tup, len_fl, len_str, tuple_tup, int_i, int_b, abs_i, max_ii, min_ii, seq_ref, diR1, diR2, items_tup, items_fl, same, Option.some.injEq, exists_eq_left', exists_eq_left, true_and, and_true, if_true, if_false, ite_true, ite_false, Bool.false_eq_true, reduceIte, List.length_cons, List.length_nil, Nat.reduceAdd, Nat.zero_add, decide_true, decide_false, Bool.not_true, Bool.not_false, forall_const, forall_eq, sl_ref, dNeg, wipeG, wipeG.nv, dYes, cut_1, dLoop, wantI_some, wantL_some, wantK_some, wantB_some, mupd_app, ix_ref, ix_tupA, len_ref, tuple_ref, list_ref, list_tup, list_fl, mul_ref, add_ref, setL_ref, lm_ref, append_at, extend_ref, dget_ref, sum_ref, max_ref, min_ref, at_0, at_1, at_2, at_3, at_4, isi_eq, tyD_int, tyD_bl, tyD_str, tyD_tup, tyD_non, kit_ii, kit_ib, kit_is, kit_it, kit_bi, kit_bb, kit_bs, kit_bt, kit_si, kit_sb, kit_ss, kit_st, kit_ti, kit_tb, kit_ts, kit_tt, kit_ni, kit_nb, kit_ns, kit_nt, kit_li, kit_lb, kit_ls, kit_lt, eq_self, m3, e3]
    refine ⟨p3, rfl, by omega, fun ln lp ns hs M2 hI hS2 => ?_⟩
    have hn := hI.nodes
    have hpos : 0 < ns.length := (List.getElem?_eq_some_iff.mp hI.n0).1
    have hsz := hI.size
    have hD2 := hD'.sub hS2
    have hln : ln ≠ a ∧ ln ≠ b := by
      obtain ⟨c, t, pl, _, d1, d2, _⟩ := hD2
      refine ⟨fun z => ?_, fun z => ?_⟩
      · subst z
        rw [hn] at d1
        have := congrArg (fun o => match o with | some (MO.lst (d :: _)) => some d | _ => none) d1
        cases ns with
        | nil => simp at hpos
        | cons n r => cases n <;> simp [enc] at this
      · subst z
        rw [hn] at d2
        cases ns with
        | nil => simp at hpos
        | cons n r => cases c <;> cases n <;> simp [enc] at d2
    simp only [dSeq, dAsg, dgN, dRet, dRetN, dIfS, dVar, gv_0, gv_s, sv_0, sv_s, dC, dOp, dB, asB_b, dAnd, dOr, dNot, dAndV, dOrV, dNotV, dIf, dTru, DTru, dCons, dNil, dTup, dLst, dCall, dCB, dFor, dDrop, dPart, dNo, dNext, dBreak, dCont, dPar, dgT, dgAll, ix_t0, ix_t1, ix_t2, ix_t3, ix_t4, eq_ss, eq_ii, eq_si, eq_is, eq_bb, ne_ss, ne_ii, ne_si, ne_is, ne_bb, add_ii, add_ss, add_tt, mul_ii, mul_ti, oI_ii, oI0_ii, oB0_ii, is_non, isnot_non, isNon_non, isNon_int, isNon_str, isNon_bl, isNon_tup, len_tup, len_fl, len_str, tuple_tup, int_i, int_b, abs_i, max_ii, min_ii, seq_ref, diR1, diR2, items_tup, items_fl, same, Option.some.injEq, exists_eq_left', exists_eq_left, true_and, and_true, if_true, if_false, ite_true, ite_false, Bool.false_eq_true, reduceIte, List.length_cons, List.length_nil, Nat.reduceAdd, Nat.zero_add, decide_true, decide_false, Bool.not_true, Bool.not_false, forall_const, forall_eq, sl_ref, dNeg, wipeG, wipeG.nv, dYes, cut_1, dLoop, wantI_some, wantL_some, wantK_some, wantB_some, mupd_app, ix_ref, ix_tupA, len_ref, tuple_ref, list_ref, list_tup, list_fl, mul_ref, add_ref, setL_ref, lm_ref, append_at, extend_ref, dget_ref, sum_ref, max_ref, min_ref, at_0, at_1, at_2, at_3, at_4, isi_eq, tyD_int, tyD_bl, tyD_str, tyD_tup, tyD_non, kit_ii, kit_ib, kit_is, kit_it, kit_bi, kit_bb, kit_bs, kit_bt, kit_si, kit_sb, kit_ss, kit_st, kit_ti, kit_tb, kit_ts, kit_tt, kit_ni, kit_nb, kit_ns, kit_nt, kit_li, kit_lb, kit_ls, kit_lt, eq_self, hn, List.length_map]
    refine ⟨a, b, _, rfl, hD2, by omega, by omega, fun r M3 r0 r1 hD3 hF3 => ?_⟩
    obtain ⟨n, i1, i2⟩ := at_map (f := enc) (xs := ns) (i := r) r0 r1
    have hn3 := hF3 _ _ hln.1 hln.2 hn
    have h43 := hF3 _ _ ha4.1 ha4.2 (hS2 _ _ m4)
    have hall := hI.all n (List.mem_of_getElem? i2)
    simp only [dSeq, dAsg, dgN, dRet, dRetN, dIfS, dVar, gv_0, gv_s, sv_0, sv_s, dC, dOp, dB, asB_b, dAnd, dOr, dNot, dAndV, dOrV, dNotV, dIf, dTru, DTru, dCons, dNil, dTup, dLst, dCall, dCB, dFor, dDrop, dPart, dNo, dNext, dBreak, dCont, dPar, dgT, dgAll, ix_t0, ix_t1, ix_t2, ix_t3, ix_t4, eq_ss, eq_ii, eq_si, eq_is, eq_bb, ne_ss, ne_ii, ne_si, ne_is, ne_bb, add_ii, add_ss, add_tt, mul_ii, mul_ti, oI_ii, oI0_ii, oB0_ii, is_non, isnot_non, isNon_non, isNon_int, isNon_str, isNon_bl, isNon_tup, len_tup, len_fl, len_str, tuple_tup, int_i, int_b, abs_i, max_ii, min_ii, seq_ref, diR1, diR2, items_tup, items_fl, same, Option.some.injEq, exists_eq_left', exists_eq_left, true_and, and_true, if_true, if_false, ite_true, ite_false, Bool.false_eq_true, reduceIte, List.length_cons, List.length_nil, Nat.reduceAdd, Nat.zero_add, decide_true, decide_false, Bool.not_true, Bool.not_false, forall_const, forall_eq, sl_ref, dNeg, wipeG, wipeG.nv, dYes, cut_1, dLoop, wantI_some, wantL_some, wantK_some, wantB_some, mupd_app, ix_ref, ix_tupA, len_ref, tuple_ref, list_ref, list_tup, list_fl, mul_ref, add_ref, setL_ref, lm_ref, append_at, extend_ref, dget_ref, sum_ref, max_ref, min_ref, at_0, at_1, at_2, at_3, at_4, isi_eq, tyD_int, tyD_bl, tyD_str, tyD_tup, tyD_non, kit_ii, kit_ib, kit_is, kit_it, kit_bi, kit_bb, kit_bs, kit_bt, kit_si, kit_sb, kit_ss, kit_st, kit_ti, kit_tb, kit_ts, kit_tt, kit_ni, kit_nb, kit_ns, kit_nt, kit_li, kit_lb, kit_ls, kit_lt, eq_self, hn3, i1, h43, gt_iff_lt, hx, hy]
    exact ⟨a, b, n, rfl, hD3, hall.2.2 h3.1, by omega, by omega, fun M4 _ _ => q M4⟩
  · refine ⟨_, _, _, _, 0, 0, rfl, ?_, ?_, mupd_same, Int.le_refl _, Int.le_refl _, fun z => absurd z (by omega), fun z => absurd z (by omega)⟩
    · exact (((hD1.new hl).upd (hD1.ne hl2).1 (hD1.ne hl2).2).upd ha3.1 ha3.2).upd ha4.1 ha4.2
    · rw [mupd_ne n6.symm, mupd_same]
end Lw
end
section
set_option maxHeartbeats 4000000
/-! k07, part I: the law's beginning. -/
namespace Lw
open PySem L2 DL

abbrev spLawF := spLaw
theorem ln_law : ∀ ds M Q E, spLaw ds M Q E → ds.length = 1 := fun _ _ _ _ ⟨_, h, _⟩ => by rw [h]; rfl
theorem hs_law : ∀ ds M Q E, spLaw ds M Q E → b_law sp__law_drum sp__law_pattern sp__law_pull sp__law_chain sp__law_test sp__law_due sp__law_holds sp__law_nodes { nx := fun _ M' => Wk Q .non M', rt := Wk Q } (startG N_law ds) M := by
  rintro ds M Q E ⟨sc, rfl, _, rfl, q⟩
  show b_law _ _ _ _ _ _ _ _ _ [some (.fl (sc.map D.int)), none, none, none, none, none, none, none, none, none, none] (fun _ => none)
  simp only [b_law, dSeq, dAsg, dgN, dRet, dRetN, dIfS, dVar, gv_0, gv_s, sv_0, sv_s, dC, dOp, dB, asB_b, dAnd, dOr, dNot, dAndV, dOrV, dNotV, dIf, dTru, DTru, dCons, dNil, dTup, dLst, dCall, dCB, dFor, dDrop, dPart, dNo, dNext, dBreak, dCont, dPar, dgT, dgAll, ix_t0, ix_t1, ix_t2, ix_t3, ix_t4, eq_ss, eq_ii, eq_si, eq_is, eq_bb, ne_ss, ne_ii, ne_si, ne_is, ne_bb, add_ii, add_ss, add_tt, mul_ii, mul_ti, oI_ii, oI0_ii, oB0_ii, is_non, isnot_non, isNon_non, isNon_int, isNon_str, isNon_bl, isNon_tup, len_tup, len_fl, len_str, tuple_tup, int_i, int_b, abs_i, max_ii, min_ii, seq_ref, diR1, diR2, items_tup, items_fl, same, Option.some.injEq, exists_eq_left', exists_eq_left, true_and, and_true, if_true, if_false, ite_true, ite_false, Bool.false_eq_true, reduceIte, List.length_cons, List.length_nil, Nat.reduceAdd, Nat.zero_add, decide_true, decide_false, Bool.not_true, Bool.not_false, forall_const, forall_eq, sl_ref, dNeg, wipeG, wipeG.nv, dYes, cut_1, dLoop, wantI_some, wantL_some, wantK_some, wantB_some, mupd_app, ix_ref, ix_tupA, len_ref, tuple_ref, list_ref, list_tup, list_fl, mul_ref, add_ref, setL_ref, lm_ref, append_at, extend_ref, dget_ref, sum_ref, max_ref, min_ref, at_0, at_1, at_2, at_3, at_4, isi_eq, tyD_int, tyD_bl, tyD_str, tyD_tup, tyD_non, kit_ii, kit_ib, kit_is, kit_it, kit_bi, kit_bb, kit_bs, kit_bt, kit_si, kit_sb, kit_ss, kit_st, kit_ti, kit_tb, kit_ts, kit_tt, kit_ni, kit_nb, kit_ns, kit_nt, kit_li, kit_lb, kit_ls, kit_lt, eq_self]
  refine ⟨sc, rfl, fun a b M1 hS1 _ _ hD1 => ?_⟩
  simp only [dSeq, dAsg, dgN, dRet, dRetN, dIfS, dVar, gv_0, gv_s, sv_0, sv_s, dC, dOp, dB, asB_b, dAnd, dOr, dNot, dAndV, dOrV, dNotV, dIf, dTru, DTru, dCons, dNil, dTup, dLst, dCall, dCB, dFor, dDrop, dPart, dNo, dNext, dBreak, dCont, dPar, dgT, dgAll, ix_t0, ix_t1, ix_t2, ix_t3, ix_t4, eq_ss, eq_ii, eq_si, eq_is, eq_bb, ne_ss, ne_ii, ne_si, ne_is, ne_bb, add_ii, add_ss, add_tt, mul_ii, mul_ti, oI_ii, oI0_ii, oB0_ii, is_non, isnot_non, isNon_non, isNon_int, isNon_str, isNon_bl, isNon_tup, len_tup, len_fl, len_str, tuple_tup, int_i, int_b, abs_i, max_ii, min_ii, seq_ref, diR1, diR2, items_tup, items_fl, same, Option.some.injEq, exists_eq_left', exists_eq_left, true_and, and_true, if_true, if_false, ite_true, ite_false, Bool.false_eq_true, reduceIte, List.length_cons, List.length_nil, Nat.reduceAdd, Nat.zero_add, decide_true, decide_false, Bool.not_true, Bool.not_false, forall_const, forall_eq, sl_ref, dNeg, wipeG, wipeG.nv, dYes, cut_1, dLoop, wantI_some, wantL_some, wantK_some, wantB_some, mupd_app, ix_ref, ix_tupA, len_ref, tuple_ref, list_ref, list_tup, list_fl, mul_ref, add_ref, setL_ref, lm_ref, append_at, extend_ref, dget_ref, sum_ref, max_ref, min_ref, at_0, at_1, at_2, at_3, at_4, isi_eq, tyD_int, tyD_bl, tyD_str, tyD_tup, tyD_non, kit_ii, kit_ib, kit_is, kit_it, kit_bi, kit_bb, kit_bs, kit_bt, kit_si, kit_sb, kit_ss, kit_st, kit_ti, kit_tb, kit_ts, kit_tt, kit_ni, kit_nb, kit_ns, kit_nt, kit_li, kit_lb, kit_ls, kit_lt, eq_self]
  refine ⟨sz (by decide), fun lr hlr => ⟨by decide, ?_⟩⟩
  obtain ⟨la, lb⟩ := hD1.ne hlr
  refine dLoop_inv (fun i Γ M' => ∃ (x3 : Option D) (ps : List Pat), Γ = [some (.fl (sc.map D.int)), some (.ref a), some (.ref lr), x3, none, none, none, none, none, none, none] ∧ Drum M' a b ∧ M' lr = some (.lst (ps.map enc)) ∧ ps.length = i ∧ ∀ p ∈ ps, p.few ∧ p.depth ≤ 40 ∧ p.many ≤ 300) ?_ ?_ ?_
  · rintro i d Γ M' N hi ⟨x3, ps, rfl, hD, hr, hl, hp⟩ hN
    have hi3 := (rgD_get hi).1
    simp only [b_law_L1, dSeq, dAsg, dgN, dRet, dRetN, dIfS, dVar, gv_0, gv_s, sv_0, sv_s, dC, dOp, dB, asB_b, dAnd, dOr, dNot, dAndV, dOrV, dNotV, dIf, dTru, DTru, dCons, dNil, dTup, dLst, dCall, dCB, dFor, dDrop, dPart, dNo, dNext, dBreak, dCont, dPar, dgT, dgAll, ix_t0, ix_t1, ix_t2, ix_t3, ix_t4, eq_ss, eq_ii, eq_si, eq_is, eq_bb, ne_ss, ne_ii, ne_si, ne_is, ne_bb, add_ii, add_ss, add_tt, mul_ii, mul_ti, oI_ii, oI0_ii, oB0_ii, is_non, isnot_non, isNon_non, isNon_int, isNon_str, isNon_bl, isNon_tup, len_tup, len_fl, len_str, tuple_tup, int_i, int_b, abs_i, max_ii, min_ii, seq_ref, diR1, diR2, items_tup, items_fl, same, Option.some.injEq, exists_eq_left', exists_eq_left, true_and, and_true, if_true, if_false, ite_true, ite_false, Bool.false_eq_true, reduceIte, List.length_cons, List.length_nil, Nat.reduceAdd, Nat.zero_add, decide_true, decide_false, Bool.not_true, Bool.not_false, forall_const, forall_eq, sl_ref, dNeg, wipeG, wipeG.nv, dYes, cut_1, dLoop, wantI_some, wantL_some, wantK_some, wantB_some, mupd_app, ix_ref, ix_tupA, len_ref, tuple_ref, list_ref, list_tup, list_fl, mul_ref, add_ref, setL_ref, lm_ref, append_at, extend_ref, dget_ref, sum_ref, max_ref, min_ref, at_0, at_1, at_2, at_3, at_4, isi_eq, tyD_int, tyD_bl, tyD_str, tyD_tup, tyD_non, kit_ii, kit_ib, kit_is, kit_it, kit_bi, kit_bb, kit_bs, kit_bt, kit_si, kit_sb, kit_ss, kit_st, kit_ti, kit_tb, kit_ts, kit_tt, kit_ni, kit_nb, kit_ns, kit_nt, kit_li, kit_lb, kit_ls, kit_lt, eq_self, hr]
    refine ⟨a, b, 8, rfl, hD, by decide, by decide, fun r M2 r0 r1 hD2 hF2 => ?_⟩
    simp only [dSeq, dAsg, dgN, dRet, dRetN, dIfS, dVar, gv_0, gv_s, sv_0, sv_s, dC, dOp, dB, asB_b, dAnd, dOr, dNot, dAndV, dOrV, dNotV, dIf, dTru, DTru, dCons, dNil, dTup, dLst, dCall, dCB, dFor, dDrop, dPart, dNo, dNext, dBreak, dCont, dPar, dgT, dgAll, ix_t0, ix_t1, ix_t2, ix_t3, ix_t4, eq_ss, eq_ii, eq_si, eq_is, eq_bb, ne_ss, ne_ii, ne_si, ne_is, ne_bb, add_ii, add_ss, add_tt, mul_ii, mul_ti, oI_ii, oI0_ii, oB0_ii, is_non, isnot_non, isNon_non, isNon_int, isNon_str, isNon_bl, isNon_tup, len_tup, len_fl, len_str, tuple_tup, int_i, int_b, abs_i, max_ii, min_ii, seq_ref, diR1, diR2, items_tup, items_fl, same, Option.some.injEq, exists_eq_left', exists_eq_left, true_and, and_true, if_true, if_false, ite_true, ite_false, Bool.false_eq_true, reduceIte, List.length_cons, List.length_nil, Nat.reduceAdd, Nat.zero_add, decide_true, decide_false, Bool.not_true, Bool.not_false, forall_const, forall_eq, sl_ref, dNeg, wipeG, wipeG.nv, dYes, cut_1, dLoop, wantI_some, wantL_some, wantK_some, wantB_some, mupd_app, ix_ref, ix_tupA, len_ref, tuple_ref, list_ref, list_tup, list_fl, mul_ref, add_ref, setL_ref, lm_ref, append_at, extend_ref, dget_ref, sum_ref, max_ref, min_ref, at_0, at_1, at_2, at_3, at_4, isi_eq, tyD_int, tyD_bl, tyD_str, tyD_tup, tyD_non, kit_ii, kit_ib, kit_is, kit_it, kit_bi, kit_bb, kit_bs, kit_bt, kit_si, kit_sb, kit_ss, kit_st, kit_ti, kit_tb, kit_ts, kit_tt, kit_ni, kit_nb, kit_ns, kit_nt, kit_li, kit_lb, kit_ls, kit_lt, eq_self]
    refine ⟨a, b, _, _, rfl, hD2, by omega, by omega, by omega, by decide, fun p M3 h1 h2 h3 hD3 hF3 => ?_⟩
    have hr3 := hF3 _ _ la lb (hF2 _ _ la lb hr)
    simp only [dSeq, dAsg, dgN, dRet, dRetN, dIfS, dVar, gv_0, gv_s, sv_0, sv_s, dC, dOp, dB, asB_b, dAnd, dOr, dNot, dAndV, dOrV, dNotV, dIf, dTru, DTru, dCons, dNil, dTup, dLst, dCall, dCB, dFor, dDrop, dPart, dNo, dNext, dBreak, dCont, dPar, dgT, dgAll, ix_t0, ix_t1, ix_t2, ix_t3, ix_t4, eq_ss, eq_ii, eq_si, eq_is, eq_bb, ne_ss, ne_ii, ne_si, ne_is, ne_bb, add_ii, add_ss, add_tt, mul_ii, mul_ti, oI_ii, oI0_ii, oB0_ii, is_non, isnot_non, isNon_non, isNon_int, isNon_str, isNon_bl, isNon_tup, len_tup, len_fl, len_str, tuple_tup, int_i, int_b, abs_i, max_ii, min_ii, seq_ref, diR1, diR2, items_tup, items_fl, same, Option.some.injEq, exists_eq_left', exists_eq_left, true_and, and_true, if_true, if_false, ite_true, ite_false, Bool.false_eq_true, reduceIte, List.length_cons, List.length_nil, Nat.reduceAdd, Nat.zero_add, decide_true, decide_false, Bool.not_true, Bool.not_false, forall_const, forall_eq, sl_ref, dNeg, wipeG, wipeG.nv, dYes, cut_1, dLoop, wantI_some, wantL_some, wantK_some, wantB_some, mupd_app, ix_ref, ix_tupA, len_ref, tuple_ref, list_ref, list_tup, list_fl, mul_ref, add_ref, setL_ref, lm_ref, append_at, extend_ref, dget_ref, sum_ref, max_ref, min_ref, at_0, at_1, at_2, at_3, at_4, isi_eq, tyD_int, tyD_bl, tyD_str, tyD_tup, tyD_non, kit_ii, kit_ib, kit_is, kit_it, kit_bi, kit_bb, kit_bs, kit_bt, kit_si, kit_sb, kit_ss, kit_st, kit_ti, kit_tb, kit_ts, kit_tt, kit_ni, kit_nb, kit_ns, kit_nt, kit_li, kit_lb, kit_ls, kit_lt, eq_self, hr3]
    refine ⟨szl (by rw [List.length_map]; omega), hN _ _ ⟨_, ps ++ [p], rfl, hD3.upd la lb, ?_, by simp [hl], fun x hx => ?_⟩⟩
    · rw [mupd_same, List.map_append]; rfl
    · rcases List.mem_append.mp hx with hx | hx
      · exact hp x hx
      · rw [List.mem_singleton.mp hx]; exact ⟨h1, by omega, h3⟩
  · rintro Γ M' ⟨x3, ps, rfl, hD, hr, hl, hp⟩
    rw [rgD_len] at hl
    have hl3 : ps.length = 3 := hl
    simp only [b_law_R3, dSeq, dAsg, dgN, dRet, dRetN, dIfS, dVar, gv_0, gv_s, sv_0, sv_s, dC, dOp, dB, asB_b, dAnd, dOr, dNot, dAndV, dOrV, dNotV, dIf, dTru, DTru, dCons, dNil, dTup, dLst, dCall, dCB, dFor, dDrop, dPart, dNo, dNext, dBreak, dCont, dPar, dgT, dgAll, ix_t0, ix_t1, ix_t2, ix_t3, ix_t4, eq_ss, eq_ii, eq_si, eq_is, eq_bb, ne_ss, ne_ii, ne_si, ne_is, ne_bb, add_ii, add_ss, add_tt, mul_ii, mul_ti, oI_ii, oI0_ii, oB0_ii, is_non, isnot_non, isNon_non, isNon_int, isNon_str, isNon_bl, isNon_tup, len_tup, len_fl, len_str, tuple_tup, int_i, int_b, abs_i, max_ii, min_ii, seq_ref, diR1, diR2, items_tup, items_fl, same, Option.some.injEq, exists_eq_left', exists_eq_left, true_and, and_true, if_true, if_false, ite_true, ite_false, Bool.false_eq_true, reduceIte, List.length_cons, List.length_nil, Nat.reduceAdd, Nat.zero_add, decide_true, decide_false, Bool.not_true, Bool.not_false, forall_const, forall_eq, sl_ref, dNeg, wipeG, wipeG.nv, dYes, cut_1, dLoop, wantI_some, wantL_some, wantK_some, wantB_some, mupd_app, ix_ref, ix_tupA, len_ref, tuple_ref, list_ref, list_tup, list_fl, mul_ref, add_ref, setL_ref, lm_ref, append_at, extend_ref, dget_ref, sum_ref, max_ref, min_ref, at_0, at_1, at_2, at_3, at_4, isi_eq, tyD_int, tyD_bl, tyD_str, tyD_tup, tyD_non, kit_ii, kit_ib, kit_is, kit_it, kit_bi, kit_bb, kit_bs, kit_bt, kit_si, kit_sb, kit_ss, kit_st, kit_ti, kit_tb, kit_ts, kit_tt, kit_ni, kit_nb, kit_ns, kit_nt, kit_li, kit_lb, kit_ls, kit_lt, eq_self]
    refine ⟨a, b, 7, rfl, hD, by decide, by decide, fun r M2 r0 r1 hD2 hF2 => ?_⟩
    have hr2 := hF2 _ _ la lb hr
    have fin : ∀ (p : Pat) M3, p.few → p.depth ≤ 40 → p.many ≤ 300 → Drum M3 a b → Fr a b M2 M3 → wantL (M3 lr) fun es => es.length < sizeLine ∧ bR2 { nx := fun _ M' => Wk Q .non M', rt := Wk Q } [some (.fl (sc.map D.int)), some (.ref a), some (.ref lr), x3, some (.int r), none, none, none, none, none, none] (mupd M3 lr (.lst (es ++ [enc p]))) := fun p M3 h1 h2 h3 hD3 hF3 => by
      have hr3 := hF3 _ _ la lb hr2
      simp only [hr3, wantL_some]
      refine ⟨szl (by rw [List.length_map]; omega), law_R2 (ps := ps ++ [p]) (hD3.upd la lb) ?_ la lb (by simp [hl3]) (fun x hx => ?_) fun M' => Wk.of (q M')⟩
      · rw [mupd_same, List.map_append]; rfl
      · rcases List.mem_append.mp hx with hx | hx
        · exact hp x hx
        · rw [List.mem_singleton.mp hx]; exact ⟨h1, h2, h3⟩
    simp only [dSeq, dAsg, dgN, dRet, dRetN, dIfS, dVar, gv_0, gv_s, sv_0, sv_s, dC, dOp, dB, asB_b, dAnd, dOr, dNot, dAndV, dOrV, dNotV, dIf, dTru, DTru, dCons, dNil, dTup, dLst, dCall, dCB, dFor, dDrop, dPart, dNo, dNext, dBreak, dCont, dPar, dgT, dgAll, ix_t0, ix_t1, ix_t2, ix_t3, ix_t4, eq_ss, eq_ii, eq_si, eq_is, eq_bb, ne_ss, ne_ii, ne_si, ne_is, ne_bb, add_ii, add_ss, add_tt, mul_ii, mul_ti, oI_ii, oI0_ii, oB0_ii, is_non, isnot_non, isNon_non, isNon_int, isNon_str, isNon_bl, isNon_tup, len_tup, len_fl, len_str, tuple_tup, int_i, int_b, abs_i, max_ii, min_ii, seq_ref, diR1, diR2, items_tup, items_fl, same, Option.some.injEq, exists_eq_left', exists_eq_left, true_and, and_true, if_true, if_false, ite_true, ite_false, Bool.false_eq_true, reduceIte, List.length_cons, List.length_nil, Nat.reduceAdd, Nat.zero_add, decide_true, decide_false, Bool.not_true, Bool.not_false, forall_const, forall_eq, sl_ref, dNeg, wipeG, wipeG.nv, dYes, cut_1, dLoop, wantI_some, wantL_some, wantK_some, wantB_some, mupd_app, ix_ref, ix_tupA, len_ref, tuple_ref, list_ref, list_tup, list_fl, mul_ref, add_ref, setL_ref, lm_ref, append_at, extend_ref, dget_ref, sum_ref, max_ref, min_ref, at_0, at_1, at_2, at_3, at_4, isi_eq, tyD_int, tyD_bl, tyD_str, tyD_tup, tyD_non, kit_ii, kit_ib, kit_is, kit_it, kit_bi, kit_bb, kit_bs, kit_bt, kit_si, kit_sb, kit_ss, kit_st, kit_ti, kit_tb, kit_ts, kit_tt, kit_ni, kit_nb, kit_ns, kit_nt, kit_li, kit_lb, kit_ls, kit_lt, eq_self]
    refine ite_both ?_ (ite_both ?_ ?_)
    · simp only [b_law_T2, dSeq, dAsg, dgN, dRet, dRetN, dIfS, dVar, gv_0, gv_s, sv_0, sv_s, dC, dOp, dB, asB_b, dAnd, dOr, dNot, dAndV, dOrV, dNotV, dIf, dTru, DTru, dCons, dNil, dTup, dLst, dCall, dCB, dFor, dDrop, dPart, dNo, dNext, dBreak, dCont, dPar, dgT, dgAll, ix_t0, ix_t1, ix_t2, ix_t3, ix_t4, eq_ss, eq_ii, eq_si, eq_is, eq_bb, ne_ss, ne_ii, ne_si, ne_is, ne_bb, add_ii, add_ss, add_tt, mul_ii, mul_ti, oI_ii, oI0_ii, oB0_ii, is_non, isnot_non, isNon_non, isNon_int, isNon_str, isNon_bl, isNon_tup, len_tup, len_fl, len_str, tuple_tup, int_i, int_b, abs_i, max_ii, min_ii, seq_ref, diR1, diR2, items_tup, items_fl, same, Option.some.injEq, exists_eq_left', exists_eq_left, true_and, and_true, if_true, if_false, ite_true, ite_false, Bool.false_eq_true, reduceIte, List.length_cons, List.length_nil, Nat.reduceAdd, Nat.zero_add, decide_true, decide_false, Bool.not_true, Bool.not_false, forall_const, forall_eq, sl_ref, dNeg, wipeG, wipeG.nv, dYes, cut_1, dLoop, wantI_some, wantL_some, wantK_some, wantB_some, mupd_app, ix_ref, ix_tupA, len_ref, tuple_ref, list_ref, list_tup, list_fl, mul_ref, add_ref, setL_ref, lm_ref, append_at, extend_ref, dget_ref, sum_ref, max_ref, min_ref, at_0, at_1, at_2, at_3, at_4, isi_eq, tyD_int, tyD_bl, tyD_str, tyD_tup, tyD_non, kit_ii, kit_ib, kit_is, kit_it, kit_bi, kit_bb, kit_bs, kit_bt, kit_si, kit_sb, kit_ss, kit_st, kit_ti, kit_tb, kit_ts, kit_tt, kit_ni, kit_nb, kit_ns, kit_nt, kit_li, kit_lb, kit_ls, kit_lt, eq_self, hr2]
      exact ⟨a, b, _, _, rfl, hD2, by decide, by decide, fun p M3 h1 h2 h3 hD3 hF3 => fin p M3 h1 (by omega) h3 hD3 hF3⟩
    · simp only [b_law_T1, dSeq, dAsg, dgN, dRet, dRetN, dIfS, dVar, gv_0, gv_s, sv_0, sv_s, dC, dOp, dB, asB_b, dAnd, dOr, dNot, dAndV, dOrV, dNotV, dIf, dTru, DTru, dCons, dNil, dTup, dLst, dCall, dCB, dFor, dDrop, dPart, dNo, dNext, dBreak, dCont, dPar, dgT, dgAll, ix_t0, ix_t1, ix_t2, ix_t3, ix_t4, eq_ss, eq_ii, eq_si, eq_is, eq_bb, ne_ss, ne_ii, ne_si, ne_is, ne_bb, add_ii, add_ss, add_tt, mul_ii, mul_ti, oI_ii, oI0_ii, oB0_ii, is_non, isnot_non, isNon_non, isNon_int, isNon_str, isNon_bl, isNon_tup, len_tup, len_fl, len_str, tuple_tup, int_i, int_b, abs_i, max_ii, min_ii, seq_ref, diR1, diR2, items_tup, items_fl, same, Option.some.injEq, exists_eq_left', exists_eq_left, true_and, and_true, if_true, if_false, ite_true, ite_false, Bool.false_eq_true, reduceIte, List.length_cons, List.length_nil, Nat.reduceAdd, Nat.zero_add, decide_true, decide_false, Bool.not_true, Bool.not_false, forall_const, forall_eq, sl_ref, dNeg, wipeG, wipeG.nv, dYes, cut_1, dLoop, wantI_some, wantL_some, wantK_some, wantB_some, mupd_app, ix_ref, ix_tupA, len_ref, tuple_ref, list_ref, list_tup, list_fl, mul_ref, add_ref, setL_ref, lm_ref, append_at, extend_ref, dget_ref, sum_ref, max_ref, min_ref, at_0, at_1, at_2, at_3, at_4, isi_eq, tyD_int, tyD_bl, tyD_str, tyD_tup, tyD_non, kit_ii, kit_ib, kit_is, kit_it, kit_bi, kit_bb, kit_bs, kit_bt, kit_si, kit_sb, kit_ss, kit_st, kit_ti, kit_tb, kit_ts, kit_tt, kit_ni, kit_nb, kit_ns, kit_nt, kit_li, kit_lb, kit_ls, kit_lt, eq_self, hr2]
      exact ⟨a, b, _, _, rfl, hD2, by decide, by decide, by decide, by decide, fun p M3 h1 h2 h3 hD3 hF3 => fin p M3 h1 (by omega) h3 hD3 hF3⟩
    · simp only [b_law_F1, dSeq, dAsg, dgN, dRet, dRetN, dIfS, dVar, gv_0, gv_s, sv_0, sv_s, dC, dOp, dB, asB_b, dAnd, dOr, dNot, dAndV, dOrV, dNotV, dIf, dTru, DTru, dCons, dNil, dTup, dLst, dCall, dCB, dFor, dDrop, dPart, dNo, dNext, dBreak, dCont, dPar, dgT, dgAll, ix_t0, ix_t1, ix_t2, ix_t3, ix_t4, eq_ss, eq_ii, eq_si, eq_is, eq_bb, ne_ss, ne_ii, ne_si, ne_is, ne_bb, add_ii, add_ss, add_tt, mul_ii, mul_ti, oI_ii, oI0_ii, oB0_ii, is_non, isnot_non, isNon_non, isNon_int, isNon_str, isNon_bl, isNon_tup, len_tup, len_fl, len_str, tuple_tup, int_i, int_b, abs_i, max_ii, min_ii, seq_ref, diR1, diR2, items_tup, items_fl, same, Option.some.injEq, exists_eq_left', exists_eq_left, true_and, and_true, if_true, if_false, ite_true, ite_false, Bool.false_eq_true, reduceIte, List.length_cons, List.length_nil, Nat.reduceAdd, Nat.zero_add, decide_true, decide_false, Bool.not_true, Bool.not_false, forall_const, forall_eq, sl_ref, dNeg, wipeG, wipeG.nv, dYes, cut_1, dLoop, wantI_some, wantL_some, wantK_some, wantB_some, mupd_app, ix_ref, ix_tupA, len_ref, tuple_ref, list_ref, list_tup, list_fl, mul_ref, add_ref, setL_ref, lm_ref, append_at, extend_ref, dget_ref, sum_ref, max_ref, min_ref, at_0, at_1, at_2, at_3, at_4, isi_eq, tyD_int, tyD_bl, tyD_str, tyD_tup, tyD_non, kit_ii, kit_ib, kit_is, kit_it, kit_bi, kit_bb, kit_bs, kit_bt, kit_si, kit_sb, kit_ss, kit_st, kit_ti, kit_tb, kit_ts, kit_tt, kit_ni, kit_nb, kit_ns, kit_nt, kit_li, kit_lb, kit_ls, kit_lt, eq_self, hr2]
      refine ⟨a, b, 9, rfl, hD2, by decide, by decide, fun r3 M3 s0 s1 hD3 hF3 => ?_⟩
      simp only [dSeq, dAsg, dgN, dRet, dRetN, dIfS, dVar, gv_0, gv_s, sv_0, sv_s, dC, dOp, dB, asB_b, dAnd, dOr, dNot, dAndV, dOrV, dNotV, dIf, dTru, DTru, dCons, dNil, dTup, dLst, dCall, dCB, dFor, dDrop, dPart, dNo, dNext, dBreak, dCont, dPar, dgT, dgAll, ix_t0, ix_t1, ix_t2, ix_t3, ix_t4, eq_ss, eq_ii, eq_si, eq_is, eq_bb, ne_ss, ne_ii, ne_si, ne_is, ne_bb, add_ii, add_ss, add_tt, mul_ii, mul_ti, oI_ii, oI0_ii, oB0_ii, is_non, isnot_non, isNon_non, isNon_int, isNon_str, isNon_bl, isNon_tup, len_tup, len_fl, len_str, tuple_tup, int_i, int_b, abs_i, max_ii, min_ii, seq_ref, diR1, diR2, items_tup, items_fl, same, Option.some.injEq, exists_eq_left', exists_eq_left, true_and, and_true, if_true, if_false, ite_true, ite_false, Bool.false_eq_true, reduceIte, List.length_cons, List.length_nil, Nat.reduceAdd, Nat.zero_add, decide_true, decide_false, Bool.not_true, Bool.not_false, forall_const, forall_eq, sl_ref, dNeg, wipeG, wipeG.nv, dYes, cut_1, dLoop, wantI_some, wantL_some, wantK_some, wantB_some, mupd_app, ix_ref, ix_tupA, len_ref, tuple_ref, list_ref, list_tup, list_fl, mul_ref, add_ref, setL_ref, lm_ref, append_at, extend_ref, dget_ref, sum_ref, max_ref, min_ref, at_0, at_1, at_2, at_3, at_4, isi_eq, tyD_int, tyD_bl, tyD_str, tyD_tup, tyD_non, kit_ii, kit_ib, kit_is, kit_it, kit_bi, kit_bb, kit_bs, kit_bt, kit_si, kit_sb, kit_ss, kit_st, kit_ti, kit_tb, kit_ts, kit_tt, kit_ni, kit_nb, kit_ns, kit_nt, kit_li, kit_lb, kit_ls, kit_lt, eq_self]
      refine ⟨a, b, 14, rfl, hD3, by decide, by decide, fun r4 M4 t0 t1 hD4 hF4 => ?_⟩
      simp only [dSeq, dAsg, dgN, dRet, dRetN, dIfS, dVar, gv_0, gv_s, sv_0, sv_s, dC, dOp, dB, asB_b, dAnd, dOr, dNot, dAndV, dOrV, dNotV, dIf, dTru, DTru, dCons, dNil, dTup, dLst, dCall, dCB, dFor, dDrop, dPart, dNo, dNext, dBreak, dCont, dPar, dgT, dgAll, ix_t0, ix_t1, ix_t2, ix_t3, ix_t4, eq_ss, eq_ii, eq_si, eq_is, eq_bb, ne_ss, ne_ii, ne_si, ne_is, ne_bb, add_ii, add_ss, add_tt, mul_ii, mul_ti, oI_ii, oI0_ii, oB0_ii, is_non, isnot_non, isNon_non, isNon_int, isNon_str, isNon_bl, isNon_tup, len_tup, len_fl, len_str, tuple_tup, int_i, int_b, abs_i, max_ii, min_ii, seq_ref, diR1, diR2, items_tup, items_fl, same, Option.some.injEq, exists_eq_left', exists_eq_left, true_and, and_true, if_true, if_false, ite_true, ite_false, Bool.false_eq_true, reduceIte, List.length_cons, List.length_nil, Nat.reduceAdd, Nat.zero_add, decide_true, decide_false, Bool.not_true, Bool.not_false, forall_const, forall_eq, sl_ref, dNeg, wipeG, wipeG.nv, dYes, cut_1, dLoop, wantI_some, wantL_some, wantK_some, wantB_some, mupd_app, ix_ref, ix_tupA, len_ref, tuple_ref, list_ref, list_tup, list_fl, mul_ref, add_ref, setL_ref, lm_ref, append_at, extend_ref, dget_ref, sum_ref, max_ref, min_ref, at_0, at_1, at_2, at_3, at_4, isi_eq, tyD_int, tyD_bl, tyD_str, tyD_tup, tyD_non, kit_ii, kit_ib, kit_is, kit_it, kit_bi, kit_bb, kit_bs, kit_bt, kit_si, kit_sb, kit_ss, kit_st, kit_ti, kit_tb, kit_ts, kit_tt, kit_ni, kit_nb, kit_ns, kit_nt, kit_li, kit_lb, kit_ls, kit_lt, eq_self]
      exact ⟨a, b, _, _, rfl, hD4, by omega, by omega, fun p M5 h1 h2 h3 hD5 hF5 => fin p M5 h1 (by omega) h3 hD5 ((hF3.trans hF4).trans hF5)⟩
  · exact ⟨none, [], rfl, hD1.new hlr, mupd_same, rfl, fun _ h => (nomatch h)⟩
end Lw
end
section
set_option maxHeartbeats 4000000
/-! the terms of the bodies (printed by gen.py) -/
namespace Lw
open PySem L2 DL
def top (i : Nat) : Stmt := PySem.Challenge.pw_foresightenough_k07_pattern_looks.main.body.getD i (.Pass ⟨0, 0, 0, 0⟩)
structure Txt (mg : Str → Option Value) : Prop where
  bool : mg "bool" = none
  int : mg "int" = none
  isinstance : mg "isinstance" = none
  len : mg "len" = none
  max : mg "max" = none
  min : mg "min" = none
  range : mg "range" = none
  str : mg "str" = none
  sum : mg "sum" = none
  tuple : mg "tuple" = none
  zip : mg "zip" = none
abbrev s_matches_empty : Stmt := top 1
abbrev s_tests_of : Stmt := top 2
abbrev s_names_of : Stmt := top 3
abbrev s_pattern_size : Stmt := top 4
abbrev s_pattern_depth : Stmt := top 5
abbrev s_most_of : Stmt := top 6
abbrev s_sequence_of : Stmt := top 7
abbrev s__law_drum : Stmt := top 9
abbrev s__law_pull : Stmt := top 10
abbrev s__law_whole : Stmt := top 11
abbrev s__law_name : Stmt := top 12
abbrev s__law_test : Stmt := top 13
abbrev s__law_pattern : Stmt := top 14
abbrev s__law_chain : Stmt := top 15
abbrev s__law_nodes : Stmt := top 16
abbrev s__law_due : Stmt := top 17
abbrev s__law_holds : Stmt := top 18
abbrev s_law : Stmt := top 19
def kV_0 : List V → List V → List V
  | [], [w0] => [w0]
  | _, _ => []
def kU_0 : List Value → List Value → List Value
  | [], [w0] => [w0]
  | _, _ => []
theorem kb_0 {K : PySem.W.Frag} {f : Addr} {fd : FuncData} (F : Fun K "matches_empty" "matches_empty" s_matches_empty f fd) : KBinds K fd ["pattern"] ["pattern"] kU_0 kV_0 where
  to := fun s us ws _ hl => by
    obtain ⟨oc, od, kV, doc, pm, an, cdv, ct, osl, rfl, _, _⟩ := F.ex
    rcases us with _ | ⟨a0, _⟩ <;> rcases ws with _ | ⟨b0, (_ | ⟨b1, _⟩)⟩ <;> first | (cases hl; done) | exact .of_eq rfl
  rel := fun {vs us zs ws} a b => by
    rcases a with _ | ⟨r0, _ | ⟨r1, _ | ⟨r2, a⟩⟩⟩ <;> rcases b with _ | ⟨q0, _ | ⟨q1, _ | ⟨q2, b⟩⟩⟩ <;> first | exact .nil | exact .cons (by assumption) .nil | (refine .cons (by assumption) (.cons (by assumption) .nil)) | skip
theorem kbo_0 : OrdOk kV_0 kD_0 := fun K H vs ds ws es a b => by
    rcases a with _ | ⟨r0, _ | ⟨r1, _ | ⟨r2, a⟩⟩⟩ <;> rcases b with _ | ⟨q0, _ | ⟨q1, _ | ⟨q2, b⟩⟩⟩ <;> first | exact .nil | exact .cons (by assumption) .nil | (refine .cons (by assumption) (.cons (by assumption) .nil)) | skip
def kV_1 : List V → List V → List V
  | [], [w0] => [w0]
  | _, _ => []
def kU_1 : List Value → List Value → List Value
  | [], [w0] => [w0]
  | _, _ => []
theorem kb_1 {K : PySem.W.Frag} {f : Addr} {fd : FuncData} (F : Fun K "names_of" "names_of" s_names_of f fd) : KBinds K fd ["pattern"] ["pattern"] kU_1 kV_1 where
  to := fun s us ws _ hl => by
    obtain ⟨oc, od, kV, doc, pm, an, cdv, ct, osl, rfl, _, _⟩ := F.ex
    rcases us with _ | ⟨a0, _⟩ <;> rcases ws with _ | ⟨b0, (_ | ⟨b1, _⟩)⟩ <;> first | (cases hl; done) | exact .of_eq rfl
  rel := fun {vs us zs ws} a b => by
    rcases a with _ | ⟨r0, _ | ⟨r1, _ | ⟨r2, a⟩⟩⟩ <;> rcases b with _ | ⟨q0, _ | ⟨q1, _ | ⟨q2, b⟩⟩⟩ <;> first | exact .nil | exact .cons (by assumption) .nil | (refine .cons (by assumption) (.cons (by assumption) .nil)) | skip
theorem kbo_1 : OrdOk kV_1 kD_1 := fun K H vs ds ws es a b => by
    rcases a with _ | ⟨r0, _ | ⟨r1, _ | ⟨r2, a⟩⟩⟩ <;> rcases b with _ | ⟨q0, _ | ⟨q1, _ | ⟨q2, b⟩⟩⟩ <;> first | exact .nil | exact .cons (by assumption) .nil | (refine .cons (by assumption) (.cons (by assumption) .nil)) | skip
def kV_2 : List V → List V → List V
  | [], [w0] => [w0]
  | _, _ => []
def kU_2 : List Value → List Value → List Value
  | [], [w0] => [w0]
  | _, _ => []
theorem kb_2 {K : PySem.W.Frag} {f : Addr} {fd : FuncData} (F : Fun K "pattern_size" "pattern_size" s_pattern_size f fd) : KBinds K fd ["pattern"] ["pattern"] kU_2 kV_2 where
  to := fun s us ws _ hl => by
    obtain ⟨oc, od, kV, doc, pm, an, cdv, ct, osl, rfl, _, _⟩ := F.ex
    rcases us with _ | ⟨a0, _⟩ <;> rcases ws with _ | ⟨b0, (_ | ⟨b1, _⟩)⟩ <;> first | (cases hl; done) | exact .of_eq rfl
  rel := fun {vs us zs ws} a b => by
    rcases a with _ | ⟨r0, _ | ⟨r1, _ | ⟨r2, a⟩⟩⟩ <;> rcases b with _ | ⟨q0, _ | ⟨q1, _ | ⟨q2, b⟩⟩⟩ <;> first | exact .nil | exact .cons (by assumption) .nil | (refine .cons (by assumption) (.cons (by assumption) .nil)) | skip
theorem kbo_2 : OrdOk kV_2 kD_2 := fun K H vs ds ws es a b => by
    rcases a with _ | ⟨r0, _ | ⟨r1, _ | ⟨r2, a⟩⟩⟩ <;> rcases b with _ | ⟨q0, _ | ⟨q1, _ | ⟨q2, b⟩⟩⟩ <;> first | exact .nil | exact .cons (by assumption) .nil | (refine .cons (by assumption) (.cons (by assumption) .nil)) | skip
def kV_3 : List V → List V → List V
  | [], [w0] => [w0]
  | _, _ => []
def kU_3 : List Value → List Value → List Value
  | [], [w0] => [w0]
  | _, _ => []
theorem kb_3 {K : PySem.W.Frag} {f : Addr} {fd : FuncData} (F : Fun K "pattern_depth" "pattern_depth" s_pattern_depth f fd) : KBinds K fd ["pattern"] ["pattern"] kU_3 kV_3 where
  to := fun s us ws _ hl => by
    obtain ⟨oc, od, kV, doc, pm, an, cdv, ct, osl, rfl, _, _⟩ := F.ex
    rcases us with _ | ⟨a0, _⟩ <;> rcases ws with _ | ⟨b0, (_ | ⟨b1, _⟩)⟩ <;> first | (cases hl; done) | exact .of_eq rfl
  rel := fun {vs us zs ws} a b => by
    rcases a with _ | ⟨r0, _ | ⟨r1, _ | ⟨r2, a⟩⟩⟩ <;> rcases b with _ | ⟨q0, _ | ⟨q1, _ | ⟨q2, b⟩⟩⟩ <;> first | exact .nil | exact .cons (by assumption) .nil | (refine .cons (by assumption) (.cons (by assumption) .nil)) | skip
theorem kbo_3 : OrdOk kV_3 kD_3 := fun K H vs ds ws es a b => by
    rcases a with _ | ⟨r0, _ | ⟨r1, _ | ⟨r2, a⟩⟩⟩ <;> rcases b with _ | ⟨q0, _ | ⟨q1, _ | ⟨q2, b⟩⟩⟩ <;> first | exact .nil | exact .cons (by assumption) .nil | (refine .cons (by assumption) (.cons (by assumption) .nil)) | skip
def kV_4 : List V → List V → List V
  | [], [w0] => [w0]
  | _, _ => []
def kU_4 : List Value → List Value → List Value
  | [], [w0] => [w0]
  | _, _ => []
theorem kb_4 {K : PySem.W.Frag} {f : Addr} {fd : FuncData} (F : Fun K "sequence_of" "sequence_of" s_sequence_of f fd) : KBinds K fd ["pattern"] ["pattern"] kU_4 kV_4 where
  to := fun s us ws _ hl => by
    obtain ⟨oc, od, kV, doc, pm, an, cdv, ct, osl, rfl, _, _⟩ := F.ex
    rcases us with _ | ⟨a0, _⟩ <;> rcases ws with _ | ⟨b0, (_ | ⟨b1, _⟩)⟩ <;> first | (cases hl; done) | exact .of_eq rfl
  rel := fun {vs us zs ws} a b => by
    rcases a with _ | ⟨r0, _ | ⟨r1, _ | ⟨r2, a⟩⟩⟩ <;> rcases b with _ | ⟨q0, _ | ⟨q1, _ | ⟨q2, b⟩⟩⟩ <;> first | exact .nil | exact .cons (by assumption) .nil | (refine .cons (by assumption) (.cons (by assumption) .nil)) | skip
theorem kbo_4 : OrdOk kV_4 kD_4 := fun K H vs ds ws es a b => by
    rcases a with _ | ⟨r0, _ | ⟨r1, _ | ⟨r2, a⟩⟩⟩ <;> rcases b with _ | ⟨q0, _ | ⟨q1, _ | ⟨q2, b⟩⟩⟩ <;> first | exact .nil | exact .cons (by assumption) .nil | (refine .cons (by assumption) (.cons (by assumption) .nil)) | skip
theorem sc_matches_empty : FnScope N_matches_empty ["pattern"] (defScope s_matches_empty) := ⟨rfl, rfl, rfl, by decide +kernel, rfl, by decide +kernel, by decide +kernel⟩
theorem bd_matches_empty {K : PySem.W.Frag} {f : Addr} {fd : FuncData} (F : Fun K "matches_empty" "matches_empty" s_matches_empty f fd) : Binds K fd ["pattern"] [] := F.binds fun _ _ _ _ _ _ us hl => match us, hl with | [_], _ => rfl
set_option maxHeartbeats 4000000 in
theorem ok_matches_empty {P : Program} {w : World} {K : PySem.W.Frag} {mg : Str → Option Value} {base : Heap} {f : Addr} {fd : FuncData} {n : Nat} (T : Txt mg) (F : Fun K "matches_empty" "matches_empty" s_matches_empty f fd) {sp_matches_empty : DSp} (C_matches_empty : Cal P w K mg base (0 + n) "matches_empty" s_matches_empty ["pattern"] sp_matches_empty) {sp : DSp} (len : ∀ ds M Q E, sp ds M Q E → ds.length = 1)
    (h : ∀ ds M Q E, sp ds M Q E → b_matches_empty sp_matches_empty { nx := fun _ M' => Wk Q .non M', rt := Wk Q } (startG N_matches_empty ds) M) : FnOk P w K mg base CX0 (0 + n + 1) f fd ["pattern"] (toSp K sp) := by
  obtain ⟨f_matches_empty, d_matches_empty, G_matches_empty, F_matches_empty, m_matches_empty, k_matches_empty⟩ := C_matches_empty
  have bi_matches_empty := bd_matches_empty F_matches_empty
  refine okD F sc_matches_empty len fun cdv A outer s H E hr => ?_
  exact ⟨_, b_matches_empty sp_matches_empty, scons (sif (tcmp (o_eq hr.units) (dix (dv 0) (dint)) (dstr)) (sone (sret (dbl))) (snil)) (scons (sif (tcmp (o_eq hr.units) (dix (dv 0) (dint)) (dstr)) (sone (sret (dbl))) (snil)) (scons (sif (tcmp (o_eq hr.units) (dix (dv 0) (dint)) (dstr)) (sone (sret (dor (dcall G_matches_empty (hr.mono (by omega)) (by rfl) m_matches_empty k_matches_empty bi_matches_empty (acons (dix (dv 0) (dint)) (anil))) (done1 (dcall G_matches_empty (hr.mono (by omega)) (by rfl) m_matches_empty k_matches_empty bi_matches_empty (acons (dix (dv 0) (dint)) (anil))))))) (snil)) (sone (sret (dand (dcall G_matches_empty (hr.mono (by omega)) (by rfl) m_matches_empty k_matches_empty bi_matches_empty (acons (dix (dv 0) (dint)) (anil))) (done1 (dcall G_matches_empty (hr.mono (by omega)) (by rfl) m_matches_empty k_matches_empty bi_matches_empty (acons (dix (dv 0) (dint)) (anil))))))))), h⟩
theorem sc_tests_of : FnScope N_tests_of ["pattern"] (defScope s_tests_of) := ⟨rfl, rfl, rfl, by decide +kernel, rfl, by decide +kernel, by decide +kernel⟩
theorem bd_tests_of {K : PySem.W.Frag} {f : Addr} {fd : FuncData} (F : Fun K "tests_of" "tests_of" s_tests_of f fd) : Binds K fd ["pattern"] [] := F.binds fun _ _ _ _ _ _ us hl => match us, hl with | [_], _ => rfl
set_option maxHeartbeats 4000000 in
theorem ok_tests_of {P : Program} {w : World} {K : PySem.W.Frag} {mg : Str → Option Value} {base : Heap} {f : Addr} {fd : FuncData} {n : Nat} (T : Txt mg) (F : Fun K "tests_of" "tests_of" s_tests_of f fd) {sp_tests_of : DSp} (C_tests_of : Cal P w K mg base (0 + n) "tests_of" s_tests_of ["pattern"] sp_tests_of) {sp : DSp} (len : ∀ ds M Q E, sp ds M Q E → ds.length = 1)
    (h : ∀ ds M Q E, sp ds M Q E → b_tests_of sp_tests_of { nx := fun _ M' => Wk Q .non M', rt := Wk Q } (startG N_tests_of ds) M) : FnOk P w K mg base CX0 (0 + n + 1) f fd ["pattern"] (toSp K sp) := by
  obtain ⟨f_tests_of, d_tests_of, G_tests_of, F_tests_of, m_tests_of, k_tests_of⟩ := C_tests_of
  have bi_tests_of := bd_tests_of F_tests_of
  refine okD F sc_tests_of len fun cdv A outer s H E hr => ?_
  exact ⟨_, b_tests_of sp_tests_of, scons (sif (tcmp (o_eq hr.units) (dix (dv 0) (dint)) (dstr)) (sone (sret (dlst (acons (dix (dv 0) (dint)) (anil))))) (snil)) (scons (sset (i := 1) sc_tests_of.nd (dlst (anil))) (scons (sfor (own := [2]) PassesOwn.never rfl (iseq (dsl (dv 0) (psome (dint)) (pno))) (gname (i := 2) sc_tests_of.nd) (sone (sexpr (dlm PySem.F.plainAttrs_list PySem.F.slot_list_extend PySem.F.type_list_extend m_extend (dv 1) (acons (dcall G_tests_of (hr.mono (by omega)) (by rfl) m_tests_of k_tests_of bi_tests_of (acons (dv 2) (anil))) (anil)))))) (sone (sret (dv 1))))), h⟩
theorem sc_names_of : FnScope N_names_of ["pattern"] (defScope s_names_of) := ⟨rfl, rfl, rfl, by decide +kernel, rfl, by decide +kernel, by decide +kernel⟩
theorem bd_names_of {K : PySem.W.Frag} {f : Addr} {fd : FuncData} (F : Fun K "names_of" "names_of" s_names_of f fd) : Binds K fd ["pattern"] [] := F.binds fun _ _ _ _ _ _ us hl => match us, hl with | [_], _ => rfl
set_option maxHeartbeats 4000000 in
theorem ok_names_of {P : Program} {w : World} {K : PySem.W.Frag} {mg : Str → Option Value} {base : Heap} {f : Addr} {fd : FuncData} (T : Txt mg) (F : Fun K "names_of" "names_of" s_names_of f fd) {sp_tests_of : DSp} (C_tests_of : Cal P w K mg base 46 "tests_of" s_tests_of ["pattern"] sp_tests_of) {sp : DSp} (len : ∀ ds M Q E, sp ds M Q E → ds.length = 1)
    (h : ∀ ds M Q E, sp ds M Q E → b_names_of sp_tests_of { nx := fun _ M' => Wk Q .non M', rt := Wk Q } (startG N_names_of ds) M) : FnOk P w K mg base CX0 (46 + 1) f fd ["pattern"] (toSp K sp) := by
  obtain ⟨f_tests_of, d_tests_of, G_tests_of, F_tests_of, m_tests_of, k_tests_of⟩ := C_tests_of
  have bi_tests_of := bd_tests_of F_tests_of
  refine okD F sc_names_of len fun cdv A outer s H E hr => ?_
  exact ⟨_, b_names_of sp_tests_of, sone (sret (dcallTy c_tuple (by rfl) T.tuple PySem.Pv.boot_tuple (acons (dlc2 (own := [("tests", 1), ("word", 2), ("name", 3)]) (vs1 := [2, 3]) rfl sc_names_of.nd (iseq (dcall G_tests_of (hr.mono (by decide)) (by rfl) m_tests_of k_tests_of bi_tests_of (acons (dv 0) (anil)))) (show blkC N_names_of (defScope s_names_of) _ _ = true by decide +kernel) (by decide) (fun _ _ _ _ _ => gname (i := 1) sc_names_of.nd) (fun _ _ _ _ _ => tsnil) (fun _ _ _ _ _ => iseq (dv 1)) (fun _ _ _ _ _ => gtup rfl (gscons (gname (i := 2) sc_names_of.nd) (gscons (gname (i := 3) sc_names_of.nd) (gsnil)))) (fun _ _ _ _ _ => tsnil) (fun _ _ _ _ _ => dv 3)) (anil)))), h⟩
theorem sc_pattern_size : FnScope N_pattern_size ["pattern"] (defScope s_pattern_size) := ⟨rfl, rfl, rfl, by decide +kernel, rfl, by decide +kernel, by decide +kernel⟩
theorem bd_pattern_size {K : PySem.W.Frag} {f : Addr} {fd : FuncData} (F : Fun K "pattern_size" "pattern_size" s_pattern_size f fd) : Binds K fd ["pattern"] [] := F.binds fun _ _ _ _ _ _ us hl => match us, hl with | [_], _ => rfl
set_option maxHeartbeats 4000000 in
theorem ok_pattern_size {P : Program} {w : World} {K : PySem.W.Frag} {mg : Str → Option Value} {base : Heap} {f : Addr} {fd : FuncData} (T : Txt mg) (F : Fun K "pattern_size" "pattern_size" s_pattern_size f fd) {sp_tests_of : DSp} (C_tests_of : Cal P w K mg base 46 "tests_of" s_tests_of ["pattern"] sp_tests_of) {sp : DSp} (len : ∀ ds M Q E, sp ds M Q E → ds.length = 1)
    (h : ∀ ds M Q E, sp ds M Q E → b_pattern_size sp_tests_of { nx := fun _ M' => Wk Q .non M', rt := Wk Q } (startG N_pattern_size ds) M) : FnOk P w K mg base CX0 (46 + 1) f fd ["pattern"] (toSp K sp) := by
  obtain ⟨f_tests_of, d_tests_of, G_tests_of, F_tests_of, m_tests_of, k_tests_of⟩ := C_tests_of
  have bi_tests_of := bd_tests_of F_tests_of
  refine okD F sc_pattern_size len fun cdv A outer s H E hr => ?_
  exact ⟨_, b_pattern_size sp_tests_of, sone (sret (dcallB c_len (by rfl) T.len PySem.boot_len (acons (dcall G_tests_of (hr.mono (by decide)) (by rfl) m_tests_of k_tests_of bi_tests_of (acons (dv 0) (anil))) (anil)))), h⟩
theorem sc_pattern_depth : FnScope N_pattern_depth ["pattern"] (defScope s_pattern_depth) := ⟨rfl, rfl, rfl, by decide +kernel, rfl, by decide +kernel, by decide +kernel⟩
theorem bd_pattern_depth {K : PySem.W.Frag} {f : Addr} {fd : FuncData} (F : Fun K "pattern_depth" "pattern_depth" s_pattern_depth f fd) : Binds K fd ["pattern"] [] := F.binds fun _ _ _ _ _ _ us hl => match us, hl with | [_], _ => rfl
set_option maxHeartbeats 4000000 in
theorem ok_pattern_depth {P : Program} {w : World} {K : PySem.W.Frag} {mg : Str → Option Value} {base : Heap} {f : Addr} {fd : FuncData} {n : Nat} (T : Txt mg) (F : Fun K "pattern_depth" "pattern_depth" s_pattern_depth f fd) {sp_pattern_depth : DSp} (C_pattern_depth : Cal P w K mg base (0 + n) "pattern_depth" s_pattern_depth ["pattern"] sp_pattern_depth) {sp : DSp} (len : ∀ ds M Q E, sp ds M Q E → ds.length = 1)
    (h : ∀ ds M Q E, sp ds M Q E → b_pattern_depth sp_pattern_depth { nx := fun _ M' => Wk Q .non M', rt := Wk Q } (startG N_pattern_depth ds) M) : FnOk P w K mg base CX0 (0 + n + 1) f fd ["pattern"] (toSp K sp) := by
  obtain ⟨f_pattern_depth, d_pattern_depth, G_pattern_depth, F_pattern_depth, m_pattern_depth, k_pattern_depth⟩ := C_pattern_depth
  have bi_pattern_depth := bd_pattern_depth F_pattern_depth
  refine okD F sc_pattern_depth len fun cdv A outer s H E hr => ?_
  exact ⟨_, b_pattern_depth sp_pattern_depth, scons (sif (tcmp (o_eq hr.units) (dix (dv 0) (dint)) (dstr)) (sone (sret (dint))) (snil)) (sone (sret (dop o_add (dint) (dcallB (c_max rfl) (by rfl) T.max PyProof.Rows.boot_max (acons (dlc (own := [("part", 1)]) rfl sc_pattern_depth.nd (iseq (dsl (dv 0) (psome (dint)) (pno))) (show blkC N_pattern_depth (defScope s_pattern_depth) _ _ = true by decide +kernel) (fun _ _ _ _ _ => gname (i := 1) sc_pattern_depth.nd) (fun _ _ _ _ _ => tsnil) (fun _ _ _ _ _ => dcall G_pattern_depth (hr.mono (by omega)) (by rfl) m_pattern_depth k_pattern_depth bi_pattern_depth (acons (dv 1) (anil)))) (anil)))))), h⟩
theorem sc_most_of : FnScope N_most_of ["pattern", "ones"] (defScope s_most_of) := ⟨rfl, rfl, rfl, by decide +kernel, rfl, by decide +kernel, by decide +kernel⟩
theorem bd_most_of {K : PySem.W.Frag} {f : Addr} {fd : FuncData} (F : Fun K "most_of" "most_of" s_most_of f fd) : Binds K fd ["pattern", "ones"] [] := F.binds fun _ _ _ _ _ _ us hl => match us, hl with | [_, _], _ => rfl
set_option maxHeartbeats 4000000 in
theorem ok_most_of {P : Program} {w : World} {K : PySem.W.Frag} {mg : Str → Option Value} {base : Heap} {f : Addr} {fd : FuncData} (T : Txt mg) (F : Fun K "most_of" "most_of" s_most_of f fd) {sp : DSp} (len : ∀ ds M Q E, sp ds M Q E → ds.length = 2)
    (h : ∀ ds M Q E, sp ds M Q E → b_most_of { nx := fun _ M' => Wk Q .non M', rt := Wk Q } (startG N_most_of ds) M) : FnOk P w K mg base CX0 (0 + 1) f fd ["pattern", "ones"] (toSp K sp) := by
  refine okD F sc_most_of len fun cdv A outer s H E hr => ?_
  exact ⟨_, b_most_of, scons (sif (tcmp (o_eq hr.units) (dix (dv 0) (dint)) (dstr)) (sone (sret (dif (tcmp (o_eq hr.units) (dix (dv 1) (dint)) (dint)) (dint) (dnon)))) (snil)) (scons (sif ((wor (tcmp o_is (dix (dv 1) (dint)) (dnon)) (wor1 (tcmp o_is (dix (dv 1) (dint)) (dnon)))).pt) (sone (sret (dnon))) (snil)) (sone (sret (dif (tcmp (o_eq hr.units) (dix (dv 0) (dint)) (dstr)) (dcallB (c_max rfl) (by rfl) T.max PyProof.Rows.boot_max (acons (dv 1) (anil))) (dcallB (c_sum rfl) (by rfl) T.sum PyProof.Rows.boot_sum (acons (dv 1) (anil))))))), h⟩
theorem sc_sequence_of : FnScope N_sequence_of ["pattern"] (defScope s_sequence_of) := ⟨rfl, rfl, rfl, by decide +kernel, rfl, by decide +kernel, by decide +kernel⟩
theorem bd_sequence_of {K : PySem.W.Frag} {f : Addr} {fd : FuncData} (F : Fun K "sequence_of" "sequence_of" s_sequence_of f fd) : Binds K fd ["pattern"] [] := F.binds fun _ _ _ _ _ _ us hl => match us, hl with | [_], _ => rfl
set_option maxHeartbeats 4000000 in
theorem ok_sequence_of {P : Program} {w : World} {K : PySem.W.Frag} {mg : Str → Option Value} {base : Heap} {f : Addr} {fd : FuncData} {n : Nat} (T : Txt mg) (F : Fun K "sequence_of" "sequence_of" s_sequence_of f fd) {sp_sequence_of : DSp} (C_sequence_of : Cal P w K mg base (1 + n) "sequence_of" s_sequence_of ["pattern"] sp_sequence_of) {sp_most_of : DSp} (C_most_of : Cal P w K mg base 1 "most_of" s_most_of ["pattern", "ones"] sp_most_of) {sp : DSp} (len : ∀ ds M Q E, sp ds M Q E → ds.length = 1)
    (h : ∀ ds M Q E, sp ds M Q E → b_sequence_of sp_sequence_of sp_most_of { nx := fun _ M' => Wk Q .non M', rt := Wk Q } (startG N_sequence_of ds) M) : FnOk P w K mg base CX0 (1 + n + 1) f fd ["pattern"] (toSp K sp) := by
  obtain ⟨f_sequence_of, d_sequence_of, G_sequence_of, F_sequence_of, m_sequence_of, k_sequence_of⟩ := C_sequence_of
  have bi_sequence_of := bd_sequence_of F_sequence_of
  obtain ⟨f_most_of, d_most_of, G_most_of, F_most_of, m_most_of, k_most_of⟩ := C_most_of
  have bi_most_of := bd_most_of F_most_of
  refine okD F sc_sequence_of len fun cdv A outer s H E hr => ?_
  exact ⟨_, b_sequence_of sp_sequence_of sp_most_of, scons (sif (tcmp (o_eq hr.units) (dix (dv 0) (dint)) (dstr)) (sone (sret (dtup (acons (dint) (acons (dint) (anil)))))) (snil)) (scons (ssetLc (i := 1) (own := [("part", 4)]) rfl sc_sequence_of.nd (iseq (dsl (dv 0) (psome (dint)) (pno))) (show blkC N_sequence_of (defScope s_sequence_of) _ _ = true by decide +kernel) (fun _ _ _ _ _ => gname (i := 4) sc_sequence_of.nd) (fun _ _ _ _ _ => tsnil) (fun _ _ _ _ _ => dcall G_sequence_of (hr.mono (by omega)) (by rfl) m_sequence_of k_sequence_of bi_sequence_of (acons (dv 4) (anil)))) (scons (ssetLc (i := 2) (own := [("pair", 5)]) rfl sc_sequence_of.nd (iseq (dv 1)) (show blkC N_sequence_of (defScope s_sequence_of) _ _ = true by decide +kernel) (fun _ _ _ _ _ => gname (i := 5) sc_sequence_of.nd) (fun _ _ _ _ _ => tsnil) (fun _ _ _ _ _ => dix (dv 5) (dint))) (scons (sset (i := 3) sc_sequence_of.nd (dcall G_most_of (hr.mono (by omega)) (by rfl) m_most_of k_most_of bi_most_of (acons (dv 0) (acons (dlc (own := [("pair", 5)]) rfl sc_sequence_of.nd (iseq (dv 1)) (show blkC N_sequence_of (defScope s_sequence_of) _ _ = true by decide +kernel) (fun _ _ _ _ _ => gname (i := 5) sc_sequence_of.nd) (fun _ _ _ _ _ => tsnil) (fun _ _ _ _ _ => dix (dv 5) (dint))) (anil))))) (scons (sif (tcmp (o_eq hr.units) (dix (dv 0) (dint)) (dstr)) (sone (sret (dtup (acons (dint) (acons (dv 3) (anil)))))) (snil)) (sone (sret (dtup (acons (dif (tcmp (o_eq hr.units) (dix (dv 0) (dint)) (dstr)) (dcallB (c_min rfl) (by rfl) T.min PyProof.Rows.boot_min (acons (dv 2) (anil))) (dcallB (c_sum rfl) (by rfl) T.sum PyProof.Rows.boot_sum (acons (dv 2) (anil)))) (acons (dv 3) (anil)))))))))), h⟩
theorem sc__law_drum : FnScope N__law_drum ["script"] (defScope s__law_drum) := ⟨rfl, rfl, rfl, by decide +kernel, rfl, by decide +kernel, by decide +kernel⟩
theorem bd__law_drum {K : PySem.W.Frag} {f : Addr} {fd : FuncData} (F : Fun K "_law_drum" "_law_drum" s__law_drum f fd) : Binds K fd ["script"] [] := F.binds fun _ _ _ _ _ _ us hl => match us, hl with | [_], _ => rfl
set_option maxHeartbeats 4000000 in
theorem ok__law_drum {P : Program} {w : World} {K : PySem.W.Frag} {mg : Str → Option Value} {base : Heap} {f : Addr} {fd : FuncData} (T : Txt mg) (F : Fun K "_law_drum" "_law_drum" s__law_drum f fd) {sp : DSp} (len : ∀ ds M Q E, sp ds M Q E → ds.length = 1)
    (h : ∀ ds M Q E, sp ds M Q E → b__law_drum { nx := fun _ M' => Wk Q .non M', rt := Wk Q } (startG N__law_drum ds) M) : FnOk P w K mg base CX0 (0 + 1) f fd ["script"] (toSp K sp) := by
  refine okD F sc__law_drum len fun cdv A outer s H E hr => ?_
  exact ⟨_, b__law_drum, scons (sset (i := 1) sc__law_drum.nd (dop o_mul (dop o_mul (dop o_mul (dop o_mul (dop o_pow (dint) (dint)) (dop o_pow (dint) (dint))) (dop o_pow (dint) (dint))) (dop o_pow (dint) (dint))) (dop o_pow (dint) (dint)))) (sone (sret (dlst (acons (dlc (own := [("cell", 2)]) rfl sc__law_drum.nd (iseq (dsl (dv 0) (pno) (psome (dint)))) (show blkC N__law_drum (defScope s__law_drum) _ _ = true by decide +kernel) (fun _ _ _ _ _ => gname (i := 2) sc__law_drum.nd) (fun _ _ _ _ _ => tsnil) (fun _ _ _ _ _ => dop o_mod (dcallTy c_int (by rfl) T.int PySem.Pv.boot_int (acons (dv 2) (anil))) (dv 1))) (acons (dint) (acons (dint) (anil))))))), h⟩
theorem sc__law_pull : FnScope N__law_pull ["drum", "many"] (defScope s__law_pull) := ⟨rfl, rfl, rfl, by decide +kernel, rfl, by decide +kernel, by decide +kernel⟩
theorem bd__law_pull {K : PySem.W.Frag} {f : Addr} {fd : FuncData} (F : Fun K "_law_pull" "_law_pull" s__law_pull f fd) : Binds K fd ["drum", "many"] [] := F.binds fun _ _ _ _ _ _ us hl => match us, hl with | [_, _], _ => rfl
set_option maxHeartbeats 4000000 in
theorem ok__law_pull {P : Program} {w : World} {K : PySem.W.Frag} {mg : Str → Option Value} {base : Heap} {f : Addr} {fd : FuncData} (T : Txt mg) (F : Fun K "_law_pull" "_law_pull" s__law_pull f fd) {sp : DSp} (len : ∀ ds M Q E, sp ds M Q E → ds.length = 2)
    (h : ∀ ds M Q E, sp ds M Q E → b__law_pull { nx := fun _ M' => Wk Q .non M', rt := Wk Q } (startG N__law_pull ds) M) : FnOk P w K mg base CX0 (0 + 1) f fd ["drum", "many"] (toSp K sp) := by
  refine okD F sc__law_pull len fun cdv A outer s H E hr => ?_
  exact ⟨_, b__law_pull, scons (sset (i := 2) sc__law_pull.nd (dix (dv 0) (dint))) (scons (ssetL (dv 0) (dint) (dop o_add (dix (dv 0) (dint)) (dint))) (scons (sset (i := 3) sc__law_pull.nd (dcallTy c_int (by rfl) T.int PySem.Pv.boot_int (acons (dix (dv 0) (dint)) (anil)))) (scons (sset (i := 4) sc__law_pull.nd (dint)) (scons (sif (tcmp o_gt (dcallB c_len (by rfl) T.len PySem.boot_len (acons (dv 2) (anil))) (dint)) (scons (sset (i := 6) sc__law_pull.nd (dop o_mod (dcallTy c_int (by rfl) T.int PySem.Pv.boot_int (acons (dix (dv 0) (dint)) (anil))) (dcallB c_len (by rfl) T.len PySem.boot_len (acons (dv 2) (anil))))) (scons (sset (i := 4) sc__law_pull.nd (dix (dv 2) (dv 6))) (scons (sif (tcmp o_ge (dv 4) (dop o_pow (dint) (dint))) (scons (ssetL (dv 2) (dv 6) (dop o_fdiv (dv 4) (dv 1))) (sone (sret (dop o_mod (dcallTy c_int (by rfl) T.int PySem.Pv.boot_int (acons (dv 4) (anil))) (dv 1))))) (snil)) (sone (ssetL (dv 0) (dint) (dop o_add (dv 6) (dint))))))) (snil)) (scons (sset (i := 5) sc__law_pull.nd (dop o_mod (dcallTy c_int (by rfl) T.int PySem.Pv.boot_int (acons (dop o_add (dop o_add (dop o_mul (dv 4) (dint)) (dop o_mul (dv 3) (dint))) (dint)) (anil))) (dint))) (scons (sset (i := 5) sc__law_pull.nd (dop o_mod (dcallTy c_int (by rfl) T.int PySem.Pv.boot_int (acons (dop o_add (dop o_add (dop o_mul (dv 5) (dop o_add (dop o_mod (dv 3) (dint)) (dint))) (dop o_mul (dv 4) (dint))) (dv 3)) (anil))) (dint))) (scons (sset (i := 5) sc__law_pull.nd (dop o_mod (dcallTy c_int (by rfl) T.int PySem.Pv.boot_int (acons (dop o_add (dop o_mul (dv 5) (dv 5)) (dop o_mul (dv 3) (dint))) (anil))) (dint))) (sone (sret (dop o_mod (dcallTy c_int (by rfl) T.int PySem.Pv.boot_int (acons (dop o_fdiv (dv 5) (dint)) (anil))) (dv 1))))))))))), h⟩
theorem sc__law_whole : FnScope N__law_whole ["value"] (defScope s__law_whole) := ⟨rfl, rfl, rfl, by decide +kernel, rfl, by decide +kernel, by decide +kernel⟩
theorem bd__law_whole {K : PySem.W.Frag} {f : Addr} {fd : FuncData} (F : Fun K "_law_whole" "_law_whole" s__law_whole f fd) : Binds K fd ["value"] [] := F.binds fun _ _ _ _ _ _ us hl => match us, hl with | [_], _ => rfl
set_option maxHeartbeats 4000000 in
theorem ok__law_whole {P : Program} {w : World} {K : PySem.W.Frag} {mg : Str → Option Value} {base : Heap} {f : Addr} {fd : FuncData} (T : Txt mg) (F : Fun K "_law_whole" "_law_whole" s__law_whole f fd) {sp : DSp} (len : ∀ ds M Q E, sp ds M Q E → ds.length = 1)
    (h : ∀ ds M Q E, sp ds M Q E → b__law_whole { nx := fun _ M' => Wk Q .non M', rt := Wk Q } (startG N__law_whole ds) M) : FnOk P w K mg base CX0 (0 + 1) f fd ["value"] (toSp K sp) := by
  refine okD F sc__law_whole len fun cdv A outer s H E hr => ?_
  exact ⟨_, b__law_whole, sone (sret (dand (disi (T := "int") (dv 0) (by rfl) T.isinstance PyProof.Rows.boot_isinstance (by rfl) T.int PySem.Pv.boot_int) (done1 (dnot (disi (T := "bool") (dv 0) (by rfl) T.isinstance PyProof.Rows.boot_isinstance (by rfl) T.bool PySem.Pv.boot_bool))))), h⟩
theorem sc__law_name : FnScope N__law_name ["drum"] (defScope s__law_name) := ⟨rfl, rfl, rfl, by decide +kernel, rfl, by decide +kernel, by decide +kernel⟩
theorem bd__law_name {K : PySem.W.Frag} {f : Addr} {fd : FuncData} (F : Fun K "_law_name" "_law_name" s__law_name f fd) : Binds K fd ["drum"] [] := F.binds fun _ _ _ _ _ _ us hl => match us, hl with | [_], _ => rfl
set_option maxHeartbeats 4000000 in
theorem ok__law_name {P : Program} {w : World} {K : PySem.W.Frag} {mg : Str → Option Value} {base : Heap} {f : Addr} {fd : FuncData} (T : Txt mg) (F : Fun K "_law_name" "_law_name" s__law_name f fd) {sp__law_pull : DSp} (C__law_pull : Cal P w K mg base 1 "_law_pull" s__law_pull ["drum", "many"] sp__law_pull) {sp : DSp} (len : ∀ ds M Q E, sp ds M Q E → ds.length = 1)
    (h : ∀ ds M Q E, sp ds M Q E → b__law_name sp__law_pull { nx := fun _ M' => Wk Q .non M', rt := Wk Q } (startG N__law_name ds) M) : FnOk P w K mg base CX0 (1 + 1) f fd ["drum"] (toSp K sp) := by
  obtain ⟨f__law_pull, d__law_pull, G__law_pull, F__law_pull, m__law_pull, k__law_pull⟩ := C__law_pull
  have bi__law_pull := bd__law_pull F__law_pull
  refine okD F sc__law_name len fun cdv A outer s H E hr => ?_
  exact ⟨_, b__law_name sp__law_pull, scons (sset (i := 1) sc__law_name.nd (dstr)) (scons (sset (i := 2) sc__law_name.nd (dop o_add (dv 1) (dstr))) (scons (sset (i := 3) sc__law_name.nd (dlst (acons (dstr) (acons (dstr) (acons (dstr) (acons (dstr) (acons (dstr) (acons (dstr) (acons (dstr) (acons (dstr) (acons (dstr) (acons (dstr) (acons (dstr) (anil)))))))))))))) (scons (sif (tcmp (o_eq hr.units) (dcall G__law_pull (hr.mono (by decide)) (by rfl) m__law_pull k__law_pull bi__law_pull (acons (dv 0) (acons (dint) (anil)))) (dint)) (sone (sret (dix (dv 3) (dcall G__law_pull (hr.mono (by decide)) (by rfl) m__law_pull k__law_pull bi__law_pull (acons (dv 0) (acons (dcallB c_len (by rfl) T.len PySem.boot_len (acons (dv 3) (anil))) (anil))))))) (snil)) (scons (sset (i := 4) sc__law_name.nd (dop o_add (dstr) (dix (dv 1) (dcall G__law_pull (hr.mono (by decide)) (by rfl) m__law_pull k__law_pull bi__law_pull (acons (dv 0) (acons (dint) (anil))))))) (scons (sfor (own := [5]) PassesOwn.never rfl (irange1 (by rfl) T.range (acons (dcall G__law_pull (hr.mono (by decide)) (by rfl) m__law_pull k__law_pull bi__law_pull (acons (dv 0) (acons (dint) (anil)))) (anil))) (gname (i := 5) sc__law_name.nd) (sone (sset (i := 4) sc__law_name.nd (dop o_add (dv 4) (dix (dv 2) (dcall G__law_pull (hr.mono (by decide)) (by rfl) m__law_pull k__law_pull bi__law_pull (acons (dv 0) (acons (dint) (anil))))))))) (sone (sret (dv 4)))))))), h⟩
theorem sc__law_test : FnScope N__law_test ["drum"] (defScope s__law_test) := ⟨rfl, rfl, rfl, by decide +kernel, rfl, by decide +kernel, by decide +kernel⟩
theorem bd__law_test {K : PySem.W.Frag} {f : Addr} {fd : FuncData} (F : Fun K "_law_test" "_law_test" s__law_test f fd) : Binds K fd ["drum"] [] := F.binds fun _ _ _ _ _ _ us hl => match us, hl with | [_], _ => rfl
set_option maxHeartbeats 4000000 in
theorem ok__law_test {P : Program} {w : World} {K : PySem.W.Frag} {mg : Str → Option Value} {base : Heap} {f : Addr} {fd : FuncData} (T : Txt mg) (F : Fun K "_law_test" "_law_test" s__law_test f fd) {sp__law_pull : DSp} (C__law_pull : Cal P w K mg base 1 "_law_pull" s__law_pull ["drum", "many"] sp__law_pull) {sp__law_name : DSp} (C__law_name : Cal P w K mg base 2 "_law_name" s__law_name ["drum"] sp__law_name) {sp : DSp} (len : ∀ ds M Q E, sp ds M Q E → ds.length = 1)
    (h : ∀ ds M Q E, sp ds M Q E → b__law_test sp__law_pull sp__law_name { nx := fun _ M' => Wk Q .non M', rt := Wk Q } (startG N__law_test ds) M) : FnOk P w K mg base CX0 (2 + 1) f fd ["drum"] (toSp K sp) := by
  obtain ⟨f__law_pull, d__law_pull, G__law_pull, F__law_pull, m__law_pull, k__law_pull⟩ := C__law_pull
  have bi__law_pull := bd__law_pull F__law_pull
  obtain ⟨f__law_name, d__law_name, G__law_name, F__law_name, m__law_name, k__law_name⟩ := C__law_name
  have bi__law_name := bd__law_name F__law_name
  refine okD F sc__law_test len fun cdv A outer s H E hr => ?_
  exact ⟨_, b__law_test sp__law_pull sp__law_name, scons (sset (i := 1) sc__law_test.nd (dix (dtup (acons (dint) (acons (dint) (acons (dint) (acons (dint) (acons (dint) (acons (dcall G__law_pull (hr.mono (by decide)) (by rfl) m__law_pull k__law_pull bi__law_pull (acons (dv 0) (acons (dint) (anil)))) (anil)))))))) (dcall G__law_pull (hr.mono (by decide)) (by rfl) m__law_pull k__law_pull bi__law_pull (acons (dv 0) (acons (dint) (anil)))))) (scons (sset (i := 2) sc__law_test.nd (dlst (anil))) (scons (sfor (own := [3]) PassesOwn.never rfl (irange1 (by rfl) T.range (acons (dv 1) (anil))) (gname (i := 3) sc__law_test.nd) (sone (sexpr (dlm PySem.F.plainAttrs_list PySem.F.slot_list_append PySem.F.type_list_append m_append (dv 2) (acons (dtup (acons (dix (dtup (acons (dstr) (acons (dstr) (anil)))) (dcall G__law_pull (hr.mono (by decide)) (by rfl) m__law_pull k__law_pull bi__law_pull (acons (dv 0) (acons (dint) (anil))))) (acons (dcall G__law_name (hr.mono (by decide)) (by rfl) m__law_name k__law_name bi__law_name (acons (dv 0) (anil))) (anil)))) (anil)))))) (scons (sif ((wand (tcmp o_gt (dv 1) (dint)) (wand1 (tcmp (o_eq hr.units) (dcall G__law_pull (hr.mono (by decide)) (by rfl) m__law_pull k__law_pull bi__law_pull (acons (dv 0) (acons (dint) (anil)))) (dint)))).pt) (sone (ssetL (dv 2) (dint) (dix (dv 2) (dop o_sub (dv 1) (dint))))) (snil)) (sone (sret (dtup (acons (dstr) (acons (dcallTy c_tuple (by rfl) T.tuple PySem.Pv.boot_tuple (acons (dv 2) (anil))) (anil))))))))), h⟩
theorem sc__law_pattern : FnScope N__law_pattern ["drum", "many", "most"] (defScope s__law_pattern) := ⟨rfl, rfl, rfl, by decide +kernel, rfl, by decide +kernel, by decide +kernel⟩
theorem bd__law_pattern {K : PySem.W.Frag} {f : Addr} {fd : FuncData} (F : Fun K "_law_pattern" "_law_pattern" s__law_pattern f fd) : Binds K fd ["drum", "many", "most"] [] := F.binds fun _ _ _ _ _ _ us hl => match us, hl with | [_, _, _], _ => rfl
set_option maxHeartbeats 4000000 in
theorem ok__law_pattern {P : Program} {w : World} {K : PySem.W.Frag} {mg : Str → Option Value} {base : Heap} {f : Addr} {fd : FuncData} (T : Txt mg) (F : Fun K "_law_pattern" "_law_pattern" s__law_pattern f fd) {sp__law_test : DSp} (C__law_test : Cal P w K mg base 3 "_law_test" s__law_test ["drum"] sp__law_test) {sp__law_pull : DSp} (C__law_pull : Cal P w K mg base 1 "_law_pull" s__law_pull ["drum", "many"] sp__law_pull) {sp : DSp} (len : ∀ ds M Q E, sp ds M Q E → ds.length = 3)
    (h : ∀ ds M Q E, sp ds M Q E → b__law_pattern sp__law_test sp__law_pull { nx := fun _ M' => Wk Q .non M', rt := Wk Q } (startG N__law_pattern ds) M) : FnOk P w K mg base CX0 (3 + 1) f fd ["drum", "many", "most"] (toSp K sp) := by
  obtain ⟨f__law_test, d__law_test, G__law_test, F__law_test, m__law_test, k__law_test⟩ := C__law_test
  have bi__law_test := bd__law_test F__law_test
  obtain ⟨f__law_pull, d__law_pull, G__law_pull, F__law_pull, m__law_pull, k__law_pull⟩ := C__law_pull
  have bi__law_pull := bd__law_pull F__law_pull
  refine okD F sc__law_pattern len fun cdv A outer s H E hr => ?_
  exact ⟨_, b__law_pattern sp__law_test sp__law_pull, scons (ssetLc (i := 3) (own := [("turn", 4)]) rfl sc__law_pattern.nd (irange1 (by rfl) T.range (acons (dv 1) (anil))) (show blkC N__law_pattern (defScope s__law_pattern) _ _ = true by decide +kernel) (fun _ _ _ _ _ => gname (i := 4) sc__law_pattern.nd) (fun _ _ _ _ _ => tsnil) (fun _ _ _ _ _ => dtup (acons (dcall G__law_test (hr.mono (by decide)) (by rfl) m__law_test k__law_test bi__law_test (acons (dv 0) (anil))) (acons (dint) (anil))))) (scons (sfor (own := [4]) PassesOwn.never rfl (irange1 (by rfl) T.range (acons (dint) (anil))) (gname (i := 4) sc__law_pattern.nd) (scons (sset (i := 5) sc__law_pattern.nd (dcall G__law_pull (hr.mono (by decide)) (by rfl) m__law_pull k__law_pull bi__law_pull (acons (dv 0) (acons (dcallB c_len (by rfl) T.len PySem.boot_len (acons (dv 3) (anil))) (anil))))) (scons (sasg (own := [6, 7]) (dix (dv 3) (dv 5)) (gtup rfl (gscons (gname (i := 6) sc__law_pattern.nd) (gscons (gname (i := 7) sc__law_pattern.nd) (gsnil))))) (scons (sset (i := 8) sc__law_pattern.nd (dcall G__law_pull (hr.mono (by decide)) (by rfl) m__law_pull k__law_pull bi__law_pull (acons (dv 0) (acons (dint) (anil))))) (scons (sif ((wand (tcmp (o_eq hr.units) (dcallB c_len (by rfl) T.len PySem.boot_len (acons (dv 3) (anil))) (dint)) (wand1 (tcmp o_gt (dv 8) (dint)))).pt) (sone (sbreak)) (snil)) (sone (sif ((wand (tcmp (o_eq hr.units) (dv 8) (dint)) (wand1 (tcmp o_lt (dop o_add (dv 7) (dcallB c_len (by rfl) T.len PySem.boot_len (acons (dv 3) (anil)))) (dv 2)))).pt) (sone (ssetL (dv 3) (dv 5) (dtup (acons (dtup (acons (dstr) (acons (dv 6) (anil)))) (acons (dop o_add (dv 7) (dint)) (anil)))))) (sone (sif (tcmp o_gt (dcallB c_len (by rfl) T.len PySem.boot_len (acons (dv 3) (anil))) (dint)) (scons (sset (i := 5) sc__law_pattern.nd (dcallB (c_min rfl) (by rfl) T.min PyProof.Rows.boot_min (acons (dv 5) (acons (dop o_sub (dcallB c_len (by rfl) T.len PySem.boot_len (acons (dv 3) (anil))) (dint)) (anil))))) (scons (sasg (own := [10, 11]) (dix (dv 3) (dv 5)) (gtup rfl (gscons (gname (i := 10) sc__law_pattern.nd) (gscons (gname (i := 11) sc__law_pattern.nd) (gsnil))))) (scons (sasg (own := [12, 13]) (dix (dv 3) (dop o_add (dv 5) (dint))) (gtup rfl (gscons (gname (i := 12) sc__law_pattern.nd) (gscons (gname (i := 13) sc__law_pattern.nd) (gsnil))))) (scons (sset (i := 14) sc__law_pattern.nd (dix (dtup (acons (dstr) (acons (dstr) (anil)))) (dop o_mod (dcallTy c_int (by rfl) T.int PySem.Pv.boot_int (acons (dv 8) (anil))) (dint)))) (sone (sif (tcmp o_le (dop o_add (dcallB (c_max rfl) (by rfl) T.max PyProof.Rows.boot_max (acons (dv 11) (acons (dv 13) (anil)))) (dint)) (dop o_sub (dv 2) (dop o_sub (dcallB c_len (by rfl) T.len PySem.boot_len (acons (dv 3) (anil))) (dint)))) (sone (sset (i := 3) sc__law_pattern.nd (dop o_add (dop o_add (dsl (dv 3) (pno) (psome (dv 5))) (dlst (acons (dtup (acons (dtup (acons (dv 14) (acons (dv 10) (acons (dv 12) (anil))))) (acons (dop o_add (dcallB (c_max rfl) (by rfl) T.max PyProof.Rows.boot_max (acons (dv 11) (acons (dv 13) (anil)))) (dint)) (anil)))) (anil)))) (dsl (dv 3) (psome (dop o_add (dv 5) (dint))) (pno))))) (snil))))))) (snil)))))))))) (scons (sfor (own := [4]) PassesOwn.never rfl (irange1 (by rfl) T.range (acons (dcallB c_len (by rfl) T.len PySem.boot_len (acons (dv 3) (anil))) (anil))) (gname (i := 4) sc__law_pattern.nd) (sone (sif (tcmp o_gt (dcallB c_len (by rfl) T.len PySem.boot_len (acons (dv 3) (anil))) (dint)) (scons (sset (i := 5) sc__law_pattern.nd (dint)) (scons (sfor (own := [9]) PassesOwn.never rfl (irange1 (by rfl) T.range (acons (dop o_sub (dcallB c_len (by rfl) T.len PySem.boot_len (acons (dv 3) (anil))) (dint)) (anil))) (gname (i := 9) sc__law_pattern.nd) (sone (sif (tcmp o_lt (dcallB (c_max rfl) (by rfl) T.max PyProof.Rows.boot_max (acons (dix (dix (dv 3) (dv 9)) (dint)) (acons (dix (dix (dv 3) (dop o_add (dv 9) (dint))) (dint)) (anil)))) (dcallB (c_max rfl) (by rfl) T.max PyProof.Rows.boot_max (acons (dix (dix (dv 3) (dv 5)) (dint)) (acons (dix (dix (dv 3) (dop o_add (dv 5) (dint))) (dint)) (anil))))) (sone (sset (i := 5) sc__law_pattern.nd (dv 9))) (snil)))) (scons (sasg (own := [10, 11]) (dix (dv 3) (dv 5)) (gtup rfl (gscons (gname (i := 10) sc__law_pattern.nd) (gscons (gname (i := 11) sc__law_pattern.nd) (gsnil))))) (scons (sasg (own := [12, 13]) (dix (dv 3) (dop o_add (dv 5) (dint))) (gtup rfl (gscons (gname (i := 12) sc__law_pattern.nd) (gscons (gname (i := 13) sc__law_pattern.nd) (gsnil))))) (sone (sset (i := 3) sc__law_pattern.nd (dop o_add (dop o_add (dsl (dv 3) (pno) (psome (dv 5))) (dlst (acons (dtup (acons (dtup (acons (dstr) (acons (dv 10) (acons (dv 12) (anil))))) (acons (dop o_add (dcallB (c_max rfl) (by rfl) T.max PyProof.Rows.boot_max (acons (dv 11) (acons (dv 13) (anil)))) (dint)) (anil)))) (anil)))) (dsl (dv 3) (psome (dop o_add (dv 5) (dint))) (pno))))))))) (snil)))) (sone (sret (dix (dix (dv 3) (dint)) (dint)))))), h⟩
theorem sc__law_chain : FnScope N__law_chain ["drum", "many", "deep"] (defScope s__law_chain) := ⟨rfl, rfl, rfl, by decide +kernel, rfl, by decide +kernel, by decide +kernel⟩
theorem bd__law_chain {K : PySem.W.Frag} {f : Addr} {fd : FuncData} (F : Fun K "_law_chain" "_law_chain" s__law_chain f fd) : Binds K fd ["drum", "many", "deep"] [] := F.binds fun _ _ _ _ _ _ us hl => match us, hl with | [_, _, _], _ => rfl
set_option maxHeartbeats 4000000 in
theorem ok__law_chain {P : Program} {w : World} {K : PySem.W.Frag} {mg : Str → Option Value} {base : Heap} {f : Addr} {fd : FuncData} (T : Txt mg) (F : Fun K "_law_chain" "_law_chain" s__law_chain f fd) {sp__law_test : DSp} (C__law_test : Cal P w K mg base 3 "_law_test" s__law_test ["drum"] sp__law_test) {sp__law_pull : DSp} (C__law_pull : Cal P w K mg base 1 "_law_pull" s__law_pull ["drum", "many"] sp__law_pull) {sp : DSp} (len : ∀ ds M Q E, sp ds M Q E → ds.length = 3)
    (h : ∀ ds M Q E, sp ds M Q E → b__law_chain sp__law_test sp__law_pull { nx := fun _ M' => Wk Q .non M', rt := Wk Q } (startG N__law_chain ds) M) : FnOk P w K mg base CX0 (3 + 1) f fd ["drum", "many", "deep"] (toSp K sp) := by
  obtain ⟨f__law_test, d__law_test, G__law_test, F__law_test, m__law_test, k__law_test⟩ := C__law_test
  have bi__law_test := bd__law_test F__law_test
  obtain ⟨f__law_pull, d__law_pull, G__law_pull, F__law_pull, m__law_pull, k__law_pull⟩ := C__law_pull
  have bi__law_pull := bd__law_pull F__law_pull
  refine okD F sc__law_chain len fun cdv A outer s H E hr => ?_
  exact ⟨_, b__law_chain sp__law_test sp__law_pull, scons (sset (i := 3) sc__law_chain.nd (dcall G__law_test (hr.mono (by decide)) (by rfl) m__law_test k__law_test bi__law_test (acons (dv 0) (anil)))) (scons (sset (i := 4) sc__law_chain.nd (dop o_sub (dv 2) (dint))) (scons (sset (i := 5) sc__law_chain.nd (dop o_sub (dv 1) (dint))) (scons (sfor (own := [6]) PassesOwn.never rfl (irange1 (by rfl) T.range (acons (dop o_sub (dv 2) (dint)) (anil))) (gname (i := 6) sc__law_chain.nd) (scons (sif ((wand (tcmp o_gt (dv 5) (dint)) (wand1 (tcmp o_gt (dcall G__law_pull (hr.mono (by decide)) (by rfl) m__law_pull k__law_pull bi__law_pull (acons (dv 0) (acons (dint) (anil)))) (dint)))).pt) (scons (sset (i := 7) sc__law_chain.nd (dix (dtup (acons (dstr) (acons (dstr) (anil)))) (dcall G__law_pull (hr.mono (by decide)) (by rfl) m__law_pull k__law_pull bi__law_pull (acons (dv 0) (acons (dint) (anil)))))) (scons (sset (i := 8) sc__law_chain.nd (dcall G__law_test (hr.mono (by decide)) (by rfl) m__law_test k__law_test bi__law_test (acons (dv 0) (anil)))) (scons (sset (i := 5) sc__law_chain.nd (dop o_sub (dv 5) (dint))) (sone (sset (i := 3) sc__law_chain.nd (dix (dtup (acons (dtup (acons (dv 7) (acons (dv 3) (acons (dv 8) (anil))))) (acons (dtup (acons (dv 7) (acons (dv 8) (acons (dv 3) (anil))))) (anil)))) (dcall G__law_pull (hr.mono (by decide)) (by rfl) m__law_pull k__law_pull bi__law_pull (acons (dv 0) (acons (dint) (anil)))))))))) (sone (sset (i := 3) sc__law_chain.nd (dtup (acons (dstr) (acons (dv 3) (anil))))))) (sone (sset (i := 4) sc__law_chain.nd (dop o_sub (dv 4) (dint)))))) (sone (sret (dv 3)))))), h⟩
theorem sc__law_nodes : FnScope N__law_nodes ["pattern"] (defScope s__law_nodes) := ⟨rfl, rfl, rfl, by decide +kernel, rfl, by decide +kernel, by decide +kernel⟩
theorem bd__law_nodes {K : PySem.W.Frag} {f : Addr} {fd : FuncData} (F : Fun K "_law_nodes" "_law_nodes" s__law_nodes f fd) : Binds K fd ["pattern"] [] := F.binds fun _ _ _ _ _ _ us hl => match us, hl with | [_], _ => rfl
set_option maxHeartbeats 4000000 in
theorem ok__law_nodes {P : Program} {w : World} {K : PySem.W.Frag} {mg : Str → Option Value} {base : Heap} {f : Addr} {fd : FuncData} (T : Txt mg) (F : Fun K "_law_nodes" "_law_nodes" s__law_nodes f fd) {sp : DSp} (len : ∀ ds M Q E, sp ds M Q E → ds.length = 1)
    (h : ∀ ds M Q E, sp ds M Q E → b__law_nodes { nx := fun _ M' => Wk Q .non M', rt := Wk Q } (startG N__law_nodes ds) M) : FnOk P w K mg base CX0 (0 + 1) f fd ["pattern"] (toSp K sp) := by
  refine okD F sc__law_nodes len fun cdv A outer s H E hr => ?_
  exact ⟨_, b__law_nodes, scons (sset (i := 1) sc__law_nodes.nd (dlst (acons (dv 0) (anil)))) (scons (sset (i := 2) sc__law_nodes.nd (dlst (anil))) (scons (sfor (own := [3]) PassesOwn.never rfl (irange1 (by rfl) T.range (acons (dint) (anil))) (gname (i := 3) sc__law_nodes.nd) (scons (sif (tcmp o_ge (dv 3) (dcallB c_len (by rfl) T.len PySem.boot_len (acons (dv 1) (anil)))) (sone (sbreak)) (snil)) (scons (sset (i := 4) sc__law_nodes.nd (dix (dv 1) (dv 3))) (scons (sset (i := 5) sc__law_nodes.nd (dlst (anil))) (scons (sif (tcmp (o_ne hr.units) (dix (dv 4) (dint)) (dstr)) (sone (sfor (own := [6]) PassesOwn.never rfl (iseq (dsl (dv 4) (psome (dint)) (pno))) (gname (i := 6) sc__law_nodes.nd) (scons (sexpr (dlm PySem.F.plainAttrs_list PySem.F.slot_list_append PySem.F.type_list_append m_append (dv 5) (acons (dcallB c_len (by rfl) T.len PySem.boot_len (acons (dv 1) (anil))) (anil)))) (sone (sexpr (dlm PySem.F.plainAttrs_list PySem.F.slot_list_append PySem.F.type_list_append m_append (dv 1) (acons (dv 6) (anil)))))))) (snil)) (sone (sexpr (dlm PySem.F.plainAttrs_list PySem.F.slot_list_append PySem.F.type_list_append m_append (dv 2) (acons (dv 5) (anil)))))))))) (sone (sret (dtup (acons (dv 1) (acons (dv 2) (anil)))))))), h⟩
theorem sc__law_due : FnScope N__law_due ["pattern"] (defScope s__law_due) := ⟨rfl, rfl, rfl, by decide +kernel, rfl, by decide +kernel, by decide +kernel⟩
theorem bd__law_due {K : PySem.W.Frag} {f : Addr} {fd : FuncData} (F : Fun K "_law_due" "_law_due" s__law_due f fd) : Binds K fd ["pattern"] [] := F.binds fun _ _ _ _ _ _ us hl => match us, hl with | [_], _ => rfl
set_option maxHeartbeats 4000000 in
theorem ok__law_due {P : Program} {w : World} {K : PySem.W.Frag} {mg : Str → Option Value} {base : Heap} {f : Addr} {fd : FuncData} (T : Txt mg) (F : Fun K "_law_due" "_law_due" s__law_due f fd) {sp__law_nodes : DSp} (C__law_nodes : Cal P w K mg base 1 "_law_nodes" s__law_nodes ["pattern"] sp__law_nodes) {sp : DSp} (len : ∀ ds M Q E, sp ds M Q E → ds.length = 1)
    (h : ∀ ds M Q E, sp ds M Q E → b__law_due sp__law_nodes { nx := fun _ M' => Wk Q .non M', rt := Wk Q } (startG N__law_due ds) M) : FnOk P w K mg base CX0 (1 + 1) f fd ["pattern"] (toSp K sp) := by
  obtain ⟨f__law_nodes, d__law_nodes, G__law_nodes, F__law_nodes, m__law_nodes, k__law_nodes⟩ := C__law_nodes
  have bi__law_nodes := bd__law_nodes F__law_nodes
  refine okD F sc__law_due len fun cdv A outer s H E hr => ?_
  exact ⟨_, b__law_due sp__law_nodes, scons (sasg (own := [1, 2]) (dcall G__law_nodes (hr.mono (by decide)) (by rfl) m__law_nodes k__law_nodes bi__law_nodes (acons (dv 0) (anil))) (gtup rfl (gscons (gname (i := 1) sc__law_due.nd) (gscons (gname (i := 2) sc__law_due.nd) (gsnil))))) (scons (sset (i := 3) sc__law_due.nd (dop o_mul (dlst (acons (dnon) (anil))) (dcallB c_len (by rfl) T.len PySem.boot_len (acons (dv 1) (anil))))) (scons (sfor (own := [4]) PassesOwn.never rfl (irange1 (by rfl) T.range (acons (dcallB c_len (by rfl) T.len PySem.boot_len (acons (dv 1) (anil))) (anil))) (gname (i := 4) sc__law_due.nd) (scons (sset (i := 5) sc__law_due.nd (dop o_sub (dop o_sub (dcallB c_len (by rfl) T.len PySem.boot_len (acons (dv 1) (anil))) (dint)) (dv 4))) (scons (sset (i := 6) sc__law_due.nd (dix (dv 1) (dv 5))) (scons (ssetLc (i := 7) (own := [("part", 17)]) rfl sc__law_due.nd (iseq (dix (dv 2) (dv 5))) (show blkC N__law_due (defScope s__law_due) _ _ = true by decide +kernel) (fun _ _ _ _ _ => gname (i := 17) sc__law_due.nd) (fun _ _ _ _ _ => tsnil) (fun _ _ _ _ _ => dix (dv 3) (dv 17))) (sone (sif (tcmp (o_eq hr.units) (dix (dv 6) (dint)) (dstr)) (sone (ssetL (dv 3) (dv 5) (dtup (acons (dbl) (acons (dcallTy c_tuple (by rfl) T.tuple PySem.Pv.boot_tuple (acons (dlc (own := [("test", 18)]) rfl sc__law_due.nd (iseq (dix (dv 6) (dint))) (show blkC N__law_due (defScope s__law_due) _ _ = true by decide +kernel) (fun _ _ _ _ _ => gname (i := 18) sc__law_due.nd) (fun _ _ _ _ _ => tsnil) (fun _ _ _ _ _ => dix (dv 18) (dint))) (anil))) (acons (dint) (acons (dint) (acons (dtup (acons (dint) (acons (dint) (anil)))) (anil))))))))) (sone (sif (tcmp (o_eq hr.units) (dix (dv 6) (dint)) (dstr)) (scons (sasg (own := [8, 9, 10, 11, 12]) (dix (dv 7) (dint)) (gtup rfl (gscons (gname (i := 8) sc__law_due.nd) (gscons (gname (i := 9) sc__law_due.nd) (gscons (gname (i := 10) sc__law_due.nd) (gscons (gname (i := 11) sc__law_due.nd) (gscons (gname (i := 12) sc__law_due.nd) (gsnil)))))))) (sone (ssetL (dv 3) (dv 5) (dtup (acons (dbl) (acons (dv 9) (acons (dv 10) (acons (dop o_add (dv 11) (dint)) (acons (dtup (acons (dint) (acons (dnon) (anil)))) (anil)))))))))) (scons (sasg (own := [13, 14]) (dv 7) (gtup rfl (gscons (gname (i := 13) sc__law_due.nd) (gscons (gname (i := 14) sc__law_due.nd) (gsnil))))) (scons (sset (i := 15) sc__law_due.nd (dnon)) (scons (sif ((wand (tcmp o_isnot (dix (dix (dv 13) (dint)) (dint)) (dnon)) (wand1 (tcmp o_isnot (dix (dix (dv 14) (dint)) (dint)) (dnon)))).pt) (scons (sset (i := 15) sc__law_due.nd (dop o_add (dix (dix (dv 13) (dint)) (dint)) (dix (dix (dv 14) (dint)) (dint)))) (sone (sif (tcmp (o_eq hr.units) (dix (dv 6) (dint)) (dstr)) (sone (sset (i := 15) sc__law_due.nd (dcallB (c_max rfl) (by rfl) T.max PyProof.Rows.boot_max (acons (dix (dix (dv 13) (dint)) (dint)) (acons (dix (dix (dv 14) (dint)) (dint)) (anil)))))) (snil)))) (snil)) (scons (sset (i := 16) sc__law_due.nd (dop o_add (dix (dix (dv 13) (dint)) (dint)) (dix (dix (dv 14) (dint)) (dint)))) (scons (sset (i := 8) sc__law_due.nd (dand (dix (dv 13) (dint)) (done1 (dix (dv 14) (dint))))) (scons (sif (tcmp (o_eq hr.units) (dix (dv 6) (dint)) (dstr)) (scons (sset (i := 16) sc__law_due.nd (dcallB (c_min rfl) (by rfl) T.min PyProof.Rows.boot_min (acons (dix (dix (dv 13) (dint)) (dint)) (acons (dix (dix (dv 14) (dint)) (dint)) (anil))))) (sone (sset (i := 8) sc__law_due.nd (dor (dix (dv 13) (dint)) (done1 (dix (dv 14) (dint))))))) (snil)) (sone (ssetL (dv 3) (dv 5) (dtup (acons (dv 8) (acons (dop o_add (dix (dv 13) (dint)) (dix (dv 14) (dint))) (acons (dop o_add (dix (dv 13) (dint)) (dix (dv 14) (dint))) (acons (dop o_add (dcallB (c_max rfl) (by rfl) T.max PyProof.Rows.boot_max (acons (dix (dv 13) (dint)) (acons (dix (dv 14) (dint)) (anil)))) (dint)) (acons (dtup (acons (dv 16) (acons (dv 15) (anil)))) (anil))))))))))))))))))))))) (sone (sret (dix (dv 3) (dint)))))), h⟩
theorem sc__law_holds : FnScope N__law_holds ["drum", "pattern"] (defScope s__law_holds) := ⟨rfl, rfl, rfl, by decide +kernel, rfl, by decide +kernel, by decide +kernel⟩
theorem bd__law_holds {K : PySem.W.Frag} {f : Addr} {fd : FuncData} (F : Fun K "_law_holds" "_law_holds" s__law_holds f fd) : Binds K fd ["drum", "pattern"] [] := F.binds fun _ _ _ _ _ _ us hl => match us, hl with | [_, _], _ => rfl
set_option maxHeartbeats 4000000 in
theorem ok__law_holds {P : Program} {w : World} {K : PySem.W.Frag} {mg : Str → Option Value} {base : Heap} {f : Addr} {fd : FuncData} (T : Txt mg) (F : Fun K "_law_holds" "_law_holds" s__law_holds f fd) {sp__law_due : DSp} (C__law_due : Cal P w K mg base 2 "_law_due" s__law_due ["pattern"] sp__law_due) {sp__law_pull : DSp} (C__law_pull : Cal P w K mg base 1 "_law_pull" s__law_pull ["drum", "many"] sp__law_pull) {sp_matches_empty : DSp} (C_matches_empty : Cal P w K mg base 46 "matches_empty" s_matches_empty ["pattern"] sp_matches_empty) {sp_names_of : DSp} (C_names_of : Cal P w K mg base 47 "names_of" s_names_of ["pattern"] sp_names_of) {sp_pattern_size : DSp} (C_pattern_size : Cal P w K mg base 47 "pattern_size" s_pattern_size ["pattern"] sp_pattern_size) {sp_pattern_depth : DSp} (C_pattern_depth : Cal P w K mg base 46 "pattern_depth" s_pattern_depth ["pattern"] sp_pattern_depth) {sp_sequence_of : DSp} (C_sequence_of : Cal P w K mg base 47 "sequence_of" s_sequence_of ["pattern"] sp_sequence_of) {sp__law_whole : DSp} (C__law_whole : Cal P w K mg base 1 "_law_whole" s__law_whole ["value"] sp__law_whole) {sp : DSp} (len : ∀ ds M Q E, sp ds M Q E → ds.length = 2)
    (h : ∀ ds M Q E, sp ds M Q E → b__law_holds sp__law_due sp__law_pull sp_matches_empty sp_names_of sp_pattern_size sp_pattern_depth sp_sequence_of sp__law_whole { nx := fun _ M' => Wk Q .non M', rt := Wk Q } (startG N__law_holds ds) M) : FnOk P w K mg base CX0 (47 + 1) f fd ["drum", "pattern"] (toSp K sp) := by
  obtain ⟨f__law_due, d__law_due, G__law_due, F__law_due, m__law_due, k__law_due⟩ := C__law_due
  have bi__law_due := bd__law_due F__law_due
  obtain ⟨f__law_pull, d__law_pull, G__law_pull, F__law_pull, m__law_pull, k__law_pull⟩ := C__law_pull
  have bi__law_pull := bd__law_pull F__law_pull
  obtain ⟨f_matches_empty, d_matches_empty, G_matches_empty, F_matches_empty, m_matches_empty, k_matches_empty⟩ := C_matches_empty
  have bi_matches_empty := bd_matches_empty F_matches_empty
  obtain ⟨f_names_of, d_names_of, G_names_of, F_names_of, m_names_of, k_names_of⟩ := C_names_of
  have bi_names_of := bd_names_of F_names_of
  obtain ⟨f_pattern_size, d_pattern_size, G_pattern_size, F_pattern_size, m_pattern_size, k_pattern_size⟩ := C_pattern_size
  have bi_pattern_size := bd_pattern_size F_pattern_size
  obtain ⟨f_pattern_depth, d_pattern_depth, G_pattern_depth, F_pattern_depth, m_pattern_depth, k_pattern_depth⟩ := C_pattern_depth
  have bi_pattern_depth := bd_pattern_depth F_pattern_depth
  obtain ⟨f_sequence_of, d_sequence_of, G_sequence_of, F_sequence_of, m_sequence_of, k_sequence_of⟩ := C_sequence_of
  have bi_sequence_of := bd_sequence_of F_sequence_of
  obtain ⟨f__law_whole, d__law_whole, G__law_whole, F__law_whole, m__law_whole, k__law_whole⟩ := C__law_whole
  have bi__law_whole := bd__law_whole F__law_whole
  refine okD F sc__law_holds len fun cdv A outer s H E hr => ?_
  exact ⟨_, b__law_holds sp__law_due sp__law_pull sp_matches_empty sp_names_of sp_pattern_size sp_pattern_depth sp_sequence_of sp__law_whole, scons (sasg (own := [2, 3, 4, 5, 6]) (dcall G__law_due (hr.mono (by decide)) (by rfl) m__law_due k__law_due bi__law_due (acons (dv 1) (anil))) (gtup rfl (gscons (gname (i := 2) sc__law_holds.nd) (gscons (gname (i := 3) sc__law_holds.nd) (gscons (gname (i := 4) sc__law_holds.nd) (gscons (gname (i := 5) sc__law_holds.nd) (gscons (gname (i := 6) sc__law_holds.nd) (gsnil)))))))) (scons (sif (tcmp (o_eq hr.units) (dcall G__law_pull (hr.mono (by decide)) (by rfl) m__law_pull k__law_pull bi__law_pull (acons (dv 0) (acons (dint) (anil)))) (dint)) (sone (sset (i := 9) sc__law_holds.nd (dlst (acons (dcall G_matches_empty (hr.mono (by decide)) (by rfl) m_matches_empty k_matches_empty bi_matches_empty (acons (dv 1) (anil))) (acons (dcall G_names_of (hr.mono (by decide)) (by rfl) m_names_of k_names_of bi_names_of (acons (dv 1) (anil))) (acons (dcall G_pattern_size (hr.mono (by decide)) (by rfl) m_pattern_size k_pattern_size bi_pattern_size (acons (dv 1) (anil))) (acons (dcall G_pattern_depth (hr.mono (by decide)) (by rfl) m_pattern_depth k_pattern_depth bi_pattern_depth (acons (dv 1) (anil))) (acons (dcall G_sequence_of (hr.mono (by decide)) (by rfl) m_sequence_of k_sequence_of bi_sequence_of (acons (dv 1) (anil))) (anil))))))))) (scons (sset (i := 9) sc__law_holds.nd (dlst (acons (dcallK0 G_matches_empty (hr.mono (by decide)) (by rfl) m_matches_empty k_matches_empty (kb_0 F_matches_empty) kbo_0 (kcons (dv 1) (knil))) (acons (dcallK0 G_names_of (hr.mono (by decide)) (by rfl) m_names_of k_names_of (kb_1 F_names_of) kbo_1 (kcons (dv 1) (knil))) (acons (dcallK0 G_pattern_size (hr.mono (by decide)) (by rfl) m_pattern_size k_pattern_size (kb_2 F_pattern_size) kbo_2 (kcons (dv 1) (knil))) (anil)))))) (sone (sset (i := 9) sc__law_holds.nd (dop o_add (dv 9) (dlst (acons (dcallK0 G_pattern_depth (hr.mono (by decide)) (by rfl) m_pattern_depth k_pattern_depth (kb_3 F_pattern_depth) kbo_3 (kcons (dv 1) (knil))) (acons (dcallK0 G_sequence_of (hr.mono (by decide)) (by rfl) m_sequence_of k_sequence_of (kb_4 F_sequence_of) kbo_4 (kcons (dv 1) (knil))) (anil))))))))) (scons (sif ((wor (tnot (ttru (disi (T := "bool") (dix (dv 9) (dint)) (by rfl) T.isinstance PyProof.Rows.boot_isinstance (by rfl) T.bool PySem.Pv.boot_bool))) (wor (tcmp (o_ne hr.units) (dix (dv 9) (dint)) (dv 2)) (wor (tnot (ttru (disi (T := "tuple") (dix (dv 9) (dint)) (by rfl) T.isinstance PyProof.Rows.boot_isinstance (by rfl) T.tuple PySem.Pv.boot_tuple))) (wor1 (tcmp (o_ne hr.units) (dcallB c_len (by rfl) T.len PySem.boot_len (acons (dix (dv 9) (dint)) (anil))) (dcallB c_len (by rfl) T.len PySem.boot_len (acons (dv 3) (anil)))))))).pt) (sone (sret (dbl))) (snil)) (scons (sfor (own := [7, 8]) PassesOwn.never rfl (izip (by rfl) T.zip (acons (dv 3) (acons (dix (dv 9) (dint)) (anil)))) (gtup rfl (gscons (gname (i := 7) sc__law_holds.nd) (gscons (gname (i := 8) sc__law_holds.nd) (gsnil)))) (sone (sif ((wor (tnot (ttru (disi (T := "str") (dv 8) (by rfl) T.isinstance PyProof.Rows.boot_isinstance (by rfl) T.str PySem.Pv.boot_str))) (wor1 (tcmp (o_ne hr.units) (dv 7) (dv 8)))).pt) (sone (sret (dbl))) (snil)))) (scons (sif ((wor (tnot (ttru (dcall G__law_whole (hr.mono (by decide)) (by rfl) m__law_whole k__law_whole bi__law_whole (acons (dix (dv 9) (dint)) (anil))))) (wor (tcmp (o_ne hr.units) (dix (dv 9) (dint)) (dv 4)) (wor (tnot (ttru (dcall G__law_whole (hr.mono (by decide)) (by rfl) m__law_whole k__law_whole bi__law_whole (acons (dix (dv 9) (dint)) (anil))))) (wor1 (tcmp (o_ne hr.units) (dix (dv 9) (dint)) (dv 5)))))).pt) (sone (sret (dbl))) (snil)) (scons (sif ((wor (tnot (ttru (disi (T := "tuple") (dix (dv 9) (dint)) (by rfl) T.isinstance PyProof.Rows.boot_isinstance (by rfl) T.tuple PySem.Pv.boot_tuple))) (wor (tcmp (o_ne hr.units) (dcallB c_len (by rfl) T.len PySem.boot_len (acons (dix (dv 9) (dint)) (anil))) (dint)) (wor (tnot (ttru (dcall G__law_whole (hr.mono (by decide)) (by rfl) m__law_whole k__law_whole bi__law_whole (acons (dix (dix (dv 9) (dint)) (dint)) (anil))))) (wor1 (tcmp (o_ne hr.units) (dix (dix (dv 9) (dint)) (dint)) (dix (dv 6) (dint))))))).pt) (sone (sret (dbl))) (snil)) (scons (sif (tcmp o_is (dix (dv 6) (dint)) (dnon)) (sone (sret (dcmp o_is (dix (dix (dv 9) (dint)) (dint)) (dnon)))) (snil)) (sone (sret (dand (dcall G__law_whole (hr.mono (by decide)) (by rfl) m__law_whole k__law_whole bi__law_whole (acons (dix (dix (dv 9) (dint)) (dint)) (anil))) (done1 (dcmp (o_eq hr.units) (dix (dix (dv 9) (dint)) (dint)) (dix (dv 6) (dint))))))))))))), h⟩
theorem sc_law : FnScope N_law ["script"] (defScope s_law) := ⟨rfl, rfl, rfl, by decide +kernel, rfl, by decide +kernel, by decide +kernel⟩
theorem bd_law {K : PySem.W.Frag} {f : Addr} {fd : FuncData} (F : Fun K "law" "law" s_law f fd) : Binds K fd ["script"] [] := F.binds fun _ _ _ _ _ _ us hl => match us, hl with | [_], _ => rfl
set_option maxHeartbeats 4000000 in
theorem ok_law {P : Program} {w : World} {K : PySem.W.Frag} {mg : Str → Option Value} {base : Heap} {f : Addr} {fd : FuncData} (T : Txt mg) (F : Fun K "law" "law" s_law f fd) {sp__law_drum : DSp} (C__law_drum : Cal P w K mg base 1 "_law_drum" s__law_drum ["script"] sp__law_drum) {sp__law_pattern : DSp} (C__law_pattern : Cal P w K mg base 4 "_law_pattern" s__law_pattern ["drum", "many", "most"] sp__law_pattern) {sp__law_pull : DSp} (C__law_pull : Cal P w K mg base 1 "_law_pull" s__law_pull ["drum", "many"] sp__law_pull) {sp__law_chain : DSp} (C__law_chain : Cal P w K mg base 4 "_law_chain" s__law_chain ["drum", "many", "deep"] sp__law_chain) {sp__law_test : DSp} (C__law_test : Cal P w K mg base 3 "_law_test" s__law_test ["drum"] sp__law_test) {sp__law_due : DSp} (C__law_due : Cal P w K mg base 2 "_law_due" s__law_due ["pattern"] sp__law_due) {sp__law_holds : DSp} (C__law_holds : Cal P w K mg base 48 "_law_holds" s__law_holds ["drum", "pattern"] sp__law_holds) {sp__law_nodes : DSp} (C__law_nodes : Cal P w K mg base 1 "_law_nodes" s__law_nodes ["pattern"] sp__law_nodes) {sp : DSp} (len : ∀ ds M Q E, sp ds M Q E → ds.length = 1)
    (h : ∀ ds M Q E, sp ds M Q E → b_law sp__law_drum sp__law_pattern sp__law_pull sp__law_chain sp__law_test sp__law_due sp__law_holds sp__law_nodes { nx := fun _ M' => Wk Q .non M', rt := Wk Q } (startG N_law ds) M) : FnOk P w K mg base CX0 (48 + 1) f fd ["script"] (toSp K sp) := by
  obtain ⟨f__law_drum, d__law_drum, G__law_drum, F__law_drum, m__law_drum, k__law_drum⟩ := C__law_drum
  have bi__law_drum := bd__law_drum F__law_drum
  obtain ⟨f__law_pattern, d__law_pattern, G__law_pattern, F__law_pattern, m__law_pattern, k__law_pattern⟩ := C__law_pattern
  have bi__law_pattern := bd__law_pattern F__law_pattern
  obtain ⟨f__law_pull, d__law_pull, G__law_pull, F__law_pull, m__law_pull, k__law_pull⟩ := C__law_pull
  have bi__law_pull := bd__law_pull F__law_pull
  obtain ⟨f__law_chain, d__law_chain, G__law_chain, F__law_chain, m__law_chain, k__law_chain⟩ := C__law_chain
  have bi__law_chain := bd__law_chain F__law_chain
  obtain ⟨f__law_test, d__law_test, G__law_test, F__law_test, m__law_test, k__law_test⟩ := C__law_test
  have bi__law_test := bd__law_test F__law_test
  obtain ⟨f__law_due, d__law_due, G__law_due, F__law_due, m__law_due, k__law_due⟩ := C__law_due
  have bi__law_due := bd__law_due F__law_due
  obtain ⟨f__law_holds, d__law_holds, G__law_holds, F__law_holds, m__law_holds, k__law_holds⟩ := C__law_holds
  have bi__law_holds := bd__law_holds F__law_holds
  obtain ⟨f__law_nodes, d__law_nodes, G__law_nodes, F__law_nodes, m__law_nodes, k__law_nodes⟩ := C__law_nodes
  have bi__law_nodes := bd__law_nodes F__law_nodes
  refine okD F sc_law len fun cdv A outer s H E hr => ?_
  exact ⟨_, b_law sp__law_drum sp__law_pattern sp__law_pull sp__law_chain sp__law_test sp__law_due sp__law_holds sp__law_nodes, scons (sset (i := 1) sc_law.nd (dcall G__law_drum (hr.mono (by decide)) (by rfl) m__law_drum k__law_drum bi__law_drum (acons (dv 0) (anil)))) (scons (sset (i := 2) sc_law.nd (dlst (anil))) (scons (sfor (own := [3]) PassesOwn.never rfl (irange1 (by rfl) T.range (acons (dint) (anil))) (gname (i := 3) sc_law.nd) (sone (sexpr (dlm PySem.F.plainAttrs_list PySem.F.slot_list_append PySem.F.type_list_append m_append (dv 2) (acons (dcall G__law_pattern (hr.mono (by decide)) (by rfl) m__law_pattern k__law_pattern bi__law_pattern (acons (dv 1) (acons (dop o_add (dint) (dcall G__law_pull (hr.mono (by decide)) (by rfl) m__law_pull k__law_pull bi__law_pull (acons (dv 1) (acons (dint) (anil))))) (acons (dint) (anil))))) (anil)))))) (scons (sset (i := 4) sc_law.nd (dcall G__law_pull (hr.mono (by decide)) (by rfl) m__law_pull k__law_pull bi__law_pull (acons (dv 1) (acons (dint) (anil))))) (scons (sif (tcmp (o_eq hr.units) (dv 4) (dint)) (sone (sexpr (dlm PySem.F.plainAttrs_list PySem.F.slot_list_append PySem.F.type_list_append m_append (dv 2) (acons (dcall G__law_chain (hr.mono (by decide)) (by rfl) m__law_chain k__law_chain bi__law_chain (acons (dv 1) (acons (dint) (acons (dint) (anil))))) (anil))))) (sone (sif (tcmp (o_eq hr.units) (dv 4) (dint)) (sone (sexpr (dlm PySem.F.plainAttrs_list PySem.F.slot_list_append PySem.F.type_list_append m_append (dv 2) (acons (dcall G__law_pattern (hr.mono (by decide)) (by rfl) m__law_pattern k__law_pattern bi__law_pattern (acons (dv 1) (acons (dint) (acons (dint) (anil))))) (anil))))) (sone (sexpr (dlm PySem.F.plainAttrs_list PySem.F.slot_list_append PySem.F.type_list_append m_append (dv 2) (acons (dcall G__law_chain (hr.mono (by decide)) (by rfl) m__law_chain k__law_chain bi__law_chain (acons (dv 1) (acons (dop o_add (dint) (dcall G__law_pull (hr.mono (by decide)) (by rfl) m__law_pull k__law_pull bi__law_pull (acons (dv 1) (acons (dint) (anil))))) (acons (dop o_add (dint) (dcall G__law_pull (hr.mono (by decide)) (by rfl) m__law_pull k__law_pull bi__law_pull (acons (dv 1) (acons (dint) (anil))))) (anil))))) (anil)))))))) (scons (sset (i := 5) sc_law.nd (dcall G__law_test (hr.mono (by decide)) (by rfl) m__law_test k__law_test bi__law_test (acons (dv 1) (anil)))) (scons (sset (i := 2) sc_law.nd (dop o_add (dv 2) (dsl (dlst (acons (dv 5) (acons (dtup (acons (dstr) (acons (dv 5) (anil)))) (acons (dtup (acons (dstr) (acons (dtup (acons (dstr) (acons (dv 5) (anil)))) (acons (dix (dv 2) (dint)) (anil))))) (acons (dtup (acons (dstr) (acons (dix (dv 2) (dint)) (acons (dtup (acons (dstr) (acons (dix (dv 2) (dint)) (anil)))) (anil))))) (anil)))))) (pno) (psome (dop o_add (dint) (dop o_mul (dint) (dcallTy c_int (by rfl) T.int PySem.Pv.boot_int (acons (dcmp o_lt (dv 4) (dint)) (anil))))))))) (scons (sset (i := 6) sc_law.nd (dlst (acons (dint) (acons (dint) (anil))))) (scons (sfor (own := [7]) PassesOwn.never rfl (iseq (dv 2)) (gname (i := 7) sc_law.nd) (scons (ssetL (dv 6) (dcallTy c_int (by rfl) T.int PySem.Pv.boot_int (acons (dix (dcall G__law_due (hr.mono (by decide)) (by rfl) m__law_due k__law_due bi__law_due (acons (dv 7) (anil))) (dint)) (anil))) (dop o_add (dix (dv 6) (dcallTy c_int (by rfl) T.int PySem.Pv.boot_int (acons (dix (dcall G__law_due (hr.mono (by decide)) (by rfl) m__law_due k__law_due bi__law_due (acons (dv 7) (anil))) (dint)) (anil)))) (dint))) (sone (sif (tnot (ttru (dcall G__law_holds (hr.mono (by decide)) (by rfl) m__law_holds k__law_holds bi__law_holds (acons (dv 1) (acons (dv 7) (anil)))))) (sone (sret (dbl))) (snil))))) (scons (sasg (own := [8, 9]) (dcall G__law_nodes (hr.mono (by decide)) (by rfl) m__law_nodes k__law_nodes bi__law_nodes (acons (dix (dv 2) (dint)) (anil))) (gtup rfl (gscons (gname (i := 8) sc_law.nd) (gscons (gname (i := 9) sc_law.nd) (gsnil))))) (scons (sset (i := 10) sc_law.nd (dix (dv 8) (dcall G__law_pull (hr.mono (by decide)) (by rfl) m__law_pull k__law_pull bi__law_pull (acons (dv 1) (acons (dcallB c_len (by rfl) T.len PySem.boot_len (acons (dv 8) (anil))) (anil)))))) (sone (sret (dand (dcmp o_gt (dix (dv 6) (dint)) (dint)) (dand (dcmp o_gt (dix (dv 6) (dint)) (dint)) (done1 (dcall G__law_holds (hr.mono (by decide)) (by rfl) m__law_holds k__law_holds bi__law_holds (acons (dv 1) (acons (dv 10) (anil))))))))))))))))))), h⟩
end Lw
end
section
set_option maxHeartbeats 4000000
/-! what the top has left, the head (printed by gen.py) -/
namespace Lw
open PySem L2 DL
set_option maxHeartbeats 0 in
theorem all_mk {l : PySem.W.OpenLaw} {w : World} {K : PySem.W.Frag} {h : Heap} {mg : Str → Option Value} {fa : Addr} (X : K.In h) (G : h.Ns mainGlobals mg) (hfa : mg "law" = some (.ref fa))
    {od0 an0 : Option Addr} {sl0 : Array (Option Value)} {oc0 kV0 dc0 pm0 cd0 ct0 : Value} {f_matches_empty : Addr}
    (a_matches_empty : PySem.W.nsIn K mainGlobals "matches_empty" = some (some (.ref f_matches_empty))) (l_matches_empty : K.lookup f_matches_empty = some ⟨oc0, od0, .func (PySem.W.fnOf "matches_empty" "matches_empty" (defArgs s_matches_empty) (defBody s_matches_empty) (defScope s_matches_empty) .none kV0 dc0 pm0 an0 cd0 ct0), sl0⟩) (c_matches_empty : PySem.W.codeIn K cd0 "matches_empty" = true) (k_matches_empty : PySem.W.keepIn K (.ref f_matches_empty) = true)
    {od1 an1 : Option Addr} {sl1 : Array (Option Value)} {oc1 kV1 dc1 pm1 cd1 ct1 : Value} {f_tests_of : Addr}
    (a_tests_of : PySem.W.nsIn K mainGlobals "tests_of" = some (some (.ref f_tests_of))) (l_tests_of : K.lookup f_tests_of = some ⟨oc1, od1, .func (PySem.W.fnOf "tests_of" "tests_of" (defArgs s_tests_of) (defBody s_tests_of) (defScope s_tests_of) .none kV1 dc1 pm1 an1 cd1 ct1), sl1⟩) (c_tests_of : PySem.W.codeIn K cd1 "tests_of" = true) (k_tests_of : PySem.W.keepIn K (.ref f_tests_of) = true)
    {od2 an2 : Option Addr} {sl2 : Array (Option Value)} {oc2 kV2 dc2 pm2 cd2 ct2 : Value} {f_names_of : Addr}
    (a_names_of : PySem.W.nsIn K mainGlobals "names_of" = some (some (.ref f_names_of))) (l_names_of : K.lookup f_names_of = some ⟨oc2, od2, .func (PySem.W.fnOf "names_of" "names_of" (defArgs s_names_of) (defBody s_names_of) (defScope s_names_of) .none kV2 dc2 pm2 an2 cd2 ct2), sl2⟩) (c_names_of : PySem.W.codeIn K cd2 "names_of" = true) (k_names_of : PySem.W.keepIn K (.ref f_names_of) = true)
    {od3 an3 : Option Addr} {sl3 : Array (Option Value)} {oc3 kV3 dc3 pm3 cd3 ct3 : Value} {f_pattern_size : Addr}
    (a_pattern_size : PySem.W.nsIn K mainGlobals "pattern_size" = some (some (.ref f_pattern_size))) (l_pattern_size : K.lookup f_pattern_size = some ⟨oc3, od3, .func (PySem.W.fnOf "pattern_size" "pattern_size" (defArgs s_pattern_size) (defBody s_pattern_size) (defScope s_pattern_size) .none kV3 dc3 pm3 an3 cd3 ct3), sl3⟩) (c_pattern_size : PySem.W.codeIn K cd3 "pattern_size" = true) (k_pattern_size : PySem.W.keepIn K (.ref f_pattern_size) = true)
    {od4 an4 : Option Addr} {sl4 : Array (Option Value)} {oc4 kV4 dc4 pm4 cd4 ct4 : Value} {f_pattern_depth : Addr}
    (a_pattern_depth : PySem.W.nsIn K mainGlobals "pattern_depth" = some (some (.ref f_pattern_depth))) (l_pattern_depth : K.lookup f_pattern_depth = some ⟨oc4, od4, .func (PySem.W.fnOf "pattern_depth" "pattern_depth" (defArgs s_pattern_depth) (defBody s_pattern_depth) (defScope s_pattern_depth) .none kV4 dc4 pm4 an4 cd4 ct4), sl4⟩) (c_pattern_depth : PySem.W.codeIn K cd4 "pattern_depth" = true) (k_pattern_depth : PySem.W.keepIn K (.ref f_pattern_depth) = true)
    {od5 an5 : Option Addr} {sl5 : Array (Option Value)} {oc5 kV5 dc5 pm5 cd5 ct5 : Value} {f_most_of : Addr}
    (a_most_of : PySem.W.nsIn K mainGlobals "most_of" = some (some (.ref f_most_of))) (l_most_of : K.lookup f_most_of = some ⟨oc5, od5, .func (PySem.W.fnOf "most_of" "most_of" (defArgs s_most_of) (defBody s_most_of) (defScope s_most_of) .none kV5 dc5 pm5 an5 cd5 ct5), sl5⟩) (c_most_of : PySem.W.codeIn K cd5 "most_of" = true) (k_most_of : PySem.W.keepIn K (.ref f_most_of) = true)
    {od6 an6 : Option Addr} {sl6 : Array (Option Value)} {oc6 kV6 dc6 pm6 cd6 ct6 : Value} {f_sequence_of : Addr}
    (a_sequence_of : PySem.W.nsIn K mainGlobals "sequence_of" = some (some (.ref f_sequence_of))) (l_sequence_of : K.lookup f_sequence_of = some ⟨oc6, od6, .func (PySem.W.fnOf "sequence_of" "sequence_of" (defArgs s_sequence_of) (defBody s_sequence_of) (defScope s_sequence_of) .none kV6 dc6 pm6 an6 cd6 ct6), sl6⟩) (c_sequence_of : PySem.W.codeIn K cd6 "sequence_of" = true) (k_sequence_of : PySem.W.keepIn K (.ref f_sequence_of) = true)
    {od7 an7 : Option Addr} {sl7 : Array (Option Value)} {oc7 kV7 dc7 pm7 cd7 ct7 : Value} {f__law_drum : Addr}
    (a__law_drum : PySem.W.nsIn K mainGlobals "_law_drum" = some (some (.ref f__law_drum))) (l__law_drum : K.lookup f__law_drum = some ⟨oc7, od7, .func (PySem.W.fnOf "_law_drum" "_law_drum" (defArgs s__law_drum) (defBody s__law_drum) (defScope s__law_drum) .none kV7 dc7 pm7 an7 cd7 ct7), sl7⟩) (c__law_drum : PySem.W.codeIn K cd7 "_law_drum" = true) (k__law_drum : PySem.W.keepIn K (.ref f__law_drum) = true)
    {od8 an8 : Option Addr} {sl8 : Array (Option Value)} {oc8 kV8 dc8 pm8 cd8 ct8 : Value} {f__law_pull : Addr}
    (a__law_pull : PySem.W.nsIn K mainGlobals "_law_pull" = some (some (.ref f__law_pull))) (l__law_pull : K.lookup f__law_pull = some ⟨oc8, od8, .func (PySem.W.fnOf "_law_pull" "_law_pull" (defArgs s__law_pull) (defBody s__law_pull) (defScope s__law_pull) .none kV8 dc8 pm8 an8 cd8 ct8), sl8⟩) (c__law_pull : PySem.W.codeIn K cd8 "_law_pull" = true) (k__law_pull : PySem.W.keepIn K (.ref f__law_pull) = true)
    {od9 an9 : Option Addr} {sl9 : Array (Option Value)} {oc9 kV9 dc9 pm9 cd9 ct9 : Value} {f__law_whole : Addr}
    (a__law_whole : PySem.W.nsIn K mainGlobals "_law_whole" = some (some (.ref f__law_whole))) (l__law_whole : K.lookup f__law_whole = some ⟨oc9, od9, .func (PySem.W.fnOf "_law_whole" "_law_whole" (defArgs s__law_whole) (defBody s__law_whole) (defScope s__law_whole) .none kV9 dc9 pm9 an9 cd9 ct9), sl9⟩) (c__law_whole : PySem.W.codeIn K cd9 "_law_whole" = true) (k__law_whole : PySem.W.keepIn K (.ref f__law_whole) = true)
    {od10 an10 : Option Addr} {sl10 : Array (Option Value)} {oc10 kV10 dc10 pm10 cd10 ct10 : Value} {f__law_name : Addr}
    (a__law_name : PySem.W.nsIn K mainGlobals "_law_name" = some (some (.ref f__law_name))) (l__law_name : K.lookup f__law_name = some ⟨oc10, od10, .func (PySem.W.fnOf "_law_name" "_law_name" (defArgs s__law_name) (defBody s__law_name) (defScope s__law_name) .none kV10 dc10 pm10 an10 cd10 ct10), sl10⟩) (c__law_name : PySem.W.codeIn K cd10 "_law_name" = true) (k__law_name : PySem.W.keepIn K (.ref f__law_name) = true)
    {od11 an11 : Option Addr} {sl11 : Array (Option Value)} {oc11 kV11 dc11 pm11 cd11 ct11 : Value} {f__law_test : Addr}
    (a__law_test : PySem.W.nsIn K mainGlobals "_law_test" = some (some (.ref f__law_test))) (l__law_test : K.lookup f__law_test = some ⟨oc11, od11, .func (PySem.W.fnOf "_law_test" "_law_test" (defArgs s__law_test) (defBody s__law_test) (defScope s__law_test) .none kV11 dc11 pm11 an11 cd11 ct11), sl11⟩) (c__law_test : PySem.W.codeIn K cd11 "_law_test" = true) (k__law_test : PySem.W.keepIn K (.ref f__law_test) = true)
    {od12 an12 : Option Addr} {sl12 : Array (Option Value)} {oc12 kV12 dc12 pm12 cd12 ct12 : Value} {f__law_pattern : Addr}
    (a__law_pattern : PySem.W.nsIn K mainGlobals "_law_pattern" = some (some (.ref f__law_pattern))) (l__law_pattern : K.lookup f__law_pattern = some ⟨oc12, od12, .func (PySem.W.fnOf "_law_pattern" "_law_pattern" (defArgs s__law_pattern) (defBody s__law_pattern) (defScope s__law_pattern) .none kV12 dc12 pm12 an12 cd12 ct12), sl12⟩) (c__law_pattern : PySem.W.codeIn K cd12 "_law_pattern" = true) (k__law_pattern : PySem.W.keepIn K (.ref f__law_pattern) = true)
    {od13 an13 : Option Addr} {sl13 : Array (Option Value)} {oc13 kV13 dc13 pm13 cd13 ct13 : Value} {f__law_chain : Addr}
    (a__law_chain : PySem.W.nsIn K mainGlobals "_law_chain" = some (some (.ref f__law_chain))) (l__law_chain : K.lookup f__law_chain = some ⟨oc13, od13, .func (PySem.W.fnOf "_law_chain" "_law_chain" (defArgs s__law_chain) (defBody s__law_chain) (defScope s__law_chain) .none kV13 dc13 pm13 an13 cd13 ct13), sl13⟩) (c__law_chain : PySem.W.codeIn K cd13 "_law_chain" = true) (k__law_chain : PySem.W.keepIn K (.ref f__law_chain) = true)
    {od14 an14 : Option Addr} {sl14 : Array (Option Value)} {oc14 kV14 dc14 pm14 cd14 ct14 : Value} {f__law_nodes : Addr}
    (a__law_nodes : PySem.W.nsIn K mainGlobals "_law_nodes" = some (some (.ref f__law_nodes))) (l__law_nodes : K.lookup f__law_nodes = some ⟨oc14, od14, .func (PySem.W.fnOf "_law_nodes" "_law_nodes" (defArgs s__law_nodes) (defBody s__law_nodes) (defScope s__law_nodes) .none kV14 dc14 pm14 an14 cd14 ct14), sl14⟩) (c__law_nodes : PySem.W.codeIn K cd14 "_law_nodes" = true) (k__law_nodes : PySem.W.keepIn K (.ref f__law_nodes) = true)
    {od15 an15 : Option Addr} {sl15 : Array (Option Value)} {oc15 kV15 dc15 pm15 cd15 ct15 : Value} {f__law_due : Addr}
    (a__law_due : PySem.W.nsIn K mainGlobals "_law_due" = some (some (.ref f__law_due))) (l__law_due : K.lookup f__law_due = some ⟨oc15, od15, .func (PySem.W.fnOf "_law_due" "_law_due" (defArgs s__law_due) (defBody s__law_due) (defScope s__law_due) .none kV15 dc15 pm15 an15 cd15 ct15), sl15⟩) (c__law_due : PySem.W.codeIn K cd15 "_law_due" = true) (k__law_due : PySem.W.keepIn K (.ref f__law_due) = true)
    {od16 an16 : Option Addr} {sl16 : Array (Option Value)} {oc16 kV16 dc16 pm16 cd16 ct16 : Value} {f__law_holds : Addr}
    (a__law_holds : PySem.W.nsIn K mainGlobals "_law_holds" = some (some (.ref f__law_holds))) (l__law_holds : K.lookup f__law_holds = some ⟨oc16, od16, .func (PySem.W.fnOf "_law_holds" "_law_holds" (defArgs s__law_holds) (defBody s__law_holds) (defScope s__law_holds) .none kV16 dc16 pm16 an16 cd16 ct16), sl16⟩) (c__law_holds : PySem.W.codeIn K cd16 "_law_holds" = true) (k__law_holds : PySem.W.keepIn K (.ref f__law_holds) = true)
    {od17 an17 : Option Addr} {sl17 : Array (Option Value)} {oc17 kV17 dc17 pm17 cd17 ct17 : Value} {f_law : Addr}
    (a_law : PySem.W.nsIn K mainGlobals "law" = some (some (.ref f_law))) (l_law : K.lookup f_law = some ⟨oc17, od17, .func (PySem.W.fnOf "law" "law" (defArgs s_law) (defBody s_law) (defScope s_law) .none kV17 dc17 pm17 an17 cd17 ct17), sl17⟩) (c_law : PySem.W.codeIn K cd17 "law" = true) (k_law : PySem.W.keepIn K (.ref f_law) = true)
    (z_bool : PySem.W.nsIn K mainGlobals "bool" = some none)
    (z_int : PySem.W.nsIn K mainGlobals "int" = some none)
    (z_isinstance : PySem.W.nsIn K mainGlobals "isinstance" = some none)
    (z_len : PySem.W.nsIn K mainGlobals "len" = some none)
    (z_max : PySem.W.nsIn K mainGlobals "max" = some none)
    (z_min : PySem.W.nsIn K mainGlobals "min" = some none)
    (z_range : PySem.W.nsIn K mainGlobals "range" = some none)
    (z_str : PySem.W.nsIn K mainGlobals "str" = some none)
    (z_sum : PySem.W.nsIn K mainGlobals "sum" = some none)
    (z_tuple : PySem.W.nsIn K mainGlobals "tuple" = some none)
    (z_zip : PySem.W.nsIn K mainGlobals "zip" = some none) :
    ∃ fd : FuncData, (∀ (s : Shared) (v : Value), BindsTo s fd ⟨[v], []⟩ [("script", v)]) ∧ ∀ base : Heap, K.In base → base.Ns mainGlobals mg → FnOk l.prog w K mg base CX0 49 fa fd ["script"] (toSp K spLaw) := by
  have e := hfa.symm.trans (PySem.W.mg_of X G a_law)
  cases e
  have T : Txt mg := ⟨PySem.W.mg_none_of X G z_bool, PySem.W.mg_none_of X G z_int, PySem.W.mg_none_of X G z_isinstance, PySem.W.mg_none_of X G z_len, PySem.W.mg_none_of X G z_max, PySem.W.mg_none_of X G z_min, PySem.W.mg_none_of X G z_range, PySem.W.mg_none_of X G z_str, PySem.W.mg_none_of X G z_sum, PySem.W.mg_none_of X G z_tuple, PySem.W.mg_none_of X G z_zip⟩
  have F_matches_empty := fun_mk (st := s_matches_empty) l_matches_empty c_matches_empty k_matches_empty
  have F_tests_of := fun_mk (st := s_tests_of) l_tests_of c_tests_of k_tests_of
  have F_names_of := fun_mk (st := s_names_of) l_names_of c_names_of k_names_of
  have F_pattern_size := fun_mk (st := s_pattern_size) l_pattern_size c_pattern_size k_pattern_size
  have F_pattern_depth := fun_mk (st := s_pattern_depth) l_pattern_depth c_pattern_depth k_pattern_depth
  have F_most_of := fun_mk (st := s_most_of) l_most_of c_most_of k_most_of
  have F_sequence_of := fun_mk (st := s_sequence_of) l_sequence_of c_sequence_of k_sequence_of
  have F__law_drum := fun_mk (st := s__law_drum) l__law_drum c__law_drum k__law_drum
  have F__law_pull := fun_mk (st := s__law_pull) l__law_pull c__law_pull k__law_pull
  have F__law_whole := fun_mk (st := s__law_whole) l__law_whole c__law_whole k__law_whole
  have F__law_name := fun_mk (st := s__law_name) l__law_name c__law_name k__law_name
  have F__law_test := fun_mk (st := s__law_test) l__law_test c__law_test k__law_test
  have F__law_pattern := fun_mk (st := s__law_pattern) l__law_pattern c__law_pattern k__law_pattern
  have F__law_chain := fun_mk (st := s__law_chain) l__law_chain c__law_chain k__law_chain
  have F__law_nodes := fun_mk (st := s__law_nodes) l__law_nodes c__law_nodes k__law_nodes
  have F__law_due := fun_mk (st := s__law_due) l__law_due c__law_due k__law_due
  have F__law_holds := fun_mk (st := s__law_holds) l__law_holds c__law_holds k__law_holds
  have F_law := fun_mk (st := s_law) l_law c_law k_law
  refine ⟨PySem.W.fnOf "law" "law" (defArgs s_law) (defBody s_law) (defScope s_law) .none kV17 dc17 pm17 an17 cd17 ct17, fun s v => .of_eq rfl, fun base _ _ => ?_⟩
  have C_most_of : Cal l.prog w K mg base 1 "most_of" s_most_of ["pattern", "ones"] sp_most_of := ⟨_, _, ok_most_of T F_most_of  ln_most_of hs_most_of, F_most_of, PySem.W.mg_of X G a_most_of, k_most_of⟩
  have C__law_drum : Cal l.prog w K mg base 1 "_law_drum" s__law_drum ["script"] sp__law_drum := ⟨_, _, ok__law_drum T F__law_drum  ln__law_drum hs__law_drum, F__law_drum, PySem.W.mg_of X G a__law_drum, k__law_drum⟩
  have C__law_pull : Cal l.prog w K mg base 1 "_law_pull" s__law_pull ["drum", "many"] sp__law_pull := ⟨_, _, ok__law_pull T F__law_pull  ln__law_pull hs__law_pull, F__law_pull, PySem.W.mg_of X G a__law_pull, k__law_pull⟩
  have C__law_whole : Cal l.prog w K mg base 1 "_law_whole" s__law_whole ["value"] sp__law_whole := ⟨_, _, ok__law_whole T F__law_whole  ln__law_whole hs__law_whole, F__law_whole, PySem.W.mg_of X G a__law_whole, k__law_whole⟩
  have C__law_nodes : Cal l.prog w K mg base 1 "_law_nodes" s__law_nodes ["pattern"] sp__law_nodes := ⟨_, _, ok__law_nodes T F__law_nodes  ln__law_nodes hs__law_nodes, F__law_nodes, PySem.W.mg_of X G a__law_nodes, k__law_nodes⟩
  have C__law_name : Cal l.prog w K mg base 2 "_law_name" s__law_name ["drum"] sp__law_name := ⟨_, _, ok__law_name T F__law_name C__law_pull ln__law_name hs__law_name, F__law_name, PySem.W.mg_of X G a__law_name, k__law_name⟩
  have C__law_due : Cal l.prog w K mg base 2 "_law_due" s__law_due ["pattern"] sp__law_due := ⟨_, _, ok__law_due T F__law_due C__law_nodes ln__law_due hs__law_due, F__law_due, PySem.W.mg_of X G a__law_due, k__law_due⟩
  have C__law_test : Cal l.prog w K mg base 3 "_law_test" s__law_test ["drum"] sp__law_test := ⟨_, _, ok__law_test T F__law_test C__law_pull C__law_name ln__law_test hs__law_test, F__law_test, PySem.W.mg_of X G a__law_test, k__law_test⟩
  have C__law_pattern : Cal l.prog w K mg base 4 "_law_pattern" s__law_pattern ["drum", "many", "most"] sp__law_pattern := ⟨_, _, ok__law_pattern T F__law_pattern C__law_test C__law_pull ln__law_pattern hs__law_pattern, F__law_pattern, PySem.W.mg_of X G a__law_pattern, k__law_pattern⟩
  have C__law_chain : Cal l.prog w K mg base 4 "_law_chain" s__law_chain ["drum", "many", "deep"] sp__law_chain := ⟨_, _, ok__law_chain T F__law_chain C__law_test C__law_pull ln__law_chain hs__law_chain, F__law_chain, PySem.W.mg_of X G a__law_chain, k__law_chain⟩
  have R_matches_empty : ∀ n : Nat, FnOk l.prog w K mg base CX0 (0 + n) f_matches_empty _ ["pattern"] (toSp K (sp_matches_empty n)) := fun n => by
    induction n with
    | zero => exact fnOk_no no_matches_empty
    | succ n ih => exact ok_matches_empty T F_matches_empty ⟨_, _, ih, F_matches_empty, PySem.W.mg_of X G a_matches_empty, k_matches_empty⟩ (ln_matches_empty (n + 1)) (hs_matches_empty n)
  have C_matches_empty : Cal l.prog w K mg base 46 "matches_empty" s_matches_empty ["pattern"] (sp_matches_empty 45) := ⟨_, _, (R_matches_empty 45).mono (by decide), F_matches_empty, PySem.W.mg_of X G a_matches_empty, k_matches_empty⟩
  have R_tests_of : ∀ n : Nat, FnOk l.prog w K mg base CX0 (0 + n) f_tests_of _ ["pattern"] (toSp K (sp_tests_of n)) := fun n => by
    induction n with
    | zero => exact fnOk_no no_tests_of
    | succ n ih => exact ok_tests_of T F_tests_of ⟨_, _, ih, F_tests_of, PySem.W.mg_of X G a_tests_of, k_tests_of⟩ (ln_tests_of (n + 1)) (hs_tests_of n)
  have C_tests_of : Cal l.prog w K mg base 46 "tests_of" s_tests_of ["pattern"] (sp_tests_of 45) := ⟨_, _, (R_tests_of 45).mono (by decide), F_tests_of, PySem.W.mg_of X G a_tests_of, k_tests_of⟩
  have R_pattern_depth : ∀ n : Nat, FnOk l.prog w K mg base CX0 (0 + n) f_pattern_depth _ ["pattern"] (toSp K (sp_pattern_depth n)) := fun n => by
    induction n with
    | zero => exact fnOk_no no_pattern_depth
    | succ n ih => exact ok_pattern_depth T F_pattern_depth ⟨_, _, ih, F_pattern_depth, PySem.W.mg_of X G a_pattern_depth, k_pattern_depth⟩ (ln_pattern_depth (n + 1)) (hs_pattern_depth n)
  have C_pattern_depth : Cal l.prog w K mg base 46 "pattern_depth" s_pattern_depth ["pattern"] (sp_pattern_depth 45) := ⟨_, _, (R_pattern_depth 45).mono (by decide), F_pattern_depth, PySem.W.mg_of X G a_pattern_depth, k_pattern_depth⟩
  have C_names_of : Cal l.prog w K mg base 47 "names_of" s_names_of ["pattern"] sp_names_of := ⟨_, _, ok_names_of T F_names_of C_tests_of ln_names_of hs_names_of, F_names_of, PySem.W.mg_of X G a_names_of, k_names_of⟩
  have C_pattern_size : Cal l.prog w K mg base 47 "pattern_size" s_pattern_size ["pattern"] sp_pattern_size := ⟨_, _, ok_pattern_size T F_pattern_size C_tests_of ln_pattern_size hs_pattern_size, F_pattern_size, PySem.W.mg_of X G a_pattern_size, k_pattern_size⟩
  have R_sequence_of : ∀ n : Nat, FnOk l.prog w K mg base CX0 (1 + n) f_sequence_of _ ["pattern"] (toSp K (sp_sequence_of n)) := fun n => by
    induction n with
    | zero => exact fnOk_no no_sequence_of
    | succ n ih => exact ok_sequence_of T F_sequence_of ⟨_, _, ih, F_sequence_of, PySem.W.mg_of X G a_sequence_of, k_sequence_of⟩ C_most_of (ln_sequence_of (n + 1)) (hs_sequence_of n)
  have C_sequence_of : Cal l.prog w K mg base 47 "sequence_of" s_sequence_of ["pattern"] (sp_sequence_of 45) := ⟨_, _, (R_sequence_of 45).mono (by decide), F_sequence_of, PySem.W.mg_of X G a_sequence_of, k_sequence_of⟩
  have C__law_holds : Cal l.prog w K mg base 48 "_law_holds" s__law_holds ["drum", "pattern"] sp__law_holds := ⟨_, _, ok__law_holds T F__law_holds C__law_due C__law_pull C_matches_empty C_names_of C_pattern_size C_pattern_depth C_sequence_of C__law_whole ln__law_holds hs__law_holds, F__law_holds, PySem.W.mg_of X G a__law_holds, k__law_holds⟩
  exact ok_law T F_law C__law_drum C__law_pattern C__law_pull C__law_chain C__law_test C__law_due C__law_holds C__law_nodes (fun _ _ _ _ ⟨_, h, _⟩ => by rw [h]; rfl) hs_law
end Lw
open PySem PySem.W PyProof.Rows in
set_option maxRecDepth 100000 in
set_option maxHeartbeats 0 in
theorem PySem.Challenge.cw_foresightenough_k07_pattern_looks_holds : PySem.Challenge.rw_foresightenough_k07_pattern_looks.Holds := by
  w_on; o_law; k_head; (case hw => w_witness2)
  k_fill
  refine DL.walkD (l := PySem.Challenge.rw_foresightenough_k07_pattern_looks) (k := 49) rfl rfl ⟨rfl, by decide, by decide⟩ (fun w h Y => PySem.W.kIn_of Y) ?F
  case F =>
    intro w mg fa h KX G hmg
    refine' Lw.all_mk KX G hmg ?a_matches_empty ?l_matches_empty ?c_matches_empty ?k_matches_empty ?a_tests_of ?l_tests_of ?c_tests_of ?k_tests_of ?a_names_of ?l_names_of ?c_names_of ?k_names_of ?a_pattern_size ?l_pattern_size ?c_pattern_size ?k_pattern_size ?a_pattern_depth ?l_pattern_depth ?c_pattern_depth ?k_pattern_depth ?a_most_of ?l_most_of ?c_most_of ?k_most_of ?a_sequence_of ?l_sequence_of ?c_sequence_of ?k_sequence_of ?a__law_drum ?l__law_drum ?c__law_drum ?k__law_drum ?a__law_pull ?l__law_pull ?c__law_pull ?k__law_pull ?a__law_whole ?l__law_whole ?c__law_whole ?k__law_whole ?a__law_name ?l__law_name ?c__law_name ?k__law_name ?a__law_test ?l__law_test ?c__law_test ?k__law_test ?a__law_pattern ?l__law_pattern ?c__law_pattern ?k__law_pattern ?a__law_chain ?l__law_chain ?c__law_chain ?k__law_chain ?a__law_nodes ?l__law_nodes ?c__law_nodes ?k__law_nodes ?a__law_due ?l__law_due ?c__law_due ?k__law_due ?a__law_holds ?l__law_holds ?c__law_holds ?k__law_holds ?a_law ?l_law ?c_law ?k_law ?z_bool ?z_int ?z_isinstance ?z_len ?z_max ?z_min ?z_range ?z_str ?z_sum ?z_tuple ?z_zip
    (case a_matches_empty => k_is)
    (case l_matches_empty => k_is)
    (case c_matches_empty => k_is)
    (case k_matches_empty => k_is)
    (case a_tests_of => k_is)
    (case l_tests_of => k_is)
    (case c_tests_of => k_is)
    (case k_tests_of => k_is)
    (case a_names_of => k_is)
    (case l_names_of => k_is)
    (case c_names_of => k_is)
    (case k_names_of => k_is)
    (case a_pattern_size => k_is)
    (case l_pattern_size => k_is)
    (case c_pattern_size => k_is)
    (case k_pattern_size => k_is)
    (case a_pattern_depth => k_is)
    (case l_pattern_depth => k_is)
    (case c_pattern_depth => k_is)
    (case k_pattern_depth => k_is)
    (case a_most_of => k_is)
    (case l_most_of => k_is)
    (case c_most_of => k_is)
    (case k_most_of => k_is)
    (case a_sequence_of => k_is)
    (case l_sequence_of => k_is)
    (case c_sequence_of => k_is)
    (case k_sequence_of => k_is)
    (case a__law_drum => k_is)
    (case l__law_drum => k_is)
    (case c__law_drum => k_is)
    (case k__law_drum => k_is)
    (case a__law_pull => k_is)
    (case l__law_pull => k_is)
    (case c__law_pull => k_is)
    (case k__law_pull => k_is)
    (case a__law_whole => k_is)
    (case l__law_whole => k_is)
    (case c__law_whole => k_is)
    (case k__law_whole => k_is)
    (case a__law_name => k_is)
    (case l__law_name => k_is)
    (case c__law_name => k_is)
    (case k__law_name => k_is)
    (case a__law_test => k_is)
    (case l__law_test => k_is)
    (case c__law_test => k_is)
    (case k__law_test => k_is)
    (case a__law_pattern => k_is)
    (case l__law_pattern => k_is)
    (case c__law_pattern => k_is)
    (case k__law_pattern => k_is)
    (case a__law_chain => k_is)
    (case l__law_chain => k_is)
    (case c__law_chain => k_is)
    (case k__law_chain => k_is)
    (case a__law_nodes => k_is)
    (case l__law_nodes => k_is)
    (case c__law_nodes => k_is)
    (case k__law_nodes => k_is)
    (case a__law_due => k_is)
    (case l__law_due => k_is)
    (case c__law_due => k_is)
    (case k__law_due => k_is)
    (case a__law_holds => k_is)
    (case l__law_holds => k_is)
    (case c__law_holds => k_is)
    (case k__law_holds => k_is)
    (case a_law => k_is)
    (case l_law => k_is)
    (case c_law => k_is)
    (case k_law => k_is)
    (case z_bool => k_is)
    (case z_int => k_is)
    (case z_isinstance => k_is)
    (case z_len => k_is)
    (case z_max => k_is)
    (case z_min => k_is)
    (case z_range => k_is)
    (case z_str => k_is)
    (case z_sum => k_is)
    (case z_tuple => k_is)
    (case z_zip => k_is)
end
