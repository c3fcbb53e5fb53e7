import PyProof.Rows.All
import Wide.All
import OpenK.AllK
import Wide.FinOn
import HandS.ForMost
import HandS.TupAny
import HandS.TupMul
import HandS.Conv
import HandS.Deep
import HandS.IsInst
import HandS.SetFor
import HandS.Strs
import HandS.Zip
import KE.GoesEnum
import HandS.MakeKwOnly
import KE.SortData
import HandS.HeadEnd
import HandS.HeadHook2
import HandS.Head2
import KE.BitLaws
import PySem.Challenge.RW_wholetowers_k67_permutations
set_option Elab.async false
set_option linter.all false
set_option maxRecDepth 100000
set_option maxHeartbeats 4000000
set_option maxHeartbeats 4000000
/-! L3a: deep data, the store, the monad, the relation to the hand layer's heap. -/
namespace L3
open PySem L2

/-- deep data: immutable values; ref n: the n-th object of the store; frl: a list that is only read -/
inductive D where
  | non | bl (b : Bool) | int (i : Int) | str (x : Str) | tup (ds : List D) | frl (ds : List D) | ref (n : Nat) | con (a : Addr) | ty (n : String)

mutual
def D.beq : D → D → Bool
  | .non, .non => true
  | .bl a, .bl b => a == b
  | .int a, .int b => a == b
  | .str a, .str b => decide (a = b)
  | .tup a, .tup b => D.beqL a b
  | .frl a, .frl b => D.beqL a b
  | .ref a, .ref b => a == b
  | .con a, .con b => decide (a = b)
  | .ty a, .ty b => a == b
  | _, _ => false
def D.beqL : List D → List D → Bool
  | [], [] => true
  | a :: r, b :: s => D.beq a b && D.beqL r s
  | _, _ => false
end
mutual
theorem D.beq_iff : ∀ a b : D, D.beq a b = true ↔ a = b
  | .non, b => by cases b <;> simp [D.beq]
  | .bl a, b => by cases b <;> simp [D.beq]
  | .int a, b => by cases b <;> simp [D.beq]
  | .str a, b => by cases b <;> simp [D.beq]
  | .tup a, b => by
    cases b with
    | tup b => simp [D.beq, D.beqL_iff a b]
    | _ => simp [D.beq]
  | .frl a, b => by
    cases b with
    | frl b => simp [D.beq, D.beqL_iff a b]
    | _ => simp [D.beq]
  | .ref a, b => by cases b <;> simp [D.beq]
  | .con a, b => by cases b <;> simp [D.beq]
  | .ty a, b => by cases b <;> simp [D.beq]
theorem D.beqL_iff : ∀ a b : List D, D.beqL a b = true ↔ a = b
  | [], b => by cases b <;> simp [D.beqL]
  | a :: r, b => by
    cases b with
    | nil => simp [D.beqL]
    | cons b s => simp [D.beqL, D.beq_iff a b, D.beqL_iff r s]
end
instance : DecidableEq D := fun a b => decidable_of_iff _ (D.beq_iff a b)

/-- what the store holds -/
inductive SObj where
  | lst (ds : List D) | dT (kvs : List (List Key × D)) | dK (kvs : List (Key × D))
  deriving DecidableEq
abbrev Store := List SObj

/-- an exception: its class's name, its value -/
structure Exn where
  cls : String
  val : D
inductive Res (α : Type) where
  | ok (a : α) (st : Store) | exc (e : Exn) (st : Store) | no
abbrev M (α : Type) := Store → Res α
def ret {α : Type} (a : α) : M α := fun st => .ok a st
def fail {α : Type} : M α := fun _ => .no
def bnd {α β : Type} (m : M α) (f : α → M β) : M β := fun st => match m st with
  | .ok a st' => f a st'
  | .exc e st' => .exc e st'
  | .no => .no
def wp {α : Type} (r : Res α) (Q : α → Store → Prop) (E : Exn → Store → Prop) : Prop := match r with
  | .ok a st => Q a st
  | .exc e st => E e st
  | .no => False
theorem wp_bnd {α β : Type} {m : M α} {f : α → M β} {st : Store} {Q : β → Store → Prop} {E : Exn → Store → Prop} (h : wp (bnd m f st) Q E) : wp (m st) (fun a st' => wp (f a st') Q E) E := by
  unfold bnd at h
  cases e : m st with
  | ok a st' => rw [e] at h; exact h
  | exc x st' => rw [e] at h; exact h
  | no => rw [e] at h; exact h
theorem wp_mono {α : Type} {r : Res α} {Q Q' : α → Store → Prop} {E : Exn → Store → Prop} (h : wp r Q E) (f : ∀ a st, Q a st → Q' a st) : wp r Q' E := by
  cases r with
  | ok a st => exact f _ _ h
  | exc x st => exact h
  | no => exact h
/-- within a comprehension nothing may be raised -/
def quiet {α : Type} (m : M α) : M α := fun st => match m st with
  | .ok a st' => .ok a st'
  | _ => .no
theorem wp_quiet {α : Type} {m : M α} {st : Store} {Q : α → Store → Prop} {E E' : Exn → Store → Prop} (h : wp (quiet m st) Q E) : wp (m st) Q E' := by
  unfold quiet at h
  cases e : m st with
  | ok a st' => rw [e] at h; exact h
  | exc x st' => rw [e] at h; exact h.elim
  | no => rw [e] at h; exact h.elim

/-! ### the relation -/
section
variable (K : PySem.W.Frag)
/-- a tuple (a list) that stays as it is -/
def SqTι (ι : List Addr) (H : Hp) (a : Addr) (xs : List V) : Prop := (∃ o, H a = some (.frz o (.tup xs)) ∧ o.dict = none ∧ a ∉ ι) ∨
    ∃ (o : Obj) (its : Array Value) (n : Nat), K.lookup a = some o ∧ o.cls = .type "tuple" ∧ o.dict = none ∧ o.data = .seq its n ∧ its.size ≤ sizeLine ∧ Vals xs its.toList
def SqLι (ι : List Addr) (H : Hp) (a : Addr) (xs : List V) : Prop := (∃ o, H a = some (.frz o (.lst xs)) ∧ a ∉ ι) ∨
    ∃ (o : Obj) (its : Array Value) (n : Nat), K.lookup a = some o ∧ o.cls = .type "list" ∧ o.dict = none ∧ o.data = .seq its n ∧ its.size ≤ sizeLine ∧ Vals xs its.toList
theorem SqTι.to {K : PySem.W.Frag} {ι : List Addr} {H : Hp} {a : Addr} {xs : List V} (h : SqTι K ι H a xs) : SqT K H a xs := h.elim (fun ⟨o, x, _⟩ => .inl (.inr ⟨o, x⟩)) fun ⟨o, its, n, h1, h2, _, h3⟩ => .inr ⟨o, its, n, h1, h2, h3⟩
theorem SqLι.to {K : PySem.W.Frag} {ι : List Addr} {H : Hp} {a : Addr} {xs : List V} (h : SqLι K ι H a xs) : SqL K H a xs := h.elim (fun ⟨o, x, _⟩ => .inl (.inr ⟨o, x⟩)) .inr

mutual
def Rp (ι : List Addr) (H : Hp) (v : V) : D → Prop
  | .non => v = .non
  | .bl b => v = .bl b
  | .int i => v = .int i
  | .str x => v = .str x
  | .tup ds => ∃ a xs, v = .ref a ∧ SqTι K ι H a xs ∧ RpL ι H xs ds
  | .frl ds => ∃ a xs, v = .ref a ∧ SqLι K ι H a xs ∧ RpL ι H xs ds
  | .ref n => ∃ a, v = .ref a ∧ ι[n]? = some a
  | .con a => v = .ref a
  | .ty n => v = .ty n
def RpL (ι : List Addr) (H : Hp) (vs : List V) : List D → Prop
  | [] => vs = []
  | d :: ds => ∃ v r, vs = v :: r ∧ Rp ι H v d ∧ RpL ι H r ds
end
def RpKV {κ : Type} (ι : List Addr) (H : Hp) (ks : List (κ × V)) : List (κ × D) → Prop
  | [] => ks = []
  | d :: ds => ∃ v r, ks = (d.1, v) :: r ∧ Rp K ι H v d.2 ∧ RpKV ι H r ds
def RpO (ι : List Addr) (H : Hp) (a : Addr) : SObj → Prop
  | .lst ds => ∃ xs, H a = some (.lst xs) ∧ RpL K ι H xs ds
  | .dT kvs => ∃ ks, H a = some (.dT ks) ∧ RpKV K ι H ks kvs
  | .dK kvs => ∃ ks, H a = some (.dK ks) ∧ RpKV K ι H ks kvs
structure RelS (ι : List Addr) (H : Hp) (st : Store) : Prop where
  nd : ι.Nodup
  len : ι.length = st.length
  at_ : ∀ (n : Nat) (a : Addr) (o : SObj), ι[n]? = some a → st[n]? = some o → RpO K ι H a o
/-- what happens between two states: objects of the store are new ones; all other objects stay -/
structure Ext (ι : List Addr) (H : Hp) (ι' : List Addr) (H' : Hp) : Prop where
  pre : ι <+: ι'
  keep : ∀ a o, H a = some o → a ∉ ι → H' a = some o
  new : ∀ a, a ∈ ι' → a ∉ ι → H a = none
end

section
variable {K : PySem.W.Frag} {ι ι' ι2 : List Addr} {H H' H2 : Hp} {st st' : Store}
theorem Ext.refl (ι : List Addr) (H : Hp) : Ext ι H ι H := ⟨List.prefix_refl _, fun _ _ h _ => h, fun _ h n => absurd h n⟩
theorem Ext.trans (a : Ext ι H ι' H') (b : Ext ι' H' ι2 H2) : Ext ι H ι2 H2 where
  pre := a.pre.trans b.pre
  keep := fun c o h n => b.keep c o (a.keep c o h n) fun hc => by
    have := a.new c hc n
    rw [h] at this; cases this
  new := fun c hc n => by
    by_cases h1 : c ∈ ι'
    · exact a.new c h1 n
    · have h2 := b.new c hc h1
      cases e : H c with
      | none => rfl
      | some o =>
        have := a.keep c o e n
        rw [h2] at this; cases this
theorem Ext.notin (x : Ext ι H ι' H') {a : Addr} {o : HO} (h : H a = some o) (n : a ∉ ι) : a ∉ ι' := fun hc => by
  have := x.new a hc n
  rw [h] at this; cases this
theorem Ext.get (x : Ext ι H ι' H') {n : Nat} {a : Addr} (h : ι[n]? = some a) : ι'[n]? = some a := by
  obtain ⟨r, rfl⟩ := x.pre
  rw [List.getElem?_append_left]
  · exact h
  · exact (List.getElem?_eq_some_iff.mp h).1
theorem Ext.rd (x : Ext ι H ι' H') {a : Addr} {u : HO} (h : Rd H a u) (n : a ∉ ι) : Rd H' a u ∧ a ∉ ι' := by
  rcases h with h | ⟨o, h⟩
  · exact ⟨.inl (x.keep _ _ h n), x.notin h n⟩
  · exact ⟨.inr ⟨o, x.keep _ _ h n⟩, x.notin h n⟩
/-- what values lean on: the frozen objects, the places of the store -/
structure Kp (ι : List Addr) (H : Hp) (ι' : List Addr) (H' : Hp) : Prop where
  get : ∀ (n : Nat) (a : Addr), ι[n]? = some a → ι'[n]? = some a
  keep : ∀ a o u, H a = some (.frz o u) → a ∉ ι → H' a = some (.frz o u) ∧ a ∉ ι'
theorem Ext.kp (x : Ext ι H ι' H') : Kp ι H ι' H' := ⟨fun _ _ h => x.get h, fun _ _ _ h n => ⟨x.keep _ _ h n, x.notin h n⟩⟩
theorem Kp.sqt (x : Kp ι H ι' H') {a : Addr} {xs : List V} (h : SqTι K ι H a xs) : SqTι K ι' H' a xs := h.elim (fun ⟨o, z, d, n⟩ => .inl ⟨o, (x.keep _ _ _ z n).1, d, (x.keep _ _ _ z n).2⟩) .inr
theorem Kp.sql (x : Kp ι H ι' H') {a : Addr} {xs : List V} (h : SqLι K ι H a xs) : SqLι K ι' H' a xs := h.elim (fun ⟨o, z, n⟩ => .inl ⟨o, (x.keep _ _ _ z n).1, (x.keep _ _ _ z n).2⟩) .inr
mutual
theorem Kp.rp (x : Kp ι H ι' H') : ∀ {d : D} {v : V}, Rp K ι H v d → Rp K ι' H' v d
  | .non, _, h => by simpa only [Rp] using h
  | .bl _, _, h => by simpa only [Rp] using h
  | .int _, _, h => by simpa only [Rp] using h
  | .str _, _, h => by simpa only [Rp] using h
  | .tup ds, _, h => by
    simp only [Rp] at h ⊢
    obtain ⟨a, xs, e, q, r⟩ := h
    exact ⟨a, xs, e, x.sqt q, x.rpl r⟩
  | .frl ds, _, h => by
    simp only [Rp] at h ⊢
    obtain ⟨a, xs, e, q, r⟩ := h
    exact ⟨a, xs, e, x.sql q, x.rpl r⟩
  | .ref n, _, h => by
    simp only [Rp] at h ⊢
    obtain ⟨a, e, q⟩ := h
    exact ⟨a, e, x.get _ _ q⟩
  | .con _, _, h => by simpa only [Rp] using h
  | .ty _, _, h => by simpa only [Rp] using h
theorem Kp.rpl (x : Kp ι H ι' H') : ∀ {ds : List D} {vs : List V}, RpL K ι H vs ds → RpL K ι' H' vs ds
  | [], _, h => by simpa only [RpL] using h
  | d :: ds, _, h => by
    simp only [RpL] at h ⊢
    obtain ⟨v, r, e, h1, h2⟩ := h
    exact ⟨v, r, e, x.rp h1, x.rpl h2⟩
end
theorem Kp.rpkv {κ : Type} (x : Kp ι H ι' H') : ∀ {ds : List (κ × D)} {vs : List (κ × V)}, RpKV K ι H vs ds → RpKV K ι' H' vs ds
  | [], _, h => by simpa only [RpKV] using h
  | d :: ds, _, h => by
    simp only [RpKV] at h ⊢
    obtain ⟨v, r, e, h1, h2⟩ := h
    exact ⟨v, r, e, x.rp h1, x.rpkv h2⟩
theorem Kp.rpo (x : Kp ι H ι' H') {a : Addr} {o : SObj} (e : H' a = H a) (h : RpO K ι H a o) : RpO K ι' H' a o := by
  cases o with
  | lst ds => obtain ⟨xs, h1, h2⟩ := h; exact ⟨xs, e.trans h1, x.rpl h2⟩
  | dT ds => obtain ⟨xs, h1, h2⟩ := h; exact ⟨xs, e.trans h1, x.rpkv h2⟩
  | dK ds => obtain ⟨xs, h1, h2⟩ := h; exact ⟨xs, e.trans h1, x.rpkv h2⟩
theorem Ext.sqt (x : Ext ι H ι' H') {a : Addr} {xs : List V} (h : SqTι K ι H a xs) : SqTι K ι' H' a xs := x.kp.sqt h
theorem Ext.sql (x : Ext ι H ι' H') {a : Addr} {xs : List V} (h : SqLι K ι H a xs) : SqLι K ι' H' a xs := x.kp.sql h
theorem Ext.rp (x : Ext ι H ι' H') {d : D} {v : V} (h : Rp K ι H v d) : Rp K ι' H' v d := x.kp.rp h
theorem Ext.rpl (x : Ext ι H ι' H') {ds : List D} {vs : List V} (h : RpL K ι H vs ds) : RpL K ι' H' vs ds := x.kp.rpl h
theorem Ext.rpkv {κ : Type} (x : Ext ι H ι' H') {ds : List (κ × D)} {vs : List (κ × V)} (h : RpKV K ι H vs ds) : RpKV K ι' H' vs ds := x.kp.rpkv h

theorem RpL.length : ∀ {ds : List D} {vs : List V}, RpL K ι H vs ds → vs.length = ds.length
  | [], _, h => by simp only [RpL] at h; rw [h]; rfl
  | d :: ds, _, h => by
    simp only [RpL] at h
    obtain ⟨v, r, rfl, _, h2⟩ := h
    simp [RpL.length h2]
theorem RpL.cons {d : D} {ds : List D} {v : V} {vs : List V} (h : Rp K ι H v d) (t : RpL K ι H vs ds) : RpL K ι H (v :: vs) (d :: ds) := by
  simp only [RpL]; exact ⟨v, vs, rfl, h, t⟩
theorem RpL.nil : RpL K ι H [] [] := by simp only [RpL]
theorem RpL.get : ∀ {ds : List D} {vs : List V} {i : Nat} {d : D}, RpL K ι H vs ds → ds[i]? = some d → ∃ v, vs[i]? = some v ∧ Rp K ι H v d
  | [], _, _, _, _, e => by simp at e
  | d :: ds, _, 0, _, h, e => by
    simp only [RpL] at h
    obtain ⟨v, r, rfl, h1, h2⟩ := h
    simp at e; subst e
    exact ⟨v, rfl, h1⟩
  | d :: ds, _, i + 1, _, h, e => by
    simp only [RpL] at h
    obtain ⟨v, r, rfl, h1, h2⟩ := h
    obtain ⟨w, q1, q2⟩ := RpL.get (i := i) h2 (by simpa using e)
    exact ⟨w, by simpa using q1, q2⟩
theorem RpL.get' : ∀ {ds : List D} {vs : List V} {i : Nat} {v : V}, RpL K ι H vs ds → vs[i]? = some v → ∃ d, ds[i]? = some d ∧ Rp K ι H v d := by
  intro ds vs i v h e
  have hl := h.length
  have hi := (List.getElem?_eq_some_iff.mp e).1
  obtain ⟨w, q1, q2⟩ := h.get (i := i) (d := ds[i]'(by omega)) (List.getElem?_eq_getElem _)
  rw [e] at q1; cases q1
  exact ⟨_, List.getElem?_eq_getElem _, q2⟩
theorem RpL.append : ∀ {ds es : List D} {vs ws : List V}, RpL K ι H vs ds → RpL K ι H ws es → RpL K ι H (vs ++ ws) (ds ++ es)
  | [], _, _, _, h, t => by simp only [RpL] at h; subst h; simpa using t
  | d :: ds, _, _, _, h, t => by
    simp only [RpL] at h
    obtain ⟨v, r, rfl, h1, h2⟩ := h
    exact RpL.cons h1 (RpL.append h2 t)
theorem RpL.take : ∀ {ds : List D} {vs : List V} (n : Nat), RpL K ι H vs ds → RpL K ι H (vs.take n) (ds.take n)
  | _, _, 0, _ => by simpa using RpL.nil
  | [], _, n + 1, h => by simp only [RpL] at h; subst h; simpa using RpL.nil
  | d :: ds, _, n + 1, h => by
    simp only [RpL] at h
    obtain ⟨v, r, rfl, h1, h2⟩ := h
    exact RpL.cons h1 (RpL.take n h2)
theorem RpL.drop : ∀ {ds : List D} {vs : List V} (n : Nat), RpL K ι H vs ds → RpL K ι H (vs.drop n) (ds.drop n)
  | _, _, 0, h => by simpa using h
  | [], _, n + 1, h => by simp only [RpL] at h; subst h; simpa using RpL.nil
  | d :: ds, _, n + 1, h => by
    simp only [RpL] at h
    obtain ⟨v, r, rfl, h1, h2⟩ := h
    exact RpL.drop n h2
theorem RpL.set {d : D} {v : V} (r : Rp K ι H v d) : ∀ {ds : List D} {vs : List V} (i : Nat), RpL K ι H vs ds → RpL K ι H (vs.set i v) (ds.set i d)
  | [], _, i, h => by simp only [RpL] at h; subst h; simpa using RpL.nil
  | e :: ds, _, 0, h => by
    simp only [RpL] at h
    obtain ⟨w, s, rfl, h1, h2⟩ := h
    exact RpL.cons r h2
  | e :: ds, _, i + 1, h => by
    simp only [RpL] at h
    obtain ⟨w, s, rfl, h1, h2⟩ := h
    exact RpL.cons h1 (RpL.set r i h2)
theorem RpL.eraseIdx : ∀ {ds : List D} {vs : List V} (i : Nat), RpL K ι H vs ds → RpL K ι H (vs.eraseIdx i) (ds.eraseIdx i)
  | [], _, i, h => by simp only [RpL] at h; subst h; simpa using RpL.nil
  | e :: ds, _, 0, h => by
    simp only [RpL] at h
    obtain ⟨w, s, rfl, h1, h2⟩ := h
    exact h2
  | e :: ds, _, i + 1, h => by
    simp only [RpL] at h
    obtain ⟨w, s, rfl, h1, h2⟩ := h
    exact RpL.cons h1 (RpL.eraseIdx i h2)
theorem RpL.reverse : ∀ {ds : List D} {vs : List V}, RpL K ι H vs ds → RpL K ι H vs.reverse ds.reverse
  | [], _, h => by simp only [RpL] at h; subst h; simpa using RpL.nil
  | e :: ds, _, h => by
    simp only [RpL] at h
    obtain ⟨w, s, rfl, h1, h2⟩ := h
    rw [List.reverse_cons, List.reverse_cons]
    exact RpL.append (RpL.reverse h2) (RpL.cons h1 RpL.nil)
theorem RpL.rep {ds : List D} {vs : List V} (h : RpL K ι H vs ds) : ∀ k : Nat, RpL K ι H (List.replicate k vs).flatten (List.replicate k ds).flatten
  | 0 => by simpa using RpL.nil
  | k + 1 => by
    rw [List.replicate_succ, List.replicate_succ, List.flatten_cons, List.flatten_cons]
    exact h.append (RpL.rep h k)

/-- the objects of the store are mutable ones -/
theorem RelS.mut (R : RelS K ι H st) {a : Addr} (h : a ∈ ι) : ∃ o, H a = some o ∧ ((∃ xs, o = .lst xs) ∨ (∃ ks, o = .dT ks) ∨ (∃ ks, o = .dK ks)) := by
  obtain ⟨n, hn⟩ := List.mem_iff_getElem?.mp h
  have hl : n < st.length := by rw [← R.len]; exact (List.getElem?_eq_some_iff.mp hn).1
  have q := R.at_ n a st[n] hn (List.getElem?_eq_getElem hl)
  cases e : st[n] with
  | lst ds => rw [e] at q; obtain ⟨xs, q, _⟩ := q; exact ⟨_, q, .inl ⟨_, rfl⟩⟩
  | dT ds => rw [e] at q; obtain ⟨xs, q, _⟩ := q; exact ⟨_, q, .inr (.inl ⟨_, rfl⟩)⟩
  | dK ds => rw [e] at q; obtain ⟨xs, q, _⟩ := q; exact ⟨_, q, .inr (.inr ⟨_, rfl⟩)⟩
theorem RelS.obj (R : RelS K ι H st) {n : Nat} {a : Addr} (h : ι[n]? = some a) : ∃ o, st[n]? = some o ∧ RpO K ι H a o := by
  have hl : n < st.length := by rw [← R.len]; exact (List.getElem?_eq_some_iff.mp h).1
  exact ⟨st[n], List.getElem?_eq_getElem hl, R.at_ n a st[n] h (List.getElem?_eq_getElem hl)⟩
theorem Ext.rpo (x : Ext ι H ι' H') {a : Addr} {o : SObj} (e : H' a = H a) (h : RpO K ι H a o) : RpO K ι' H' a o := x.kp.rpo e h
/-- the heap has grown outside of the store -/
theorem Ext.upd {p : Addr} {o : HO} (h : H p = none) : Ext ι H ι (upd H p o) := ⟨List.prefix_refl _, fun a o' e _ => by rw [upd_ne (ne_of_none e h)]; exact e, fun _ q n => absurd q n⟩
theorem RelS.grow (R : RelS K ι H st) {p : Addr} {o : HO} (h : H p = none) : RelS K ι (upd H p o) st := by
  refine ⟨R.nd, R.len, fun n a q h1 h2 => ?_⟩
  obtain ⟨u, hu, _⟩ := R.mut (List.mem_of_getElem? h1)
  exact (Ext.upd h).rpo (upd_ne (ne_of_none hu h)) (R.at_ n a q h1 h2)
/-- .. the same in general -/
theorem RelS.same (R : RelS K ι H st) (x : Ext ι H ι H') (e : ∀ a ∈ ι, H' a = H a) : RelS K ι H' st :=
  ⟨R.nd, R.len, fun n a q h1 h2 => x.rpo (e a (List.mem_of_getElem? h1)) (R.at_ n a q h1 h2)⟩
/-- a mutable object outside of the store is met by no value: it may join -/
theorem kp_join {p : Addr} (m : L2.Mut (H p)) : Kp ι H (ι ++ [p]) H :=
  ⟨fun n a q => by rw [List.getElem?_append_left (List.getElem?_eq_some_iff.mp q).1]; exact q, fun a o u h n => ⟨h, fun hc => by
    rcases List.mem_append.mp hc with q | q
    · exact n q
    · simp at q; subst q; rw [h] at m; exact m⟩⟩
theorem Rp.join {p : Addr} (m : L2.Mut (H p)) {d : D} {v : V} (h : Rp K ι H v d) : Rp K (ι ++ [p]) H v d := (kp_join m).rp h
theorem RpL.join {p : Addr} (m : L2.Mut (H p)) {ds : List D} {vs : List V} (h : RpL K ι H vs ds) : RpL K (ι ++ [p]) H vs ds := (kp_join m).rpl h
theorem RpO.join {p a : Addr} {o : SObj} (m : L2.Mut (H p)) (h : RpO K ι H a o) : RpO K (ι ++ [p]) H a o := (kp_join m).rpo rfl h
theorem RpO.mut {a : Addr} {o : SObj} (h : RpO K ι H a o) : L2.Mut (H a) := by
  cases o with
  | lst ds => obtain ⟨xs, h1, _⟩ := h; rw [h1]; trivial
  | dT ds => obtain ⟨xs, h1, _⟩ := h; rw [h1]; trivial
  | dK ds => obtain ⟨xs, h1, _⟩ := h; rw [h1]; trivial
/-- an object is put into the store -/
theorem RelS.push (R : RelS K ι H st) {p : Addr} {o : SObj} (hp : p ∉ ι) (h : RpO K ι H p o) : RelS K (ι ++ [p]) H (st ++ [o]) := by
  have m := h.mut
  refine ⟨?_, by simp [R.len], fun n a q h1 h2 => ?_⟩
  · rw [List.nodup_append]
    refine ⟨R.nd, by simp, fun a ha b hb => ?_⟩
    rintro rfl
    simp at hb; subst hb; exact hp ha
  · by_cases hn : n < ι.length
    · rw [List.getElem?_append_left hn] at h1
      rw [List.getElem?_append_left (by rw [← R.len]; exact hn)] at h2
      exact (R.at_ n a q h1 h2).join m
    · have e : n = ι.length := by
        have := (List.getElem?_eq_some_iff.mp h1).1
        simp at this; omega
      subst e
      simp at h1; subst h1
      rw [R.len] at h2
      simp at h2; subst h2
      exact h.join m
/-- .. as seen from a state in which it was not yet -/
theorem Ext.join {p : Addr} {H₀ : Hp} {ι₀ : List Addr} (x : Ext ι₀ H₀ ι H) (h : H₀ p = none) : Ext ι₀ H₀ (ι ++ [p]) H :=
  ⟨x.pre.trans (List.prefix_append _ _), x.keep, fun a ha n => by
    rcases List.mem_append.mp ha with q | q
    · exact x.new a q n
    · simp at q; subst q; exact h⟩
/-- .. a private change -/
theorem RelS.kp (R : RelS K ι H st) (x : Kp ι H ι H') (e : ∀ a ∈ ι, H' a = H a) : RelS K ι H' st :=
  ⟨R.nd, R.len, fun n a q h1 h2 => x.rpo (e a (List.mem_of_getElem? h1)) (R.at_ n a q h1 h2)⟩
/-- an object of the store is changed -/
theorem Ext.set {n : Nat} {a : Addr} {o : HO} (h : ι[n]? = some a) : Ext ι H ι (L2.upd H a o) :=
  ⟨List.prefix_refl _, fun b o' e nb => by rw [L2.upd_ne (a := a) (b := b) (fun z => nb (by rw [z]; exact List.mem_of_getElem? h))]; exact e, fun _ q n => absurd q n⟩
theorem RelS.set (R : RelS K ι H st) {n : Nat} {a : Addr} {o : HO} {q : SObj} (h : ι[n]? = some a) (hq : RpO K ι (upd H a o) a q) : RelS K ι (upd H a o) (st.set n q) := by
  refine ⟨R.nd, by simp [R.len], fun m b u h1 h2 => ?_⟩
  by_cases e : n = m
  · subst e
    rw [h] at h1; cases h1
    have hl : n < st.length := by rw [← R.len]; exact (List.getElem?_eq_some_iff.mp h).1
    rw [List.getElem?_set_self hl] at h2
    cases h2
    exact hq
  · rw [List.getElem?_set_ne e] at h2
    have hb : b ≠ a := fun z => by
      subst z
      obtain ⟨i1, e1⟩ := List.getElem?_eq_some_iff.mp h
      obtain ⟨i2, e2⟩ := List.getElem?_eq_some_iff.mp h1
      exact e ((List.getElem_inj R.nd).mp (e1.trans e2.symm))
    exact (Ext.set h).rpo (upd_ne hb) (R.at_ m b u h1 h2)
end

/-! ### environments -/
abbrev Ev := List (Option D)
section
variable {K : PySem.W.Frag} {ι ι' : List Addr} {H H' : Hp}
structure REnv (K : PySem.W.Frag) (ι : List Addr) (H : Hp) (σ : L2.St) (env : Ev) : Prop where
  len : σ.length = env.length
  at_ : ∀ (i : Nat) (d : D), env[i]? = some (some d) → ∃ v, σ[i]? = some (some v) ∧ Rp K ι H v d
theorem REnv.ext {σ : L2.St} {env : Ev} (R : REnv K ι H σ env) (x : Ext ι H ι' H') : REnv K ι' H' σ env :=
  ⟨R.len, fun i d h => let ⟨v, h1, h2⟩ := R.at_ i d h; ⟨v, h1, x.rp h2⟩⟩
theorem REnv.kp {σ : L2.St} {env : Ev} (R : REnv K ι H σ env) (x : Kp ι H ι' H') : REnv K ι' H' σ env :=
  ⟨R.len, fun i d h => let ⟨v, h1, h2⟩ := R.at_ i d h; ⟨v, h1, x.rp h2⟩⟩
theorem REnv.set {σ : L2.St} {env : Ev} (R : REnv K ι H σ env) {v : V} {d : D} (i : Nat) (h : Rp K ι H v d) : REnv K ι H (σ.set i (some v)) (env.set i (some d)) := by
  refine ⟨by simp [R.len], fun j e q => ?_⟩
  by_cases hi : i = j
  · subst hi
    by_cases hl : i < env.length
    · rw [List.getElem?_set_self hl] at q; cases q
      exact ⟨v, by rw [List.getElem?_set_self (by rw [R.len]; exact hl)], h⟩
    · rw [List.getElem?_eq_none (by simp; omega)] at q; cases q
  · rw [List.getElem?_set_ne hi] at q ⊢
    exact R.at_ j e q
def wipeE (env : Ev) : List Nat → Ev
  | [] => env
  | v :: vs => (wipeE env vs).set v none
theorem REnv.wipe {σ : L2.St} {env : Ev} (R : REnv K ι H σ env) : ∀ vs : List Nat, REnv K ι H (L2.wipe σ vs) (wipeE env vs)
  | [] => R
  | v :: vs => by
    have q := REnv.wipe R vs
    unfold L2.wipe wipeE
    refine ⟨by simp [q.len], fun j e z => ?_⟩
    by_cases hi : v = j
    · subst hi
      by_cases hl : v < (wipeE env vs).length
      · rw [List.getElem?_set_self hl] at z; cases z
      · rw [List.getElem?_eq_none (by simp; omega)] at z; cases z
    · rw [List.getElem?_set_ne hi] at z ⊢
      exact q.at_ j e z
end
end L3
set_option maxHeartbeats 4000000
/-! L3b: the transformers of mirrors; rules for names, constants, operators, tests, statements, loops. -/
namespace L3
open PySem L2

theorem PE.wk {X : Cx} {e : Expr} {t t' : TE} (h : PE X e t) (w : ∀ σ H Q, t' σ H Q → t σ H Q) : PE X e t' := ⟨fun pins s σ H Q I q => h.run pins s σ H Q I (w σ H Q q)⟩
theorem PT.wk {X : Cx} {e : Expr} {t t' : TT} (h : PT X e t) (w : ∀ σ H Q, t' σ H Q → t σ H Q) : PT X e t' := ⟨fun pins s σ H Q I q => h.run pins s σ H Q I (w σ H Q q)⟩
theorem PW.wk {X : Cx} {e : Expr} {t t' : TT} (h : PW X e t) (w : ∀ σ H Q, t' σ H Q → t σ H Q) : PW X e t' := ⟨fun wh pins s σ H Q I q => h.run wh pins s σ H Q I (w σ H Q q)⟩
theorem PA.wk {X : Cx} {e : List Expr} {t t' : TA} (h : PA X e t) (w : ∀ σ H Q, t' σ H Q → t σ H Q) : PA X e t' := ⟨fun p pins s σ H Q I q => h.run p pins s σ H Q I (w σ H Q q)⟩
theorem PK.wk {X : Cx} {e : List Keyword} {t t' : TA} (h : PK X e t) (w : ∀ σ H Q, t' σ H Q → t σ H Q) : PK X e t' := ⟨fun p pins s σ H Q I q => h.run p pins s σ H Q I (w σ H Q q)⟩
theorem PS.wk {X : Cx} {e : Stmt} {t t' : TS} (h : PS X e t) (w : ∀ D σ H, t' D σ H → t D σ H) : PS X e t' := ⟨fun pins s σ H D I q => h.run pins s σ H D I (w D σ H q)⟩
theorem PSs.wk {X : Cx} {e : List Stmt} {t t' : TS} (h : PSs X e t) (w : ∀ D σ H, t' D σ H → t D σ H) : PSs X e t' := ⟨fun pins s σ H D I q => h.run pins s σ H D I (w D σ H q)⟩
theorem PG.wk {X : Cx} {e : Expr} {t t' : TG} (h : PG X e t) (w : ∀ v σ H Q, t' v σ H Q → t v σ H Q) : PG X e t' := ⟨fun pins s σ H v u Q I r q => h.run pins s σ H v u Q I r (w v σ H Q q)⟩
theorem PGs.wk {X : Cx} {e : List Expr} {t t' : TGs} (h : PGs X e t) (w : ∀ v σ H Q, t' v σ H Q → t v σ H Q) : PGs X e t' := ⟨fun pins s σ H v u Q I r q => h.run pins s σ H v u Q I r (w v σ H Q q)⟩
theorem PI.wk {X : Cx} {tg e : Expr} {t t' : TI} (h : PI X tg e t) (w : ∀ σ H Q, t' σ H Q → t σ H Q) : PI X tg e t' := ⟨fun pins s σ H R I q => h.run pins s σ H R I (w σ H R q)⟩

/-! ### the transformers -/
abbrev ExW := Exn → Store → Prop
/-- the state of the mirror stands for that of the machine -/
structure Rel (K : PySem.W.Frag) (ι : List Addr) (σ : L2.St) (H : Hp) (env : Ev) (st : Store) : Prop where
  s : RelS K ι H st
  e : REnv K ι H σ env
theorem Rel.mk' {K : PySem.W.Frag} {ι : List Addr} {σ : L2.St} {H : Hp} {env : Ev} {st : Store} (a : RelS K ι H st) (b : REnv K ι H σ env) : Rel K ι σ H env st := ⟨a, b⟩
section
variable (K : PySem.W.Frag) (E : ExW)
/-- a fresh list: not in the store, new since H₀ -/
def Tmp (ι : List Addr) (H₀ H : Hp) (v : V) (ds : List D) : Prop := ∃ a vs, v = .ref a ∧ H a = some (.lst vs) ∧ a ∉ ι ∧ H₀ a = none ∧ RpL K ι H vs ds
/-- a list that can be read -/
def Rdl (ι : List Addr) (H : Hp) (v : V) (ds : List D) : Prop := ∃ a vs, v = .ref a ∧ H a = some (.lst vs) ∧ RpL K ι H vs ds
/-- a list or a tuple that can be read -/
def Sqn (ι : List Addr) (H : Hp) (v : V) (ds : List D) : Prop := ∃ a vs, v = .ref a ∧ (SqL K H a vs ∨ SqTι K ι H a vs) ∧ RpL K ι H vs ds
/-- the transformer of a mirror m, its results laid as P says -/
def tX {α : Type} (P : List Addr → Hp → Hp → V → α → Prop) (m : Ev → M α) : TE := fun σ H Q => ∃ ι env st, Rel K ι σ H env st ∧ wp (m env st) (fun d st' => ∀ ι' H' v, Ext ι H ι' H' → RelS K ι' H' st' → P ι' H H' v d → Q v H') E
def PD (ι : List Addr) (_ : Hp) (H : Hp) (v : V) (d : D) : Prop := Rp K ι H v d
def PLs (ι : List Addr) (H₀ : Hp) (H : Hp) (v : V) (ds : List D) : Prop := Tmp K ι H₀ H v ds
def PRl (ι : List Addr) (_ : Hp) (H : Hp) (v : V) (ds : List D) : Prop := Rdl K ι H v ds
def PQ (ι : List Addr) (_ : Hp) (H : Hp) (v : V) (ds : List D) : Prop := Sqn K ι H v ds
abbrev tD (m : Ev → M D) : TE := tX K E (PD K) m
abbrev tLs (m : Ev → M (List D)) : TE := tX K E (PLs K) m
abbrev tRl (m : Ev → M (List D)) : TE := tX K E (PRl K) m
abbrev tQ (m : Ev → M (List D)) : TE := tX K E (PQ K) m
def tB (m : Ev → M Bool) : TT := fun σ H Q => ∃ ι env st, Rel K ι σ H env st ∧ wp (m env st) (fun d st' => ∀ ι' H', Ext ι H ι' H' → RelS K ι' H' st' → Q d H') E
def tAr (m : Ev → M (List D)) : TA := fun σ H Q => ∃ ι env st, Rel K ι σ H env st ∧ wp (m env st) (fun ds st' => ∀ ι' H' vs, Ext ι H ι' H' → RelS K ι' H' st' → RpL K ι' H' vs ds → Q vs H') E
inductive Out where
  | nx (e : Ev) | rt (d : D) | bk (e : Ev) | ct (e : Ev)
def OutOk (ι : List Addr) (H : Hp) (o : Out) (D : Ends) : Prop := match o with
  | .nx e => ∀ σ, REnv K ι H σ e → D.nx σ H
  | .rt d => ∀ v, Rp K ι H v d → D.rt v H
  | .bk e => ∀ σ, REnv K ι H σ e → D.bk σ H
  | .ct e => ∀ σ, REnv K ι H σ e → D.ct σ H
def tSt (m : Ev → M Out) : TS := fun D σ H => ∃ ι env st, Rel K ι σ H env st ∧ wp (m env st) (fun o st' => ∀ ι' H', Ext ι H ι' H' → RelS K ι' H' st' → OutOk K ι' H' o D) E
end
section
variable {K : PySem.W.Frag} {E : ExW} {ι ι' : List Addr} {σ : L2.St} {H H' : Hp} {env : Ev} {st st' : Store}
theorem Rel.to (R : Rel K ι σ H env st) (x : Ext ι H ι' H') (S : RelS K ι' H' st') : Rel K ι' σ H' env st' := ⟨S, R.e.ext x⟩
theorem tX.mono {α β : Type} {P : List Addr → Hp → Hp → V → α → Prop} {P' : List Addr → Hp → Hp → V → β → Prop} {m : Ev → M α} {m' : Ev → M β} {Q Q' : VK}
    (h : tX K E P m σ H Q) (hm : ∀ env st (Z : β → Store → Prop), wp (m env st) (fun d st' => wp (m env st) (fun d' st'' => d' = d → st'' = st' → True) E) E → True) : True := True.intro
/-- what stays: an object outside of the store -/
theorem Tmp.ext {H₀ : Hp} {v : V} {ds : List D} (x : Ext ι H ι' H') (h : Tmp K ι H₀ H v ds) : Tmp K ι' H₀ H' v ds := by
  obtain ⟨a, vs, e, h1, h2, h3, h4⟩ := h
  exact ⟨a, vs, e, x.keep _ _ h1 h2, x.notin h1 h2, h3, x.rpl h4⟩
theorem Tmp.old {H₀ H₁ : Hp} {ι₀ ι₁ : List Addr} {v : V} {ds : List D} (x : Ext ι₀ H₀ ι₁ H₁) (h : Tmp K ι H₁ H v ds) (hx : Ext ι₁ H₁ ι H) : Tmp K ι H₀ H v ds := by
  obtain ⟨a, vs, e, h1, h2, h3, h4⟩ := h
  refine ⟨a, vs, e, h1, h2, ?_, h4⟩
  cases q : H₀ a with
  | none => rfl
  | some o =>
    have n0 : a ∉ ι₀ := fun hc => by
      obtain ⟨r, hr⟩ := x.pre
      have : a ∈ ι₁ := by rw [← hr]; exact List.mem_append_left _ hc
      obtain ⟨r', hr'⟩ := hx.pre
      exact h2 (by rw [← hr']; exact List.mem_append_left _ this)
    have := x.keep _ _ q n0
    rw [h3] at this; cases this
theorem Tmp.rdl {H₀ : Hp} {v : V} {ds : List D} (h : Tmp K ι H₀ H v ds) : Rdl K ι H v ds := let ⟨a, vs, e, h1, _, _, h4⟩ := h; ⟨a, vs, e, h1, h4⟩
theorem Rdl.sqn {v : V} {ds : List D} (h : Rdl K ι H v ds) : Sqn K ι H v ds := let ⟨a, vs, e, h1, h4⟩ := h; ⟨a, vs, e, .inl (SqL.of h1), h4⟩
end

/-! ### names and constants -/
def getV (i : Nat) : Ev → M D := fun env st => match env[i]? with
  | some (some d) => .ok d st
  | _ => .no
def cst (d : D) : Ev → M D := fun _ st => .ok d st
section
variable {X : Cx} {E : ExW} {e : Expr}
theorem ge_v (i : Nat) {x : Str} {pos : Pos} (hN : X.N[i]? = some x := by rfl) (hv : Vis X.env.scope x := by first | exact Or.inl rfl | exact Or.inr (Or.inl rfl) | exact Or.inr (Or.inr rfl)) (hd : (x == ("__debug__" : Str)) = false := by decide)
    (hcd : (x == ("__classdict__" : Str)) = false := by decide) : PE X (.Name x pos) (tD X.K E (getV i)) := by
  refine PE.wk (pe_var hN hv hd hcd) fun σ H Q h => ?_
  obtain ⟨ι, env, st, R, h⟩ := h
  unfold getV at h
  split at h
  · rename_i d e
    obtain ⟨v, h1, h2⟩ := R.e.at_ i d e
    exact ⟨v, h1, h ι H v (Ext.refl _ _) R.s h2⟩
  · exact h.elim
theorem ge_c {e : Expr} {v : V} (d : D) (h : PE X e (tC v)) (hr : ∀ ι H, Rp X.K ι H v d) : PE X e (tD X.K E (cst d)) := by
  refine PE.wk h fun σ H Q h => ?_
  obtain ⟨ι, env, st, R, h⟩ := h
  exact h ι H v (Ext.refl _ _) R.s (hr _ _)
theorem ge_int {i j pos} : PE X (.Constant (.int i) j pos) (tD X.K E (cst (.int i))) := ge_c _ pe_int fun _ _ => by simp only [Rp]
theorem ge_bl {b j pos} : PE X (.Constant (.bool b) j pos) (tD X.K E (cst (.bl b))) := ge_c _ pe_bl fun _ _ => by simp only [Rp]
theorem ge_non {j pos} : PE X (.Constant .none j pos) (tD X.K E (cst .non)) := ge_c _ pe_non fun _ _ => by simp only [Rp]
theorem ge_str {x j pos} : PE X (.Constant (.str x) j pos) (tD X.K E (cst (.str x))) := ge_c _ pe_str fun _ _ => by simp only [Rp]
/-- a constant of the module that is an int -/
theorem ge_gint {x : Str} {i : Int} {t : Tok} {pos : Pos} (hg : Gl X x) (hm : X.mg x = some (.int i t)) (hd : (x == ("__debug__" : Str)) = false := by decide) : PE X (.Name x pos) (tD X.K E (cst (.int i))) := ge_c (v := .int i) _ (pe_glob hg hm ⟨t, rfl⟩ hd) fun _ _ => by simp only [Rp]
/-- a class of the module -/
theorem ge_gcon {x : Str} {a : Addr} {pos : Pos} (hg : Gl X x) (hm : X.mg x = some (.ref a)) (hd : (x == ("__debug__" : Str)) = false := by decide) : PE X (.Name x pos) (tD X.K E (cst (.con a))) := ge_c (v := .ref a) _ (pe_glob hg hm rfl hd) fun _ _ => by simp only [Rp]
/-- a built-in type -/
theorem ge_bty {x : Str} {n : String} {pos : Pos} (hg : Gl X x) (hm : X.mg x = none) (hv : bootBuiltins x = some (.type n)) (hn : x ≠ "__name__" := by decide) (hd : (x == ("__debug__" : Str)) = false := by decide) : PE X (.Name x pos) (tD X.K E (cst (.ty n))) :=
  ge_c _ (pe_bltn hg hm hv (show RelV (.ty n) (.type n) from rfl) hn hd) fun _ _ => by simp only [Rp]
end

/-! ### combining -/
def un1 {α β : Type} (g : α → M β) (ma : Ev → M α) : Ev → M β := fun env => bnd (ma env) g
def bin {α β γ : Type} (g : α → β → M γ) (ma : Ev → M α) (mb : Ev → M β) : Ev → M γ := fun env => bnd (ma env) fun a => bnd (mb env) fun b => g a b
section
variable {X : Cx} {E : ExW} {pos : Pos}
/-- how a relation is carried on -/
def Carry {α : Type} (K : PySem.W.Frag) (P : List Addr → Hp → Hp → V → α → Prop) : Prop := ∀ ι H₀ H ι' H' v d, Ext ι H ι' H' → P ι H₀ H v d → P ι' H₀ H' v d
end
/-- an operation by values keeps to the mirror g -/
def G2 {α β γ : Type} (K : PySem.W.Frag) (E : ExW) (P₁ : List Addr → Hp → Hp → V → α → Prop) (P₂ : List Addr → Hp → Hp → V → β → Prop) (P₃ : List Addr → Hp → Hp → V → γ → Prop) (r : R2) (g : α → β → M γ) : Prop :=
  ∀ ι H₀ H st x y a b Q, RelS K ι H st → (∃ ι₀, Ext ι₀ H₀ ι H) → P₁ ι H₀ H x a → P₂ ι H₀ H y b → wp (g a b st) (fun d st' => ∀ ι' H' v, Ext ι H ι' H' → RelS K ι' H' st' → P₃ ι' H₀ H' v d → Q v H') E → r x y H Q
def G1 {α γ : Type} (K : PySem.W.Frag) (E : ExW) (P₁ : List Addr → Hp → Hp → V → α → Prop) (P₃ : List Addr → Hp → Hp → V → γ → Prop) (r : V → Hp → VK → Prop) (g : α → M γ) : Prop :=
  ∀ ι H₀ H st x a Q, RelS K ι H st → (∃ ι₀, Ext ι₀ H₀ ι H) → P₁ ι H₀ H x a → wp (g a st) (fun d st' => ∀ ι' H' v, Ext ι H ι' H' → RelS K ι' H' st' → P₃ ι' H₀ H' v d → Q v H') E → r x H Q
section
variable {K : PySem.W.Frag} {E : ExW} {α β γ : Type}
/-- a relation whose birthday may be put back -/
def Older (P : List Addr → Hp → Hp → V → α → Prop) : Prop := ∀ ι₀ H₀ ι₁ H₁ ι H v d, Ext ι₀ H₀ ι₁ H₁ → Ext ι₁ H₁ ι H → P ι H₁ H v d → P ι H₀ H v d
theorem tX.op2 {P₁ : List Addr → Hp → Hp → V → α → Prop} {P₂ : List Addr → Hp → Hp → V → β → Prop} {P₃ : List Addr → Hp → Hp → V → γ → Prop} {r : R2} {g : α → β → M γ} {ma : Ev → M α} {mb : Ev → M β}
    (hg : G2 K E P₁ P₂ P₃ r g) (c1 : Carry K P₁) (o2 : Older P₂) {σ : L2.St} {H : Hp} {Q : VK} (h : tX K E P₃ (bin g ma mb) σ H Q) : tOp r (tX K E P₁ ma) (tX K E P₂ mb) σ H Q := by
  obtain ⟨ι, env, st, R, h⟩ := h
  refine ⟨ι, env, st, R, wp_mono (wp_bnd h) fun a st1 h1 ι1 H1 x x1 S1 r1 => ?_⟩
  refine ⟨ι1, env, st1, R.to x1 S1, wp_mono (wp_bnd h1) fun b st2 h2 ι2 H2 y x2 S2 r2 => ?_⟩
  refine hg ι2 H H2 st2 x y a b Q S2 ⟨ι, x1.trans x2⟩ (c1 _ _ _ _ _ _ _ x2 r1) (o2 _ _ _ _ _ _ _ _ x1 x2 r2) (wp_mono h2 fun d st3 h3 ι3 H3 v x3 S3 r3 => h3 ι3 H3 v ((x1.trans x2).trans x3) S3 r3)
theorem tX.op1 {P₁ : List Addr → Hp → Hp → V → α → Prop} {P₃ : List Addr → Hp → Hp → V → γ → Prop} {r : V → Hp → VK → Prop} {g : α → M γ} {ma : Ev → M α}
    (hg : G1 K E P₁ P₃ r g) {σ : L2.St} {H : Hp} {Q : VK} (h : tX K E P₃ (un1 g ma) σ H Q) : tX K E P₁ ma σ H fun x H1 => r x H1 Q := by
  obtain ⟨ι, env, st, R, h⟩ := h
  refine ⟨ι, env, st, R, wp_mono (wp_bnd h) fun a st1 h1 ι1 H1 x x1 S1 r1 => ?_⟩
  exact hg ι1 H H1 st1 x a Q S1 ⟨ι, x1⟩ r1 (wp_mono h1 fun d st3 h3 ι3 H3 v x3 S3 r3 => h3 ι3 H3 v (x1.trans x3) S3 r3)
/-- another relation of results -/
theorem tX.as {P₁ : List Addr → Hp → Hp → V → α → Prop} {P₃ : List Addr → Hp → Hp → V → γ → Prop} {g : α → M γ} {ma : Ev → M α}
    (hg : G1 K E P₁ P₃ (fun x H Q => Q x H) g) {σ : L2.St} {H : Hp} {Q : VK} (h : tX K E P₃ (un1 g ma) σ H Q) : tX K E P₁ ma σ H Q := tX.op1 hg h
theorem carry_D : Carry K (PD K) := fun _ _ _ _ _ _ _ x h => x.rp h
theorem carry_Ls : Carry K (PLs K) := fun _ _ _ _ _ _ _ x h => h.ext x
theorem old_D : Older (PD K) := fun _ _ _ _ _ _ _ _ _ _ h => h
theorem old_Ls : Older (PLs K) := fun _ _ _ _ _ _ _ _ x y h => h.old x y
theorem old_Rl : Older (PRl K) := fun _ _ _ _ _ _ _ _ _ _ h => h
theorem old_Q : Older (PQ K) := fun _ _ _ _ _ _ _ _ _ _ h => h
end
section
variable {X : Cx} {E : ExW} {pos : Pos} {a b : Expr}
theorem ge_bin {α β γ : Type} {P₁ : List Addr → Hp → Hp → V → α → Prop} {P₂ : List Addr → Hp → Hp → V → β → Prop} {P₃ : List Addr → Hp → Hp → V → γ → Prop} {op : Operator} {r : R2} {g : α → β → M γ} {ma : Ev → M α} {mb : Ev → M β} (ho : OpR X (binaryOp op) r) (hg : G2 X.K E P₁ P₂ P₃ r g) (c1 : Carry X.K P₁) (o2 : Older P₂)
    (ha : PE X a (tX X.K E P₁ ma)) (hb : PE X b (tX X.K E P₂ mb)) : PE X (.BinOp a op b pos) (tX X.K E P₃ (bin g ma mb)) :=
  PE.wk (pe_op ho ha hb) fun _ _ _ h => tX.op2 hg c1 o2 h
theorem ge_un {α γ : Type} {P₁ : List Addr → Hp → Hp → V → α → Prop} {P₃ : List Addr → Hp → Hp → V → γ → Prop} {op : UnaryOp} {r : V → Hp → VK → Prop} {g : α → M γ} {ma : Ev → M α} (ho : UnR X (unaryOp op) r) (hg : G1 X.K E P₁ P₃ r g)
    (ha : PE X a (tX X.K E P₁ ma)) : PE X (.UnaryOp op a pos) (tX X.K E P₃ (un1 g ma)) :=
  PE.wk (pe_un ho ha) fun _ _ _ h => tX.op1 hg h
/-- a comparison keeps to the mirror g -/
def CmpG {α β : Type} (X : Cx) (E : ExW) (op : CmpOp) (P₁ : List Addr → Hp → Hp → V → α → Prop) (P₂ : List Addr → Hp → Hp → V → β → Prop) (g : α → β → M D) : Prop :=
  Carry X.K P₁ ∧ Older P₂ ∧ ∃ r, OpR X (compareOp op) r ∧ G2 X.K E P₁ P₂ (PD X.K) r g
theorem ge_cmp {α β : Type} {P₁ : List Addr → Hp → Hp → V → α → Prop} {P₂ : List Addr → Hp → Hp → V → β → Prop} {op : CmpOp} {g : α → β → M D} {ma : Ev → M α} {mb : Ev → M β} (hg : CmpG X E op P₁ P₂ g)
    (ha : PE X a (tX X.K E P₁ ma)) (hb : PE X b (tX X.K E P₂ mb)) (hm : behindInMarks op b = false) : PE X (.Compare a [op] [b] pos) (tD X.K E (bin g ma mb)) := by
  obtain ⟨c1, o2, r, ho, h2⟩ := hg
  exact PE.wk (pe_cmpR ho ha hb hm) fun _ _ _ h => tX.op2 h2 c1 o2 h
end

/-! ### operators on ints -/
def gI2 (C : Int → Int → Bool) (f : Int → Int → D) : D → D → M D := fun a b st => match a, b with
  | .int i, .int j => if C i j then .ok (f i j) st else .no
  | _, _ => .no
theorem Rp.int_inv {K : PySem.W.Frag} {ι : List Addr} {H : Hp} {v : V} {i : Int} (h : Rp K ι H v (.int i)) : v = .int i := by simpa only [Rp] using h
theorem Rp.bl_inv {K : PySem.W.Frag} {ι : List Addr} {H : Hp} {v : V} {i : Bool} (h : Rp K ι H v (.bl i)) : v = .bl i := by simpa only [Rp] using h
theorem Rp.str_inv {K : PySem.W.Frag} {ι : List Addr} {H : Hp} {v : V} {i : Str} (h : Rp K ι H v (.str i)) : v = .str i := by simpa only [Rp] using h
theorem Rp.mkInt {K : PySem.W.Frag} {ι : List Addr} {H : Hp} {i : Int} : Rp K ι H (.int i) (.int i) := by simp only [Rp]
theorem Rp.mkBl {K : PySem.W.Frag} {ι : List Addr} {H : Hp} {i : Bool} : Rp K ι H (.bl i) (.bl i) := by simp only [Rp]
theorem Rp.mkNon {K : PySem.W.Frag} {ι : List Addr} {H : Hp} : Rp K ι H .non .non := by simp only [Rp]
theorem Rp.mkStr {K : PySem.W.Frag} {ι : List Addr} {H : Hp} {i : Str} : Rp K ι H (.str i) (.str i) := by simp only [Rp]
theorem g2_int {K : PySem.W.Frag} {E : ExW} {C : Int → Int → Prop} {c : Int → Int → Bool} {g : Int → Int → V} {f : Int → Int → D} (hc : ∀ i j, c i j = true → C i j) (hf : ∀ ι H i j, Rp K ι H (g i j) (f i j)) : G2 K E (PD K) (PD K) (PD K) (rI C g) (gI2 c f) := by
  intro ι H₀ H st x y a b Q S _ ra rb h
  unfold gI2 at h
  split at h
  · rename_i i j
    split at h
    · rename_i k
      exact ⟨i, j, ra.int_inv, rb.int_inv, hc i j k, h ι H _ (Ext.refl _ _) S (hf _ _ _ _)⟩
    · exact h.elim
  · exact h.elim
theorem g2_int0 {K : PySem.W.Frag} {E : ExW} {g : Int → Int → V} {f : Int → Int → D} (hf : ∀ ι H i j, Rp K ι H (g i j) (f i j)) : G2 K E (PD K) (PD K) (PD K) (rI0 g) (gI2 (fun _ _ => true) f) := by
  intro ι H₀ H st x y a b Q S _ ra rb h
  unfold gI2 at h
  split at h
  · rename_i i j
    rw [if_pos rfl] at h
    exact ⟨i, j, ra.int_inv, rb.int_inv, h ι H _ (Ext.refl _ _) S (hf _ _ _ _)⟩
  · exact h.elim
def addI := gI2 (fun _ _ => true) fun i j => .int (i + j)
def subI := gI2 (fun _ _ => true) fun i j => .int (i - j)
def small64 (i : Int) : Bool := decide (-(2 ^ 64) < i) && decide (i < 2 ^ 64)
def mulI := gI2 (fun i j => small64 i || small64 j) fun i j => .int (i * j)
def modI := gI2 (fun _ j => decide (j ≠ 0)) fun i j => .int (i.fmod j)
def fdivI := gI2 (fun _ j => decide (j ≠ 0) && decide (j.natAbs < 1073741824)) fun i j => .int (i.fdiv j)
def powI := gI2 (fun i j => decide (0 ≤ j) && decide (j ≤ 1000000) && decide (i.natAbs < 2 ^ 64)) fun i j => .int (i ^ j.toNat)
def andI := gI2 (fun _ _ => true) fun i j => .int (Builtin.bitAnd i j)
def ltI := gI2 (fun _ _ => true) fun i j => .bl (decide (i < j))
def leI := gI2 (fun _ _ => true) fun i j => .bl (decide (i ≤ j))
def gtI := gI2 (fun _ _ => true) fun i j => .bl (decide (j < i))
def geI := gI2 (fun _ _ => true) fun i j => .bl (decide (j ≤ i))
def negI : D → M D := fun a st => match a with
  | .int i => .ok (.int (-i)) st
  | _ => .no
theorem g1_neg {K : PySem.W.Frag} {E : ExW} : G1 K E (PD K) (PD K) (rU fun i => .int (-i)) negI := by
  intro ι H₀ H st x a Q S _ ra h
  unfold negI at h
  split at h
  · rename_i i
    exact ⟨i, ra.int_inv, h ι H _ (Ext.refl _ _) S .mkInt⟩
  · exact h.elim
section
variable {X : Cx} {E : ExW} {pos : Pos} {a b : Expr} {ma mb : Ev → M D}
theorem ge_add (ha : PE X a (tD X.K E ma)) (hb : PE X b (tD X.K E mb)) : PE X (.BinOp a .Add b pos) (tD X.K E (bin addI ma mb)) := ge_bin op_add (g2_int0 fun _ _ _ _ => .mkInt) carry_D old_D ha hb
theorem ge_sub (ha : PE X a (tD X.K E ma)) (hb : PE X b (tD X.K E mb)) : PE X (.BinOp a .Sub b pos) (tD X.K E (bin subI ma mb)) := ge_bin op_sub (g2_int0 fun _ _ _ _ => .mkInt) carry_D old_D ha hb
theorem ge_mul (ha : PE X a (tD X.K E ma)) (hb : PE X b (tD X.K E mb)) : PE X (.BinOp a .Mult b pos) (tD X.K E (bin mulI ma mb)) := ge_bin op_mul (g2_int (fun i j h => by
  simp only [small64, Bool.or_eq_true, Bool.and_eq_true, decide_eq_true_eq] at h; exact h) fun _ _ _ _ => .mkInt) carry_D old_D ha hb
theorem ge_mod (ha : PE X a (tD X.K E ma)) (hb : PE X b (tD X.K E mb)) : PE X (.BinOp a .Mod b pos) (tD X.K E (bin modI ma mb)) := ge_bin op_modN (g2_int (fun i j h => by simpa using h) fun _ _ _ _ => .mkInt) carry_D old_D ha hb
theorem ge_fdiv (ha : PE X a (tD X.K E ma)) (hb : PE X b (tD X.K E mb)) : PE X (.BinOp a .FloorDiv b pos) (tD X.K E (bin fdivI ma mb)) := ge_bin op_fdivN (g2_int (fun i j h => by simpa [CDivN] using h) fun _ _ _ _ => .mkInt) carry_D old_D ha hb
theorem ge_pow (ha : PE X a (tD X.K E ma)) (hb : PE X b (tD X.K E mb)) : PE X (.BinOp a .Pow b pos) (tD X.K E (bin powI ma mb)) := ge_bin op_pow (g2_int (fun i j h => by
  simp only [Bool.and_eq_true, decide_eq_true_eq] at h; exact ⟨h.1.1, h.1.2, h.2⟩) fun _ _ _ _ => .mkInt) carry_D old_D ha hb
theorem ge_band (ha : PE X a (tD X.K E ma)) (hb : PE X b (tD X.K E mb)) : PE X (.BinOp a .BitAnd b pos) (tD X.K E (bin andI ma mb)) := ge_bin op_and (g2_int0 fun _ _ _ _ => .mkInt) carry_D old_D ha hb
theorem ge_neg (ha : PE X a (tD X.K E ma)) : PE X (.UnaryOp .USub a pos) (tD X.K E (un1 negI ma)) := ge_un un_neg g1_neg ha
theorem c_lt : CmpG X E .Lt (PD X.K) (PD X.K) ltI := ⟨carry_D, old_D, _, op_lt, g2_int0 fun _ _ _ _ => .mkBl⟩
theorem c_le : CmpG X E .LtE (PD X.K) (PD X.K) leI := ⟨carry_D, old_D, _, op_le, g2_int0 fun _ _ _ _ => .mkBl⟩
theorem c_gt : CmpG X E .Gt (PD X.K) (PD X.K) gtI := ⟨carry_D, old_D, _, op_gt, g2_int0 fun _ _ _ _ => .mkBl⟩
theorem c_ge : CmpG X E .GtE (PD X.K) (PD X.K) geI := ⟨carry_D, old_D, _, op_ge, g2_int0 fun _ _ _ _ => .mkBl⟩
end

/-! ### None -/
def isNon : D → M D := fun a st => .ok (.bl (decide (a = .non))) st
def notNon : D → M D := fun a st => .ok (.bl (!decide (a = .non))) st
theorem Rp.non_iff {K : PySem.W.Frag} {ι : List Addr} {H : Hp} {v : V} {d : D} (h : Rp K ι H v d) : decide (v = .non) = decide (d = .non) := by
  cases d with
  | non => simp only [Rp] at h; subst h; rfl
  | bl _ => simp only [Rp] at h; subst h; rfl
  | int _ => simp only [Rp] at h; subst h; rfl
  | str _ => simp only [Rp] at h; subst h; rfl
  | tup _ => simp only [Rp] at h; obtain ⟨a, xs, rfl, _⟩ := h; rfl
  | frl _ => simp only [Rp] at h; obtain ⟨a, xs, rfl, _⟩ := h; rfl
  | ref _ => simp only [Rp] at h; obtain ⟨a, rfl, _⟩ := h; rfl
  | con _ => simp only [Rp] at h; subst h; rfl
  | ty _ => simp only [Rp] at h; subst h; rfl
section
variable {X : Cx} {E : ExW} {pos : Pos} {a b : Expr} {ma mb : Ev → M D}
theorem ge_isN {j pos'} (ha : PE X a (tD X.K E ma)) : PE X (.Compare a [.Is] [.Constant .none j pos'] pos) (tD X.K E (un1 isNon ma)) :=
  PE.wk (pe_cmp (pc_isN ha)) fun σ H Q h => tX.op1 (r := fun x H Q => Q (.bl (decide (x = .non))) H) (fun ι H₀ H st x a Q S _ ra h => by
    have ra : Rp X.K ι H x a := ra
    show Q (.bl (decide (x = .non))) H; rw [ra.non_iff]; exact h ι H _ (Ext.refl _ _) S Rp.mkBl) h
theorem ge_notN {j pos'} (ha : PE X a (tD X.K E ma)) : PE X (.Compare a [.IsNot] [.Constant .none j pos'] pos) (tD X.K E (un1 notNon ma)) :=
  PE.wk (pe_cmp (pc_notN ha)) fun σ H Q h => tX.op1 (r := fun x H Q => Q (.bl (!decide (x = .non))) H) (fun ι H₀ H st x a Q S _ ra h => by
    have ra : Rp X.K ι H x a := ra
    show Q (.bl (!decide (x = .non))) H; rw [ra.non_iff]; exact h ι H _ (Ext.refl _ _) S Rp.mkBl) h

/-! ### tests -/
def toB : D → M Bool := fun a st => match a with
  | .bl b => .ok b st
  | _ => .no
theorem gt_val {e : Expr} {m : Ev → M D} (h : PE X e (tD X.K E m)) (he : ∀ whole, isTrue e X.env whole = (do let v ← whole; standAt e.pos; holding [v] (truthy v)) := by intro _; rfl) : PT X e (tB X.K E (un1 toB m)) := by
  refine PT.wk (pt_val h he) fun σ H Q h => ?_
  obtain ⟨ι, env, st, R, h⟩ := h
  refine ⟨ι, env, st, R, wp_mono (wp_bnd h) fun d st1 h1 ι1 H1 v x1 S1 r1 => ?_⟩
  unfold toB at h1
  split at h1
  · rename_i b
    exact ⟨b, Rp.bl_inv r1, h1 ι1 H1 x1 S1⟩
  · exact h1.elim
theorem toB_inv {c : D} {st : Store} {Q : Bool → Store → Prop} (h : wp (toB c st) Q E) : ∃ b, c = .bl b ∧ Q b st := by
  unfold toB at h
  split at h
  · exact ⟨_, rfl, h⟩
  · exact h.elim
theorem tD.test {m : Ev → M D} {σ : L2.St} {H : Hp} {Q : Bool → Hp → Prop} (h : tB X.K E (un1 toB m) σ H Q) : tD X.K E m σ H fun x H' => ∃ k, x = .bl k ∧ Q k H' := by
  obtain ⟨ι, env, st, R, h⟩ := h
  refine ⟨ι, env, st, R, wp_mono (wp_bnd h) fun d st1 h1 ι1 H1 v x1 S1 r1 => ?_⟩
  obtain ⟨c, rfl, h1⟩ := toB_inv h1
  exact ⟨c, Rp.bl_inv r1, h1 ι1 H1 x1 S1⟩
/-- a comparison as a test -/
theorem gt_cmp {α β : Type} {P₁ : List Addr → Hp → Hp → V → α → Prop} {P₂ : List Addr → Hp → Hp → V → β → Prop} {op : CmpOp} {g : α → β → M D} {m1 : Ev → M α} {m2 : Ev → M β} (hg : CmpG X E op P₁ P₂ g)
    (ha : PE X a (tX X.K E P₁ m1)) (hb : PE X b (tX X.K E P₂ m2)) (hm : behindInMarks op b = false) : PT X (.Compare a [op] [b] pos) (tB X.K E (un1 toB (bin g m1 m2))) := by
  obtain ⟨c1, o2, r, ho, h2⟩ := hg
  exact PT.wk (pt_cmpR ho ha hb hm) fun σ H Q h => tX.op2 h2 c1 o2 (tD.test h)
theorem gt_isN {j pos'} (ha : PE X a (tD X.K E ma)) : PT X (.Compare a [.Is] [.Constant .none j pos'] pos) (tB X.K E (un1 toB (un1 isNon ma))) :=
  PT.wk (pt_cmp (pc_isN ha)) fun σ H Q h => tX.op1 (r := fun x H Q => Q (.bl (decide (x = .non))) H) (fun ι H₀ H st x a Q S _ ra h => by
    have ra : Rp X.K ι H x a := ra
    show Q (.bl (decide (x = .non))) H; rw [ra.non_iff]; exact h ι H _ (Ext.refl _ _) S Rp.mkBl) (tD.test h)
theorem gt_notN {j pos'} (ha : PE X a (tD X.K E ma)) : PT X (.Compare a [.IsNot] [.Constant .none j pos'] pos) (tB X.K E (un1 toB (un1 notNon ma))) :=
  PT.wk (pt_cmp (pc_notN ha)) fun σ H Q h => tX.op1 (r := fun x H Q => Q (.bl (!decide (x = .non))) H) (fun ι H₀ H st x a Q S _ ra h => by
    have ra : Rp X.K ι H x a := ra
    show Q (.bl (!decide (x = .non))) H; rw [ra.non_iff]; exact h ι H _ (Ext.refl _ _) S Rp.mkBl) (tD.test h)
def andB (ma mb : Ev → M Bool) : Ev → M Bool := fun env => bnd (ma env) fun c => if c = true then mb env else ret false
def orB (ma mb : Ev → M Bool) : Ev → M Bool := fun env => bnd (ma env) fun c => if c = true then ret true else mb env
def notB (ma : Ev → M Bool) : Ev → M Bool := fun env => bnd (ma env) fun c => ret (!c)
variable {rest : List Expr} {na nb : Ev → M Bool}
theorem tB.and {σ : L2.St} {H : Hp} {Q : Bool → Hp → Prop} (h : tB X.K E (andB na nb) σ H Q) : tAnd (tB X.K E na) (tB X.K E nb) σ H Q := by
  obtain ⟨ι, env, st, R, h⟩ := h
  refine ⟨ι, env, st, R, wp_mono (wp_bnd h) fun c st1 h1 ι1 H1 x1 S1 => ?_⟩
  cases c with
  | true => exact ⟨ι1, env, st1, R.to x1 S1, wp_mono h1 fun c st2 h2 ι2 H2 x2 S2 => h2 ι2 H2 (x1.trans x2) S2⟩
  | false => exact h1 ι1 H1 x1 S1
theorem tB.or {σ : L2.St} {H : Hp} {Q : Bool → Hp → Prop} (h : tB X.K E (orB na nb) σ H Q) : tOr (tB X.K E na) (tB X.K E nb) σ H Q := by
  obtain ⟨ι, env, st, R, h⟩ := h
  refine ⟨ι, env, st, R, wp_mono (wp_bnd h) fun c st1 h1 ι1 H1 x1 S1 => ?_⟩
  cases c with
  | false => exact ⟨ι1, env, st1, R.to x1 S1, wp_mono h1 fun c st2 h2 ι2 H2 x2 S2 => h2 ι2 H2 (x1.trans x2) S2⟩
  | true => exact h1 ι1 H1 x1 S1
theorem gw_and1 (ha : PT X a (tB X.K E na)) : PW X (.BoolOp .And [a] pos) (tB X.K E na) := pw_and1 ha
theorem gw_or1 (ha : PT X a (tB X.K E na)) : PW X (.BoolOp .Or [a] pos) (tB X.K E na) := pw_or1 ha
theorem gw_and (ha : PT X a (tB X.K E na)) (hb : PW X (.BoolOp .And (b :: rest) pos) (tB X.K E nb)) : PW X (.BoolOp .And (a :: b :: rest) pos) (tB X.K E (andB na nb)) := PW.wk (pw_and ha hb) fun _ _ _ h => tB.and h
theorem gw_or (ha : PT X a (tB X.K E na)) (hb : PW X (.BoolOp .Or (b :: rest) pos) (tB X.K E nb)) : PW X (.BoolOp .Or (a :: b :: rest) pos) (tB X.K E (orB na nb)) := PW.wk (pw_or ha hb) fun _ _ _ h => tB.or h
theorem gt_not (ha : PT X a (tB X.K E na)) : PT X (.UnaryOp .Not a pos) (tB X.K E (notB na)) := by
  refine PT.wk (pt_not ha) fun σ H Q h => ?_
  obtain ⟨ι, env, st, R, h⟩ := h
  exact ⟨ι, env, st, R, wp_mono (wp_bnd h) fun c st1 h1 ι1 H1 x1 S1 => h1 ι1 H1 x1 S1⟩
theorem gt_w {e : Expr} (h : PW X e (tB X.K E na)) : PT X e (tB X.K E na) := h.pt
/-- and, or, not as values: all but the last are bools -/
def andV (ma mb : Ev → M D) : Ev → M D := fun env => bnd (ma env) fun c => bnd (toB c) fun c => if c = true then mb env else ret (.bl false)
def orV (ma mb : Ev → M D) : Ev → M D := fun env => bnd (ma env) fun c => bnd (toB c) fun c => if c = true then ret (.bl true) else mb env
def notV : D → M D := fun c => bnd (toB c) fun c => ret (.bl (!c))
theorem ge_one {op} (h : PE X a (tD X.K E ma)) : PE X (.BoolOp op [a] pos) (tD X.K E ma) := pe_one h
theorem ge_and (ha : PE X a (tD X.K E ma)) (hb : PE X (.BoolOp .And (b :: rest) pos) (tD X.K E mb)) : PE X (.BoolOp .And (a :: b :: rest) pos) (tD X.K E (andV ma mb)) := by
  refine PE.wk (pe_and ha hb) fun σ H Q h => ?_
  obtain ⟨ι, env, st, R, h⟩ := h
  refine ⟨ι, env, st, R, wp_mono (wp_bnd h) fun c st1 h1 ι1 H1 v x1 S1 r1 => ?_⟩
  obtain ⟨c, rfl, h1⟩ := toB_inv (wp_bnd h1)
  refine ⟨c, Rp.bl_inv r1, ?_⟩
  cases c with
  | true => exact ⟨ι1, env, st1, R.to x1 S1, wp_mono h1 fun c st2 h2 ι2 H2 v x2 S2 r2 => h2 ι2 H2 v (x1.trans x2) S2 r2⟩
  | false => exact h1 ι1 H1 _ x1 S1 Rp.mkBl
theorem ge_or (ha : PE X a (tD X.K E ma)) (hb : PE X (.BoolOp .Or (b :: rest) pos) (tD X.K E mb)) : PE X (.BoolOp .Or (a :: b :: rest) pos) (tD X.K E (orV ma mb)) := by
  refine PE.wk (pe_or ha hb) fun σ H Q h => ?_
  obtain ⟨ι, env, st, R, h⟩ := h
  refine ⟨ι, env, st, R, wp_mono (wp_bnd h) fun c st1 h1 ι1 H1 v x1 S1 r1 => ?_⟩
  obtain ⟨c, rfl, h1⟩ := toB_inv (wp_bnd h1)
  refine ⟨c, Rp.bl_inv r1, ?_⟩
  cases c with
  | false => exact ⟨ι1, env, st1, R.to x1 S1, wp_mono h1 fun c st2 h2 ι2 H2 v x2 S2 r2 => h2 ι2 H2 v (x1.trans x2) S2 r2⟩
  | true => exact h1 ι1 H1 _ x1 S1 Rp.mkBl
theorem ge_not (ha : PE X a (tD X.K E ma)) : PE X (.UnaryOp .Not a pos) (tD X.K E (un1 notV ma)) := by
  refine PE.wk (pe_not ha) fun σ H Q h => ?_
  obtain ⟨ι, env, st, R, h⟩ := h
  refine ⟨ι, env, st, R, wp_mono (wp_bnd h) fun c st1 h1 ι1 H1 v x1 S1 r1 => ?_⟩
  obtain ⟨c, rfl, h1⟩ := toB_inv (wp_bnd h1)
  exact ⟨c, Rp.bl_inv r1, h1 ι1 H1 _ x1 S1 Rp.mkBl⟩
def ifV {α : Type} (c : Ev → M Bool) (ma mb : Ev → M α) : Ev → M α := fun env => bnd (c env) fun k => if k = true then ma env else mb env
theorem ge_if {α : Type} {P : List Addr → Hp → Hp → V → α → Prop} {c : Expr} {m1 m2 : Ev → M α} (o : Older P) (hc : PT X c (tB X.K E na)) (ha : PE X a (tX X.K E P m1)) (hb : PE X b (tX X.K E P m2)) : PE X (.IfExp c a b pos) (tX X.K E P (ifV na m1 m2)) := by
  refine PE.wk (pe_ifExp hc ha hb) fun σ H Q h => ?_
  obtain ⟨ι, env, st, R, h⟩ := h
  refine ⟨ι, env, st, R, wp_mono (wp_bnd h) fun c st1 h1 ι1 H1 x1 S1 => ?_⟩
  cases c with
  | true => exact ⟨ι1, env, st1, R.to x1 S1, wp_mono h1 fun c st2 h2 ι2 H2 v x2 S2 r2 => h2 ι2 H2 v (x1.trans x2) S2 (o _ _ _ _ _ _ _ _ x1 x2 r2)⟩
  | false => exact ⟨ι1, env, st1, R.to x1 S1, wp_mono h1 fun c st2 h2 ι2 H2 v x2 S2 r2 => h2 ι2 H2 v (x1.trans x2) S2 (o _ _ _ _ _ _ _ _ x1 x2 r2)⟩

/-! ### arguments -/
def nilA : Ev → M (List D) := fun _ => ret []
def consA (ma : Ev → M D) (mr : Ev → M (List D)) : Ev → M (List D) := fun env => bnd (ma env) fun d => bnd (mr env) fun ds => ret (d :: ds)
theorem tAr.nil {σ : L2.St} {H : Hp} {Q : List V → Hp → Prop} (h : tAr X.K E nilA σ H Q) : tNil σ H Q := by
  obtain ⟨ι, env, st, R, h⟩ := h
  exact h ι H [] (Ext.refl _ _) R.s RpL.nil
theorem tAr.cons {mr : Ev → M (List D)} {σ : L2.St} {H : Hp} {Q : List V → Hp → Prop} (h : tAr X.K E (consA ma mr) σ H Q) : tCons (tD X.K E ma) (tAr X.K E mr) σ H Q := by
  obtain ⟨ι, env, st, R, h⟩ := h
  refine ⟨ι, env, st, R, wp_mono (wp_bnd h) fun d st1 h1 ι1 H1 v x1 S1 r1 => ?_⟩
  refine ⟨ι1, env, st1, R.to x1 S1, wp_mono (wp_bnd h1) fun ds st2 h2 ι2 H2 vs x2 S2 r2 => ?_⟩
  exact h2 ι2 H2 (v :: vs) (x1.trans x2) S2 (RpL.cons (x2.rp r1) r2)
theorem ga_nil : PA X [] (tAr X.K E nilA) := PA.wk pa_nil fun _ _ _ h => tAr.nil h
theorem ga_cons {es : List Expr} {mr : Ev → M (List D)} (ha : PE X a (tD X.K E ma)) (hr : PA X es (tAr X.K E mr)) (hs : starEach (a :: es) X.env = (false, eval a X.env) :: starEach es X.env := by rfl) : PA X (a :: es) (tAr X.K E (consA ma mr)) :=
  PA.wk (pa_cons ha hr hs) fun _ _ _ h => tAr.cons h
theorem gk_nil : PK X [] (tAr X.K E nilA) := PK.wk pk_nil fun _ _ _ h => tAr.nil h
theorem gk_cons {nm : Option Str} {kpos : Pos} {kws : List Keyword} {mr : Ev → M (List D)} (ha : PE X a (tD X.K E ma)) (hr : PK X kws (tAr X.K E mr)) : PK X (⟨nm, a, kpos⟩ :: kws) (tAr X.K E (consA ma mr)) :=
  PK.wk (pk_cons ha hr) fun _ _ _ h => tAr.cons h
end
end L3
set_option maxHeartbeats 4000000
/-! L3t: new tuples, known to have no dict of their own (for their methods): held as frozen. -/
namespace L3
open PySem L2
/-- what follows a new tuple -/
def NewT (H : Hp) (xs : List V) (Q : VK) : Prop := ∀ p o, H p = none → o.dict = none → Q (.ref p) (upd H p (.frz o (.tup xs)))
section
open PyProof.Rows
variable {X : Cx}
theorem okT {P : Program} {w : World} {H : Hp} {h : Heap} {a : Addr} {xs : List V} {its : List Value} {o : Obj} (hz : xs.length ≤ sizeLine) (r : Vals xs its) (e : h.get? a = some o) (c : o.cls = .type "tuple") (d : o.data = .seq its.toArray 0) : ObjOk P w H h a (.frz o (.tup xs)) :=
  ⟨e, hz, its, r, o, e, c, 0, d⟩
/-- a new tuple laid at the heap's end -/
theorem laidT {pins : List (Addr × Obj)} {σ : L2.St} {H : Hp} {s : Shared} {Q : VK} {xs : List V} {its : List Value} {t : Nat} (I : Inv X pins σ H s) (hz : xs.length ≤ sizeLine) (r : Vals xs its) (q : NewT H xs Q) :
    EP X pins σ Q (.ref s.heap.objs.size) { s with heap := s.heap.push { cls := .type "tuple", data := .seq its.toArray }, toks := t } :=
  ⟨.ref s.heap.objs.size, _, I.laid (t' := t) (fun b u e => Heap.get?_push_of_some _ e) (Nat.le_refl _) (okT (o := { cls := .type "tuple", data := .seq its.toArray }) hz r (Heap.get?_push_size _ rfl) rfl rfl), rfl, q _ _ (I.hok.fresh (Nat.le_refl _)) rfl⟩
def tTupN (t : TA) : TE := fun σ H Q => t σ H fun xs H1 => xs.length ≤ sizeLine ∧ NewT H1 xs Q
theorem pe_tupN {es : List Expr} {t : TA} {pos : Pos} {x1} (h : PA X es t) : PE X (.Tuple es x1 pos) (tTupN t) := by
  refine ⟨fun pins s σ H Q I hq => ?_⟩
  exact wpAny_Tuple_spliced (thn (h.run pos pins s σ H _ I hq) fun us s1 ⟨xs, H1, I1, r, z, q⟩ => ⟨by rw [← r.length]; exact z, laidT I1 z r q⟩)
def rTupN (K : PySem.W.Frag) : List V → Hp → VK → Prop := fun xs H Q => ∃ p ys, xs = [.ref p] ∧ ((SqL K H p ys ∧ NewT H ys Q) ∨ (SqT K H p ys ∧ Q (.ref p) H))
theorem call_tupN : CallR X (.type "tuple") (rTupN X.K) := by
  intro pins s σ H xs us Q I r h
  obtain ⟨p, ys, rfl, h⟩ := h
  obtain ⟨u, rfl, rx⟩ := vals1 r
  cases rx
  rcases h with ⟨hq, q⟩ | ⟨hq, q⟩
  · obtain ⟨its, r', pl, hz⟩ := I.list hq
    have hlen := r'.length
    refine call_tuple_list pl.isList (fun h' kp => ?_) (by simp only [List.size_toArray] <;> omega)
    have I1 : Inv X pins σ H { s with heap := h' } := I.kept (t' := s.toks) kp
    exact laidT (t := s.toks) I1 hz r' q
  · obtain ⟨its, r', pl, hz⟩ := I.tuple hq
    exact call_tuple_same pl ⟨.ref p, H, I, rfl, q⟩
def rSlN (K : PySem.W.Frag) : V → Option Int → Option Int → Hp → VK → Prop := fun x lo hi H Q => ∃ a xs, x = .ref a ∧ SqT K H a xs ∧
  (HT.sIx xs.length 0 lo = 0 ∧ HT.sIx xs.length xs.length hi = xs.length → Q (.ref a) H) ∧ (¬ (HT.sIx xs.length 0 lo = 0 ∧ HT.sIx xs.length xs.length hi = xs.length) → NewT H (cutV xs lo hi) Q)
theorem sl_tupN : SlR X (rSlN X.K) := by
  intro pins s σ H x v vl vu lo hi sl Q I rx hs pl pu h
  obtain ⟨a, xs, rfl, hx, q1, q2⟩ := h
  cases rx
  obtain ⟨its, r, ht, hz⟩ := I.tuple hx
  have hlen : its.toArray.size = xs.length := by rw [List.size_toArray]; exact r.length.symm
  refine ⟨"tuple", _, PyProof.Rows.slot_tuple_getitem.lookup, ht.typeIs, ?_⟩
  by_cases hw : HT.sIx xs.length 0 lo = 0 ∧ HT.sIx xs.length xs.length hi = xs.length
  · exact getItem_tuple_whole ht hs pl pu (by rw [hlen]; exact hw) ⟨.ref a, H, I, rfl, q1 hw⟩
  · refine HT.getItem_tuple_cut ht hs pl pu (by rw [hlen]; exact hw) ?_ (by rw [hlen]; exact hz)
    rw [hlen]
    exact laidT (t := s.toks) I (Nat.le_trans (cutV_length xs lo hi) hz) ((r.drop (HT.sIx xs.length 0 lo)).take (HT.sIx xs.length xs.length hi - HT.sIx xs.length 0 lo)) (q2 hw)
def rCatN (K : PySem.W.Frag) : R2 := fun x y H Q => ∃ a b xs ys, x = .ref a ∧ y = .ref b ∧ SqT K H a xs ∧ SqT K H b ys ∧ xs.length + ys.length ≤ sizeLine ∧
  (xs = [] → Q (.ref b) H) ∧ (xs ≠ [] → ys = [] → Q (.ref a) H) ∧ (xs ≠ [] → ys ≠ [] → NewT H (xs ++ ys) Q)
theorem op_catN : OpR X (binaryOp .Add) (rCatN X.K) := by
  intro pins s σ H x y v u Q I rx ry h
  obtain ⟨a, b, xs, ys, rfl, rfl, ha, hb, hz, q0, q1, q2⟩ := h
  cases rx
  cases ry
  obtain ⟨its, r1, p1, _⟩ := I.tuple ha
  obtain ⟨its2, r2, p2, _⟩ := I.tuple hb
  by_cases hx : xs = []
  · subst hx
    cases r1
    exact cat_tup0 p1 p2 ⟨.ref b, H, I, rfl, q0 rfl⟩
  · refine HT.cat_tup p1 p2 (fun z => hx (r1.nil_iff.mp z)) (fun z => ⟨.ref a, H, I, rfl, q1 hx (r2.nil_iff.mp z)⟩) (fun z => ?_) (by rw [← r1.length, ← r2.length]; exact hz)
    exact laidT (t := s.toks) I (by rw [List.length_append]; exact hz) (r1.append r2) (q2 hx fun w => z (r2.nil_iff.mpr w))
def tTupRgN (te : L2.St → Hp → (Int → Int → Hp → Prop) → Prop) : TE := fun σ H Q => te σ H fun a b H1 => RgOk a b ∧ NewT H1 (rgV a b) Q
theorem pe_tupRgN {e : Expr} {te : L2.St → Hp → (Int → Int → Hp → Prop) → Prop} {p pos : Pos} (hc : X.calm = true) (hg : Gl X "tuple") (hm : X.mg "tuple" = none) (he : PRg X e te) (na : starEach [e] X.env = (false, eval e X.env) :: starEach [] X.env := by rfl) : PE X (.Call (.Name "tuple" p) [e] [] pos) (tTupRgN te) := by
  refine ⟨fun pins s σ H Q I h => ?_⟩
  refine Call_ (ld_blt I hg hm boot_tuple (PyProof.Rows.callWith_type1 (args_cons (thn (he pins s σ H _ I h) fun x s1 ⟨r, a, b, t, u, v, H1, ex, hr, I1, ok, q⟩ => args_nil ?_) na) na))
  subst ex
  obtain ⟨b1, b2, b3, b4, b5⟩ := ok
  refine call_tuple_range (n := (b - a).toNat) (I1.ok.hd hc) hr (small_one b1 b2 b3 b4) (rangeSize_nat a b) b5 fun h' tk acc hk hi => ?_
  have I2 : Inv X pins σ H1 { s1 with heap := h', toks := tk } := I1.kept hk
  have r := vals_rg hi
  have hz : (rgV a b).length ≤ sizeLine := by rw [rgV_length, sizeLine_eq]; omega
  have e : acc = acc.toList.toArray := (Array.toArray_toList).symm
  rw [e]
  exact laidT (s := { s1 with heap := h', toks := tk }) (t := tk) I2 hz r q
end
end L3
set_option maxHeartbeats 4000000
/-! L3c: displays, sequences, subscripts, slices, calls of built-ins. -/
namespace L3
open PySem L2

theorem tX.weak {K : PySem.W.Frag} {E : ExW} {α : Type} {P P' : List Addr → Hp → Hp → V → α → Prop} {m : Ev → M α} (w : ∀ ι H₀ H v d, P ι H₀ H v d → P' ι H₀ H v d) {σ : L2.St} {H : Hp} {Q : VK} (h : tX K E P' m σ H Q) : tX K E P m σ H Q := by
  obtain ⟨ι, env, st, R, h⟩ := h
  exact ⟨ι, env, st, R, wp_mono h fun d st1 h1 ι1 H1 v x1 S1 r1 => h1 ι1 H1 v x1 S1 (w _ _ _ _ _ r1)⟩
section
variable {K : PySem.W.Frag} {E : ExW} {ι ι' : List Addr} {σ : L2.St} {H H' H₀ : Hp} {env : Ev} {st st' : Store}
theorem RelS.nin (S : RelS K ι H st) {p : Addr} (h : H p = none) : p ∉ ι := fun hc => by
  obtain ⟨o, ho, _⟩ := S.mut hc
  rw [h] at ho; cases ho
/-- a new tuple -/
theorem RelS.newTup (S : RelS K ι H st) {p : Addr} {o : Obj} {xs : List V} {ds : List D} (hp : H p = none) (hd : o.dict = none) (r : RpL K ι H xs ds) : Ext ι H ι (upd H p (.frz o (.tup xs))) ∧ RelS K ι (upd H p (.frz o (.tup xs))) st ∧ Rp K ι (upd H p (.frz o (.tup xs))) (.ref p) (.tup ds) := by
  have x : Ext ι H ι (upd H p (.frz o (.tup xs))) := Ext.upd hp
  refine ⟨x, S.grow hp, ?_⟩
  simp only [Rp]
  exact ⟨p, xs, rfl, .inl ⟨o, upd_same, hd, S.nin hp⟩, x.rpl r⟩
/-- a new list -/
theorem RelS.newLst (S : RelS K ι H st) (hx : ∃ ι₀, Ext ι₀ H₀ ι H) {p : Addr} {xs : List V} {ds : List D} (hp : H p = none) (r : RpL K ι H xs ds) : Ext ι H ι (upd H p (.lst xs)) ∧ RelS K ι (upd H p (.lst xs)) st ∧ Tmp K ι H₀ (upd H p (.lst xs)) (.ref p) ds := by
  have x : Ext ι H ι (upd H p (.lst xs)) := Ext.upd hp
  refine ⟨x, S.grow hp, p, xs, rfl, upd_same, S.nin hp, ?_, x.rpl r⟩
  obtain ⟨ι₀, hx⟩ := hx
  cases q : H₀ p with
  | none => rfl
  | some o =>
    have n0 : p ∉ ι₀ := fun hc => by
      obtain ⟨t, ht⟩ := hx.pre
      exact S.nin hp (by rw [← ht]; exact List.mem_append_left _ hc)
    have := hx.keep _ _ q n0
    rw [hp] at this; cases this
end

/-! ### displays -/
def line : Nat := 16777216
theorem line_eq : sizeLine = line := sizeLine_eq
def mkTup : List D → M D := fun ds st => if ds.length ≤ line then .ok (.tup ds) st else .no
def mkLst : List D → M (List D) := fun ds st => if ds.length ≤ line then .ok ds st else .no
def onA {α : Type} (g : List D → M α) (m : Ev → M (List D)) : Ev → M α := fun env => bnd (m env) g
section
variable {X : Cx} {E : ExW} {es : List Expr} {m : Ev → M (List D)} {pos : Pos}
theorem ge_tup {x1} (h : PA X es (tAr X.K E m)) : PE X (.Tuple es x1 pos) (tD X.K E (onA mkTup m)) := by
  refine PE.wk (pe_tupN h) fun σ H Q h => ?_
  obtain ⟨ι, env, st, R, h⟩ := h
  refine ⟨ι, env, st, R, wp_mono (wp_bnd h) fun ds st1 h1 ι1 H1 vs x1 S1 r1 => ?_⟩
  unfold mkTup at h1
  split at h1
  · rename_i hl
    refine ⟨by rw [r1.length, line_eq]; exact hl, fun p o hp hd => ?_⟩
    obtain ⟨x, S, r⟩ := S1.newTup hp hd r1
    exact h1 ι1 _ _ (x1.trans x) S r
  · exact h1.elim
theorem gl_lst (h : PA X es (tAr X.K E m)) : PE X (.List es pos) (tLs X.K E (onA mkLst m)) := by
  refine PE.wk (pe_lst h) fun σ H Q h => ?_
  obtain ⟨ι, env, st, R, h⟩ := h
  refine ⟨ι, env, st, R, wp_mono (wp_bnd h) fun ds st1 h1 ι1 H1 vs x1 S1 r1 => ?_⟩
  unfold mkLst at h1
  split at h1
  · rename_i hl
    refine ⟨by rw [r1.length, line_eq]; exact hl, fun p hp => ?_⟩
    obtain ⟨x, S, r⟩ := S1.newLst ⟨ι, x1⟩ hp r1
    exact h1 ι1 _ _ (x1.trans x) S r
  · exact h1.elim
end

/-! ### the store -/
/-- a fresh list is put into the store -/
def alloc : List D → M D := fun ds st => .ok (.ref st.length) (st ++ [.lst ds])
/-- the list behind a value -/
def readL : D → M (List D) := fun d st => match d with
  | .ref n => match st[n]? with
    | some (.lst ds) => .ok ds st
    | _ => .no
  | _ => .no
/-- the list or tuple behind a value -/
def readQ : D → M (List D) := fun d st => match d with
  | .ref n => match st[n]? with
    | some (.lst ds) => .ok ds st
    | _ => .no
  | .tup ds => .ok ds st
  | .frl ds => .ok ds st
  | _ => .no
section
variable {X : Cx} {E : ExW} {e : Expr} {m : Ev → M (List D)} {md : Ev → M D}
theorem ge_new (h : PE X e (tLs X.K E m)) : PE X e (tD X.K E (un1 alloc m)) := by
  refine PE.wk h fun σ H Q h => ?_
  obtain ⟨ι, env, st, R, h⟩ := h
  refine ⟨ι, env, st, R, wp_mono (wp_bnd h) fun ds st1 h1 ι1 H1 v x1 S1 r1 => ?_⟩
  obtain ⟨p, vs, rfl, hp, np, h0, r⟩ := r1
  have S2 : RelS X.K (ι1 ++ [p]) H1 (st1 ++ [.lst ds]) := S1.push np ⟨vs, hp, r⟩
  refine h1 (ι1 ++ [p]) H1 _ (x1.join h0) S2 ?_
  simp only [PD, Rp]
  exact ⟨p, rfl, by rw [← S1.len, List.getElem?_append_right (Nat.le_refl _), Nat.sub_self]; rfl⟩
theorem readL_inv {d : D} {st : Store} {Q : List D → Store → Prop} (h : wp (readL d st) Q E) : ∃ n ds, d = .ref n ∧ st[n]? = some (.lst ds) ∧ Q ds st := by
  unfold readL at h
  split at h
  · split at h
    · rename_i n _ ds e
      exact ⟨n, ds, rfl, e, h⟩
    · exact h.elim
  · exact h.elim
theorem Rp.ref_inv {K : PySem.W.Frag} {ι : List Addr} {H : Hp} {v : V} {n : Nat} (h : Rp K ι H v (.ref n)) : ∃ a, v = .ref a ∧ ι[n]? = some a := by simpa only [Rp] using h
theorem Rp.tup_inv {K : PySem.W.Frag} {ι : List Addr} {H : Hp} {v : V} {ds : List D} (h : Rp K ι H v (.tup ds)) : ∃ a xs, v = .ref a ∧ SqTι K ι H a xs ∧ RpL K ι H xs ds := by simpa only [Rp] using h
theorem Rp.frl_inv {K : PySem.W.Frag} {ι : List Addr} {H : Hp} {v : V} {ds : List D} (h : Rp K ι H v (.frl ds)) : ∃ a xs, v = .ref a ∧ SqLι K ι H a xs ∧ RpL K ι H xs ds := by simpa only [Rp] using h
theorem RelS.lst {K : PySem.W.Frag} {ι : List Addr} {H : Hp} {st : Store} (S : RelS K ι H st) {n : Nat} {a : Addr} {ds : List D} (h : ι[n]? = some a) (e : st[n]? = some (.lst ds)) : ∃ xs, H a = some (.lst xs) ∧ RpL K ι H xs ds := S.at_ n a _ h e
theorem gr_v (h : PE X e (tD X.K E md)) : PE X e (tRl X.K E (un1 readL md)) := PE.wk h fun σ H Q h => tX.as (fun ι H₀ H st x a Q S _ r h => by
  obtain ⟨n, ds, rfl, e, h⟩ := readL_inv h
  obtain ⟨p, rfl, hp⟩ := Rp.ref_inv r
  obtain ⟨xs, h1, h2⟩ := S.lst hp e
  exact h ι H _ (Ext.refl _ _) S ⟨p, xs, rfl, h1, h2⟩) h
theorem gr_l (h : PE X e (tLs X.K E m)) : PE X e (tRl X.K E m) := PE.wk h fun _ _ _ h => tX.weak (fun _ _ _ _ _ r => r.rdl) h
theorem gq_r (h : PE X e (tRl X.K E m)) : PE X e (tQ X.K E m) := PE.wk h fun _ _ _ h => tX.weak (fun _ _ _ _ _ r => r.sqn) h
theorem gq_l (h : PE X e (tLs X.K E m)) : PE X e (tQ X.K E m) := gq_r (gr_l h)
theorem sqn_of {K : PySem.W.Frag} {ι : List Addr} {H : Hp} {st : Store} {Q : List D → Store → Prop} {v : V} {d : D} (S : RelS K ι H st) (r : Rp K ι H v d) (h : wp (readQ d st) Q E) : ∃ ds, Sqn K ι H v ds ∧ Q ds st := by
  unfold readQ at h
  split at h
  · rename_i n
    split at h
    · rename_i ds e
      obtain ⟨p, rfl, hp⟩ := Rp.ref_inv r
      obtain ⟨xs, h1, h2⟩ := S.lst hp e
      exact ⟨ds, ⟨p, xs, rfl, .inl (SqL.of h1), h2⟩, h⟩
    · exact h.elim
  · rename_i ds
    obtain ⟨a, xs, rfl, h1, h2⟩ := Rp.tup_inv r
    exact ⟨ds, ⟨a, xs, rfl, .inr h1, h2⟩, h⟩
  · rename_i ds
    obtain ⟨a, xs, rfl, h1, h2⟩ := Rp.frl_inv r
    exact ⟨ds, ⟨a, xs, rfl, .inl h1.to, h2⟩, h⟩
  · exact h.elim
theorem gq_v (h : PE X e (tD X.K E md)) : PE X e (tQ X.K E (un1 readQ md)) := PE.wk h fun σ H Q h => tX.as (fun ι H₀ H st x a Q S _ r h => by
  obtain ⟨ds, q, h⟩ := sqn_of S r h
  exact h ι H _ (Ext.refl _ _) S q) h
end

/-! ### calls of built-ins of one argument -/
def CallG {α γ : Type} (X : Cx) (E : ExW) (f : Value) (P₁ : List Addr → Hp → Hp → V → α → Prop) (P₃ : List Addr → Hp → Hp → V → γ → Prop) (g : α → M γ) : Prop :=
  ∃ r, CallR X f r ∧ G1 X.K E P₁ P₃ (fun x H Q => r [x] H Q) g
section
variable {X : Cx} {E : ExW} {a b : Expr} {x : Str} {p pos : Pos} {id T : String} {α β γ : Type} {P₁ : List Addr → Hp → Hp → V → α → Prop} {P₂ : List Addr → Hp → Hp → V → β → Prop} {P₃ : List Addr → Hp → Hp → V → γ → Prop} {g : α → M γ} {m : Ev → M α}
theorem ge_b1 (hc : CallG X E (.builtin id) P₁ P₃ g) (hg : Gl X x) (hm : X.mg x = none) (hv : bootBuiltins x = some (.builtin id)) (ha : PE X a (tX X.K E P₁ m)) (hn : x ≠ "__name__" := by decide) (hdb : (x == ("__debug__" : Str)) = false := by decide)
    (he : starEach [a] X.env = (false, eval a X.env) :: starEach [] X.env := by rfl) (hpl : (backTo pos (starEach [] X.env)).any (·.1) = false := by rfl) : PE X (.Call (.Name x p) [a] [] pos) (tX X.K E P₃ (un1 g m)) := by
  obtain ⟨r, hc, h1⟩ := hc
  exact PE.wk (pe_callB hc hg hm hv (pa_cons ha pa_nil he) hn hdb he hpl) fun σ H Q h => tX.op1 h1 h
theorem ge_t1 (hc : CallG X E (.type T) P₁ P₃ g) (hg : Gl X x) (hm : X.mg x = none) (hv : bootBuiltins x = some (.type T)) (ha : PE X a (tX X.K E P₁ m)) (hn : x ≠ "__name__" := by decide) (hdb : (x == ("__debug__" : Str)) = false := by decide)
    (he : starEach [a] X.env = (false, eval a X.env) :: starEach [] X.env := by rfl) (hpl : (backTo pos (starEach [] X.env)).any (·.1) = false := by rfl) : PE X (.Call (.Name x p) [a] [] pos) (tX X.K E P₃ (un1 g m)) := by
  obtain ⟨r, hc, h1⟩ := hc
  exact PE.wk (pe_callTy hc hg hm hv (pa_cons ha pa_nil he) hn hdb he hpl) fun σ H Q h => tX.op1 h1 h
/-- two arguments -/
def CallG2 {α β γ : Type} (X : Cx) (E : ExW) (f : Value) (P₁ : List Addr → Hp → Hp → V → α → Prop) (P₂ : List Addr → Hp → Hp → V → β → Prop) (P₃ : List Addr → Hp → Hp → V → γ → Prop) (g : α → β → M γ) : Prop :=
  Carry X.K P₁ ∧ Older P₂ ∧ ∃ r, CallR X f r ∧ G2 X.K E P₁ P₂ P₃ (fun x y H Q => r [x, y] H Q) g
theorem ge_b2 {g : α → β → M γ} {m2 : Ev → M β} (hc : CallG2 X E (.builtin id) P₁ P₂ P₃ g) (hg : Gl X x) (hm : X.mg x = none) (hv : bootBuiltins x = some (.builtin id)) (ha : PE X a (tX X.K E P₁ m)) (hb : PE X b (tX X.K E P₂ m2)) (hn : x ≠ "__name__" := by decide) (hdb : (x == ("__debug__" : Str)) = false := by decide)
    (he : starEach [a, b] X.env = (false, eval a X.env) :: starEach [b] X.env := by rfl) (he2 : starEach [b] X.env = (false, eval b X.env) :: starEach [] X.env := by rfl) (hpl : (backTo pos (starEach [b] X.env)).any (·.1) = false := by rfl) : PE X (.Call (.Name x p) [a, b] [] pos) (tX X.K E P₃ (bin g m m2)) := by
  obtain ⟨c1, o2, r, hc, h1⟩ := hc
  exact PE.wk (pe_callB hc hg hm hv (pa_cons ha (pa_cons hb pa_nil he2) he) hn hdb he hpl) fun σ H Q h => tX.op2 (r := fun x y H Q => r [x, y] H Q) h1 c1 o2 h
end
/-! ### the built-ins -/
def lenQ : List D → M D := fun ds st => .ok (.int ds.length) st
def tupQ : List D → M D := fun ds st => .ok (.tup ds) st
def listQ : List D → M (List D) := fun ds st => .ok ds st
def lenS : D → M D := fun d st => match d with
  | .str x => if x.length ≤ line then .ok (.int x.length) st else .no
  | _ => .no
def intV : D → M D := fun d st => match d with
  | .int i => .ok (.int i) st
  | .bl b => .ok (.int (if b = true then 1 else 0)) st
  | _ => .no
def absV : D → M D := fun d st => match d with
  | .int i => .ok (.int (if i < 0 then -i else i)) st
  | _ => .no
def boolsOf : List D → Option (List Bool)
  | [] => some []
  | .bl b :: r => (boolsOf r).map (b :: ·)
  | _ => none
def intsOf : List D → Option (List Int)
  | [] => some []
  | .int b :: r => (intsOf r).map (b :: ·)
  | _ => none
def allQ : List D → M D := fun ds st => match boolsOf ds with
  | some bs => .ok (.bl (bs.all id)) st
  | none => .no
def anyQ : List D → M D := fun ds st => match boolsOf ds with
  | some bs => .ok (.bl (bs.any id)) st
  | none => .no
def sumQ : List D → M D := fun ds st => match intsOf ds with
  | some bs => .ok (.int bs.sum) st
  | none => .no
def leastOf : Int → List Int → Int
  | m, [] => m
  | m, x :: r => leastOf (if x < m then x else m) r
def mostOf : Int → List Int → Int
  | m, [] => m
  | m, x :: r => mostOf (if m < x then x else m) r
def minQ : List D → M D := fun ds st => match intsOf ds with
  | some (m :: bs) => .ok (.int (leastOf m bs)) st
  | _ => .no
def maxQ : List D → M D := fun ds st => match intsOf ds with
  | some (m :: bs) => .ok (.int (mostOf m bs)) st
  | _ => .no
def min2 := gI2 (fun _ _ => true) fun i j => .int (if j < i then j else i)
def max2 := gI2 (fun _ _ => true) fun i j => .int (if j > i then j else i)
section
variable {K : PySem.W.Frag} {ι : List Addr} {H : Hp}
theorem RpL.boolsOf : ∀ {ds : List D} {bs : List Bool} {vs : List V}, RpL K ι H vs ds → boolsOf ds = some bs → vs = bs.map V.bl
  | [], _, _, h, e => by
    simp only [RpL] at h
    simp [L3.boolsOf] at e
    subst h e; rfl
  | .bl b :: r, _, _, h, e => by
    simp only [RpL] at h
    obtain ⟨v, s, rfl, h1, h2⟩ := h
    simp only [L3.boolsOf, Option.map_eq_some_iff] at e
    obtain ⟨bs, e1, rfl⟩ := e
    rw [RpL.boolsOf h2 e1, Rp.bl_inv h1]; rfl
  | .non :: _, _, _, _, e | .int _ :: _, _, _, _, e | .str _ :: _, _, _, _, e | .tup _ :: _, _, _, _, e | .frl _ :: _, _, _, _, e | .ref _ :: _, _, _, _, e | .con _ :: _, _, _, _, e | .ty _ :: _, _, _, _, e => by simp [L3.boolsOf] at e
theorem RpL.intsOf : ∀ {ds : List D} {bs : List Int} {vs : List V}, RpL K ι H vs ds → intsOf ds = some bs → vs = bs.map V.int
  | [], _, _, h, e => by
    simp only [RpL] at h
    simp [L3.intsOf] at e
    subst h e; rfl
  | .int b :: r, _, _, h, e => by
    simp only [RpL] at h
    obtain ⟨v, s, rfl, h1, h2⟩ := h
    simp only [L3.intsOf, Option.map_eq_some_iff] at e
    obtain ⟨bs, e1, rfl⟩ := e
    rw [RpL.intsOf h2 e1, Rp.int_inv h1]; rfl
  | .non :: _, _, _, _, e | .bl _ :: _, _, _, _, e | .str _ :: _, _, _, _, e | .tup _ :: _, _, _, _, e | .frl _ :: _, _, _, _, e | .ref _ :: _, _, _, _, e | .con _ :: _, _, _, _, e | .ty _ :: _, _, _, _, e => by simp [L3.intsOf] at e
theorem RpL.ofInts : ∀ (ns : List Int), RpL K ι H (ns.map V.int) (ns.map D.int)
  | [] => RpL.nil
  | n :: ns => RpL.cons Rp.mkInt (RpL.ofInts ns)
theorem leastOf_spec : ∀ (r : List Int) (m : Int), (leastOf m r = m ∨ leastOf m r ∈ r) ∧ leastOf m r ≤ m ∧ ∀ y ∈ r, leastOf m r ≤ y
  | [], m => ⟨.inl rfl, Int.le_refl _, fun y h => by cases h⟩
  | x :: r, m => by
    simp only [leastOf]
    have hz : (if x < m then x else m) ≤ m ∧ (if x < m then x else m) ≤ x ∧ ((if x < m then x else m) = m ∨ (if x < m then x else m) = x) := by split <;> omega
    generalize (if x < m then x else m) = z at hz
    obtain ⟨h1, h2, h3⟩ := leastOf_spec r z
    refine ⟨?_, by omega, fun y hy => ?_⟩
    · rcases h1 with h1 | h1
      · rw [h1]
        rcases hz.2.2 with e | e
        · exact .inl e
        · exact .inr (by rw [e]; exact List.mem_cons_self)
      · exact .inr (List.mem_cons_of_mem _ h1)
    · rcases List.mem_cons.mp hy with rfl | hy
      · omega
      · exact h3 y hy
theorem mostOf_spec : ∀ (r : List Int) (m : Int), (mostOf m r = m ∨ mostOf m r ∈ r) ∧ m ≤ mostOf m r ∧ ∀ y ∈ r, y ≤ mostOf m r
  | [], m => ⟨.inl rfl, Int.le_refl _, fun y h => by cases h⟩
  | x :: r, m => by
    simp only [mostOf]
    have hz : m ≤ (if m < x then x else m) ∧ x ≤ (if m < x then x else m) ∧ ((if m < x then x else m) = m ∨ (if m < x then x else m) = x) := by split <;> omega
    generalize (if m < x then x else m) = z at hz
    obtain ⟨h1, h2, h3⟩ := mostOf_spec r z
    refine ⟨?_, by omega, fun y hy => ?_⟩
    · rcases h1 with h1 | h1
      · rw [h1]
        rcases hz.2.2 with e | e
        · exact .inl e
        · exact .inr (by rw [e]; exact List.mem_cons_self)
      · exact .inr (List.mem_cons_of_mem _ h1)
    · rcases List.mem_cons.mp hy with rfl | hy
      · omega
      · exact h3 y hy
end
section
variable {X : Cx} {E : ExW}
theorem k_len : CallG X E (.builtin "len") (PQ X.K) (PD X.K) lenQ := ⟨_, call_len_seq, fun ι H₀ H st x ds Q S _ r h => by
  obtain ⟨a, vs, rfl, hq, r⟩ := r
  exact ⟨a, vs, rfl, hq.imp id SqTι.to, by rw [r.length]; exact h ι H _ (Ext.refl _ _) S Rp.mkInt⟩⟩
theorem k_lenS : CallG X E (.builtin "len") (PD X.K) (PD X.K) lenS := ⟨_, call_len_str, fun ι H₀ H st x d Q S _ r h => by
  unfold lenS at h
  split at h
  · split at h
    · rename_i hl
      exact ⟨_, by rw [Rp.str_inv r], by rw [line_eq]; exact hl, h ι H _ (Ext.refl _ _) S Rp.mkInt⟩
    · exact h.elim
  · exact h.elim⟩
theorem k_tuple : CallG X E (.type "tuple") (PQ X.K) (PD X.K) tupQ := ⟨_, call_tupN, fun ι H₀ H st x ds Q S _ r h => by
  obtain ⟨a, vs, rfl, hq, r⟩ := r
  refine ⟨a, vs, rfl, ?_⟩
  rcases hq with hq | hq
  · refine .inl ⟨hq, fun l o hl hd => ?_⟩
    obtain ⟨x, S', r'⟩ := S.newTup hl hd r
    exact h ι _ _ x S' r'
  · refine .inr ⟨hq.to, h ι H _ (Ext.refl _ _) S ?_⟩
    simp only [PD, Rp]
    exact ⟨a, vs, rfl, hq, r⟩⟩
theorem k_list : CallG X E (.type "list") (PQ X.K) (PLs X.K) listQ := ⟨_, call_list_of, fun ι H₀ H st x ds Q S hx r h => by
  obtain ⟨a, vs, rfl, hq, r⟩ := r
  refine ⟨a, vs, rfl, hq.imp id SqTι.to, fun l hl => ?_⟩
  obtain ⟨x, S', r'⟩ := S.newLst hx hl r
  exact h ι _ _ x S' r'⟩
theorem k_int : CallG X E (.type "int") (PD X.K) (PD X.K) intV := ⟨_, call_int1, fun ι H₀ H st x d Q S _ r h => by
  unfold intV at h
  split at h
  · exact .inl ⟨_, by rw [Rp.int_inv r], h ι H _ (Ext.refl _ _) S Rp.mkInt⟩
  · exact .inr ⟨_, by rw [Rp.bl_inv r], h ι H _ (Ext.refl _ _) S Rp.mkInt⟩
  · exact h.elim⟩
theorem k_abs : CallG X E (.builtin "abs") (PD X.K) (PD X.K) absV := ⟨_, call_abs, fun ι H₀ H st x d Q S _ r h => by
  unfold absV at h
  split at h
  · exact ⟨_, by rw [Rp.int_inv r], h ι H _ (Ext.refl _ _) S Rp.mkInt⟩
  · exact h.elim⟩
theorem k_all (hc : X.calm = true) : CallG X E (.builtin "all") (PRl X.K) (PD X.K) allQ := ⟨_, cr_all hc, fun ι H₀ H st x ds Q S _ r h => by
  obtain ⟨a, vs, rfl, hq, r⟩ := r
  unfold allQ at h
  split at h
  · rename_i bs e
    exact ⟨a, bs, rfl, by rw [← r.boolsOf e]; exact SqL.of hq, h ι H _ (Ext.refl _ _) S Rp.mkBl⟩
  · exact h.elim⟩
theorem k_any (hc : X.calm = true) : CallG X E (.builtin "any") (PRl X.K) (PD X.K) anyQ := ⟨_, cr_any hc, fun ι H₀ H st x ds Q S _ r h => by
  obtain ⟨a, vs, rfl, hq, r⟩ := r
  unfold anyQ at h
  split at h
  · rename_i bs e
    exact ⟨a, bs, rfl, by rw [← r.boolsOf e]; exact SqL.of hq, h ι H _ (Ext.refl _ _) S Rp.mkBl⟩
  · exact h.elim⟩
theorem k_sum (hc : X.calm = true) : CallG X E (.builtin "sum") (PRl X.K) (PD X.K) sumQ := ⟨_, cr_sum hc, fun ι H₀ H st x ds Q S _ r h => by
  obtain ⟨a, vs, rfl, hq, r⟩ := r
  unfold sumQ at h
  split at h
  · rename_i bs e
    exact ⟨a, bs, rfl, by rw [← r.intsOf e]; exact SqL.of hq, h ι H _ (Ext.refl _ _) S Rp.mkInt⟩
  · exact h.elim⟩
theorem k_min (hc : X.calm = true) : CallG X E (.builtin "min") (PRl X.K) (PD X.K) minQ := ⟨_, cr_min hc, fun ι H₀ H st x ds Q S _ r h => by
  obtain ⟨a, vs, rfl, hq, r⟩ := r
  unfold minQ at h
  split at h
  · rename_i m bs e
    refine ⟨a, m :: bs, rfl, by rw [← r.intsOf e]; exact SqL.of hq, by simp, fun z hz hle => ?_⟩
    have q := leastOf_spec bs m
    have e : z = leastOf m bs := by
      have h1 := hle (leastOf m bs) (by rcases q.1 with w | w; (rw [w]; simp); exact List.mem_cons_of_mem _ w)
      have h2 : leastOf m bs ≤ z := by
        rcases List.mem_cons.mp hz with rfl | hz
        · exact q.2.1
        · exact q.2.2 z hz
      omega
    rw [e]
    exact h ι H _ (Ext.refl _ _) S Rp.mkInt
  · exact h.elim⟩
theorem k_max (hc : X.calm = true) : CallG X E (.builtin "max") (PRl X.K) (PD X.K) maxQ := ⟨_, cr_max hc, fun ι H₀ H st x ds Q S _ r h => by
  obtain ⟨a, vs, rfl, hq, r⟩ := r
  unfold maxQ at h
  split at h
  · rename_i m bs e
    refine ⟨a, m :: bs, rfl, by rw [← r.intsOf e]; exact SqL.of hq, by simp, fun z hz hle => ?_⟩
    have q := mostOf_spec bs m
    have e : z = mostOf m bs := by
      have h1 := hle (mostOf m bs) (by rcases q.1 with w | w; (rw [w]; simp); exact List.mem_cons_of_mem _ w)
      have h2 : z ≤ mostOf m bs := by
        rcases List.mem_cons.mp hz with rfl | hz
        · exact q.2.1
        · exact q.2.2 z hz
      omega
    rw [e]
    exact h ι H _ (Ext.refl _ _) S Rp.mkInt
  · exact h.elim⟩
theorem k_min2 (hc : X.calm = true) : CallG2 X E (.builtin "min") (PD X.K) (PD X.K) (PD X.K) min2 := ⟨carry_D, old_D, _, call_min2 hc, fun ι H₀ H st x y a b Q S _ ra rb h => by
  unfold min2 gI2 at h
  split at h
  · rw [if_pos rfl] at h
    exact ⟨_, _, by rw [Rp.int_inv ra, Rp.int_inv rb], h ι H _ (Ext.refl _ _) S Rp.mkInt⟩
  · exact h.elim⟩
theorem k_max2 (hc : X.calm = true) : CallG2 X E (.builtin "max") (PD X.K) (PD X.K) (PD X.K) max2 := ⟨carry_D, old_D, _, call_max2 hc, fun ι H₀ H st x y a b Q S _ ra rb h => by
  unfold max2 gI2 at h
  split at h
  · rw [if_pos rfl] at h
    exact ⟨_, _, by rw [Rp.int_inv ra, Rp.int_inv rb], h ι H _ (Ext.refl _ _) S Rp.mkInt⟩
  · exact h.elim⟩
end

/-! ### subscripts, slices -/
def ixQ : List D → D → M D := fun ds i st => match i with
  | .int i => match atI ds i with
    | some d => .ok d st
    | none => .no
  | _ => .no
theorem RpL.atI {K : PySem.W.Frag} {ι : List Addr} {H : Hp} {ds : List D} {vs : List V} {i : Int} {d : D} (r : RpL K ι H vs ds) (e : L2.atI ds i = some d) : ∃ v, L2.atI vs i = some v ∧ Rp K ι H v d := by
  unfold L2.atI at e ⊢
  rw [r.length]
  cases q : L2.ixN ds.length i with
  | none => rw [q] at e; cases e
  | some j =>
    rw [q] at e
    exact r.get (i := j) e
theorem g2_ix {K : PySem.W.Frag} {E : ExW} : G2 K E (PQ K) (PD K) (PD K) (fun x y H Q => rIxL K x y H Q ∨ rIxT K x y H Q) ixQ := by
  intro ι H₀ H st x y ds i Q S _ r ri h
  unfold ixQ at h
  split at h
  · rename_i i
    split at h
    · rename_i d e
      obtain ⟨a, vs, rfl, hq, r⟩ := r
      obtain ⟨v, h1, h2⟩ := r.atI e
      rcases hq with hq | hq
      · exact .inl ⟨a, vs, i, v, rfl, Rp.int_inv ri, hq, h1, h ι H _ (Ext.refl _ _) S h2⟩
      · exact .inr ⟨a, vs, i, v, rfl, Rp.int_inv ri, hq.to, h1, h ι H _ (Ext.refl _ _) S h2⟩
    · exact h.elim
  · exact h.elim
/-- a list or tuple that is to be read behind a further step -/
def PQs (K : PySem.W.Frag) (ι : List Addr) (_ : Hp) (H : Hp) (v : V) (ds : List D) : Prop := ∃ a vs, v = .ref a ∧ ((H a = some (.lst vs) ∧ a ∉ ι) ∨ SqTι K ι H a vs ∨ SqLι K ι H a vs) ∧ RpL K ι H vs ds
theorem PQs.to {K : PySem.W.Frag} {ι : List Addr} {H₀ H : Hp} {v : V} {ds : List D} (h : PQs K ι H₀ H v ds) : PQ K ι H₀ H v ds := by
  obtain ⟨a, vs, e, h, r⟩ := h
  exact ⟨a, vs, e, h.elim (fun z => .inl (SqL.of z.1)) fun h => h.elim (fun z => .inr z) fun z => .inl z.to, r⟩
theorem carry_Qs {K : PySem.W.Frag} : Carry K (PQs K) := fun ι H₀ H ι' H' v ds x h => by
  obtain ⟨a, vs, e, h, r⟩ := h
  refine ⟨a, vs, e, ?_, x.rpl r⟩
  rcases h with ⟨h, n⟩ | h | h
  · exact .inl ⟨x.keep _ _ h n, x.notin h n⟩
  · exact .inr (.inl (x.sqt h))
  · exact .inr (.inr (x.sql h))
section
variable {X : Cx} {E : ExW} {a b : Expr} {pos : Pos} {m : Ev → M (List D)} {ma mb : Ev → M D}
/-- the object under a subscript as a value (a list of the store, a tuple) -/
def ixV : D → D → M D := fun d i => bnd (readQ d) fun ds => ixQ ds i
theorem ge_ix (ha : PE X a (tD X.K E ma)) (hb : PE X b (tD X.K E mb)) (hs : PlainIx b) : PE X (.Subscript a b pos) (tD X.K E (bin ixV ma mb)) :=
  PE.wk (pe_ix (ix_list.or ix_tup) ha hb hs) fun σ H Q h => tX.op2 (fun ι H₀ H st x y d i Q S hx r ri h => by
    obtain ⟨ds, q, h⟩ := sqn_of S r (wp_bnd h)
    exact g2_ix ι H₀ H st x y ds i Q S hx q ri h) carry_D old_D h
/-- a fresh list under a subscript -/
theorem ge_ixL (ha : PE X a (tLs X.K E m)) (hb : PE X b (tD X.K E mb)) (hs : PlainIx b) : PE X (.Subscript a b pos) (tD X.K E (bin ixQ m mb)) :=
  PE.wk (pe_ix (ix_list.or ix_tup) ha hb hs) fun σ H Q h => tX.op2 (P₁ := PLs X.K) (fun ι H₀ H st x y d i Q S hx r ri h => g2_ix ι H₀ H st x y d i Q S hx (Rdl.sqn (Tmp.rdl r)) ri h) carry_Ls old_D h
end
def cutD (ds : List D) (lo hi : Option Int) : List D := (ds.drop (HT.sIx ds.length 0 lo)).take (HT.sIx ds.length ds.length hi - HT.sIx ds.length 0 lo)
theorem RpL.cut {K : PySem.W.Frag} {ι : List Addr} {H : Hp} {ds : List D} {vs : List V} (r : RpL K ι H vs ds) (lo hi : Option Int) : RpL K ι H (cutV vs lo hi) (cutD ds lo hi) := by
  unfold cutV cutD
  rw [r.length]
  exact (r.drop _).take _
/-- a part of a slice -/
def noPart : Ev → M (Option Int) := fun _ => ret none
def somePart (m : Ev → M D) : Ev → M (Option Int) := fun env => bnd (m env) fun d st => match d with
  | .int i => .ok (some i) st
  | _ => .no
def tPt (K : PySem.W.Frag) (E : ExW) (m : Ev → M (Option Int)) : TO := fun σ H Q => ∃ ι env st, Rel K ι σ H env st ∧ wp (m env st) (fun d st' => ∀ ι' H', Ext ι H ι' H' → RelS K ι' H' st' → Q d H') E
section
variable {X : Cx} {E : ExW} {a : Expr} {lo hi : Option Expr} {pos p2 : Pos} {m : Ev → M (List D)} {ma : Ev → M D} {ml mh : Ev → M (Option Int)}
theorem PO.wk {e : Option Expr} {t t' : TO} (h : PO X e t) (w : ∀ σ H Q, t' σ H Q → t σ H Q) : PO X e t' := ⟨fun pins s σ H Q I q => h.run pins s σ H Q I (w σ H Q q)⟩
theorem gp_none : PO X none (tPt X.K E noPart) := PO.wk po_none fun σ H Q h => by
  obtain ⟨ι, env, st, R, h⟩ := h
  exact h ι H (Ext.refl _ _) R.s
theorem gp_some (ha : PE X a (tD X.K E ma)) : PO X (some a) (tPt X.K E (somePart ma)) := PO.wk (po_some ha) fun σ H Q h => by
  obtain ⟨ι, env, st, R, h⟩ := h
  refine ⟨ι, env, st, R, wp_mono (wp_bnd h) fun d st1 h1 ι1 H1 v x1 S1 r1 => ?_⟩
  split at h1
  · rename_i i
    exact ⟨i, Rp.int_inv r1, h1 ι1 H1 x1 S1⟩
  · exact h1.elim
def sl3 {α β : Type} (g : α → Option Int → Option Int → M β) (m : Ev → M α) (ml mh : Ev → M (Option Int)) : Ev → M β := fun env => bnd (m env) fun d => bnd (ml env) fun l => bnd (mh env) fun h => g d l h
theorem tX.sl {α β : Type} {P₁ : List Addr → Hp → Hp → V → α → Prop} {P₃ : List Addr → Hp → Hp → V → β → Prop} {m : Ev → M α} {r : V → Option Int → Option Int → Hp → VK → Prop} {g : α → Option Int → Option Int → M β} (c : Carry X.K P₁)
    (hg : ∀ ι H₀ H st x d l u Q, RelS X.K ι H st → (∃ ι₀, Ext ι₀ H₀ ι H) → P₁ ι H₀ H x d → wp (g d l u st) (fun d st' => ∀ ι' H' v, Ext ι H ι' H' → RelS X.K ι' H' st' → P₃ ι' H₀ H' v d → Q v H') E → r x l u H Q) {σ : L2.St} {H : Hp} {Q : VK}
    (h : tX X.K E P₃ (sl3 g m ml mh) σ H Q) : tSl r (tX X.K E P₁ m) (tPt X.K E ml) (tPt X.K E mh) σ H Q := by
  obtain ⟨ι, env, st, R, h⟩ := h
  refine ⟨ι, env, st, R, wp_mono (wp_bnd h) fun d st1 h1 ι1 H1 v x1 S1 r1 => ?_⟩
  refine ⟨ι1, env, st1, R.to x1 S1, wp_mono (wp_bnd h1) fun l st2 h2 ι2 H2 x2 S2 => ?_⟩
  refine ⟨ι2, env, st2, R.to (x1.trans x2) S2, wp_mono (wp_bnd h2) fun u st3 h3 ι3 H3 x3 S3 => ?_⟩
  exact hg ι3 H H3 st3 v d l u Q S3 ⟨ι, (x1.trans x2).trans x3⟩ (c _ _ _ _ _ _ _ (x2.trans x3) r1) (wp_mono h3 fun e st4 h4 ι4 H4 w x4 S4 r4 => h4 ι4 H4 w (((x1.trans x2).trans x3).trans x4) S4 r4)
/-- a tuple's slice -/
def sliceT : D → Option Int → Option Int → M D := fun d lo hi st => match d with
  | .tup ds => .ok (.tup (cutD ds lo hi)) st
  | _ => .no
/-- a list's slice: a fresh list -/
def sliceL : D → Option Int → Option Int → M (List D) := fun d lo hi => bnd (readL d) fun ds => ret (cutD ds lo hi)
theorem cut_whole {ds : List D} {lo hi : Option Int} (h : HT.sIx ds.length 0 lo = 0 ∧ HT.sIx ds.length ds.length hi = ds.length) : cutD ds lo hi = ds := by
  unfold cutD
  rw [h.1, h.2]
  simp
theorem ge_slT (ha : PE X a (tD X.K E ma)) (hl : PO X lo (tPt X.K E ml)) (hu : PO X hi (tPt X.K E mh)) : PE X (.Subscript a (.Slice lo hi none p2) pos) (tD X.K E (sl3 sliceT ma ml mh)) :=
  PE.wk (pe_slice sl_tupN ha hl hu) fun σ H Q h => tX.sl carry_D (fun ι H₀ H st x d l u Q S _ r h => by
    unfold sliceT at h
    split at h
    · rename_i ds
      obtain ⟨a, xs, rfl, hq, r⟩ := Rp.tup_inv r
      refine ⟨a, xs, rfl, hq.to, fun hw => ?_, fun _ p o hp hd => ?_⟩
      · rw [r.length] at hw
        rw [cut_whole hw] at h
        refine h ι H _ (Ext.refl _ _) S ?_
        simp only [PD, Rp]
        exact ⟨a, xs, rfl, hq, r⟩
      · obtain ⟨x, S', r'⟩ := S.newTup hp hd (r.cut l u)
        exact h ι _ _ x S' r'
    · exact h.elim) h
theorem gl_sl (ha : PE X a (tD X.K E ma)) (hl : PO X lo (tPt X.K E ml)) (hu : PO X hi (tPt X.K E mh)) : PE X (.Subscript a (.Slice lo hi none p2) pos) (tLs X.K E (sl3 sliceL ma ml mh)) :=
  PE.wk (pe_slice sl_list ha hl hu) fun σ H Q h => tX.sl carry_D (fun ι H₀ H st x d l u Q S hx r h => by
    obtain ⟨n, ds, rfl, e, h⟩ := readL_inv (wp_bnd h)
    obtain ⟨p, rfl, hp⟩ := Rp.ref_inv r
    obtain ⟨xs, h1, h2⟩ := S.lst hp e
    refine ⟨p, xs, rfl, SqL.of h1, fun q hq => ?_⟩
    obtain ⟨x, S', r'⟩ := S.newLst hx hq (h2.cut l u)
    exact h ι _ _ x S' r') h
end

/-! ### + and * of tuples and lists -/
def catT : D → D → M D := fun a b st => match a, b with
  | .tup a, .tup b => if a.length + b.length ≤ line then .ok (.tup (a ++ b)) st else .no
  | _, _ => .no
def catL : List D → List D → M (List D) := fun a b st => if a.length + b.length ≤ line then .ok (a ++ b) st else .no
def repL : List D → D → M (List D) := fun a k st => match k with
  | .int k => if -(2 ^ 63) ≤ k ∧ k < 2 ^ 63 ∧ a.length * k.toNat ≤ line then .ok (List.replicate k.toNat a).flatten st else .no
  | _ => .no
/-- a list of the store, as an operand -/
def PRs (K : PySem.W.Frag) (ι : List Addr) (_ : Hp) (H : Hp) (v : V) (ds : List D) : Prop := Rdl K ι H v ds
section
variable {X : Cx} {E : ExW} {a b : Expr} {pos : Pos} {m m2 : Ev → M (List D)} {ma mb : Ev → M D}
theorem ge_catT (ha : PE X a (tD X.K E ma)) (hb : PE X b (tD X.K E mb)) : PE X (.BinOp a .Add b pos) (tD X.K E (bin catT ma mb)) :=
  ge_bin op_catN (fun ι H₀ H st x y d e Q S _ r1 r2 h => by
    unfold catT at h
    split at h
    · split at h
      · rename_i ds es hl
        obtain ⟨a, xs, rfl, hq, r1⟩ := Rp.tup_inv r1
        obtain ⟨b, ys, rfl, hq2, r2⟩ := Rp.tup_inv r2
        refine ⟨a, b, xs, ys, rfl, rfl, hq.to, hq2.to, by rw [r1.length, r2.length, line_eq]; exact hl, fun e => ?_, fun e1 e => ?_, fun _ _ p o hp hd => ?_⟩
        · have q := r1.length
          rw [e] at q
          have q : ds = [] := List.length_eq_zero_iff.mp q.symm
          subst q
          refine h ι H _ (Ext.refl _ _) S ?_
          simp only [PD, Rp]
          exact ⟨b, ys, rfl, hq2, r2⟩
        · have q := r2.length
          rw [e] at q
          have q : es = [] := List.length_eq_zero_iff.mp q.symm
          subst q
          refine h ι H _ (Ext.refl _ _) S ?_
          simp only [PD, Rp]
          rw [List.append_nil]
          exact ⟨a, xs, rfl, hq, r1⟩
        · obtain ⟨x, S', r'⟩ := S.newTup hp hd (r1.append r2)
          exact h ι _ _ x S' r'
      · exact h.elim
    · exact h.elim) carry_D old_D ha hb
theorem g2_cat {K : PySem.W.Frag} {P₁ P₂ : List Addr → Hp → Hp → V → List D → Prop} (h1 : ∀ ι H₀ H v d, P₁ ι H₀ H v d → Rdl K ι H v d) (h2 : ∀ ι H₀ H v d, P₂ ι H₀ H v d → Rdl K ι H v d) : G2 K E P₁ P₂ (PLs K) rCat catL := fun ι H₀ H st x y d e Q S hx r1 r2 h => by
  unfold catL at h
  split at h
  · rename_i hl
    obtain ⟨a, xs, rfl, q1, r1⟩ := h1 _ _ _ _ _ r1
    obtain ⟨b, ys, rfl, q2, r2⟩ := h2 _ _ _ _ _ r2
    refine ⟨a, b, xs, ys, rfl, rfl, q1, q2, by rw [r1.length, r2.length, line_eq]; exact hl, fun p hp => ?_⟩
    obtain ⟨x, S', r'⟩ := S.newLst hx hp (r1.append r2)
    exact h ι _ _ x S' r'
  · exact h.elim
/-- fresh list + list -/
theorem gl_cat (ha : PE X a (tLs X.K E m)) (hb : PE X b (tRl X.K E m2)) : PE X (.BinOp a .Add b pos) (tLs X.K E (bin catL m m2)) :=
  ge_bin op_cat (g2_cat (fun _ _ _ _ _ r => r.rdl) (fun _ _ _ _ _ r => r)) carry_Ls old_Rl ha hb
/-- list of the store + list -/
def catVL : D → List D → M (List D) := fun d b => bnd (readL d) fun a => catL a b
theorem gl_catV (ha : PE X a (tD X.K E ma)) (hb : PE X b (tRl X.K E m2)) : PE X (.BinOp a .Add b pos) (tLs X.K E (bin catVL ma m2)) :=
  ge_bin op_cat (fun ι H₀ H st x y d e Q S hx r1 r2 h => by
    obtain ⟨n, ds, rfl, e1, h⟩ := readL_inv (wp_bnd h)
    obtain ⟨p, rfl, hp⟩ := Rp.ref_inv r1
    obtain ⟨xs, h1, h2⟩ := S.lst hp e1
    exact g2_cat (P₁ := PRl X.K) (P₂ := PRl X.K) (fun _ _ _ _ _ r => r) (fun _ _ _ _ _ r => r) ι H₀ H st _ y ds e Q S hx ⟨p, xs, rfl, h1, h2⟩ r2 h) carry_D old_Rl ha hb
theorem gl_rep (ha : PE X a (tLs X.K E m)) (hb : PE X b (tD X.K E mb)) : PE X (.BinOp a .Mult b pos) (tLs X.K E (bin repL m mb)) :=
  ge_bin op_rep (fun ι H₀ H st x y d e Q S hx r1 r2 h => by
    unfold repL at h
    split at h
    · split at h
      · rename_i k hl
        obtain ⟨p, xs, rfl, q1, _, _, r1⟩ := r1
        refine ⟨p, k, xs, rfl, Rp.int_inv r2, q1, hl.1, hl.2.1, by rw [r1.length, line_eq]; exact hl.2.2, fun q hq => ?_⟩
        obtain ⟨x, S', r'⟩ := S.newLst hx hq (r1.rep k.toNat)
        exact h ι _ _ x S' r'
      · exact h.elim
    · exact h.elim) carry_Ls old_D ha hb
end
end L3
set_option maxHeartbeats 4000000
/-! L3d: equality of data, membership, isinstance, methods of lists. -/
namespace L3
open PySem L2

/-! ### data without references -/
mutual
def pd : D → Option PyData
  | .non => some .none
  | .bl b => some (.bool b)
  | .int i => some (.int i)
  | .str x => some (.str x)
  | .tup ds => (pdL ds).map .tuple
  | .frl ds => (pdL ds).map .list
  | .ref _ => none
  | .con _ => none
  | .ty _ => none
def pdL : List D → Option (List PyData)
  | [] => some []
  | d :: ds => match pd d, pdL ds with
    | some x, some r => some (x :: r)
    | _, _ => none
end
section
variable {K : PySem.W.Frag} {ι : List Addr} {H : Hp}
mutual
theorem Rp.dp : ∀ {d : D} {x : PyData} {v : V}, Rp K ι H v d → pd d = some x → Dp K H v x
  | .non, _, _, h, e => by
    simp only [Rp] at h; simp only [pd, Option.some.injEq] at e
    subst h e; exact .non
  | .bl _, _, _, h, e => by
    simp only [Rp] at h; simp only [pd, Option.some.injEq] at e
    subst h e; exact .bl _
  | .int _, _, _, h, e => by
    simp only [Rp] at h; simp only [pd, Option.some.injEq] at e
    subst h e; exact .int _
  | .str _, _, _, h, e => by
    simp only [Rp] at h; simp only [pd, Option.some.injEq] at e
    subst h e; exact .str _
  | .tup ds, _, _, h, e => by
    simp only [Rp] at h; simp only [pd, Option.map_eq_some_iff] at e
    obtain ⟨a, xs, rfl, q, r⟩ := h
    obtain ⟨ys, e, rfl⟩ := e
    exact .tup q.to (RpL.dp r e)
  | .frl ds, _, _, h, e => by
    simp only [Rp] at h; simp only [pd, Option.map_eq_some_iff] at e
    obtain ⟨a, xs, rfl, q, r⟩ := h
    obtain ⟨ys, e, rfl⟩ := e
    exact .lst q.to (RpL.dp r e)
  | .ref _, _, _, _, e => by simp [pd] at e
  | .con _, _, _, _, e => by simp [pd] at e
  | .ty _, _, _, _, e => by simp [pd] at e
theorem RpL.dp : ∀ {ds : List D} {xs : List PyData} {vs : List V}, RpL K ι H vs ds → pdL ds = some xs → DpAll K H vs xs
  | [], _, _, h, e => by
    simp only [RpL] at h; simp only [pdL, Option.some.injEq] at e
    subst h e; exact .nil
  | d :: ds, _, _, h, e => by
    simp only [RpL] at h
    obtain ⟨v, r, rfl, h1, h2⟩ := h
    rw [pdL] at e
    split at e
    · rename_i x r e1 e2
      cases e
      exact .cons (Rp.dp h1 e1) (RpL.dp h2 e2)
    · cases e
end
end
/-- a == b -/
def eqD : D → D → M D := fun a b st => match pd a, pd b with
  | some x, some y => if (SeqAt.shaped x && SeqAt.shaped y) = true then .ok (.bl (PyData.eqv x y)) st else .no
  | _, _ => .no
def neD : D → D → M D := fun a b st => match pd a, pd b with
  | some x, some y => if (SeqAt.shaped x && SeqAt.shaped y) = true then .ok (.bl (!PyData.eqv x y)) st else .no
  | _, _ => .no
/-- .. of lists, by their items -/
def eqLs : List D → List D → M D := fun a b st => match pdL a, pdL b with
  | some x, some y => if (SeqAt.shaped (.list x) && SeqAt.shaped (.list y)) = true then .ok (.bl (PyData.eqv (.list x) (.list y))) st else .no
  | _, _ => .no
def neLs : List D → List D → M D := fun a b st => match pdL a, pdL b with
  | some x, some y => if (SeqAt.shaped (.list x) && SeqAt.shaped (.list y)) = true then .ok (.bl (!PyData.eqv (.list x) (.list y))) st else .no
  | _, _ => .no
section
variable {X : Cx} {E : ExW}
theorem c_eq (hu : X.A.units + 64 < cLine) : CmpG X E .Eq (PD X.K) (PD X.K) eqD := ⟨carry_D, old_D, _, op_eqD hu, fun ι H₀ H st x y a b Q S _ r1 r2 h => by
  unfold eqD at h
  split at h
  · split at h
    · rename_i p q e1 e2 hs
      rw [Bool.and_eq_true] at hs
      exact ⟨p, q, Rp.dp r1 e1, Rp.dp r2 e2, hs.1, hs.2, h ι H _ (Ext.refl _ _) S Rp.mkBl⟩
    · exact h.elim
  · exact h.elim⟩
theorem c_ne (hu : X.A.units + 64 < cLine) : CmpG X E .NotEq (PD X.K) (PD X.K) neD := ⟨carry_D, old_D, _, op_neD hu, fun ι H₀ H st x y a b Q S _ r1 r2 h => by
  unfold neD at h
  split at h
  · split at h
    · rename_i p q e1 e2 hs
      rw [Bool.and_eq_true] at hs
      exact ⟨p, q, Rp.dp r1 e1, Rp.dp r2 e2, hs.1, hs.2, h ι H _ (Ext.refl _ _) S Rp.mkBl⟩
    · exact h.elim
  · exact h.elim⟩
theorem Rdl.dp {K : PySem.W.Frag} {ι : List Addr} {H : Hp} {v : V} {ds : List D} {xs : List PyData} (r : Rdl K ι H v ds) (e : pdL ds = some xs) : Dp K H v (.list xs) := by
  obtain ⟨a, vs, rfl, h, r⟩ := r
  exact .lst (SqL.of h) (r.dp e)
/-- lists: P₁, P₂ of PLs, PRl; a list of the store first: by readL -/
theorem c_eqL (hu : X.A.units + 64 < cLine) {P₁ P₂ : List Addr → Hp → Hp → V → List D → Prop} (c1 : Carry X.K P₁) (o2 : Older P₂) (h1 : ∀ ι H₀ H v d, P₁ ι H₀ H v d → Rdl X.K ι H v d) (h2 : ∀ ι H₀ H v d, P₂ ι H₀ H v d → Rdl X.K ι H v d) : CmpG X E .Eq P₁ P₂ eqLs :=
  ⟨c1, o2, _, op_eqD hu, fun ι H₀ H st x y a b Q S _ r1 r2 h => by
    unfold eqLs at h
    split at h
    · split at h
      · rename_i p q e1 e2 hs
        rw [Bool.and_eq_true] at hs
        exact ⟨.list p, .list q, (h1 _ _ _ _ _ r1).dp e1, (h2 _ _ _ _ _ r2).dp e2, hs.1, hs.2, h ι H _ (Ext.refl _ _) S Rp.mkBl⟩
      · exact h.elim
    · exact h.elim⟩
theorem c_neL (hu : X.A.units + 64 < cLine) {P₁ P₂ : List Addr → Hp → Hp → V → List D → Prop} (c1 : Carry X.K P₁) (o2 : Older P₂) (h1 : ∀ ι H₀ H v d, P₁ ι H₀ H v d → Rdl X.K ι H v d) (h2 : ∀ ι H₀ H v d, P₂ ι H₀ H v d → Rdl X.K ι H v d) : CmpG X E .NotEq P₁ P₂ neLs :=
  ⟨c1, o2, _, op_neD hu, fun ι H₀ H st x y a b Q S _ r1 r2 h => by
    unfold neLs at h
    split at h
    · split at h
      · rename_i p q e1 e2 hs
        rw [Bool.and_eq_true] at hs
        exact ⟨.list p, .list q, (h1 _ _ _ _ _ r1).dp e1, (h2 _ _ _ _ _ r2).dp e2, hs.1, hs.2, h ι H _ (Ext.refl _ _) S Rp.mkBl⟩
      · exact h.elim
    · exact h.elim⟩
theorem c_eqTT (hu : X.A.units + 64 < cLine) : CmpG X E .Eq (PLs X.K) (PLs X.K) eqLs := c_eqL hu carry_Ls old_Ls (fun _ _ _ _ _ r => r.rdl) fun _ _ _ _ _ r => r.rdl
theorem c_neTT (hu : X.A.units + 64 < cLine) : CmpG X E .NotEq (PLs X.K) (PLs X.K) neLs := c_neL hu carry_Ls old_Ls (fun _ _ _ _ _ r => r.rdl) fun _ _ _ _ _ r => r.rdl
/-- a list of the store against a list -/
def viaL {α : Type} (g : List D → α → M D) : D → α → M D := fun d b => bnd (readL d) fun a => g a b
theorem CmpG.via {op : CmpOp} {P₂ : List Addr → Hp → Hp → V → List D → Prop} {g : List D → List D → M D} (h : ∃ r, OpR X (compareOp op) r ∧ G2 X.K E (PRl X.K) P₂ (PD X.K) r g) (o2 : Older P₂) : CmpG X E op (PD X.K) P₂ (viaL g) := by
  obtain ⟨r, ho, hg⟩ := h
  refine ⟨carry_D, o2, r, ho, fun ι H₀ H st x y a b Q S hx r1 r2 h => ?_⟩
  obtain ⟨n, ds, rfl, e, h⟩ := readL_inv (wp_bnd h)
  obtain ⟨p, rfl, hp⟩ := Rp.ref_inv r1
  obtain ⟨xs, h1, h2⟩ := S.lst hp e
  exact hg ι H₀ H st _ y ds b Q S hx ⟨p, xs, rfl, h1, h2⟩ r2 h
theorem c_eqVT (hu : X.A.units + 64 < cLine) : CmpG X E .Eq (PD X.K) (PRl X.K) (viaL eqLs) := CmpG.via ⟨_, op_eqD hu, fun ι H₀ H st x y a b Q S _ r1 r2 h => by
    unfold eqLs at h
    split at h
    · split at h
      · rename_i p q e1 e2 hs
        rw [Bool.and_eq_true] at hs
        exact ⟨.list p, .list q, Rdl.dp r1 e1, Rdl.dp r2 e2, hs.1, hs.2, h ι H _ (Ext.refl _ _) S Rp.mkBl⟩
      · exact h.elim
    · exact h.elim⟩ old_Rl
theorem c_neVT (hu : X.A.units + 64 < cLine) : CmpG X E .NotEq (PD X.K) (PRl X.K) (viaL neLs) := CmpG.via ⟨_, op_neD hu, fun ι H₀ H st x y a b Q S _ r1 r2 h => by
    unfold neLs at h
    split at h
    · split at h
      · rename_i p q e1 e2 hs
        rw [Bool.and_eq_true] at hs
        exact ⟨.list p, .list q, Rdl.dp r1 e1, Rdl.dp r2 e2, hs.1, hs.2, h ι H _ (Ext.refl _ _) S Rp.mkBl⟩
      · exact h.elim
    · exact h.elim⟩ old_Rl

/-! ### x in xs -/
open PyProof.Rows in
/-- x in a list or a tuple, data of any depth -/
def rInQ (K : PySem.W.Frag) (neg : Bool) : R2 := fun x y H Q => ∃ p vs d ds, y = .ref p ∧ (SqL K H p vs ∨ SqT K H p vs) ∧ DpAll K H vs ds ∧ Dp K H x d ∧ SeqAt.shaped d = true ∧ SeqAt.shaped (.list ds) = true ∧ Q (.bl (if neg then !(ds.any fun z => PyData.eqv z d) else ds.any fun z => PyData.eqv z d)) H
theorem op_inQ (hu : X.A.units + 65 < cLine) : OpR X (compareOp .In) (rInQ X.K false) := by
  intro pins s σ H x y v u Q I rx ry h
  obtain ⟨p, vs, d, ds, rfl, hq, ha, hd, sd, se, q⟩ := h
  obtain ⟨as, r1⟩ := Dp.reads I d x v hd rx
  rcases hq with hq | hq
  · obtain ⟨bs, r2⟩ := Dp.reads I (.list ds) _ u (.lst hq ha) ry
    exact SeqAt.in_list_reads r2 r1 (SeqAt.canLay_of_shaped se) (SeqAt.canLay_of_shaped sd) (PyProof.Rows.room_in_shaped sd hu) ⟨.bl _, H, I, rfl, q⟩
  · obtain ⟨bs, r2⟩ := Dp.reads I (.tuple ds) _ u (.tup hq ha) ry
    exact SeqAt.in_tuple_reads r2 r1 (SeqAt.canLay_of_shaped se) (SeqAt.canLay_of_shaped sd) (PyProof.Rows.room_in_shaped sd hu) ⟨.bl _, H, I, rfl, q⟩
theorem op_notInQ (hu : X.A.units + 65 < cLine) : OpR X (compareOp .NotIn) (rInQ X.K true) := by
  intro pins s σ H x y v u Q I rx ry h
  obtain ⟨p, vs, d, ds, rfl, hq, ha, hd, sd, se, q⟩ := h
  obtain ⟨as, r1⟩ := Dp.reads I d x v hd rx
  rcases hq with hq | hq
  · obtain ⟨bs, r2⟩ := Dp.reads I (.list ds) _ u (.lst hq ha) ry
    exact SeqAt.notIn_list_reads r2 r1 (SeqAt.canLay_of_shaped se) (SeqAt.canLay_of_shaped sd) (PyProof.Rows.room_in_shaped sd hu) ⟨.bl _, H, I, rfl, q⟩
  · obtain ⟨bs, r2⟩ := Dp.reads I (.tuple ds) _ u (.tup hq ha) ry
    exact SeqAt.notIn_tuple_reads r2 r1 (SeqAt.canLay_of_shaped se) (SeqAt.canLay_of_shaped sd) (PyProof.Rows.room_in_shaped sd hu) ⟨.bl _, H, I, rfl, q⟩
end
def inQ : D → List D → M D := fun x ds st => match pd x, pdL ds with
  | some d, some es => if (SeqAt.shaped d && SeqAt.shaped (.list es)) = true then .ok (.bl (es.any fun z => PyData.eqv z d)) st else .no
  | _, _ => .no
def notInQ : D → List D → M D := fun x ds st => match pd x, pdL ds with
  | some d, some es => if (SeqAt.shaped d && SeqAt.shaped (.list es)) = true then .ok (.bl (!(es.any fun z => PyData.eqv z d))) st else .no
  | _, _ => .no
section
variable {X : Cx} {E : ExW}
theorem c_in (hu : X.A.units + 65 < cLine) : CmpG X E .In (PD X.K) (PQ X.K) inQ := ⟨carry_D, old_Q, _, op_inQ hu, fun ι H₀ H st x y a b Q S _ r1 r2 h => by
  unfold inQ at h
  split at h
  · split at h
    · rename_i p q e1 e2 hs
      rw [Bool.and_eq_true] at hs
      obtain ⟨b, vs, rfl, hq, r2⟩ := r2
      exact ⟨b, vs, p, q, rfl, hq.imp id SqTι.to, r2.dp e2, Rp.dp r1 e1, hs.1, hs.2, h ι H _ (Ext.refl _ _) S Rp.mkBl⟩
    · exact h.elim
  · exact h.elim⟩
theorem c_notIn (hu : X.A.units + 65 < cLine) : CmpG X E .NotIn (PD X.K) (PQ X.K) notInQ := ⟨carry_D, old_Q, _, op_notInQ hu, fun ι H₀ H st x y a b Q S _ r1 r2 h => by
  unfold notInQ at h
  split at h
  · split at h
    · rename_i p q e1 e2 hs
      rw [Bool.and_eq_true] at hs
      obtain ⟨b, vs, rfl, hq, r2⟩ := r2
      exact ⟨b, vs, p, q, rfl, hq.imp id SqTι.to, r2.dp e2, Rp.dp r1 e1, hs.1, hs.2, h ι H _ (Ext.refl _ _) S Rp.mkBl⟩
    · exact h.elim
  · exact h.elim⟩
end

/-! ### isinstance -/
/-- the built-in type of a value -/
def tyOf (st : Store) : D → Option String
  | .non => some "NoneType"
  | .bl _ => some "bool"
  | .int _ => some "int"
  | .str _ => some "str"
  | .tup _ => some "tuple"
  | .frl _ => some "list"
  | .ref n => match st[n]? with
    | some (.lst _) => some "list"
    | some (.dT _) => some "dict"
    | some (.dK _) => some "dict"
    | none => none
  | .con _ => none
  | .ty _ => none
/-- the answer for the types that are asked of here: nothing but "bool is an int" -/
def kit2 (a b : String) : Bool := a == b || (a == "bool" && b == "int")
def isTyps : List String := ["NoneType", "bool", "int", "str", "tuple", "list", "dict"]
theorem kit2_ok : ∀ a ∈ isTyps, ∀ b ∈ ["bool", "int", "str", "tuple", "list", "dict"], kitB a b = some (kit2 a b) := by decide +kernel
theorem tyOf_mem {st : Store} {d : D} {t : String} (h : tyOf st d = some t) : t ∈ isTyps := by
  cases d with
  | ref n =>
    simp only [tyOf] at h
    split at h <;> simp_all [isTyps]
  | _ => simp_all [tyOf, isTyps]
theorem RelS.tyx {K : PySem.W.Frag} {ι : List Addr} {H : Hp} {st : Store} (S : RelS K ι H st) {v : V} {d : D} {t : String} (r : Rp K ι H v d) (h : tyOf st d = some t) : TyX K H v (.type t) := by
  cases d with
  | non => simp only [tyOf, Option.some.injEq] at h; simp only [Rp] at r; subst h r; exact .base .non
  | bl b => simp only [tyOf, Option.some.injEq] at h; simp only [Rp] at r; subst h r; exact .base (.bl _)
  | int b => simp only [tyOf, Option.some.injEq] at h; simp only [Rp] at r; subst h r; exact .base (.int _)
  | str b => simp only [tyOf, Option.some.injEq] at h; simp only [Rp] at r; subst h r; exact .base (.str _)
  | tup ds =>
    simp only [tyOf, Option.some.injEq] at h; subst h
    obtain ⟨a, xs, rfl, q, _⟩ := Rp.tup_inv r
    rcases q with ⟨o, q, _⟩ | ⟨o, its, n, h1, h2, _⟩
    · exact .fTuple q
    · exact .kTuple h1 h2
  | frl ds =>
    simp only [tyOf, Option.some.injEq] at h; subst h
    obtain ⟨a, xs, rfl, q, _⟩ := Rp.frl_inv r
    rcases q with ⟨o, q, _⟩ | ⟨o, its, n, h1, h2, _⟩
    · exact .base (.frz q)
    · exact .kList h1 h2
  | ref n =>
    obtain ⟨a, rfl, hp⟩ := Rp.ref_inv r
    obtain ⟨o, ho, q⟩ := S.obj hp
    simp only [tyOf, ho] at h
    cases o with
    | lst ds => simp only [Option.some.injEq] at h; subst h; obtain ⟨xs, q, _⟩ := q; exact .base (.lst q)
    | dT ds => simp only [Option.some.injEq] at h; subst h; obtain ⟨xs, q, _⟩ := q; exact .base (.dT q)
    | dK ds => simp only [Option.some.injEq] at h; subst h; obtain ⟨xs, q, _⟩ := q; exact .base (.dK q)
  | con a => simp [tyOf] at h
  | ty a => simp [tyOf] at h
def okTy (t : String) : Bool := t == "bool" || t == "int" || t == "str" || t == "tuple" || t == "list" || t == "dict"
theorem okTy_mem {t : String} (h : okTy t = true) : t ∈ ["bool", "int", "str", "tuple", "list", "dict"] := by
  simp only [okTy, Bool.or_eq_true, beq_iff_eq] at h
  simp
  rcases h with ((((h | h) | h) | h) | h) | h <;> simp [h]
def isiV : D → D → M D := fun x c st => match c with
  | .ty t => match tyOf st x with
    | some s => if okTy t = true then .ok (.bl (kit2 s t)) st else .no
    | none => .no
  | _ => .no
section
variable {X : Cx} {E : ExW}
theorem k_isi : CallG2 X E (.builtin "isinstance") (PD X.K) (PD X.K) (PD X.K) isiV := ⟨carry_D, old_D, _, call_isi, fun ι H₀ H st x y a b Q S _ r1 r2 h => by
  unfold isiV at h
  split at h
  · rename_i t
    split at h
    · rename_i s e
      split at h
      · rename_i ht
        have r2 : y = .ty t := by simpa only [PD, Rp] using r2
        subst r2
        exact ⟨x, .ty t, .type s, .type t, kit2 s t, rfl, .ty t, S.tyx r1 e, kit_ty (kit2_ok s (tyOf_mem e) t (okTy_mem ht)), h ι H _ (Ext.refl _ _) S Rp.mkBl⟩
      · exact h.elim
    · exact h.elim
  · exact h.elim⟩
end
/-- isinstance(x, (T1, T2)) -/
def isi2 (t1 t2 : String) : D → M D := fun x st => match tyOf st x with
  | some s => if (okTy t1 && okTy t2) = true then .ok (.bl (kit2 s t1 || kit2 s t2)) st else .no
  | none => .no
section
variable {X : Cx} {E : ExW} {a : Expr} {ma : Ev → M D} {x : Str} {p pos : Pos}
theorem ge_isi2 {t1 t2 : String} {es : List Expr} {k : Nat} {pt : Pos} (hg : Gl X x) (hm : X.mg x = none) (hv : bootBuiltins x = some (.builtin "isinstance")) (ha : PE X a (tD X.K E ma))
    (ht : PE X (.Tuple es k pt) (tTup (tCons (tC (.ty t1)) (tCons (tC (.ty t2)) tNil)))) (hn : x ≠ "__name__" := by decide) (hdb : (x == ("__debug__" : Str)) = false := by decide)
    (he : starEach [a, .Tuple es k pt] X.env = (false, eval a X.env) :: starEach [.Tuple es k pt] X.env := by rfl) (he2 : starEach [.Tuple es k pt] X.env = (false, eval (.Tuple es k pt) X.env) :: starEach [] X.env := by rfl) (hpl : (backTo pos (starEach [.Tuple es k pt] X.env)).any (·.1) = false := by rfl) :
    PE X (.Call (.Name x p) [a, .Tuple es k pt] [] pos) (tD X.K E (un1 (isi2 t1 t2) ma)) := by
  refine PE.wk (pe_callB call_isiT hg hm hv (pa_cons ha (pa_cons ht pa_nil he2) he) hn hdb he hpl) fun σ H Q h => ?_
  obtain ⟨ι, env, st, R, h⟩ := h
  refine ⟨ι, env, st, R, wp_mono (wp_bnd h) fun d st1 h1 ι1 H1 v x1 S1 r1 => ?_⟩
  refine ⟨by show 2 ≤ sizeLine; rw [sizeLine_eq]; decide, fun q hq => ?_⟩
  unfold isi2 at h1
  split at h1
  · rename_i s e
    split at h1
    · rename_i ht
      rw [Bool.and_eq_true] at ht
      have xx : Ext ι1 H1 ι1 (upd H1 q (.tup [.ty t1, .ty t2])) := Ext.upd hq
      have S2 := S1.grow (o := .tup [.ty t1, .ty t2]) hq
      refine ⟨v, q, [.ty t1, .ty t2], .type s, [.type t1, .type t2], kit2 s t1 || kit2 s t2, rfl, upd_same, .cons (.ty _) (.cons (.ty _) .nil), S2.tyx (xx.rp r1) e, ?_, h1 ι1 _ _ (x1.trans xx) S2 Rp.mkBl⟩
      have k1 : PySem.W.kitOne X.K (.type s) (.type t1) = some (kit2 s t1) := kit_ty (kit2_ok s (tyOf_mem e) t1 (okTy_mem ht.1))
      have k2 : PySem.W.kitOne X.K (.type s) (.type t2) = some (kit2 s t2) := kit_ty (kit2_ok s (tyOf_mem e) t2 (okTy_mem ht.2))
      refine kitAny_cons k1 (fun z => ?_) fun z => by rw [z]; rfl
      refine kitAny_cons (b := kit2 s t2) k2 (fun y => ?_) fun y => by rw [z, y]; rfl
      rw [z, y]
      exact kitAny_nil
    · exact h1.elim
  · exact h1.elim
end

/-! ### methods of lists -/
def setL (n : Nat) (ds : List D) : Store → Store := fun st => st.set n (.lst ds)
/-- xs.append(y) -/
def appendM : D → D → M D := fun x y st => match x with
  | .ref n => match st[n]? with
    | some (.lst ds) => if ds.length < line then .ok .non (st.set n (.lst (ds ++ [y]))) else .no
    | _ => .no
  | _ => .no
/-- xs.pop(i) -/
def popAtM : D → D → M D := fun x i st => match x, i with
  | .ref n, .int i => match st[n]? with
    | some (.lst ds) => if -(2 ^ 63) ≤ i ∧ i < 2 ^ 63 then match seqIndex? i ds.length with
      | some k => match ds[k]? with
        | some d => .ok d (st.set n (.lst (ds.eraseIdx k)))
        | none => .no
      | none => .no
      else .no
    | _ => .no
  | _, _ => .no
/-- xs.extend(ys), ys a fresh list -/
def extendM : D → List D → M D := fun x ys st => match x with
  | .ref n => match st[n]? with
    | some (.lst ds) => if ds.length + ys.length ≤ line then .ok .non (st.set n (.lst (ds ++ ys))) else .no
    | _ => .no
  | _ => .no
/-- xs.remove(k), ints -/
def removeM : D → D → M D := fun x y st => match x, y with
  | .ref n, .int k => match st[n]? with
    | some (.lst ds) => match intsOf ds with
      | some ns => if k ∈ ns then .ok .non (st.set n (.lst ((ns.erase k).map D.int))) else .no
      | none => .no
    | _ => .no
  | _, _ => .no
/-- o.m(e) of a list of the store: first the list is looked at, then the argument is made -/
def metM {β γ : Type} (g : D → β → M γ) (mo : Ev → M D) (mb : Ev → M β) : Ev → M γ := fun env => bnd (mo env) fun o => bnd (readL o) fun _ => bnd (mb env) fun b => g o b
def MtG {β γ : Type} (X : Cx) (E : ExW) (id : String) (P₂ : List Addr → Hp → Hp → V → β → Prop) (P₃ : List Addr → Hp → Hp → V → γ → Prop) (g : D → β → M γ) : Prop := Older P₂ ∧ ∃ r, MtR X id r ∧ G2 X.K E (PD X.K) P₂ P₃ (fun x y H Q => r x [y] H Q) g
theorem ge_met {X : Cx} {E : ExW} {β γ : Type} {P₂ : List Addr → Hp → Hp → V → β → Prop} {P₃ : List Addr → Hp → Hp → V → γ → Prop} {g : D → β → M γ} {id : String} {name : Str} {o e : Expr} {apos cpos : Pos} {mo : Ev → M D} {mb : Ev → M β} (slot : Slot "list" name id) (hty : typeOf (.builtin id) = pure (.type "method_descriptor")) (hm : MtG X E id P₂ P₃ g)
    (ho : PE X o (tD X.K E mo)) (he : PE X e (tX X.K E P₂ mb))
    (hbase : attributeBase o name X.env (eval o X.env) = eval o X.env := by rfl)
    (hfew : ((backTo cpos (starEach [e] X.env)).all (fun x => !x.1) && (backToKw cpos (keywordEach [] X.env)).all (fun x => x.1.isSome)
      && decide (([e] : List Expr).length + ([] : List Keyword).length + (if ([] : List Keyword).isEmpty then 0 else 1) < 30)) = true := by rfl)
    (hline : (apos.endLine == cpos.line) = true := by rfl) (hs : starEach [e] X.env = (false, eval e X.env) :: starEach [] X.env := by rfl) (hplain : (backTo cpos (starEach [] X.env)).any (·.1) = false := by rfl) :
    PE X (.Call (.Attribute o name apos) [e] [] cpos) (tX X.K E P₃ (metM g mo mb)) := by
  obtain ⟨o2, r, hr, h2⟩ := hm
  refine PE.wk (pe_bm PySem.F.plainAttrs_list slot hty hr ho (pa_cons he pa_nil hs) hbase hfew hline hs hplain) fun σ H Q h => ?_
  obtain ⟨ι, env, st, R, h⟩ := h
  refine ⟨ι, env, st, R, wp_mono (wp_bnd h) fun d st1 h1 ι1 H1 v x1 S1 r1 => ?_⟩
  obtain ⟨n, ds, rfl, e1, h1⟩ := readL_inv (wp_bnd h1)
  obtain ⟨p, rfl, hp⟩ := Rp.ref_inv r1
  obtain ⟨xs, q1, q2⟩ := S1.lst hp e1
  refine ⟨.inl ⟨rfl, xs, SqL.of q1⟩, ι1, env, st1, R.to x1 S1, wp_mono (wp_bnd h1) fun b st2 h2' ι2 H2 y x2 S2 r2 => ?_⟩
  exact h2 ι2 H H2 st2 _ y _ b Q S2 ⟨ι, x1.trans x2⟩ (x2.rp r1) (o2 _ _ _ _ _ _ _ _ x1 x2 r2) (wp_mono h2' fun c st3 h3 ι3 H3 w x3 S3 r3 => h3 ι3 H3 w ((x1.trans x2).trans x3) S3 r3)
section
variable {K : PySem.W.Frag} {ι : List Addr} {H : Hp} {st : Store}
/-- a list of the store gets new items -/
theorem RelS.setLst (S : RelS K ι H st) {n : Nat} {a : Addr} {xs : List V} {ds : List D} (h : ι[n]? = some a) (r : RpL K ι H xs ds) : Ext ι H ι (upd H a (.lst xs)) ∧ RelS K ι (upd H a (.lst xs)) (st.set n (.lst ds)) := by
  have x : Ext ι H ι (upd H a (.lst xs)) := Ext.set h
  exact ⟨x, S.set h ⟨xs, upd_same, x.rpl r⟩⟩
end
section
variable {X : Cx} {E : ExW}
theorem m_append : MtG X E "list.append" (PD X.K) (PD X.K) appendM := ⟨old_D, _, mt_append, fun ι H₀ H st x y a b Q S _ r1 r2 h => by
  unfold appendM at h
  split at h
  · split at h
    · rename_i n _ ds e
      split at h
      · rename_i hl
        obtain ⟨p, rfl, hp⟩ := Rp.ref_inv r1
        obtain ⟨xs, q1, q2⟩ := S.lst hp e
        refine ⟨p, xs, y, rfl, rfl, q1, by rw [q2.length, line_eq]; exact hl, ?_⟩
        obtain ⟨xx, S'⟩ := S.setLst hp (q2.append (RpL.cons r2 RpL.nil))
        exact h ι _ _ xx S' Rp.mkNon
      · exact h.elim
    · exact h.elim
  · exact h.elim⟩
theorem m_popAt : MtG X E "list.pop" (PD X.K) (PD X.K) popAtM := ⟨old_D, _, mt_popAt, fun ι H₀ H st x y a b Q S _ r1 r2 h => by
  unfold popAtM at h
  split at h
  · rename_i n i
    split at h
    · rename_i ds e
      split at h
      · rename_i hl
        split at h
        · rename_i k hk
          split at h
          · rename_i d hd
            obtain ⟨p, rfl, hp⟩ := Rp.ref_inv r1
            obtain ⟨xs, q1, q2⟩ := S.lst hp e
            obtain ⟨v, hv, rv⟩ := q2.get hd
            refine ⟨p, xs, i, k, v, rfl, by rw [Rp.int_inv r2], q1, hl.1, hl.2, by rw [q2.length]; exact hk, hv, ?_⟩
            obtain ⟨xx, S'⟩ := S.setLst hp (q2.eraseIdx k)
            exact h ι _ _ xx S' (xx.rp rv)
          · exact h.elim
        · exact h.elim
      · exact h.elim
    · exact h.elim
  · exact h.elim⟩
theorem m_extend : MtG X E "list.extend" (PRl X.K) (PD X.K) extendM := ⟨old_Rl, _, mt_extend, fun ι H₀ H st x y a b Q S _ r1 r2 h => by
  unfold extendM at h
  split at h
  · split at h
    · rename_i n _ ds e
      split at h
      · rename_i hl
        obtain ⟨p, rfl, hp⟩ := Rp.ref_inv r1
        obtain ⟨xs, q1, q2⟩ := S.lst hp e
        obtain ⟨p2, ys, rfl, q3, q4⟩ := r2
        refine ⟨p, p2, xs, ys, rfl, rfl, q1, q3, by rw [q2.length, q4.length, line_eq]; exact hl, ?_⟩
        obtain ⟨xx, S'⟩ := S.setLst hp (q2.append q4)
        exact h ι _ _ xx S' Rp.mkNon
      · exact h.elim
    · exact h.elim
  · exact h.elim⟩
theorem intsOf_map : ∀ {ds : List D} {ns : List Int}, intsOf ds = some ns → ds = ns.map D.int
  | [], _, e => by simp [intsOf] at e; subst e; rfl
  | .int b :: r, _, e => by
    simp only [intsOf, Option.map_eq_some_iff] at e
    obtain ⟨bs, e1, rfl⟩ := e
    rw [intsOf_map e1]; rfl
  | .non :: _, _, e | .bl _ :: _, _, e | .str _ :: _, _, e | .tup _ :: _, _, e | .frl _ :: _, _, e | .ref _ :: _, _, e | .con _ :: _, _, e | .ty _ :: _, _, e => by simp [intsOf] at e
theorem erase_at : ∀ {ns : List Int} {k : Int}, k ∈ ns → ∃ j : Nat, ns[j]? = some k ∧ (∀ m, m < j → ns[m]? ≠ some k) ∧ ns.erase k = ns.eraseIdx j
  | [], _, h => by cases h
  | n :: ns, k, h => by
    by_cases e : n = k
    · subst e
      exact ⟨0, rfl, fun m hm => absurd hm (Nat.not_lt_zero _), by simp⟩
    · have h' : k ∈ ns := by
        rcases List.mem_cons.mp h with q | q
        · exact absurd q.symm e
        · exact q
      obtain ⟨j, h1, h2, h3⟩ := erase_at h'
      refine ⟨j + 1, by simpa using h1, fun m hm => ?_, ?_⟩
      · cases m with
        | zero => simpa using e
        | succ m => simpa using h2 m (by omega)
      · rw [List.erase_cons_tail (by simpa using e), h3]; rfl
end
end L3
set_option maxHeartbeats 4000000
/-! L3e: tuple.index, list.remove; statements, loops, comprehensions, calls of defs. -/
namespace L3
open PySem L2

section
variable {X : Cx} {E : ExW}
theorem m_remove : MtG X E "list.remove" (PD X.K) (PD X.K) removeM := ⟨old_D, _, mt_remove, fun ι H₀ H st x y a b Q S _ r1 r2 h => by
  unfold removeM at h
  split at h
  · rename_i n k
    split at h
    · rename_i ds e
      split at h
      · rename_i ns en
        split at h
        · rename_i hk
          obtain ⟨p, rfl, hp⟩ := Rp.ref_inv r1
          obtain ⟨xs, q1, q2⟩ := S.lst hp e
          rw [q2.intsOf en] at q1
          obtain ⟨j, h1, h2, h3⟩ := erase_at hk
          refine ⟨p, ns, k, j, rfl, by rw [Rp.int_inv r2], q1, h1, h2, ?_⟩
          obtain ⟨xx, S'⟩ := S.setLst hp (RpL.ofInts (K := X.K) (ns.eraseIdx j))
          rw [h3] at h
          exact h ι _ _ xx S' Rp.mkNon
        · exact h.elim
      · exact h.elim
    · exact h.elim
  · exact h.elim⟩

/-! ### t.index(x), t a tuple -/
open PyProof.Rows in
theorem pe_bmT {o e : Expr} {es : List Expr} {to : TE} {t : TA} {name : Str} {apos cpos : Pos} {id : String} {r : V → List V → Hp → VK → Prop} (slot : Slot "tuple" name id) (hty : typeOf (.builtin id) = pure (.type "method_descriptor")) (hm : MtR X id r) (ho : PE X o to) (ha : PA X (e :: es) t)
    (hbase : attributeBase o name X.env (eval o X.env) = eval o X.env)
    (hfew : ((backTo cpos (starEach (e :: es) X.env)).all (fun x => !x.1) && (backToKw cpos (keywordEach [] X.env)).all (fun x => x.1.isSome)
      && decide ((e :: es).length + ([] : List Keyword).length + (if ([] : List Keyword).isEmpty then 0 else 1) < 30)) = true)
    (hline : (apos.endLine == cpos.line) = true) (hs : starEach (e :: es) X.env = (false, eval e X.env) :: starEach es X.env) (hplain : (backTo cpos (starEach es X.env)).any (·.1) = false) :
    PE X (.Call (.Attribute o name apos) (e :: es) [] cpos) (fun σ H Q => to σ H fun x H1 => (∃ ι a xs, x = .ref a ∧ SqTι X.K ι H1 a xs) ∧ t σ H1 fun xs H2 => r x xs H2 Q) := by
  refine ⟨fun pins s σ H Q I h => ?_⟩
  refine wpAny_Call_method_late hbase hfew hline rfl (thn (ho.run pins s σ H _ I h) fun v s1 ⟨x, H1, I1, r1, ty, q1⟩ => ?_)
  obtain ⟨ι, a, xs, rfl, hq⟩ := ty
  cases r1
  have h12 : s1.TypeIs (.ref a) "tuple" ∧ ∀ b, Value.ref a = .ref b → ∃ ob, s1.heap.get? b = some ob ∧ ob.dict = none := by
    rcases hq with ⟨ob, hb, hd, _⟩ | ⟨ob, its, n, h1, h2, hd, _⟩
    · obtain ⟨e1, _, its, _, o', e2, c, _⟩ := I1.hok a _ hb
      rw [e1] at e2; cases e2
      exact ⟨⟨ob, e1, c⟩, fun b eb => by cases eb; exact ⟨ob, e1, hd⟩⟩
    · exact ⟨⟨ob, I1.kIn _ _ h1, h2⟩, fun b eb => by cases eb; exact ⟨ob, I1.kIn _ _ h1, hd⟩⟩
  refine ⟨"tuple", id, PySem.F.plainAttrs_tuple, slot, hty, h12.1, h12.2, ?_⟩
  have hA := ha.run cpos pins s1 σ H1 _ I1 q1
  rw [hs] at hA ⊢
  refine Calls.callWith_builtin (by show (false || (backTo cpos (starEach es X.env)).any (·.1)) = false; rw [hplain] <;> rfl) (Calls.evalArgs_plain ?_)
  exact thn hA fun us s2 ⟨vs, H2, I2, r2, q2⟩ => hm pins s2 σ H2 (V.ref a) vs _ us Q I2 rfl r2 q2
def rTupIx (K : PySem.W.Frag) : V → List V → Hp → VK → Prop := fun x xs H Q => ∃ p, ∃ ns : List Int, ∃ k : Int, ∃ j : Nat, x = .ref p ∧ xs = [.int k] ∧ SqT K H p (ns.map V.int) ∧ ns[j]? = some k ∧ (∀ m, m < j → ns[m]? ≠ some k) ∧ Q (.int (j : Nat)) H
theorem flat_ints (ns : List Int) : (ns.map V.int).all flatV = true := by
  rw [List.all_map]
  exact List.all_eq_true.mpr fun _ _ => rfl
open PyProof.Rows in
theorem mt_tupIx : MtR X "tuple.index" (rTupIx X.K) := by
  intro pins s σ H x xs v us Q I rx rs h
  obtain ⟨p, ns, k, j, rfl, rfl, hq, hy, hno, q⟩ := h
  cases rx
  obtain ⟨u, rfl, t, rfl⟩ := vals1 rs
  obtain ⟨its, r, pl, hz⟩ := I.tuple hq
  obtain ⟨⟨cls, dd, dt, sl⟩, ho, hc, n, hd⟩ := pl
  simp only at hc hd
  subst hc
  subst hd
  have hl : its.toArray.size = ns.length := by rw [List.size_toArray, ← r.length, List.length_map]
  have hj : j < its.toArray.size := by rw [hl]; exact (List.getElem?_eq_some_iff.mp hy).1
  have at' : ∀ (m : Nat) (hm : m < its.toArray.size), ∃ y t', ns[m]? = some y ∧ its.toArray[m] = Value.int y t' := fun m hm => by
    have hm' : m < ns.length := by rw [← hl]; exact hm
    obtain ⟨w, hw, t', hw'⟩ := r.get (i := m) (x := .int ns[m]) (by simp [hm'])
    refine ⟨ns[m], t', List.getElem?_eq_getElem hm', ?_⟩
    have e := (List.getElem?_eq_some_iff.mp hw).2
    rw [← hw', ← e]
    simp
  refine call_meets PySem.F.slot_tuple_index ⟨_, ho, rfl⟩ PySem.F.entry_tuple_index (PySem.F.args_tuple_index_2 _ _) (TI.tuple_indexAt p its.toArray n dd sl (.int k t) (eqU (.int k)) j hj ?_ ?_)
    ⟨ho, fun w hw => mem_eqAt (x := .int k) ⟨t, rfl⟩ rfl r (flat_ints ns) w (by simpa using hw), ⟨.int (j : Nat), H, I.tok _, ⟨_, rfl⟩, q⟩⟩
  · obtain ⟨y, t', h1, h2⟩ := at' j hj
    rw [hy] at h1
    cases h1
    rw [h2]
    show (k == k) = true
    exact beq_self_eq_true k
  · intro m hm hmj
    obtain ⟨y, t', h1, h2⟩ := at' m hm
    rw [h2]
    show (y == k) = false
    exact beq_eq_false_iff_ne.mpr fun e => hno m hmj (e ▸ h1)
end
/-- the items of a tuple -/
def readT : D → M (List D) := fun d st => match d with
  | .tup ds => .ok ds st
  | _ => .no
def indexT : List D → D → M D := fun ds k st => match intsOf ds, k with
  | some ns, .int k => if k ∈ ns then .ok (.int (ns.idxOf k)) st else .no
  | _, _ => .no
def indexM (mo mb : Ev → M D) : Ev → M D := fun env => bnd (mo env) fun o => bnd (readT o) fun ds => bnd (mb env) fun b => indexT ds b
theorem idxOf_at : ∀ {ns : List Int} {k : Int}, k ∈ ns → ns[ns.idxOf k]? = some k ∧ ∀ m, m < ns.idxOf k → ns[m]? ≠ some k
  | [], _, h => by cases h
  | n :: ns, k, h => by
    by_cases e : n = k
    · subst e
      simp
    · have h' : k ∈ ns := by
        rcases List.mem_cons.mp h with q | q
        · exact absurd q.symm e
        · exact q
      obtain ⟨h1, h2⟩ := idxOf_at h'
      have e1 : (n :: ns).idxOf k = ns.idxOf k + 1 := by
        have : (n == k) = false := by simpa using e
        simp [List.idxOf_cons, this]
      rw [e1]
      refine ⟨by simpa using h1, fun m hm => ?_⟩
      cases m with
      | zero => simpa using e
      | succ m => simpa using h2 m (by omega)
section
variable {X : Cx} {E : ExW} {o e : Expr} {mo mb : Ev → M D} {apos cpos : Pos}
theorem ge_index (ho : PE X o (tD X.K E mo)) (he : PE X e (tD X.K E mb))
    (hbase : attributeBase o "index" X.env (eval o X.env) = eval o X.env := by rfl)
    (hfew : ((backTo cpos (starEach [e] X.env)).all (fun x => !x.1) && (backToKw cpos (keywordEach [] X.env)).all (fun x => x.1.isSome)
      && decide (([e] : List Expr).length + ([] : List Keyword).length + (if ([] : List Keyword).isEmpty then 0 else 1) < 30)) = true := by rfl)
    (hline : (apos.endLine == cpos.line) = true := by rfl) (hs : starEach [e] X.env = (false, eval e X.env) :: starEach [] X.env := by rfl) (hplain : (backTo cpos (starEach [] X.env)).any (·.1) = false := by rfl) :
    PE X (.Call (.Attribute o "index" apos) [e] [] cpos) (tD X.K E (indexM mo mb)) := by
  refine PE.wk (pe_bmT PySem.F.slot_tuple_index PySem.F.type_tuple_index mt_tupIx ho (pa_cons he pa_nil hs) hbase hfew hline hs hplain) fun σ H Q h => ?_
  obtain ⟨ι, env, st, R, h⟩ := h
  refine ⟨ι, env, st, R, wp_mono (wp_bnd h) fun d st1 h1 ι1 H1 v x1 S1 r1 => ?_⟩
  have h1 := wp_bnd h1
  unfold readT at h1
  split at h1
  · rename_i ds
    obtain ⟨a, xs, rfl, q, r1⟩ := Rp.tup_inv r1
    refine ⟨⟨ι1, a, xs, rfl, q⟩, ι1, env, st1, R.to x1 S1, wp_mono (wp_bnd h1) fun b st2 h2 ι2 H2 y x2 S2 r2 => ?_⟩
    unfold indexT at h2
    split at h2
    · rename_i ns k en
      split at h2
      · rename_i hk
        obtain ⟨i1, i2⟩ := idxOf_at hk
        refine ⟨a, ns, k, ns.idxOf k, rfl, by rw [Rp.int_inv r2], ?_, i1, i2, h2 ι2 H2 _ (x1.trans x2) S2 Rp.mkInt⟩
        rw [← (x2.rpl r1).intsOf en]
        exact (x2.sqt q).to
      · exact h2.elim
    · exact h2.elim
  · exact h1.elim
end

/-! ### statements -/
def seqM (a b : Ev → M Out) : Ev → M Out := fun env => bnd (a env) fun o => match o with
  | .nx e => b e
  | o => ret o
def nilS : Ev → M Out := fun env => ret (.nx env)
def dropS {α : Type} (m : Ev → M α) : Ev → M Out := fun env => bnd (m env) fun _ => ret (.nx env)
def setS (i : Nat) (m : Ev → M D) : Ev → M Out := fun env => bnd (m env) fun d => ret (.nx (env.set i (some d)))
def retS (m : Ev → M D) : Ev → M Out := fun env => bnd (m env) fun d => ret (.rt d)
def ifS (c : Ev → M Bool) (a b : Ev → M Out) : Ev → M Out := fun env => bnd (c env) fun k => if k = true then a env else b env
def brkS : Ev → M Out := fun env => ret (.bk env)
def cntS : Ev → M Out := fun env => ret (.ct env)
section
variable {X : Cx} {E : ExW} {st : Stmt} {rest : List Stmt} {pos : Pos} {a b : Ev → M Out}
theorem OutOk.ext {K : PySem.W.Frag} {ι : List Addr} {H : Hp} {D : Ends} {u : L2.St → Hp → Prop} {o : Out} (h : OutOk K ι H o { D with nx := u }) (hn : ∀ e, o = .nx e → ∀ σ, REnv K ι H σ e → u σ H → D.nx σ H) : OutOk K ι H o D := by
  cases o with
  | nx e => exact fun σ r => hn e rfl σ r (h σ r)
  | rt d => exact h
  | bk e => exact h
  | ct e => exact h
theorem gs_nil : PSs X [] (tSt X.K E nilS) := PSs.wk pss_nil fun D σ H h => by
  obtain ⟨ι, env, s, R, h⟩ := h
  exact h ι H (Ext.refl _ _) R.s σ R.e
theorem gs_cons (h1 : PS X st (tSt X.K E a)) (h2 : PSs X rest (tSt X.K E b)) : PSs X (st :: rest) (tSt X.K E (seqM a b)) := PSs.wk (pss_cons h1 h2) fun D σ H h => by
  obtain ⟨ι, env, s, R, h⟩ := h
  refine ⟨ι, env, s, R, wp_mono (wp_bnd h) fun o s1 h1 ι1 H1 x1 S1 => ?_⟩
  cases o with
  | nx e => exact fun σ1 r1 => ⟨ι1, e, s1, ⟨S1, r1⟩, wp_mono h1 fun o s2 h2 ι2 H2 x2 S2 => h2 ι2 H2 (x1.trans x2) S2⟩
  | rt d => exact h1 ι1 H1 x1 S1
  | bk e => exact h1 ι1 H1 x1 S1
  | ct e => exact h1 ι1 H1 x1 S1
theorem gs_one (h1 : PS X st (tSt X.K E a)) : PSs X [st] (tSt X.K E a) := pss_one h1
theorem gs_expr {α : Type} {P : List Addr → Hp → Hp → V → α → Prop} {e : Expr} {m : Ev → M α} (he : PE X e (tX X.K E P m)) (hP : ∀ ι H₀ H v d, P ι H₀ H v d → True := by intros; trivial) (hs : swapsWith e none pos.line X.env = pure false := by rfl) : PS X (.Expr e pos) (tSt X.K E (dropS m)) := PS.wk (ps_expr he hs) fun D σ H h => by
  obtain ⟨ι, env, s, R, h⟩ := h
  exact ⟨ι, env, s, R, wp_mono (wp_bnd h) fun d s1 h1 ι1 H1 v x1 S1 r1 => h1 ι1 H1 x1 S1 σ (R.e.ext x1)⟩
theorem gs_set {i : Nat} {x : Str} {e : Expr} {pos' : Pos} {m : Ev → M D} (hN : X.N.Nodup) (he : PE X e (tD X.K E m)) (hi : X.N[i]? = some x := by rfl) (hx : Loc X.env.scope x := by first | exact Or.inl rfl | exact Or.inr rfl) (hs : swapsWith e (some (.Name x pos')) pos.line X.env = pure false := by rfl) (hf : X.fn x = true ∨ X.env.scope.names.lookup x = some .local := by first | exact .inl rfl | exact .inr rfl | assumption) :
    PS X (.Assign [.Name x pos'] e pos) (tSt X.K E (setS i m)) := PS.wk (ps_set hN hi hx he hs hf) fun D σ H h => by
  obtain ⟨ι, env, s, R, h⟩ := h
  exact ⟨ι, env, s, R, wp_mono (wp_bnd h) fun d s1 h1 ι1 H1 v x1 S1 r1 => h1 ι1 H1 x1 S1 (σ.set i (some v)) ((R.e.ext x1).set i r1)⟩
theorem gs_ret {e : Expr} {m : Ev → M D} (he : PE X e (tD X.K E m)) : PS X (.Return (some e) pos) (tSt X.K E (retS m)) := PS.wk (ps_ret he) fun D σ H h => by
  obtain ⟨ι, env, s, R, h⟩ := h
  exact ⟨ι, env, s, R, wp_mono (wp_bnd h) fun d s1 h1 ι1 H1 v x1 S1 r1 => h1 ι1 H1 x1 S1 v r1⟩
theorem gs_if {c : Expr} {p q : List Stmt} {mc : Ev → M Bool} (hc : PT X c (tB X.K E mc)) (ha : PSs X p (tSt X.K E a)) (hb : PSs X q (tSt X.K E b)) : PS X (.If c p q pos) (tSt X.K E (ifS mc a b)) := PS.wk (ps_if hc ha hb) fun D σ H h => by
  obtain ⟨ι, env, s, R, h⟩ := h
  refine ⟨ι, env, s, R, wp_mono (wp_bnd h) fun k s1 h1 ι1 H1 x1 S1 => ?_⟩
  cases k with
  | true => exact ⟨ι1, env, s1, R.to x1 S1, wp_mono h1 fun o s2 h2 ι2 H2 x2 S2 => h2 ι2 H2 (x1.trans x2) S2⟩
  | false => exact ⟨ι1, env, s1, R.to x1 S1, wp_mono h1 fun o s2 h2 ι2 H2 x2 S2 => h2 ι2 H2 (x1.trans x2) S2⟩
/-- what is never reached -/
def nevS : Ev → M Out := fun _ => fail
theorem gs_never : PS X st (tSt X.K E nevS) := PS.wk ps_never fun D σ H h => by
  obtain ⟨ι, env, s, R, h⟩ := h
  exact h.elim
theorem gs_pass : PS X (.Pass pos) (tSt X.K E nilS) := PS.wk ps_pass fun D σ H h => by
  obtain ⟨ι, env, s, R, h⟩ := h
  exact h ι H (Ext.refl _ _) R.s σ R.e
theorem gs_break : PS X (.Break pos) (tSt X.K E brkS) := PS.wk ps_break fun D σ H h => by
  obtain ⟨ι, env, s, R, h⟩ := h
  exact h ι H (Ext.refl _ _) R.s σ R.e
theorem gs_continue : PS X (.Continue pos) (tSt X.K E cntS) := PS.wk ps_continue fun D σ H h => by
  obtain ⟨ι, env, s, R, h⟩ := h
  exact h ι H (Ext.refl _ _) R.s σ R.e
/-- a, b = e1, e2 -/
def parS (i j : Nat) (m : Ev → M (List D)) : Ev → M Out := fun env => bnd (m env) fun ds => match ds with
  | [a, b] => ret (.nx ((env.set i (some a)).set j (some b)))
  | _ => fail
theorem gs_par {i j : Nat} {x y : Str} {p q : Expr} {px py pt : Pos} {kt k2 pt2} {m : Ev → M (List D)} (hc : X.calm = true) (hN : X.N.Nodup) (ha : PA X [p, q] (tAr X.K E m)) (hi : X.N[i]? = some x := by rfl) (hj : X.N[j]? = some y := by rfl) (hij : i ≠ j := by decide)
    (hx : X.env.scope.names.lookup x = some .local := by rfl) (hy : X.env.scope.names.lookup y = some .local := by rfl)
    (hw : swappedStores [.Tuple [.Name x px, .Name y py] kt pt] (.Tuple [p, q] k2 pt2) X.env = pure (some [x, y]) := by rfl)
    (hs : swapsWithSole [.Tuple [.Name x px, .Name y py] kt pt] (.Tuple [p, q] k2 pt2) pos.line X.env = pure false := by rfl) :
    PS X (.Assign [.Tuple [.Name x px, .Name y py] kt pt] (.Tuple [p, q] k2 pt2) pos) (tSt X.K E (parS i j m)) := PS.wk (ps_par hc hN hi hj hij hx hy ha hw hs) fun D σ H h => by
  obtain ⟨ι, env, s, R, h⟩ := h
  refine ⟨ι, env, s, R, wp_mono (wp_bnd h) fun ds s1 h1 ι1 H1 vs x1 S1 r1 => ?_⟩
  split at h1
  · rename_i a b
    simp only [RpL] at r1
    obtain ⟨v, _, rfl, ra, w, _, rfl, rb, rfl⟩ := r1
    exact ⟨v, w, rfl, h1 ι1 H1 x1 S1 _ (((R.e.ext x1).set i ra).set j rb)⟩
  · exact h1.elim
/-- x += e, ints -/
def augS (i : Nat) (g : D → D → M D) (m : Ev → M D) : Ev → M Out := fun env => bnd (getV i env) fun a => bnd (m env) fun b => bnd (g a b) fun d => ret (.nx (env.set i (some d)))
theorem gs_aug {i : Nat} {x : Str} {e : Expr} {op : Operator} {ti : TIp} {g : D → D → M D} {pos' : Pos} {m : Ev → M D} (hN : X.N.Nodup) (ho : PIp X op ti) (hg : G2 X.K E (PD X.K) (PD X.K) (PD X.K) ti g) (he : PE X e (tD X.K E m)) (hi : X.N[i]? = some x := by rfl) (hx : Loc X.env.scope x := by first | exact Or.inl rfl | exact Or.inr rfl) (hf : X.fn x = true ∨ X.env.scope.names.lookup x = some .local := by first | exact .inl rfl | exact .inr rfl | assumption) :
    PS X (.AugAssign (.Name x pos') op e pos) (tSt X.K E (augS i g m)) := PS.wk (ps_aug hN hi hx he ho hf) fun D σ H h => by
  obtain ⟨ι, env, s, R, h⟩ := h
  have h := wp_bnd h
  unfold getV at h
  split at h
  · rename_i d ed
    obtain ⟨v, hv, rv⟩ := R.e.at_ i d ed
    refine ⟨v, hv, ι, env, s, R, wp_mono (wp_bnd h) fun b s1 h1 ι1 H1 y x1 S1 r1 => ?_⟩
    exact hg ι1 H H1 s1 v y d b _ S1 ⟨ι, x1⟩ (x1.rp rv) r1 (wp_mono (wp_bnd h1) fun c s2 h2 ι2 H2 z x2 S2 r2 => h2 ι2 H2 (x1.trans x2) S2 _ ((R.e.ext (x1.trans x2)).set i r2))
  · exact h.elim
theorem a_add : G2 X.K E (PD X.K) (PD X.K) (PD X.K) (ipI fun i j => i + j) addI := g2_int0 (K := X.K) (E := E) (g := fun i j => .int (i + j)) fun _ _ _ _ => .mkInt
theorem a_sub : G2 X.K E (PD X.K) (PD X.K) (PD X.K) (ipI fun i j => i - j) subI := g2_int0 (K := X.K) (E := E) (g := fun i j => .int (i - j)) fun _ _ _ _ => .mkInt
/-- xs[i] = e, xs a list of the store -/
def storeM : D → D → D → M Unit := fun x i y st => match x, i with
  | .ref n, .int k => match st[n]? with
    | some (.lst ds) => match ixN ds.length k with
      | some j => .ok () (st.set n (.lst (ds.set j y)))
      | none => .no
    | _ => .no
  | _, _ => .no
def subS (mv mo mi : Ev → M D) : Ev → M Out := fun env => bnd (mv env) fun v => bnd (mo env) fun o => bnd (mi env) fun i => bnd (storeM o i v) fun _ => ret (.nx env)
theorem storeM_ok {ι : List Addr} {H : Hp} {s : Store} {x i y : D} {xv iv yv : V} {Q : Hp → Prop} (S : RelS X.K ι H s) (rx : Rp X.K ι H xv x) (ri : Rp X.K ι H iv i) (ry : Rp X.K ι H yv y) (h : wp (storeM x i y s) (fun _ st' => ∀ ι' H', Ext ι H ι' H' → RelS X.K ι' H' st' → Q H') E) : rSetL xv iv yv H Q := by
  unfold storeM at h
  split at h
  · rename_i n k
    split at h
    · rename_i ds e
      split at h
      · rename_i j hj
        obtain ⟨p, rfl, hp⟩ := Rp.ref_inv rx
        obtain ⟨xs, q1, q2⟩ := S.lst hp e
        obtain ⟨xx, S'⟩ := S.setLst hp (q2.set ry j)
        exact ⟨p, xs, k, j, rfl, Rp.int_inv ri, q1, by rw [q2.length]; exact hj, h ι _ xx S'⟩
      · exact h.elim
    · exact h.elim
  · exact h.elim
theorem gs_sub {o i e : Expr} {spos : Pos} {mv mo mi : Ev → M D} (ho : PE X o (tD X.K E mo)) (hi : PE X i (tD X.K E mi)) (he : PE X e (tD X.K E mv))
    (ha : ∀ v, assign (.Subscript o i spos) X.env v = (do
      let ov ← holding [v] (eval o X.env)
      let iv ← holding [v, ov] (eval i X.env)
      standAt spos
      holding [v, ov, iv] (setItem ov iv v)
      release [v, ov, iv] []) := by intro _; rfl)
    (hs : swapsWithSole [.Subscript o i spos] e pos.line X.env = pure false := by rfl) (hw : swappedStores [.Subscript o i spos] e X.env = pure none := by rfl)
    (h1 : (assignEach [.Subscript o i spos] X.env).map (·.2) = [assign (.Subscript o i spos) X.env] := by rfl) : PS X (.Assign [.Subscript o i spos] e pos) (tSt X.K E (subS mv mo mi)) :=
  PS.wk (ps_asg he (pg_sub ho hi set_list ha) hs hw h1) fun D σ H h => by
    obtain ⟨ι, env, s, R, h⟩ := h
    refine ⟨ι, env, s, R, wp_mono (wp_bnd h) fun v s1 h1 ι1 H1 vv x1 S1 r1 => ?_⟩
    refine ⟨ι1, env, s1, R.to x1 S1, wp_mono (wp_bnd h1) fun o s2 h2 ι2 H2 ov x2 S2 r2 => ?_⟩
    refine ⟨ι2, env, s2, R.to (x1.trans x2) S2, wp_mono (wp_bnd h2) fun i s3 h3 ι3 H3 iv x3 S3 r3 => ?_⟩
    exact storeM_ok S3 (x3.rp r2) r3 ((x2.trans x3).rp r1) (wp_mono (wp_bnd h3) fun _ s4 h4 ι4 H4 x4 S4 => h4 ι4 H4 (((x1.trans x2).trans x3).trans x4) S4 σ (R.e.ext (((x1.trans x2).trans x3).trans x4)))
end

/-! ### while -/
def fuel : Nat := 1000000000
def whileM (c : Ev → M Bool) (b : Ev → M Out) : Nat → Ev → M Out
  | 0, _ => fail
  | n + 1, env => bnd (c env) fun k => if k = true then bnd (b env) fun o => match o with
      | .nx e => whileM c b n e
      | .ct e => whileM c b n e
      | .bk e => ret (.nx e)
      | .rt d => ret (.rt d)
    else ret (.nx env)
section
variable {X : Cx} {E : ExW} {pos : Pos}
theorem gs_while {c : Expr} {body : List Stmt} {mc : Ev → M Bool} {mb : Ev → M Out} (hp : PassesOwn (model X.prog X.w) X.A X.env X.xe) (hc : PT X c (tB X.K E mc)) (hb : PSs X body (tSt X.K E mb)) : PS X (.While c body [] pos) (tSt X.K E (whileM mc mb fuel)) :=
  PS.wk (ps_while hp hc hb) fun D σ H h => by
    obtain ⟨ι, env, s, R, h⟩ := h
    refine ⟨fun m σ' H' => ∃ ι' env' s', Ext ι H ι' H' ∧ Rel X.K ι' σ' H' env' s' ∧ wp (whileM mc mb m env' s') (fun o s2 => ∀ ι2 H2, Ext ι H ι2 H2 → RelS X.K ι2 H2 s2 → OutOk X.K ι2 H2 o D) E, ⟨fuel, ι, env, s, Ext.refl _ _, R, h⟩, ?_⟩
    rintro m σ' H' ⟨ι', env', s', x', R', h'⟩
    cases m with
    | zero => exact h'.elim
    | succ m =>
      refine ⟨ι', env', s', R', wp_mono (wp_bnd h') fun k s1 h1 ι1 H1 x1 S1 => ?_⟩
      cases k with
      | true =>
        rw [if_pos rfl]
        refine ⟨fun σ2 H2 => ∃ ι2 env2 s2, Ext ι H ι2 H2 ∧ Rel X.K ι2 σ2 H2 env2 s2 ∧ wp (whileM mc mb m env2 s2) (fun o s3 => ∀ ι3 H3, Ext ι H ι3 H3 → RelS X.K ι3 H3 s3 → OutOk X.K ι3 H3 o D) E, fun σ2 H2 q => ⟨m, Nat.lt_succ_self m, q⟩, ?_⟩
        refine ⟨ι1, env', s1, R'.to x1 S1, wp_mono (wp_bnd h1) fun o s2 h2 ι2 H2 x2 S2 => ?_⟩
        have xx : Ext ι H ι2 H2 := (x'.trans x1).trans x2
        cases o with
        | nx e => exact fun σ2 r2 => ⟨ι2, e, s2, xx, ⟨S2, r2⟩, h2⟩
        | ct e => exact fun σ2 r2 => ⟨ι2, e, s2, xx, ⟨S2, r2⟩, h2⟩
        | bk e => exact fun σ2 r2 => h2 ι2 H2 xx S2 σ2 r2
        | rt d => exact fun v rv => h2 ι2 H2 xx S2 v rv
      | false => exact h1 ι1 H1 (x'.trans x1) S1 σ' ((R'.to x1 S1).e)
end
end L3
set_option maxHeartbeats 4000000
/-! L3i: iterators that the hand layer lacks: enumerate of a tuple; a list or a tuple by value. -/
namespace L3
open PySem L2 PyProof.Rows
open Sem (wp)
open AutoSeq1 (wpAny_loadPart')
set_option maxHeartbeats 1000000 in
theorem meets_enum1 {v : Value} {o : Obj} {H : Heap → Prop} (B : Begins v o H) :
    Meets (Builtin.«enumerate.__new__» ⟨[.type "enumerate", v], []⟩) (fun _ R s => H s.heap ∧
      R (.ok (.ret (.ref (s.heap.push o).objs.size))) { s with heap := (s.heap.push o).push { cls := .type "enumerate", data := .fields #[.none, .bool false, .ref s.heap.objs.size, rawInt 0, .none, .none] } }) :=
  .of_wp fun prog w A R s h => by
    obtain ⟨hp, g, d, tk, os⟩ := s; obtain ⟨h1, h⟩ := h
    have hsub := sub_enumerate
    have q1 : ∀ {A' : Around} {E : Value → Shared → Prop} {Q : Value → Shared → Prop}, Q (.ref hp.objs.size) ⟨hp.push o, g, d, tk, os⟩ → wpAny (model prog w) A' (pyIter v) Q E ⟨hp, g, d, tk, os⟩ :=
      fun q => B.iter prog w _ _ ⟨hp, g, d, tk, os⟩ _ h1 q
    wp_walk using q1
    refine wpAny_stack_any fun st => wpAny_pure ?_
    split
    · rename_i c _ _ _ _ _
      cases (c == Value.type "enumerate")
      · wp_walk using q1
        exact ⟨_, rfl, h⟩
      · wp_walk using q1
        exact ⟨_, rfl, h⟩
    · wp_walk using q1
      exact ⟨_, rfl, h⟩
theorem enum1_begins {prog : Program} {w : World} {A : Around} {E : Value → Shared → Prop} {s : Shared} {v : Value} {o : Obj} {H : Heap → Prop} {Q : Value → Shared → Prop} (B : Begins v o H) (h1 : H s.heap)
    (h : ∀ h', IsEnum h' (s.heap.objs.size + 1) s.heap.objs.size 0 .none → h'.get? s.heap.objs.size = some o → h'.objs.size = s.heap.objs.size + 2 →
      (∀ b o, s.heap.get? b = some o → h'.get? b = some o) → Q (.ref (s.heap.objs.size + 1)) { s with heap := h' }) :
    wpAny (model prog w) A (call (.type "enumerate") [v]) Q E s := by
  refine callType_new F.called_enumerate (by decide) (F.typeCall_enumerate_1 _) (F.newCall_enumerate_1 _) (fun obj => F.args_object_init_2 obj _) F.entry_enumerate_new
    (meets_enum1 B) ⟨h1, ?_⟩
  have hz : (s.heap.push o).objs.size = s.heap.objs.size + 1 := Heap.size_push ..
  show _ ∧ _
  rw [hz]
  have he : IsEnum ((s.heap.push o).push { cls := .type "enumerate", data := .fields #[.none, .bool false, .ref s.heap.objs.size, rawInt 0, .none, .none] }) (s.heap.objs.size + 1) s.heap.objs.size 0 .none := by
    have := Heap.get?_push_size (s.heap.push o) (o := { cls := .type "enumerate", data := .fields #[.none, .bool false, .ref s.heap.objs.size, rawInt 0, .none, .none] }) rfl
    rw [hz] at this; exact this
  refine ⟨⟨_, he, rfl⟩, h _ he (Heap.get?_push_of_some _ (Heap.get?_push_size _ B.free)) (by rw [Heap.size_push, hz]) fun b o x => Heap.get?_push_of_some _ (Heap.get?_push_of_some _ x)⟩
/-- enumerate of the tuple at a -/
def IteT (K : PySem.W.Frag) (a : Addr) : It :=
  ⟨fun i H => ∃ (xs : List V) (x : V), SqT K H a xs ∧ xs[i]? = some x, fun i H v H' => ∃ T x, v = .ref T ∧ H T = none ∧ H' = upd H T (.tup [.int (i : Nat), x]) ∧ ∀ xs, SqT K H a xs → xs[i]? = some x, fun i H => ∃ xs : List V, SqT K H a xs ∧ xs.length ≤ i⟩
theorem turn_enumT {P : Program} {w : World} {K : PySem.W.Frag} {elts : List Expr} {kk : Nat} {tpos : Pos} (a e it : Addr) :
    Turn P w K (.Tuple elts kk tpos) (IteT K a) [e, it] e (fun i h => (∃ old, IsEnum h e it ((i : Nat) : Int) old) ∧ h.IsTupleIter it a i ∧ e ≠ it ∧ a ≠ it ∧ a ≠ e) where
  mem := by simp
  obj := fun i h st b hb => by
    obtain ⟨⟨old, he⟩, ⟨o, ho, hc, hd⟩, _⟩ := st
    have e' : b = e ∨ b = it := by simpa using hb
    rcases e' with z | z
    · rw [z]; exact ⟨_, he, fun v q => nomatch q⟩
    · rw [z]; exact ⟨o, ho, fun v q => by rw [hd] at q; cases q⟩
  keep := fun i h h' st k => let ⟨⟨old, he⟩, hi, hne⟩ := st; ⟨⟨old, k e (by simp) _ he⟩, hi.at fun o q => k it (by simp) o q, hne⟩
  item := by
    intro X hP hw hK hc i pins s σ H E I hf st hg
    subst hP hw hK
    obtain ⟨⟨old, he⟩, hit, hne, hai, hae⟩ := st
    obtain ⟨xs, x, hq, hx⟩ := hg
    obtain ⟨its, rv, p, hz⟩ := I.tuple hq
    obtain ⟨u, hu, ru⟩ := rv.get hx
    have hel : e < s.heap.objs.size := Heap.lt_size he
    have hil : it < s.heap.objs.size := by obtain ⟨_, q, _⟩ := hit; exact Heap.lt_size q
    have hi : i < its.toArray.size := by
      have := (List.getElem?_eq_some_iff.mp hu).1
      simpa using this
    have D := Draws.tuple (prog := X.prog) (w := X.w) (A := X.A.in1) (I.ok.hd hc) it a hai its.toArray
    refine wpAny_pyNext_enum_itemD D he ⟨hit, p⟩ hi hne (by simp [hne, Ne.symm hae]) fun y h' tk hy ho hst hT hsz hk => ?_
    have ey : y = u := by
      have hu' : its.toArray[i]? = some u := by simpa using hu
      rw [hu'] at hy
      exact (Option.some.inj hy).symm
    subst ey
    refine ⟨_, rfl, wpAny_letOwnedTupleGo_enum (s := { s with heap := h', toks := tk + 1 }) ho fun h'' he' sb => ?_⟩
    have hT2 : h''.get? s.heap.objs.size = some { cls := .type "tuple", data := .seq #[.int i tk, y] } := (sb.2 _ (Nat.ne_of_gt hel)).trans hT
    have new : ObjOk X.prog X.w (upd H s.heap.objs.size (.tup [.int (i : Nat), x])) h'' s.heap.objs.size (.tup [.int (i : Nat), x]) :=
      ⟨by show 2 ≤ sizeLine; decide, [.int i tk, y], .cons ⟨_, rfl⟩ (.cons ru .nil), ⟨_, hT2, rfl, _, rfl⟩⟩
    have I1 : Inv X pins σ (upd H s.heap.objs.size (.tup [.int (i : Nat), x])) { s with heap := h'', toks := tk + 1 } :=
      I.turnedNew (ch := [e, it]) (fun b ob hb q => (sb.2 b (fun z => hb (by simp [z]))).trans (hk b ob (fun z => hb (by simp [z])) (fun z => hb (by simp [z])) q)) hf (Nat.le_refl _) new
    refine ⟨.ref s.heap.objs.size, _, I1, rfl, ⟨_, x, rfl, I.hok.fresh (Nat.le_refl _), rfl, fun ys hy => by rw [I.tuple_inj hy hq]; exact hx⟩, ⟨⟨y, ?_⟩, hst.1.at fun o q => (sb.2 it (Ne.symm hne)).trans q, hne, hai, hae⟩, fun b hb => ?_⟩
    · have e1 : ((i + 1 : Nat) : Int) = (i : Int) + 1 := by omega
      rw [e1]; exact he'
    · have hb' : b < s.heap.objs.size := by
        have e' : b = e ∨ b = it := by simpa using hb
        rcases e' with z | z
        · rw [z]; exact hel
        · rw [z]; exact hil
      rw [upd_ne (Nat.ne_of_lt hb')]
      exact (hf b hb).1
  done := by
    intro X hP hw hK hc i pins s σ H E I hf st hg
    subst hP hw hK
    obtain ⟨⟨old, he⟩, hit, hne, hai, hae⟩ := st
    obtain ⟨xs, hq, hx⟩ := hg
    obtain ⟨its, rv, p, hz⟩ := I.tuple hq
    obtain ⟨f0, f1, f2, f3, f4, f5⟩ := hf it (by simp)
    have hT : s.TypeIs (.ref e) "enumerate" := ⟨_, he, rfl⟩
    have hl := rv.length
    have hno : its.toArray[i]? = none := by simp; omega
    unfold pyNext
    refine wpAny_bind (wpAny_attempt (wpAny_callSpecial?_slot (name := Str.ofString "__next__") hT F.slot_enumerate_next
      (wpAny_call_entry F.slot_enumerate_next hT F.entry_enumerate_next ?_ (F.args_enumerate_next_1 _))))
    show wpAny _ _ (field (.ref e) 2 >>= _) _ _ _
    refine wpAny_bind (wpAny_field he rfl (x := .ref it) rfl ?_)
    refine wpAny_bind (wpAny_nextOf_tuple_end (I.ok.hd hc) hit p hno fun h' x he' hx' => ?_)
    obtain ⟨o, ho, hc⟩ := hx'
    refine wpAny_bind (wpAny_isInstance (T := "StopIteration") (b := true) ⟨o, ho, hc⟩ isSubtype_stop ?_)
    exact wpAny_pure ⟨rfl, I.turned (t' := s.toks) (fun b o hb q => he' b o hb q) f0 f1 f3 f4 f5⟩
  self := fun A i s Q E st h => let ⟨⟨_, he⟩, _⟩ := st; wpAny_pyIter_enum he h
/-- enumerate of a list or of a tuple -/
def iEnumA (K : PySem.W.Frag) (te : TE) : TI := fun σ H R => te σ H fun x H1 => ∃ a, x = .ref a ∧ ((∃ xs, SqL K H1 a xs ∧ R (Ite K a) H1) ∨ (∃ xs, SqT K H1 a xs ∧ R (IteT K a) H1))
theorem pi_enumA {X : Cx} {e : Expr} {te : TE} {p pos tpos : Pos} {elts : List Expr} {kk : Nat} (hg : Gl X "enumerate") (hm : X.mg "enumerate" = none) (he : PE X e te) (na : starEach [e] X.env = (false, eval e X.env) :: starEach [] X.env := by rfl) :
    PI X (.Tuple elts kk tpos) (.Call (.Name "enumerate" p) [e] [] pos) (iEnumA X.K te) := by
  refine ⟨fun pins s σ H R I h => ?_⟩
  refine Call_ (ld_blt I hg hm boot_enumerate (PyProof.Rows.callWith_type1 (PyProof.Rows.args_cons (thn (he.run pins s σ H _ I h) fun u s1 ⟨x, H1, I1, r1, q1⟩ => PyProof.Rows.args_nil ?_) na) na rfl))
  obtain ⟨a, rfl, q1⟩ := q1
  cases r1
  have fp : ∀ b, b = s1.heap.objs.size + 1 ∨ b = s1.heap.objs.size → FpOk X pins H1 b := fun b e' => by
    have hle : s1.heap.objs.size ≤ b := by
      rcases e' with z | z
      · rw [z]; exact Nat.le_add_right _ _
      · rw [z]; exact Nat.le_refl _
    exact I1.fpOk hle (I1.hok.fresh hle)
  rcases q1 with ⟨xs, hq, q⟩ | ⟨xs, hq, q⟩
  · obtain ⟨its, rv, p', hz⟩ := I1.list hq
    refine call_enumerate_list p'.isList fun h' he hit hsz hk => wpAny_pyIter_enum he ?_
    have I2 : Inv X pins σ H1 { s1 with heap := h' } := I1.kept (t' := s1.toks) hk
    exact ⟨s1.heap.objs.size + 1, [s1.heap.objs.size + 1, s1.heap.objs.size], _, _, H1, rfl, I2, turn_enum a (s1.heap.objs.size + 1) s1.heap.objs.size, ⟨⟨.none, he⟩, hit, Nat.succ_ne_self _⟩, fun b hb => fp b (by simpa using hb), q⟩
  · obtain ⟨its, rv, p', hz⟩ := I1.tuple hq
    have hlt : a < s1.heap.objs.size := p'.lt
    refine enum1_begins (begins_tuple a its.toArray) p' fun h' he ho hsz hk => wpAny_pyIter_enum he ?_
    have I2 : Inv X pins σ H1 { s1 with heap := h' } := I1.kept (t' := s1.toks) hk
    exact ⟨s1.heap.objs.size + 1, [s1.heap.objs.size + 1, s1.heap.objs.size], _, _, H1, rfl, I2, turn_enumT a (s1.heap.objs.size + 1) s1.heap.objs.size, ⟨⟨.none, he⟩, ⟨_, ho, rfl, rfl⟩, Nat.succ_ne_self _, Nat.ne_of_lt hlt, Nat.ne_of_lt (Nat.lt_succ_of_lt hlt)⟩, fun b hb => fp b (by simpa using hb), q⟩
/-- what is walked is a list or a tuple -/
def iSeq (K : PySem.W.Frag) (tl : TE) : TI := fun σ H R => tl σ H fun x H1 => ∃ a, x = .ref a ∧ ((∃ xs, SqL K H1 a xs ∧ R (Itl K a) H1) ∨ (∃ xs, SqT K H1 a xs ∧ R (Itt K a) H1))
theorem pi_seq {X : Cx} {tg l : Expr} {tl : TE} (hl : PE X l tl) : PI X tg l (iSeq X.K tl) := by
  refine ⟨fun pins s σ H R I h => ?_⟩
  refine thn (hl.run pins s σ H _ I h) fun v s1 ⟨x, H1, I1, r1, q1⟩ => ?_
  obtain ⟨a, e, q1⟩ := q1
  subst e
  cases r1
  have fp : ∀ b, b = s1.heap.objs.size → FpOk X pins H1 b := fun b e => by
    subst e
    exact I1.fpOk (Nat.le_refl _) (I1.hok.fresh (Nat.le_refl _))
  rcases q1 with ⟨xs, hq, q⟩ | ⟨xs, hq, q⟩
  · obtain ⟨its, rv, p, hz⟩ := I1.list hq
    refine wpAny_pyIter_list p.isList ?_
    exact ⟨s1.heap.objs.size, [s1.heap.objs.size], _, _, H1, rfl, I1.kept (t' := s1.toks) fun b o e => Heap.get?_push_of_some _ e, turn_list a _, ⟨_, Heap.get?_push_size _ rfl, rfl, rfl⟩, fun b hb => fp b (by simpa using hb), q⟩
  · obtain ⟨its, rv, p, hz⟩ := I1.tuple hq
    refine wpAny_pyIter_tuple (show s1.heap.IsTuple a its.toArray from p) ?_
    exact ⟨s1.heap.objs.size, [s1.heap.objs.size], _, _, H1, rfl, I1.kept (t' := s1.toks) fun b o e => Heap.get?_push_of_some _ e, turn_tuple a _, ⟨_, Heap.get?_push_size _ rfl, rfl, rfl⟩, fun b hb => fp b (by simpa using hb), q⟩
end L3
set_option maxHeartbeats 4000000
/-! L3f: for, comprehensions. -/
namespace L3
open PySem L2

/-! ### what is walked -/
/-- the next item at a turn: none: it is not known; some none: the end -/
abbrev Nxt (α : Type) := Nat → Store → Option (Option α)
/-- how a yielded thing stands for an item: at H₁ it is yielded, H₂ is the heap behind -/
abbrev YRel (α : Type) := List Addr → Hp → V → Hp → α → Prop
section
variable (K : PySem.W.Frag)
/-- a turn of the iterator J is as told -/
def ItAt {α : Type} (Y : YRel α) (ι : List Addr) (H : Hp) (J : It) (i : Nat) : Option (Option α) → Prop
  | some (some d) => J.go i H ∧ ∀ x H2, J.yld i H x H2 → Y ι H x H2 d
  | some none => J.stop i H
  | none => True
/-- the iterator J, begun at ι, H, goes as nxt says -/
def ItOk {α : Type} (Y : YRel α) (ι : List Addr) (H : Hp) (J : It) (nxt : Nxt α) : Prop := ∀ i ι1 H1 st1, Kp ι H ι1 H1 → (∀ a vs, H a = some (.lst vs) → a ∉ ι → (a ∉ ι1 ∧ H1 a = some (.lst vs))) → RelS K ι1 H1 st1 → ItAt Y ι1 H1 J i (nxt i st1)
def tIt {α : Type} (E : ExW) (Y : YRel α) (m : Ev → M (Nxt α)) : TI := fun σ H R => ∃ ι env st, Rel K ι σ H env st ∧ wp (m env st) (fun nxt st' => ∀ ι' H' J, Ext ι H ι' H' → RelS K ι' H' st' → ItOk K Y ι' H' J nxt → R J H') E
/-- a value is yielded -/
def YV : YRel D := fun ι H x H2 d => H2 = H ∧ Rp K ι H x d
/-- a new pair is yielded -/
def YP : YRel (D × D) := fun ι H x H2 d => ∃ T vs, x = .ref T ∧ H T = none ∧ H2 = upd H T (.tup vs) ∧ RpL K ι H vs [d.1, d.2]
/-- a target takes what is yielded -/
structure TgOk {α : Type} (g : TG) (Y : YRel α) (asg : α → Ev → Option Ev) (ws : List Nat) : Prop where
  run : ∀ ι H st (σ : L2.St) env x H2 a env', RelS K ι H st → Y ι H x H2 a → REnv K ι H σ env → asg a env = some env' → Ext ι H ι H2 ∧ RelS K ι H2 st ∧ (∀ b o, H b = some o → H2 b = some o) ∧ ∀ Q : L2.St → Hp → Prop, (∀ σ', REnv K ι H2 σ' env' → (∀ vs : List Nat, (∀ w ∈ ws, w ∈ vs) → wipe σ' vs = wipe σ vs) → Q σ' H2) → g x σ H2 Q
end
section
variable {K : PySem.W.Frag}
theorem wipe_set {σ : L2.St} {i : Nat} {v : Option V} : ∀ {vs : List Nat}, i ∈ vs → wipe (σ.set i v) vs = wipe σ vs
  | [], h => by cases h
  | w :: vs, h => by
    unfold wipe
    by_cases e : i ∈ vs
    · rw [wipe_set e]
    · have e' : i = w := by
        rcases List.mem_cons.mp h with q | q
        · exact q
        · exact absurd q e
      subst e'
      have : ∀ {vs : List Nat}, i ∉ vs → wipe (σ.set i v) vs = (wipe σ vs).set i v := by
        intro vs
        induction vs with
        | nil => intro _; rfl
        | cons w vs ih =>
          intro h
          simp only [List.mem_cons, not_or] at h
          unfold wipe
          rw [ih h.2, List.set_comm _ _ h.1]
      rw [this e, List.set_set]
def asgN (i : Nat) : D → Ev → Option Ev := fun d env => some (env.set i (some d))
def asg2 (i j : Nat) : D → Ev → Option Ev := fun d env => match d with
  | .tup [a, b] => some ((env.set i (some a)).set j (some b))
  | _ => none
def asgP (i j : Nat) : D × D → Ev → Option Ev := fun d env => some ((env.set i (some d.1)).set j (some d.2))
theorem tg_name {i : Nat} : TgOk K (gName i) (YV K) (asgN i) [i] := ⟨fun ι H st σ env x H2 a env' S y R e => by
  obtain ⟨rfl, r⟩ := y
  cases e
  refine ⟨Ext.refl _ _, S, fun _ _ h => h, fun Q h => h _ (R.set i r) fun vs hv => ?_⟩
  rw [wipe_set (hv i (by simp))]⟩
theorem tg_2 {i j : Nat} : TgOk K (gTup K 2 (gCons (gName i) (gCons (gName j) gNil))) (YV K) (asg2 i j) [i, j] := ⟨fun ι H st σ env x H2 a env' S y R e => by
  obtain ⟨rfl, r⟩ := y
  unfold asg2 at e
  split at e
  · rename_i a b
    cases e
    obtain ⟨p, xs, rfl, q, r⟩ := Rp.tup_inv r
    simp only [RpL] at r
    obtain ⟨v, _, rfl, ra, w, _, rfl, rb, rfl⟩ := r
    refine ⟨Ext.refl _ _, S, fun _ _ h => h, fun Q h => ⟨p, [v, w], rfl, q.to, rfl, v, [w], rfl, w, [], rfl, rfl, h _ ((R.set i ra).set j rb) fun vs hv => ?_⟩⟩
    rw [wipe_set (hv j (by simp)), wipe_set (hv i (by simp))]
  · cases e⟩
theorem tg_P {i j : Nat} : TgOk K (gTup K 2 (gCons (gName i) (gCons (gName j) gNil))) (YP K) (asgP i j) [i, j] := ⟨fun ι H st σ env x H2 a env' S y R e => by
  obtain ⟨T, vs, rfl, hT, rfl, r⟩ := y
  cases e
  have xx : Ext ι H ι (upd H T (.tup vs)) := Ext.upd hT
  have r' := xx.rpl r
  simp only [RpL] at r'
  obtain ⟨v, _, rfl, ra, w, _, rfl, rb, rfl⟩ := r'
  refine ⟨xx, S.grow hT, fun b o e => by rw [upd_ne (ne_of_none e hT)]; exact e, fun Q h => ⟨T, [v, w], rfl, SqT.of upd_same, rfl, v, [w], rfl, w, [], rfl, rfl, h _ (((R.ext xx).set i ra).set j rb) fun vs hv => ?_⟩⟩
  rw [wipe_set (hv j (by simp)), wipe_set (hv i (by simp))]⟩
end
section
variable {X : Cx} {i j : Nat} {x y : Str} {p1 p2 p3 : Pos} {k : Nat}
theorem pg_2 (hc : X.calm = true) (hN : X.N.Nodup) (hi : X.N[i]? = some x := by rfl) (hj : X.N[j]? = some y := by rfl) (hx : Loc X.env.scope x := by first | exact Or.inl rfl | exact Or.inr rfl) (hy : Loc X.env.scope y := by first | exact Or.inl rfl | exact Or.inr rfl)
    (hf : X.fn x = true ∨ X.env.scope.names.lookup x = some .local := by first | exact .inl rfl | exact .inr rfl | assumption) (hf' : X.fn y = true ∨ X.env.scope.names.lookup y = some .local := by first | exact .inl rfl | exact .inr rfl | assumption)
    (hs : (assignEach [Expr.Name x p1, Expr.Name y p2] X.env).map (·.2) = assign (Expr.Name x p1) X.env :: (assignEach [Expr.Name y p2] X.env).map (·.2) := by rfl) (hs2 : (assignEach [Expr.Name y p2] X.env).map (·.2) = assign (Expr.Name y p2) X.env :: (assignEach [] X.env).map (·.2) := by rfl)
    (hn : (assignEach [Expr.Name x p1, Expr.Name y p2] X.env).length = 2 := by rfl) (hst : (assignEach [Expr.Name x p1, Expr.Name y p2] X.env).findIdx? (·.1) = none := by rfl) :
    PG X (.Tuple [.Name x p1, .Name y p2] k p3) (gTup X.K 2 (gCons (gName i) (gCons (gName j) gNil))) :=
  pg_tup hc (pgs_cons (pg_name hN hi hx hf) (pgs_cons (pg_name hN hj hy hf') pgs_nil hs2) hs) hn hst
end

/-! ### iterables -/
/-- the items of a value, turn by turn -/
def itV : D → Nxt D := fun d i st => match d with
  | .ref n => match st[n]? with
    | some (.lst ds) => some ds[i]?
    | _ => none
  | .tup ds => some ds[i]?
  | .frl ds => some ds[i]?
  | _ => none
def iterV : D → M (Nxt D) := fun d => bnd (readQ d) fun _ => ret (itV d)
def itL (ds : List D) : Nxt D := fun i _ => some ds[i]?
def iterL : List D → M (Nxt D) := fun ds => ret (itL ds)
def itR (lo : Int) (n : Nat) : Nxt D := fun i _ => some (if i < n then some (.int (lo + (i : Nat))) else none)
def itRC (lo c : Int) (n : Nat) : Nxt D := fun i _ => some (if i < n then some (.int (lo + (i : Nat) * c)) else none)
def okR (j : Int) : Bool := decide (-(2 ^ 62) ≤ j) && decide (j < 2 ^ 62)
def iterR1 : D → M (Nxt D) := fun d st => match d with
  | .int j => if okR j = true then .ok (itR 0 j.toNat) st else .no
  | _ => .no
def iterR2 : D → D → M (Nxt D) := fun a b st => match a, b with
  | .int i, .int j => if (okR i && okR j) = true then .ok (itR i (j - i).toNat) st else .no
  | _, _ => .no
def numItems (nxt : Nxt D) : Nxt (D × D) := fun i st => (nxt i st).map fun o => o.map fun d => (.int (i : Nat), d)
def enumV : D → M (Nxt (D × D)) := fun d => bnd (readQ d) fun _ => ret (numItems (itV d))
def enumL : List D → M (Nxt (D × D)) := fun ds => ret (numItems (itL ds))
section
variable {X : Cx} {E : ExW} {tg e : Expr} {md : Ev → M D} {m : Ev → M (List D)}
theorem itl_at {K : PySem.W.Frag} {ι : List Addr} {H : Hp} {a : Addr} {vs : List V} {ds : List D} {i : Nat} (h : SqL K H a vs) (r : RpL K ι H vs ds) : ItAt (YV K) ι H (Itl K a) i (some ds[i]?) := by
  cases e : ds[i]? with
  | some d =>
    obtain ⟨v, hv, q⟩ := r.get e
    refine ⟨⟨vs, v, h, hv⟩, fun x H2 y => ⟨y.1, ?_⟩⟩
    have := y.2 vs h
    rw [hv] at this; cases this
    exact q
  | none => exact ⟨vs, h, by rw [r.length]; exact List.getElem?_eq_none_iff.mp e⟩
theorem itt_at {K : PySem.W.Frag} {ι : List Addr} {H : Hp} {a : Addr} {vs : List V} {ds : List D} {i : Nat} (h : SqT K H a vs) (r : RpL K ι H vs ds) : ItAt (YV K) ι H (Itt K a) i (some ds[i]?) := by
  cases e : ds[i]? with
  | some d =>
    obtain ⟨v, hv, q⟩ := r.get e
    refine ⟨⟨vs, v, h, hv⟩, fun x H2 y => ⟨y.1, ?_⟩⟩
    have := y.2 vs h
    rw [hv] at this; cases this
    exact q
  | none => exact ⟨vs, h, by rw [r.length]; exact List.getElem?_eq_none_iff.mp e⟩
theorem ite_at {K : PySem.W.Frag} {ι : List Addr} {H : Hp} {a : Addr} {vs : List V} {ds : List D} {i : Nat} {n : Nxt D} {st : Store} (hn : n i st = some ds[i]?) (h : SqL K H a vs) (r : RpL K ι H vs ds) : ItAt (YP K) ι H (Ite K a) i (numItems n i st) := by
  unfold numItems
  rw [hn]
  cases e : ds[i]? with
  | some d =>
    obtain ⟨v, hv, q⟩ := r.get e
    refine ⟨⟨vs, v, h, hv⟩, fun x H2 y => ?_⟩
    obtain ⟨T, z, rfl, hT, rfl, hx⟩ := y
    have := hx vs h
    rw [hv] at this; cases this
    exact ⟨T, _, rfl, hT, rfl, RpL.cons Rp.mkInt (RpL.cons q RpL.nil)⟩
  | none => exact ⟨vs, h, by rw [r.length]; exact List.getElem?_eq_none_iff.mp e⟩
theorem itet_at {K : PySem.W.Frag} {ι : List Addr} {H : Hp} {a : Addr} {vs : List V} {ds : List D} {i : Nat} {n : Nxt D} {st : Store} (hn : n i st = some ds[i]?) (h : SqT K H a vs) (r : RpL K ι H vs ds) : ItAt (YP K) ι H (IteT K a) i (numItems n i st) := by
  unfold numItems
  rw [hn]
  cases e : ds[i]? with
  | some d =>
    obtain ⟨v, hv, q⟩ := r.get e
    refine ⟨⟨vs, v, h, hv⟩, fun x H2 y => ?_⟩
    obtain ⟨T, z, rfl, hT, rfl, hx⟩ := y
    have := hx vs h
    rw [hv] at this; cases this
    exact ⟨T, _, rfl, hT, rfl, RpL.cons Rp.mkInt (RpL.cons q RpL.nil)⟩
  | none => exact ⟨vs, h, by rw [r.length]; exact List.getElem?_eq_none_iff.mp e⟩
/-- a value is walked -/
theorem seq_ok {K : PySem.W.Frag} {ι : List Addr} {H : Hp} {st : Store} {α : Type} {Y : YRel α} {F : Nxt D → Nxt α} {JL JT : PySem.W.Frag → Addr → It} {v : V} {d : D} {Q : List D → Store → Prop} {R : It → Hp → Prop}
    (hl : ∀ (ι : List Addr) (H : Hp) (a : Addr) (vs : List V) (ds : List D) (i : Nat) (n : Nxt D) (st : Store), n i st = some ds[i]? → SqL K H a vs → RpL K ι H vs ds → ItAt Y ι H (JL K a) i (F n i st))
    (ht : ∀ (ι : List Addr) (H : Hp) (a : Addr) (vs : List V) (ds : List D) (i : Nat) (n : Nxt D) (st : Store), n i st = some ds[i]? → SqT K H a vs → RpL K ι H vs ds → ItAt Y ι H (JT K a) i (F n i st))
    (hF : ∀ n i st, n i st = none → F n i st = none)
    (S : RelS K ι H st) (r : Rp K ι H v d) (h : wp (readQ d st) Q E) (hR : ∀ J, ItOk K Y ι H J (F (itV d)) → R J H) : ∃ a, v = .ref a ∧ ((∃ xs, SqL K H a xs ∧ R (JL K a) H) ∨ (∃ xs, SqT K H a xs ∧ R (JT K a) H)) := by
  unfold readQ at h
  split at h
  · rename_i n
    split at h
    · rename_i ds e
      obtain ⟨p, rfl, hp⟩ := Rp.ref_inv r
      obtain ⟨xs, h1, h2⟩ := S.lst hp e
      refine ⟨p, rfl, .inl ⟨xs, SqL.of h1, hR _ fun i ι1 H1 st1 x1 _ S1 => ?_⟩⟩
      cases e1 : st1[n]? with
      | none => rw [hF _ _ _ (show itV (.ref n) i st1 = none by simp only [itV, e1])]; trivial
      | some o =>
        cases o with
        | lst es =>
          obtain ⟨ys, q1, q2⟩ := S1.lst (x1.get _ _ hp) e1
          exact hl ι1 H1 p ys es i _ st1 (by simp only [itV, e1]) (SqL.of q1) q2
        | dT es => rw [hF _ _ _ (show itV (.ref n) i st1 = none by simp only [itV, e1])]; trivial
        | dK es => rw [hF _ _ _ (show itV (.ref n) i st1 = none by simp only [itV, e1])]; trivial
    · exact h.elim
  · rename_i ds
    obtain ⟨a, xs, rfl, h1, h2⟩ := Rp.tup_inv r
    exact ⟨a, rfl, .inr ⟨xs, h1.to, hR _ fun i ι1 H1 st1 x1 _ S1 => ht ι1 H1 a xs ds i _ st1 rfl (x1.sqt h1).to (x1.rpl h2)⟩⟩
  · rename_i ds
    obtain ⟨a, xs, rfl, h1, h2⟩ := Rp.frl_inv r
    exact ⟨a, rfl, .inl ⟨xs, h1.to, hR _ fun i ι1 H1 st1 x1 _ S1 => hl ι1 H1 a xs ds i _ st1 rfl (x1.sql h1).to (x1.rpl h2)⟩⟩
  · exact h.elim
/-- for x in v -/
theorem gi_v (h : PE X e (tD X.K E md)) : PI X tg e (tIt X.K E (YV X.K) (un1 iterV md)) := PI.wk (pi_seq h) fun σ H R h => by
  obtain ⟨ι, env, st, RR, h⟩ := h
  refine ⟨ι, env, st, RR, wp_mono (wp_bnd h) fun d st1 h1 ι1 H1 v x1 S1 r1 => ?_⟩
  have h2 : wp (readQ d st1) (fun _ st2 => wp ((ret (itV d) : M (Nxt D)) st2) (fun nxt st' => ∀ ι' H' J, Ext ι H ι' H' → RelS X.K ι' H' st' → ItOk X.K (YV X.K) ι' H' J nxt → R J H') E) E := wp_bnd h1
  refine seq_ok (F := id) (JL := Itl) (JT := Itt) (Y := YV X.K) (fun ι H a vs ds i n st hn q r => by rw [show id n i st = n i st from rfl, hn]; exact itl_at q r) (fun ι H a vs ds i n st hn q r => by rw [show id n i st = n i st from rfl, hn]; exact itt_at q r) (fun _ _ _ h => h) S1 r1 h2 fun J hJ => ?_
  have h3 : st1 = st1 ∧ wp ((ret (itV d) : M (Nxt D)) st1) (fun nxt st' => ∀ ι' H' J, Ext ι H ι' H' → RelS X.K ι' H' st' → ItOk X.K (YV X.K) ι' H' J nxt → R J H') E := ⟨rfl, by
    unfold readQ at h2
    split at h2
    · split at h2
      · exact h2
      · exact h2.elim
    · exact h2
    · exact h2
    · exact h2.elim⟩
  exact h3.2 ι1 H1 J x1 S1 hJ
theorem gi_enumV {elts : List Expr} {kk : Nat} {tpos p pos : Pos} (hg : Gl X "enumerate") (hm : X.mg "enumerate" = none) (h : PE X e (tD X.K E md)) (na : starEach [e] X.env = (false, eval e X.env) :: starEach [] X.env := by rfl) :
    PI X (.Tuple elts kk tpos) (.Call (.Name "enumerate" p) [e] [] pos) (tIt X.K E (YP X.K) (un1 enumV md)) := PI.wk (pi_enumA hg hm h na) fun σ H R h => by
  obtain ⟨ι, env, st, RR, h⟩ := h
  refine ⟨ι, env, st, RR, wp_mono (wp_bnd h) fun d st1 h1 ι1 H1 v x1 S1 r1 => ?_⟩
  have h2 : wp (readQ d st1) (fun _ st2 => wp ((ret (numItems (itV d)) : M (Nxt (D × D))) st2) (fun nxt st' => ∀ ι' H' J, Ext ι H ι' H' → RelS X.K ι' H' st' → ItOk X.K (YP X.K) ι' H' J nxt → R J H') E) E := wp_bnd h1
  refine seq_ok (F := numItems) (JL := Ite) (JT := IteT) (Y := YP X.K) (fun ι H a vs ds i n st hn q r => ite_at hn q r) (fun ι H a vs ds i n st hn q r => itet_at hn q r) (fun n i st h => by unfold numItems; rw [h]; rfl) S1 r1 h2 fun J hJ => ?_
  have h3 : wp ((ret (numItems (itV d)) : M (Nxt (D × D))) st1) (fun nxt st' => ∀ ι' H' J, Ext ι H ι' H' → RelS X.K ι' H' st' → ItOk X.K (YP X.K) ι' H' J nxt → R J H') E := by
    unfold readQ at h2
    split at h2
    · split at h2
      · exact h2
      · exact h2.elim
    · exact h2
    · exact h2
    · exact h2.elim
  exact h3 ι1 H1 J x1 S1 hJ
/-- a fresh list is walked -/
theorem gi_l (h : PE X e (tLs X.K E m)) : PI X tg e (tIt X.K E (YV X.K) (un1 iterL m)) := PI.wk (pi_seq h) fun σ H R h => by
  obtain ⟨ι, env, st, RR, h⟩ := h
  refine ⟨ι, env, st, RR, wp_mono (wp_bnd h) fun d st1 h1 ι1 H1 v x1 S1 r1 => ?_⟩
  obtain ⟨p, vs, rfl, hp, np, _, r⟩ := r1
  refine ⟨p, rfl, .inl ⟨vs, SqL.of hp, h1 ι1 H1 _ x1 S1 fun i ι2 H2 st2 x2 keep S2 => ?_⟩⟩
  exact itl_at (ds := d) (SqL.of (keep p vs hp np).2) (x2.rpl r)
theorem gi_enumL {elts : List Expr} {kk : Nat} {tpos p pos : Pos} (hg : Gl X "enumerate") (hm : X.mg "enumerate" = none) (h : PE X e (tLs X.K E m)) (na : starEach [e] X.env = (false, eval e X.env) :: starEach [] X.env := by rfl) :
    PI X (.Tuple elts kk tpos) (.Call (.Name "enumerate" p) [e] [] pos) (tIt X.K E (YP X.K) (un1 enumL m)) := PI.wk (pi_enumA hg hm h na) fun σ H R h => by
  obtain ⟨ι, env, st, RR, h⟩ := h
  refine ⟨ι, env, st, RR, wp_mono (wp_bnd h) fun d st1 h1 ι1 H1 v x1 S1 r1 => ?_⟩
  obtain ⟨p, vs, rfl, hp, np, _, r⟩ := r1
  refine ⟨p, rfl, .inl ⟨vs, SqL.of hp, h1 ι1 H1 _ x1 S1 fun i ι2 H2 st2 x2 keep S2 => ?_⟩⟩
  exact ite_at (ds := d) (n := itL d) rfl (SqL.of (keep p vs hp np).2) (x2.rpl r)
theorem okR_of {j : Int} (h : okR j = true) : -(2 ^ 62) ≤ j ∧ j < 2 ^ 62 := by simpa [okR] using h
theorem itr_ok {K : PySem.W.Frag} {ι : List Addr} {H : Hp} {lo : Int} {n : Nat} : ItOk K (YV K) ι H (Itr lo n) (itR lo n) := fun i ι1 H1 st1 _ _ _ => by
  unfold itR
  by_cases h : i < n
  · rw [if_pos h]
    exact ⟨h, fun x H2 y => ⟨y.1, by rw [y.2]; exact Rp.mkInt⟩⟩
  · rw [if_neg h]
    exact Nat.le_of_not_lt h
theorem gi_range1 {p pos : Pos} (hg : Gl X "range") (hm : X.mg "range" = none) (h : PE X e (tD X.K E md)) (hs : starEach [e] X.env = [(false, eval e X.env)] := by rfl) (na : starEach [e] X.env = (false, eval e X.env) :: starEach [] X.env := by rfl) : PI X tg (.Call (.Name "range" p) [e] [] pos) (tIt X.K E (YV X.K) (un1 iterR1 md)) :=
  PI.wk (pi_range1 hg hm (pa_cons h pa_nil na) hs) fun σ H R h => by
    obtain ⟨ι, env, st, RR, h⟩ := h
    refine ⟨ι, env, st, RR, wp_mono (wp_bnd h) fun d st1 h1 ι1 H1 v x1 S1 r1 => ?_⟩
    unfold iterR1 at h1
    split at h1
    · split at h1
      · rename_i j hj
        exact ⟨j, by rw [Rp.int_inv r1], (okR_of hj).1, (okR_of hj).2, h1 ι1 H1 _ x1 S1 itr_ok⟩
      · exact h1.elim
    · exact h1.elim
theorem gi_range2 {e2 : Expr} {m2 : Ev → M D} {p pos : Pos} (hg : Gl X "range") (hm : X.mg "range" = none) (h : PE X e (tD X.K E md)) (h' : PE X e2 (tD X.K E m2)) (hs : starEach [e, e2] X.env = [(false, eval e X.env), (false, eval e2 X.env)] := by rfl) (hs2 : starEach [e2] X.env = [(false, eval e2 X.env)] := by rfl) (na : starEach [e, e2] X.env = (false, eval e X.env) :: starEach [e2] X.env := by rfl) (na2 : starEach [e2] X.env = (false, eval e2 X.env) :: starEach [] X.env := by rfl) :
    PI X tg (.Call (.Name "range" p) [e, e2] [] pos) (tIt X.K E (YV X.K) (bin iterR2 md m2)) :=
  PI.wk (pi_range2 hg hm (pa_cons h (pa_cons h' pa_nil na2) na) hs hs2) fun σ H R h => by
    obtain ⟨ι, env, st, RR, h⟩ := h
    refine ⟨ι, env, st, RR, wp_mono (wp_bnd h) fun a st1 h1 ι1 H1 v x1 S1 r1 => ?_⟩
    refine ⟨ι1, env, st1, RR.to x1 S1, wp_mono (wp_bnd h1) fun b st2 h2 ι2 H2 w x2 S2 r2 => ?_⟩
    unfold iterR2 at h2
    split at h2
    · split at h2
      · rename_i i j hj
        rw [Bool.and_eq_true] at hj
        exact ⟨i, j, by rw [Rp.int_inv r1, Rp.int_inv r2], ⟨(okR_of hj.1).1, (okR_of hj.1).2, (okR_of hj.2).1, (okR_of hj.2).2⟩, h2 ι2 H2 _ (x1.trans x2) S2 itr_ok⟩
      · exact h2.elim
    · exact h2.elim
end

/-! ### for -/
def forM {α : Type} (nxt : Nxt α) (asg : α → Ev → Option Ev) (body : Ev → M Out) : Nat → Nat → Ev → M Out
  | 0, _, _ => fail
  | n + 1, i, env => fun st => match nxt i st with
    | none => .no
    | some none => .ok (.nx env) st
    | some (some a) => match asg a env with
      | none => .no
      | some e1 => bnd (body e1) (fun o => match o with
        | .nx e => forM nxt asg body n (i + 1) e
        | .ct e => forM nxt asg body n (i + 1) e
        | .bk e => ret (.nx e)
        | .rt d => ret (.rt d)) st
def forS {α : Type} (mi : Ev → M (Nxt α)) (asg : α → Ev → Option Ev) (body : Ev → M Out) : Ev → M Out := fun env => bnd (mi env) fun nxt => forM nxt asg body fuel 0 env
theorem gs_for {X : Cx} {E : ExW} {α : Type} {Y : YRel α} {asg : α → Ev → Option Ev} {ws : List Nat} {g : TG} {tg iter : Expr} {body : List Stmt} {mi : Ev → M (Nxt α)} {mb : Ev → M Out} {pos : Pos} (hp : PassesOwn (model X.prog X.w) X.A X.env X.xe) (hc : X.calm = true) (hi : PI X tg iter (tIt X.K E Y mi)) (hg : PG X tg g) (ht : TgOk X.K g Y asg ws) (hb : PSs X body (tSt X.K E mb))
    (hs : ∀ x, foldedSetIterable iter X.env x = pure x := by intro _; rfl) : PS X (.For tg iter body [] pos) (tSt X.K E (forS mi asg mb)) :=
  PS.wk (ps_for hp hc hi hg hb hs) fun D σ H h => by
    obtain ⟨ι, env, s, R, h⟩ := h
    refine ⟨ι, env, s, R, wp_mono (wp_bnd h) fun nxt s1 h1 ι1 H1 J x1 S1 hJ => ?_⟩
    refine ⟨fun i m σ' H' => ∃ ι' env' s', Ext ι1 H1 ι' H' ∧ Rel X.K ι' σ' H' env' s' ∧ wp (forM nxt asg mb m i env' s') (fun o s2 => ∀ ι2 H2, Ext ι H ι2 H2 → RelS X.K ι2 H2 s2 → OutOk X.K ι2 H2 o D) E, ⟨fuel, ι1, env, s1, Ext.refl _ _, R.to x1 S1, h1⟩, ?_⟩
    rintro i m σ' H' ⟨ι', env', s', x', R', h'⟩
    cases m with
    | zero => exact h'.elim
    | succ m =>
      have hJ' := hJ i ι' H' s' x'.kp (fun a vs q n => ⟨x'.notin q n, x'.keep _ _ q n⟩) R'.s
      unfold forM at h'
      cases e : nxt i s' with
      | none => simp only [e] at h'; exact h'.elim
      | some o =>
        rw [e] at hJ'
        cases o with
        | none =>
          simp only [e] at h'
          exact .inl ⟨hJ', h' ι' H' (x1.trans x') R'.s σ' R'.e⟩
        | some a =>
          simp only [e] at h'
          refine .inr ⟨hJ'.1, fun σ2 H2 => ∃ ι2 env2 s2, Ext ι1 H1 ι2 H2 ∧ Rel X.K ι2 σ2 H2 env2 s2 ∧ wp (forM nxt asg mb m (i + 1) env2 s2) (fun o s3 => ∀ ι3 H3, Ext ι H ι3 H3 → RelS X.K ι3 H3 s3 → OutOk X.K ι3 H3 o D) E, fun σ2 H2 q => ⟨m, Nat.lt_succ_self m, q⟩, fun x H2 y => ?_⟩
          cases ea : asg a env' with
          | none => simp only [ea] at h'; exact h'.elim
          | some e1 =>
            simp only [ea] at h'
            obtain ⟨x2, S2, _, k⟩ := ht.run ι' H' s' σ' env' x H2 a e1 R'.s (hJ'.2 x H2 y) R'.e ea
            refine k _ fun σ3 R3 _ => ⟨ι', e1, s', ⟨S2, R3⟩, wp_mono (wp_bnd h') fun o s3 h3 ι3 H3 x3 S3 => ?_⟩
            have xx : Ext ι1 H1 ι3 H3 := (x'.trans x2).trans x3
            cases o with
            | nx e => exact fun σ4 r4 => ⟨ι3, e, s3, xx, ⟨S3, r4⟩, h3⟩
            | ct e => exact fun σ4 r4 => ⟨ι3, e, s3, xx, ⟨S3, r4⟩, h3⟩
            | bk e => exact fun σ4 r4 => h3 ι3 H3 (x1.trans xx) S3 σ4 r4
            | rt d => exact fun v rv => h3 ι3 H3 (x1.trans xx) S3 v rv
end L3
set_option maxHeartbeats 4000000
/-! L3g: comprehensions, calls of defs, the rule of a def, the law's end. -/
namespace L3
open PySem L2

/-! ### comprehensions -/
abbrev E0 : ExW := fun _ _ => False
def lcGo {α : Type} (nxt : Nxt α) (asg : α → Ev → Option Ev) (tt : Ev → M Bool) (el : Ev → M D) : Nat → Nat → Ev → M (List D)
  | 0, _, _ => fail
  | n + 1, i, env => fun st => match nxt i st with
    | none => .no
    | some none => .ok [] st
    | some (some a) => match asg a env with
      | none => .no
      | some e1 => bnd (quiet (tt e1)) (fun b => if b = true then bnd (quiet (el e1)) fun d => bnd (lcGo nxt asg tt el n (i + 1) env) fun ds => ret (d :: ds) else lcGo nxt asg tt el n (i + 1) env) st
def lcM {α : Type} (mi : Ev → M (Nxt α)) (asg : α → Ev → Option Ev) (tt : Ev → M Bool) (el : Ev → M D) (vs : List Nat) : Ev → M (List D) := fun env => bnd (mi env) fun nxt => bnd (lcGo nxt asg tt el fuel 0 (wipeE env vs)) mkLst
def yesM : Ev → M Bool := fun _ => ret true
theorem gts_nil {X : Cx} {E : ExW} : PTs X [] (tB X.K E yesM) := ⟨fun pins s σ H Q I h => pts_nil.run pins s σ H Q I (by
  obtain ⟨ι, env, st, R, h⟩ := h
  exact h ι H (Ext.refl _ _) R.s)⟩
theorem gts_one {X : Cx} {E : ExW} {c : Expr} {m : Ev → M Bool} (h : PT X c (tB X.K E m)) : PTs X [c] (tB X.K E m) := pts_one h
theorem PTs.wk {X : Cx} {c : List Expr} {t t' : TT} (h : PTs X c t) (w : ∀ σ H Q, t' σ H Q → t σ H Q) : PTs X c t' := ⟨fun pins s σ H Q I q => h.run pins s σ H Q I (w σ H Q q)⟩
/-- the new list's own change: no value leans on it -/
theorem kp_priv {ι : List Addr} {H : Hp} {p : Addr} {o : HO} (m : L2.Mut (H p)) : Kp ι H ι (upd H p o) :=
  ⟨fun _ _ h => h, fun a q u h n => ⟨by rw [L2.upd_ne (a := p) (b := a) (fun e => by rw [← e, h] at m; exact m)]; exact h, n⟩⟩
theorem lc_wk {K : PySem.W.Frag} {E : ExW} {α : Type} {Y : YRel α} {asg : α → Ev → Option Ev} {ws : List Nat} {g : TG} {vs : List Nat} {mi : Ev → M (Nxt α)} {mt : Ev → M Bool} {me : Ev → M D} (hw : ∀ w ∈ ws, w ∈ vs) (ht : TgOk K g Y asg ws) {σ : L2.St} {H : Hp} {Q : VK} (h : tLs K E (lcM mi asg mt me vs) σ H Q) : tLc (tIt K E Y mi) g (tB K E0 mt) (tD K E0 me) vs σ H Q := by
  obtain ⟨ι, env, s, R, h⟩ := h
  refine ⟨ι, env, s, R, wp_mono (wp_bnd h) fun nxt s1 h1 ι1 H1 J x1 S1 hJ Dd hD => ?_⟩
  have R1 : REnv K ι1 H1 σ env := R.e.ext x1
  -- W: what is made so far, the rest of the mirror's run
  refine ⟨fun i m H' => ∃ ι' s' acc av, Ext ι1 H1 ι' H' ∧ RelS K ι' H' s' ∧ REnv K ι' H' (wipe σ vs) (wipeE env vs) ∧ H' Dd = some (.lst av) ∧ Dd ∉ ι' ∧ RpL K ι' H' av acc ∧
    wp (lcGo nxt asg mt me m i (wipeE env vs) s') (fun ds s2 => (acc ++ ds).length ≤ line ∧ ∀ ι2 H2 v, Ext ι H ι2 H2 → RelS K ι2 H2 s2 → PLs K ι2 H H2 v (acc ++ ds) → Q v H2) E, ⟨fuel, ι1, s1, [], [], Ext.upd hD, S1.grow hD, (R1.wipe _).ext (Ext.upd hD), upd_same, S1.nin hD, RpL.nil, ?_⟩, ?_⟩
  · refine wp_mono (wp_bnd h1) fun ds s2 h2 => ?_
    unfold mkLst at h2
    split at h2
    · rename_i hl
      exact ⟨by simpa using hl, by rw [List.nil_append]; exact h2⟩
    · exact h2.elim
  · rintro i m H' ⟨ι', s', acc, av, x', S', R', hD', nD, ra, h'⟩
    cases m with
    | zero => exact h'.elim
    | succ m =>
      have hJ' := hJ i ι' H' s' x'.kp (fun a vs q n => ⟨x'.notin q n, x'.keep _ _ q n⟩) S'
      unfold lcGo at h'
      cases e : nxt i s' with
      | none => simp only [e] at h'; exact h'.elim
      | some o =>
        rw [e] at hJ'
        cases o with
        | none =>
          simp only [e] at h'
          refine .inl ⟨hJ', ?_⟩
          have h2 := h'.2 ι' H' (.ref Dd) (x1.trans x') S' ?_
          · exact h2
          · rw [List.append_nil]
            refine ⟨Dd, av, rfl, hD', nD, ?_, ra⟩
            cases q : H Dd with
            | none => rfl
            | some o =>
              have n0 : Dd ∉ ι := fun hc => S1.nin hD (by obtain ⟨r, hr⟩ := x1.pre; rw [← hr]; exact List.mem_append_left _ hc)
              have := x1.keep _ _ q n0
              rw [hD] at this; cases this
        | some a =>
          simp only [e] at h'
          refine .inr ⟨hJ'.1, fun H2 => ∃ ι' s' acc av, Ext ι1 H1 ι' H2 ∧ RelS K ι' H2 s' ∧ REnv K ι' H2 (wipe σ vs) (wipeE env vs) ∧ H2 Dd = some (.lst av) ∧ Dd ∉ ι' ∧ RpL K ι' H2 av acc ∧
            wp (lcGo nxt asg mt me m (i + 1) (wipeE env vs) s') (fun ds s2 => (acc ++ ds).length ≤ line ∧ ∀ ι2 H2 v, Ext ι H ι2 H2 → RelS K ι2 H2 s2 → PLs K ι2 H H2 v (acc ++ ds) → Q v H2) E, fun H2 q => ⟨m, Nat.lt_succ_self m, q⟩, fun x H2 y => ?_⟩
          cases ea : asg a (wipeE env vs) with
          | none => simp only [ea] at h'; exact h'.elim
          | some e1 =>
            simp only [ea] at h'
            obtain ⟨x2, S2, keep2, k⟩ := ht.run ι' H' s' _ _ x H2 a e1 S' (hJ'.2 x H2 y) R' ea
            refine k _ fun σ3 R3 hw3 => ⟨?_, ?_⟩
            · rw [hw3 _ hw]
              have : ∀ (vs us : List Nat), (∀ v ∈ vs, v ∈ us) → wipe (wipe σ us) vs = wipe σ us := by
                intro vs us
                induction vs with
                | nil => intro _; rfl
                | cons w vs ih =>
                  intro hv
                  rw [show wipe (wipe σ us) (w :: vs) = (wipe (wipe σ us) vs).set w none from rfl, ih fun v h => hv v (List.mem_cons_of_mem _ h)]
                  have hu : ∀ {us : List Nat}, w ∈ us → (wipe σ us).set w none = wipe σ us := by
                    intro us
                    induction us with
                    | nil => intro h; cases h
                    | cons z us ih =>
                      intro h
                      unfold wipe
                      by_cases hz : w = z
                      · subst hz; rw [List.set_set]
                      · rw [List.set_comm _ _ (fun e => hz e.symm), ih (by rcases List.mem_cons.mp h with q | q; exact absurd q hz; exact q)]
                  exact hu (hv w List.mem_cons_self)
              exact this _ _ fun v h => h
            · refine ⟨ι', e1, s', ⟨S2, R3⟩, wp_mono (wp_quiet (wp_bnd h')) fun b s3 h3 ι3 H3 x3 S3 => ?_⟩
              have xx : Ext ι1 H1 ι3 H3 := (x'.trans x2).trans x3
              have xs : Ext ι' H' ι3 H3 := x2.trans x3
              cases b with
              | false =>
                rw [if_neg Bool.false_ne_true] at h3
                refine iteF ?_
                exact ⟨ι3, s3, acc, av, xx, S3, R'.ext xs, xs.keep _ _ hD' nD, xs.notin hD' nD, xs.rpl ra, h3⟩
              | true =>
                rw [if_pos rfl] at h3
                refine iteT ?_
                refine ⟨ι3, e1, s3, ⟨S3, R3.ext x3⟩, wp_mono (wp_quiet (wp_bnd h3)) fun d s4 h4 ι4 H4 v x4 S4 r4 => ?_⟩
                have xs4 : Ext ι' H' ι4 H4 := xs.trans x4
                have hD4 := xs4.keep _ _ hD' nD
                have nD4 := xs4.notin hD' nD
                have h5 := wp_bnd h4
                have hlen : acc.length < line := by
                  cases q : lcGo nxt asg mt me m (i + 1) (wipeE env vs) s4 with
                  | ok ds s5 =>
                    rw [q] at h5
                    have := h5.1
                    simp only [List.length_append, List.length_cons] at this
                    omega
                  | exc e s5 =>
                    -- nothing is raised within
                    exfalso
                    have no : ∀ (m i : Nat) (s : Store) (e : Exn) (s5 : Store), lcGo nxt asg mt me m i (wipeE env vs) s ≠ .exc e s5 := by
                      intro m
                      induction m with
                      | zero => intro i s e s5 q; cases q
                      | succ m ih =>
                        intro i s e s5 q
                        unfold lcGo at q
                        split at q
                        · cases q
                        · cases q
                        · split at q
                          · cases q
                          · rename_i e1 _
                            unfold bnd quiet at q
                            cases h1 : mt e1 s with
                            | ok b t =>
                              simp only [h1] at q
                              cases b with
                              | false => exact ih _ _ _ _ q
                              | true =>
                                simp only [if_true] at q
                                cases h2 : me e1 t with
                                | ok d u =>
                                  simp only [h2] at q
                                  cases h3 : lcGo nxt asg mt me m (i + 1) (wipeE env vs) u with
                                  | ok ds w => simp only [h3] at q; cases q
                                  | exc e' w => exact ih _ _ _ _ h3
                                  | no => simp only [h3] at q; cases q
                                | exc e' u => simp only [h2] at q; cases q
                                | no => simp only [h2] at q; cases q
                            | exc e' t => simp only [h1] at q; cases q
                            | no => simp only [h1] at q; cases q
                    exact no _ _ _ _ _ q
                  | no => rw [q] at h5; exact h5.elim
                refine ⟨av, hD4, by rw [ra.length, line_eq]; exact hlen, ?_⟩
                have kp : Kp ι4 H4 ι4 (upd H4 Dd (.lst (av ++ [v]))) := kp_priv (by rw [hD4]; trivial)
                have xD : Ext ι1 H1 ι4 (upd H4 Dd (.lst (av ++ [v]))) := by
                  have y := xx.trans x4
                  refine ⟨y.pre, fun a o ho n => ?_, y.new⟩
                  rw [L2.upd_ne (a := Dd) (b := a) (fun e => by rw [e, hD] at ho; cases ho)]
                  exact y.keep a o ho n
                refine ⟨ι4, s4, acc ++ [d], av ++ [v], xD, S4.kp kp fun a ha => L2.upd_ne fun e => nD4 (e ▸ ha), (R'.ext xs4).kp kp, upd_same, nD4, kp.rpl ((xs4.rpl ra).append (RpL.cons r4 RpL.nil)), ?_⟩
                refine wp_mono h5 fun ds s5 h6 => ?_
                have e6 : acc ++ d :: ds = acc ++ [d] ++ ds := by simp
                have h6' : (acc ++ d :: ds).length ≤ line ∧ ∀ ι2 H2 v, Ext ι H ι2 H2 → RelS K ι2 H2 s5 → PLs K ι2 H H2 v (acc ++ d :: ds) → Q v H2 := h6
                rw [e6] at h6'
                exact h6'
theorem ge_lc {X : Cx} {E : ExW} {α : Type} {Y : YRel α} {asg : α → Ev → Option Ev} {ws : List Nat} {g : TG} {elt tg iter : Expr} {ifs : List Expr} {scope : Scope} {own : List (Str × Nat)} {pos : Pos} {mi : Ev → M (Nxt α)} {mt : Ev → M Bool} {me : Ev → M D} (hc : X.calm = true) (hN : X.N.Nodup) (hi : PI X tg iter (tIt X.K E Y mi)) (ok : BlkOk X.N X.env.scope scope own)
    (hw : ∀ w ∈ ws, w ∈ own.map (·.2)) (hg : ∀ (s : Shared) (H : Hp) (C : Addr) (cl : List (Str × Addr)) (fp : List Addr), PG (X.blk s H scope (compEnvC scope cl C X.env) fp) tg g) (ht : TgOk X.K g Y asg ws) (htt : ∀ (s : Shared) (H : Hp) (C : Addr) (cl : List (Str × Addr)) (fp : List Addr), PTs (X.blk s H scope (compEnvC scope cl C X.env) fp) ifs (tB X.K E0 mt))
    (he : ∀ (s : Shared) (H : Hp) (C : Addr) (cl : List (Str × Addr)) (fp : List Addr), PE (X.blk s H scope (compEnvC scope cl C X.env) fp) elt (tD X.K E0 me)) (hs : ∀ x, foldedSetIterable iter X.env x = pure x := by intro _; rfl) :
    PE X (.ListComp elt [⟨tg, iter, ifs, 0⟩] scope pos) (tLs X.K E (lcM mi asg mt me (own.map (·.2)))) :=
  PE.wk (pe_lc hc hN hi ok hg htt he hs) fun σ H Q h => lc_wk hw ht h

/-! ### what a def promises -/
/-- the mirror m of a def, its results laid as P says -/
def spX {α : Type} (K : PySem.W.Frag) (P : List Addr → Hp → Hp → V → α → Prop) (m : List D → M α) (n : Nat) : Sp := fun vs H Q _ => ∃ ι st ds, RelS K ι H st ∧ RpL K ι H vs ds ∧ ds.length = n ∧ wp (m ds st) (fun d st' => ∀ ι' H' v, Ext ι H ι' H' → RelS K ι' H' st' → P ι' H H' v d → Q v H') E0
/-- f(a, ..) -/
def callM {α : Type} (m : List D → M α) (n : Nat) (ma : Ev → M (List D)) : Ev → M α := fun env => bnd (ma env) fun ds => if ds.length = n then quiet (m ds) else fail
section
variable {X : Cx} {E : ExW} {α : Type} {P : List Addr → Hp → Hp → V → α → Prop} {k n : Nat} {f : Addr} {fd : FuncData} {ps : List Str} {x : Str} {p pos : Pos} {e : Expr} {es : List Expr} {m : List D → M α} {ma : Ev → M (List D)}
theorem ge_call (o : Older P) (F : FnOk X.prog X.w X.K X.mg X.base CX0 k f fd ps (spX X.K P m n)) (hr : Room k X.A) (hg : Gl X x) (hm : X.mg x = some (.ref f)) (hk : PySem.W.keepIn X.K (.ref f) = true) (hb : Binds X.K fd ps []) (ha : PA X (e :: es) (tAr X.K E ma))
    (hdb : (x == ("__debug__" : Str)) = false := by decide) (he : starEach (e :: es) X.env = (false, eval e X.env) :: starEach es X.env := by rfl) (hpl : (backTo pos (starEach es X.env)).any (·.1) = false := by rfl) :
    PE X (.Call (.Name x p) (e :: es) [] pos) (tX X.K E P (callM m n ma)) :=
  PE.wk (pe_call F hr hg hm hk hb .nil pass0 ha hdb he hpl) fun σ H Q h => by
    obtain ⟨ι, env, st, R, h⟩ := h
    refine ⟨ι, env, st, R, wp_mono (wp_bnd h) fun ds st1 h1 ι1 H1 vs x1 S1 r1 => ?_⟩
    split at h1
    · rename_i hn
      rw [List.append_nil]
      exact ⟨ι1, st1, ds, S1, r1, hn, wp_mono (wp_quiet h1) fun d st2 h2 ι2 H2 v x2 S2 r2 => h2 ι2 H2 v (x1.trans x2) S2 (o _ _ _ _ _ _ _ _ x1 x2 r2)⟩
    · exact h1.elim
theorem ge_call0 (o : Older P) (F : FnOk X.prog X.w X.K X.mg X.base CX0 k f fd ps (spX X.K P m n)) (hr : Room k X.A) (hg : Gl X x) (hm : X.mg x = some (.ref f)) (hk : PySem.W.keepIn X.K (.ref f) = true) (hb : Binds X.K fd ps [])
    (hdb : (x == ("__debug__" : Str)) = false := by decide) : PE X (.Call (.Name x p) [] [] pos) (tX X.K E P (callM m n nilA)) :=
  PE.wk (pe_call0 F hr hg hm hk hb .nil pass0 hdb) fun σ H Q h => by
    obtain ⟨ι, env, st, R, h⟩ := h
    have h : wp ((if ([] : List D).length = n then quiet (m []) else fail) st) _ E := h
    split at h
    · rename_i hn
      exact ⟨ι, st, [], R.s, RpL.nil, hn, wp_mono (wp_quiet h) fun d st2 h2 ι2 H2 v x2 S2 r2 => h2 ι2 H2 v x2 S2 r2⟩
    · exact h.elim
/-- keywords: their values by a permutation into the parameters' order -/
def pick (is : List Nat) (ds : List D) : List D := is.filterMap fun i => ds[i]?
def pickV {β : Type} (is : List Nat) (ds : List β) : List β := is.filterMap fun i => ds[i]?
def callK {α : Type} (m : List D → M α) (n n0 nk : Nat) (is : List Nat) (ma mk : Ev → M (List D)) : Ev → M α := fun env => bnd (ma env) fun ds => bnd (mk env) fun ks => if ds.length = n0 ∧ ks.length = nk ∧ (ds ++ pick is ks).length = n then quiet (m (ds ++ pick is ks)) else fail
theorem RpL.pick {K : PySem.W.Frag} {ι : List Addr} {H : Hp} {vs : List V} {ds : List D} (r : RpL K ι H vs ds) : ∀ is : List Nat, RpL K ι H (pickV is vs) (L3.pick is ds)
  | [] => RpL.nil
  | i :: is => by
    unfold pickV L3.pick
    simp only [List.filterMap_cons]
    cases q : ds[i]? with
    | none =>
      have hv : vs[i]? = none := by
        rw [List.getElem?_eq_none_iff] at q ⊢
        rw [r.length]; exact q
      rw [hv]
      exact RpL.pick r is
    | some d =>
      obtain ⟨v, hv, rv⟩ := r.get q
      rw [hv]
      exact RpL.cons rv (RpL.pick r is)
theorem Vals.pick {vs : List V} {us : List Value} (r : Vals vs us) : ∀ is : List Nat, Vals (pickV is vs) (pickV is us)
  | [] => .nil
  | i :: is => by
    unfold pickV
    simp only [List.filterMap_cons]
    cases q : vs[i]? with
    | none =>
      rw [r.none_of q]
      exact Vals.pick r is
    | some v =>
      obtain ⟨u, hu, ru⟩ := r.get q
      rw [hu]
      exact .cons ru (Vals.pick r is)
/-- how keywords bind: ks in the order written, is: the place of each parameter's value among them -/
def KBk (K : PySem.W.Frag) (fd : FuncData) (ps ks : List Str) (n : Nat) (is : List Nat) : Prop := ∀ (s : Shared) (us ws : List Value), K.In s.heap → us.length = n → ws.length = ks.length → BindsTo s fd ⟨us, ks.zip ws⟩ (ps.zip (us ++ pickV is ws))
open PyProof.Rows in
theorem pe_callK0 {kws : List Keyword} {tk : TA} {sp : Sp} {ks : List Str} {is : List Nat} (F : FnOk X.prog X.w X.K X.mg X.base CX0 k f fd ps sp) (hr : Room k X.A) (hg : Gl X x) (hm : X.mg x = some (.ref f)) (hk : PySem.W.keepIn X.K (.ref f) = true) (hb : KBk X.K fd ps ks 0 is)
    (hkw : PK X kws tk) (hall : (backToKw pos (keywordEach kws X.env)).all (·.1.isSome) = true) (hks : (backToKw pos (keywordEach kws X.env)).filterMap (·.1) = ks)
    (hdb : (x == ("__debug__" : Str)) = false) (hpl : ((([] : List (Bool × Sem Value))).any (·.1) || (backToKw pos (keywordEach kws X.env)).any (·.1.isNone)) = false) :
    PE X (.Call (.Name x p) [] kws pos) (fun σ H Q => tk σ H fun zs H2 => zs.length = ks.length ∧ sp (pickV is zs) H2 Q L2.E0) := by
  refine ⟨fun pins s σ H Q I h => ?_⟩
  refine wpAny_Call_Name_kw (ld_glob I hg hm ?_ hdb)
  refine PySem.W.callWith_KW0 (h₀ := X.base) I.ok.mod.kin hk hall (thn (hkw.run pos pins s σ H _ I h) fun ws s2 ⟨zs, H2, I2, rz, hl, q2⟩ => ⟨I2.kIn, ?_⟩) hpl
  rw [hks]
  have r2 := Vals.pick rz is
  have hlen : (pickV is ws).length = ps.length := by rw [← r2.length]; exact F.len _ _ _ _ q2
  have hb2 := hb s2 [] ws I2.kIn rfl (by rw [← rz.length]; exact hl)
  refine wpAny_call (codeAny_mono (F.run X.A X.stack s2 H2 ⟨[], ks.zip ws⟩ (pickV is ws) (pickV is zs) Q L2.E0 hr I2.env0 hb2 r2 q2) fun r s' hq => ?_)
  cases r with
  | error e => exact pass0 pins σ H2 s2 e s' I2 hq
  | ok fl =>
    cases fl with
    | ret u => exact I2.after hq
    | next => exact False.elim hq
    | brk => exact False.elim hq
    | cont => exact False.elim hq
open PyProof.Rows in
theorem pe_callK1 {kws : List Keyword} {ta tk : TA} {sp : Sp} {ks : List Str} {is : List Nat} {n0 : Nat} (F : FnOk X.prog X.w X.K X.mg X.base CX0 k f fd ps sp) (hr : Room k X.A) (hg : Gl X x) (hm : X.mg x = some (.ref f)) (hk : PySem.W.keepIn X.K (.ref f) = true) (hb : KBk X.K fd ps ks n0 is)
    (ha : PA X (e :: es) ta) (hkw : PK X kws tk) (hall : (backToKw pos (keywordEach kws X.env)).all (·.1.isSome) = true) (hks : (backToKw pos (keywordEach kws X.env)).filterMap (·.1) = ks)
    (hdb : (x == ("__debug__" : Str)) = false) (he : starEach (e :: es) X.env = (false, eval e X.env) :: starEach es X.env)
    (hpl : ((backTo pos (starEach (e :: es) X.env)).any (·.1) || (backToKw pos (keywordEach kws X.env)).any (·.1.isNone)) = false) :
    PE X (.Call (.Name x p) (e :: es) kws pos) (fun σ H Q => ta σ H fun vs H1 => tk σ H1 fun zs H2 => vs.length = n0 ∧ zs.length = ks.length ∧ sp (vs ++ pickV is zs) H2 Q L2.E0) := by
  refine ⟨fun pins s σ H Q I h => ?_⟩
  refine wpAny_Call_Name_kw (ld_glob I hg hm ?_ hdb)
  refine PySem.W.callWith_KW (h₀ := X.base) I.ok.mod.kin hk hall (thn (ha.run pos pins s σ H _ I h) fun us s1 ⟨vs, H1, I1, r, q⟩ => ?_) hpl he
  refine thn (hkw.run pos pins s1 σ H1 _ I1 q) fun ws s2 ⟨zs, H2, I2, rz, hl1, hl, q2⟩ => ⟨I2.kIn, ?_⟩
  rw [hks]
  have r2 := r.append (Vals.pick rz is)
  have hb2 := hb s2 us ws I2.kIn (by rw [← r.length]; exact hl1) (by rw [← rz.length]; exact hl)
  refine wpAny_call (codeAny_mono (F.run X.A X.stack s2 H2 ⟨us, ks.zip ws⟩ (us ++ pickV is ws) (vs ++ pickV is zs) Q L2.E0 hr I2.env0 hb2 r2 q2) fun r s' hq => ?_)
  cases r with
  | error e => exact pass0 pins σ H2 s2 e s' I2 hq
  | ok fl =>
    cases fl with
    | ret u => exact I2.after hq
    | next => exact False.elim hq
    | brk => exact False.elim hq
    | cont => exact False.elim hq
/-- f(k = v, ..) -/
theorem ge_callK0 {kws : List Keyword} {mk : Ev → M (List D)} {ks : List Str} {is : List Nat} (o : Older P) (F : FnOk X.prog X.w X.K X.mg X.base CX0 k f fd ps (spX X.K P m n)) (hr : Room k X.A) (hg : Gl X x) (hm : X.mg x = some (.ref f)) (hk : PySem.W.keepIn X.K (.ref f) = true) (hb : KBk X.K fd ps ks 0 is)
    (hkw : PK X kws (tAr X.K E mk)) (hall : (backToKw pos (keywordEach kws X.env)).all (·.1.isSome) = true := by rfl) (hks : (backToKw pos (keywordEach kws X.env)).filterMap (·.1) = ks := by rfl)
    (hdb : (x == ("__debug__" : Str)) = false := by decide) (hpl : ((([] : List (Bool × Sem Value))).any (·.1) || (backToKw pos (keywordEach kws X.env)).any (·.1.isNone)) = false := by rfl) :
    PE X (.Call (.Name x p) [] kws pos) (tX X.K E P (callK m n 0 ks.length is nilA mk)) :=
  PE.wk (pe_callK0 F hr hg hm hk hb hkw hall hks hdb hpl) fun σ H Q h => by
    obtain ⟨ι, env, st, R, h⟩ := h
    refine ⟨ι, env, st, R, wp_mono (wp_bnd (show wp (bnd (mk env) (fun ks' => if ([] : List D).length = 0 ∧ ks'.length = ks.length ∧ (([] : List D) ++ pick is ks').length = n then quiet (m ([] ++ pick is ks')) else fail) st) _ E from h)) fun ks' st1 h1 ι1 H1 zs x1 S1 r1 => ?_⟩
    split at h1
    · rename_i hn
      exact ⟨by rw [r1.length]; exact hn.2.1, ι1, st1, pick is ks', S1, r1.pick is, hn.2.2, wp_mono (wp_quiet h1) fun d st2 h2 ι2 H2 v x2 S2 r2 => h2 ι2 H2 v (x1.trans x2) S2 (o _ _ _ _ _ _ _ _ x1 x2 r2)⟩
    · exact h1.elim
theorem ge_callK {kws : List Keyword} {mk : Ev → M (List D)} {ks : List Str} {is : List Nat} {n0 : Nat} (o : Older P) (F : FnOk X.prog X.w X.K X.mg X.base CX0 k f fd ps (spX X.K P m n)) (hr : Room k X.A) (hg : Gl X x) (hm : X.mg x = some (.ref f)) (hk : PySem.W.keepIn X.K (.ref f) = true) (hb : KBk X.K fd ps ks n0 is)
    (ha : PA X (e :: es) (tAr X.K E ma)) (hkw : PK X kws (tAr X.K E mk)) (hall : (backToKw pos (keywordEach kws X.env)).all (·.1.isSome) = true := by rfl) (hks : (backToKw pos (keywordEach kws X.env)).filterMap (·.1) = ks := by rfl)
    (hdb : (x == ("__debug__" : Str)) = false := by decide) (he : starEach (e :: es) X.env = (false, eval e X.env) :: starEach es X.env := by rfl)
    (hpl : ((backTo pos (starEach (e :: es) X.env)).any (·.1) || (backToKw pos (keywordEach kws X.env)).any (·.1.isNone)) = false := by rfl) :
    PE X (.Call (.Name x p) (e :: es) kws pos) (tX X.K E P (callK m n n0 ks.length is ma mk)) :=
  PE.wk (pe_callK1 F hr hg hm hk hb ha hkw hall hks hdb he hpl) fun σ H Q h => by
    obtain ⟨ι, env, st, R, h⟩ := h
    refine ⟨ι, env, st, R, wp_mono (wp_bnd h) fun ds st1 h1 ι1 H1 vs x1 S1 r1 => ?_⟩
    refine ⟨ι1, env, st1, R.to x1 S1, wp_mono (wp_bnd h1) fun ks' st2 h2 ι2 H2 zs x2 S2 r2 => ?_⟩
    split at h2
    · rename_i hn
      exact ⟨by rw [r1.length]; exact hn.1, by rw [r2.length]; exact hn.2.1, ι2, st2, ds ++ pick is ks', S2, (x2.rpl r1).append (r2.pick is), hn.2.2, wp_mono (wp_quiet h2) fun d st3 h3 ι3 H3 v x3 S3 r3 => h3 ι3 H3 v ((x1.trans x2).trans x3) S3 (o _ _ _ _ _ _ _ _ (x1.trans x2) x3 r3)⟩
    · exact h2.elim
end

/-! ### the rule of a def -/
mutual
def D.low (k : Nat) : D → Bool
  | .ref n => decide (n < k)
  | .tup ds => D.lowL k ds
  | .frl ds => D.lowL k ds
  | .non => true
  | .bl _ => true
  | .int _ => true
  | .str _ => true
  | .con _ => true
  | .ty _ => true
def D.lowL (k : Nat) : List D → Bool
  | [] => true
  | d :: ds => D.low k d && D.lowL k ds
end
def lowKV {κ : Type} (k : Nat) : List (κ × D) → Bool
  | [] => true
  | d :: ds => D.low k d.2 && lowKV k ds
def SObj.low (k : Nat) : SObj → Bool
  | .lst ds => D.lowL k ds
  | .dT ds => lowKV k ds
  | .dK ds => lowKV k ds
/-- the old objects speak of old objects alone: they are as they were, or look so -/
def oldOk (k : Nat) : Store → Store → Bool
  | a :: as, b :: bs => (decide (a = b) || b.low k) && oldOk k as bs
  | [], _ => true
  | _ :: _, [] => false
section
variable {K : PySem.W.Frag} {ι ι' : List Addr} {H H' : Hp} {st st' : Store}
mutual
theorem Rp.low : ∀ {d : D} {v : V}, Rp K ι H v d → d.low ι.length = true
  | .non, _, _ | .bl _, _, _ | .int _, _, _ | .str _, _, _ | .con _, _, _ | .ty _, _, _ => by simp [D.low]
  | .ref n, _, h => by
    obtain ⟨a, _, q⟩ := Rp.ref_inv h
    simp only [D.low, decide_eq_true_eq]
    exact (List.getElem?_eq_some_iff.mp q).1
  | .tup ds, _, h => by
    obtain ⟨a, xs, _, _, r⟩ := Rp.tup_inv h
    simp only [D.low]
    exact RpL.low r
  | .frl ds, _, h => by
    obtain ⟨a, xs, _, _, r⟩ := Rp.frl_inv h
    simp only [D.low]
    exact RpL.low r
theorem RpL.low : ∀ {ds : List D} {vs : List V}, RpL K ι H vs ds → D.lowL ι.length ds = true
  | [], _, _ => by simp [D.lowL]
  | d :: ds, _, h => by
    simp only [RpL] at h
    obtain ⟨v, r, _, h1, h2⟩ := h
    simp only [D.lowL, Bool.and_eq_true]
    exact ⟨Rp.low h1, RpL.low h2⟩
end
theorem RpKV.low {κ : Type} : ∀ {ds : List (κ × D)} {vs : List (κ × V)}, RpKV K ι H vs ds → lowKV ι.length ds = true
  | [], _, _ => by simp [lowKV]
  | d :: ds, _, h => by
    simp only [RpKV] at h
    obtain ⟨v, r, _, h1, h2⟩ := h
    simp only [lowKV, Bool.and_eq_true]
    exact ⟨h1.low, RpKV.low h2⟩
theorem RpO.low {a : Addr} {o : SObj} (h : RpO K ι H a o) : o.low ι.length = true := by
  cases o with
  | lst ds => obtain ⟨_, _, r⟩ := h; exact r.low
  | dT ds => obtain ⟨_, _, r⟩ := h; exact r.low
  | dK ds => obtain ⟨_, _, r⟩ := h; exact r.low
/-- the store is cut back -/
structure CutTo (ι ι' : List Addr) : Prop where
  pre : ι <+: ι'
theorem CutTo.get (c : CutTo ι ι') {n : Nat} {a : Addr} (h : ι'[n]? = some a) (hn : n < ι.length) : ι[n]? = some a := by
  obtain ⟨r, rfl⟩ := c.pre
  rw [List.getElem?_append_left hn] at h
  exact h
theorem CutTo.nin (c : CutTo ι ι') {a : Addr} (h : a ∉ ι') : a ∉ ι := fun q => h (by obtain ⟨r, rfl⟩ := c.pre; exact List.mem_append_left _ q)
theorem CutTo.sqt (c : CutTo ι ι') {a : Addr} {xs : List V} (h : SqTι K ι' H a xs) : SqTι K ι H a xs := h.elim (fun ⟨o, z, d, n⟩ => .inl ⟨o, z, d, c.nin n⟩) .inr
theorem CutTo.sql (c : CutTo ι ι') {a : Addr} {xs : List V} (h : SqLι K ι' H a xs) : SqLι K ι H a xs := h.elim (fun ⟨o, z, n⟩ => .inl ⟨o, z, c.nin n⟩) .inr
mutual
theorem Rp.back (c : CutTo ι ι') : ∀ {d : D} {v : V}, d.low ι.length = true → Rp K ι' H v d → Rp K ι H v d
  | .non, _, _, h | .bl _, _, _, h | .int _, _, _, h | .str _, _, _, h | .con _, _, _, h | .ty _, _, _, h => by simpa only [Rp] using h
  | .ref n, _, b, h => by
    obtain ⟨a, e, q⟩ := Rp.ref_inv h
    simp only [D.low, decide_eq_true_eq] at b
    simp only [Rp]
    exact ⟨a, e, c.get q b⟩
  | .tup ds, _, b, h => by
    obtain ⟨a, xs, e, q, r⟩ := Rp.tup_inv h
    simp only [D.low] at b
    simp only [Rp]
    exact ⟨a, xs, e, c.sqt q, RpL.back c b r⟩
  | .frl ds, _, b, h => by
    obtain ⟨a, xs, e, q, r⟩ := Rp.frl_inv h
    simp only [D.low] at b
    simp only [Rp]
    exact ⟨a, xs, e, c.sql q, RpL.back c b r⟩
theorem RpL.back (c : CutTo ι ι') : ∀ {ds : List D} {vs : List V}, D.lowL ι.length ds = true → RpL K ι' H vs ds → RpL K ι H vs ds
  | [], _, _, h => by simpa only [RpL] using h
  | d :: ds, _, b, h => by
    simp only [D.lowL, Bool.and_eq_true] at b
    simp only [RpL] at h ⊢
    obtain ⟨v, r, e, h1, h2⟩ := h
    exact ⟨v, r, e, Rp.back c b.1 h1, RpL.back c b.2 h2⟩
end
theorem RpKV.back {κ : Type} (c : CutTo ι ι') : ∀ {ds : List (κ × D)} {vs : List (κ × V)}, lowKV ι.length ds = true → RpKV K ι' H vs ds → RpKV K ι H vs ds
  | [], _, _, h => by simpa only [RpKV] using h
  | d :: ds, _, b, h => by
    simp only [lowKV, Bool.and_eq_true] at b
    simp only [RpKV] at h ⊢
    obtain ⟨v, r, e, h1, h2⟩ := h
    exact ⟨v, r, e, h1.back c b.1, RpKV.back c b.2 h2⟩
theorem RpO.back (c : CutTo ι ι') {a : Addr} {o : SObj} (b : o.low ι.length = true) (h : RpO K ι' H a o) : RpO K ι H a o := by
  cases o with
  | lst ds => obtain ⟨xs, q, r⟩ := h; exact ⟨xs, q, r.back c b⟩
  | dT ds => obtain ⟨xs, q, r⟩ := h; exact ⟨xs, q, r.back c b⟩
  | dK ds => obtain ⟨xs, q, r⟩ := h; exact ⟨xs, q, r.back c b⟩
theorem oldOk_at {k : Nat} : ∀ {st st' : Store}, oldOk k st st' = true → ∀ (n : Nat) (a b : SObj), st[n]? = some a → st'[n]? = some b → a = b ∨ b.low k = true
  | [], _, _, n, a, b, h1, _ => by simp at h1
  | x :: xs, [], h, _, _, _, _, _ => by simp [oldOk] at h
  | x :: xs, y :: ys, h, 0, a, b, h1, h2 => by
    simp only [oldOk, Bool.and_eq_true, Bool.or_eq_true, decide_eq_true_eq] at h
    simp at h1 h2; subst h1 h2
    exact h.1
  | x :: xs, y :: ys, h, n + 1, a, b, h1, h2 => by
    simp only [oldOk, Bool.and_eq_true] at h
    exact oldOk_at h.2 n a b (by simpa using h1) (by simpa using h2)
/-- what a call has made is forgotten -/
theorem RelS.back (S : RelS K ι H st) (x : Ext ι H ι' H') (S' : RelS K ι' H' st') (ok : oldOk st.length st st' = true) : Ext ι H ι H' ∧ RelS K ι H' (st'.take st.length) := by
  have c : CutTo ι ι' := ⟨x.pre⟩
  refine ⟨⟨List.prefix_refl _, x.keep, fun a h n => absurd h n⟩, S.nd, ?_, fun n a o h1 h2 => ?_⟩
  · rw [List.length_take, ← S'.len, S.len, Nat.min_eq_left]
    obtain ⟨r, hr⟩ := x.pre
    rw [← hr, List.length_append, S.len]; omega
  · have hn : n < ι.length := (List.getElem?_eq_some_iff.mp h1).1
    rw [List.getElem?_take_of_lt (by rw [← S.len]; exact hn)] at h2
    have q := S'.at_ n a o (x.get h1) h2
    obtain ⟨o0, h0, q0⟩ := S.obj h1
    have b : o.low ι.length = true := by
      rcases oldOk_at ok n o0 o h0 h2 with e | e
      · rw [← e]; exact q0.low
      · rw [S.len]; exact e
    exact q.back c b
end
/-- the value that a def hands back -/
def finV (st : Store) (d : D) : M D := fun st' => if (d.low st.length && oldOk st.length st st') = true then .ok d (st'.take st.length) else .ok d st'
/-- .. a fresh list -/
def finL (st : Store) (d : D) : M (List D) := fun st' => match d with
  | .ref j => match st'[j]? with
    | some (.lst ds) => if (decide (st.length ≤ j) && D.lowL st.length ds && oldOk st.length st st') = true then .ok ds (st'.take st.length) else .no
    | _ => .no
  | _ => .no
def outV (o : Out) : M D := match o with
  | .nx _ => ret .non
  | .rt d => ret d
  | _ => fail
def env0 (n : Nat) (ds : List D) : Ev := ds.map some ++ List.replicate (n - ds.length) none
def fnV (n : Nat) (b : Ev → M Out) : List D → M D := fun ds st => bnd (bnd (b (env0 n ds)) outV) (finV st) st
def fnL (n : Nat) (b : Ev → M Out) : List D → M (List D) := fun ds st => bnd (bnd (b (env0 n ds)) outV) (finL st) st
section
variable {P : Program} {w : World} {K : PySem.W.Frag} {mg : Str → Option Value} {base : Heap}
theorem rel_start {ι : List Addr} {H : Hp} {N : List Str} {vs : List V} {ds : List D} (r : RpL K ι H vs ds) : REnv K ι H (L2.start N vs) (env0 N.length ds) := by
  unfold L2.start env0
  refine ⟨by simp [r.length], fun i d h => ?_⟩
  by_cases hi : i < ds.length
  · rw [List.getElem?_append_left (by simpa using hi), List.getElem?_map] at h
    cases e : ds[i]? with
    | none => rw [e] at h; cases h
    | some d' =>
      rw [e] at h; cases h
      obtain ⟨v, hv, rv⟩ := r.get e
      exact ⟨v, by rw [List.getElem?_append_left (by rw [List.length_map, r.length]; exact hi), List.getElem?_map, hv]; rfl, rv⟩
  · rw [List.getElem?_append_right (by simpa using hi), List.getElem?_replicate] at h
    split at h <;> cases h
/-- the rule of a def whose result is laid as Pr says -/
theorem fn_any {α : Type} {Pr : List Addr → Hp → Hp → V → α → Prop} {fin : Store → D → M α} {x qual : Str} {st : Stmt} {f : Addr} {fd : FuncData} {N ps : List Str} {k : Nat} {mb : Ev → M Out} (F : Fun K x qual st f fd) (S : FnScope N ps (defScope st))
    (hfin : ∀ ι H s ι' H' s' v d (Q : VK), RelS K ι H s → Ext ι H ι' H' → RelS K ι' H' s' → Rp K ι' H' v d → wp (fin s d s') (fun a s2 => ∀ ι2 H2 v, Ext ι H ι2 H2 → RelS K ι2 H2 s2 → Pr ι2 H H2 v a → Q v H2) E0 → Q v H')
    (hbody : ∀ (cdv : Value) (A : Around) (outer : List Env) (s : Shared) (H : Hp) (E : XK), Room k (A.deeper (PyProof.Rows.envOfC qual (defScope st) s.heap.objs.size f cdv)) → PSs (cxOf CX0 P w K mg base N qual (defScope st) f cdv A outer s H E).nox (defBody st) (tSt K E0 mb)) :
    FnOk P w K mg base CX0 (k + 1) f fd ps (spX K Pr (fun ds st => bnd (bnd (mb (env0 N.length ds)) outV) (fin st) st) ps.length) := by
  refine F.ok S (fun vs H Q E h => ?_) (fun cdv A outer s H vs Q E hr h => ⟨_, hbody cdv A outer s H E hr, ?_⟩)
  · obtain ⟨ι, st, ds, _, r, hn, _⟩ := h
    rw [r.length, hn]
  · obtain ⟨ι, st, ds, R, r, hn, h⟩ := h
    refine ⟨ι, _, st, ⟨R, rel_start r⟩, wp_mono (wp_bnd (wp_bnd h)) fun o s1 h1 ι1 H1 x1 S1 => ?_⟩
    cases o with
    | nx e => exact fun σ _ => hfin ι H st ι1 H1 s1 _ _ Q R x1 S1 Rp.mkNon h1
    | rt d => exact fun v rv => hfin ι H st ι1 H1 s1 v d Q R x1 S1 rv h1
    | bk e => exact fun _ _ => h1.elim
    | ct e => exact fun _ _ => h1.elim
theorem finV_ok {ι : List Addr} {H : Hp} {s : Store} {ι' : List Addr} {H' : Hp} {s' : Store} {v : V} {d : D} {Q : VK} (R : RelS K ι H s) (x : Ext ι H ι' H') (S : RelS K ι' H' s') (r : Rp K ι' H' v d)
    (h : wp (finV s d s') (fun a s2 => ∀ ι2 H2 v, Ext ι H ι2 H2 → RelS K ι2 H2 s2 → PD K ι2 H H2 v a → Q v H2) E0) : Q v H' := by
  unfold finV at h
  split at h
  · rename_i hb
    rw [Bool.and_eq_true] at hb
    obtain ⟨x', S'⟩ := R.back x S hb.2
    exact h ι H' v x' S' (Rp.back ⟨x.pre⟩ (by rw [R.len]; exact hb.1) r)
  · exact h ι' H' v x S r
theorem finL_ok {ι : List Addr} {H : Hp} {s : Store} {ι' : List Addr} {H' : Hp} {s' : Store} {v : V} {d : D} {Q : VK} (R : RelS K ι H s) (x : Ext ι H ι' H') (S : RelS K ι' H' s') (r : Rp K ι' H' v d)
    (h : wp (finL s d s') (fun a s2 => ∀ ι2 H2 v, Ext ι H ι2 H2 → RelS K ι2 H2 s2 → PLs K ι2 H H2 v a → Q v H2) E0) : Q v H' := by
  unfold finL at h
  split at h
  · rename_i j
    split at h
    · rename_i ds e
      split at h
      · rename_i hb
        rw [Bool.and_eq_true, Bool.and_eq_true, decide_eq_true_eq] at hb
        obtain ⟨x', S'⟩ := R.back x S hb.2
        obtain ⟨a, rfl, ha⟩ := Rp.ref_inv r
        obtain ⟨vs, q1, q2⟩ := S.lst ha e
        have na : a ∉ ι := fun hc => by
          obtain ⟨n, hn⟩ := List.mem_iff_getElem?.mp hc
          have h1 := x.get hn
          obtain ⟨i1, e1⟩ := List.getElem?_eq_some_iff.mp h1
          obtain ⟨i2, e2⟩ := List.getElem?_eq_some_iff.mp ha
          have := (List.getElem_inj S.nd).mp (e1.trans e2.symm)
          have hl := (List.getElem?_eq_some_iff.mp hn).1
          rw [R.len] at hl
          omega
        exact h ι H' _ x' S' ⟨a, vs, rfl, q1, na, x.new a (List.mem_of_getElem? ha) na, q2.back ⟨x.pre⟩ (by rw [R.len]; exact hb.1.2)⟩
      · exact h.elim
    · exact h.elim
  · exact h.elim
theorem fn_okV {x qual : Str} {st : Stmt} {f : Addr} {fd : FuncData} {N ps : List Str} {k : Nat} {mb : Ev → M Out} (F : Fun K x qual st f fd) (S : FnScope N ps (defScope st))
    (hbody : ∀ (cdv : Value) (A : Around) (outer : List Env) (s : Shared) (H : Hp) (E : XK), Room k (A.deeper (PyProof.Rows.envOfC qual (defScope st) s.heap.objs.size f cdv)) → PSs (cxOf CX0 P w K mg base N qual (defScope st) f cdv A outer s H E).nox (defBody st) (tSt K E0 mb)) :
    FnOk P w K mg base CX0 (k + 1) f fd ps (spX K (PD K) (fnV N.length mb) ps.length) := fn_any F S (fun _ _ _ _ _ _ _ _ _ R x S r h => finV_ok R x S r h) hbody
theorem fn_okL {x qual : Str} {st : Stmt} {f : Addr} {fd : FuncData} {N ps : List Str} {k : Nat} {mb : Ev → M Out} (F : Fun K x qual st f fd) (S : FnScope N ps (defScope st))
    (hbody : ∀ (cdv : Value) (A : Around) (outer : List Env) (s : Shared) (H : Hp) (E : XK), Room k (A.deeper (PyProof.Rows.envOfC qual (defScope st) s.heap.objs.size f cdv)) → PSs (cxOf CX0 P w K mg base N qual (defScope st) f cdv A outer s H E).nox (defBody st) (tSt K E0 mb)) :
    FnOk P w K mg base CX0 (k + 1) f fd ps (spX K (PLs K) (fnL N.length mb) ps.length) := fn_any F S (fun _ _ _ _ _ _ _ _ _ R x S r h => finL_ok R x S r h) hbody
/-- a def of which nothing is asked -/
theorem fn_fail {α : Type} {Pr : List Addr → Hp → Hp → V → α → Prop} {f : Addr} {fd : FuncData} {ps : List Str} {k n : Nat} : FnOk P w K mg base CX0 k f fd ps (spX K Pr (fun _ => fail) n) :=
  ⟨fun vs H Q E h => by obtain ⟨_, _, _, _, _, _, h⟩ := h; exact h.elim, fun A outer s H args us vs Q E _ _ _ _ h => by obtain ⟨_, _, _, _, _, _, h⟩ := h; exact h.elim⟩
end

/-! ### the law's end -/
def spLaw (K : PySem.W.Frag) (m : List D → M D) : Sp := spX K (PD K) m 1
theorem law_end {K : PySem.W.Frag} {m : List D → M D} {H : Hp} {a : Addr} {ns : List Int} (hO : L2.Only H) (hS : SqL K H a (ns.map V.int)) (h : ∃ st', m [.frl (ns.map D.int)] [] = .ok (.bl true) st') : spLaw K m [.ref a] H (fun v _ => v = .bl true) fun _ _ _ => False := by
  obtain ⟨st', h⟩ := h
  refine ⟨[], [], [.frl (ns.map D.int)], ⟨List.nodup_nil, rfl, fun n a o h => by simp at h⟩, RpL.cons ?_ RpL.nil, rfl, ?_⟩
  · simp only [Rp]
    refine ⟨a, ns.map V.int, rfl, ?_, RpL.ofInts ns⟩
    rcases hS with (hS | ⟨o, hS⟩) | hS
    · rcases hO a with q | ⟨o, xs, q⟩
      · rw [q] at hS; cases hS
      · rw [q] at hS; cases hS
    · exact .inl ⟨o, hS, by simp⟩
    · exact .inr hS
  · rw [h]
    exact fun ι' H' v _ _ r => Rp.bl_inv r
end L3
set_option maxHeartbeats 4000000
/-! L3s: sorted of lists and tuples of data. -/
namespace PySem.W
open PySem PySem.Calls PyProof.Rows
section
variable {prog : Program} {w : World} {A : Around} {E : Value → Shared → Prop} {s : Shared}
/-- the items of a list or of a tuple are collected -/
theorem l3_collect {l : Addr} {o : Obj} {n : Nat} {T : String} {vs : List Value} {Q : List Value → Shared → Prop} (hT : T = "list" ∨ T = "tuple") (ho : s.heap.get? l = some o) (hc : o.cls = .type T) (hd : o.data = .seq vs.toArray n)
    (h : Q vs { s with heap := (s.heap.push (seqObj "list" #[] 0)).update s.heap.objs.size (Obj.mapSeq (· ++ vs.toArray)) }) (hsz : vs.length ≤ sizeLine) :
    wpAny (model prog w) A (collect (.ref l)) Q E s := by
  unfold collect
  refine wpAny_bind (wpAny_runValue (codeAny_builtin entry_proto_collect' ?_))
  show wpAny _ _ (do again (.builtin "list.__iadd__" ⟨[← newList [], .ref l], []⟩)) _ _ s
  refine wpAny_bind (wpAny_newList (wpAny_pure ⟨Code.quiet_builtin _ (by decide +kernel), codeAny_builtin entry_list_iadd' ?_⟩) (by show 0 ≤ sizeLine; exact Nat.zero_le _))
  show wpAny _ _ (Builtin.List.listExtendWith (.ref s.heap.objs.size) (.ref l) (.ref s.heap.objs.size)) _ _ { s with heap := s.heap.push (seqObj "list" #[] 0) }
  unfold Builtin.List.listExtendWith
  have ho' : (s.heap.push (seqObj "list" #[] 0)).get? l = some o := Heap.get?_push_of_some _ ho
  refine wpAny_bind (wpAny_typeOf (T := T) ⟨o, ho', hc⟩ ?_)
  have ht : (Builtin.List.listSameRef (.ref s.heap.objs.size) (.ref l) || Value.type T == Value.type "list" || Value.type T == Value.type "tuple") = true := by
    rcases hT with rfl | rfl
    · rw [show (Value.type "list" == Value.type "list") = true by rfl]; simp
    · rw [show (Value.type "tuple" == Value.type "tuple") = true by rfl]; simp
  rw [if_pos ht]
  refine wpAny_bind (listItems_at ho' hd ?_)
  refine wpAny_bind (listItems_at (xs := #[]) (n := 0) (Heap.get?_push_size _ rfl) rfl ?_)
  rw [if_neg (by simp)]
  refine wpAny_bind (listUpdate_at (xs := #[]) (n := 0) (Heap.get?_push_size _ rfl) rfl ?_ (Nat.zero_le _) (by show (#[] ++ vs.toArray).size ≤ sizeLine + 1; simp only [Array.size_append, List.size_toArray, List.length_nil]; omega))
  refine wpAny_pure ?_
  show wpAny (model prog w) A (do
      let o ← load s.heap.objs.size
      match o.data with
      | .seq xs _ => pure xs.toList
      | _ => unsupported "internal:collect") Q E { s with heap := (s.heap.push (seqObj "list" #[] 0)).update s.heap.objs.size (Obj.mapSeq (· ++ vs.toArray)) }
  refine wpAny_bind (wpAny_load (get?_update_seq (Heap.get?_push_size _ rfl) _) ?_)
  show wpAny _ _ (pure ((#[] : Array Value) ++ vs.toArray).toList) Q E _
  rw [show ((#[] : Array Value) ++ vs.toArray).toList = vs by simp]
  exact wpAny_pure h
theorem l3_sorted_of_sort {l : Addr} {o : Obj} {n : Nat} {T : String} {vs : List Value} {Q : Value → Shared → Prop} (hT : T = "list" ∨ T = "tuple") (ho : s.heap.get? l = some o) (hc : o.cls = .type T) (hd : o.data = .seq vs.toArray n) (hL : vs.length ≤ sizeLine)
    (body : ∀ E' : Value → Shared → Prop, wpAny (model prog w) A.in1.in1 (Builtin.«list.sort» ⟨[.ref (s.heap.objs.size + 1)], []⟩) (fun f s' => f = .done (.ret .none) ∧ Q (.ref (s.heap.objs.size + 1)) s') E' { s with heap := copyHeap s.heap vs }) :
    wpAny (model prog w) A (call (.builtin "sorted") [.ref l]) Q E s := by
  refine call_function_entry_kw kind_sorted plain_sorted entry_sorted (args_sorted1 _) ?_
  unfold Builtin.«sorted»
  refine wpAny_bind (m := checkCount "sorted" 1 1 _) (wpAny_pure ?_)
  refine wpAny_bind (l3_collect hT ho hc hd ?_ hL)
  refine wpAny_bind (wpAny_newList ?_ hL)
  have hsz : ((s.heap.push (seqObj "list" #[] 0)).update s.heap.objs.size (Obj.mapSeq (· ++ vs.toArray))).objs.size = s.heap.objs.size + 1 := by
    rw [Heap.size_update, size_push']
  show wpAny _ _ _ _ _ { s with heap := copyHeap s.heap vs }
  rw [hsz]
  refine wpAny_bind (wpAny_holding (wpAny_call_entry_kw slot_list_sort ⟨_, copyHeap_at s.heap vs, rfl⟩ entry_list_sort ?body (args_list_sort _)))
  case body =>
    show wpAny (model prog w) A.in1.in1 (Builtin.«list.sort» ⟨[.ref (s.heap.objs.size + 1)], []⟩) _ _ _
    refine wpAny_mono (body _) (fun f s' hf => ?_) fun _ _ e => e
    obtain ⟨rfl, hq⟩ := hf
    exact ⟨_, rfl, wpAny_pure ⟨_, rfl, hq⟩⟩
/-- sorted(xs), xs a list or a tuple -/
theorem l3_sorted {β : Type} {vs : List Value} {bs : List β} {enc : β → PyData} {R : Value → β → Prop} {l : Addr} {o : Obj} {n : Nat} {T : String} {Q : Value → Shared → Prop} (hT : T = "list" ∨ T = "tuple") (ho : s.heap.get? l = some o) (hc : o.cls = .type T) (hd : o.data = .seq vs.toArray n)
    (e : EachIs R vs bs) (er : EachIs (fun v b => ∃ as, Reads s.heap v (enc b) as) vs bs) (hal : AllAlike (bs.map enc)) (hk : Sortable (bs.map enc)) (hL : bs.length ≤ sizeLine)
    (hu : ∀ b, b ∈ bs → A.units + 2 + (enc b).depth < cLine) (h : ∀ out, out.length = bs.length → EachIs R out (bs.mergeSort (dataLe false enc)) → Q (.ref (s.heap.objs.size + 1)) { s with heap := sortedAll s.heap vs (List.toArray out) }) :
    wpAny (model prog w) A (call (.builtin "sorted") [.ref l]) Q E s := by
  have er' : EachIs (fun v b => ∃ as, Reads (sortingHeap (copyHeap s.heap vs) (s.heap.objs.size + 1) vs) v (enc b) as) vs bs := er.mono fun _ _ ⟨as, r⟩ => ⟨as, PyProof.Rows.Reads.keeps (fun _ _ => sorting_copy_old) r⟩
  have S : SortsAt prog w A.in1.in1 { s with heap := sortingHeap (copyHeap s.heap vs) (s.heap.objs.size + 1) vs } (dataKind (sortingHeap (copyHeap s.heap vs) (s.heap.objs.size + 1) vs) (bs.map enc)) vs :=
    SortsAt.data (s := { s with heap := sortingHeap (copyHeap s.heap vs) (s.heap.objs.size + 1) vs }) (each_map (R := fun v d => ∃ as, Reads (sortingHeap (copyHeap s.heap vs) (s.heap.objs.size + 1) vs) v d as) enc er') hal hk (bound_map hu)
  have hL' : vs.length ≤ sizeLine := by rw [e.length]; exact hL
  exact l3_sorted_of_sort hT ho hc hd hL' fun _ => list_sort_vals (s := { s with heap := copyHeap s.heap vs }) (copyHeap_at s.heap vs) S hL' ⟨rfl, h _ (by rw [sortVals_length false rfl]; exact e.length) (sortVals_data false e er' hal)⟩
end
end PySem.W

namespace L3
open PySem L2
/-- what an item is worth in sorting -/
def encD (d : D) : PyData := (pd d).getD .none
def alikeL (xs : List PyData) : Bool := xs.all fun x => xs.all fun y => PySem.W.alike x y
def tupD : PyData → Bool
  | .tuple (_ :: _) => true
  | _ => false
def oneD : PyData → Bool
  | .none => false
  | .tuple _ => false
  | _ => true
def sortOk (xs : List PyData) : Bool := alikeL xs && (xs.all tupD || xs.all oneD) && xs.all fun x => decide (x.depth ≤ 64)
def sortD (ds : List D) : List D := ds.mergeSort (PySem.W.dataLe false encD)
def sortQ : List D → M (List D) := fun ds st => match pdL ds with
  | some xs => if sortOk xs = true ∧ ds.length ≤ line then .ok (sortD ds) st else .no
  | none => .no
theorem pdL_enc : ∀ {ds : List D} {xs : List PyData}, pdL ds = some xs → ds.map encD = xs ∧ ∀ d ∈ ds, pd d = some (encD d)
  | [], _, e => by simp [pdL] at e; subst e; simp
  | d :: ds, _, e => by
    rw [pdL] at e
    split at e
    · rename_i x r e1 e2
      cases e
      obtain ⟨h1, h2⟩ := pdL_enc e2
      have e3 : encD d = x := by unfold encD; rw [e1]; rfl
      refine ⟨by rw [List.map_cons, h1, e3], fun z hz => ?_⟩
      rcases List.mem_cons.mp hz with rfl | hz
      · rw [e3]; exact e1
      · exact h2 z hz
    · cases e
/-- a value stands for an item -/
def VR (K : PySem.W.Frag) (ι : List Addr) (H : Hp) (v : Value) (d : D) : Prop := ∃ x, Rp K ι H x d ∧ RelV x v
open PySem.W in
theorem each_of {K : PySem.W.Frag} {ι : List Addr} {H : Hp} : ∀ {ds : List D} {xs : List V} {vs : List Value}, RpL K ι H xs ds → Vals xs vs → EachIs (VR K ι H) vs ds
  | [], _, _, h, r => by
    simp only [RpL] at h; subst h; cases r; exact .nil
  | d :: ds, _, _, h, r => by
    simp only [RpL] at h
    obtain ⟨x, t, rfl, h1, h2⟩ := h
    cases r with
    | cons r1 r2 => exact .cons ⟨x, h1, r1⟩ (each_of h2 r2)
open PySem.W in
theorem each_back {K : PySem.W.Frag} {ι : List Addr} {H : Hp} : ∀ {ds : List D} {vs : List Value}, EachIs (VR K ι H) vs ds → ∃ xs, RpL K ι H xs ds ∧ Vals xs vs
  | [], _, h => by cases h; exact ⟨[], RpL.nil, .nil⟩
  | d :: ds, _, h => by
    cases h with
    | cons h1 h2 =>
      obtain ⟨x, r1, q1⟩ := h1
      obtain ⟨xs, r2, q2⟩ := each_back h2
      exact ⟨x :: xs, RpL.cons r1 r2, .cons q1 q2⟩
section
variable {X : Cx} {E : ExW}
def rSrt (K : PySem.W.Frag) : List V → Hp → VK → Prop := fun vs H Q => ∃ ι a xs ds ps, vs = [.ref a] ∧ (SqL K H a xs ∨ SqT K H a xs) ∧ RpL K ι H xs ds ∧ pdL ds = some ps ∧ sortOk ps = true ∧
  ∀ p ys, H p = none → RpL K ι H ys (sortD ds) → Q (.ref p) (upd H p (.lst ys))
open PySem.W in
theorem cr_srt (hu : X.A.units + 100 < cLine) : CallR X (.builtin "sorted") (rSrt X.K) := by
  intro pins s σ H vs us Q I r h
  obtain ⟨ι, a, xs, ds, ps, rfl, hq, rd, ep, ok, q⟩ := h
  rw [Vals.ref1 r]
  obtain ⟨emap, eall⟩ := pdL_enc ep
  have hok := ok
  unfold sortOk at hok
  rw [Bool.and_eq_true, Bool.and_eq_true] at hok
  have hal : AllAlike (ds.map encD) := by
    rw [emap]
    intro d hd d' hd'
    exact List.all_eq_true.mp (List.all_eq_true.mp hok.1.1 d hd) d' hd'
  have hk : Sortable (ds.map encD) := by
    rw [emap]
    have h2 := hok.1.2
    rw [Bool.or_eq_true] at h2
    rcases h2 with h2 | h2
    · refine .inl fun d hd => ?_
      have := List.all_eq_true.mp h2 d hd
      cases d with
      | tuple l =>
        cases l with
        | nil => cases this
        | cons x r => exact ⟨x, r, rfl⟩
      | _ => cases this
    · refine .inr fun d hd => ?_
      have := List.all_eq_true.mp h2 d hd
      cases d with
      | tuple l => cases this
      | none => cases this
      | _ => exact ⟨(fun z => by cases z), (fun _ z => by cases z)⟩
  have hdep : ∀ b, b ∈ ds → X.A.units + 2 + (encD b).depth < cLine := fun b hb => by
    have := List.all_eq_true.mp hok.2 (encD b) (by rw [← emap]; exact List.mem_map.mpr ⟨b, hb, rfl⟩)
    rw [decide_eq_true_eq] at this
    omega
  have reads : ∀ its : List Value, Vals xs its → EachIs (fun v b => ∃ as, Reads s.heap v (encD b) as) its ds := fun its rv => (each_mem (each_of rd rv)).mono fun v b ⟨⟨x, h1, h2⟩, hb⟩ => Dp.reads I _ x v (Rp.dp h1 (eall b hb)) h2
  have fin : ∀ (its : List Value), Vals xs its → xs.length ≤ sizeLine → ∀ out, out.length = ds.length → EachIs (VR X.K ι H) out (ds.mergeSort (dataLe false encD)) → EP X pins σ Q (.ref (s.heap.objs.size + 1)) { s with heap := PyProof.Rows.sortedAll s.heap its (List.toArray out) } := fun its rv hz out hl ho => by
    obtain ⟨ys, r1, r2⟩ := each_back ho
    obtain ⟨epo, he'⟩ := PyProof.Rows.sortedAll_at s.heap its out.toArray
    have hlen : ys.length ≤ sizeLine := by rw [r2.length, hl, ← rd.length]; exact hz
    exact ⟨.ref _, upd H (s.heap.objs.size + 1) (.lst ys), I.laid (t' := s.toks) (fun _ _ => PyProof.Rows.sortedAll_old) (Nat.le_succ _) ⟨hlen, out, epo, r2, he'⟩, rfl, q _ _ (I.hok.fresh (Nat.le_succ _)) r1⟩
  rcases hq with hq | hq
  · obtain ⟨its, rv, hl, hz⟩ := I.list hq
    obtain ⟨o, ho, hc, n, hd⟩ := hl.isList
    exact l3_sorted (.inl rfl) ho hc hd (each_of rd rv) (reads its rv) hal hk (by rw [← rd.length]; exact hz) hdep (fin its rv hz)
  · obtain ⟨its, rv, hl, hz⟩ := I.tuple hq
    obtain ⟨o, ho, hc, n, hd⟩ := hl
    exact l3_sorted (.inr rfl) ho hc hd (each_of rd rv) (reads its rv) hal hk (by rw [← rd.length]; exact hz) hdep (fin its rv hz)
theorem k_sorted (hu : X.A.units + 100 < cLine) : CallG X E (.builtin "sorted") (PQ X.K) (PLs X.K) sortQ := ⟨_, cr_srt hu, fun ι H₀ H st x ds Q S hx r h => by
  unfold sortQ at h
  split at h
  · rename_i ps e
    split at h
    · rename_i hs
      obtain ⟨a, vs, rfl, hq, r⟩ := r
      refine ⟨ι, a, vs, ds, ps, rfl, hq.imp id SqTι.to, r, e, hs.1, fun p ys hp ry => ?_⟩
      obtain ⟨x, S', r'⟩ := S.newLst hx hp ry
      exact h ι _ _ x S' r'
    · exact h.elim
  · exact h.elim⟩
end
end L3
set_option maxHeartbeats 4000000
/-! L3h: more rules: a name for a comprehension, ranges as lists, chains, defs as data. -/
namespace L3
open PySem L2
section
variable {X : Cx} {E : ExW}
theorem new_wk {K : PySem.W.Frag} {m : Ev → M (List D)} {σ : L2.St} {H : Hp} {Q : VK} (h : tD K E (un1 alloc m) σ H Q) : tLs K E m σ H Q := by
  obtain ⟨ι, env, st, R, h⟩ := h
  refine ⟨ι, env, st, R, wp_mono (wp_bnd h) fun ds st1 h1 ι1 H1 v x1 S1 r1 => ?_⟩
  obtain ⟨p, vs, rfl, hp, np, h0, r⟩ := r1
  have S2 : RelS K (ι1 ++ [p]) H1 (st1 ++ [.lst ds]) := S1.push np ⟨vs, hp, r⟩
  refine h1 (ι1 ++ [p]) H1 _ (x1.join h0) S2 ?_
  simp only [PD, Rp]
  exact ⟨p, rfl, by rw [← S1.len, List.getElem?_append_right (Nat.le_refl _), Nat.sub_self]; rfl⟩
/-- a value taken by a name -/
theorem set_wk {K : PySem.W.Frag} {i : Nat} {m : Ev → M D} {σ : L2.St} {H : Hp} {D : Ends} (h : tSt K E (setS i m) D σ H) : tD K E m σ H fun x H1 => gName i x σ H1 D.nx := by
  obtain ⟨ι, env, s, R, h⟩ := h
  exact ⟨ι, env, s, R, wp_mono (wp_bnd h) fun d s1 h1 ι1 H1 v x1 S1 r1 => h1 ι1 H1 x1 S1 (σ.set i (some v)) ((R.e.ext x1).set i r1)⟩
/-- y = [..] on one line, y a local -/
theorem gs_setLc {α : Type} {Y : YRel α} {asg : α → Ev → Option Ev} {ws : List Nat} {i : Nat} {y : Str} {py : Pos} {g : TG} {elt tg iter : Expr} {ifs : List Expr} {scope : Scope} {own : List (Str × Nat)} {pos spos : Pos} {mi : Ev → M (Nxt α)} {mt : Ev → M Bool} {me : Ev → M D} (hc : X.calm = true) (hN : X.N.Nodup)
    (hi : PI X tg iter (tIt X.K E Y mi)) (ok : BlkOk X.N X.env.scope scope own)
    (hw : ∀ w ∈ ws, w ∈ own.map (·.2)) (hg : ∀ (s : Shared) (H : Hp) (C : Addr) (cl : List (Str × Addr)) (fp : List Addr), PG (X.blk s H scope (compEnvC scope cl C X.env) fp) tg g) (ht : TgOk X.K g Y asg ws) (htt : ∀ (s : Shared) (H : Hp) (C : Addr) (cl : List (Str × Addr)) (fp : List Addr), PTs (X.blk s H scope (compEnvC scope cl C X.env) fp) ifs (tB X.K E0 mt))
    (he : ∀ (s : Shared) (H : Hp) (C : Addr) (cl : List (Str × Addr)) (fp : List Addr), PE (X.blk s H scope (compEnvC scope cl C X.env) fp) elt (tD X.K E0 me)) (hs : ∀ x, foldedSetIterable iter X.env x = pure x := by intro _; rfl)
    (hy : X.N[i]? = some y := by rfl) (hyl : X.env.scope.names.lookup y = some .local := by rfl) (hk : X.env.scope.kind = .function := by rfl) (hl : (py.line == pos.line) = true := by rfl) (ha : (scope.names.any fun (n, k) => n == y && (k == .local || k == .cell)) = false := by rfl) :
    PS X (.Assign [.Name y py] (.ListComp elt [⟨tg, iter, ifs, 0⟩] scope pos) spos) (tSt X.K E (setS i (un1 alloc (lcM mi asg mt me (own.map (·.2)))))) :=
  PS.wk (ps_setLc hc hN hy hyl (sw_true hk hyl hl ha) hi ok hg htt he hs) fun D σ H h => lc_wk hw ht (new_wk (set_wk h))

/-! ### chains -/
def chainV (g1 g2 : D → D → M D) (ma mb mc : Ev → M D) : Ev → M D := fun env => bnd (ma env) fun a => bnd (mb env) fun b => bnd (g1 a b) fun z => bnd (toB z) fun k => if k = true then bnd (mc env) fun c => g2 b c else ret (.bl false)
theorem chain_wk {r r' : R2} {g1 g2 : D → D → M D} {ma mb mc : Ev → M D} {σ : L2.St} {H : Hp} {Q : VK} (h1 : G2 X.K E (PD X.K) (PD X.K) (PD X.K) r g1) (h2 : G2 X.K E (PD X.K) (PD X.K) (PD X.K) r' g2)
    (h : tD X.K E (chainV g1 g2 ma mb mc) σ H Q) : tChain r r' (tD X.K E ma) (tD X.K E mb) (tD X.K E mc) σ H Q := by
  obtain ⟨ι, env, st, R, h⟩ := h
  refine ⟨ι, env, st, R, wp_mono (wp_bnd h) fun a st1 q1 ι1 H1 x x1 S1 ra => ?_⟩
  refine ⟨ι1, env, st1, R.to x1 S1, wp_mono (wp_bnd q1) fun b st2 q2 ι2 H2 y x2 S2 rb => ?_⟩
  refine h1 ι2 H H2 st2 x y a b _ S2 ⟨ι, x1.trans x2⟩ (Ext.rp x2 ra) rb (wp_mono (wp_bnd q2) fun z st3 q3 ι3 H3 v x3 S3 rz => ?_)
  obtain ⟨k, rfl, q3⟩ := toB_inv (wp_bnd q3)
  have rz : Rp X.K ι3 H3 v (.bl k) := rz
  refine ⟨k, Rp.bl_inv rz, ?_⟩
  have xx := (x1.trans x2).trans x3
  cases k with
  | false => exact q3 ι3 H3 _ xx S3 Rp.mkBl
  | true =>
    refine iteT ?_
    refine ⟨ι3, env, st3, R.to xx S3, wp_mono (wp_bnd q3) fun c st4 q4 ι4 H4 w x4 S4 rc => ?_⟩
    exact h2 ι4 H H4 st4 y w b c Q S4 ⟨ι, xx.trans x4⟩ (Ext.rp (x3.trans x4) rb) rc (wp_mono q4 fun d st5 q5 ι5 H5 u x5 S5 rd => q5 ι5 H5 u (xx.trans (x4.trans x5)) S5 rd)
theorem ge_chain {op op' : CmpOp} {g1 g2 : D → D → M D} {a b c : Expr} {pos : Pos} {ma mb mc : Ev → M D} (h1 : CmpG X E op (PD X.K) (PD X.K) g1) (h2 : CmpG X E op' (PD X.K) (PD X.K) g2) (ha : PE X a (tD X.K E ma)) (hb : PE X b (tD X.K E mb)) (hc : PE X c (tD X.K E mc))
    (hm : lastMarks [op, op'] [b, c] = false := by with_unfolding_all rfl) : PE X (.Compare a [op, op'] [b, c] pos) (tD X.K E (chainV g1 g2 ma mb mc)) := by
  obtain ⟨_, _, r, o1, g1'⟩ := h1
  obtain ⟨_, _, r', o2, g2'⟩ := h2
  exact PE.wk (pe_chain o1 o2 ha hb hc hm) fun σ H Q h => chain_wk g1' g2' h
theorem gt_chain {op op' : CmpOp} {g1 g2 : D → D → M D} {a b c : Expr} {pos : Pos} {ma mb mc : Ev → M D} (h1 : CmpG X E op (PD X.K) (PD X.K) g1) (h2 : CmpG X E op' (PD X.K) (PD X.K) g2) (ha : PE X a (tD X.K E ma)) (hb : PE X b (tD X.K E mb)) (hc : PE X c (tD X.K E mc))
    (hm : lastMarks [op, op'] [b, c] = false := by with_unfolding_all rfl) : PT X (.Compare a [op, op'] [b, c] pos) (tB X.K E (un1 toB (chainV g1 g2 ma mb mc))) := by
  obtain ⟨_, _, r, o1, g1'⟩ := h1
  obtain ⟨_, _, r', o2, g2'⟩ := h2
  exact PT.wk (pt_chain o1 o2 ha hb hc hm) fun σ H Q h => chain_wk g1' g2' (tD.test h)

/-! ### ranges as lists, as tuples -/
def rgI (a b : Int) : List Int := (List.range (b - a).toNat).map fun i : Nat => a + (i : Int)
theorem rgV_eq (a b : Int) : rgV a b = (rgI a b).map V.int := by unfold rgV rgI; rw [List.map_map]; rfl
def okRg (i j : Int) : Bool := okR i && okR j && decide ((j - i).toNat ≤ 2 ^ 24)
theorem okRg_of {i j : Int} (h : okRg i j = true) : RgOk i j := by
  unfold okRg at h
  rw [Bool.and_eq_true, Bool.and_eq_true, decide_eq_true_eq] at h
  exact ⟨(okR_of h.1.1).1, (okR_of h.1.1).2, (okR_of h.1.2).1, (okR_of h.1.2).2, h.2⟩
def rangeL1 : D → M (List D) := fun b st => match b with
  | .int j => if okRg 0 j = true then .ok ((rgI 0 j).map .int) st else .no
  | _ => .no
def rangeL2 : D → D → M (List D) := fun a b st => match a, b with
  | .int i, .int j => if okRg i j = true then .ok ((rgI i j).map .int) st else .no
  | _, _ => .no
def rangeT1 : D → M D := fun b => bnd (rangeL1 b) fun ds => ret (.tup ds)
def rangeT2 : D → D → M D := fun a b => bnd (rangeL2 a b) fun ds => ret (.tup ds)
variable {e e2 : Expr} {md m2 : Ev → M D} {p p2 pos rpos : Pos}
theorem gl_listRg1 (hc : X.calm = true) (hg : Gl X "list") (hm : X.mg "list" = none) (hgr : Gl X "range") (hmr : X.mg "range" = none) (h : PE X e (tD X.K E md)) (na : starEach [e] X.env = (false, eval e X.env) :: starEach [] X.env := by rfl)
    (nr : starEach [.Call (.Name "range" p2) [e] [] rpos] X.env = (false, eval (.Call (.Name "range" p2) [e] [] rpos) X.env) :: starEach [] X.env := by rfl) : PE X (.Call (.Name "list" p) [.Call (.Name "range" p2) [e] [] rpos] [] pos) (tLs X.K E (un1 rangeL1 md)) :=
  PE.wk (pe_listRg hc hg hm (prg_1 hgr hmr h na) nr) fun σ H Q h => by
    obtain ⟨ι, env, st, R, h⟩ := h
    refine ⟨ι, env, st, R, wp_mono (wp_bnd h) fun d st1 h1 ι1 H1 v x1 S1 r1 => ?_⟩
    unfold rangeL1 at h1
    split at h1
    · split at h1
      · rename_i j hj
        refine ⟨j, Rp.int_inv r1, okRg_of hj, fun q hq => ?_⟩
        obtain ⟨x, S, r⟩ := S1.newLst ⟨ι, x1⟩ hq (show RpL X.K _ _ (rgV 0 j) ((rgI 0 j).map D.int) by rw [rgV_eq]; exact RpL.ofInts _)
        exact h1 ι1 _ _ (x1.trans x) S r
      · exact h1.elim
    · exact h1.elim
theorem gl_listRg2 (hc : X.calm = true) (hg : Gl X "list") (hm : X.mg "list" = none) (hgr : Gl X "range") (hmr : X.mg "range" = none) (h : PE X e (tD X.K E md)) (h' : PE X e2 (tD X.K E m2)) (na : starEach [e, e2] X.env = (false, eval e X.env) :: starEach [e2] X.env := by rfl) (nb : starEach [e2] X.env = (false, eval e2 X.env) :: starEach [] X.env := by rfl) (hp : (backTo rpos (starEach [e2] X.env)).any (·.1) = false := by rfl)
    (nr : starEach [.Call (.Name "range" p2) [e, e2] [] rpos] X.env = (false, eval (.Call (.Name "range" p2) [e, e2] [] rpos) X.env) :: starEach [] X.env := by rfl) : PE X (.Call (.Name "list" p) [.Call (.Name "range" p2) [e, e2] [] rpos] [] pos) (tLs X.K E (bin rangeL2 md m2)) :=
  PE.wk (pe_listRg hc hg hm (prg_2 hgr hmr h h' na nb hp) nr) fun σ H Q h => by
    obtain ⟨ι, env, st, R, h⟩ := h
    refine ⟨ι, env, st, R, wp_mono (wp_bnd h) fun d st1 h1 ι1 H1 v x1 S1 r1 => ?_⟩
    refine ⟨ι1, env, st1, R.to x1 S1, wp_mono (wp_bnd h1) fun d2 st2 h2 ι2 H2 v2 x2 S2 r2 => ?_⟩
    unfold rangeL2 at h2
    split at h2
    · split at h2
      · rename_i i j hj
        refine ⟨i, j, Rp.int_inv r1, Rp.int_inv r2, okRg_of hj, fun q hq => ?_⟩
        obtain ⟨x, S, r⟩ := S2.newLst ⟨ι, x1.trans x2⟩ hq (show RpL X.K _ _ (rgV i j) ((rgI i j).map D.int) by rw [rgV_eq]; exact RpL.ofInts _)
        exact h2 ι2 _ _ ((x1.trans x2).trans x) S r
      · exact h2.elim
    · exact h2.elim
theorem ge_tupRg1 (hc : X.calm = true) (hg : Gl X "tuple") (hm : X.mg "tuple" = none) (hgr : Gl X "range") (hmr : X.mg "range" = none) (h : PE X e (tD X.K E md)) (na : starEach [e] X.env = (false, eval e X.env) :: starEach [] X.env := by rfl)
    (nr : starEach [.Call (.Name "range" p2) [e] [] rpos] X.env = (false, eval (.Call (.Name "range" p2) [e] [] rpos) X.env) :: starEach [] X.env := by rfl) : PE X (.Call (.Name "tuple" p) [.Call (.Name "range" p2) [e] [] rpos] [] pos) (tD X.K E (un1 rangeT1 md)) :=
  PE.wk (pe_tupRgN hc hg hm (prg_1 hgr hmr h na) nr) fun σ H Q h => by
    obtain ⟨ι, env, st, R, h⟩ := h
    refine ⟨ι, env, st, R, wp_mono (wp_bnd h) fun d st1 h1 ι1 H1 v x1 S1 r1 => ?_⟩
    have h2 := wp_bnd h1
    unfold rangeL1 at h2
    split at h2
    · split at h2
      · rename_i j hj
        refine ⟨j, Rp.int_inv r1, okRg_of hj, fun q o hq hd => ?_⟩
        obtain ⟨x, S, r⟩ := S1.newTup hq hd (show RpL X.K ι1 H1 (rgV 0 j) ((rgI 0 j).map D.int) by rw [rgV_eq]; exact RpL.ofInts _)
        exact h2 ι1 _ _ (x1.trans x) S r
      · exact h2.elim
    · exact h2.elim
end

/-! ### defs as data -/
section
variable {P : Program} {w : World} {K : PySem.W.Frag} {mg : Str → Option Value} {base : Heap}
theorem fn_anyD {α : Type} {Pr : List Addr → Hp → Hp → V → α → Prop} {fin : Store → D → M α} {x qual : Str} {params : Arguments} {body : List Stmt} {scope : Scope} {dvs : List V} {kws : List (Str × V)} {f : Addr} {fd : FuncData} {N ps : List Str} {k : Nat} {mb : Ev → M Out} (F : FunD K x qual params body scope dvs kws f fd) (S : FnScope N ps scope)
    (hfin : ∀ ι H s ι' H' s' v d (Q : VK), RelS K ι H s → Ext ι H ι' H' → RelS K ι' H' s' → Rp K ι' H' v d → wp (fin s d s') (fun a s2 => ∀ ι2 H2 v, Ext ι H ι2 H2 → RelS K ι2 H2 s2 → Pr ι2 H H2 v a → Q v H2) E0 → Q v H')
    (hbody : ∀ (cdv : Value) (A : Around) (outer : List Env) (s : Shared) (H : Hp) (E : XK), Room k (A.deeper (PyProof.Rows.envOfC qual scope s.heap.objs.size f cdv)) → PSs (cxOf CX0 P w K mg base N qual scope f cdv A outer s H E).nox body (tSt K E0 mb)) :
    FnOk P w K mg base CX0 (k + 1) f fd ps (spX K Pr (fun ds st => bnd (bnd (mb (env0 N.length ds)) outV) (fin st) st) ps.length) := by
  refine F.ok S (fun vs H Q E h => ?_) (fun cdv A outer s H vs Q E hr h => ⟨_, PSs.nox (hbody cdv A outer s H E hr), ?_⟩)
  · obtain ⟨ι, st, ds, _, r, hn, _⟩ := h
    rw [r.length, hn]
  · obtain ⟨ι, st, ds, R, r, hn, h⟩ := h
    refine ⟨ι, _, st, ⟨R, rel_start r⟩, wp_mono (wp_bnd (wp_bnd h)) fun o s1 h1 ι1 H1 x1 S1 => ?_⟩
    cases o with
    | nx e => exact fun σ _ => hfin ι H st ι1 H1 s1 _ _ Q R x1 S1 Rp.mkNon h1
    | rt d => exact fun v rv => hfin ι H st ι1 H1 s1 v d Q R x1 S1 rv h1
    | bk e => exact fun _ _ => h1.elim
    | ct e => exact fun _ _ => h1.elim
variable {x qual : Str} {params : Arguments} {body : List Stmt} {scope : Scope} {dvs : List V} {kws : List (Str × V)} {f : Addr} {fd : FuncData} {N ps : List Str} {k : Nat} {mb : Ev → M Out}
theorem fnD_okV (F : FunD K x qual params body scope dvs kws f fd) (S : FnScope N ps scope)
    (hbody : ∀ (cdv : Value) (A : Around) (outer : List Env) (s : Shared) (H : Hp) (E : XK), Room k (A.deeper (PyProof.Rows.envOfC qual scope s.heap.objs.size f cdv)) → PSs (cxOf CX0 P w K mg base N qual scope f cdv A outer s H E).nox body (tSt K E0 mb)) :
    FnOk P w K mg base CX0 (k + 1) f fd ps (spX K (PD K) (fnV N.length mb) ps.length) := fn_anyD F S (fun _ _ _ _ _ _ _ _ _ R x S r h => finV_ok R x S r h) hbody
theorem fnD_okL (F : FunD K x qual params body scope dvs kws f fd) (S : FnScope N ps scope)
    (hbody : ∀ (cdv : Value) (A : Around) (outer : List Env) (s : Shared) (H : Hp) (E : XK), Room k (A.deeper (PyProof.Rows.envOfC qual scope s.heap.objs.size f cdv)) → PSs (cxOf CX0 P w K mg base N qual scope f cdv A outer s H E).nox body (tSt K E0 mb)) :
    FnOk P w K mg base CX0 (k + 1) f fd ps (spX K (PLs K) (fnL N.length mb) ps.length) := fn_anyD F S (fun _ _ _ _ _ _ _ _ _ R x S r h => finL_ok R x S r h) hbody
/-- a call with keywords: every parameter is given -/
theorem FunD.kbk {ks : List Str} {n : Nat} {is : List Nat} (F : FunD K x qual params body scope [] kws f fd)
    (h : ∀ (kV doc pm : Value) (an : Option Addr) (cdv ct : Value) (us ws : List Value), us.length = n → ws.length = ks.length → bindArgs (PySem.W.fnOf x qual params body scope .none kV doc pm an cdv ct) ⟨us, ks.zip ws⟩ = pure (ps.zip (us ++ pickV is ws))) : KBk K fd ps ks n is := by
  intro s us ws _ hu hw
  obtain ⟨oc, od, dV, kV, doc, pm, an, cdv, ct, osl, rfl, lk, hcd, hD, hK⟩ := F.ex
  rcases hD with ⟨_, rfl⟩ | ⟨e, _⟩
  · exact .of_eq (h kV doc pm an cdv ct us ws hu hw)
  · exact absurd rfl e
end
end L3
set_option maxHeartbeats 4000000
/-! L3k: defs by their names; calls of them. -/
namespace L3
open PySem L2
theorem _root_.L2.Room.u64 {k : Nat} {A : Around} (r : Room k A) : A.units + 64 < cLine := by have := r.un; omega
theorem _root_.L2.Room.u65 {k : Nat} {A : Around} (r : Room k A) : A.units + 65 < cLine := by have := r.un; omega
theorem _root_.L2.Room.u100 {k : Nat} {A : Around} (r : Room k A) : A.units + 100 < cLine := by have := r.un; omega
theorem funD_one {K : PySem.W.Frag} {x qual x' qual' : Str} {p p' : Arguments} {b b' : List Stmt} {sc sc' : Scope} {dvs dvs' : List V} {kws kws' : List (Str × V)} {f : Addr} {fd fd' : FuncData} (F : FunD K x qual p b sc dvs kws f fd) (F' : FunD K x' qual' p' b' sc' dvs' kws' f fd') : fd = fd' := by
  obtain ⟨_, _, _, _, _, _, _, _, _, _, _, l, _⟩ := F.ex
  obtain ⟨_, _, _, _, _, _, _, _, _, _, _, l', _⟩ := F'.ex
  rw [l] at l'
  cases l'
  rfl
/-- the def of the name x keeps sp -/
def CalD (P : Program) (w : World) (K : PySem.W.Frag) (mg : Str → Option Value) (base : Heap) (k : Nat) (x : Str) (params : Arguments) (body : List Stmt) (scope : Scope) (ps : List Str) (sp : Sp) : Prop :=
  ∃ fd, FunD K x x params body scope [] [] (He.ga K x) fd ∧ FnOk P w K mg base CX0 k (He.ga K x) fd ps sp ∧ mg x = some (.ref (He.ga K x))
section
variable {X : Cx} {E : ExW} {α : Type} {P : List Addr → Hp → Hp → V → α → Prop} {k n : Nat} {params : Arguments} {body : List Stmt} {scope : Scope} {ps : List Str} {x : Str} {p pos : Pos} {e : Expr} {es : List Expr} {m : List D → M α} {ma : Ev → M (List D)}
theorem ge_callC (o : Older P) (C : CalD X.prog X.w X.K X.mg X.base k x params body scope ps (spX X.K P m n)) (hr : Room k X.A) (hg : Gl X x)
    (hb : ∀ (kV doc pm : Value) (an : Option Addr) (cdv ct : Value) (us : List Value), us.length = ps.length → bindArgs (PySem.W.fnOf x x params body scope .none kV doc pm an cdv ct) ⟨us, []⟩ = pure (ps.zip us))
    (ha : PA X (e :: es) (tAr X.K E ma))
    (hdb : (x == ("__debug__" : Str)) = false := by decide) (he : starEach (e :: es) X.env = (false, eval e X.env) :: starEach es X.env := by rfl) (hpl : (backTo pos (starEach es X.env)).any (·.1) = false := by rfl) :
    PE X (.Call (.Name x p) (e :: es) [] pos) (tX X.K E P (callM m n ma)) := by
  obtain ⟨fd, F, ok, g⟩ := C
  exact ge_call o ok hr hg g F.kp (F.bindsN hb) ha hdb he hpl
theorem ge_callC0 (o : Older P) (C : CalD X.prog X.w X.K X.mg X.base k x params body scope ps (spX X.K P m n)) (hr : Room k X.A) (hg : Gl X x)
    (hb : ∀ (kV doc pm : Value) (an : Option Addr) (cdv ct : Value) (us : List Value), us.length = ps.length → bindArgs (PySem.W.fnOf x x params body scope .none kV doc pm an cdv ct) ⟨us, []⟩ = pure (ps.zip us))
    (hdb : (x == ("__debug__" : Str)) = false := by decide) : PE X (.Call (.Name x p) [] [] pos) (tX X.K E P (callM m n nilA)) := by
  obtain ⟨fd, F, ok, g⟩ := C
  exact ge_call0 o ok hr hg g F.kp (F.bindsN hb) hdb
theorem ge_callCK0 {kws : List Keyword} {mk : Ev → M (List D)} {ks : List Str} {is : List Nat} (o : Older P) (C : CalD X.prog X.w X.K X.mg X.base k x params body scope ps (spX X.K P m n)) (hr : Room k X.A) (hg : Gl X x)
    (hb : ∀ (kV doc pm : Value) (an : Option Addr) (cdv ct : Value) (us ws : List Value), us.length = 0 → ws.length = ks.length → bindArgs (PySem.W.fnOf x x params body scope .none kV doc pm an cdv ct) ⟨us, ks.zip ws⟩ = pure (ps.zip (us ++ pickV is ws)))
    (hkw : PK X kws (tAr X.K E mk)) (hall : (backToKw pos (keywordEach kws X.env)).all (·.1.isSome) = true := by rfl) (hks : (backToKw pos (keywordEach kws X.env)).filterMap (·.1) = ks := by rfl)
    (hdb : (x == ("__debug__" : Str)) = false := by decide) (hpl : ((([] : List (Bool × Sem Value))).any (·.1) || (backToKw pos (keywordEach kws X.env)).any (·.1.isNone)) = false := by rfl) :
    PE X (.Call (.Name x p) [] kws pos) (tX X.K E P (callK m n 0 ks.length is nilA mk)) := by
  obtain ⟨fd, F, ok, g⟩ := C
  exact ge_callK0 o ok hr hg g F.kp (FunD.kbk F hb) hkw hall hks hdb hpl
theorem ge_callCK {kws : List Keyword} {mk : Ev → M (List D)} {ks : List Str} {is : List Nat} {n0 : Nat} (o : Older P) (C : CalD X.prog X.w X.K X.mg X.base k x params body scope ps (spX X.K P m n)) (hr : Room k X.A) (hg : Gl X x)
    (hb : ∀ (kV doc pm : Value) (an : Option Addr) (cdv ct : Value) (us ws : List Value), us.length = n0 → ws.length = ks.length → bindArgs (PySem.W.fnOf x x params body scope .none kV doc pm an cdv ct) ⟨us, ks.zip ws⟩ = pure (ps.zip (us ++ pickV is ws)))
    (ha : PA X (e :: es) (tAr X.K E ma)) (hkw : PK X kws (tAr X.K E mk)) (hall : (backToKw pos (keywordEach kws X.env)).all (·.1.isSome) = true := by rfl) (hks : (backToKw pos (keywordEach kws X.env)).filterMap (·.1) = ks := by rfl)
    (hdb : (x == ("__debug__" : Str)) = false := by decide) (he : starEach (e :: es) X.env = (false, eval e X.env) :: starEach es X.env := by rfl)
    (hpl : ((backTo pos (starEach (e :: es) X.env)).any (·.1) || (backToKw pos (keywordEach kws X.env)).any (·.1.isNone)) = false := by rfl) :
    PE X (.Call (.Name x p) (e :: es) kws pos) (tX X.K E P (callK m n n0 ks.length is ma mk)) := by
  obtain ⟨fd, F, ok, g⟩ := C
  exact ge_callK o ok hr hg g F.kp (FunD.kbk F hb) ha hkw hall hks hdb he hpl
/-- a fresh list, a list that is read -/
theorem c_eqTR (hu : X.A.units + 64 < cLine) : CmpG X E .Eq (PLs X.K) (PRl X.K) eqLs := c_eqL hu carry_Ls old_Rl (fun _ _ _ _ _ r => r.rdl) fun _ _ _ _ _ r => r
theorem c_neTR (hu : X.A.units + 64 < cLine) : CmpG X E .NotEq (PLs X.K) (PRl X.K) neLs := c_neL hu carry_Ls old_Rl (fun _ _ _ _ _ r => r.rdl) fun _ _ _ _ _ r => r
end
/-! ### several targets for a tuple -/
def asgS (asg : D → Ev → Option Ev) (m : Ev → M D) : Ev → M Out := fun env => bnd (m env) fun d st => match asg d env with
  | some e => .ok (.nx e) st
  | none => .no
section
variable {X : Cx} {E : ExW}
theorem gs_asg {tg e : Expr} {pos : Pos} {g : TG} {asg : D → Ev → Option Ev} {ws : List Nat} {m : Ev → M D} (he : PE X e (tD X.K E m)) (hg : PG X tg g) (ht : TgOk X.K g (YV X.K) asg ws)
    (hs : swapsWithSole [tg] e pos.line X.env = pure false := by rfl) (hw : swappedStores [tg] e X.env = pure none := by rfl) (h1 : (assignEach [tg] X.env).map (·.2) = [assign tg X.env] := by rfl) : PS X (.Assign [tg] e pos) (tSt X.K E (asgS asg m)) := PS.wk (ps_asg he hg hs hw h1) fun Dn σ H h => by
  obtain ⟨ι, env, s, R, h⟩ := h
  refine ⟨ι, env, s, R, wp_mono (wp_bnd h) fun d s1 h1 ι1 H1 v x1 S1 r1 => ?_⟩
  cases ea : asg d env with
  | none => simp only [ea] at h1; exact h1.elim
  | some e1 =>
    simp only [ea] at h1
    obtain ⟨x2, S2, _, k⟩ := ht.run ι1 H1 s1 σ env v H1 d e1 S1 ⟨rfl, r1⟩ (R.e.ext x1) ea
    exact k _ fun σ3 R3 _ => h1 ι1 H1 x1 S1 σ3 R3
end
end L3
set_option maxHeartbeats 4000000
/-! the mirrors of law_k67_permutations (printed by gen.py) -/
namespace G
open PySem L2 L3
def b__law_feed : Ev → M Out := (retS (un1 alloc (onA mkLst (consA (un1 alloc (un1 listQ (un1 readQ (getV 0)))) (consA (cst (.int 0)) (consA (cst (.int 0)) (consA (cst (.int 5)) (consA (cst (.int 0)) nilA))))))))
def m__law_feed : List D → M D := fnV 1 b__law_feed
def b_is_integer : Ev → M Out := (retS (andV (bin isiV (getV 0) (cst (.ty "int"))) (un1 notV (bin isiV (getV 0) (cst (.ty "bool"))))))
def m_is_integer : List D → M D := fnV 1 b_is_integer
def b_is_permutation : Ev → M Out := (seqM (ifS (orB (notB (un1 toB (bin isiV (getV 0) (cst (.ty "tuple"))))) (notB (un1 toB (chainV leI leI (cst (.int 1)) (un1 lenQ (un1 readQ (getV 0))) (cst (.int 6)))))) (retS (cst (.bl false))) nilS) (seqM (ifS (notB (un1 toB (un1 allQ (lcM (un1 iterV (getV 0)) (asgN 1) yesM (callM m_is_integer 1 (consA (getV 1) nilA)) [1])))) (retS (cst (.bl false))) nilS) (retS (bin eqLs (un1 sortQ (un1 readQ (getV 0))) (un1 rangeL1 (un1 lenQ (un1 readQ (getV 0))))))))
def m_is_permutation : List D → M D := fnV 2 b_is_permutation
def b_check_permutation : Ev → M Out := (ifS (notB (un1 toB (callM m_is_permutation 1 (consA (getV 0) nilA)))) nevS nilS)
def m_check_permutation : List D → M D := fnV 1 b_check_permutation
def b_turned_back : Ev → M Out := (seqM (setS 1 (un1 alloc (bin repL (onA mkLst (consA (cst (.int 0)) nilA)) (un1 lenQ (un1 readQ (getV 0)))))) (seqM (forS (un1 enumV (getV 0)) (asgP 2 3) (subS (getV 2) (getV 1) (getV 3))) (retS (un1 tupQ (un1 readQ (getV 1))))))
def m_turned_back : List D → M D := fnV 4 b_turned_back
def b_inverse_permutation : Ev → M Out := (seqM (dropS (callM m_check_permutation 1 (consA (getV 0) nilA))) (retS (callM m_turned_back 1 (consA (getV 0) nilA))))
def m_inverse_permutation : List D → M D := fnV 1 b_inverse_permutation
def b__law_lengths : Ev → M Out := (seqM (setS 1 (un1 alloc (onA mkLst nilA))) (seqM (forS (un1 iterR1 (un1 lenQ (un1 readQ (getV 0)))) (asgN 2) (seqM (setS 3 (un1 alloc (onA mkLst (consA (getV 2) nilA)))) (seqM (whileM (un1 toB (bin neD (bin ixV (getV 0) (bin ixV (getV 3) (un1 negI (cst (.int 1))))) (getV 2))) (dropS (metM appendM (getV 3) (bin ixV (getV 0) (bin ixV (getV 3) (un1 negI (cst (.int 1))))))) fuel) (ifS (un1 toB (bin eqD (un1 minQ (un1 readL (getV 3))) (getV 2))) (dropS (metM appendM (getV 1) (un1 lenQ (un1 readQ (getV 3))))) nilS)))) (retS (un1 tupQ (un1 sortQ (un1 readQ (getV 1)))))))
def m__law_lengths : List D → M D := fnV 4 b__law_lengths
def b__law_drawn : Ev → M Out := (seqM (ifS (andB (un1 toB (bin eqD (bin ixV (getV 0) (cst (.int 2))) (cst (.int 0)))) (un1 toB (bin ltI (bin ixV (getV 0) (cst (.int 1))) (un1 lenQ (un1 readQ (bin ixV (getV 0) (cst (.int 0)))))))) (seqM (setS 2 (bin ixV (bin ixV (getV 0) (cst (.int 0))) (bin ixV (getV 0) (cst (.int 1))))) (seqM (subS (bin addI (bin ixV (getV 0) (cst (.int 1))) (cst (.int 1))) (getV 0) (cst (.int 1))) (ifS (un1 toB (bin geI (getV 2) (bin powI (cst (.int 10)) (cst (.int 18))))) (subS (bin subI (getV 2) (bin powI (cst (.int 10)) (cst (.int 18)))) (getV 0) (cst (.int 2))) (seqM (setS 3 (bin modI (un1 intV (getV 2)) (cst (.int 1000003)))) (subS (bin modI (un1 intV (bin addI (bin addI (bin mulI (bin ixV (getV 0) (cst (.int 3))) (cst (.int 31))) (bin mulI (getV 3) (getV 3))) (bin mulI (bin ixV (getV 0) (cst (.int 1))) (cst (.int 97))))) (cst (.int 998244353))) (getV 0) (cst (.int 3))))))) nilS) (seqM (ifS (un1 toB (bin gtI (bin ixV (getV 0) (cst (.int 2))) (cst (.int 0)))) (seqM (setS 4 (bin modI (un1 intV (bin ixV (getV 0) (cst (.int 2)))) (getV 1))) (seqM (subS (bin fdivI (un1 intV (bin ixV (getV 0) (cst (.int 2)))) (getV 1)) (getV 0) (cst (.int 2))) (retS (getV 4)))) nilS) (seqM (subS (bin addI (bin ixV (getV 0) (cst (.int 4))) (cst (.int 1))) (getV 0) (cst (.int 4))) (seqM (subS (bin modI (un1 intV (bin addI (bin addI (bin mulI (bin ixV (getV 0) (cst (.int 3))) (bin ixV (getV 0) (cst (.int 3)))) (bin mulI (bin ixV (getV 0) (cst (.int 4))) (cst (.int 40692)))) (cst (.int 12345)))) (cst (.int 2147483647))) (getV 0) (cst (.int 3))) (retS (bin modI (un1 intV (bin fdivI (bin ixV (getV 0) (cst (.int 3))) (cst (.int 16)))) (getV 1)))))))
def m__law_drawn : List D → M D := fnV 5 b__law_drawn
def b__law_bent : Ev → M Out := (seqM (parS 2 3 (consA (callM m__law_drawn 2 (consA (getV 0) (consA (cst (.int 10)) nilA))) (consA (callM m__law_drawn 2 (consA (getV 0) (consA (un1 lenQ (un1 readQ (getV 1))) nilA))) nilA))) (seqM (ifS (un1 toB (bin ltI (getV 2) (cst (.int 4)))) (retS (bin ixQ (onA mkLst (consA (un1 alloc (un1 listQ (un1 readQ (getV 1)))) (consA (bin catT (getV 1) (onA mkTup (consA (un1 lenQ (un1 readQ (getV 1))) nilA))) (consA (sl3 sliceT (getV 1) noPart (somePart (un1 negI (cst (.int 1))))) (consA (bin catT (getV 1) (onA mkTup (consA (bin ixV (getV 1) (cst (.int 0))) nilA))) nilA))))) (getV 2))) nilS) (seqM (ifS (un1 toB (bin ltI (getV 2) (cst (.int 7)))) (seqM (setS 4 (bin ixQ (onA mkLst (consA (bin subI (callM m__law_drawn 2 (consA (getV 0) (consA (cst (.int 8)) nilA))) (cst (.int 1))) (consA (bin eqD (bin ixV (getV 1) (getV 3)) (cst (.int 1))) (consA (cst .non) nilA)))) (bin subI (getV 2) (cst (.int 4))))) (retS (bin catT (bin catT (sl3 sliceT (getV 1) noPart (somePart (getV 3))) (onA mkTup (consA (getV 4) nilA))) (sl3 sliceT (getV 1) (somePart (bin addI (getV 3) (cst (.int 1)))) noPart)))) nilS) (retS (bin ixQ (onA mkLst (consA (onA mkTup (consA (getV 1) nilA)) (consA (cst .non) (consA (un1 tupQ (lcM (un1 iterV (getV 1)) (asgN 5) yesM (bin addI (getV 5) (cst (.int 1))) [5])) nilA)))) (bin subI (getV 2) (cst (.int 7))))))))
def m__law_bent : List D → M D := fnV 6 b__law_bent
def b__law_order : Ev → M Out := (seqM (setS 2 (un1 alloc (lcM (un1 iterR1 (getV 1)) (asgN 3) yesM (getV 3) [3]))) (seqM (setS 4 (un1 alloc (onA mkLst nilA))) (seqM (whileM (un1 toB (bin gtI (un1 lenQ (un1 readQ (getV 2))) (cst (.int 0)))) (dropS (metM appendM (getV 4) (metM popAtM (getV 2) (callM m__law_drawn 2 (consA (getV 0) (consA (un1 lenQ (un1 readQ (getV 2))) nilA)))))) fuel) (retS (un1 tupQ (un1 readQ (getV 4)))))))
def m__law_order : List D → M D := fnV 5 b__law_order
def b__law_same (m__law_same_k : List D → M D) : Ev → M Out := (seqM (ifS (un1 toB (un1 (isi2 "tuple" "list") (getV 1))) (seqM (ifS (orB (un1 toB (bin neD (bin isiV (getV 0) (cst (.ty "list"))) (bin isiV (getV 1) (cst (.ty "list"))))) (un1 toB (bin neD (bin isiV (getV 0) (cst (.ty "tuple"))) (bin isiV (getV 1) (cst (.ty "tuple")))))) (retS (cst (.bl false))) nilS) (retS (andV (bin eqD (un1 lenQ (un1 readQ (getV 0))) (un1 lenQ (un1 readQ (getV 1)))) (un1 allQ (lcM (un1 iterR1 (un1 lenQ (un1 readQ (getV 1)))) (asgN 2) yesM (callM m__law_same_k 2 (consA (bin ixV (getV 0) (getV 2)) (consA (bin ixV (getV 1) (getV 2)) nilA))) [2]))))) nilS) (seqM (ifS (un1 toB (un1 isNon (getV 1))) (retS (un1 isNon (getV 0))) nilS) (seqM (ifS (un1 toB (bin isiV (getV 1) (cst (.ty "bool")))) (retS (andV (bin isiV (getV 0) (cst (.ty "bool"))) (bin eqD (getV 0) (getV 1)))) nilS) (seqM (ifS (un1 toB (bin isiV (getV 1) (cst (.ty "int")))) (retS (andV (bin isiV (getV 0) (cst (.ty "int"))) (andV (un1 notV (bin isiV (getV 0) (cst (.ty "bool")))) (bin eqD (getV 0) (getV 1))))) nilS) (retS (andV (bin isiV (getV 0) (cst (.ty "str"))) (bin eqD (getV 0) (getV 1))))))))
def m__law_same_ : Nat → List D → M D
  | 0 => fun _ => fail
  | k + 1 => fnV 3 (b__law_same (m__law_same_ k))
def m__law_same : List D → M D := m__law_same_ 6
def b_check_two : Ev → M Out := (seqM (dropS (callM m_check_permutation 1 (consA (getV 0) nilA))) (seqM (dropS (callM m_check_permutation 1 (consA (getV 1) nilA))) (ifS (un1 toB (bin neD (un1 lenQ (un1 readQ (getV 0))) (un1 lenQ (un1 readQ (getV 1))))) nevS nilS)))
def m_check_two : List D → M D := fnV 2 b_check_two
def b_product_of : Ev → M Out := (retS (un1 tupQ (lcM (un1 iterV (getV 0)) (asgN 2) yesM (bin ixV (getV 1) (getV 2)) [2])))
def m_product_of : List D → M D := fnV 3 b_product_of
def b_then : Ev → M Out := (seqM (dropS (callM m_check_two 2 (consA (getV 0) (consA (getV 1) nilA)))) (retS (callM m_product_of 2 (consA (getV 0) (consA (getV 1) nilA)))))
def m_then : List D → M D := fnV 2 b_then
def b_cycle_lengths : Ev → M Out := (seqM (parS 1 2 (consA (un1 alloc (un1 rangeL1 (un1 lenQ (un1 readQ (getV 0))))) (consA (un1 alloc (onA mkLst nilA)) nilA))) (seqM (whileM (un1 toB (bin (viaL neLs) (getV 1) (onA mkLst nilA))) (seqM (parS 3 4 (consA (bin ixV (getV 1) (cst (.int 0))) (consA (cst (.int 0)) nilA))) (seqM (whileM (un1 toB (bin inQ (getV 3) (un1 readQ (getV 1)))) (seqM (dropS (metM removeM (getV 1) (getV 3))) (parS 3 4 (consA (bin ixV (getV 0) (getV 3)) (consA (bin addI (getV 4) (cst (.int 1))) nilA)))) fuel) (dropS (metM appendM (getV 2) (getV 4))))) fuel) (retS (getV 2))))
def m_cycle_lengths : List D → M (List D) := fnL 5 b_cycle_lengths
def b_cycle_pattern : Ev → M Out := (seqM (dropS (callM m_check_permutation 1 (consA (getV 0) nilA))) (retS (un1 tupQ (un1 sortQ (callM m_cycle_lengths 1 (consA (getV 0) nilA))))))
def m_cycle_pattern : List D → M D := fnV 1 b_cycle_pattern
def b_permutation_order : Ev → M Out := (seqM (dropS (callM m_check_permutation 1 (consA (getV 0) nilA))) (seqM (parS 1 2 (consA (getV 0) (consA (cst (.int 1)) nilA))) (seqM (whileM (un1 toB (bin neD (getV 1) (un1 rangeT1 (un1 lenQ (un1 readQ (getV 0)))))) (parS 1 2 (consA (callM m_product_of 2 (consA (getV 1) (consA (getV 0) nilA))) (consA (bin addI (getV 2) (cst (.int 1))) nilA))) fuel) (retS (getV 2)))))
def m_permutation_order : List D → M D := fnV 3 b_permutation_order
def b__law_turned : Ev → M Out := (retS (un1 lenQ (lcM (un1 iterR1 (bin mulI (un1 lenQ (un1 readQ (getV 0))) (un1 lenQ (un1 readQ (getV 0))))) (asgN 1) (andB (un1 toB (bin ltI (bin fdivI (getV 1) (un1 lenQ (un1 readQ (getV 0)))) (bin modI (un1 intV (getV 1)) (un1 lenQ (un1 readQ (getV 0)))))) (un1 toB (bin gtI (bin ixV (getV 0) (bin fdivI (getV 1) (un1 lenQ (un1 readQ (getV 0))))) (bin ixV (getV 0) (bin modI (un1 intV (getV 1)) (un1 lenQ (un1 readQ (getV 0)))))))) (cst (.int 1)) [1])))
def m__law_turned : List D → M D := fnV 2 b__law_turned
def b_is_even : Ev → M Out := (seqM (dropS (callM m_check_permutation 1 (consA (getV 0) nilA))) (retS (bin eqD (bin andI (un1 lenQ (lcM (un1 iterL (callM m_cycle_lengths 1 (consA (getV 0) nilA))) (asgN 1) (un1 toB (bin eqD (bin andI (getV 1) (cst (.int 1))) (cst (.int 0)))) (getV 1) [1])) (cst (.int 1))) (cst (.int 0)))))
def m_is_even : List D → M D := fnV 2 b_is_even
def b__law_is_one : Ev → M Out := (seqM (ifS (orB (notB (un1 toB (bin isiV (getV 0) (cst (.ty "tuple"))))) (orB (un1 toB (bin eqD (un1 lenQ (un1 readQ (getV 0))) (cst (.int 0)))) (un1 toB (bin gtI (un1 lenQ (un1 readQ (getV 0))) (cst (.int 6)))))) (retS (cst (.bl false))) nilS) (seqM (setS 1 (un1 alloc (lcM (un1 iterV (getV 0)) (asgN 2) (andB (un1 toB (bin isiV (getV 2) (cst (.ty "int")))) (notB (un1 toB (bin isiV (getV 2) (cst (.ty "bool")))))) (getV 2) [2]))) (retS (andV (bin eqD (un1 lenQ (un1 readQ (getV 1))) (un1 lenQ (un1 readQ (getV 0)))) (bin eqLs (un1 sortQ (un1 readQ (getV 1))) (lcM (un1 iterR1 (un1 lenQ (un1 readQ (getV 0)))) (asgN 3) yesM (getV 3) [3]))))))
def m__law_is_one : List D → M D := fnV 4 b__law_is_one
def b_law : Ev → M Out := (seqM (setS 1 (callM m__law_feed 1 (consA (getV 0) nilA))) (seqM (forS (un1 iterR1 (bin min2 (cst (.int 12)) (bin addI (cst (.int 2)) (un1 lenQ (un1 readQ (getV 0)))))) (asgN 2) (seqM (setS 3 (bin addI (cst (.int 1)) (callM m__law_drawn 2 (consA (getV 1) (consA (cst (.int 6)) nilA))))) (seqM (asgS (asg2 4 5) (onA mkTup (consA (callM m__law_order 2 (consA (getV 1) (consA (getV 3) nilA))) (consA (callM m__law_order 2 (consA (getV 1) (consA (getV 3) nilA))) nilA)))) (seqM (setS 6 (un1 tupQ (lcM (un1 iterR1 (getV 3)) (asgN 7) yesM (bin ixV (getV 5) (bin ixV (getV 4) (getV 7))) [7]))) (seqM (ifS (notB (un1 toB (callM m__law_same 2 (consA (un1 alloc (onA mkLst (consA (callM m_then 2 (consA (getV 4) (consA (getV 5) nilA))) (consA (callK m_then 2 0 2 [1, 0] nilA (consA (getV 5) (consA (getV 4) nilA))) nilA)))) (consA (un1 alloc (onA mkLst (consA (getV 6) (consA (getV 6) nilA)))) nilA))))) (retS (cst (.bl false))) nilS) (seqM (setS 8 (callK m_inverse_permutation 1 0 1 [0] nilA (consA (getV 4) nilA))) (seqM (ifS (orB (notB (un1 toB (callM m__law_same 2 (consA (getV 8) (consA (un1 tupQ (lcM (un1 iterR1 (getV 3)) (asgN 7) yesM (indexM (getV 4) (getV 7)) [7])) nilA))))) (notB (un1 toB (callM m__law_same 2 (consA (callM m_inverse_permutation 1 (consA (getV 6) nilA)) (consA (callM m_then 2 (consA (callM m_inverse_permutation 1 (consA (getV 5) nilA)) (consA (getV 8) nilA))) nilA)))))) (retS (cst (.bl false))) nilS) (seqM (setS 9 (callM m__law_lengths 1 (consA (getV 4) nilA))) (seqM (ifS (notB (un1 toB (callM m__law_same 2 (consA (un1 alloc (onA mkLst (consA (callM m_cycle_pattern 1 (consA (getV 4) nilA)) (consA (callK m_cycle_pattern 1 0 1 [0] nilA (consA (getV 8) nilA)) nilA)))) (consA (un1 alloc (onA mkLst (consA (getV 9) (consA (getV 9) nilA)))) nilA))))) (retS (cst (.bl false))) nilS) (seqM (parS 10 11 (consA (getV 4) (consA (cst (.int 1)) nilA))) (seqM (whileM (un1 toB (bin neD (getV 10) (un1 tupQ (lcM (un1 iterR1 (getV 3)) (asgN 7) yesM (getV 7) [7])))) (parS 10 11 (consA (un1 tupQ (lcM (un1 iterV (getV 10)) (asgN 7) yesM (bin ixV (getV 4) (getV 7)) [7])) (consA (bin addI (getV 11) (cst (.int 1))) nilA))) fuel) (seqM (ifS (notB (un1 toB (callM m__law_same 2 (consA (un1 alloc (onA mkLst (consA (callM m_permutation_order 1 (consA (getV 4) nilA)) (consA (callK m_permutation_order 1 0 1 [0] nilA (consA (getV 4) nilA)) nilA)))) (consA (un1 alloc (onA mkLst (consA (getV 11) (consA (getV 11) nilA)))) nilA))))) (retS (cst (.bl false))) nilS) (seqM (setS 12 (bin eqD (bin modI (un1 intV (callM m__law_turned 1 (consA (getV 4) nilA))) (cst (.int 2))) (cst (.int 0)))) (seqM (ifS (notB (un1 toB (callM m__law_same 2 (consA (un1 alloc (onA mkLst (consA (callM m_is_even 1 (consA (getV 4) nilA)) (consA (callK m_is_even 1 0 1 [0] nilA (consA (getV 4) nilA)) (consA (callM m_is_even 1 (consA (getV 6) nilA)) nilA))))) (consA (un1 alloc (onA mkLst (consA (getV 12) (consA (getV 12) (consA (bin eqD (bin modI (un1 intV (bin addI (callM m__law_turned 1 (consA (getV 4) nilA)) (callM m__law_turned 1 (consA (getV 5) nilA)))) (cst (.int 2))) (cst (.int 0))) nilA))))) nilA))))) (retS (cst (.bl false))) nilS) (seqM (setS 13 (callM m__law_bent 2 (consA (getV 1) (consA (getV 4) nilA)))) (ifS (notB (un1 toB (callM m__law_same 2 (consA (un1 alloc (onA mkLst (consA (callM m_is_permutation 1 (consA (getV 4) nilA)) (consA (callK m_is_permutation 1 0 1 [0] nilA (consA (getV 6) nilA)) (consA (callM m_is_permutation 1 (consA (getV 13) nilA)) nilA))))) (consA (un1 alloc (onA mkLst (consA (cst (.bl true)) (consA (cst (.bl true)) (consA (callM m__law_is_one 1 (consA (getV 13) nilA)) nilA))))) nilA))))) (retS (cst (.bl false))) nilS)))))))))))))))) (retS (cst (.bl true)))))
def m_law : List D → M D := fnV 14 b_law
end G
set_option maxHeartbeats 1000000
/-! the derivations of law_k67_permutations (printed by gen.py) -/
namespace G
open PySem L2 L3
def top (i : Nat) : Stmt := PySem.Challenge.pw_wholetowers_k67_permutations.main.body.getD i (.Pass ⟨0, 0, 0, 0⟩)
abbrev s__law_feed : Stmt := top 19
abbrev s_is_integer : Stmt := top 4
abbrev s_is_permutation : Stmt := top 7
abbrev s_check_permutation : Stmt := top 8
abbrev s_turned_back : Stmt := top 11
abbrev s_inverse_permutation : Stmt := top 13
abbrev s__law_lengths : Stmt := top 23
abbrev s__law_drawn : Stmt := top 20
abbrev s__law_bent : Stmt := top 26
abbrev s__law_order : Stmt := top 22
abbrev s__law_same : Stmt := top 21
abbrev s_check_two : Stmt := top 9
abbrev s_product_of : Stmt := top 10
abbrev s_then : Stmt := top 12
abbrev s_cycle_lengths : Stmt := top 14
abbrev s_cycle_pattern : Stmt := top 15
abbrev s_permutation_order : Stmt := top 16
abbrev s__law_turned : Stmt := top 24
abbrev s_is_even : Stmt := top 17
abbrev s__law_is_one : Stmt := top 25
abbrev s_law : Stmt := top 27
abbrev FnP (K : PySem.W.Frag) (x : Str) (st : Stmt) (f : Addr) (fd : FuncData) : Prop := FunD K x x (defArgs st) (defBody st) (defScope st) [] [] f fd
structure Txt (K : PySem.W.Frag) (mg : Str → Option Value) : Prop where
  g__law_feed : mg "_law_feed" = some (.ref (He.ga K "_law_feed"))
  d__law_feed : ∃ fd, FnP K "_law_feed" s__law_feed (He.ga K "_law_feed") fd
  g_is_integer : mg "is_integer" = some (.ref (He.ga K "is_integer"))
  d_is_integer : ∃ fd, FnP K "is_integer" s_is_integer (He.ga K "is_integer") fd
  g_is_permutation : mg "is_permutation" = some (.ref (He.ga K "is_permutation"))
  d_is_permutation : ∃ fd, FnP K "is_permutation" s_is_permutation (He.ga K "is_permutation") fd
  g_check_permutation : mg "check_permutation" = some (.ref (He.ga K "check_permutation"))
  d_check_permutation : ∃ fd, FnP K "check_permutation" s_check_permutation (He.ga K "check_permutation") fd
  g_turned_back : mg "turned_back" = some (.ref (He.ga K "turned_back"))
  d_turned_back : ∃ fd, FnP K "turned_back" s_turned_back (He.ga K "turned_back") fd
  g_inverse_permutation : mg "inverse_permutation" = some (.ref (He.ga K "inverse_permutation"))
  d_inverse_permutation : ∃ fd, FnP K "inverse_permutation" s_inverse_permutation (He.ga K "inverse_permutation") fd
  g__law_lengths : mg "_law_lengths" = some (.ref (He.ga K "_law_lengths"))
  d__law_lengths : ∃ fd, FnP K "_law_lengths" s__law_lengths (He.ga K "_law_lengths") fd
  g__law_drawn : mg "_law_drawn" = some (.ref (He.ga K "_law_drawn"))
  d__law_drawn : ∃ fd, FnP K "_law_drawn" s__law_drawn (He.ga K "_law_drawn") fd
  g__law_bent : mg "_law_bent" = some (.ref (He.ga K "_law_bent"))
  d__law_bent : ∃ fd, FnP K "_law_bent" s__law_bent (He.ga K "_law_bent") fd
  g__law_order : mg "_law_order" = some (.ref (He.ga K "_law_order"))
  d__law_order : ∃ fd, FnP K "_law_order" s__law_order (He.ga K "_law_order") fd
  g__law_same : mg "_law_same" = some (.ref (He.ga K "_law_same"))
  d__law_same : ∃ fd, FnP K "_law_same" s__law_same (He.ga K "_law_same") fd
  g_check_two : mg "check_two" = some (.ref (He.ga K "check_two"))
  d_check_two : ∃ fd, FnP K "check_two" s_check_two (He.ga K "check_two") fd
  g_product_of : mg "product_of" = some (.ref (He.ga K "product_of"))
  d_product_of : ∃ fd, FnP K "product_of" s_product_of (He.ga K "product_of") fd
  g_then : mg "then" = some (.ref (He.ga K "then"))
  d_then : ∃ fd, FnP K "then" s_then (He.ga K "then") fd
  g_cycle_lengths : mg "cycle_lengths" = some (.ref (He.ga K "cycle_lengths"))
  d_cycle_lengths : ∃ fd, FnP K "cycle_lengths" s_cycle_lengths (He.ga K "cycle_lengths") fd
  g_cycle_pattern : mg "cycle_pattern" = some (.ref (He.ga K "cycle_pattern"))
  d_cycle_pattern : ∃ fd, FnP K "cycle_pattern" s_cycle_pattern (He.ga K "cycle_pattern") fd
  g_permutation_order : mg "permutation_order" = some (.ref (He.ga K "permutation_order"))
  d_permutation_order : ∃ fd, FnP K "permutation_order" s_permutation_order (He.ga K "permutation_order") fd
  g__law_turned : mg "_law_turned" = some (.ref (He.ga K "_law_turned"))
  d__law_turned : ∃ fd, FnP K "_law_turned" s__law_turned (He.ga K "_law_turned") fd
  g_is_even : mg "is_even" = some (.ref (He.ga K "is_even"))
  d_is_even : ∃ fd, FnP K "is_even" s_is_even (He.ga K "is_even") fd
  g__law_is_one : mg "_law_is_one" = some (.ref (He.ga K "_law_is_one"))
  d__law_is_one : ∃ fd, FnP K "_law_is_one" s__law_is_one (He.ga K "_law_is_one") fd
  g_law : mg "law" = some (.ref (He.ga K "law"))
  d_law : ∃ fd, FnP K "law" s_law (He.ga K "law") fd
  z_all : mg "all" = none
  z_bool : mg "bool" = none
  z_enumerate : mg "enumerate" = none
  z_int : mg "int" = none
  z_isinstance : mg "isinstance" = none
  z_len : mg "len" = none
  z_list : mg "list" = none
  z_min : mg "min" = none
  z_range : mg "range" = none
  z_sorted : mg "sorted" = none
  z_str : mg "str" = none
  z_tuple : mg "tuple" = none
  x_MOST_POINTS : ∃ t, mg "MOST_POINTS" = some (.int 6 t)
section
variable {P : Program} {w : World} {K : PySem.W.Frag} {mg : Str → Option Value} {base : Heap}
theorem sc__law_feed : FnScope ["script"] ["script"] (defScope s__law_feed) := ⟨rfl, rfl, rfl, by decide +kernel, rfl, by decide +kernel, by decide +kernel⟩
theorem bind__law_feed (kV doc pm : Value) (an : Option Addr) (cdv ct : Value) (us : List Value) (hl : us.length = 1) : bindArgs (PySem.W.fnOf "_law_feed" "_law_feed" (defArgs s__law_feed) (defBody s__law_feed) (defScope s__law_feed) .none kV doc pm an cdv ct) ⟨us, []⟩ = pure ((["script"] : List Str).zip us) := match us, hl with | [_], _ => rfl
theorem ok__law_feed (T : Txt K mg) : CalD P w K mg base 1 "_law_feed" (defArgs s__law_feed) (defBody s__law_feed) (defScope s__law_feed) ["script"] (spX K (PD K) m__law_feed 1) := by
  obtain ⟨fd, F⟩ := T.d__law_feed
  refine ⟨fd, F, fnD_okV (N := ["script"]) F sc__law_feed (mb := b__law_feed) fun cdv A outer s H E hr => ?_, T.g__law_feed⟩
  unfold b__law_feed
  exact (gs_one (gs_ret (ge_new (gl_lst (ga_cons (ge_new (ge_t1 k_list (by rfl) T.z_list (by rfl) (gq_v (ge_v 0)))) (ga_cons ge_int (ga_cons ge_int (ga_cons ge_int (ga_cons ge_int ga_nil)))))))))
theorem sc_is_integer : FnScope ["value"] ["value"] (defScope s_is_integer) := ⟨rfl, rfl, rfl, by decide +kernel, rfl, by decide +kernel, by decide +kernel⟩
theorem bind_is_integer (kV doc pm : Value) (an : Option Addr) (cdv ct : Value) (us : List Value) (hl : us.length = 1) : bindArgs (PySem.W.fnOf "is_integer" "is_integer" (defArgs s_is_integer) (defBody s_is_integer) (defScope s_is_integer) .none kV doc pm an cdv ct) ⟨us, []⟩ = pure ((["value"] : List Str).zip us) := match us, hl with | [_], _ => rfl
theorem ok_is_integer (T : Txt K mg) : CalD P w K mg base 1 "is_integer" (defArgs s_is_integer) (defBody s_is_integer) (defScope s_is_integer) ["value"] (spX K (PD K) m_is_integer 1) := by
  obtain ⟨fd, F⟩ := T.d_is_integer
  refine ⟨fd, F, fnD_okV (N := ["value"]) F sc_is_integer (mb := b_is_integer) fun cdv A outer s H E hr => ?_, T.g_is_integer⟩
  unfold b_is_integer
  exact (gs_one (gs_ret (ge_and (ge_b2 k_isi (by rfl) T.z_isinstance (by rfl) (ge_v 0) (ge_bty (by rfl) T.z_int (by rfl))) (ge_one (ge_not (ge_b2 k_isi (by rfl) T.z_isinstance (by rfl) (ge_v 0) (ge_bty (by rfl) T.z_bool (by rfl))))))))
theorem sc_is_permutation : FnScope ["value", "own"] ["value"] (defScope s_is_permutation) := ⟨rfl, rfl, rfl, by decide +kernel, rfl, by decide +kernel, by decide +kernel⟩
theorem bind_is_permutation (kV doc pm : Value) (an : Option Addr) (cdv ct : Value) (us : List Value) (hl : us.length = 1) : bindArgs (PySem.W.fnOf "is_permutation" "is_permutation" (defArgs s_is_permutation) (defBody s_is_permutation) (defScope s_is_permutation) .none kV doc pm an cdv ct) ⟨us, []⟩ = pure ((["value"] : List Str).zip us) := match us, hl with | [_], _ => rfl
theorem ok_is_permutation (T : Txt K mg) : CalD P w K mg base 2 "is_permutation" (defArgs s_is_permutation) (defBody s_is_permutation) (defScope s_is_permutation) ["value"] (spX K (PD K) m_is_permutation 1) := by
  have c_is_integer := ok_is_integer (P := P) (w := w) (base := base) T
  obtain ⟨t_MOST_POINTS, T_i_MOST_POINTS⟩ := T.x_MOST_POINTS
  obtain ⟨fd, F⟩ := T.d_is_permutation
  refine ⟨fd, F, fnD_okV (N := ["value", "own"]) F sc_is_permutation (mb := b_is_permutation) fun cdv A outer s H E hr => ?_, T.g_is_permutation⟩
  unfold b_is_permutation
  exact (gs_cons (gs_if (gt_w (gw_or (gt_not (gt_val (ge_b2 k_isi (by rfl) T.z_isinstance (by rfl) (ge_v 0) (ge_bty (by rfl) T.z_tuple (by rfl))))) (gw_or1 (gt_not (gt_chain c_le c_le ge_int (ge_b1 k_len (by rfl) T.z_len (by rfl) (gq_v (ge_v 0))) (ge_gint (by rfl) T_i_MOST_POINTS)))))) (gs_one (gs_ret ge_bl)) gs_nil)
      (gs_cons (gs_if (gt_not (gt_val (ge_b1 (k_all rfl) (by rfl) T.z_all (by rfl) (gr_l (ge_lc (own := [("own", 1)]) rfl sc_is_permutation.nd (gi_v (ge_v 0)) (blkOk_by (by rfl)) (by decide) (fun _ _ _ _ _ => (pg_name (i := 1) sc_is_permutation.nd rfl (by first | exact .inl rfl | exact .inr rfl))) tg_name (fun _ _ _ _ _ => gts_nil) (fun _ _ _ _ _ => (ge_callC old_D (c_is_integer) (hr.mono (by decide)) (by rfl) bind_is_integer (ga_cons (ge_v 1) ga_nil)))))))) (gs_one (gs_ret ge_bl)) gs_nil)
      (gs_one (gs_ret (ge_cmp (c_eqTR hr.u64) (ge_b1 (k_sorted hr.u100) (by rfl) T.z_sorted (by rfl) (gq_v (ge_v 0))) (gr_l (gl_listRg1 rfl (by rfl) T.z_list (by rfl) T.z_range (ge_b1 k_len (by rfl) T.z_len (by rfl) (gq_v (ge_v 0))))) rfl)))))
theorem sc_check_permutation : FnScope ["permutation"] ["permutation"] (defScope s_check_permutation) := ⟨rfl, rfl, rfl, by decide +kernel, rfl, by decide +kernel, by decide +kernel⟩
theorem bind_check_permutation (kV doc pm : Value) (an : Option Addr) (cdv ct : Value) (us : List Value) (hl : us.length = 1) : bindArgs (PySem.W.fnOf "check_permutation" "check_permutation" (defArgs s_check_permutation) (defBody s_check_permutation) (defScope s_check_permutation) .none kV doc pm an cdv ct) ⟨us, []⟩ = pure ((["permutation"] : List Str).zip us) := match us, hl with | [_], _ => rfl
theorem ok_check_permutation (T : Txt K mg) : CalD P w K mg base 3 "check_permutation" (defArgs s_check_permutation) (defBody s_check_permutation) (defScope s_check_permutation) ["permutation"] (spX K (PD K) m_check_permutation 1) := by
  have c_is_permutation := ok_is_permutation (P := P) (w := w) (base := base) T
  obtain ⟨fd, F⟩ := T.d_check_permutation
  refine ⟨fd, F, fnD_okV (N := ["permutation"]) F sc_check_permutation (mb := b_check_permutation) fun cdv A outer s H E hr => ?_, T.g_check_permutation⟩
  unfold b_check_permutation
  exact (gs_one (gs_if (gt_not (gt_val (ge_callC old_D (c_is_permutation) (hr.mono (by decide)) (by rfl) bind_is_permutation (ga_cons (ge_v 0) ga_nil)))) (gs_one gs_never) gs_nil))
theorem sc_turned_back : FnScope ["one", "found", "at", "own"] ["one"] (defScope s_turned_back) := ⟨rfl, rfl, rfl, by decide +kernel, rfl, by decide +kernel, by decide +kernel⟩
theorem bind_turned_back (kV doc pm : Value) (an : Option Addr) (cdv ct : Value) (us : List Value) (hl : us.length = 1) : bindArgs (PySem.W.fnOf "turned_back" "turned_back" (defArgs s_turned_back) (defBody s_turned_back) (defScope s_turned_back) .none kV doc pm an cdv ct) ⟨us, []⟩ = pure ((["one"] : List Str).zip us) := match us, hl with | [_], _ => rfl
theorem ok_turned_back (T : Txt K mg) : CalD P w K mg base 1 "turned_back" (defArgs s_turned_back) (defBody s_turned_back) (defScope s_turned_back) ["one"] (spX K (PD K) m_turned_back 1) := by
  obtain ⟨fd, F⟩ := T.d_turned_back
  refine ⟨fd, F, fnD_okV (N := ["one", "found", "at", "own"]) F sc_turned_back (mb := b_turned_back) fun cdv A outer s H E hr => ?_, T.g_turned_back⟩
  unfold b_turned_back
  exact (gs_cons (gs_set (i := 1) sc_turned_back.nd (ge_new (gl_rep (gl_lst (ga_cons ge_int ga_nil)) (ge_b1 k_len (by rfl) T.z_len (by rfl) (gq_v (ge_v 0))))))
      (gs_cons (gs_for PassesOwn.never rfl (gi_enumV (by rfl) T.z_enumerate (ge_v 0)) (pg_2 (i := 2) (j := 3) rfl sc_turned_back.nd) tg_P (gs_one (gs_sub (ge_v 1) (ge_v 3) (ge_v 2))))
      (gs_one (gs_ret (ge_t1 k_tuple (by rfl) T.z_tuple (by rfl) (gq_v (ge_v 1)))))))
theorem sc_inverse_permutation : FnScope ["permutation"] ["permutation"] (defScope s_inverse_permutation) := ⟨rfl, rfl, rfl, by decide +kernel, rfl, by decide +kernel, by decide +kernel⟩
theorem bind_inverse_permutation (kV doc pm : Value) (an : Option Addr) (cdv ct : Value) (us : List Value) (hl : us.length = 1) : bindArgs (PySem.W.fnOf "inverse_permutation" "inverse_permutation" (defArgs s_inverse_permutation) (defBody s_inverse_permutation) (defScope s_inverse_permutation) .none kV doc pm an cdv ct) ⟨us, []⟩ = pure ((["permutation"] : List Str).zip us) := match us, hl with | [_], _ => rfl
theorem ok_inverse_permutation (T : Txt K mg) : CalD P w K mg base 4 "inverse_permutation" (defArgs s_inverse_permutation) (defBody s_inverse_permutation) (defScope s_inverse_permutation) ["permutation"] (spX K (PD K) m_inverse_permutation 1) := by
  have c_check_permutation := ok_check_permutation (P := P) (w := w) (base := base) T
  have c_turned_back := ok_turned_back (P := P) (w := w) (base := base) T
  obtain ⟨fd, F⟩ := T.d_inverse_permutation
  refine ⟨fd, F, fnD_okV (N := ["permutation"]) F sc_inverse_permutation (mb := b_inverse_permutation) fun cdv A outer s H E hr => ?_, T.g_inverse_permutation⟩
  unfold b_inverse_permutation
  exact (gs_cons (gs_expr (ge_callC old_D (c_check_permutation) (hr.mono (by decide)) (by rfl) bind_check_permutation (ga_cons (ge_v 0) ga_nil)))
      (gs_one (gs_ret (ge_callC old_D (c_turned_back) (hr.mono (by decide)) (by rfl) bind_turned_back (ga_cons (ge_v 0) ga_nil)))))
theorem sc__law_lengths : FnScope ["p", "found", "start", "walk"] ["p"] (defScope s__law_lengths) := ⟨rfl, rfl, rfl, by decide +kernel, rfl, by decide +kernel, by decide +kernel⟩
theorem bind__law_lengths (kV doc pm : Value) (an : Option Addr) (cdv ct : Value) (us : List Value) (hl : us.length = 1) : bindArgs (PySem.W.fnOf "_law_lengths" "_law_lengths" (defArgs s__law_lengths) (defBody s__law_lengths) (defScope s__law_lengths) .none kV doc pm an cdv ct) ⟨us, []⟩ = pure ((["p"] : List Str).zip us) := match us, hl with | [_], _ => rfl
theorem ok__law_lengths (T : Txt K mg) : CalD P w K mg base 1 "_law_lengths" (defArgs s__law_lengths) (defBody s__law_lengths) (defScope s__law_lengths) ["p"] (spX K (PD K) m__law_lengths 1) := by
  obtain ⟨fd, F⟩ := T.d__law_lengths
  refine ⟨fd, F, fnD_okV (N := ["p", "found", "start", "walk"]) F sc__law_lengths (mb := b__law_lengths) fun cdv A outer s H E hr => ?_, T.g__law_lengths⟩
  unfold b__law_lengths
  exact (gs_cons (gs_set (i := 1) sc__law_lengths.nd (ge_new (gl_lst ga_nil)))
      (gs_cons (gs_for PassesOwn.never rfl (gi_range1 (by rfl) T.z_range (ge_b1 k_len (by rfl) T.z_len (by rfl) (gq_v (ge_v 0)))) (pg_name (i := 2) sc__law_lengths.nd rfl (by first | exact .inl rfl | exact .inr rfl)) tg_name (gs_cons (gs_set (i := 3) sc__law_lengths.nd (ge_new (gl_lst (ga_cons (ge_v 2) ga_nil))))
      (gs_cons (gs_while PassesOwn.never (gt_cmp (c_ne hr.u64) (ge_ix (ge_v 0) (ge_ix (ge_v 3) (ge_neg ge_int) (fun _ _ => rfl)) (fun _ _ => rfl)) (ge_v 2) rfl) (gs_one (gs_expr (ge_met PySem.F.slot_list_append PySem.F.type_list_append m_append (ge_v 3) (ge_ix (ge_v 0) (ge_ix (ge_v 3) (ge_neg ge_int) (fun _ _ => rfl)) (fun _ _ => rfl))))))
      (gs_one (gs_if (gt_cmp (c_eq hr.u64) (ge_b1 (k_min rfl) (by rfl) T.z_min (by rfl) (gr_v (ge_v 3))) (ge_v 2) rfl) (gs_one (gs_expr (ge_met PySem.F.slot_list_append PySem.F.type_list_append m_append (ge_v 1) (ge_b1 k_len (by rfl) T.z_len (by rfl) (gq_v (ge_v 3)))))) gs_nil)))))
      (gs_one (gs_ret (ge_t1 k_tuple (by rfl) T.z_tuple (by rfl) (gq_l (ge_b1 (k_sorted hr.u100) (by rfl) T.z_sorted (by rfl) (gq_v (ge_v 1)))))))))
theorem sc__law_drawn : FnScope ["feed", "many", "cell", "mixed", "digit"] ["feed", "many"] (defScope s__law_drawn) := ⟨rfl, rfl, rfl, by decide +kernel, rfl, by decide +kernel, by decide +kernel⟩
theorem bind__law_drawn (kV doc pm : Value) (an : Option Addr) (cdv ct : Value) (us : List Value) (hl : us.length = 2) : bindArgs (PySem.W.fnOf "_law_drawn" "_law_drawn" (defArgs s__law_drawn) (defBody s__law_drawn) (defScope s__law_drawn) .none kV doc pm an cdv ct) ⟨us, []⟩ = pure ((["feed", "many"] : List Str).zip us) := match us, hl with | [_, _], _ => rfl
theorem ok__law_drawn (T : Txt K mg) : CalD P w K mg base 1 "_law_drawn" (defArgs s__law_drawn) (defBody s__law_drawn) (defScope s__law_drawn) ["feed", "many"] (spX K (PD K) m__law_drawn 2) := by
  obtain ⟨fd, F⟩ := T.d__law_drawn
  refine ⟨fd, F, fnD_okV (N := ["feed", "many", "cell", "mixed", "digit"]) F sc__law_drawn (mb := b__law_drawn) fun cdv A outer s H E hr => ?_, T.g__law_drawn⟩
  unfold b__law_drawn
  exact (gs_cons (gs_if (gt_w (gw_and (gt_cmp (c_eq hr.u64) (ge_ix (ge_v 0) ge_int (fun _ _ => rfl)) ge_int rfl) (gw_and1 (gt_cmp c_lt (ge_ix (ge_v 0) ge_int (fun _ _ => rfl)) (ge_b1 k_len (by rfl) T.z_len (by rfl) (gq_v (ge_ix (ge_v 0) ge_int (fun _ _ => rfl)))) rfl)))) (gs_cons (gs_set (i := 2) sc__law_drawn.nd (ge_ix (ge_ix (ge_v 0) ge_int (fun _ _ => rfl)) (ge_ix (ge_v 0) ge_int (fun _ _ => rfl)) (fun _ _ => rfl)))
      (gs_cons (gs_sub (ge_v 0) ge_int (ge_add (ge_ix (ge_v 0) ge_int (fun _ _ => rfl)) ge_int))
      (gs_one (gs_if (gt_cmp c_ge (ge_v 2) (ge_pow ge_int ge_int) rfl) (gs_one (gs_sub (ge_v 0) ge_int (ge_sub (ge_v 2) (ge_pow ge_int ge_int)))) (gs_cons (gs_set (i := 3) sc__law_drawn.nd (ge_mod (ge_t1 k_int (by rfl) T.z_int (by rfl) (ge_v 2)) ge_int))
      (gs_one (gs_sub (ge_v 0) ge_int (ge_mod (ge_t1 k_int (by rfl) T.z_int (by rfl) (ge_add (ge_add (ge_mul (ge_ix (ge_v 0) ge_int (fun _ _ => rfl)) ge_int) (ge_mul (ge_v 3) (ge_v 3))) (ge_mul (ge_ix (ge_v 0) ge_int (fun _ _ => rfl)) ge_int))) ge_int)))))))) gs_nil)
      (gs_cons (gs_if (gt_cmp c_gt (ge_ix (ge_v 0) ge_int (fun _ _ => rfl)) ge_int rfl) (gs_cons (gs_set (i := 4) sc__law_drawn.nd (ge_mod (ge_t1 k_int (by rfl) T.z_int (by rfl) (ge_ix (ge_v 0) ge_int (fun _ _ => rfl))) (ge_v 1)))
      (gs_cons (gs_sub (ge_v 0) ge_int (ge_fdiv (ge_t1 k_int (by rfl) T.z_int (by rfl) (ge_ix (ge_v 0) ge_int (fun _ _ => rfl))) (ge_v 1)))
      (gs_one (gs_ret (ge_v 4))))) gs_nil)
      (gs_cons (gs_sub (ge_v 0) ge_int (ge_add (ge_ix (ge_v 0) ge_int (fun _ _ => rfl)) ge_int))
      (gs_cons (gs_sub (ge_v 0) ge_int (ge_mod (ge_t1 k_int (by rfl) T.z_int (by rfl) (ge_add (ge_add (ge_mul (ge_ix (ge_v 0) ge_int (fun _ _ => rfl)) (ge_ix (ge_v 0) ge_int (fun _ _ => rfl))) (ge_mul (ge_ix (ge_v 0) ge_int (fun _ _ => rfl)) ge_int)) ge_int)) ge_int))
      (gs_one (gs_ret (ge_mod (ge_t1 k_int (by rfl) T.z_int (by rfl) (ge_fdiv (ge_ix (ge_v 0) ge_int (fun _ _ => rfl)) ge_int)) (ge_v 1))))))))
theorem sc__law_bent : FnScope ["feed", "p", "way", "at", "point", "k"] ["feed", "p"] (defScope s__law_bent) := ⟨rfl, rfl, rfl, by decide +kernel, rfl, by decide +kernel, by decide +kernel⟩
theorem bind__law_bent (kV doc pm : Value) (an : Option Addr) (cdv ct : Value) (us : List Value) (hl : us.length = 2) : bindArgs (PySem.W.fnOf "_law_bent" "_law_bent" (defArgs s__law_bent) (defBody s__law_bent) (defScope s__law_bent) .none kV doc pm an cdv ct) ⟨us, []⟩ = pure ((["feed", "p"] : List Str).zip us) := match us, hl with | [_, _], _ => rfl
theorem ok__law_bent (T : Txt K mg) : CalD P w K mg base 2 "_law_bent" (defArgs s__law_bent) (defBody s__law_bent) (defScope s__law_bent) ["feed", "p"] (spX K (PD K) m__law_bent 2) := by
  have c__law_drawn := ok__law_drawn (P := P) (w := w) (base := base) T
  obtain ⟨fd, F⟩ := T.d__law_bent
  refine ⟨fd, F, fnD_okV (N := ["feed", "p", "way", "at", "point", "k"]) F sc__law_bent (mb := b__law_bent) fun cdv A outer s H E hr => ?_, T.g__law_bent⟩
  unfold b__law_bent
  exact (gs_cons (gs_par (i := 2) (j := 3) rfl sc__law_bent.nd (ga_cons (ge_callC old_D (c__law_drawn) (hr.mono (by decide)) (by rfl) bind__law_drawn (ga_cons (ge_v 0) (ga_cons ge_int ga_nil))) (ga_cons (ge_callC old_D (c__law_drawn) (hr.mono (by decide)) (by rfl) bind__law_drawn (ga_cons (ge_v 0) (ga_cons (ge_b1 k_len (by rfl) T.z_len (by rfl) (gq_v (ge_v 1))) ga_nil))) ga_nil)))
      (gs_cons (gs_if (gt_cmp c_lt (ge_v 2) ge_int rfl) (gs_one (gs_ret (ge_ixL (gl_lst (ga_cons (ge_new (ge_t1 k_list (by rfl) T.z_list (by rfl) (gq_v (ge_v 1)))) (ga_cons (ge_catT (ge_v 1) (ge_tup (ga_cons (ge_b1 k_len (by rfl) T.z_len (by rfl) (gq_v (ge_v 1))) ga_nil))) (ga_cons (ge_slT (ge_v 1) gp_none (gp_some (ge_neg ge_int))) (ga_cons (ge_catT (ge_v 1) (ge_tup (ga_cons (ge_ix (ge_v 1) ge_int (fun _ _ => rfl)) ga_nil))) ga_nil))))) (ge_v 2) (fun _ _ => rfl)))) gs_nil)
      (gs_cons (gs_if (gt_cmp c_lt (ge_v 2) ge_int rfl) (gs_cons (gs_set (i := 4) sc__law_bent.nd (ge_ixL (gl_lst (ga_cons (ge_sub (ge_callC old_D (c__law_drawn) (hr.mono (by decide)) (by rfl) bind__law_drawn (ga_cons (ge_v 0) (ga_cons ge_int ga_nil))) ge_int) (ga_cons (ge_cmp (c_eq hr.u64) (ge_ix (ge_v 1) (ge_v 3) (fun _ _ => rfl)) ge_int rfl) (ga_cons ge_non ga_nil)))) (ge_sub (ge_v 2) ge_int) (fun _ _ => rfl)))
      (gs_one (gs_ret (ge_catT (ge_catT (ge_slT (ge_v 1) gp_none (gp_some (ge_v 3))) (ge_tup (ga_cons (ge_v 4) ga_nil))) (ge_slT (ge_v 1) (gp_some (ge_add (ge_v 3) ge_int)) gp_none))))) gs_nil)
      (gs_one (gs_ret (ge_ixL (gl_lst (ga_cons (ge_tup (ga_cons (ge_v 1) ga_nil)) (ga_cons ge_non (ga_cons (ge_t1 k_tuple (by rfl) T.z_tuple (by rfl) (gq_l (ge_lc (own := [("k", 5)]) rfl sc__law_bent.nd (gi_v (ge_v 1)) (blkOk_by (by rfl)) (by decide) (fun _ _ _ _ _ => (pg_name (i := 5) sc__law_bent.nd rfl (by first | exact .inl rfl | exact .inr rfl))) tg_name (fun _ _ _ _ _ => gts_nil) (fun _ _ _ _ _ => (ge_add (ge_v 5) ge_int))))) ga_nil)))) (ge_sub (ge_v 2) ge_int) (fun _ _ => rfl)))))))
theorem sc__law_order : FnScope ["feed", "many", "left", "k", "found"] ["feed", "many"] (defScope s__law_order) := ⟨rfl, rfl, rfl, by decide +kernel, rfl, by decide +kernel, by decide +kernel⟩
theorem bind__law_order (kV doc pm : Value) (an : Option Addr) (cdv ct : Value) (us : List Value) (hl : us.length = 2) : bindArgs (PySem.W.fnOf "_law_order" "_law_order" (defArgs s__law_order) (defBody s__law_order) (defScope s__law_order) .none kV doc pm an cdv ct) ⟨us, []⟩ = pure ((["feed", "many"] : List Str).zip us) := match us, hl with | [_, _], _ => rfl
theorem ok__law_order (T : Txt K mg) : CalD P w K mg base 2 "_law_order" (defArgs s__law_order) (defBody s__law_order) (defScope s__law_order) ["feed", "many"] (spX K (PD K) m__law_order 2) := by
  have c__law_drawn := ok__law_drawn (P := P) (w := w) (base := base) T
  obtain ⟨fd, F⟩ := T.d__law_order
  refine ⟨fd, F, fnD_okV (N := ["feed", "many", "left", "k", "found"]) F sc__law_order (mb := b__law_order) fun cdv A outer s H E hr => ?_, T.g__law_order⟩
  unfold b__law_order
  exact (gs_cons (gs_setLc (i := 2) (own := [("k", 3)]) rfl sc__law_order.nd (gi_range1 (by rfl) T.z_range (ge_v 1)) (blkOk_by (by rfl)) (by decide) (fun _ _ _ _ _ => (pg_name (i := 3) sc__law_order.nd rfl (by first | exact .inl rfl | exact .inr rfl))) tg_name (fun _ _ _ _ _ => gts_nil) (fun _ _ _ _ _ => (ge_v 3)))
      (gs_cons (gs_set (i := 4) sc__law_order.nd (ge_new (gl_lst ga_nil)))
      (gs_cons (gs_while PassesOwn.never (gt_cmp c_gt (ge_b1 k_len (by rfl) T.z_len (by rfl) (gq_v (ge_v 2))) ge_int rfl) (gs_one (gs_expr (ge_met PySem.F.slot_list_append PySem.F.type_list_append m_append (ge_v 4) (ge_met PySem.F.slot_list_pop PySem.F.type_list_pop m_popAt (ge_v 2) (ge_callC old_D (c__law_drawn) (hr.mono (by decide)) (by rfl) bind__law_drawn (ga_cons (ge_v 0) (ga_cons (ge_b1 k_len (by rfl) T.z_len (by rfl) (gq_v (ge_v 2))) ga_nil))))))))
      (gs_one (gs_ret (ge_t1 k_tuple (by rfl) T.z_tuple (by rfl) (gq_v (ge_v 4))))))))
theorem sc__law_same : FnScope ["got", "due", "k"] ["got", "due"] (defScope s__law_same) := ⟨rfl, rfl, rfl, by decide +kernel, rfl, by decide +kernel, by decide +kernel⟩
theorem bind__law_same (kV doc pm : Value) (an : Option Addr) (cdv ct : Value) (us : List Value) (hl : us.length = 2) : bindArgs (PySem.W.fnOf "_law_same" "_law_same" (defArgs s__law_same) (defBody s__law_same) (defScope s__law_same) .none kV doc pm an cdv ct) ⟨us, []⟩ = pure ((["got", "due"] : List Str).zip us) := match us, hl with | [_, _], _ => rfl
theorem okr__law_same (T : Txt K mg) : ∀ k : Nat, CalD P w K mg base (1 + k) "_law_same" (defArgs s__law_same) (defBody s__law_same) (defScope s__law_same) ["got", "due"] (spX K (PD K) (m__law_same_ k) 2) := by
  intro k
  induction k with
  | zero =>
    obtain ⟨fd, F⟩ := T.d__law_same
    exact ⟨fd, F, fn_fail, T.g__law_same⟩
  | succ k c__law_same =>
    obtain ⟨fd, F⟩ := T.d__law_same
    refine ⟨fd, F, fnD_okV (N := ["got", "due", "k"]) F sc__law_same (mb := b__law_same (m__law_same_ k)) fun cdv A outer s H E hr => ?_, T.g__law_same⟩
    unfold b__law_same
    exact (gs_cons (gs_if (gt_val (ge_isi2 (by rfl) T.z_isinstance (by rfl) (ge_v 1) (pe_tup (pa_cons (pe_bltn (by rfl) T.z_tuple (by rfl) (show RelV (.ty "tuple") (.type "tuple") from rfl)) (pa_cons (pe_bltn (by rfl) T.z_list (by rfl) (show RelV (.ty "list") (.type "list") from rfl)) pa_nil))))) (gs_cons (gs_if (gt_w (gw_or (gt_cmp (c_ne hr.u64) (ge_b2 k_isi (by rfl) T.z_isinstance (by rfl) (ge_v 0) (ge_bty (by rfl) T.z_list (by rfl))) (ge_b2 k_isi (by rfl) T.z_isinstance (by rfl) (ge_v 1) (ge_bty (by rfl) T.z_list (by rfl))) rfl) (gw_or1 (gt_cmp (c_ne hr.u64) (ge_b2 k_isi (by rfl) T.z_isinstance (by rfl) (ge_v 0) (ge_bty (by rfl) T.z_tuple (by rfl))) (ge_b2 k_isi (by rfl) T.z_isinstance (by rfl) (ge_v 1) (ge_bty (by rfl) T.z_tuple (by rfl))) rfl)))) (gs_one (gs_ret ge_bl)) gs_nil)
      (gs_one (gs_ret (ge_and (ge_cmp (c_eq hr.u64) (ge_b1 k_len (by rfl) T.z_len (by rfl) (gq_v (ge_v 0))) (ge_b1 k_len (by rfl) T.z_len (by rfl) (gq_v (ge_v 1))) rfl) (ge_one (ge_b1 (k_all rfl) (by rfl) T.z_all (by rfl) (gr_l (ge_lc (own := [("k", 2)]) rfl sc__law_same.nd (gi_range1 (by rfl) T.z_range (ge_b1 k_len (by rfl) T.z_len (by rfl) (gq_v (ge_v 1)))) (blkOk_by (by rfl)) (by decide) (fun _ _ _ _ _ => (pg_name (i := 2) sc__law_same.nd rfl (by first | exact .inl rfl | exact .inr rfl))) tg_name (fun _ _ _ _ _ => gts_nil) (fun _ _ _ _ _ => (ge_callC old_D (c__law_same) (hr.mono (by first | exact Nat.le_refl _ | (show _ ≤ _ + _; omega))) (by rfl) bind__law_same (ga_cons (ge_ix (ge_v 0) (ge_v 2) (fun _ _ => rfl)) (ga_cons (ge_ix (ge_v 1) (ge_v 2) (fun _ _ => rfl)) ga_nil)))))))))))) gs_nil)
      (gs_cons (gs_if (gt_isN (ge_v 1)) (gs_one (gs_ret (ge_isN (ge_v 0)))) gs_nil)
      (gs_cons (gs_if (gt_val (ge_b2 k_isi (by rfl) T.z_isinstance (by rfl) (ge_v 1) (ge_bty (by rfl) T.z_bool (by rfl)))) (gs_one (gs_ret (ge_and (ge_b2 k_isi (by rfl) T.z_isinstance (by rfl) (ge_v 0) (ge_bty (by rfl) T.z_bool (by rfl))) (ge_one (ge_cmp (c_eq hr.u64) (ge_v 0) (ge_v 1) rfl))))) gs_nil)
      (gs_cons (gs_if (gt_val (ge_b2 k_isi (by rfl) T.z_isinstance (by rfl) (ge_v 1) (ge_bty (by rfl) T.z_int (by rfl)))) (gs_one (gs_ret (ge_and (ge_b2 k_isi (by rfl) T.z_isinstance (by rfl) (ge_v 0) (ge_bty (by rfl) T.z_int (by rfl))) (ge_and (ge_not (ge_b2 k_isi (by rfl) T.z_isinstance (by rfl) (ge_v 0) (ge_bty (by rfl) T.z_bool (by rfl)))) (ge_one (ge_cmp (c_eq hr.u64) (ge_v 0) (ge_v 1) rfl)))))) gs_nil)
      (gs_one (gs_ret (ge_and (ge_b2 k_isi (by rfl) T.z_isinstance (by rfl) (ge_v 0) (ge_bty (by rfl) T.z_str (by rfl))) (ge_one (ge_cmp (c_eq hr.u64) (ge_v 0) (ge_v 1) rfl)))))))))
theorem ok__law_same (T : Txt K mg) : CalD P w K mg base 7 "_law_same" (defArgs s__law_same) (defBody s__law_same) (defScope s__law_same) ["got", "due"] (spX K (PD K) m__law_same 2) := okr__law_same T 6
theorem sc_check_two : FnScope ["permutation", "second_permutation"] ["permutation", "second_permutation"] (defScope s_check_two) := ⟨rfl, rfl, rfl, by decide +kernel, rfl, by decide +kernel, by decide +kernel⟩
theorem bind_check_two (kV doc pm : Value) (an : Option Addr) (cdv ct : Value) (us : List Value) (hl : us.length = 2) : bindArgs (PySem.W.fnOf "check_two" "check_two" (defArgs s_check_two) (defBody s_check_two) (defScope s_check_two) .none kV doc pm an cdv ct) ⟨us, []⟩ = pure ((["permutation", "second_permutation"] : List Str).zip us) := match us, hl with | [_, _], _ => rfl
theorem ok_check_two (T : Txt K mg) : CalD P w K mg base 4 "check_two" (defArgs s_check_two) (defBody s_check_two) (defScope s_check_two) ["permutation", "second_permutation"] (spX K (PD K) m_check_two 2) := by
  have c_check_permutation := ok_check_permutation (P := P) (w := w) (base := base) T
  obtain ⟨fd, F⟩ := T.d_check_two
  refine ⟨fd, F, fnD_okV (N := ["permutation", "second_permutation"]) F sc_check_two (mb := b_check_two) fun cdv A outer s H E hr => ?_, T.g_check_two⟩
  unfold b_check_two
  exact (gs_cons (gs_expr (ge_callC old_D (c_check_permutation) (hr.mono (by decide)) (by rfl) bind_check_permutation (ga_cons (ge_v 0) ga_nil)))
      (gs_cons (gs_expr (ge_callC old_D (c_check_permutation) (hr.mono (by decide)) (by rfl) bind_check_permutation (ga_cons (ge_v 1) ga_nil)))
      (gs_one (gs_if (gt_cmp (c_ne hr.u64) (ge_b1 k_len (by rfl) T.z_len (by rfl) (gq_v (ge_v 0))) (ge_b1 k_len (by rfl) T.z_len (by rfl) (gq_v (ge_v 1))) rfl) (gs_one gs_never) gs_nil))))
theorem sc_product_of : FnScope ["one", "other", "own"] ["one", "other"] (defScope s_product_of) := ⟨rfl, rfl, rfl, by decide +kernel, rfl, by decide +kernel, by decide +kernel⟩
theorem bind_product_of (kV doc pm : Value) (an : Option Addr) (cdv ct : Value) (us : List Value) (hl : us.length = 2) : bindArgs (PySem.W.fnOf "product_of" "product_of" (defArgs s_product_of) (defBody s_product_of) (defScope s_product_of) .none kV doc pm an cdv ct) ⟨us, []⟩ = pure ((["one", "other"] : List Str).zip us) := match us, hl with | [_, _], _ => rfl
theorem ok_product_of (T : Txt K mg) : CalD P w K mg base 1 "product_of" (defArgs s_product_of) (defBody s_product_of) (defScope s_product_of) ["one", "other"] (spX K (PD K) m_product_of 2) := by
  obtain ⟨fd, F⟩ := T.d_product_of
  refine ⟨fd, F, fnD_okV (N := ["one", "other", "own"]) F sc_product_of (mb := b_product_of) fun cdv A outer s H E hr => ?_, T.g_product_of⟩
  unfold b_product_of
  exact (gs_one (gs_ret (ge_t1 k_tuple (by rfl) T.z_tuple (by rfl) (gq_l (ge_lc (own := [("own", 2)]) rfl sc_product_of.nd (gi_v (ge_v 0)) (blkOk_by (by rfl)) (by decide) (fun _ _ _ _ _ => (pg_name (i := 2) sc_product_of.nd rfl (by first | exact .inl rfl | exact .inr rfl))) tg_name (fun _ _ _ _ _ => gts_nil) (fun _ _ _ _ _ => (ge_ix (ge_v 1) (ge_v 2) (fun _ _ => rfl))))))))
theorem sc_then : FnScope ["permutation", "second_permutation"] ["permutation", "second_permutation"] (defScope s_then) := ⟨rfl, rfl, rfl, by decide +kernel, rfl, by decide +kernel, by decide +kernel⟩
theorem bind_then (kV doc pm : Value) (an : Option Addr) (cdv ct : Value) (us : List Value) (hl : us.length = 2) : bindArgs (PySem.W.fnOf "then" "then" (defArgs s_then) (defBody s_then) (defScope s_then) .none kV doc pm an cdv ct) ⟨us, []⟩ = pure ((["permutation", "second_permutation"] : List Str).zip us) := match us, hl with | [_, _], _ => rfl
theorem ok_then (T : Txt K mg) : CalD P w K mg base 5 "then" (defArgs s_then) (defBody s_then) (defScope s_then) ["permutation", "second_permutation"] (spX K (PD K) m_then 2) := by
  have c_check_two := ok_check_two (P := P) (w := w) (base := base) T
  have c_product_of := ok_product_of (P := P) (w := w) (base := base) T
  obtain ⟨fd, F⟩ := T.d_then
  refine ⟨fd, F, fnD_okV (N := ["permutation", "second_permutation"]) F sc_then (mb := b_then) fun cdv A outer s H E hr => ?_, T.g_then⟩
  unfold b_then
  exact (gs_cons (gs_expr (ge_callC old_D (c_check_two) (hr.mono (by decide)) (by rfl) bind_check_two (ga_cons (ge_v 0) (ga_cons (ge_v 1) ga_nil))))
      (gs_one (gs_ret (ge_callC old_D (c_product_of) (hr.mono (by decide)) (by rfl) bind_product_of (ga_cons (ge_v 0) (ga_cons (ge_v 1) ga_nil))))))
theorem sc_cycle_lengths : FnScope ["one", "left", "found", "point", "many"] ["one"] (defScope s_cycle_lengths) := ⟨rfl, rfl, rfl, by decide +kernel, rfl, by decide +kernel, by decide +kernel⟩
theorem bind_cycle_lengths (kV doc pm : Value) (an : Option Addr) (cdv ct : Value) (us : List Value) (hl : us.length = 1) : bindArgs (PySem.W.fnOf "cycle_lengths" "cycle_lengths" (defArgs s_cycle_lengths) (defBody s_cycle_lengths) (defScope s_cycle_lengths) .none kV doc pm an cdv ct) ⟨us, []⟩ = pure ((["one"] : List Str).zip us) := match us, hl with | [_], _ => rfl
theorem ok_cycle_lengths (T : Txt K mg) : CalD P w K mg base 1 "cycle_lengths" (defArgs s_cycle_lengths) (defBody s_cycle_lengths) (defScope s_cycle_lengths) ["one"] (spX K (PLs K) m_cycle_lengths 1) := by
  obtain ⟨fd, F⟩ := T.d_cycle_lengths
  refine ⟨fd, F, fnD_okL (N := ["one", "left", "found", "point", "many"]) F sc_cycle_lengths (mb := b_cycle_lengths) fun cdv A outer s H E hr => ?_, T.g_cycle_lengths⟩
  unfold b_cycle_lengths
  exact (gs_cons (gs_par (i := 1) (j := 2) rfl sc_cycle_lengths.nd (ga_cons (ge_new (gl_listRg1 rfl (by rfl) T.z_list (by rfl) T.z_range (ge_b1 k_len (by rfl) T.z_len (by rfl) (gq_v (ge_v 0))))) (ga_cons (ge_new (gl_lst ga_nil)) ga_nil)))
      (gs_cons (gs_while PassesOwn.never (gt_cmp (c_neVT hr.u64) (ge_v 1) (gr_l (gl_lst ga_nil)) rfl) (gs_cons (gs_par (i := 3) (j := 4) rfl sc_cycle_lengths.nd (ga_cons (ge_ix (ge_v 1) ge_int (fun _ _ => rfl)) (ga_cons ge_int ga_nil)))
      (gs_cons (gs_while PassesOwn.never (gt_cmp (c_in hr.u65) (ge_v 3) (gq_v (ge_v 1)) rfl) (gs_cons (gs_expr (ge_met PySem.F.slot_list_remove PySem.F.type_list_remove m_remove (ge_v 1) (ge_v 3)))
      (gs_one (gs_par (i := 3) (j := 4) rfl sc_cycle_lengths.nd (ga_cons (ge_ix (ge_v 0) (ge_v 3) (fun _ _ => rfl)) (ga_cons (ge_add (ge_v 4) ge_int) ga_nil))))))
      (gs_one (gs_expr (ge_met PySem.F.slot_list_append PySem.F.type_list_append m_append (ge_v 2) (ge_v 4)))))))
      (gs_one (gs_ret (ge_v 2)))))
theorem sc_cycle_pattern : FnScope ["permutation"] ["permutation"] (defScope s_cycle_pattern) := ⟨rfl, rfl, rfl, by decide +kernel, rfl, by decide +kernel, by decide +kernel⟩
theorem bind_cycle_pattern (kV doc pm : Value) (an : Option Addr) (cdv ct : Value) (us : List Value) (hl : us.length = 1) : bindArgs (PySem.W.fnOf "cycle_pattern" "cycle_pattern" (defArgs s_cycle_pattern) (defBody s_cycle_pattern) (defScope s_cycle_pattern) .none kV doc pm an cdv ct) ⟨us, []⟩ = pure ((["permutation"] : List Str).zip us) := match us, hl with | [_], _ => rfl
theorem ok_cycle_pattern (T : Txt K mg) : CalD P w K mg base 4 "cycle_pattern" (defArgs s_cycle_pattern) (defBody s_cycle_pattern) (defScope s_cycle_pattern) ["permutation"] (spX K (PD K) m_cycle_pattern 1) := by
  have c_check_permutation := ok_check_permutation (P := P) (w := w) (base := base) T
  have c_cycle_lengths := ok_cycle_lengths (P := P) (w := w) (base := base) T
  obtain ⟨fd, F⟩ := T.d_cycle_pattern
  refine ⟨fd, F, fnD_okV (N := ["permutation"]) F sc_cycle_pattern (mb := b_cycle_pattern) fun cdv A outer s H E hr => ?_, T.g_cycle_pattern⟩
  unfold b_cycle_pattern
  exact (gs_cons (gs_expr (ge_callC old_D (c_check_permutation) (hr.mono (by decide)) (by rfl) bind_check_permutation (ga_cons (ge_v 0) ga_nil)))
      (gs_one (gs_ret (ge_t1 k_tuple (by rfl) T.z_tuple (by rfl) (gq_l (ge_b1 (k_sorted hr.u100) (by rfl) T.z_sorted (by rfl) (gq_l (ge_callC old_Ls (c_cycle_lengths) (hr.mono (by decide)) (by rfl) bind_cycle_lengths (ga_cons (ge_v 0) ga_nil)))))))))
theorem sc_permutation_order : FnScope ["permutation", "own", "many"] ["permutation"] (defScope s_permutation_order) := ⟨rfl, rfl, rfl, by decide +kernel, rfl, by decide +kernel, by decide +kernel⟩
theorem bind_permutation_order (kV doc pm : Value) (an : Option Addr) (cdv ct : Value) (us : List Value) (hl : us.length = 1) : bindArgs (PySem.W.fnOf "permutation_order" "permutation_order" (defArgs s_permutation_order) (defBody s_permutation_order) (defScope s_permutation_order) .none kV doc pm an cdv ct) ⟨us, []⟩ = pure ((["permutation"] : List Str).zip us) := match us, hl with | [_], _ => rfl
theorem ok_permutation_order (T : Txt K mg) : CalD P w K mg base 4 "permutation_order" (defArgs s_permutation_order) (defBody s_permutation_order) (defScope s_permutation_order) ["permutation"] (spX K (PD K) m_permutation_order 1) := by
  have c_check_permutation := ok_check_permutation (P := P) (w := w) (base := base) T
  have c_product_of := ok_product_of (P := P) (w := w) (base := base) T
  obtain ⟨fd, F⟩ := T.d_permutation_order
  refine ⟨fd, F, fnD_okV (N := ["permutation", "own", "many"]) F sc_permutation_order (mb := b_permutation_order) fun cdv A outer s H E hr => ?_, T.g_permutation_order⟩
  unfold b_permutation_order
  exact (gs_cons (gs_expr (ge_callC old_D (c_check_permutation) (hr.mono (by decide)) (by rfl) bind_check_permutation (ga_cons (ge_v 0) ga_nil)))
      (gs_cons (gs_par (i := 1) (j := 2) rfl sc_permutation_order.nd (ga_cons (ge_v 0) (ga_cons ge_int ga_nil)))
      (gs_cons (gs_while PassesOwn.never (gt_cmp (c_ne hr.u64) (ge_v 1) (ge_tupRg1 rfl (by rfl) T.z_tuple (by rfl) T.z_range (ge_b1 k_len (by rfl) T.z_len (by rfl) (gq_v (ge_v 0)))) rfl) (gs_one (gs_par (i := 1) (j := 2) rfl sc_permutation_order.nd (ga_cons (ge_callC old_D (c_product_of) (hr.mono (by decide)) (by rfl) bind_product_of (ga_cons (ge_v 1) (ga_cons (ge_v 0) ga_nil))) (ga_cons (ge_add (ge_v 2) ge_int) ga_nil)))))
      (gs_one (gs_ret (ge_v 2))))))
theorem sc__law_turned : FnScope ["p", "k"] ["p"] (defScope s__law_turned) := ⟨rfl, rfl, rfl, by decide +kernel, rfl, by decide +kernel, by decide +kernel⟩
theorem bind__law_turned (kV doc pm : Value) (an : Option Addr) (cdv ct : Value) (us : List Value) (hl : us.length = 1) : bindArgs (PySem.W.fnOf "_law_turned" "_law_turned" (defArgs s__law_turned) (defBody s__law_turned) (defScope s__law_turned) .none kV doc pm an cdv ct) ⟨us, []⟩ = pure ((["p"] : List Str).zip us) := match us, hl with | [_], _ => rfl
theorem ok__law_turned (T : Txt K mg) : CalD P w K mg base 1 "_law_turned" (defArgs s__law_turned) (defBody s__law_turned) (defScope s__law_turned) ["p"] (spX K (PD K) m__law_turned 1) := by
  obtain ⟨fd, F⟩ := T.d__law_turned
  refine ⟨fd, F, fnD_okV (N := ["p", "k"]) F sc__law_turned (mb := b__law_turned) fun cdv A outer s H E hr => ?_, T.g__law_turned⟩
  unfold b__law_turned
  exact (gs_one (gs_ret (ge_b1 k_len (by rfl) T.z_len (by rfl) (gq_l (ge_lc (own := [("k", 1)]) rfl sc__law_turned.nd (gi_range1 (by rfl) T.z_range (ge_mul (ge_b1 k_len (by rfl) T.z_len (by rfl) (gq_v (ge_v 0))) (ge_b1 k_len (by rfl) T.z_len (by rfl) (gq_v (ge_v 0))))) (blkOk_by (by rfl)) (by decide) (fun _ _ _ _ _ => (pg_name (i := 1) sc__law_turned.nd rfl (by first | exact .inl rfl | exact .inr rfl))) tg_name (fun _ _ _ _ _ => (gts_one (gt_w (gw_and (gt_cmp c_lt (ge_fdiv (ge_v 1) (ge_b1 k_len (by rfl) T.z_len (by rfl) (gq_v (ge_v 0)))) (ge_mod (ge_t1 k_int (by rfl) T.z_int (by rfl) (ge_v 1)) (ge_b1 k_len (by rfl) T.z_len (by rfl) (gq_v (ge_v 0)))) rfl) (gw_and1 (gt_cmp c_gt (ge_ix (ge_v 0) (ge_fdiv (ge_v 1) (ge_b1 k_len (by rfl) T.z_len (by rfl) (gq_v (ge_v 0)))) (fun _ _ => rfl)) (ge_ix (ge_v 0) (ge_mod (ge_t1 k_int (by rfl) T.z_int (by rfl) (ge_v 1)) (ge_b1 k_len (by rfl) T.z_len (by rfl) (gq_v (ge_v 0)))) (fun _ _ => rfl)) rfl)))))) (fun _ _ _ _ _ => ge_int))))))
theorem sc_is_even : FnScope ["permutation", "many"] ["permutation"] (defScope s_is_even) := ⟨rfl, rfl, rfl, by decide +kernel, rfl, by decide +kernel, by decide +kernel⟩
theorem bind_is_even (kV doc pm : Value) (an : Option Addr) (cdv ct : Value) (us : List Value) (hl : us.length = 1) : bindArgs (PySem.W.fnOf "is_even" "is_even" (defArgs s_is_even) (defBody s_is_even) (defScope s_is_even) .none kV doc pm an cdv ct) ⟨us, []⟩ = pure ((["permutation"] : List Str).zip us) := match us, hl with | [_], _ => rfl
theorem ok_is_even (T : Txt K mg) : CalD P w K mg base 4 "is_even" (defArgs s_is_even) (defBody s_is_even) (defScope s_is_even) ["permutation"] (spX K (PD K) m_is_even 1) := by
  have c_check_permutation := ok_check_permutation (P := P) (w := w) (base := base) T
  have c_cycle_lengths := ok_cycle_lengths (P := P) (w := w) (base := base) T
  obtain ⟨fd, F⟩ := T.d_is_even
  refine ⟨fd, F, fnD_okV (N := ["permutation", "many"]) F sc_is_even (mb := b_is_even) fun cdv A outer s H E hr => ?_, T.g_is_even⟩
  unfold b_is_even
  exact (gs_cons (gs_expr (ge_callC old_D (c_check_permutation) (hr.mono (by decide)) (by rfl) bind_check_permutation (ga_cons (ge_v 0) ga_nil)))
      (gs_one (gs_ret (ge_cmp (c_eq hr.u64) (ge_band (ge_b1 k_len (by rfl) T.z_len (by rfl) (gq_l (ge_lc (own := [("many", 1)]) rfl sc_is_even.nd (gi_l (ge_callC old_Ls (c_cycle_lengths) (hr.mono (by decide)) (by rfl) bind_cycle_lengths (ga_cons (ge_v 0) ga_nil))) (blkOk_by (by rfl)) (by decide) (fun _ _ _ _ _ => (pg_name (i := 1) sc_is_even.nd rfl (by first | exact .inl rfl | exact .inr rfl))) tg_name (fun _ _ _ _ _ => (gts_one (gt_cmp (c_eq hr.u64) (ge_band (ge_v 1) ge_int) ge_int rfl))) (fun _ _ _ _ _ => (ge_v 1))))) ge_int) ge_int rfl))))
theorem sc__law_is_one : FnScope ["value", "whole", "x", "k"] ["value"] (defScope s__law_is_one) := ⟨rfl, rfl, rfl, by decide +kernel, rfl, by decide +kernel, by decide +kernel⟩
theorem bind__law_is_one (kV doc pm : Value) (an : Option Addr) (cdv ct : Value) (us : List Value) (hl : us.length = 1) : bindArgs (PySem.W.fnOf "_law_is_one" "_law_is_one" (defArgs s__law_is_one) (defBody s__law_is_one) (defScope s__law_is_one) .none kV doc pm an cdv ct) ⟨us, []⟩ = pure ((["value"] : List Str).zip us) := match us, hl with | [_], _ => rfl
theorem ok__law_is_one (T : Txt K mg) : CalD P w K mg base 1 "_law_is_one" (defArgs s__law_is_one) (defBody s__law_is_one) (defScope s__law_is_one) ["value"] (spX K (PD K) m__law_is_one 1) := by
  obtain ⟨fd, F⟩ := T.d__law_is_one
  refine ⟨fd, F, fnD_okV (N := ["value", "whole", "x", "k"]) F sc__law_is_one (mb := b__law_is_one) fun cdv A outer s H E hr => ?_, T.g__law_is_one⟩
  unfold b__law_is_one
  exact (gs_cons (gs_if (gt_w (gw_or (gt_not (gt_val (ge_b2 k_isi (by rfl) T.z_isinstance (by rfl) (ge_v 0) (ge_bty (by rfl) T.z_tuple (by rfl))))) (gw_or (gt_cmp (c_eq hr.u64) (ge_b1 k_len (by rfl) T.z_len (by rfl) (gq_v (ge_v 0))) ge_int rfl) (gw_or1 (gt_cmp c_gt (ge_b1 k_len (by rfl) T.z_len (by rfl) (gq_v (ge_v 0))) ge_int rfl))))) (gs_one (gs_ret ge_bl)) gs_nil)
      (gs_cons (gs_setLc (i := 1) (own := [("x", 2)]) rfl sc__law_is_one.nd (gi_v (ge_v 0)) (blkOk_by (by rfl)) (by decide) (fun _ _ _ _ _ => (pg_name (i := 2) sc__law_is_one.nd rfl (by first | exact .inl rfl | exact .inr rfl))) tg_name (fun _ _ _ _ _ => (gts_one (gt_w (gw_and (gt_val (ge_b2 k_isi (by rfl) T.z_isinstance (by rfl) (ge_v 2) (ge_bty (by rfl) T.z_int (by rfl)))) (gw_and1 (gt_not (gt_val (ge_b2 k_isi (by rfl) T.z_isinstance (by rfl) (ge_v 2) (ge_bty (by rfl) T.z_bool (by rfl)))))))))) (fun _ _ _ _ _ => (ge_v 2)))
      (gs_one (gs_ret (ge_and (ge_cmp (c_eq hr.u64) (ge_b1 k_len (by rfl) T.z_len (by rfl) (gq_v (ge_v 1))) (ge_b1 k_len (by rfl) T.z_len (by rfl) (gq_v (ge_v 0))) rfl) (ge_one (ge_cmp (c_eqTR hr.u64) (ge_b1 (k_sorted hr.u100) (by rfl) T.z_sorted (by rfl) (gq_v (ge_v 1))) (gr_l (ge_lc (own := [("k", 3)]) rfl sc__law_is_one.nd (gi_range1 (by rfl) T.z_range (ge_b1 k_len (by rfl) T.z_len (by rfl) (gq_v (ge_v 0)))) (blkOk_by (by rfl)) (by decide) (fun _ _ _ _ _ => (pg_name (i := 3) sc__law_is_one.nd rfl (by first | exact .inl rfl | exact .inr rfl))) tg_name (fun _ _ _ _ _ => gts_nil) (fun _ _ _ _ _ => (ge_v 3)))) rfl)))))))
theorem sc_law : FnScope ["script", "feed", "turn", "many", "p", "q", "both", "k", "inverse", "lengths", "own", "times", "even", "value"] ["script"] (defScope s_law) := ⟨rfl, rfl, rfl, by decide +kernel, rfl, by decide +kernel, by decide +kernel⟩
theorem bind_law (kV doc pm : Value) (an : Option Addr) (cdv ct : Value) (us : List Value) (hl : us.length = 1) : bindArgs (PySem.W.fnOf "law" "law" (defArgs s_law) (defBody s_law) (defScope s_law) .none kV doc pm an cdv ct) ⟨us, []⟩ = pure ((["script"] : List Str).zip us) := match us, hl with | [_], _ => rfl
theorem ok_law (T : Txt K mg) : CalD P w K mg base 8 "law" (defArgs s_law) (defBody s_law) (defScope s_law) ["script"] (spX K (PD K) m_law 1) := by
  have c__law_bent := ok__law_bent (P := P) (w := w) (base := base) T
  have c__law_drawn := ok__law_drawn (P := P) (w := w) (base := base) T
  have c__law_feed := ok__law_feed (P := P) (w := w) (base := base) T
  have c__law_is_one := ok__law_is_one (P := P) (w := w) (base := base) T
  have c__law_lengths := ok__law_lengths (P := P) (w := w) (base := base) T
  have c__law_order := ok__law_order (P := P) (w := w) (base := base) T
  have c__law_same := ok__law_same (P := P) (w := w) (base := base) T
  have c__law_turned := ok__law_turned (P := P) (w := w) (base := base) T
  have c_cycle_pattern := ok_cycle_pattern (P := P) (w := w) (base := base) T
  have c_inverse_permutation := ok_inverse_permutation (P := P) (w := w) (base := base) T
  have c_is_even := ok_is_even (P := P) (w := w) (base := base) T
  have c_is_permutation := ok_is_permutation (P := P) (w := w) (base := base) T
  have c_permutation_order := ok_permutation_order (P := P) (w := w) (base := base) T
  have c_then := ok_then (P := P) (w := w) (base := base) T
  obtain ⟨fd, F⟩ := T.d_law
  refine ⟨fd, F, fnD_okV (N := ["script", "feed", "turn", "many", "p", "q", "both", "k", "inverse", "lengths", "own", "times", "even", "value"]) F sc_law (mb := b_law) fun cdv A outer s H E hr => ?_, T.g_law⟩
  unfold b_law
  exact (gs_cons (gs_set (i := 1) sc_law.nd (ge_callC old_D (c__law_feed) (hr.mono (by decide)) (by rfl) bind__law_feed (ga_cons (ge_v 0) ga_nil)))
      (gs_cons (gs_for PassesOwn.never rfl (gi_range1 (by rfl) T.z_range (ge_b2 (k_min2 rfl) (by rfl) T.z_min (by rfl) ge_int (ge_add ge_int (ge_b1 k_len (by rfl) T.z_len (by rfl) (gq_v (ge_v 0)))))) (pg_name (i := 2) sc_law.nd rfl (by first | exact .inl rfl | exact .inr rfl)) tg_name (gs_cons (gs_set (i := 3) sc_law.nd (ge_add ge_int (ge_callC old_D (c__law_drawn) (hr.mono (by decide)) (by rfl) bind__law_drawn (ga_cons (ge_v 1) (ga_cons ge_int ga_nil)))))
      (gs_cons (gs_asg (ge_tup (ga_cons (ge_callC old_D (c__law_order) (hr.mono (by decide)) (by rfl) bind__law_order (ga_cons (ge_v 1) (ga_cons (ge_v 3) ga_nil))) (ga_cons (ge_callC old_D (c__law_order) (hr.mono (by decide)) (by rfl) bind__law_order (ga_cons (ge_v 1) (ga_cons (ge_v 3) ga_nil))) ga_nil))) (pg_2 (i := 4) (j := 5) rfl sc_law.nd) tg_2)
      (gs_cons (gs_set (i := 6) sc_law.nd (ge_t1 k_tuple (by rfl) T.z_tuple (by rfl) (gq_l (ge_lc (own := [("k", 7)]) rfl sc_law.nd (gi_range1 (by rfl) T.z_range (ge_v 3)) (blkOk_by (by rfl)) (by decide) (fun _ _ _ _ _ => (pg_name (i := 7) sc_law.nd rfl (by first | exact .inl rfl | exact .inr rfl))) tg_name (fun _ _ _ _ _ => gts_nil) (fun _ _ _ _ _ => (ge_ix (ge_v 5) (ge_ix (ge_v 4) (ge_v 7) (fun _ _ => rfl)) (fun _ _ => rfl)))))))
      (gs_cons (gs_if (gt_not (gt_val (ge_callC old_D (c__law_same) (hr.mono (by decide)) (by rfl) bind__law_same (ga_cons (ge_new (gl_lst (ga_cons (ge_callC old_D (c_then) (hr.mono (by decide)) (by rfl) bind_then (ga_cons (ge_v 4) (ga_cons (ge_v 5) ga_nil))) (ga_cons (ge_callCK0 (ks := ["second_permutation", "permutation"]) (is := [1, 0]) old_D (c_then) (hr.mono (by decide)) (by rfl) (fun _ _ _ _ _ _ us ws hu hw => match us, ws, hu, hw with | [], [_, _], _, _ => rfl) (gk_cons (ge_v 5) (gk_cons (ge_v 4) gk_nil))) ga_nil)))) (ga_cons (ge_new (gl_lst (ga_cons (ge_v 6) (ga_cons (ge_v 6) ga_nil)))) ga_nil))))) (gs_one (gs_ret ge_bl)) gs_nil)
      (gs_cons (gs_set (i := 8) sc_law.nd (ge_callCK0 (ks := ["permutation"]) (is := [0]) old_D (c_inverse_permutation) (hr.mono (by decide)) (by rfl) (fun _ _ _ _ _ _ us ws hu hw => match us, ws, hu, hw with | [], [_], _, _ => rfl) (gk_cons (ge_v 4) gk_nil)))
      (gs_cons (gs_if (gt_w (gw_or (gt_not (gt_val (ge_callC old_D (c__law_same) (hr.mono (by decide)) (by rfl) bind__law_same (ga_cons (ge_v 8) (ga_cons (ge_t1 k_tuple (by rfl) T.z_tuple (by rfl) (gq_l (ge_lc (own := [("k", 7)]) rfl sc_law.nd (gi_range1 (by rfl) T.z_range (ge_v 3)) (blkOk_by (by rfl)) (by decide) (fun _ _ _ _ _ => (pg_name (i := 7) sc_law.nd rfl (by first | exact .inl rfl | exact .inr rfl))) tg_name (fun _ _ _ _ _ => gts_nil) (fun _ _ _ _ _ => (ge_index (ge_v 4) (ge_v 7)))))) ga_nil))))) (gw_or1 (gt_not (gt_val (ge_callC old_D (c__law_same) (hr.mono (by decide)) (by rfl) bind__law_same (ga_cons (ge_callC old_D (c_inverse_permutation) (hr.mono (by decide)) (by rfl) bind_inverse_permutation (ga_cons (ge_v 6) ga_nil)) (ga_cons (ge_callC old_D (c_then) (hr.mono (by decide)) (by rfl) bind_then (ga_cons (ge_callC old_D (c_inverse_permutation) (hr.mono (by decide)) (by rfl) bind_inverse_permutation (ga_cons (ge_v 5) ga_nil)) (ga_cons (ge_v 8) ga_nil))) ga_nil)))))))) (gs_one (gs_ret ge_bl)) gs_nil)
      (gs_cons (gs_set (i := 9) sc_law.nd (ge_callC old_D (c__law_lengths) (hr.mono (by decide)) (by rfl) bind__law_lengths (ga_cons (ge_v 4) ga_nil)))
      (gs_cons (gs_if (gt_not (gt_val (ge_callC old_D (c__law_same) (hr.mono (by decide)) (by rfl) bind__law_same (ga_cons (ge_new (gl_lst (ga_cons (ge_callC old_D (c_cycle_pattern) (hr.mono (by decide)) (by rfl) bind_cycle_pattern (ga_cons (ge_v 4) ga_nil)) (ga_cons (ge_callCK0 (ks := ["permutation"]) (is := [0]) old_D (c_cycle_pattern) (hr.mono (by decide)) (by rfl) (fun _ _ _ _ _ _ us ws hu hw => match us, ws, hu, hw with | [], [_], _, _ => rfl) (gk_cons (ge_v 8) gk_nil)) ga_nil)))) (ga_cons (ge_new (gl_lst (ga_cons (ge_v 9) (ga_cons (ge_v 9) ga_nil)))) ga_nil))))) (gs_one (gs_ret ge_bl)) gs_nil)
      (gs_cons (gs_par (i := 10) (j := 11) rfl sc_law.nd (ga_cons (ge_v 4) (ga_cons ge_int ga_nil)))
      (gs_cons (gs_while PassesOwn.never (gt_cmp (c_ne hr.u64) (ge_v 10) (ge_t1 k_tuple (by rfl) T.z_tuple (by rfl) (gq_l (ge_lc (own := [("k", 7)]) rfl sc_law.nd (gi_range1 (by rfl) T.z_range (ge_v 3)) (blkOk_by (by rfl)) (by decide) (fun _ _ _ _ _ => (pg_name (i := 7) sc_law.nd rfl (by first | exact .inl rfl | exact .inr rfl))) tg_name (fun _ _ _ _ _ => gts_nil) (fun _ _ _ _ _ => (ge_v 7))))) rfl) (gs_one (gs_par (i := 10) (j := 11) rfl sc_law.nd (ga_cons (ge_t1 k_tuple (by rfl) T.z_tuple (by rfl) (gq_l (ge_lc (own := [("k", 7)]) rfl sc_law.nd (gi_v (ge_v 10)) (blkOk_by (by rfl)) (by decide) (fun _ _ _ _ _ => (pg_name (i := 7) sc_law.nd rfl (by first | exact .inl rfl | exact .inr rfl))) tg_name (fun _ _ _ _ _ => gts_nil) (fun _ _ _ _ _ => (ge_ix (ge_v 4) (ge_v 7) (fun _ _ => rfl)))))) (ga_cons (ge_add (ge_v 11) ge_int) ga_nil)))))
      (gs_cons (gs_if (gt_not (gt_val (ge_callC old_D (c__law_same) (hr.mono (by decide)) (by rfl) bind__law_same (ga_cons (ge_new (gl_lst (ga_cons (ge_callC old_D (c_permutation_order) (hr.mono (by decide)) (by rfl) bind_permutation_order (ga_cons (ge_v 4) ga_nil)) (ga_cons (ge_callCK0 (ks := ["permutation"]) (is := [0]) old_D (c_permutation_order) (hr.mono (by decide)) (by rfl) (fun _ _ _ _ _ _ us ws hu hw => match us, ws, hu, hw with | [], [_], _, _ => rfl) (gk_cons (ge_v 4) gk_nil)) ga_nil)))) (ga_cons (ge_new (gl_lst (ga_cons (ge_v 11) (ga_cons (ge_v 11) ga_nil)))) ga_nil))))) (gs_one (gs_ret ge_bl)) gs_nil)
      (gs_cons (gs_set (i := 12) sc_law.nd (ge_cmp (c_eq hr.u64) (ge_mod (ge_t1 k_int (by rfl) T.z_int (by rfl) (ge_callC old_D (c__law_turned) (hr.mono (by decide)) (by rfl) bind__law_turned (ga_cons (ge_v 4) ga_nil))) ge_int) ge_int rfl))
      (gs_cons (gs_if (gt_not (gt_val (ge_callC old_D (c__law_same) (hr.mono (by decide)) (by rfl) bind__law_same (ga_cons (ge_new (gl_lst (ga_cons (ge_callC old_D (c_is_even) (hr.mono (by decide)) (by rfl) bind_is_even (ga_cons (ge_v 4) ga_nil)) (ga_cons (ge_callCK0 (ks := ["permutation"]) (is := [0]) old_D (c_is_even) (hr.mono (by decide)) (by rfl) (fun _ _ _ _ _ _ us ws hu hw => match us, ws, hu, hw with | [], [_], _, _ => rfl) (gk_cons (ge_v 4) gk_nil)) (ga_cons (ge_callC old_D (c_is_even) (hr.mono (by decide)) (by rfl) bind_is_even (ga_cons (ge_v 6) ga_nil)) ga_nil))))) (ga_cons (ge_new (gl_lst (ga_cons (ge_v 12) (ga_cons (ge_v 12) (ga_cons (ge_cmp (c_eq hr.u64) (ge_mod (ge_t1 k_int (by rfl) T.z_int (by rfl) (ge_add (ge_callC old_D (c__law_turned) (hr.mono (by decide)) (by rfl) bind__law_turned (ga_cons (ge_v 4) ga_nil)) (ge_callC old_D (c__law_turned) (hr.mono (by decide)) (by rfl) bind__law_turned (ga_cons (ge_v 5) ga_nil)))) ge_int) ge_int rfl) ga_nil))))) ga_nil))))) (gs_one (gs_ret ge_bl)) gs_nil)
      (gs_cons (gs_set (i := 13) sc_law.nd (ge_callC old_D (c__law_bent) (hr.mono (by decide)) (by rfl) bind__law_bent (ga_cons (ge_v 1) (ga_cons (ge_v 4) ga_nil))))
      (gs_one (gs_if (gt_not (gt_val (ge_callC old_D (c__law_same) (hr.mono (by decide)) (by rfl) bind__law_same (ga_cons (ge_new (gl_lst (ga_cons (ge_callC old_D (c_is_permutation) (hr.mono (by decide)) (by rfl) bind_is_permutation (ga_cons (ge_v 4) ga_nil)) (ga_cons (ge_callCK0 (ks := ["value"]) (is := [0]) old_D (c_is_permutation) (hr.mono (by decide)) (by rfl) (fun _ _ _ _ _ _ us ws hu hw => match us, ws, hu, hw with | [], [_], _, _ => rfl) (gk_cons (ge_v 6) gk_nil)) (ga_cons (ge_callC old_D (c_is_permutation) (hr.mono (by decide)) (by rfl) bind_is_permutation (ga_cons (ge_v 13) ga_nil)) ga_nil))))) (ga_cons (ge_new (gl_lst (ga_cons ge_bl (ga_cons ge_bl (ga_cons (ge_callC old_D (c__law_is_one) (hr.mono (by decide)) (by rfl) bind__law_is_one (ga_cons (ge_v 13) ga_nil)) ga_nil))))) ga_nil))))) (gs_one (gs_ret ge_bl)) gs_nil)))))))))))))))))
      (gs_one (gs_ret ge_bl))))
end
end G
set_option maxHeartbeats 1000000
/-! the head of law_k67_permutations (printed by gen.py) -/
namespace G
open PySem L2 L3
def d__law_feed : He.DefD := ⟨("_law_feed", none), "_law_feed", "_law_feed", defArgs s__law_feed, defBody s__law_feed, defScope s__law_feed, [], []⟩
def d_is_integer : He.DefD := ⟨("is_integer", none), "is_integer", "is_integer", defArgs s_is_integer, defBody s_is_integer, defScope s_is_integer, [], []⟩
def d_is_permutation : He.DefD := ⟨("is_permutation", none), "is_permutation", "is_permutation", defArgs s_is_permutation, defBody s_is_permutation, defScope s_is_permutation, [], []⟩
def d_check_permutation : He.DefD := ⟨("check_permutation", none), "check_permutation", "check_permutation", defArgs s_check_permutation, defBody s_check_permutation, defScope s_check_permutation, [], []⟩
def d_turned_back : He.DefD := ⟨("turned_back", none), "turned_back", "turned_back", defArgs s_turned_back, defBody s_turned_back, defScope s_turned_back, [], []⟩
def d_inverse_permutation : He.DefD := ⟨("inverse_permutation", none), "inverse_permutation", "inverse_permutation", defArgs s_inverse_permutation, defBody s_inverse_permutation, defScope s_inverse_permutation, [], []⟩
def d__law_lengths : He.DefD := ⟨("_law_lengths", none), "_law_lengths", "_law_lengths", defArgs s__law_lengths, defBody s__law_lengths, defScope s__law_lengths, [], []⟩
def d__law_drawn : He.DefD := ⟨("_law_drawn", none), "_law_drawn", "_law_drawn", defArgs s__law_drawn, defBody s__law_drawn, defScope s__law_drawn, [], []⟩
def d__law_bent : He.DefD := ⟨("_law_bent", none), "_law_bent", "_law_bent", defArgs s__law_bent, defBody s__law_bent, defScope s__law_bent, [], []⟩
def d__law_order : He.DefD := ⟨("_law_order", none), "_law_order", "_law_order", defArgs s__law_order, defBody s__law_order, defScope s__law_order, [], []⟩
def d__law_same : He.DefD := ⟨("_law_same", none), "_law_same", "_law_same", defArgs s__law_same, defBody s__law_same, defScope s__law_same, [], []⟩
def d_check_two : He.DefD := ⟨("check_two", none), "check_two", "check_two", defArgs s_check_two, defBody s_check_two, defScope s_check_two, [], []⟩
def d_product_of : He.DefD := ⟨("product_of", none), "product_of", "product_of", defArgs s_product_of, defBody s_product_of, defScope s_product_of, [], []⟩
def d_then : He.DefD := ⟨("then", none), "then", "then", defArgs s_then, defBody s_then, defScope s_then, [], []⟩
def d_cycle_lengths : He.DefD := ⟨("cycle_lengths", none), "cycle_lengths", "cycle_lengths", defArgs s_cycle_lengths, defBody s_cycle_lengths, defScope s_cycle_lengths, [], []⟩
def d_cycle_pattern : He.DefD := ⟨("cycle_pattern", none), "cycle_pattern", "cycle_pattern", defArgs s_cycle_pattern, defBody s_cycle_pattern, defScope s_cycle_pattern, [], []⟩
def d_permutation_order : He.DefD := ⟨("permutation_order", none), "permutation_order", "permutation_order", defArgs s_permutation_order, defBody s_permutation_order, defScope s_permutation_order, [], []⟩
def d__law_turned : He.DefD := ⟨("_law_turned", none), "_law_turned", "_law_turned", defArgs s__law_turned, defBody s__law_turned, defScope s__law_turned, [], []⟩
def d_is_even : He.DefD := ⟨("is_even", none), "is_even", "is_even", defArgs s_is_even, defBody s_is_even, defScope s_is_even, [], []⟩
def d__law_is_one : He.DefD := ⟨("_law_is_one", none), "_law_is_one", "_law_is_one", defArgs s__law_is_one, defBody s__law_is_one, defScope s__law_is_one, [], []⟩
def d_law : He.DefD := ⟨("law", none), "law", "law", defArgs s_law, defBody s_law, defScope s_law, [], []⟩
def fnl : List He.DefD := [d__law_feed, d_is_integer, d_is_permutation, d_check_permutation, d_turned_back, d_inverse_permutation, d__law_lengths, d__law_drawn, d__law_bent, d__law_order, d__law_same, d_check_two, d_product_of, d_then, d_cycle_lengths, d_cycle_pattern, d_permutation_order, d__law_turned, d_is_even, d__law_is_one, d_law]
def fal : List He.Fa := [.glo "_law_feed", .glo "is_integer", .glo "is_permutation", .glo "check_permutation", .glo "turned_back", .glo "inverse_permutation", .glo "_law_lengths", .glo "_law_drawn", .glo "_law_bent", .glo "_law_order", .glo "_law_same", .glo "check_two", .glo "product_of", .glo "then", .glo "cycle_lengths", .glo "cycle_pattern", .glo "permutation_order", .glo "_law_turned", .glo "is_even", .glo "_law_is_one", .glo "law", .free "all", .free "bool", .free "enumerate", .free "int", .free "isinstance", .free "len", .free "list", .free "min", .free "range", .free "sorted", .free "str", .free "tuple", .int "MOST_POINTS" 6]
abbrev R : PySem.W.OpenRow := PySem.W.OpenLaw.row PySem.Challenge.rw_wholetowers_k67_permutations
abbrev hk : PySem.W.Hook := He.hookD 4 fal fnl
def ob (s : PySem.W.SharedT) : He.AlD := He.obsDG 4 fal fnl (HandSHeadRun.getT s)
theorem ob_eq (s : PySem.W.SharedT) : ob s = hk.obs s.abs := He.obsDG_eq (HandSHeadRun.getT_eq s)
def loose0 : List PySem.Str := ["AlgebraError", "InvalidPermutation", "is_integer", "MOST_POINTS", "is_permutation", "check_permutation", "check_two", "product_of", "turned_back", "then", "inverse_permutation", "cycle_lengths", "cycle_pattern", "permutation_order", "is_even", "_law_feed", "_law_drawn", "_law_same", "_law_order", "_law_lengths", "_law_turned", "_law_is_one", "_law_bent"]
def loose : List PySem.Str := loose0
set_option maxHeartbeats 0 in
theorem run (w : World) : HandSHeadRun.RunEq R (PySem.W.view R.prog [27]) hk ob 4000 loose w := by
  intro os
  kernel_rfl
theorem facts {P : Program} {w : World} {K : PySem.W.Frag} {h : Heap} {mg : Str → Option Value} {f : Addr} (X : K.In h) (G : h.Ns mainGlobals mg) (hfa : mg ("law" : Str) = some (.ref f)) (c : He.SaysD fal fnl K) :
    ∃ fd : FuncData, (∀ (s : Shared) (v : Value), BindsTo s fd ⟨[v], []⟩ [("script", v)]) ∧ ∀ base : Heap, K.In base → base.Ns mainGlobals mg → FnOk P w K mg base CX0 8 f fd ["script"] (spLaw K m_law) := by
  have T : Txt K mg := {
    g__law_feed := He.glo_ok X G (c.fact 0 (f := .glo "_law_feed") rfl)
    d__law_feed := c.def_ 0 (d := d__law_feed) rfl
    g_is_integer := He.glo_ok X G (c.fact 1 (f := .glo "is_integer") rfl)
    d_is_integer := c.def_ 1 (d := d_is_integer) rfl
    g_is_permutation := He.glo_ok X G (c.fact 2 (f := .glo "is_permutation") rfl)
    d_is_permutation := c.def_ 2 (d := d_is_permutation) rfl
    g_check_permutation := He.glo_ok X G (c.fact 3 (f := .glo "check_permutation") rfl)
    d_check_permutation := c.def_ 3 (d := d_check_permutation) rfl
    g_turned_back := He.glo_ok X G (c.fact 4 (f := .glo "turned_back") rfl)
    d_turned_back := c.def_ 4 (d := d_turned_back) rfl
    g_inverse_permutation := He.glo_ok X G (c.fact 5 (f := .glo "inverse_permutation") rfl)
    d_inverse_permutation := c.def_ 5 (d := d_inverse_permutation) rfl
    g__law_lengths := He.glo_ok X G (c.fact 6 (f := .glo "_law_lengths") rfl)
    d__law_lengths := c.def_ 6 (d := d__law_lengths) rfl
    g__law_drawn := He.glo_ok X G (c.fact 7 (f := .glo "_law_drawn") rfl)
    d__law_drawn := c.def_ 7 (d := d__law_drawn) rfl
    g__law_bent := He.glo_ok X G (c.fact 8 (f := .glo "_law_bent") rfl)
    d__law_bent := c.def_ 8 (d := d__law_bent) rfl
    g__law_order := He.glo_ok X G (c.fact 9 (f := .glo "_law_order") rfl)
    d__law_order := c.def_ 9 (d := d__law_order) rfl
    g__law_same := He.glo_ok X G (c.fact 10 (f := .glo "_law_same") rfl)
    d__law_same := c.def_ 10 (d := d__law_same) rfl
    g_check_two := He.glo_ok X G (c.fact 11 (f := .glo "check_two") rfl)
    d_check_two := c.def_ 11 (d := d_check_two) rfl
    g_product_of := He.glo_ok X G (c.fact 12 (f := .glo "product_of") rfl)
    d_product_of := c.def_ 12 (d := d_product_of) rfl
    g_then := He.glo_ok X G (c.fact 13 (f := .glo "then") rfl)
    d_then := c.def_ 13 (d := d_then) rfl
    g_cycle_lengths := He.glo_ok X G (c.fact 14 (f := .glo "cycle_lengths") rfl)
    d_cycle_lengths := c.def_ 14 (d := d_cycle_lengths) rfl
    g_cycle_pattern := He.glo_ok X G (c.fact 15 (f := .glo "cycle_pattern") rfl)
    d_cycle_pattern := c.def_ 15 (d := d_cycle_pattern) rfl
    g_permutation_order := He.glo_ok X G (c.fact 16 (f := .glo "permutation_order") rfl)
    d_permutation_order := c.def_ 16 (d := d_permutation_order) rfl
    g__law_turned := He.glo_ok X G (c.fact 17 (f := .glo "_law_turned") rfl)
    d__law_turned := c.def_ 17 (d := d__law_turned) rfl
    g_is_even := He.glo_ok X G (c.fact 18 (f := .glo "is_even") rfl)
    d_is_even := c.def_ 18 (d := d_is_even) rfl
    g__law_is_one := He.glo_ok X G (c.fact 19 (f := .glo "_law_is_one") rfl)
    d__law_is_one := c.def_ 19 (d := d__law_is_one) rfl
    g_law := He.glo_ok X G (c.fact 20 (f := .glo "law") rfl)
    d_law := c.def_ 20 (d := d_law) rfl
    z_all := He.free_ok X G (c.fact 21 (f := .free "all") rfl)
    z_bool := He.free_ok X G (c.fact 22 (f := .free "bool") rfl)
    z_enumerate := He.free_ok X G (c.fact 23 (f := .free "enumerate") rfl)
    z_int := He.free_ok X G (c.fact 24 (f := .free "int") rfl)
    z_isinstance := He.free_ok X G (c.fact 25 (f := .free "isinstance") rfl)
    z_len := He.free_ok X G (c.fact 26 (f := .free "len") rfl)
    z_list := He.free_ok X G (c.fact 27 (f := .free "list") rfl)
    z_min := He.free_ok X G (c.fact 28 (f := .free "min") rfl)
    z_range := He.free_ok X G (c.fact 29 (f := .free "range") rfl)
    z_sorted := He.free_ok X G (c.fact 30 (f := .free "sorted") rfl)
    z_str := He.free_ok X G (c.fact 31 (f := .free "str") rfl)
    z_tuple := He.free_ok X G (c.fact 32 (f := .free "tuple") rfl)
    x_MOST_POINTS := He.int_ok X G (c.fact 33 (f := .int "MOST_POINTS" 6) rfl) }
  obtain ⟨fd, F⟩ := T.d_law
  have e := hfa.symm.trans T.g_law
  cases e
  refine ⟨fd, fun s v => FunD.bindsA (ps := ["script"]) F bind_law s [v] rfl, fun base _ _ => ?_⟩
  obtain ⟨fd', F', ok, _⟩ := ok_law (P := P) (w := w) (base := base) T
  obtain rfl := funD_one F F'
  exact ok
end G
open PySem PySem.W PySem.Calls PyProof.Rows
theorem law_holds (hlaw : ∀ ns : List Int, ns.length ≤ 63 → ∃ st', G.m_law [.frl (ns.map L3.D.int)] [] = .ok (.bl true) st') : PySem.Challenge.rw_wholetowers_k67_permutations.Holds := by
  w_on; o_law
  refine HandSHeadRun.head_any (r := OpenLaw.row PySem.Challenge.rw_wholetowers_k67_permutations) (q := view (OpenLaw.row PySem.Challenge.rw_wholetowers_k67_permutations).prog [27]) (H := G.hk) (ob := G.ob) (M := 4000) (loose := G.loose) (d := HandSHeadRun.topDef (OpenLaw.row PySem.Challenge.rw_wholetowers_k67_permutations).prog 27) (kwd := []) G.ob_eq
    (by kernel_rfl) (fun s => by kernel_rfl) G.run (by kernel_rfl) (by kernel_rfl) (by kernel_rfl) (by rfl) (by first | assumption | decide +kernel) (by decide +kernel) ⟨rfl, rfl, rfl, rfl, rfl, by decide +kernel⟩ ?hw ?hc
  case hw => w_witness2
  case hc =>
    refine L2.walk_ofE (l := PySem.Challenge.rw_wholetowers_k67_permutations) (n := 63) (k := 8) (x := "script") (CX := L2.CX0) rfl (by decide) (by kernel_rfl) ⟨rfl, by decide, by decide⟩ ?F (fun _ _ _ _ z => z)
    intro w mg fa h Y GG hmg0
    obtain ⟨K, KX, c⟩ := Y
    have hmg : mg ("law" : PySem.Str) = some (.ref fa) := by
      have e : (HandSHeadRun.topDef (OpenLaw.row PySem.Challenge.rw_wholetowers_k67_permutations).prog 27).name = ("law" : PySem.Str) := by kernel_rfl
      rw [← e]
      exact hmg0
    obtain ⟨fd, hb, hF⟩ := G.facts (P := (PySem.Challenge.rw_wholetowers_k67_permutations).prog) (w := w) KX GG hmg c
    exact ⟨K, fd, L3.spLaw K G.m_law, KX, hb, fun H a ns hl hO hS => L3.law_end hO hS (hlaw ns hl), hF⟩
set_option maxHeartbeats 4000000
/-! Q1: the calculus of mirrors. -/
namespace L3
open PySem L2
def di (ns : List Int) : List D := ns.map D.int
@[simp] theorem di_length (ns : List Int) : (di ns).length = ns.length := by unfold di; rw [List.length_map]
@[simp] theorem di_get (ns : List Int) (i : Nat) : (di ns)[i]? = ns[i]?.map D.int := by unfold di; rw [List.getElem?_map]
section
variable {α β γ : Type} {st st' : Store} {env : Ev}
/-- a result handed on -/
def andThen (r : Res α) (f : α → M β) : Res β := match r with
  | .ok a st' => f a st'
  | .exc e st' => .exc e st'
  | .no => .no
@[simp ↓] theorem bnd_eq (m : M α) (f : α → M β) (st : Store) : bnd m f st = andThen (m st) f := (rfl)
@[simp] theorem andThen_ok (a : α) (f : α → M β) : andThen (.ok a st) f = f a st := (rfl)
@[simp] theorem andThen_no (f : α → M β) : andThen (.no : Res α) f = .no := (rfl)
def quietR (r : Res α) : Res α := match r with
  | .ok a st' => .ok a st'
  | _ => .no
@[simp] theorem quietR_ok (a : α) : quietR (.ok a st) = .ok a st := (rfl)
def optM (o : Option (Option D)) : M D := fun st => match o with
  | some (some d) => .ok d st
  | _ => .no
@[simp] theorem optM_some (d : D) : optM (some (some d)) st = .ok d st := (rfl)
def thenS (b : Ev → M Out) (o : Out) : M Out := match o with
  | .nx e => b e
  | o => ret o
@[simp] theorem thenS_nx (b : Ev → M Out) (e : Ev) : thenS b (.nx e) st = b e st := (rfl)
@[simp] theorem thenS_rt (b : Ev → M Out) (d : D) : thenS b (.rt d) st = .ok (.rt d) st := (rfl)
@[simp] theorem thenS_bk (b : Ev → M Out) (d : Ev) : thenS b (.bk d) st = .ok (.bk d) st := (rfl)
@[simp] theorem thenS_ct (b : Ev → M Out) (d : Ev) : thenS b (.ct d) st = .ok (.ct d) st := (rfl)
def par2 (i j : Nat) (env : Ev) (ds : List D) : M Out := match ds with
  | [a, b] => ret (.nx ((env.set i (some a)).set j (some b)))
  | _ => fail
@[simp] theorem par2_ap (i j : Nat) (env : Ev) (a b : D) : par2 i j env [a, b] st = .ok (.nx ((env.set i (some a)).set j (some b))) st := (rfl)
def evM (o : Option Ev) : M Out := fun st => match o with
  | some e => .ok (.nx e) st
  | none => .no
@[simp] theorem evM_some (e : Ev) : evM (some e) st = .ok (.nx e) st := (rfl)
def intP (d : D) : M (Option Int) := fun st => match d with
  | .int i => .ok (some i) st
  | _ => .no
@[simp] theorem intP_int (i : Int) : intP (.int i) st = .ok (some i) st := (rfl)
theorem bnd_ok {m : M α} {f : α → M β} {a : α} (h : m st = .ok a st') : bnd m f st = f a st' := by unfold bnd; rw [h]
@[simp] theorem ret_ap (a : α) : ret a st = .ok a st := (rfl)
@[simp ↓] theorem un1_ap (g : α → M β) (m : Ev → M α) : un1 g m env st = bnd (m env) g st := (rfl)
@[simp ↓] theorem bin_ap (g : α → β → M γ) (ma : Ev → M α) (mb : Ev → M β) : bin g ma mb env st = bnd (ma env) (fun a => bnd (mb env) fun b => g a b) st := (rfl)
@[simp] theorem getV_eq (i : Nat) : getV i env st = optM env[i]? st := (rfl)
@[simp] theorem env0_eq (n : Nat) (ds : List D) : env0 n ds = ds.map some ++ List.replicate (n - ds.length) none := (rfl)
theorem getV_ap {i : Nat} {d : D} (h : env[i]? = some (some d)) : getV i env st = .ok d st := by unfold getV; rw [h]
@[simp] theorem cst_ap (d : D) : cst d env st = .ok d st := (rfl)
@[simp] theorem toB_ap (b : Bool) : toB (.bl b) st = .ok b st := (rfl)
@[simp ↓] theorem andB_ap (ma mb : Ev → M Bool) : andB ma mb env st = bnd (ma env) (fun c => if c = true then mb env else ret false) st := (rfl)
@[simp ↓] theorem orB_ap (ma mb : Ev → M Bool) : orB ma mb env st = bnd (ma env) (fun c => if c = true then ret true else mb env) st := (rfl)
@[simp ↓] theorem notB_ap (ma : Ev → M Bool) : notB ma env st = bnd (ma env) (fun c => ret (!c)) st := (rfl)
@[simp ↓] theorem andV_ap (ma mb : Ev → M D) : andV ma mb env st = bnd (ma env) (fun c => bnd (toB c) fun c => if c = true then mb env else ret (.bl false)) st := (rfl)
@[simp ↓] theorem orV_ap (ma mb : Ev → M D) : orV ma mb env st = bnd (ma env) (fun c => bnd (toB c) fun c => if c = true then ret (.bl true) else mb env) st := (rfl)
@[simp] theorem notV_ap (b : Bool) : notV (.bl b) st = .ok (.bl (!b)) st := (rfl)
@[simp ↓] theorem ifV_ap (c : Ev → M Bool) (ma mb : Ev → M α) : ifV c ma mb env st = bnd (c env) (fun k => if k = true then ma env else mb env) st := (rfl)
@[simp] theorem nilA_ap : nilA env st = .ok [] st := (rfl)
@[simp ↓] theorem consA_ap (ma : Ev → M D) (mr : Ev → M (List D)) : consA ma mr env st = bnd (ma env) (fun d => bnd (mr env) fun ds => ret (d :: ds)) st := (rfl)
@[simp ↓] theorem onA_ap (g : List D → M α) (m : Ev → M (List D)) : onA g m env st = bnd (m env) g st := (rfl)
@[simp ↓] theorem chainV_ap (g1 g2 : D → D → M D) (ma mb mc : Ev → M D) : chainV g1 g2 ma mb mc env st = bnd (ma env) (fun a => bnd (mb env) fun b => bnd (g1 a b) fun z => bnd (toB z) fun k => if k = true then bnd (mc env) fun c => g2 b c else ret (.bl false)) st := (rfl)
@[simp ↓] theorem callM_ap (m : List D → M α) (n : Nat) (ma : Ev → M (List D)) : callM m n ma env st = bnd (ma env) (fun ds => if ds.length = n then quiet (m ds) else fail) st := (rfl)
@[simp ↓] theorem callK_ap (m : List D → M α) (n n0 nk : Nat) (is : List Nat) (ma mk : Ev → M (List D)) : callK m n n0 nk is ma mk env st = bnd (ma env) (fun ds => bnd (mk env) fun ks => if ds.length = n0 ∧ ks.length = nk ∧ (ds ++ pick is ks).length = n then quiet (m (ds ++ pick is ks)) else fail) st := (rfl)
theorem quiet_ok {m : M α} {a : α} (h : m st = .ok a st') : quiet m st = .ok a st' := by unfold quiet; rw [h]
@[simp ↓] theorem quiet_ap (m : M α) : quiet m st = quietR (m st) := (rfl)
@[simp ↓] theorem seqM_ap (a b : Ev → M Out) : seqM a b env st = bnd (a env) (thenS b) st := (rfl)
theorem seqM_nx {a b : Ev → M Out} {e : Ev} (h : a env st = .ok (.nx e) st') : seqM a b env st = b e st' := by rw [seqM_ap, bnd_ok h, thenS_nx]
theorem seqM_rt {a b : Ev → M Out} {d : D} (h : a env st = .ok (.rt d) st') : seqM a b env st = .ok (.rt d) st' := by rw [seqM_ap, bnd_ok h]; rfl
@[simp] theorem nilS_ap : nilS env st = .ok (.nx env) st := (rfl)
@[simp ↓] theorem dropS_ap (m : Ev → M α) : dropS m env st = bnd (m env) (fun _ => ret (.nx env)) st := (rfl)
@[simp ↓] theorem setS_ap (i : Nat) (m : Ev → M D) : setS i m env st = bnd (m env) (fun d => ret (.nx (env.set i (some d)))) st := (rfl)
@[simp ↓] theorem retS_ap (m : Ev → M D) : retS m env st = bnd (m env) (fun d => ret (.rt d)) st := (rfl)
@[simp ↓] theorem ifS_ap (c : Ev → M Bool) (a b : Ev → M Out) : ifS c a b env st = bnd (c env) (fun k => if k = true then a env else b env) st := (rfl)
@[simp ↓] theorem parS_ap (i j : Nat) (m : Ev → M (List D)) : parS i j m env st = bnd (m env) (par2 i j env) st := (rfl)
@[simp ↓] theorem asgS_ap (asg : D → Ev → Option Ev) (m : Ev → M D) : asgS asg m env st = bnd (m env) (fun d => evM (asg d env)) st := (rfl)
@[simp ↓] theorem augS_ap (i : Nat) (g : D → D → M D) (m : Ev → M D) : augS i g m env st = bnd (getV i env) (fun a => bnd (m env) fun b => bnd (g a b) fun d => ret (.nx (env.set i (some d)))) st := (rfl)
@[simp ↓] theorem subS_ap (mv mo mi : Ev → M D) : subS mv mo mi env st = bnd (mv env) (fun v => bnd (mo env) fun o => bnd (mi env) fun i => bnd (storeM o i v) fun _ => ret (.nx env)) st := (rfl)
@[simp ↓] theorem metM_ap (g : D → β → M γ) (mo : Ev → M D) (mb : Ev → M β) : metM g mo mb env st = bnd (mo env) (fun o => bnd (readL o) fun _ => bnd (mb env) fun b => g o b) st := (rfl)
@[simp ↓] theorem indexM_ap (mo mb : Ev → M D) : indexM mo mb env st = bnd (mo env) (fun o => bnd (readT o) fun ds => bnd (mb env) fun b => indexT ds b) st := (rfl)
@[simp ↓] theorem sl3_ap (g : α → Option Int → Option Int → M β) (m : Ev → M α) (ml mh : Ev → M (Option Int)) : sl3 g m ml mh env st = bnd (m env) (fun d => bnd (ml env) fun l => bnd (mh env) fun h => g d l h) st := (rfl)
@[simp] theorem noPart_ap : noPart env st = .ok none st := (rfl)
@[simp ↓] theorem somePart_ap (m : Ev → M D) : somePart m env st = bnd (m env) intP st := (rfl)
@[simp ↓] theorem viaL_ap (g : List D → α → M D) (d : D) (b : α) : viaL g d b st = bnd (readL d) (fun a => g a b) st := (rfl)
@[simp ↓] theorem ixV_ap (d i : D) : ixV d i st = bnd (readQ d) (fun ds => ixQ ds i) st := (rfl)
@[simp] theorem ite_ap {c : Prop} [Decidable c] (m n : M α) : (if c then m else n) st = if c then m st else n st := by split <;> rfl
@[simp] theorem addI_ap (i j : Int) : addI (.int i) (.int j) st = .ok (.int (i + j)) st := (rfl)
@[simp] theorem subI_ap (i j : Int) : subI (.int i) (.int j) st = .ok (.int (i - j)) st := (rfl)
@[simp] theorem ltI_ap (i j : Int) : ltI (.int i) (.int j) st = .ok (.bl (decide (i < j))) st := (rfl)
@[simp] theorem leI_ap (i j : Int) : leI (.int i) (.int j) st = .ok (.bl (decide (i ≤ j))) st := (rfl)
@[simp] theorem gtI_ap (i j : Int) : gtI (.int i) (.int j) st = .ok (.bl (decide (j < i))) st := (rfl)
@[simp] theorem geI_ap (i j : Int) : geI (.int i) (.int j) st = .ok (.bl (decide (j ≤ i))) st := (rfl)
@[simp] theorem andI_ap (i j : Int) : andI (.int i) (.int j) st = .ok (.int (Builtin.bitAnd i j)) st := (rfl)
@[simp] theorem negI_ap (i : Int) : negI (.int i) st = .ok (.int (-i)) st := (rfl)
theorem modI_ap {i j : Int} (h : j ≠ 0) : modI (.int i) (.int j) st = .ok (.int (i.fmod j)) st := by unfold modI gI2; simp [h]
theorem fdivI_ap {i j : Int} (h : j ≠ 0) (h' : j.natAbs < 1073741824) : fdivI (.int i) (.int j) st = .ok (.int (i.fdiv j)) st := by unfold fdivI gI2; simp [h, h']
theorem mulI_ap {i j : Int} (h : small64 i || small64 j) : mulI (.int i) (.int j) st = .ok (.int (i * j)) st := by unfold mulI gI2; simp only [h, if_true]
@[simp] theorem min2_ap (i j : Int) : min2 (.int i) (.int j) st = .ok (.int (if j < i then j else i)) st := (rfl)
@[simp] theorem max2_ap (i j : Int) : max2 (.int i) (.int j) st = .ok (.int (if j > i then j else i)) st := (rfl)
@[simp] theorem isNon_ap (d : D) : isNon d st = .ok (.bl (decide (d = .non))) st := (rfl)
@[simp] theorem notNon_ap (d : D) : notNon d st = .ok (.bl (!decide (d = .non))) st := (rfl)
@[simp] theorem intV_ap (i : Int) : intV (.int i) st = .ok (.int i) st := (rfl)
@[simp] theorem lenQ_ap (ds : List D) : lenQ ds st = .ok (.int ds.length) st := (rfl)
@[simp] theorem tupQ_ap (ds : List D) : tupQ ds st = .ok (.tup ds) st := (rfl)
@[simp] theorem listQ_ap (ds : List D) : listQ ds st = .ok ds st := (rfl)
@[simp] theorem alloc_ap (ds : List D) : alloc ds st = .ok (.ref st.length) (st ++ [.lst ds]) := (rfl)
@[simp] theorem readQ_tup (ds : List D) : readQ (.tup ds) st = .ok ds st := (rfl)
@[simp] theorem readQ_frl (ds : List D) : readQ (.frl ds) st = .ok ds st := (rfl)
@[simp] theorem readT_tup (ds : List D) : readT (.tup ds) st = .ok ds st := (rfl)
theorem readQ_ref {n : Nat} {ds : List D} (h : st[n]? = some (.lst ds)) : readQ (.ref n) st = .ok ds st := by unfold readQ; simp only [h]
theorem readL_ref {n : Nat} {ds : List D} (h : st[n]? = some (.lst ds)) : readL (.ref n) st = .ok ds st := by unfold readL; simp only [h]
theorem mkTup_ap {ds : List D} (h : ds.length ≤ line) : mkTup ds st = .ok (.tup ds) st := by unfold mkTup; rw [if_pos h]
theorem mkLst_ap {ds : List D} (h : ds.length ≤ line) : mkLst ds st = .ok ds st := by unfold mkLst; rw [if_pos h]
theorem ixQ_ap {ds : List D} {i : Int} {d : D} (h : atI ds i = some d) : ixQ ds (.int i) st = .ok d st := by unfold ixQ; simp only [h]
@[simp] theorem iterV_tup (ds : List D) : iterV (.tup ds) st = .ok (itV (.tup ds)) st := (rfl)
theorem iterV_ref {n : Nat} {ds : List D} (h : st[n]? = some (.lst ds)) : iterV (.ref n) st = .ok (itV (.ref n)) st := by unfold iterV; rw [bnd_ok (readQ_ref h)]; rfl
@[simp] theorem iterL_ap (ds : List D) : iterL ds st = .ok (itL ds) st := (rfl)
theorem iterR1_ap {j : Int} (h : okR j = true) : iterR1 (.int j) st = .ok (itR 0 j.toNat) st := by unfold iterR1; simp only [h, if_true]
@[simp] theorem enumV_tup (ds : List D) : enumV (.tup ds) st = .ok (numItems (itV (.tup ds))) st := (rfl)
theorem rangeL1_ap {j : Int} (h : okRg 0 j = true) : rangeL1 (.int j) st = .ok (di (rgI 0 j)) st := by unfold rangeL1; simp only [h, if_true]; rfl
theorem rangeT1_ap {j : Int} (h : okRg 0 j = true) : rangeT1 (.int j) st = .ok (.tup (di (rgI 0 j))) st := by unfold rangeT1; rw [bnd_ok (rangeL1_ap h)]; rfl
theorem appendM_ap {n : Nat} {ds : List D} {y : D} (h : st[n]? = some (.lst ds)) (hl : ds.length < line) : appendM (.ref n) y st = .ok .non (st.set n (.lst (ds ++ [y]))) := by unfold appendM; simp only [h, hl, if_true]
theorem storeM_ap {n : Nat} {k : Int} {j : Nat} {ds : List D} {y : D} (h : st[n]? = some (.lst ds)) (hj : ixN ds.length k = some j) : storeM (.ref n) (.int k) y st = .ok () (st.set n (.lst (ds.set j y))) := by unfold storeM; simp only [h, hj]
@[simp] theorem outV_rt (d : D) : outV (.rt d) st = .ok d st := (rfl)
@[simp] theorem outV_nx (e : Ev) : outV (.nx e) st = .ok .non st := (rfl)

/-! ### what a def does -/
theorem oldOk_refl (k : Nat) : ∀ st : Store, oldOk k st st = true
  | [] => rfl
  | a :: st => by simp [oldOk, oldOk_refl k st]
theorem oldOk_app (k : Nat) : ∀ (st j : Store), oldOk k st (st ++ j) = true
  | [], j => by cases j <;> rfl
  | a :: st, j => by
    show oldOk k (a :: st) (a :: (st ++ j)) = true
    simp [oldOk, oldOk_app k st j]
theorem oldOk_set (k : Nat) {o : SObj} (h : o.low k = true) : ∀ (st : Store) (n : Nat) (j : Store), oldOk k st (st.set n o ++ j) = true
  | [], n, j => by cases j <;> rfl
  | a :: st, 0, j => by
    show oldOk k (a :: st) (o :: (st ++ j)) = true
    simp [oldOk, oldOk_app k st j, h]
  | a :: st, n + 1, j => by
    show oldOk k (a :: st) (a :: (st.set n o ++ j)) = true
    simp [oldOk, oldOk_set k h st n j]
theorem finV_same (d : D) : finV st d st = .ok d st := by
  unfold finV
  split
  · rw [List.take_length]
  · rfl
theorem finV_app {d : D} (h : d.low st.length = true) (j : Store) : finV st d (st ++ j) = .ok d st := by
  unfold finV
  rw [if_pos (by rw [h, oldOk_app]; rfl), List.take_left]
theorem finV_set {d : D} {n : Nat} {o : SObj} (h : d.low st.length = true) (ho : o.low st.length = true) (j : Store) : finV st d (st.set n o ++ j) = .ok d (st.set n o) := by
  unfold finV
  rw [if_pos (by rw [h, oldOk_set _ ho]; rfl), List.take_left' (by simp)]
theorem finL_app {ds : List D} (h : D.lowL st.length ds = true) (j j' : Store) : finL st (.ref (st.length + j.length)) (st ++ (j ++ .lst ds :: j')) = .ok ds st := by
  unfold finL
  have e : (st ++ (j ++ .lst ds :: j'))[st.length + j.length]? = some (.lst ds) := by
    rw [List.getElem?_append_right (by omega), show st.length + j.length - st.length = j.length by omega, List.getElem?_append_right (Nat.le_refl _)]
    simp
  simp only [e]
  rw [if_pos (by simp [h, oldOk_app]), List.take_left]
theorem fnV_ap (n : Nat) (b : Ev → M Out) (ds : List D) : fnV n b ds st = bnd (bnd (b (env0 n ds)) outV) (finV st) st := rfl
theorem fnL_ap (n : Nat) (b : Ev → M Out) (ds : List D) : fnL n b ds st = bnd (bnd (b (env0 n ds)) outV) (finL st) st := rfl
/-- a def whose body hands d back, leaving the store -/
theorem fnV_same {n : Nat} {b : Ev → M Out} {ds : List D} {d : D} (h : b (env0 n ds) st = .ok (.rt d) st) : fnV n b ds st = .ok d st := by
  rw [fnV_ap, bnd_ok (m := bnd (b (env0 n ds)) outV) (a := d) (st' := st) (by rw [bnd_ok h]; rfl), finV_same]
theorem fnV_none {n : Nat} {b : Ev → M Out} {ds : List D} {e : Ev} (h : b (env0 n ds) st = .ok (.nx e) st) : fnV n b ds st = .ok .non st := by
  rw [fnV_ap, bnd_ok (m := bnd (b (env0 n ds)) outV) (a := .non) (st' := st) (by rw [bnd_ok h]; rfl), finV_same]
theorem fnV_app {n : Nat} {b : Ev → M Out} {ds : List D} {d : D} {j : Store} (h : b (env0 n ds) st = .ok (.rt d) (st ++ j)) (hl : d.low st.length = true) : fnV n b ds st = .ok d st := by
  rw [fnV_ap, bnd_ok (m := bnd (b (env0 n ds)) outV) (a := d) (st' := st ++ j) (by rw [bnd_ok h]; rfl), finV_app hl]
theorem fnV_set {n : Nat} {b : Ev → M Out} {ds : List D} {d : D} {k : Nat} {o : SObj} {j : Store} (h : b (env0 n ds) st = .ok (.rt d) (st.set k o ++ j)) (hl : d.low st.length = true) (ho : o.low st.length = true) : fnV n b ds st = .ok d (st.set k o) := by
  rw [fnV_ap, bnd_ok (m := bnd (b (env0 n ds)) outV) (a := d) (st' := st.set k o ++ j) (by rw [bnd_ok h]; rfl), finV_set hl ho]
theorem fnL_app {n : Nat} {b : Ev → M Out} {ds es : List D} {j j' : Store} (h : b (env0 n ds) st = .ok (.rt (.ref (st.length + j.length))) (st ++ (j ++ .lst es :: j'))) (hl : D.lowL st.length es = true) : fnL n b ds st = .ok es st := by
  rw [fnL_ap, bnd_ok (m := bnd (b (env0 n ds)) outV) (a := .ref (st.length + j.length)) (st' := st ++ (j ++ .lst es :: j')) (by rw [bnd_ok h]; rfl), finL_app hl]

/-! ### comprehensions -/
theorem lcGo_list {nxt : Nxt α} {ds : List α} {asg : α → Ev → Option Ev} {tt : Ev → M Bool} {el : Ev → M D} {T : α → Bool} {F : α → D} (hn : ∀ i, nxt i st = some ds[i]?)
    (h : ∀ a ∈ ds, ∃ e1, asg a env = some e1 ∧ tt e1 st = .ok (T a) st ∧ (T a = true → el e1 st = .ok (F a) st)) : ∀ n i, ds.length - i < n → lcGo nxt asg tt el n i env st = .ok (((ds.drop i).filter T).map F) st
  | 0, i, hi => by omega
  | n + 1, i, hi => by
    unfold lcGo
    rw [hn i]
    by_cases hl : i < ds.length
    · have hd : ds.drop i = ds[i] :: ds.drop (i + 1) := List.drop_eq_getElem_cons hl
      obtain ⟨e1, q1, q2, q3⟩ := h ds[i] (List.getElem_mem _)
      rw [List.getElem?_eq_getElem hl]
      simp only [q1]
      rw [bnd_ok (quiet_ok q2), hd]
      have ih := lcGo_list hn h n (i + 1) (by omega)
      cases hT : T ds[i] with
      | true =>
        rw [if_pos rfl, bnd_ok (quiet_ok (q3 hT)), bnd_ok ih, List.filter_cons_of_pos hT]
        rfl
      | false =>
        rw [if_neg Bool.false_ne_true, ih, List.filter_cons_of_neg (by rw [hT]; exact Bool.false_ne_true)]
    · rw [List.getElem?_eq_none (by omega), List.drop_eq_nil_of_le (by omega)]
      rfl
theorem lc_ok {nxt : Nxt α} {ds : List α} {mi : Ev → M (Nxt α)} {asg : α → Ev → Option Ev} {tt : Ev → M Bool} {el : Ev → M D} {vs : List Nat} (T : α → Bool) (F : α → D) (hm : mi env st = .ok nxt st) (hn : ∀ i, nxt i st = some ds[i]?) (hl : ds.length ≤ line)
    (h : ∀ a ∈ ds, ∃ e1, asg a (wipeE env vs) = some e1 ∧ tt e1 st = .ok (T a) st ∧ (T a = true → el e1 st = .ok (F a) st)) : lcM mi asg tt el vs env st = .ok ((ds.filter T).map F) st := by
  unfold lcM
  rw [bnd_ok hm, bnd_ok (lcGo_list hn h fuel 0 (by unfold fuel; unfold line at hl; omega))]
  rw [List.drop_zero, mkLst_ap]
  rw [List.length_map]
  exact Nat.le_trans (List.length_filter_le _ _) hl
/-- no test -/
theorem lc_map {nxt : Nxt α} {ds : List α} {mi : Ev → M (Nxt α)} {asg : α → Ev → Option Ev} {el : Ev → M D} {vs : List Nat} (F : α → D) (hm : mi env st = .ok nxt st) (hn : ∀ i, nxt i st = some ds[i]?) (hl : ds.length ≤ line)
    (h : ∀ a ∈ ds, ∃ e1, asg a (wipeE env vs) = some e1 ∧ el e1 st = .ok (F a) st) : lcM mi asg yesM el vs env st = .ok (ds.map F) st := by
  have := lc_ok (tt := yesM) (fun _ => true) F hm hn hl fun a ha => let ⟨e1, q1, q2⟩ := h a ha; ⟨e1, q1, rfl, fun _ => q2⟩
  rw [this, List.filter_eq_self.mpr (fun _ _ => rfl)]
/-- the items of a range -/
theorem itR_list (lo : Int) (n : Nat) (i : Nat) : itR lo n i st = some ((List.range n).map fun k : Nat => D.int (lo + (k : Int)))[i]? := by
  unfold itR
  by_cases h : i < n
  · rw [if_pos h, List.getElem?_map, List.getElem?_range h]; rfl
  · rw [if_neg h, List.getElem?_eq_none (by simpa using h)]

/-! ### loops -/
theorem forM_inv {nxt : Nxt α} {ds : List α} {asg : α → Ev → Option Ev} {body : Ev → M Out} (P : Nat → Ev → Store → Prop) (B : Ev → Store → Prop) (Rr : D → Store → Prop)
    (hn : ∀ i env st, P i env st → nxt i st = some ds[i]?)
    (hs : ∀ i a env st, ds[i]? = some a → P i env st → ∃ e1, asg a env = some e1 ∧ ∃ o st', body e1 st = .ok o st' ∧ (match o with
      | .nx e => P (i + 1) e st'
      | .ct e => P (i + 1) e st'
      | .bk e => B e st'
      | .rt d => Rr d st')) : ∀ n i env st, ds.length - i < n → i ≤ ds.length → P i env st → ∃ o st', forM nxt asg body n i env st = .ok o st' ∧ (match o with
      | .nx e => P ds.length e st' ∨ B e st'
      | .rt d => Rr d st'
      | _ => False)
  | 0, i, env, st, h, _, _ => by omega
  | n + 1, i, env, st, h, hi, hP => by
    unfold forM
    rw [hn i env st hP]
    by_cases hl : i < ds.length
    · rw [List.getElem?_eq_getElem hl]
      obtain ⟨e1, q1, o, st', q2, q3⟩ := hs i ds[i] env st (List.getElem?_eq_getElem hl) hP
      simp only [q1]
      rw [bnd_ok q2]
      cases o with
      | nx e => exact forM_inv P B Rr hn hs n (i + 1) e st' (by omega) (by omega) q3
      | ct e => exact forM_inv P B Rr hn hs n (i + 1) e st' (by omega) (by omega) q3
      | bk e => exact ⟨_, _, rfl, .inr q3⟩
      | rt d => exact ⟨_, _, rfl, q3⟩
    · rw [List.getElem?_eq_none (by omega)]
      have : i = ds.length := by omega
      subst this
      exact ⟨_, _, rfl, .inl hP⟩
/-- a for that goes to its end -/
theorem for_all {nxt : Nxt α} {ds : List α} {mi : Ev → M (Nxt α)} {asg : α → Ev → Option Ev} {body : Ev → M Out} (P : Nat → Ev → Store → Prop) (hm : mi env st = .ok nxt st) (hl : ds.length ≤ line) (h0 : P 0 env st)
    (hn : ∀ i env st, P i env st → nxt i st = some ds[i]?)
    (hs : ∀ i a env st, ds[i]? = some a → P i env st → ∃ e1, asg a env = some e1 ∧ ∃ e st', body e1 st = .ok (.nx e) st' ∧ P (i + 1) e st') :
    ∃ e st', forS mi asg body env st = .ok (.nx e) st' ∧ P ds.length e st' := by
  obtain ⟨o, st', h1, h2⟩ := forM_inv (nxt := nxt) (ds := ds) (asg := asg) (body := body) P (fun _ _ => False) (fun _ _ => False) hn (fun i a env st ha hP => by
    obtain ⟨e1, q1, e, st', q2, q3⟩ := hs i a env st ha hP
    exact ⟨e1, q1, _, st', q2, q3⟩) fuel 0 env st (by unfold fuel; unfold line at hl; omega) (Nat.zero_le _) h0
  cases o with
  | nx e =>
    refine ⟨e, st', ?_, h2.elim id False.elim⟩
    unfold forS
    rw [bnd_ok hm]
    exact h1
  | _ => exact h2.elim
/-- a while: by a measure -/
theorem while_inv {c : Ev → M Bool} {b : Ev → M Out} (P : Ev → Store → Prop) (μ : Ev → Store → Nat) (Q : Ev → Store → Prop)
    (hs : ∀ env st, P env st → ∃ k, c env st = .ok k st ∧ (k = false → Q env st) ∧ (k = true → ∃ e st', b env st = .ok (.nx e) st' ∧ P e st' ∧ μ e st' < μ env st)) : ∀ n env st, μ env st < n → P env st → ∃ e st', whileM c b n env st = .ok (.nx e) st' ∧ Q e st'
  | 0, env, st, h, _ => by omega
  | n + 1, env, st, h, hP => by
    obtain ⟨k, q1, q2, q3⟩ := hs env st hP
    unfold whileM
    rw [bnd_ok q1]
    cases k with
    | false => exact ⟨_, _, rfl, q2 rfl⟩
    | true =>
      rw [if_pos rfl]
      obtain ⟨e, st', r1, r2, r3⟩ := q3 rfl
      rw [bnd_ok r1]
      exact while_inv P μ Q hs n e st' (by omega) r2
end

/-! ### data of ints -/
/-- natural numbers as ints -/
def dn (ns : List Nat) : List D := ns.map fun n : Nat => D.int (n : Int)
theorem dn_di (ns : List Nat) : dn ns = di (ns.map fun n : Nat => (n : Int)) := by unfold dn di; rw [List.map_map]; rfl
theorem pdL_di : ∀ ns : List Int, pdL (di ns) = some (ns.map PyData.int)
  | [] => rfl
  | n :: ns => by
    show (match pd (.int n), pdL (di ns) with
      | some x, some r => some (x :: r)
      | _, _ => none) = _
    rw [pdL_di ns]
    rfl
theorem lay_ints : ∀ ns : List Int, PyData.canLayAll0 (ns.map PyData.int) = true
  | [] => rfl
  | n :: ns => by
    rw [List.map_cons, PyData.canLayAll0, lay_ints ns]
    rfl
theorem depthAll_ints : ∀ ns : List Int, PyData.depthAll (ns.map PyData.int) ≤ 1
  | [] => by simp [PyData.depthAll]
  | n :: ns => by
    have := depthAll_ints ns
    simp only [List.map_cons, PyData.depthAll, PyData.depth]
    omega
theorem shaped_ints (ns : List Int) : SeqAt.shaped (.list (ns.map .int)) = true ∧ SeqAt.shaped (.tuple (ns.map .int)) = true := by
  have h := depthAll_ints ns
  constructor <;> (unfold SeqAt.shaped; rw [Bool.and_eq_true, decide_eq_true_eq, PyData.canLay0, lay_ints]; refine ⟨rfl, ?_⟩; simp only [PyData.depth]; omega)
theorem eqvAll_ints : ∀ a b : List Int, PyData.eqvAll (a.map .int) (b.map .int) = decide (a = b)
  | [], [] => by simp [PyData.eqvAll]
  | [], _ :: _ => by simp [PyData.eqvAll]
  | _ :: _, [] => by simp [PyData.eqvAll]
  | x :: a, y :: b => by
    rw [List.map_cons, List.map_cons, PyData.eqvAll, PyData.eqv, eqvAll_ints a b]
    by_cases h1 : x = y <;> by_cases h2 : a = b <;> simp [h1, h2]
section
variable {st : Store}
@[simp] theorem asg2_ap (i j : Nat) (env : Ev) (a b : D) : asg2 i j (.tup [a, b]) env = some ((env.set i (some a)).set j (some b)) := (rfl)
@[simp] theorem eqD_int (i j : Int) : eqD (.int i) (.int j) st = .ok (.bl (decide (i = j))) st := by
  unfold eqD
  simp only [pd]
  rw [if_pos (by simp [SeqAt.shaped, PyData.canLay0, PyData.depth]), PyData.eqv]
  rfl
@[simp] theorem neD_int (i j : Int) : neD (.int i) (.int j) st = .ok (.bl (!decide (i = j))) st := by
  unfold neD
  simp only [pd]
  rw [if_pos (by simp [SeqAt.shaped, PyData.canLay0, PyData.depth]), PyData.eqv]
  rfl
@[simp] theorem eqD_bl (i j : Bool) : eqD (.bl i) (.bl j) st = .ok (.bl (i == j)) st := by
  unfold eqD
  simp only [pd]
  rw [if_pos (by simp [SeqAt.shaped, PyData.canLay0, PyData.depth]), PyData.eqv]
@[simp] theorem neD_bl (i j : Bool) : neD (.bl i) (.bl j) st = .ok (.bl (!(i == j))) st := by
  unfold neD
  simp only [pd]
  rw [if_pos (by simp [SeqAt.shaped, PyData.canLay0, PyData.depth]), PyData.eqv]
@[simp] theorem eqD_tup (a b : List Int) : eqD (.tup (di a)) (.tup (di b)) st = .ok (.bl (decide (a = b))) st := by
  unfold eqD
  simp only [pd, pdL_di, Option.map_some]
  rw [if_pos (by rw [(shaped_ints a).2, (shaped_ints b).2]; rfl), PyData.eqv, eqvAll_ints]
@[simp] theorem neD_tup (a b : List Int) : neD (.tup (di a)) (.tup (di b)) st = .ok (.bl (!decide (a = b))) st := by
  unfold neD
  simp only [pd, pdL_di, Option.map_some]
  rw [if_pos (by rw [(shaped_ints a).2, (shaped_ints b).2]; rfl), PyData.eqv, eqvAll_ints]
@[simp] theorem eqLs_ints (a b : List Int) : eqLs (di a) (di b) st = .ok (.bl (decide (a = b))) st := by
  unfold eqLs
  simp only [pdL_di]
  rw [if_pos (by rw [(shaped_ints a).1, (shaped_ints b).1]; rfl), PyData.eqv, eqvAll_ints]
@[simp] theorem neLs_ints (a b : List Int) : neLs (di a) (di b) st = .ok (.bl (!decide (a = b))) st := by
  unfold neLs
  simp only [pdL_di]
  rw [if_pos (by rw [(shaped_ints a).1, (shaped_ints b).1]; rfl), PyData.eqv, eqvAll_ints]
theorem any_ints (a : List Int) (k : Int) : ((a.map PyData.int).any fun z => PyData.eqv z (.int k)) = decide (k ∈ a) := by
  induction a with
  | nil => simp
  | cons x a ih =>
    rw [List.map_cons, List.any_cons, ih, PyData.eqv]
    by_cases h1 : x = k
    · subst h1; simp
    · have : ¬ k = x := fun e => h1 e.symm
      simp [h1, this]
@[simp] theorem inQ_ints (k : Int) (a : List Int) : inQ (.int k) (di a) st = .ok (.bl (decide (k ∈ a))) st := by
  unfold inQ
  simp only [pdL_di, pd]
  rw [if_pos (by rw [(shaped_ints a).1]; simp [SeqAt.shaped, PyData.canLay0, PyData.depth]), any_ints]
theorem intsOf_di : ∀ ns : List Int, intsOf (di ns) = some ns
  | [] => rfl
  | n :: ns => by
    show (intsOf (di ns)).map (n :: ·) = _
    rw [intsOf_di ns]
    rfl
theorem removeM_ap {n : Nat} {k : Int} {ns : List Int} (h : st[n]? = some (.lst (di ns))) (hk : k ∈ ns) : removeM (.ref n) (.int k) st = .ok .non (st.set n (.lst (di (ns.erase k)))) := by
  unfold removeM
  simp only [h, intsOf_di, hk, if_true]
  rfl
theorem atI_nat' {ds : List D} {i : Nat} {d : D} (h : ds[i]? = some d) : atI ds (i : Int) = some d := by
  have hl := (List.getElem?_eq_some_iff.mp h).1
  unfold atI ixN
  rw [if_pos (by omega), if_pos (by omega)]
  simpa using h
theorem lowL_di (k : Nat) : ∀ ns : List Int, D.lowL k (di ns) = true
  | [] => by unfold di; rw [List.map_nil, D.lowL]
  | n :: ns => by
    show D.lowL k (.int n :: di ns) = true
    rw [D.lowL, lowL_di k ns]
    rfl
end
end L3
set_option maxHeartbeats 4000000
/-! S1: what the defs about permutations do. -/
namespace L3
open PySem L2
/-! ### sorted ints -/
def leB (a b : Int) : Bool := decide (a ≤ b)
def sortI (ns : List Int) : List Int := ns.mergeSort leB
theorem sortD_di (ns : List Int) : sortD (di ns) = di (sortI ns) := by
  unfold sortD sortI di
  refine (List.map_mergeSort (r := leB) (s := PySem.W.dataLe false encD) (f := D.int) fun a _ b _ => ?_).symm
  have := congrFun (congrFun (PySem.W.dataLe_int (β := Int) id) a) b
  exact this.symm
theorem alikeL_ints (ns : List Int) : alikeL (ns.map .int) = true := by
  unfold alikeL
  rw [List.all_map, List.all_eq_true]
  intro a _
  show ((ns.map PyData.int).all fun y => PySem.W.alike (.int a) y) = true
  rw [List.all_map, List.all_eq_true]
  intro b _
  simp [PySem.W.alike]
theorem sortQ_di {ns : List Int} {st : Store} (h : ns.length ≤ line) : sortQ (di ns) st = .ok (di (sortI ns)) st := by
  unfold sortQ
  simp only [pdL_di, sortD_di]
  rw [if_pos]
  refine ⟨?_, by simpa using h⟩
  unfold sortOk
  rw [alikeL_ints, Bool.true_and, Bool.and_eq_true, Bool.or_eq_true]
  refine ⟨.inr ?_, ?_⟩
  · rw [List.all_map, List.all_eq_true]; intro a _; rfl
  · rw [List.all_map, List.all_eq_true]; intro a _; simp [PyData.depth]
theorem sortI_perm (ns : List Int) : (sortI ns).Perm ns := List.mergeSort_perm _ _
theorem sortI_sorted (ns : List Int) : (sortI ns).Pairwise (· ≤ ·) := by
  have := List.pairwise_mergeSort (le := leB) (fun a b c h1 h2 => by simp [leB] at *; omega) (fun a b => by simp [leB]; omega) ns
  exact this.imp fun h => by simpa [leB] using h
theorem sorted_unique : ∀ {a b : List Int}, a.Perm b → a.Pairwise (· ≤ ·) → b.Pairwise (· ≤ ·) → a = b
  | [], b, p, _, _ => (List.nil_perm.mp p).symm
  | x :: a, [], p, _, _ => by have := p.length_eq; simp at this
  | x :: a, y :: b, p, h1, h2 => by
    rw [List.pairwise_cons] at h1 h2
    have e : x = y := by
      have hx : x ∈ y :: b := p.subset List.mem_cons_self
      have hy : y ∈ x :: a := p.symm.subset List.mem_cons_self
      rcases List.mem_cons.mp hx with q | q
      · exact q
      · rcases List.mem_cons.mp hy with r | r
        · exact r.symm
        · have := h1.1 _ r; have := h2.1 _ q; omega
    subst e
    rw [sorted_unique (List.Perm.cons_inv p) h1.2 h2.2]
theorem rgI_sorted (n : Nat) : (rgI 0 n).Pairwise (· ≤ ·) := by
  unfold rgI
  rw [List.pairwise_map]
  refine (List.pairwise_le_range (n := _)).imp fun h => by omega
def nat (ns : List Nat) : List Int := ns.map fun n : Nat => (n : Int)
theorem dn_nat (ns : List Nat) : dn ns = di (nat ns) := dn_di ns
theorem rgI_nat (n : Nat) : rgI 0 (n : Int) = nat (List.range n) := by
  unfold rgI nat
  rw [show ((n : Int) - 0).toNat = n by omega]
  exact List.map_congr_left fun a _ => by omega
theorem sort_perm {ns : List Int} {n : Nat} (h : ns.Perm (rgI 0 n)) : sortI ns = rgI 0 n := sorted_unique ((sortI_perm ns).trans h) (sortI_sorted ns) (rgI_sorted n)
/-! ### what an item is -/
def isIntD : D → Bool
  | .int _ => true
  | _ => false
def Typed (st : Store) (d : D) : Prop := (tyOf st d).isSome = true
theorem tyOf_int {st : Store} {d : D} (h : Typed st d) : ∃ s, tyOf st d = some s ∧ kit2 s "int" = (isIntD d || decide (s = "bool")) ∧ (kit2 s "bool" = decide (s = "bool")) ∧ (isIntD d = true → s ≠ "bool") := by
  unfold Typed at h
  cases d with
  | ref n =>
    simp only [tyOf] at h ⊢
    split at h <;> simp_all [kit2, isIntD]
  | con a => simp [tyOf] at h
  | ty a => simp [tyOf] at h
  | _ => simp [tyOf, kit2, isIntD]
theorem is_integer_ap {st : Store} {d : D} (h : Typed st d) : G.m_is_integer [d] st = .ok (.bl (isIntD d)) st := by
  obtain ⟨s, e, h1, h2, h3⟩ := tyOf_int h
  refine fnV_same (b := G.b_is_integer) ?_
  unfold G.b_is_integer
  simp [isiV, e, okTy, h1, h2]
  cases q : isIntD d with
  | true => simp [q, h3 q]
  | false => by_cases hb : s = "bool" <;> simp [q, hb]
theorem boolsOf_map {α : Type} (f : α → Bool) : ∀ ds : List α, boolsOf (ds.map fun d => D.bl (f d)) = some (ds.map f)
  | [] => rfl
  | d :: ds => by
    show (boolsOf (ds.map fun d => D.bl (f d))).map (f d :: ·) = _
    rw [boolsOf_map f ds]
    rfl
theorem allQ_map {α : Type} {st : Store} (f : α → Bool) (ds : List α) : allQ (ds.map fun d => D.bl (f d)) st = .ok (.bl (ds.all f)) st := by
  unfold allQ
  simp only [boolsOf_map]
  rw [List.all_map]
  rfl
theorem ints_of_all : ∀ {ds : List D}, ds.all isIntD = true → ∃ ns, ds = di ns
  | [], _ => ⟨[], rfl⟩
  | d :: ds, h => by
    rw [List.all_cons, Bool.and_eq_true] at h
    obtain ⟨ns, rfl⟩ := ints_of_all h.2
    cases d with
    | int i => exact ⟨i :: ns, rfl⟩
    | _ => cases h.1
theorem all_isInt (ns : List Int) : (di ns).all isIntD = true := by
  unfold di
  rw [List.all_map, List.all_eq_true]
  intro a _
  rfl
/-- a tuple of the ints 0 .. n - 1, n from 1 to 6 -/
def permD : D → Bool
  | .tup ds => decide (1 ≤ ds.length) && (decide (ds.length ≤ 6) && (ds.all isIntD && (match intsOf ds with
    | some ns => decide (sortI ns = rgI 0 ns.length)
    | none => false)))
  | _ => false
theorem permD_di (ns : List Int) : permD (.tup (di ns)) = (decide (1 ≤ ns.length) && (decide (ns.length ≤ 6) && decide (sortI ns = rgI 0 ns.length))) := by
  simp only [permD, all_isInt, di_length, intsOf_di, Bool.true_and]
theorem okRg_small {n : Nat} (h : n ≤ 16777216) : okRg 0 (n : Int) = true := by
  unfold okRg okR
  rw [Bool.and_eq_true, Bool.and_eq_true, Bool.and_eq_true, Bool.and_eq_true, decide_eq_true_eq, decide_eq_true_eq, decide_eq_true_eq, decide_eq_true_eq, decide_eq_true_eq]
  refine ⟨⟨⟨by decide, by decide⟩, ?_, ?_⟩, ?_⟩
  · exact Int.le_trans (by decide) (Int.natCast_nonneg n)
  · exact Int.lt_of_le_of_lt (Int.ofNat_le.mpr h) (by decide)
  · show ((n : Int) - 0).toNat ≤ 16777216
    omega
def TypedT (st : Store) : D → Prop
  | .tup ds => ∀ x ∈ ds, Typed st x
  | d => Typed st d
theorem isiV_tup {st : Store} (ds : List D) : isiV (.tup ds) (.ty "tuple") st = .ok (.bl true) st := rfl
theorem not_tup {st : Store} {d : D} (h : Typed st d) (hn : ∀ ds, d ≠ .tup ds) : isiV d (.ty "tuple") st = .ok (.bl false) st := by
  unfold Typed at h
  cases d with
  | ref n =>
    simp only [tyOf] at h
    unfold isiV
    simp only [tyOf]
    split at h <;> simp_all [kit2, okTy]
  | con a => simp [tyOf] at h
  | ty a => simp [tyOf] at h
  | tup ds => exact absurd rfl (hn ds)
  | _ => rfl
theorem is_permutation_ap {st : Store} {d : D} (h : TypedT st d) : G.m_is_permutation [d] st = .ok (.bl (permD d)) st := by
  refine fnV_same (b := G.b_is_permutation) ?_
  by_cases hd : ∃ ds, d = .tup ds
  · obtain ⟨ds, rfl⟩ := hd
    have h : ∀ x ∈ ds, Typed st x := h
    unfold G.b_is_permutation
    by_cases h1 : 1 ≤ ds.length
    · by_cases h6 : ds.length ≤ 6
      · have c := lc_map (st := st) (env := [some (.tup ds), none]) (nxt := itV (.tup ds)) (ds := ds) (mi := un1 iterV (getV 0)) (asg := asgN 1) (el := callM G.m_is_integer 1 (consA (getV 1) nilA)) (vs := [1]) (fun d => .bl (isIntD d)) (by simp) (fun _ => rfl) (by unfold line; omega) (fun a ha => ⟨_, rfl, by
          simp [wipeE, is_integer_ap (h a ha)]⟩)
        have i1 : (1 : Int) ≤ (ds.length : Int) := by omega
        have i6 : (ds.length : Int) ≤ 6 := by omega
        have a := allQ_map (st := st) isIntD ds
        cases q : ds.all isIntD with
        | false =>
          rw [q] at a
          have p : permD (.tup ds) = false := by simp only [permD, q, Bool.false_and, Bool.and_false]
          simp [isiV_tup, c, a, i1, i6, p]
        | true =>
          rw [q] at a
          obtain ⟨ns, rfl⟩ := ints_of_all q
          have hl : ns.length ≤ 6 := by simpa using h6
          have hl1 : 1 ≤ ns.length := by simpa using h1
          have i1' : (1 : Int) ≤ (ns.length : Int) := by omega
          have i6' : (ns.length : Int) ≤ 6 := by omega
          simp [isiV_tup, c, a, i1', i6', sortQ_di (st := st) (ns := ns) (by unfold line; omega), rangeL1_ap (st := st) (j := (ns.length : Int)) (okRg_small (by omega)), permD_di, hl, hl1]
      · have i1 : (1 : Int) ≤ (ds.length : Int) := by omega
        have i6 : ¬ (ds.length : Int) ≤ 6 := by omega
        simp [isiV_tup, permD, h1, h6, i1, i6]
    · have i1 : ¬ (1 : Int) ≤ (ds.length : Int) := by omega
      simp [isiV_tup, permD, h1, i1]
  · have e := not_tup (st := st) (d := d) (by cases d <;> first | exact h | exact absurd ⟨_, rfl⟩ hd) fun ds e => hd ⟨ds, e⟩
    have p : permD d = false := by cases d <;> first | rfl | exact absurd ⟨_, rfl⟩ hd
    unfold G.b_is_permutation
    simp [e, p]
end L3
set_option maxHeartbeats 4000000
/-! S2: products, inverses, loops over permutations. -/
namespace L3
open PySem L2
/-! ### more of the calculus -/
section
variable {α β : Type} {st : Store} {env : Ev}
theorem lc_mapL {nxt : Nxt α} {l : List β} {enc : β → α} {mi : Ev → M (Nxt α)} {asg : α → Ev → Option Ev} {el : Ev → M D} {vs : List Nat} (F : β → D) (hm : mi env st = .ok nxt st) (hn : ∀ i, nxt i st = some (l.map enc)[i]?) (hl : l.length ≤ line)
    (h : ∀ a ∈ l, ∃ e1, asg (enc a) (wipeE env vs) = some e1 ∧ el e1 st = .ok (F a) st) : lcM mi asg yesM el vs env st = .ok (l.map F) st := by
  have key : ∀ n i, l.length - i < n → lcGo nxt asg yesM el n i (wipeE env vs) st = .ok ((l.drop i).map F) st := by
    intro n
    induction n with
    | zero => intro i hi; omega
    | succ n ih =>
      intro i hi
      unfold lcGo
      rw [hn i]
      by_cases hil : i < l.length
      · obtain ⟨e1, q1, q2⟩ := h l[i] (List.getElem_mem _)
        rw [List.getElem?_map, List.getElem?_eq_getElem hil]
        simp only [Option.map_some, q1]
        rw [bnd_ok (quiet_ok (show yesM e1 st = .ok true st from rfl)), if_pos rfl, bnd_ok (quiet_ok q2), bnd_ok (ih (i + 1) (by omega)), List.drop_eq_getElem_cons hil]
        rfl
      · rw [List.getElem?_eq_none (by simpa using Nat.le_of_not_lt hil), List.drop_eq_nil_of_le (by omega)]
        rfl
  unfold lcM
  rw [bnd_ok hm, bnd_ok (key fuel 0 (by unfold fuel; unfold line at hl; omega)), List.drop_zero, mkLst_ap (by rw [List.length_map]; exact hl)]
theorem lc_okL {nxt : Nxt α} {l : List β} {enc : β → α} {mi : Ev → M (Nxt α)} {asg : α → Ev → Option Ev} {tt : Ev → M Bool} {el : Ev → M D} {vs : List Nat} (T : β → Bool) (F : β → D) (hm : mi env st = .ok nxt st) (hn : ∀ i, nxt i st = some (l.map enc)[i]?) (hl : l.length ≤ line)
    (h : ∀ a ∈ l, ∃ e1, asg (enc a) (wipeE env vs) = some e1 ∧ tt e1 st = .ok (T a) st ∧ (T a = true → el e1 st = .ok (F a) st)) : lcM mi asg tt el vs env st = .ok ((l.filter T).map F) st := by
  have key : ∀ n i, l.length - i < n → lcGo nxt asg tt el n i (wipeE env vs) st = .ok (((l.drop i).filter T).map F) st := by
    intro n
    induction n with
    | zero => intro i hi; omega
    | succ n ih =>
      intro i hi
      unfold lcGo
      rw [hn i]
      by_cases hil : i < l.length
      · obtain ⟨e1, q1, q2, q3⟩ := h l[i] (List.getElem_mem _)
        rw [List.getElem?_map, List.getElem?_eq_getElem hil]
        simp only [Option.map_some, q1]
        rw [bnd_ok (quiet_ok q2), List.drop_eq_getElem_cons hil]
        cases hT : T l[i] with
        | true =>
          rw [if_pos rfl, bnd_ok (quiet_ok (q3 hT)), bnd_ok (ih (i + 1) (by omega)), List.filter_cons_of_pos hT]
          rfl
        | false => rw [if_neg Bool.false_ne_true, ih (i + 1) (by omega), List.filter_cons_of_neg (by rw [hT]; exact Bool.false_ne_true)]
      · rw [List.getElem?_eq_none (by simpa using Nat.le_of_not_lt hil), List.drop_eq_nil_of_le (by omega)]
        rfl
  unfold lcM
  rw [bnd_ok hm, bnd_ok (key fuel 0 (by unfold fuel; unfold line at hl; omega)), List.drop_zero, mkLst_ap (by rw [List.length_map]; exact Nat.le_trans (List.length_filter_le _ _) hl)]
/-- a while run by a plain state -/
def loopF {σ : Type} (cond : σ → Bool) (next : σ → σ) : Nat → σ → Option σ
  | 0, s => if cond s = true then none else some s
  | n + 1, s => if cond s = true then loopF cond next n (next s) else some s
theorem while_run {σ : Type} {c : Ev → M Bool} {b : Ev → M Out} {cond : σ → Bool} {next : σ → σ} (Rl : σ → Ev → Store → Prop)
    (hc : ∀ s env st, Rl s env st → c env st = .ok (cond s) st) (hb : ∀ s env st, Rl s env st → cond s = true → ∃ e st', b env st = .ok (.nx e) st' ∧ Rl (next s) e st') :
    ∀ (n m : Nat) (s s' : σ) (env : Ev) (st : Store), n < m → loopF cond next n s = some s' → Rl s env st → ∃ e st', whileM c b m env st = .ok (.nx e) st' ∧ Rl s' e st' ∧ cond s' = false := by
  intro n
  induction n with
  | zero =>
    intro m s s' env st hm h R
    unfold loopF at h
    cases q : cond s with
    | true => rw [q] at h; cases h
    | false =>
      rw [q] at h
      cases h
      cases m with
      | zero => omega
      | succ m =>
        unfold whileM
        rw [bnd_ok (hc s env st R), q]
        exact ⟨_, _, rfl, R, rfl⟩
  | succ n ih =>
    intro m s s' env st hm h R
    unfold loopF at h
    cases m with
    | zero => omega
    | succ m =>
      unfold whileM
      rw [bnd_ok (hc s env st R)]
      cases q : cond s with
      | true =>
        rw [q] at h
        obtain ⟨e, st', q1, q2⟩ := hb s env st R q
        rw [if_pos rfl, bnd_ok q1]
        exact ih m _ s' e st' (by omega) h q2
      | false =>
        rw [q] at h
        cases h
        exact ⟨_, _, rfl, R, q⟩
end
/-! ### permutations -/
def pD (p : List Nat) : D := .tup (di (nat p))
/-- p is one of the n points 0 .. n - 1, 1 ≤ n ≤ 6 -/
structure Pm (n : Nat) (p : List Nat) : Prop where
  perm : p.Perm (List.range n)
  lo : 1 ≤ n
  hi : n ≤ 6
@[simp] theorem nat_length (p : List Nat) : (nat p).length = p.length := by unfold nat; rw [List.length_map]
theorem nat_get (p : List Nat) (i : Nat) : (nat p)[i]? = p[i]?.map fun n : Nat => (n : Int) := by unfold nat; rw [List.getElem?_map]
theorem nat_inj {p q : List Nat} (h : nat p = nat q) : p = q := by
  unfold nat at h
  exact List.map_inj_right (fun a b e => by omega) |>.mp h
section
variable {n : Nat} {p q : List Nat} {st : Store} {env : Ev}
theorem Pm.len (h : Pm n p) : p.length = n := by rw [h.perm.length_eq, List.length_range]
theorem Pm.lt (h : Pm n p) {x : Nat} (hx : x ∈ p) : x < n := List.mem_range.mp (h.perm.subset hx)
theorem Pm.mem (h : Pm n p) {x : Nat} (hx : x < n) : x ∈ p := h.perm.symm.subset (List.mem_range.mpr hx)
theorem Pm.nd (h : Pm n p) : p.Nodup := h.perm.symm.nodup List.nodup_range
theorem Pm.permD (h : Pm n p) : permD (pD p) = true := by
  unfold pD
  rw [permD_di]
  have hp : (nat p).Perm (rgI 0 ((nat p).length : Int)) := by rw [rgI_nat, nat_length, h.len]; exact h.perm.map _
  rw [sort_perm (n := (nat p).length) hp]
  have := h.len; have := h.lo; have := h.hi
  simp
  omega
theorem typed_int (i : Int) : Typed st (.int i) := rfl
theorem typed_pD (p : List Nat) : TypedT st (pD p) := by
  show ∀ x ∈ di (nat p), Typed st x
  intro x hx
  unfold di at hx
  obtain ⟨i, _, rfl⟩ := List.mem_map.mp hx
  exact typed_int i
theorem is_perm_ap (h : Pm n p) : G.m_is_permutation [pD p] st = .ok (.bl true) st := by rw [is_permutation_ap (typed_pD p), h.permD]
theorem check_permutation_ap (h : Pm n p) : G.m_check_permutation [pD p] st = .ok .non st := by
  refine fnV_none (b := G.b_check_permutation) (e := [some (pD p)]) ?_
  unfold G.b_check_permutation
  simp [is_perm_ap h]
theorem pD_readQ (p : List Nat) : readQ (pD p) st = .ok (di (nat p)) st := rfl
theorem check_two_ap (h : Pm n p) (h' : Pm n q) : G.m_check_two [pD p, pD q] st = .ok .non st := by
  refine fnV_none (b := G.b_check_two) (e := [some (pD p), some (pD q)]) ?_
  unfold G.b_check_two
  simp [check_permutation_ap h, check_permutation_ap h', pD_readQ, h.len, h'.len]
def gt (p : List Nat) (i : Nat) : Nat := p.getD i 0
theorem gt_get {p : List Nat} {i : Nat} (h : i < p.length) : p[i]? = some (gt p i) := by unfold gt; rw [List.getD_eq_getElem?_getD, List.getElem?_eq_getElem h]; rfl
theorem gt_elem {p : List Nat} {i : Nat} (h : i < p.length) : p[i] = gt p i := by have := gt_get h; rw [List.getElem?_eq_getElem h] at this; exact Option.some.inj this
def comp (p q : List Nat) : List Nat := p.map fun x => gt q x
theorem comp_length (p q : List Nat) : (comp p q).length = p.length := by unfold comp; rw [List.length_map]
theorem itV_pD (p : List Nat) (i : Nat) : itV (pD p) i st = some (p.map fun x : Nat => D.int (x : Int))[i]? := by
  show some (di (nat p))[i]? = _
  unfold di nat
  rw [List.map_map]
  rfl
theorem iterV_pD (p : List Nat) : iterV (pD p) st = .ok (itV (pD p)) st := rfl
theorem ix_pD {p : List Nat} {x : Nat} (h : x < p.length) : ixQ (di (nat p)) (.int (x : Int)) st = .ok (.int (gt p x : Nat)) st := by
  refine ixQ_ap (atI_nat' ?_)
  rw [di_get, nat_get, gt_get h]
  rfl
theorem product_of_ap (hl : p.length ≤ line) (h : ∀ x ∈ p, x < q.length) : G.m_product_of [pD p, pD q] st = .ok (pD (comp p q)) st := by
  refine fnV_same (b := G.b_product_of) ?_
  unfold G.b_product_of
  have c := lc_mapL (st := st) (env := [some (pD p), some (pD q), none]) (nxt := itV (pD p)) (l := p) (enc := fun x : Nat => D.int (x : Int)) (mi := un1 iterV (getV 0)) (asg := asgN 2) (el := bin ixV (getV 1) (getV 2)) (vs := [2]) (fun x => .int (gt q x : Nat)) (by simp [iterV_pD]) (itV_pD p) hl
    (fun a ha => ⟨_, rfl, by simp [wipeE, pD_readQ, ix_pD (h a ha)]⟩)
  simp [c]
  unfold pD comp di nat
  rw [List.map_map, List.map_map]
  rfl
theorem Pm.lt' (h : Pm n p) (h' : Pm n q) : ∀ x ∈ p, x < q.length := fun x hx => by rw [h'.len]; exact h.lt hx
theorem Pm.line (h : Pm n p) : p.length ≤ line := by rw [h.len]; have := h.hi; unfold L3.line; omega
theorem then_ap (h : Pm n p) (h' : Pm n q) : G.m_then [pD p, pD q] st = .ok (pD (comp p q)) st := by
  refine fnV_same (b := G.b_then) ?_
  unfold G.b_then
  simp [check_two_ap h h', product_of_ap h.line (h.lt' h')]
theorem nodup_map_of {p : List Nat} (hp : p.Nodup) {f : Nat → Nat} (hf : ∀ x ∈ p, ∀ y ∈ p, f x = f y → x = y) : (p.map f).Nodup := by
  induction p with
  | nil => simp
  | cons a p ih =>
    rw [List.nodup_cons] at hp
    rw [List.map_cons, List.nodup_cons]
    refine ⟨fun hm => ?_, ih hp.2 fun x hx y hy => hf x (List.mem_cons_of_mem _ hx) y (List.mem_cons_of_mem _ hy)⟩
    obtain ⟨y, hy, e⟩ := List.mem_map.mp hm
    have := hf a List.mem_cons_self y (List.mem_cons_of_mem _ hy) e.symm
    subst this
    exact hp.1 hy
theorem perm_sub : ∀ {p l : List Nat}, p.Nodup → (∀ x ∈ p, x ∈ l) → l.length ≤ p.length → p.Perm l
  | [], l, _, _, h => by
    have : l = [] := List.length_eq_zero_iff.mp (by simpa using h)
    subst this
    exact List.Perm.refl _
  | x :: r, l, hn, hs, h => by
    rw [List.nodup_cons] at hn
    have hx : x ∈ l := hs x List.mem_cons_self
    have ih : r.Perm (l.erase x) := perm_sub hn.2 (fun y hy => (List.mem_erase_of_ne (show y ≠ x from fun e => hn.1 (by rw [← e]; exact hy))).mpr (hs y (List.mem_cons_of_mem _ hy))) (by
      rw [List.length_erase_of_mem hx]
      rw [List.length_cons] at h
      omega)
    exact (List.Perm.cons x ih).trans (List.perm_cons_erase hx).symm
theorem perm_of {p : List Nat} (hn : p.Nodup) (hl : p.length = n) (hlt : ∀ x ∈ p, x < n) : p.Perm (List.range n) := by
  exact perm_sub hn (fun x hx => List.mem_range.mpr (hlt x hx)) (by rw [List.length_range, hl]; exact Nat.le_refl _)
theorem getD_inj {q : List Nat} (hq : q.Nodup) {x y : Nat} (hx : x < q.length) (hy : y < q.length) (e : gt q x = gt q y) : x = y := by
  rw [← gt_elem hx, ← gt_elem hy] at e
  exact (List.getElem_inj hq).mp e
theorem getD_mem {q : List Nat} {x : Nat} (hx : x < q.length) : gt q x ∈ q := by
  rw [← gt_elem hx]
  exact List.getElem_mem _
theorem Pm.comp (h : Pm n p) (h' : Pm n q) : Pm n (comp p q) := by
  refine ⟨perm_of ?_ (by rw [comp_length, h.len]) fun x hx => ?_, h.lo, h.hi⟩
  · exact nodup_map_of h.nd fun x hx y hy e => getD_inj h'.nd (h.lt' h' x hx) (h.lt' h' y hy) e
  · obtain ⟨y, hy, rfl⟩ := List.mem_map.mp hx
    exact h'.lt (getD_mem (h.lt' h' y hy))
end
end L3
set_option maxHeartbeats 4000000
/-! S3: inverses, cycles, orders. -/
namespace L3
open PySem L2
section
variable {α : Type}
theorem app_get (st l : List α) (k : Nat) : (st ++ l)[st.length + k]? = l[k]? := by
  rw [List.getElem?_append_right (by omega), show st.length + k - st.length = k by omega]
theorem app_get0 (st l : List α) : (st ++ l)[st.length]? = l[0]? := app_get st l 0
theorem app_set (st l : List α) (k : Nat) (x : α) : (st ++ l).set (st.length + k) x = st ++ l.set k x := by
  rw [List.set_append_right _ _ (by omega), show st.length + k - st.length = k by omega]
theorem app_set0 (st l : List α) (x : α) : (st ++ l).set st.length x = st ++ l.set 0 x := app_set st l 0 x
end
section
variable {n : Nat} {p q : List Nat} {st : Store} {env : Ev}
theorem repL_zero (hn : n ≤ 1000) : repL [.int 0] (.int (n : Int)) st = .ok (di (List.replicate n 0)) st := by
  unfold repL
  simp only
  rw [if_pos]
  · congr 1
    show (List.replicate (n : Int).toNat [D.int 0]).flatten = di (List.replicate n 0)
    rw [show (n : Int).toNat = n by omega]
    unfold di
    rw [List.map_replicate, List.flatten_replicate_singleton]
  · refine ⟨Int.le_trans (by decide) (Int.natCast_nonneg n), Int.lt_of_le_of_lt (Int.ofNat_le.mpr hn) (by decide), ?_⟩
    show 1 * (n : Int).toNat ≤ line
    unfold line
    omega
def inv (p : List Nat) : List Nat := (List.range p.length).map fun v => p.idxOf v
theorem inv_length (p : List Nat) : (inv p).length = p.length := by unfold inv; simp
/-- the list of the inverse, as far as it is filled -/
def filled (p : List Nat) (i : Nat) : List Int := (List.range p.length).map fun v => if p.idxOf v < i then (p.idxOf v : Int) else 0
theorem filled_zero (p : List Nat) : filled p 0 = List.replicate p.length 0 := by
  unfold filled
  simp only [Nat.not_lt_zero, if_false]
  rw [List.map_const', List.length_range]
theorem Pm.idx (h : Pm n p) {i : Nat} (hi : i < n) : p.idxOf (gt p i) = i := by
  have hl : i < p.length := by rw [h.len]; exact hi
  rw [← gt_elem hl]
  exact h.nd.idxOf_getElem i hl
theorem filled_succ (h : Pm n p) {i : Nat} (hi : i < n) : (filled p i).set (gt p i) (i : Int) = filled p (i + 1) := by
  have hl := h.len
  apply List.ext_getElem
  · simp [filled]
  · intro v h1 h2
    have hv : v < p.length := by simpa [filled] using h2
    have hvm : v ∈ p := h.mem (by omega)
    rw [List.getElem_set]
    simp only [filled, List.getElem_map, List.getElem_range]
    by_cases e : gt p i = v
    · rw [if_pos e]
      have := h.idx hi
      rw [e] at this
      rw [this, if_pos (by omega)]
    · rw [if_neg e]
      have hne : p.idxOf v ≠ i := fun q => by
        apply e
        have hx : p.idxOf v < p.length := List.idxOf_lt_length_iff.mpr hvm
        have := List.getElem_idxOf hx
        rw [← gt_elem (by omega)]
        simp only [q] at this
        exact this
      by_cases q : p.idxOf v < i
      · rw [if_pos q, if_pos (by omega)]
      · rw [if_neg q, if_neg (by omega)]
theorem filled_all (h : Pm n p) : filled p n = nat (inv p) := by
  unfold filled inv nat
  rw [List.map_map]
  refine List.map_congr_left fun v hv => ?_
  have hv : v < p.length := List.mem_range.mp hv
  rw [if_pos]
  · rfl
  · rw [← h.len]
    exact List.idxOf_lt_length_iff.mpr (h.mem (by rw [← h.len]; exact hv))
theorem turned_back_ap (h : Pm n p) : G.m_turned_back [pD p] st = .ok (pD (inv p)) st := by
  have hl := h.len
  have h6 := h.hi
  refine fnV_app (b := G.b_turned_back) (j := [.lst (di (nat (inv p)))]) ?_ (by simp [pD, D.low, lowL_di])
  unfold G.b_turned_back
  have hf := for_all (st := st ++ [.lst (di (filled p 0))]) (env := [some (pD p), some (.ref st.length), none, none]) (nxt := numItems (itV (pD p))) (ds := (List.range n).map fun i : Nat => (D.int (i : Int), D.int (gt p i : Nat))) (mi := un1 enumV (getV 0)) (asg := asgP 2 3) (body := subS (getV 2) (getV 1) (getV 3))
    (fun i env st' => i ≤ n ∧ (∃ a b, env = [some (pD p), some (.ref st.length), a, b]) ∧ st' = st ++ [.lst (di (filled p i))]) (by simp; rfl) (by rw [List.length_map, List.length_range]; unfold line; omega) ⟨Nat.zero_le _, ⟨_, _, rfl⟩, rfl⟩
    (fun i env st' _ => by
      unfold numItems
      rw [itV_pD]
      by_cases hi : i < n
      · rw [List.getElem?_map, List.getElem?_map, gt_get (by omega), List.getElem?_range hi]
        rfl
      · rw [List.getElem?_eq_none (by simp; omega), List.getElem?_eq_none (by simp; omega)]
        rfl)
    (fun i a env st' ha hP => by
      obtain ⟨hin, ⟨x, y, rfl⟩, rfl⟩ := hP
      have hi : i < n := by
        have := (List.getElem?_eq_some_iff.mp ha).1
        simpa using this
      rw [List.getElem?_map, List.getElem?_range hi] at ha
      cases ha
      have hx : gt p i < n := h.lt (getD_mem (by omega))
      refine ⟨_, rfl, [some (pD p), some (.ref st.length), some (.int (i : Int)), some (.int (gt p i : Nat))], st ++ [.lst (di (filled p (i + 1)))], ?_, by omega, ⟨_, _, rfl⟩, rfl⟩
      have hst := storeM_ap (st := st ++ [.lst (di (filled p i))]) (n := st.length) (k := ((gt p i : Nat) : Int)) (j := gt p i) (ds := di (filled p i)) (y := .int (i : Int)) (by rw [app_get0]; rfl) (by
        unfold ixN
        have : (di (filled p i)).length = n := by simp [filled, hl]
        rw [if_pos (by omega), if_pos (by omega)]
        simp)
      simp [hst, app_set0]
      rw [← filled_succ h hi]
      unfold di
      rw [List.map_set])
  obtain ⟨e, st', h1, _, ⟨x, y, rfl⟩, rfl⟩ := hf
  have e0 : filled p 0 = List.replicate p.length 0 := filled_zero p
  rw [e0] at h1
  have hlen : ((List.range n).map fun i : Nat => (D.int (i : Int), D.int (gt p i : Nat))).length = n := by simp
  rw [hlen, filled_all h] at h1
  simp [pD_readQ, mkLst_ap (st := st) (ds := [D.int 0]) (by unfold line; simp), repL_zero (st := st) (n := p.length) (by omega), h1, readQ_ref (st := st ++ [SObj.lst (di (nat (inv p)))]) (n := st.length) (ds := di (nat (inv p))) (by rw [app_get0]; rfl)]
  rfl
theorem inverse_ap (h : Pm n p) : G.m_inverse_permutation [pD p] st = .ok (pD (inv p)) st := by
  refine fnV_same (b := G.b_inverse_permutation) ?_
  unfold G.b_inverse_permutation
  simp [check_permutation_ap h, turned_back_ap h]
theorem Pm.inv (h : Pm n p) : Pm n (inv p) := by
  refine ⟨perm_of ?_ (by rw [inv_length, h.len]) fun x hx => ?_, h.lo, h.hi⟩
  · unfold L3.inv
    refine nodup_map_of List.nodup_range fun x hx y hy e => ?_
    have hx : x ∈ p := h.mem (by rw [← h.len]; exact List.mem_range.mp hx)
    have hy : y ∈ p := h.mem (by rw [← h.len]; exact List.mem_range.mp hy)
    have h1 := List.getElem_idxOf (List.idxOf_lt_length_iff.mpr hx)
    have h2 := List.getElem_idxOf (List.idxOf_lt_length_iff.mpr hy)
    simp only [e] at h1
    exact h1.symm.trans h2
  · unfold L3.inv at hx
    obtain ⟨v, hv, rfl⟩ := List.mem_map.mp hx
    rw [← h.len]
    exact List.idxOf_lt_length_iff.mpr (h.mem (by rw [← h.len]; exact List.mem_range.mp hv))
end
end L3
set_option maxHeartbeats 4000000
/-! S4: cycles. -/
namespace L3
open PySem L2
def cycC (s : List Nat × Nat × Nat) : Bool := decide (s.2.1 ∈ s.1)
def cycN (p : List Nat) (s : List Nat × Nat × Nat) : List Nat × Nat × Nat := (s.1.erase s.2.1, gt p s.2.1, s.2.2 + 1)
def outC (s : List Nat × List Nat) : Bool := !s.1.isEmpty
def outN (p : List Nat) (s : List Nat × List Nat) : List Nat × List Nat := match loopF cycC (cycN p) 6 (s.1, gt s.1 0, 0) with
  | some r => (r.1, s.2 ++ [r.2.2])
  | none => s
def cycles (p : List Nat) : Option (List Nat) := (loopF outC (outN p) 6 (List.range p.length, [])).map (·.2)
theorem inner_some (p : List Nat) : ∀ (k : Nat) (s : List Nat × Nat × Nat), s.1.length ≤ k → ∃ r, loopF cycC (cycN p) k s = some r ∧ r.1.length ≤ s.1.length ∧ (cycC s = true → r.1.length < s.1.length) ∧ ∀ x ∈ r.1, x ∈ s.1
  | 0, s, h => by
    have e : s.1 = [] := List.length_eq_zero_iff.mp (by omega)
    have q : cycC s = false := by unfold cycC; rw [e]; simp
    refine ⟨s, by unfold loopF; rw [q]; rfl, Nat.le_refl _, fun z => (by rw [q] at z; cases z), fun _ h => h⟩
  | k + 1, s, h => by
    unfold loopF
    cases q : cycC s with
    | false => exact ⟨s, by simp, Nat.le_refl _, fun z => (by cases z), fun _ h => h⟩
    | true =>
      have hm : s.2.1 ∈ s.1 := of_decide_eq_true q
      have hp : 0 < s.1.length := List.length_pos_of_mem hm
      have hl : (cycN p s).1.length = s.1.length - 1 := List.length_erase_of_mem hm
      obtain ⟨r, h1, h2, _, h4⟩ := inner_some p k (cycN p s) (by omega)
      refine ⟨r, by rw [if_pos rfl]; exact h1, by omega, fun _ => by omega, fun x hx => List.mem_of_mem_erase (h4 x hx)⟩
section
variable {n : Nat} {p q : List Nat} {st : Store} {env : Ev}
theorem mem_nat (x : Nat) (l : List Nat) : decide ((x : Int) ∈ nat l) = decide (x ∈ l) := by
  have : ((x : Int) ∈ nat l) ↔ x ∈ l := by
    unfold nat
    rw [List.mem_map]
    exact ⟨fun ⟨y, hy, e⟩ => by have : y = x := by omega
                                rw [← this]; exact hy, fun h => ⟨x, h, rfl⟩⟩
  simp only [this]
theorem erase_nat (x : Nat) (l : List Nat) : (nat l).erase (x : Int) = nat (l.erase x) := by
  induction l with
  | nil => rfl
  | cons y l ih =>
    show ((y : Int) :: nat l).erase (x : Int) = _
    by_cases h : y = x
    · subst h; rw [List.erase_cons_head, List.erase_cons_head]
    · rw [List.erase_cons_tail (by simpa using fun e : (y : Int) = x => h (by omega)), ih, List.erase_cons_tail (by simpa using h)]
      rfl
theorem neLs_nil (a : List Int) : neLs (di a) [] st = .ok (.bl (!decide (a = []))) st := neLs_ints a []
theorem gt_head {l : List Nat} (h : l ≠ []) : gt l 0 ∈ l := by
  cases l with
  | nil => exact absurd rfl h
  | cons x r => exact List.mem_cons_self
theorem cycle_lengths_ap (h : Pm n p) {c : List Nat} (hc : cycles p = some c) : G.m_cycle_lengths [pD p] st = .ok (di (nat c)) st := by
  have hl := h.len
  have h6 := h.hi
  unfold cycles at hc
  rw [Option.map_eq_some_iff] at hc
  obtain ⟨⟨l0, c'⟩, hrun, rfl⟩ := hc
  have W := while_run (c := (un1 toB (bin (viaL neLs) (getV 1) (onA mkLst nilA)))) (b := (seqM (parS 3 4 (consA (bin ixV (getV 1) (cst (.int 0))) (consA (cst (.int 0)) nilA))) (seqM (whileM (un1 toB (bin inQ (getV 3) (un1 readQ (getV 1)))) (seqM (dropS (metM removeM (getV 1) (getV 3))) (parS 3 4 (consA (bin ixV (getV 0) (getV 3)) (consA (bin addI (getV 4) (cst (.int 1))) nilA)))) fuel) (dropS (metM appendM (getV 2) (getV 4)))))) (cond := outC) (next := outN p)
    (fun s env st' => (∃ a b, env = [some (pD p), some (.ref st.length), some (.ref (st.length + 1)), a, b]) ∧ st' = st ++ [.lst (di (nat s.1)), .lst (di (nat s.2))] ∧ s.1.length + s.2.length ≤ n ∧ ∀ x ∈ s.1, x < n)
    (fun s env st' hR => by
      obtain ⟨⟨a, b, rfl⟩, rfl, h1, h2⟩ := hR
      simp [mkLst_ap (st := st ++ [SObj.lst (di (nat s.1)), SObj.lst (di (nat s.2))]) (ds := []) (Nat.zero_le _), readL_ref (st := st ++ [SObj.lst (di (nat s.1)), SObj.lst (di (nat s.2))]) (n := st.length) (ds := di (nat s.1)) (by rw [app_get0]; rfl), neLs_nil]
      unfold outC
      cases s.1 <;> simp [nat])
    (fun s env st' hR hcond => by
      obtain ⟨⟨a, b, rfl⟩, rfl, h1, h2⟩ := hR
      have hne : s.1 ≠ [] := by
        unfold outC at hcond
        intro e; rw [e] at hcond; cases hcond
      have hhd := gt_head hne
      have h0 : 0 < s.1.length := List.length_pos_iff.mpr hne
      obtain ⟨r, hr, hr1, hr2, hr3⟩ := inner_some p 6 (s.1, gt s.1 0, 0) (by show s.1.length ≤ 6; omega)
      have hr2 : r.1.length < s.1.length := hr2 (by unfold cycC; exact decide_eq_true hhd)
      have V := while_run (c := (un1 toB (bin inQ (getV 3) (un1 readQ (getV 1))))) (b := (seqM (dropS (metM removeM (getV 1) (getV 3))) (parS 3 4 (consA (bin ixV (getV 0) (getV 3)) (consA (bin addI (getV 4) (cst (.int 1))) nilA))))) (cond := cycC) (next := cycN p)
        (fun t env st' => env = [some (pD p), some (.ref st.length), some (.ref (st.length + 1)), some (.int (t.2.1 : Nat)), some (.int (t.2.2 : Nat))] ∧ st' = st ++ [.lst (di (nat t.1)), .lst (di (nat s.2))] ∧ t.2.1 < n)
        (fun t env st' hR => by
          obtain ⟨rfl, rfl, h3⟩ := hR
          simp [readQ_ref (st := st ++ [SObj.lst (di (nat t.1)), SObj.lst (di (nat s.2))]) (n := st.length) (ds := di (nat t.1)) (by rw [app_get0]; rfl)]
          have := mem_nat t.2.1 t.1
          simpa [cycC] using this)
        (fun t env st' hR hcd => by
          obtain ⟨rfl, rfl, h3⟩ := hR
          have hm : t.2.1 ∈ t.1 := of_decide_eq_true hcd
          have hmi : ((t.2.1 : Nat) : Int) ∈ nat t.1 := of_decide_eq_true (by rw [mem_nat]; exact decide_eq_true hm)
          have e1 := readL_ref (st := st ++ [SObj.lst (di (nat t.1)), SObj.lst (di (nat s.2))]) (n := st.length) (ds := di (nat t.1)) (by rw [app_get0]; rfl)
          have e2 := removeM_ap (st := st ++ [SObj.lst (di (nat t.1)), SObj.lst (di (nat s.2))]) (n := st.length) (k := ((t.2.1 : Nat) : Int)) (ns := nat t.1) (by rw [app_get0]; rfl) hmi
          rw [erase_nat, app_set0] at e2
          have e3 := ix_pD (p := p) (x := t.2.1) (st := st ++ [SObj.lst (di (nat (t.1.erase t.2.1))), SObj.lst (di (nat s.2))]) (by omega)
          refine ⟨_, _, ?_, ⟨rfl, rfl, h.lt (getD_mem (by omega))⟩⟩
          simp [e1, e2, e3, pD_readQ, cycN])
        6 fuel (s.1, gt s.1 0, 0) r [some (pD p), some (.ref st.length), some (.ref (st.length + 1)), some (.int (gt s.1 0 : Nat)), some (.int (0 : Nat))] (st ++ [SObj.lst (di (nat s.1)), SObj.lst (di (nat s.2))]) (by unfold fuel; omega) hr ⟨rfl, rfl, h2 _ hhd⟩
      obtain ⟨e, st', q1, ⟨rfl, rfl, q4⟩, _⟩ := V
      have hN : outN p s = (r.1, s.2 ++ [r.2.2]) := by unfold outN; rw [hr]
      have e1 := readQ_ref (st := st ++ [SObj.lst (di (nat s.1)), SObj.lst (di (nat s.2))]) (n := st.length) (ds := di (nat s.1)) (by rw [app_get0]; rfl)
      have e2 : ixQ (di (nat s.1)) (.int 0) (st ++ [SObj.lst (di (nat s.1)), SObj.lst (di (nat s.2))]) = .ok (.int (gt s.1 0 : Nat)) _ := ix_pD (p := s.1) (x := 0) h0
      have e3 := readL_ref (st := st ++ [SObj.lst (di (nat r.1)), SObj.lst (di (nat s.2))]) (n := st.length + 1) (ds := di (nat s.2)) (by rw [app_get]; rfl)
      have e4 := appendM_ap (st := st ++ [SObj.lst (di (nat r.1)), SObj.lst (di (nat s.2))]) (n := st.length + 1) (ds := di (nat s.2)) (y := .int (r.2.2 : Nat)) (by rw [app_get]; rfl) (by simp; unfold line; omega)
      rw [app_set] at e4
      refine ⟨_, st ++ [SObj.lst (di (nat r.1)), SObj.lst (di (nat s.2) ++ [.int (r.2.2 : Nat)])], ?_, ⟨⟨some (.int (r.2.1 : Nat)), some (.int (r.2.2 : Nat)), rfl⟩, ?_, ?_, ?_⟩⟩
      · rw [show ((0 : Nat) : Int) = 0 from rfl] at q1
        simp [e1, e2, q1, e3, e4]
      · rw [hN]
        unfold di nat
        simp
      · rw [hN]
        simp
        omega
      · rw [hN]
        exact fun x hx => h2 x (hr3 x hx))
    6 fuel (List.range p.length, []) (l0, c') [some (pD p), some (.ref st.length), some (.ref (st.length + 1)), none, none] (st ++ [SObj.lst (di (nat (List.range p.length))), SObj.lst (di (nat []))]) (by unfold fuel; omega) hrun ⟨⟨_, _, rfl⟩, rfl, by simp; omega, fun x hx => by rw [← hl]; exact List.mem_range.mp hx⟩
  obtain ⟨e, st', q1, ⟨⟨a, b, rfl⟩, rfl, _, _⟩, _⟩ := W
  refine fnL_app (b := G.b_cycle_lengths) (j := [.lst (di (nat l0))]) (j' := []) ?_ (lowL_di _ _)
  unfold G.b_cycle_lengths
  have r1 := rangeL1_ap (st := st) (j := (p.length : Int)) (okRg_small (by omega))
  rw [rgI_nat] at r1
  have m0 := mkLst_ap (st := st ++ [SObj.lst (di (nat (List.range p.length)))]) (ds := []) (Nat.zero_le _)
  simp [pD_readQ, r1, m0]
  rw [show SObj.lst [] = SObj.lst (di (nat [])) from rfl, q1]
  simp
end
end L3
set_option maxHeartbeats 4000000
/-! S5: patterns, orders, parity. -/
namespace L3
open PySem L2
section
variable {n : Nat} {p q : List Nat} {st : Store} {env : Ev}
theorem cycle_pattern_ap (h : Pm n p) {c : List Nat} (hc : cycles p = some c) (hl : c.length ≤ 1000) : G.m_cycle_pattern [pD p] st = .ok (.tup (di (sortI (nat c)))) st := by
  refine fnV_same (b := G.b_cycle_pattern) ?_
  unfold G.b_cycle_pattern
  simp [check_permutation_ap h, cycle_lengths_ap h hc, sortQ_di (st := st) (ns := nat c) (by simp; unfold line; omega)]
def ordC (n : Nat) (s : List Nat × Nat) : Bool := !decide (s.1 = List.range n)
def ordN (p : List Nat) (s : List Nat × Nat) : List Nat × Nat := (comp s.1 p, s.2 + 1)
def order (p : List Nat) : Option Nat := (loopF (ordC p.length) (ordN p) 6 (p, 1)).map (·.2)
theorem neD_pD (a b : List Nat) : neD (pD a) (pD b) st = .ok (.bl (!decide (a = b))) st := by
  unfold pD
  rw [neD_tup]
  have : (nat a = nat b) ↔ a = b := ⟨nat_inj, fun e => by rw [e]⟩
  simp only [this]
theorem order_ap (h : Pm n p) {k : Nat} (hk : order p = some k) : G.m_permutation_order [pD p] st = .ok (.int (k : Nat)) st := by
  have hl := h.len
  have h6 := h.hi
  unfold order at hk
  rw [Option.map_eq_some_iff] at hk
  obtain ⟨⟨w, k'⟩, hrun, rfl⟩ := hk
  have W := while_run (c := (un1 toB (bin neD (getV 1) (un1 rangeT1 (un1 lenQ (un1 readQ (getV 0))))))) (b := (parS 1 2 (consA (callM G.m_product_of 2 (consA (getV 1) (consA (getV 0) nilA))) (consA (bin addI (getV 2) (cst (.int 1))) nilA)))) (cond := ordC p.length) (next := ordN p)
    (fun s env st' => env = [some (pD p), some (pD s.1), some (.int (s.2 : Nat))] ∧ st' = st ∧ Pm n s.1)
    (fun s env st' hR => by
      obtain ⟨rfl, rfl, h1⟩ := hR
      have r1 := rangeT1_ap (st := st') (j := (p.length : Int)) (okRg_small (by omega))
      rw [rgI_nat] at r1
      have e := neD_pD (st := st') s.1 (List.range p.length)
      unfold pD at e
      simp [pD_readQ, r1]
      show andThen (neD (.tup (di (nat s.1))) (.tup (di (nat (List.range p.length)))) st') toB = _
      rw [e]
      rfl)
    (fun s env st' hR hc => by
      obtain ⟨rfl, rfl, h1⟩ := hR
      refine ⟨[some (pD p), some (pD (comp s.1 p)), some (.int ((s.2 + 1 : Nat) : Int))], _, ?_, ⟨rfl, rfl, h1.comp h⟩⟩
      simp [product_of_ap h1.line (h1.lt' h)])
    6 fuel (p, 1) (w, k') [some (pD p), some (pD p), some (.int (1 : Nat))] st (by unfold fuel; omega) hrun ⟨rfl, rfl, h⟩
  obtain ⟨e, st', q1, ⟨rfl, rfl, _⟩, _⟩ := W
  refine fnV_same (b := G.b_permutation_order) ?_
  unfold G.b_permutation_order
  rw [show ((1 : Nat) : Int) = 1 from rfl] at q1
  simp [check_permutation_ap h, q1]
def evenB (c : List Nat) : Bool := decide ((c.filter fun m => decide (m % 2 = 0)).length % 2 = 0)
theorem is_even_ap (h : Pm n p) {c : List Nat} (hc : cycles p = some c) (hl : c.length ≤ 1000) : G.m_is_even [pD p] st = .ok (.bl (evenB c)) st := by
  refine fnV_same (b := G.b_is_even) ?_
  unfold G.b_is_even
  have lc := lc_okL (st := st) (env := [some (pD p), none]) (nxt := itL (di (nat c))) (l := c) (enc := fun m : Nat => D.int (m : Int)) (mi := un1 iterL (callM G.m_cycle_lengths 1 (consA (getV 0) nilA))) (asg := asgN 1) (tt := un1 toB (bin eqD (bin andI (getV 1) (cst (.int 1))) (cst (.int 0)))) (el := getV 1) (vs := [1])
    (fun m => decide (m % 2 = 0)) (fun m => .int (m : Nat)) (by simp [cycle_lengths_ap h hc]) (fun i => by
      show some (di (nat c))[i]? = _
      unfold di nat
      rw [List.map_map]
      rfl) (by unfold line; omega) (fun m _ => by
      have e1 : Builtin.bitAnd (m : Int) 1 = ((m % 2 : Nat) : Int) := by rw [PyProof.Rows.bitAnd_m1]; omega
      have e2 : (((m % 2 : Nat) : Int) = 0) ↔ (m % 2 = 0) := by omega
      refine ⟨[some (pD p), some (.int (m : Int))], rfl, ?_, fun _ => ?_⟩
      · simp only [un1_ap, bin_ap, bnd_eq, getV_eq, optM_some, andThen_ok, List.getElem?_cons_zero, List.getElem?_cons_succ, andI_ap, cst_ap, eqD_int, toB_ap, e1, e2]
      · simp only [getV_eq, List.getElem?_cons_zero, List.getElem?_cons_succ, optM_some])
  have e3 : Builtin.bitAnd ((((c.filter fun m => decide (m % 2 = 0)).map fun m : Nat => D.int (m : Int)).length : Nat) : Int) 1 = (((c.filter fun m => decide (m % 2 = 0)).length % 2 : Nat) : Int) := by rw [PyProof.Rows.bitAnd_m1, List.length_map]; omega
  have e4 : ((((c.filter fun m => decide (m % 2 = 0)).length % 2 : Nat) : Int) = 0) ↔ ((c.filter fun m => decide (m % 2 = 0)).length % 2 = 0) := by omega
  have ee : ([some (pD p)] ++ List.replicate (2 - (0 + 1)) none : Ev) = [some (pD p), none] := rfl
  simp only [seqM_ap, dropS_ap, callM_ap, consA_ap, nilA_ap, quiet_ap, retS_ap, env0_eq, un1_ap, bin_ap, bnd_eq, List.map_cons, List.map_nil, List.length_cons, List.length_nil, ee, getV_eq, List.getElem?_cons_zero, optM_some, andThen_ok, ret_ap, ite_ap, Nat.zero_add, if_true, check_permutation_ap h, quietR_ok, thenS_nx, lc, lenQ_ap, cst_ap, andI_ap, e3, eqD_int, e4]
  rfl
def turnB (p : List Nat) (k : Nat) : Bool := decide (k / p.length < k % p.length) && decide (gt p (k % p.length) < gt p (k / p.length))
def turned (p : List Nat) : Nat := ((List.range (p.length * p.length)).filter (turnB p)).length
theorem turned_ap (h : Pm n p) : G.m__law_turned [pD p] st = .ok (.int (turned p : Nat)) st := by
  have hl := h.len
  have h6 := h.hi
  have h1 := h.lo
  refine fnV_same (b := G.b__law_turned) ?_
  unfold G.b__law_turned
  have hm : mulI (.int (p.length : Int)) (.int (p.length : Int)) st = .ok (.int ((p.length * p.length : Nat) : Int)) st := by
    rw [mulI_ap]
    · congr 2
    · unfold small64
      have a : -(2 ^ 64) < (p.length : Int) := Int.lt_of_lt_of_le (by decide) (Int.natCast_nonneg _)
      have b : (p.length : Int) < 2 ^ 64 := Int.lt_of_le_of_lt (Int.ofNat_le.mpr (by omega : p.length ≤ 6)) (by decide)
      simp only [a, b, decide_true, Bool.and_self, Bool.or_self]
  have hsq : p.length * p.length ≤ 36 := Nat.mul_le_mul (by omega : p.length ≤ 6) (by omega : p.length ≤ 6)
  have ho : okR ((p.length * p.length : Nat) : Int) = true := by
    unfold okR
    have a : -(2 ^ 62) ≤ ((p.length * p.length : Nat) : Int) := Int.le_trans (by decide) (Int.natCast_nonneg _)
    have b : ((p.length * p.length : Nat) : Int) < 2 ^ 62 := Int.lt_of_le_of_lt (Int.ofNat_le.mpr hsq) (by decide)
    simp only [a, b, decide_true, Bool.and_self]
  have lc := lc_okL (st := st) (env := [some (pD p), none]) (nxt := itR 0 (p.length * p.length)) (l := List.range (p.length * p.length)) (enc := fun k : Nat => D.int (0 + (k : Int))) (mi := un1 iterR1 (bin mulI (un1 lenQ (un1 readQ (getV 0))) (un1 lenQ (un1 readQ (getV 0))))) (asg := asgN 1)
    (tt := andB (un1 toB (bin ltI (bin fdivI (getV 1) (un1 lenQ (un1 readQ (getV 0)))) (bin modI (un1 intV (getV 1)) (un1 lenQ (un1 readQ (getV 0)))))) (un1 toB (bin gtI (bin ixV (getV 0) (bin fdivI (getV 1) (un1 lenQ (un1 readQ (getV 0))))) (bin ixV (getV 0) (bin modI (un1 intV (getV 1)) (un1 lenQ (un1 readQ (getV 0)))))))) (el := cst (.int 1)) (vs := [1])
    (turnB p) (fun _ => .int 1) (by
        have := iterR1_ap (st := st) ho
        rw [Int.toNat_natCast] at this
        simp only [un1_ap, bin_ap, bnd_eq, getV_eq, optM_some, andThen_ok, pD_readQ, lenQ_ap, di_length, nat_length, hm, List.getElem?_cons_zero, this]) (itR_list 0 _) (by rw [List.length_range]; unfold line; omega) (fun k hk => by
      have hk : k < p.length * p.length := List.mem_range.mp hk
      have hp0 : (p.length : Int) ≠ 0 := by omega
      have hpa : (p.length : Int).natAbs < 1073741824 := by rw [Int.natAbs_natCast]; omega
      have f1 : fdivI (.int (k : Int)) (.int (p.length : Int)) st = .ok (.int ((k / p.length : Nat) : Int)) st := by rw [fdivI_ap hp0 hpa, Int.ofNat_fdiv]
      have f2 : modI (.int (k : Int)) (.int (p.length : Int)) st = .ok (.int ((k % p.length : Nat) : Int)) st := by rw [modI_ap hp0, Int.ofNat_fmod]
      have hd : k / p.length < p.length := Nat.div_lt_of_lt_mul hk
      have hm' : k % p.length < p.length := Nat.mod_lt _ (by omega)
      have i1 := ix_pD (st := st) hd
      have i2 := ix_pD (st := st) hm'
      refine ⟨[some (pD p), some (.int (0 + (k : Int)))], rfl, ?_, fun _ => rfl⟩
      simp only [andB_ap, un1_ap, bin_ap, bnd_eq, getV_eq, optM_some, andThen_ok, pD_readQ, lenQ_ap, di_length, nat_length, List.getElem?_cons_zero, List.getElem?_cons_succ, Int.zero_add, f1, f2, intV_ap, ltI_ap, toB_ap]
      unfold turnB
      have c0 : (((k / p.length : Nat) : Int) < ((k % p.length : Nat) : Int)) ↔ k / p.length < k % p.length := Int.ofNat_lt
      have c2 : (((gt p (k % p.length) : Nat) : Int) < ((gt p (k / p.length) : Nat) : Int)) ↔ gt p (k % p.length) < gt p (k / p.length) := Int.ofNat_lt
      simp only [c0]
      cases decide (k / p.length < k % p.length) with
      | true =>
        simp only [if_true, Bool.true_and, un1_ap, bin_ap, bnd_eq, getV_eq, optM_some, andThen_ok, pD_readQ, lenQ_ap, di_length, nat_length, List.getElem?_cons_zero, List.getElem?_cons_succ, Int.zero_add, f1, f2, intV_ap, gtI_ap, toB_ap, ixV_ap, i1, i2, c2]
      | false => rfl)
  have ee : ([some (pD p)] ++ List.replicate (2 - (0 + 1)) none : Ev) = [some (pD p), none] := rfl
  simp only [retS_ap, env0_eq, un1_ap, bnd_eq, List.map_cons, List.map_nil, List.length_cons, List.length_nil, ee, lc, andThen_ok, lenQ_ap, ret_ap, List.length_map]
  rfl
end
end L3
set_option maxHeartbeats 4000000
/-! S6: the law's own cycle lengths; what is the same. -/
namespace L3
open PySem L2
theorem okR_small {n : Nat} (h : n ≤ 16777216) : okR (n : Int) = true := by
  unfold okR
  have a : -(2 ^ 62) ≤ (n : Int) := Int.le_trans (by decide) (Int.natCast_nonneg _)
  have b : (n : Int) < 2 ^ 62 := Int.lt_of_le_of_lt (Int.ofNat_le.mpr h) (by decide)
  simp only [a, b, decide_true, Bool.and_self]
/-! ### walks -/
def lastN (w : List Nat) : Nat := w.getLast?.getD 0
def walkC (p : List Nat) (start : Nat) (w : List Nat) : Bool := !decide (gt p (lastN w) = start)
def walkN (p : List Nat) (w : List Nat) : List Nat := w ++ [gt p (lastN w)]
def walk (p : List Nat) (start : Nat) : Option (List Nat) := loopF (walkC p start) (walkN p) 6 [start]
def leastN : Nat → List Nat → Nat
  | m, [] => m
  | m, x :: r => leastN (if x < m then x else m) r
def lensGo (p : List Nat) : List Nat → List Nat → Option (List Nat)
  | [], acc => some acc
  | s :: r, acc => match walk p s with
    | some w => lensGo p r (if leastN (w.headD 0) w.tail = s then acc ++ [w.length] else acc)
    | none => none
def lens (p : List Nat) : Option (List Nat) := lensGo p (List.range p.length) []
section
variable {n : Nat} {p q : List Nat} {st : Store} {env : Ev}
theorem leastOf_nat : ∀ (r : List Nat) (m : Nat), leastOf (m : Int) (nat r) = ((leastN m r : Nat) : Int)
  | [], m => rfl
  | x :: r, m => by
    show leastOf (if (x : Int) < (m : Int) then (x : Int) else (m : Int)) (nat r) = _
    unfold leastN
    rw [← leastOf_nat r]
    congr 1
    by_cases h : x < m
    · rw [if_pos h, if_pos (by omega)]
    · rw [if_neg h, if_neg (by omega)]
theorem last_ix {w : List Nat} (h : w ≠ []) : ixQ (di (nat w)) (.int (-1)) st = .ok (.int (lastN w : Nat)) st := by
  refine ixQ_ap ?_
  have e : di (nat w) = di (nat w.dropLast) ++ [.int (lastN w : Nat)] := by
    have : w = w.dropLast ++ [lastN w] := by
      have := List.dropLast_concat_getLast h
      rw [← this]
      unfold lastN
      simp
    conv => lhs; rw [this]
    unfold di nat
    simp
  rw [e]
  exact atI_last _ _
def WalkOk (n : Nat) (w : List Nat) : Prop := w ≠ [] ∧ ∀ x ∈ w, x < n
theorem lastN_mem {w : List Nat} (h : w ≠ []) : lastN w ∈ w := by
  unfold lastN
  rw [List.getLast?_eq_getLast h]
  exact List.getLast_mem h
theorem while_runI {σ : Type} {c : Ev → M Bool} {b : Ev → M Out} {cond : σ → Bool} {next : σ → σ} (B : Nat) (Rl : Nat → σ → Ev → Store → Prop)
    (hc : ∀ i s env st, Rl i s env st → c env st = .ok (cond s) st) (hb : ∀ i s env st, i < B → Rl i s env st → cond s = true → ∃ e st', b env st = .ok (.nx e) st' ∧ Rl (i + 1) (next s) e st') :
    ∀ (n m i : Nat) (s s' : σ) (env : Ev) (st : Store), n < m → i + n ≤ B → loopF cond next n s = some s' → Rl i s env st → ∃ j e st', whileM c b m env st = .ok (.nx e) st' ∧ Rl j s' e st' ∧ cond s' = false := by
  intro n
  induction n with
  | zero =>
    intro m i s s' env st hm hB h R
    unfold loopF at h
    cases q : cond s with
    | true => rw [q] at h; cases h
    | false =>
      rw [q] at h
      cases h
      cases m with
      | zero => omega
      | succ m =>
        unfold whileM
        rw [bnd_ok (hc i s env st R), q]
        exact ⟨i, _, _, rfl, R, rfl⟩
  | succ n ih =>
    intro m i s s' env st hm hB h R
    unfold loopF at h
    cases m with
    | zero => omega
    | succ m =>
      unfold whileM
      rw [bnd_ok (hc i s env st R)]
      cases q : cond s with
      | true =>
        rw [q] at h
        obtain ⟨e, st', q1, q2⟩ := hb i s env st (by omega) R q
        rw [if_pos rfl, bnd_ok q1]
        exact ih m (i + 1) _ s' e st' (by omega) (by omega) h q2
      | false =>
        rw [q] at h
        cases h
        exact ⟨i, _, _, rfl, R, q⟩
theorem law_walk_ap (h : Pm n p) {start : Nat} (hs : start < n) {w : List Nat} (hw : walk p start = some w) (N : D) :
    whileM (un1 toB (bin neD (bin ixV (getV 0) (bin ixV (getV 3) (un1 negI (cst (.int 1))))) (getV 2))) (dropS (metM appendM (getV 3) (bin ixV (getV 0) (bin ixV (getV 3) (un1 negI (cst (.int 1))))))) fuel
      [some (pD p), some N, some (.int (start : Nat)), some (.ref (st.length))] (st ++ [.lst (di (nat [start]))]) = .ok (.nx [some (pD p), some N, some (.int (start : Nat)), some (.ref (st.length))]) (st ++ [.lst (di (nat w))]) ∧ WalkOk n w ∧ w.length ≤ 7 := by
  have hl := h.len
  have h6 := h.hi
  have W := while_runI (c := un1 toB (bin neD (bin ixV (getV 0) (bin ixV (getV 3) (un1 negI (cst (.int 1))))) (getV 2))) (b := dropS (metM appendM (getV 3) (bin ixV (getV 0) (bin ixV (getV 3) (un1 negI (cst (.int 1))))))) (cond := walkC p start) (next := walkN p) 6
    (fun i s env st' => env = [some (pD p), some N, some (.int (start : Nat)), some (.ref (st.length))] ∧ st' = st ++ [.lst (di (nat s))] ∧ WalkOk n s ∧ s.length = i + 1 ∧ i ≤ 6)
    (fun i s env st' hR => by
      obtain ⟨rfl, rfl, h1, h2, h3⟩ := hR
      have e1 := readQ_ref (st := st ++ [SObj.lst (di (nat s))]) (n := st.length) (ds := di (nat s)) (by rw [app_get0]; rfl)
      have e2 := last_ix (st := st ++ [SObj.lst (di (nat s))]) h1.1
      have e3 := ix_pD (st := st ++ [SObj.lst (di (nat s))]) (p := p) (x := lastN s) (by rw [hl]; exact h1.2 _ (lastN_mem h1.1))
      have e4 : (((gt p (lastN s) : Nat) : Int) = (start : Int)) ↔ gt p (lastN s) = start := by omega
      simp only [un1_ap, bin_ap, bnd_eq, getV_eq, optM_some, andThen_ok, List.getElem?_cons_zero, List.getElem?_cons_succ, cst_ap, negI_ap, ixV_ap, pD_readQ, e1, e2, e3, neD_int, toB_ap, e4]
      rfl)
    (fun i s env st' hi hR _ => by
      obtain ⟨rfl, rfl, h1, h2, h3⟩ := hR
      have e1 := readQ_ref (st := st ++ [SObj.lst (di (nat s))]) (n := st.length) (ds := di (nat s)) (by rw [app_get0]; rfl)
      have e0 := readL_ref (st := st ++ [SObj.lst (di (nat s))]) (n := st.length) (ds := di (nat s)) (by rw [app_get0]; rfl)
      have e2 := last_ix (st := st ++ [SObj.lst (di (nat s))]) h1.1
      have hx : lastN s < p.length := by rw [hl]; exact h1.2 _ (lastN_mem h1.1)
      have e3 := ix_pD (st := st ++ [SObj.lst (di (nat s))]) hx
      have e4 := appendM_ap (st := st ++ [SObj.lst (di (nat s))]) (n := st.length) (ds := di (nat s)) (y := .int (gt p (lastN s) : Nat)) (by rw [app_get0]; rfl) (by rw [di_length, nat_length]; unfold line; omega)
      rw [app_set0] at e4
      refine ⟨[some (pD p), some N, some (.int (start : Nat)), some (.ref (st.length))], st ++ [SObj.lst (di (nat (walkN p s)))], ?_, rfl, rfl, ⟨by unfold walkN; simp, fun x hx' => ?_⟩, by unfold walkN; simp; omega, by omega⟩
      · simp only [dropS_ap, metM_ap, un1_ap, bin_ap, bnd_eq, getV_eq, optM_some, andThen_ok, List.getElem?_cons_zero, List.getElem?_cons_succ, cst_ap, negI_ap, ixV_ap, pD_readQ, e0, e1, e2, e3, e4, ret_ap]
        unfold walkN di nat
        simp
      · unfold walkN at hx'
        rcases List.mem_append.mp hx' with q | q
        · exact h1.2 x q
        · rw [List.mem_singleton] at q
          rw [q]
          exact h.lt (getD_mem hx))
    6 fuel 0 [start] w [some (pD p), some N, some (.int (start : Nat)), some (.ref (st.length))] (st ++ [.lst (di (nat [start]))]) (by unfold fuel; omega) (by omega) hw ⟨rfl, rfl, ⟨by simp, by simpa using hs⟩, rfl, by omega⟩
  obtain ⟨j, e, st', q1, ⟨rfl, rfl, q2, q3, q4⟩, _⟩ := W
  exact ⟨q1, q2, by omega⟩
theorem minQ_nat {w : List Nat} (h : w ≠ []) : minQ (di (nat w)) st = .ok (.int (leastN (w.headD 0) w.tail : Nat)) st := by
  cases w with
  | nil => exact absurd rfl h
  | cons x r =>
    unfold minQ
    rw [intsOf_di]
    show Res.ok (D.int (leastOf (x : Int) (nat r))) st = _
    rw [leastOf_nat]
    rfl
/-- lensGo's state behind i starts -/
def lensAt (p : List Nat) (i : Nat) (acc : List Nat) : Prop := ∀ r, lensGo p (List.range p.length) [] = some r → lensGo p ((List.range p.length).drop i) acc = some r
theorem law_lengths_ap (h : Pm n p) {c : List Nat} (hc : lens p = some c) : G.m__law_lengths [pD p] st = .ok (.tup (di (sortI (nat c)))) st := by
  have hl := h.len
  have h6 := h.hi
  have hf := for_all (st := st ++ [.lst (di (nat []))]) (env := [some (pD p), some (.ref st.length), none, none]) (nxt := itR 0 n) (ds := (List.range n).map fun k : Nat => D.int (0 + (k : Int))) (mi := un1 iterR1 (un1 lenQ (un1 readQ (getV 0)))) (asg := asgN 2)
    (body := (seqM (setS 3 (un1 alloc (onA mkLst (consA (getV 2) nilA)))) (seqM (whileM (un1 toB (bin neD (bin ixV (getV 0) (bin ixV (getV 3) (un1 negI (cst (.int 1))))) (getV 2))) (dropS (metM appendM (getV 3) (bin ixV (getV 0) (bin ixV (getV 3) (un1 negI (cst (.int 1))))))) fuel) (ifS (un1 toB (bin eqD (un1 minQ (un1 readL (getV 3))) (getV 2))) (dropS (metM appendM (getV 1) (un1 lenQ (un1 readQ (getV 3))))) nilS))))
    (fun i env st' => i ≤ n ∧ ∃ a b acc j, env = [some (pD p), some (.ref st.length), a, b] ∧ st' = st ++ (.lst (di (nat acc)) :: j) ∧ acc.length ≤ i ∧ lensGo p ((List.range p.length).drop i) acc = some c)
    (by
      have := iterR1_ap (st := st ++ [.lst (di (nat []))]) (j := (p.length : Int)) (okR_small (by omega))
      rw [Int.toNat_natCast, hl] at this
      simp only [un1_ap, bnd_eq, getV_eq, List.getElem?_cons_zero, optM_some, andThen_ok, pD_readQ, lenQ_ap, di_length, nat_length, hl, this])
    (by rw [List.length_map, List.length_range]; unfold line; omega) ⟨Nat.zero_le _, none, none, [], [], rfl, rfl, Nat.le_refl _, hc⟩
    (fun i env st' _ => itR_list 0 n i)
    (fun i a env st' ha hP => by
      obtain ⟨hin, x, y, acc, j, rfl, rfl, hacc, hgo⟩ := hP
      have hi : i < n := by
        have := (List.getElem?_eq_some_iff.mp ha).1
        simpa using this
      rw [List.getElem?_map, List.getElem?_range hi] at ha
      cases ha
      rw [List.drop_eq_getElem_cons (by rw [List.length_range, hl]; exact hi), List.getElem_range] at hgo
      unfold lensGo at hgo
      cases hw : walk p i with
      | none => rw [hw] at hgo; cases hgo
      | some w =>
        rw [hw] at hgo
        simp only at hgo
        obtain ⟨q1, q2, q3⟩ := law_walk_ap (st := st ++ (.lst (di (nat acc)) :: j)) h hi hw (.ref st.length)
        have e1 := readL_ref (st := st ++ (.lst (di (nat acc)) :: j) ++ [SObj.lst (di (nat w))]) (n := (st ++ (.lst (di (nat acc)) :: j)).length) (ds := di (nat w)) (by rw [app_get0]; rfl)
        have e2 := readQ_ref (st := st ++ (.lst (di (nat acc)) :: j) ++ [SObj.lst (di (nat w))]) (n := (st ++ (.lst (di (nat acc)) :: j)).length) (ds := di (nat w)) (by rw [app_get0]; rfl)
        have e3 := minQ_nat (st := st ++ (.lst (di (nat acc)) :: j) ++ [SObj.lst (di (nat w))]) q2.1
        have m1 := mkLst_ap (st := st ++ (.lst (di (nat acc)) :: j)) (ds := [.int (i : Int)]) (by unfold line; simp)
        have e4 : (((leastN (w.headD 0) w.tail : Nat) : Int) = (i : Int)) ↔ leastN (w.headD 0) w.tail = i := by omega
        have e5 := readL_ref (st := st ++ (.lst (di (nat acc)) :: j) ++ [SObj.lst (di (nat w))]) (n := st.length) (ds := di (nat acc)) (by rw [List.append_assoc, app_get0]; rfl)
        have e6 : appendM (.ref st.length) (.int (w.length : Nat)) (st ++ (.lst (di (nat acc)) :: j) ++ [SObj.lst (di (nat w))]) = .ok .non (st ++ (.lst (di (nat acc) ++ [.int (w.length : Nat)]) :: (j ++ [SObj.lst (di (nat w))]))) :=
          (appendM_ap (st := st ++ (.lst (di (nat acc)) :: j) ++ [SObj.lst (di (nat w))]) (n := st.length) (ds := di (nat acc)) (y := .int (w.length : Nat)) (by rw [List.append_assoc, app_get0]; rfl) (by rw [di_length, nat_length]; unfold line; omega)).trans (by rw [List.append_assoc, app_set0]; rfl)
        have q1 : whileM (un1 toB (bin neD (bin ixV (getV 0) (bin ixV (getV 3) (un1 negI (cst (.int 1))))) (getV 2))) (dropS (metM appendM (getV 3) (bin ixV (getV 0) (bin ixV (getV 3) (un1 negI (cst (.int 1))))))) fuel
            [some (pD p), some (.ref st.length), some (.int (i : Int)), some (.ref ((st ++ (.lst (di (nat acc)) :: j)).length))] (st ++ (.lst (di (nat acc)) :: j) ++ [.lst [.int (i : Int)]]) = _ := q1
        refine ⟨[some (pD p), some (.ref st.length), some (.int (i : Int)), y], by simp [asgN], ?_⟩
        by_cases hmin : leastN (w.headD 0) w.tail = i
        · rw [if_pos hmin] at hgo
          refine ⟨[some (pD p), some (.ref st.length), some (.int (i : Int)), some (.ref ((st ++ (.lst (di (nat acc)) :: j)).length))], st ++ (.lst (di (nat (acc ++ [w.length]))) :: (j ++ [.lst (di (nat w))])), ?_, by omega, _, _, acc ++ [w.length], _, rfl, rfl, by simp; omega, hgo⟩
          simp only [seqM_ap, setS_ap, onA_ap, consA_ap, nilA_ap, un1_ap, bin_ap, bnd_eq, getV_eq, List.getElem?_cons_zero, List.getElem?_cons_succ, optM_some, andThen_ok, ret_ap, m1, alloc_ap, List.set_cons_succ, List.set_cons_zero, thenS_nx, q1, ifS_ap, e1, e3, eqD_int, toB_ap, e4, hmin, decide_true, if_true, dropS_ap, metM_ap, e5, e2, lenQ_ap, di_length, nat_length, e6]
          congr 1
          simp [di, nat]
        · rw [if_neg hmin] at hgo
          refine ⟨[some (pD p), some (.ref st.length), some (.int (i : Int)), some (.ref ((st ++ (.lst (di (nat acc)) :: j)).length))], st ++ (.lst (di (nat acc)) :: (j ++ [.lst (di (nat w))])), ?_, by omega, _, _, acc, _, rfl, rfl, by omega, hgo⟩
          simp only [seqM_ap, setS_ap, onA_ap, consA_ap, nilA_ap, un1_ap, bin_ap, bnd_eq, getV_eq, List.getElem?_cons_zero, List.getElem?_cons_succ, optM_some, andThen_ok, ret_ap, m1, alloc_ap, List.set_cons_succ, List.set_cons_zero, thenS_nx, q1, ifS_ap, e1, e3, eqD_int, toB_ap, e4, hmin, decide_false, nilS_ap]
          congr 1
          simp)
  obtain ⟨e, st', q1, _, x, y, acc, j, rfl, rfl, q2, q3⟩ := hf
  have hlen : ((List.range n).map fun k : Nat => D.int (0 + (k : Int))).length = n := by simp
  rw [hlen] at q2 q3
  rw [List.drop_eq_nil_of_le (by rw [List.length_range]; omega)] at q3
  have hacc : acc = c := by unfold lensGo at q3; exact Option.some.inj q3
  subst hacc
  refine fnV_app (b := G.b__law_lengths) (j := .lst (di (nat acc)) :: j) ?_ (by simp [D.low, lowL_di])
  unfold G.b__law_lengths
  have m0 := mkLst_ap (st := st) (ds := []) (Nat.zero_le _)
  have e1 := readQ_ref (st := st ++ (.lst (di (nat acc)) :: j)) (n := st.length) (ds := di (nat acc)) (by rw [app_get0]; rfl)
  have e2 := sortQ_di (st := st ++ (.lst (di (nat acc)) :: j)) (ns := nat acc) (by rw [nat_length]; unfold line; omega)
  have q1 : forS _ _ _ [some (pD p), some (.ref st.length), none, none] (st ++ [.lst []]) = _ := q1
  have ee : ([some (pD p)] ++ List.replicate (4 - (0 + 1)) none : Ev) = [some (pD p), none, none, none] := rfl
  simp only [env0_eq, List.map_cons, List.map_nil, List.length_cons, List.length_nil, ee, seqM_ap, setS_ap, onA_ap, nilA_ap, un1_ap, bnd_eq, andThen_ok, ret_ap, m0, alloc_ap, List.set_cons_succ, List.set_cons_zero, thenS_nx, q1, retS_ap, getV_eq, List.getElem?_cons_zero, List.getElem?_cons_succ, optM_some, e1, e2, tupQ_ap]
end
end L3
set_option maxHeartbeats 4000000
/-! S7: the law's own defs: is_one, same, drawn, order, bent. -/
namespace L3
open PySem L2
section
variable {n : Nat} {p q : List Nat} {st : Store} {env : Ev}
theorem typed_tests {d : D} (h : Typed st d) : ∃ b1 b2, isiV d (.ty "int") st = .ok (.bl b1) st ∧ isiV d (.ty "bool") st = .ok (.bl b2) st ∧ (b1 && !b2) = isIntD d := by
  obtain ⟨s, e, h1, h2, h3⟩ := tyOf_int h
  refine ⟨kit2 s "int", kit2 s "bool", ?_, ?_, ?_⟩
  · unfold isiV; simp only [e]; rfl
  · unfold isiV; simp only [e]; rfl
  · rw [h1, h2]
    cases q : isIntD d with
    | true => have := h3 q; simp [this]
    | false => simp
theorem rg_map (n : Nat) : (List.range n).map (fun k : Nat => D.int (0 + (k : Int))) = di (rgI 0 (n : Int)) := by
  unfold di rgI
  rw [List.map_map, show ((n : Int) - 0).toNat = n by omega]
  rfl
theorem is_one_ap {d : D} (h : TypedT st d) : G.m__law_is_one [d] st = .ok (.bl (permD d)) st := by
  have ee : ([some d] ++ List.replicate (4 - (0 + 1)) none : Ev) = [some d, none, none, none] := rfl
  by_cases hd : ∃ ds, d = .tup ds
  · obtain ⟨ds, rfl⟩ := hd
    have h : ∀ x ∈ ds, Typed st x := h
    by_cases h0 : ds.length = 0
    · refine fnV_same (b := G.b__law_is_one) ?_
      unfold G.b__law_is_one
      have c0 : ((ds.length : Int) = 0) := by omega
      have p0 : permD (.tup ds) = false := by
        unfold permD
        simp [h0]
      simp only [env0_eq, List.map_cons, List.map_nil, List.length_cons, List.length_nil, ee, seqM_ap, ifS_ap, orB_ap, notB_ap, un1_ap, bin_ap, bnd_eq, getV_eq, List.getElem?_cons_zero, optM_some, andThen_ok, cst_ap, isiV_tup, toB_ap, ret_ap, Bool.not_true, Bool.false_eq_true, if_false, if_true, readQ_tup, lenQ_ap, eqD_int, c0, decide_true, retS_ap, thenS_rt, p0, ite_ap]
    · by_cases h6 : ds.length ≤ 6
      · have c0 : ¬ ((ds.length : Int) = 0) := by omega
        have c6 : ¬ ((6 : Int) < (ds.length : Int)) := by omega
        have lc := lc_ok (st := st) (env := [some (.tup ds), none, none, none]) (nxt := itV (.tup ds)) (ds := ds) (mi := un1 iterV (getV 0)) (asg := asgN 2) (tt := andB (un1 toB (bin isiV (getV 2) (cst (.ty "int")))) (notB (un1 toB (bin isiV (getV 2) (cst (.ty "bool")))))) (el := getV 2) (vs := [2]) isIntD id (by simp) (fun _ => rfl) (by unfold line; omega) (fun a ha => by
          obtain ⟨b1, b2, q1, q2, q3⟩ := typed_tests (h a ha)
          refine ⟨[some (.tup ds), none, some a, none], rfl, ?_, fun _ => ?_⟩
          · simp only [andB_ap, notB_ap, un1_ap, bin_ap, bnd_eq, getV_eq, List.getElem?_cons_zero, List.getElem?_cons_succ, optM_some, andThen_ok, cst_ap, q1, q2, toB_ap, ret_ap, ite_ap]
            rw [← q3]
            cases b1 <;> rfl
          · simp only [getV_eq, List.getElem?_cons_zero, List.getElem?_cons_succ, optM_some, id])
        rw [List.map_id] at lc
        have e1 := readQ_ref (st := st ++ [SObj.lst (ds.filter isIntD)]) (n := st.length) (ds := ds.filter isIntD) (by rw [app_get0]; rfl)
        refine fnV_app (b := G.b__law_is_one) (j := [.lst (ds.filter isIntD)]) ?_ rfl
        unfold G.b__law_is_one
        by_cases hall : ds.all isIntD = true
        · obtain ⟨ns, rfl⟩ := ints_of_all hall
          have hf : (di ns).filter isIntD = di ns := List.filter_eq_self.mpr fun a ha => List.all_eq_true.mp hall a ha
          rw [hf] at lc e1
          rw [hf]
          have hn : ns.length ≤ 6 := by simpa using h6
          have hn1 : 1 ≤ ns.length := by
            have : ¬ ns.length = 0 := by simpa using h0
            omega
          have lc2 := lc_mapL (st := st ++ [SObj.lst (di ns)]) (env := [some (.tup (di ns)), some (.ref st.length), none, none]) (nxt := itR 0 ns.length) (l := List.range ns.length) (enc := fun k : Nat => D.int (0 + (k : Int))) (mi := un1 iterR1 (un1 lenQ (un1 readQ (getV 0)))) (asg := asgN 3) (el := getV 3) (vs := [3]) (fun k => D.int (0 + (k : Int))) (by
            have := iterR1_ap (st := st ++ [SObj.lst (di ns)]) (okR_small (n := ns.length) (by omega))
            rw [Int.toNat_natCast] at this
            simp only [un1_ap, bnd_eq, getV_eq, List.getElem?_cons_zero, optM_some, andThen_ok, readQ_tup, lenQ_ap, di_length, this]) (itR_list 0 _) (by rw [List.length_range]; unfold line; omega) (fun k _ => ⟨[some (.tup (di ns)), some (.ref st.length), none, some (.int (0 + (k : Int)))], rfl, by simp only [getV_eq, List.getElem?_cons_zero, List.getElem?_cons_succ, optM_some]⟩)
          rw [rg_map] at lc2
          have e2 := sortQ_di (st := st ++ [SObj.lst (di ns)]) (ns := ns) (by unfold line; omega)
          have c0' : ¬ ((ns.length : Int) = 0) := by omega
          have c6' : ¬ ((6 : Int) < (ns.length : Int)) := by omega
          simp only [env0_eq, List.map_cons, List.map_nil, List.length_cons, List.length_nil, ee, seqM_ap, ifS_ap, orB_ap, notB_ap, un1_ap, bin_ap, bnd_eq, getV_eq, List.getElem?_cons_zero, List.getElem?_cons_succ, optM_some, andThen_ok, cst_ap, isiV_tup, toB_ap, ret_ap, Bool.not_true, Bool.false_eq_true, if_false, if_true, readQ_tup, lenQ_ap, eqD_int, gtI_ap, di_length, c0', c6', decide_false, decide_true, retS_ap, nilS_ap, thenS_nx, setS_ap, lc, alloc_ap, List.set_cons_succ, List.set_cons_zero, andV_ap, e1, e2, lc2, eqLs_ints, permD_di, hn, hn1, Bool.true_and, ite_ap]
        · have hp : permD (.tup ds) = false := by
            unfold permD
            have : ds.all isIntD = false := by simpa using hall
            simp only [this, Bool.false_and, Bool.and_false]
          have hne : ¬ (((ds.filter isIntD).length : Int) = (ds.length : Int)) := fun e => hall (by
            have e' : (ds.filter isIntD).length = ds.length := by omega
            have := List.filter_eq_self.mp (List.length_filter_eq_length_iff.mp e' |> fun h => List.filter_eq_self.mpr h)
            exact List.all_eq_true.mpr this)
          simp only [env0_eq, List.map_cons, List.map_nil, List.length_cons, List.length_nil, ee, seqM_ap, ifS_ap, orB_ap, notB_ap, un1_ap, bin_ap, bnd_eq, getV_eq, List.getElem?_cons_zero, List.getElem?_cons_succ, optM_some, andThen_ok, cst_ap, isiV_tup, toB_ap, ret_ap, Bool.not_true, Bool.false_eq_true, if_false, if_true, readQ_tup, lenQ_ap, eqD_int, gtI_ap, c0, c6, decide_false, retS_ap, nilS_ap, thenS_nx, setS_ap, lc, alloc_ap, List.set_cons_succ, List.set_cons_zero, andV_ap, e1, hne, hp, ite_ap]
      · refine fnV_same (b := G.b__law_is_one) ?_
        unfold G.b__law_is_one
        have c0 : ¬ ((ds.length : Int) = 0) := by omega
        have c6 : ((6 : Int) < (ds.length : Int)) := by omega
        have p0 : permD (.tup ds) = false := by
          unfold permD
          simp [h6]
        simp only [env0_eq, List.map_cons, List.map_nil, List.length_cons, List.length_nil, ee, seqM_ap, ifS_ap, orB_ap, notB_ap, un1_ap, bin_ap, bnd_eq, getV_eq, List.getElem?_cons_zero, optM_some, andThen_ok, cst_ap, isiV_tup, toB_ap, ret_ap, Bool.not_true, Bool.false_eq_true, if_false, if_true, readQ_tup, lenQ_ap, eqD_int, gtI_ap, c0, c6, decide_false, decide_true, retS_ap, thenS_rt, p0, ite_ap]
  · have e := not_tup (st := st) (d := d) (by cases d <;> first | exact h | exact absurd ⟨_, rfl⟩ hd) fun ds e => hd ⟨ds, e⟩
    have p0 : permD d = false := by cases d <;> first | rfl | exact absurd ⟨_, rfl⟩ hd
    refine fnV_same (b := G.b__law_is_one) ?_
    unfold G.b__law_is_one
    simp only [env0_eq, List.map_cons, List.map_nil, List.length_cons, List.length_nil, ee, seqM_ap, ifS_ap, orB_ap, notB_ap, un1_ap, bin_ap, bnd_eq, getV_eq, List.getElem?_cons_zero, optM_some, andThen_ok, cst_ap, e, toB_ap, ret_ap, Bool.not_false, if_true, retS_ap, thenS_rt, p0, ite_ap]
/-! ### the same -/
theorem same_int (k : Nat) (i : Int) : G.m__law_same_ (k + 1) [.int i, .int i] st = .ok (.bl true) st := by
  refine fnV_same (b := G.b__law_same (G.m__law_same_ k)) ?_
  unfold G.b__law_same
  simp [isi2, tyOf, okTy, kit2, isiV]
theorem same_bl (k : Nat) (i : Bool) : G.m__law_same_ (k + 1) [.bl i, .bl i] st = .ok (.bl true) st := by
  refine fnV_same (b := G.b__law_same (G.m__law_same_ k)) ?_
  unfold G.b__law_same
  simp [isi2, tyOf, okTy, kit2, isiV]
theorem boolsOf_rep : ∀ n : Nat, boolsOf (List.replicate n (D.bl true)) = some (List.replicate n true)
  | 0 => rfl
  | n + 1 => by
    show (boolsOf (List.replicate n (D.bl true))).map (true :: ·) = _
    rw [boolsOf_rep n]
    rfl
theorem same_seq (k : Nat) {g d : D} {gs ds : List D} {s : String} (hs : s = "tuple" ∨ s = "list") (tg : tyOf st g = some s) (td : tyOf st d = some s) (rg : readQ g st = .ok gs st) (rd : readQ d st = .ok ds st) (hl : gs.length = ds.length) (hz : ds.length ≤ 1000)
    (h : ∀ (i : Nat) (a b : D), gs[i]? = some a → ds[i]? = some b → G.m__law_same_ k [a, b] st = .ok (.bl true) st) : G.m__law_same_ (k + 1) [g, d] st = .ok (.bl true) st := by
  refine fnV_same (b := G.b__law_same (G.m__law_same_ k)) ?_
  unfold G.b__law_same
  have i2 : isi2 "tuple" "list" d st = .ok (.bl true) st := by
    unfold isi2
    simp only [td]
    rcases hs with rfl | rfl <;> rfl
  have il : ∃ b, isiV g (.ty "list") st = .ok (.bl b) st ∧ isiV d (.ty "list") st = .ok (.bl b) st := by
    unfold isiV
    simp only [td, tg]
    exact ⟨_, rfl, rfl⟩
  have it : ∃ b, isiV g (.ty "tuple") st = .ok (.bl b) st ∧ isiV d (.ty "tuple") st = .ok (.bl b) st := by
    unfold isiV
    simp only [td, tg]
    exact ⟨_, rfl, rfl⟩
  obtain ⟨b1, l1, l2⟩ := il
  obtain ⟨b2, t1, t2⟩ := it
  have ee : ([some g, some d] ++ List.replicate (3 - (0 + 1 + 1)) none : Ev) = [some g, some d, none] := rfl
  have lc := lc_mapL (st := st) (env := [some g, some d, none]) (nxt := itR 0 ds.length) (l := List.range ds.length) (enc := fun k : Nat => D.int (0 + (k : Int))) (mi := un1 iterR1 (un1 lenQ (un1 readQ (getV 1)))) (asg := asgN 2) (el := callM (G.m__law_same_ k) 2 (consA (bin ixV (getV 0) (getV 2)) (consA (bin ixV (getV 1) (getV 2)) nilA))) (vs := [2]) (fun _ => .bl true) (by
    have := iterR1_ap (st := st) (okR_small (n := ds.length) (by omega))
    rw [Int.toNat_natCast] at this
    simp only [un1_ap, bnd_eq, getV_eq, List.getElem?_cons_zero, List.getElem?_cons_succ, optM_some, andThen_ok, rd, lenQ_ap, this]) (itR_list 0 _) (by rw [List.length_range]; unfold line; omega) (fun i hi => by
      have hi : i < ds.length := List.mem_range.mp hi
      have h1 : gs[i]? = some gs[i] := List.getElem?_eq_getElem (by omega)
      have h2 : ds[i]? = some ds[i] := List.getElem?_eq_getElem hi
      have x1 := ixQ_ap (st := st) (atI_nat' h1)
      have x2 := ixQ_ap (st := st) (atI_nat' h2)
      refine ⟨[some g, some d, some (.int (0 + (i : Int)))], rfl, ?_⟩
      simp only [callM_ap, consA_ap, nilA_ap, bin_ap, bnd_eq, getV_eq, List.getElem?_cons_zero, List.getElem?_cons_succ, optM_some, andThen_ok, ixV_ap, rg, rd, Int.zero_add, x1, x2, ret_ap, List.length_cons, List.length_nil, Nat.zero_add, if_true, quiet_ap, h i _ _ h1 h2, quietR_ok, ite_ap])
  have al : allQ ((List.range ds.length).map fun _ => D.bl true) st = .ok (.bl true) st := by
    unfold allQ
    rw [List.map_const', List.length_range, boolsOf_rep]
    simp
  have hle : ((gs.length : Int) = (ds.length : Int)) := by omega
  simp only [env0_eq, List.map_cons, List.map_nil, List.length_cons, List.length_nil, ee, seqM_ap, ifS_ap, orB_ap, un1_ap, bin_ap, bnd_eq, getV_eq, List.getElem?_cons_zero, List.getElem?_cons_succ, optM_some, andThen_ok, cst_ap, i2, toB_ap, if_true, l1, l2, t1, t2, neD_bl, beq_self_eq_true, Bool.not_true, Bool.false_eq_true, if_false, ret_ap, nilS_ap, thenS_nx, retS_ap, andV_ap, rg, rd, lenQ_ap, eqD_int, hle, decide_true, lc, al, thenS_rt, ite_ap]
theorem same_pD (k : Nat) (hp : p.length ≤ 1000) : G.m__law_same_ (k + 2) [pD p, pD p] st = .ok (.bl true) st := by
  refine same_seq (k + 1) (s := "tuple") (.inl rfl) rfl rfl rfl rfl rfl (by simpa using hp) fun i a b ha hb => ?_
  rw [ha] at hb
  cases hb
  rw [di_get, Option.map_eq_some_iff] at ha
  obtain ⟨x, _, rfl⟩ := ha
  exact same_int k x
theorem same_tup (k : Nat) (l : List Int) (hp : l.length ≤ 1000) : G.m__law_same_ (k + 2) [.tup (di l), .tup (di l)] st = .ok (.bl true) st := by
  refine same_seq (k + 1) (s := "tuple") (.inl rfl) rfl rfl rfl rfl rfl (by simpa using hp) fun i a b ha hb => ?_
  rw [ha] at hb
  cases hb
  rw [di_get, Option.map_eq_some_iff] at ha
  obtain ⟨x, _, rfl⟩ := ha
  exact same_int k x
theorem same_list (k : Nat) {a b : Nat} {ds : List D} (ha : st[a]? = some (.lst ds)) (hb : st[b]? = some (.lst ds)) (hz : ds.length ≤ 1000) (h : ∀ d ∈ ds, G.m__law_same_ k [d, d] st = .ok (.bl true) st) : G.m__law_same_ (k + 1) [.ref a, .ref b] st = .ok (.bl true) st := by
  refine same_seq k (s := "list") (.inr rfl) (by simp only [tyOf, ha]) (by simp only [tyOf, hb]) (readQ_ref ha) (readQ_ref hb) rfl hz fun i x y hx hy => ?_
  rw [hx] at hy
  cases hy
  exact h x (List.mem_of_getElem? hx)
end
end L3
set_option maxHeartbeats 4000000
/-! S8: what is drawn. -/
namespace L3
open PySem L2
def feed (a b c d : Int) : SObj := .lst [.ref 0, .int a, .int b, .int c, .int d]
structure Fd (sc : List Int) (st : Store) (a b c d : Int) : Prop where
  h0 : st[0]? = some (.lst (di sc))
  h1 : st[1]? = some (feed a b c d)
  a0 : 0 ≤ a
  a1 : a ≤ sc.length
  b0 : 0 ≤ b
  c0 : 0 ≤ c
  c1 : c < 2147483647
section
variable {sc : List Int} {st : Store} {a b c d : Int} {env : Ev}
theorem small64_lo {i : Int} (h0 : 0 ≤ i) (h1 : i ≤ 4294967296) : small64 i = true := by
  unfold small64
  have x : -(2 ^ 64) < i := Int.lt_of_lt_of_le (by decide) h0
  have y : i < 2 ^ 64 := Int.lt_of_le_of_lt h1 (by decide)
  simp only [x, y, decide_true, Bool.and_self]
theorem Fd.two (h : Fd sc st a b c d) : 1 < st.length := (List.getElem?_eq_some_iff.mp h.h1).1
theorem Fd.set (h : Fd sc st a b c d) {a' b' c' d' : Int} (a0 : 0 ≤ a') (a1 : a' ≤ sc.length) (b0 : 0 ≤ b') (c0 : 0 ≤ c') (c1 : c' < 2147483647) : Fd sc (st.set 1 (feed a' b' c' d')) a' b' c' d' :=
  ⟨by rw [List.getElem?_set_ne (by decide)]; exact h.h0, by rw [List.getElem?_set_self h.two], a0, a1, b0, c0, c1⟩
theorem Fd.same (h : Fd sc st a b c d) : st.set 1 (feed a b c d) = st := by
  obtain ⟨i, e⟩ := List.getElem?_eq_some_iff.mp h.h1
  rw [← e, List.set_getElem_self]
theorem Fd.rq (h : Fd sc st a b c d) : readQ (.ref 1) st = .ok [.ref 0, .int a, .int b, .int c, .int d] st := readQ_ref h.h1
theorem Fd.ix (h : Fd sc st a b c d) (j : Int) (x : D) (e : atI [.ref 0, .int a, .int b, .int c, .int d] j = some x) : ixV (.ref 1) (.int j) st = .ok x st := by
  rw [ixV_ap, bnd_ok h.rq, ixQ_ap e]
theorem Fd.i0 (h : Fd sc st a b c d) : ixV (.ref 1) (.int 0) st = .ok (.ref 0) st := h.ix 0 _ rfl
theorem Fd.i1 (h : Fd sc st a b c d) : ixV (.ref 1) (.int 1) st = .ok (.int a) st := h.ix 1 _ rfl
theorem Fd.i2 (h : Fd sc st a b c d) : ixV (.ref 1) (.int 2) st = .ok (.int b) st := h.ix 2 _ rfl
theorem Fd.i3 (h : Fd sc st a b c d) : ixV (.ref 1) (.int 3) st = .ok (.int c) st := h.ix 3 _ rfl
theorem Fd.i4 (h : Fd sc st a b c d) : ixV (.ref 1) (.int 4) st = .ok (.int d) st := h.ix 4 _ rfl
theorem Fd.s1 (h : Fd sc st a b c d) (y : Int) : storeM (.ref 1) (.int 1) (.int y) st = .ok () (st.set 1 (feed y b c d)) := storeM_ap (j := 1) h.h1 rfl
theorem Fd.s2 (h : Fd sc st a b c d) (y : Int) : storeM (.ref 1) (.int 2) (.int y) st = .ok () (st.set 1 (feed a y c d)) := storeM_ap (j := 2) h.h1 rfl
theorem Fd.s3 (h : Fd sc st a b c d) (y : Int) : storeM (.ref 1) (.int 3) (.int y) st = .ok () (st.set 1 (feed a b y d)) := storeM_ap (j := 3) h.h1 rfl
theorem Fd.s4 (h : Fd sc st a b c d) (y : Int) : storeM (.ref 1) (.int 4) (.int y) st = .ok () (st.set 1 (feed a b c y)) := storeM_ap (j := 4) h.h1 rfl
theorem Fd.low (h : Fd sc st a b c d) (a' b' c' d' : Int) : (feed a' b' c' d').low st.length = true := by
  have := h.two
  simp only [feed, SObj.low, D.lowL, D.low, Bool.and_true]
  exact decide_eq_true (by omega)
theorem pow18 : powI (.int 10) (.int 18) st = .ok (.int 1000000000000000000) st := by
  unfold powI gI2
  exact (if_pos (by decide)).trans rfl
theorem fmod_lo (x : Int) {m : Int} (h : 0 < m) : 0 ≤ x.fmod m ∧ x.fmod m < m := by
  rw [Int.fmod_eq_emod_of_nonneg _ (by omega)]
  exact ⟨Int.emod_nonneg _ (by omega), Int.emod_lt_of_pos _ h⟩
theorem fdiv_lo {x m : Int} (hx : 0 ≤ x) (h : 0 < m) : 0 ≤ x.fdiv m := by
  rw [Int.fdiv_eq_ediv_of_nonneg _ (by omega)]
  exact Int.ediv_nonneg hx (by omega)
theorem drawn_ap {many : Int} (h : Fd sc st a b c d) (hm : 1 ≤ many) (hm2 : many ≤ 1000) : ∃ k a' b' c' d', G.m__law_drawn [.ref 1, .int many] st = .ok (.int k) (st.set 1 (feed a' b' c' d')) ∧ 0 ≤ k ∧ k < many ∧ Fd sc (st.set 1 (feed a' b' c' d')) a' b' c' d' := by
  have st1 : ∃ a' b' c' x y, (ifS (andB (un1 toB (bin eqD (bin ixV (getV 0) (cst (.int 2))) (cst (.int 0)))) (un1 toB (bin ltI (bin ixV (getV 0) (cst (.int 1))) (un1 lenQ (un1 readQ (bin ixV (getV 0) (cst (.int 0)))))))) (seqM (setS 2 (bin ixV (bin ixV (getV 0) (cst (.int 0))) (bin ixV (getV 0) (cst (.int 1))))) (seqM (subS (bin addI (bin ixV (getV 0) (cst (.int 1))) (cst (.int 1))) (getV 0) (cst (.int 1))) (ifS (un1 toB (bin geI (getV 2) (bin powI (cst (.int 10)) (cst (.int 18))))) (subS (bin subI (getV 2) (bin powI (cst (.int 10)) (cst (.int 18)))) (getV 0) (cst (.int 2))) (seqM (setS 3 (bin modI (un1 intV (getV 2)) (cst (.int 1000003)))) (subS (bin modI (un1 intV (bin addI (bin addI (bin mulI (bin ixV (getV 0) (cst (.int 3))) (cst (.int 31))) (bin mulI (getV 3) (getV 3))) (bin mulI (bin ixV (getV 0) (cst (.int 1))) (cst (.int 97))))) (cst (.int 998244353))) (getV 0) (cst (.int 3))))))) nilS) [some (.ref 1), some (.int many), none, none, none] st
      = .ok (.nx [some (.ref 1), some (.int many), x, y, none]) (st.set 1 (feed a' b' c' d)) ∧ Fd sc (st.set 1 (feed a' b' c' d)) a' b' c' d := by
    by_cases hb : b = 0
    · subst hb
      by_cases ha : a < (sc.length : Int)
      · have r0 := readQ_ref h.h0
        obtain ⟨j, rfl⟩ : ∃ j : Nat, a = (j : Int) := ⟨a.toNat, by have := h.a0; omega⟩
        have hj : j < sc.length := by omega
        have cx : ixQ (di sc) (.int (j : Int)) st = .ok (.int sc[j]) st := ixQ_ap (atI_nat' (by rw [di_get, List.getElem?_eq_getElem hj]; rfl))
        have F1 : Fd sc (st.set 1 (feed ((j : Int) + 1) 0 c d)) ((j : Int) + 1) 0 c d := h.set (by omega) (by omega) h.b0 h.c0 h.c1
        have cx0 : ixV (.ref 0) (.int (j : Int)) st = .ok (.int sc[j]) st := by rw [ixV_ap, bnd_ok r0, cx]
        by_cases hc : (1000000000000000000 : Int) ≤ sc[j]
        · refine ⟨(j : Int) + 1, sc[j] - 1000000000000000000, c, some (.int sc[j]), none, ?_, h.set (by omega) (by omega) (by omega) h.c0 h.c1⟩
          simp only [ifS_ap, andB_ap, un1_ap, bin_ap, bnd_eq, getV_eq, List.getElem?_cons_zero, List.getElem?_cons_succ, optM_some, andThen_ok, cst_ap, h.i2, eqD_int, decide_true, toB_ap, if_true, h.i1, h.i0, r0, lenQ_ap, di_length, ltI_ap, ha, seqM_ap, setS_ap, cx0, ret_ap, List.set_cons_succ, List.set_cons_zero, thenS_nx, subS_ap, addI_ap, h.s1, geI_ap, pow18, hc, subI_ap, F1.s2, List.set_set, ite_ap]
        · have hmx := fmod_lo sc[j] (m := 1000003) (by decide)
          have hcx := fmod_lo (c * 31 + sc[j].fmod 1000003 * sc[j].fmod 1000003 + ((j : Int) + 1) * 97) (m := 998244353) (by decide)
          have m1 : mulI (.int c) (.int 31) (st.set 1 (feed ((j : Int) + 1) 0 c d)) = .ok (.int (c * 31)) (st.set 1 (feed ((j : Int) + 1) 0 c d)) := mulI_ap (by rw [small64_lo (i := 31) (by decide) (by decide)]; simp)
          have m2 : mulI (.int (sc[j].fmod 1000003)) (.int (sc[j].fmod 1000003)) (st.set 1 (feed ((j : Int) + 1) 0 c d)) = .ok (.int (sc[j].fmod 1000003 * sc[j].fmod 1000003)) (st.set 1 (feed ((j : Int) + 1) 0 c d)) := mulI_ap (by rw [small64_lo (by omega) (by omega)]; rfl)
          have m3 : mulI (.int ((j : Int) + 1)) (.int 97) (st.set 1 (feed ((j : Int) + 1) 0 c d)) = .ok (.int (((j : Int) + 1) * 97)) (st.set 1 (feed ((j : Int) + 1) 0 c d)) := mulI_ap (by rw [small64_lo (i := 97) (by decide) (by decide)]; simp)
          have d1 : modI (.int sc[j]) (.int 1000003) (st.set 1 (feed ((j : Int) + 1) 0 c d)) = .ok (.int (sc[j].fmod 1000003)) (st.set 1 (feed ((j : Int) + 1) 0 c d)) := modI_ap (by decide)
          have d2 : ∀ z : Int, modI (.int z) (.int 998244353) (st.set 1 (feed ((j : Int) + 1) 0 c d)) = .ok (.int (z.fmod 998244353)) (st.set 1 (feed ((j : Int) + 1) 0 c d)) := fun z => modI_ap (by decide)
          refine ⟨(j : Int) + 1, 0, (c * 31 + sc[j].fmod 1000003 * sc[j].fmod 1000003 + ((j : Int) + 1) * 97).fmod 998244353, some (.int sc[j]), some (.int (sc[j].fmod 1000003)), ?_, h.set (by omega) (by omega) h.b0 (by omega) (by omega)⟩
          simp only [ifS_ap, andB_ap, un1_ap, bin_ap, bnd_eq, getV_eq, List.getElem?_cons_zero, List.getElem?_cons_succ, optM_some, andThen_ok, cst_ap, h.i2, eqD_int, toB_ap, h.i1, h.i0, r0, lenQ_ap, di_length, ltI_ap, ha, decide_true, if_true, seqM_ap, setS_ap, cx0, ret_ap, List.set_cons_succ, List.set_cons_zero, thenS_nx, subS_ap, addI_ap, h.s1, geI_ap, pow18, hc, decide_false, Bool.false_eq_true, if_false, intV_ap, d1, F1.i3, F1.i1, m1, m2, m3, d2, F1.s3, List.set_set, ite_ap]
      · refine ⟨a, 0, c, none, none, ?_, by rw [h.same]; exact h⟩
        have r0 := readQ_ref h.h0
        simp only [ifS_ap, andB_ap, un1_ap, bin_ap, bnd_eq, getV_eq, List.getElem?_cons_zero, List.getElem?_cons_succ, optM_some, andThen_ok, cst_ap, h.i2, eqD_int, decide_true, toB_ap, if_true, h.i1, h.i0, r0, lenQ_ap, di_length, ltI_ap, ha, decide_false, Bool.false_eq_true, if_false, nilS_ap, ite_ap]
        simp only [h.same]
    · refine ⟨a, b, c, none, none, ?_, by rw [h.same]; exact h⟩
      simp only [ifS_ap, andB_ap, un1_ap, bin_ap, bnd_eq, getV_eq, List.getElem?_cons_zero, List.getElem?_cons_succ, optM_some, andThen_ok, cst_ap, h.i2, hb, eqD_int, decide_false, toB_ap, Bool.false_eq_true, if_false, ret_ap, nilS_ap, ite_ap, h.same]
  obtain ⟨a', b', c', x, y, q1, F⟩ := st1
  have ee : ([some (.ref 1), some (.int many)] ++ List.replicate (5 - (0 + 1 + 1)) none : Ev) = [some (.ref 1), some (.int many), none, none, none] := rfl
  by_cases hb : 0 < b'
  · have k1 := fmod_lo b' (m := many) (by omega)
    have k2 := fdiv_lo F.b0 (m := many) (by omega)
    have d1 : modI (.int b') (.int many) (st.set 1 (feed a' b' c' d)) = .ok (.int (b'.fmod many)) (st.set 1 (feed a' b' c' d)) := modI_ap (by omega)
    have d2 : fdivI (.int b') (.int many) (st.set 1 (feed a' b' c' d)) = .ok (.int (b'.fdiv many)) (st.set 1 (feed a' b' c' d)) := fdivI_ap (by omega) (by omega)
    refine ⟨b'.fmod many, a', b'.fdiv many, c', d, fnV_set (b := G.b__law_drawn) (j := []) ?_ rfl (h.low _ _ _ _), k1.1, k1.2, h.set F.a0 F.a1 k2 F.c0 F.c1⟩
    unfold G.b__law_drawn
    rw [List.append_nil, env0_eq]
    show seqM _ _ [some (.ref 1), some (.int many), none, none, none] st = _
    rw [seqM_nx q1]
    simp only [seqM_ap, ifS_ap, un1_ap, bin_ap, bnd_eq, getV_eq, List.getElem?_cons_zero, List.getElem?_cons_succ, optM_some, andThen_ok, cst_ap, F.i2, gtI_ap, hb, decide_true, toB_ap, if_true, setS_ap, intV_ap, d1, ret_ap, List.set_cons_succ, List.set_cons_zero, thenS_nx, subS_ap, d2, F.s2, List.set_set, retS_ap, thenS_rt, ite_ap]
  · have F1 : Fd sc (st.set 1 (feed a' b' c' (d + 1))) a' b' c' (d + 1) := h.set F.a0 F.a1 F.b0 F.c0 F.c1
    have cc := fmod_lo (c' * c' + (d + 1) * 40692 + 12345) (m := 2147483647) (by decide)
    have F2 : Fd sc (st.set 1 (feed a' b' ((c' * c' + (d + 1) * 40692 + 12345).fmod 2147483647) (d + 1))) a' b' ((c' * c' + (d + 1) * 40692 + 12345).fmod 2147483647) (d + 1) := h.set F.a0 F.a1 F.b0 cc.1 cc.2
    have k1 := fmod_lo (((c' * c' + (d + 1) * 40692 + 12345).fmod 2147483647).fdiv 16) (m := many) (by omega)
    have m1 : mulI (.int c') (.int c') (st.set 1 (feed a' b' c' (d + 1))) = .ok (.int (c' * c')) (st.set 1 (feed a' b' c' (d + 1))) := mulI_ap (by
      have := F.c1
      rw [small64_lo F.c0 (by omega)]; rfl)
    have m2 : mulI (.int (d + 1)) (.int 40692) (st.set 1 (feed a' b' c' (d + 1))) = .ok (.int ((d + 1) * 40692)) (st.set 1 (feed a' b' c' (d + 1))) := mulI_ap (by rw [small64_lo (i := 40692) (by decide) (by decide)]; simp)
    have d1 : ∀ z : Int, modI (.int z) (.int 2147483647) (st.set 1 (feed a' b' c' (d + 1))) = .ok (.int (z.fmod 2147483647)) (st.set 1 (feed a' b' c' (d + 1))) := fun z => modI_ap (by decide)
    have d2 : ∀ (z : Int) (s : Store), fdivI (.int z) (.int 16) s = .ok (.int (z.fdiv 16)) s := fun z s => fdivI_ap (by decide) (by decide)
    have d3 : ∀ (z : Int) (s : Store), modI (.int z) (.int many) s = .ok (.int (z.fmod many)) s := fun z s => modI_ap (by omega)
    refine ⟨_, a', b', _, d + 1, fnV_set (b := G.b__law_drawn) (j := []) ?_ rfl (h.low _ _ _ _), k1.1, k1.2, F2⟩
    unfold G.b__law_drawn
    rw [List.append_nil, env0_eq]
    show seqM _ _ [some (.ref 1), some (.int many), none, none, none] st = _
    rw [seqM_nx q1]
    simp only [seqM_ap, ifS_ap, un1_ap, bin_ap, bnd_eq, getV_eq, List.getElem?_cons_zero, List.getElem?_cons_succ, optM_some, andThen_ok, cst_ap, F.i2, gtI_ap, hb, decide_false, toB_ap, Bool.false_eq_true, if_false, nilS_ap, thenS_nx, subS_ap, F.i4, addI_ap, F.s4, List.set_set, ret_ap, F1.i3, F1.i4, m1, m2, intV_ap, d1, F1.s3, retS_ap, F2.i3, d2, d3, ite_ap]
end
end L3
set_option maxHeartbeats 4000000
/-! S9: an order that is drawn. -/
namespace L3
open PySem L2
section
variable {sc : List Int} {st : Store} {a b c d : Int} {env : Ev} {n : Nat} {p : List Nat}
theorem Fd.app (h : Fd sc st a b c d) (j : Store) : Fd sc (st ++ j) a b c d :=
  ⟨by rw [List.getElem?_append_left (by have := h.two; omega)]; exact h.h0, by rw [List.getElem?_append_left h.two]; exact h.h1, h.a0, h.a1, h.b0, h.c0, h.c1⟩
theorem Fd.cut (h : Fd sc (st ++ j) a b c d) (hl : 1 < st.length) : Fd sc st a b c d :=
  ⟨by have := h.h0; rw [List.getElem?_append_left (by omega)] at this; exact this, by have := h.h1; rw [List.getElem?_append_left hl] at this; exact this, h.a0, h.a1, h.b0, h.c0, h.c1⟩
theorem popAtM_ap {m k : Nat} {ds : List D} {x : D} (h : st[m]? = some (.lst ds)) (hk : ds[k]? = some x) (hs : k ≤ 16777216) : popAtM (.ref m) (.int (k : Int)) st = .ok x (st.set m (.lst (ds.eraseIdx k))) := by
  have hl := (List.getElem?_eq_some_iff.mp hk).1
  unfold popAtM
  simp only [h]
  have e0 : ixN ds.length (k : Int) = some k := by
    unfold ixN
    rw [if_pos (by omega), if_pos (by omega)]
    simp
  have e : seqIndex? (k : Int) ds.length = some k := (ixN_seq e0).1
  have c : -(2 ^ 63) ≤ (k : Int) ∧ (k : Int) < 2 ^ 63 := ⟨Int.le_trans (by decide) (Int.natCast_nonneg _), Int.lt_of_le_of_lt (Int.ofNat_le.mpr hs) (by decide)⟩
  rw [if_pos c]
  simp only [e, hk]
theorem eraseIdx_map {α β : Type} (f : α → β) : ∀ (l : List α) (k : Nat), (l.map f).eraseIdx k = (l.eraseIdx k).map f
  | [], k => rfl
  | x :: l, 0 => rfl
  | x :: l, k + 1 => by
    rw [List.map_cons, List.eraseIdx_cons_succ, List.eraseIdx_cons_succ, List.map_cons, eraseIdx_map f l k]
theorem di_eraseIdx (l : List Nat) (k : Nat) : (di (nat l)).eraseIdx k = di (nat (l.eraseIdx k)) := by
  unfold di nat
  rw [eraseIdx_map, eraseIdx_map]
/-- where the items of the list that is emptied stand -/
def mu (i : Nat) (s : Store) : Nat := match s[i]? with
  | some (.lst ds) => ds.length
  | _ => 0
theorem mu_eq {i : Nat} {s : Store} {ds : List D} (h : s[i]? = some (.lst ds)) : mu i s = ds.length := by unfold mu; rw [h]
theorem perm_erase {l : List Nat} {k : Nat} {x : Nat} (h : l[k]? = some x) : (x :: l.eraseIdx k).Perm l := by
  induction l generalizing k with
  | nil => simp at h
  | cons y l ih =>
    cases k with
    | zero => simp at h; subst h; exact List.Perm.refl _
    | succ k =>
      simp at h
      rw [List.eraseIdx_cons_succ]
      exact (List.Perm.swap _ _ _).trans (List.Perm.cons y (ih h))
theorem order_ap' (h : Fd sc st a b c d) (h1 : 1 ≤ n) (h6 : n ≤ 6) : ∃ p a' b' c' d', Pm n p ∧ G.m__law_order [.ref 1, .int (n : Int)] st = .ok (pD p) (st.set 1 (feed a' b' c' d')) ∧ Fd sc (st.set 1 (feed a' b' c' d')) a' b' c' d' := by
  have h2 := h.two
  have W := while_inv (c := (un1 toB (bin gtI (un1 lenQ (un1 readQ (getV 2))) (cst (.int 0))))) (b := (dropS (metM appendM (getV 4) (metM popAtM (getV 2) (callM G.m__law_drawn 2 (consA (getV 0) (consA (un1 lenQ (un1 readQ (getV 2))) nilA)))))))
    (fun env st' => env = [some (.ref 1), some (.int (n : Int)), some (.ref st.length), none, some (.ref (st.length + 1))] ∧ ∃ a b c d left found, st' = st.set 1 (feed a b c d) ++ [.lst (di (nat left)), .lst (di (nat found))] ∧ Fd sc (st.set 1 (feed a b c d)) a b c d ∧ (found ++ left).Perm (List.range n))
    (fun _ st' => mu st.length st')
    (fun env st' => env = [some (.ref 1), some (.int (n : Int)), some (.ref st.length), none, some (.ref (st.length + 1))] ∧ ∃ a b c d found, st' = st.set 1 (feed a b c d) ++ [.lst (di (nat [])), .lst (di (nat found))] ∧ Fd sc (st.set 1 (feed a b c d)) a b c d ∧ found.Perm (List.range n))
    (fun env st' hP => by
      obtain ⟨rfl, a, b, c, d, left, found, rfl, F, hp⟩ := hP
      have hls : (st.set 1 (feed a b c d)).length = st.length := by simp
      have g0 : (st.set 1 (feed a b c d) ++ [SObj.lst (di (nat left)), SObj.lst (di (nat found))])[st.length]? = some (.lst (di (nat left))) := by rw [← hls, app_get0]; rfl
      have e1 := readQ_ref g0
      have hlen := hp.length_eq
      rw [List.length_append, List.length_range] at hlen
      refine ⟨decide (0 < left.length), ?_, fun hk => ?_, fun hk => ?_⟩
      · have : ((0 : Int) < (left.length : Int)) ↔ 0 < left.length := by omega
        simp only [un1_ap, bin_ap, bnd_eq, getV_eq, List.getElem?_cons_zero, List.getElem?_cons_succ, optM_some, andThen_ok, e1, lenQ_ap, di_length, nat_length, cst_ap, gtI_ap, toB_ap, this]
      · have : left = [] := List.length_eq_zero_iff.mp (by simpa using hk)
        subst this
        exact ⟨rfl, a, b, c, d, found, rfl, F, by simpa using hp⟩
      · have hpos : 0 < left.length := of_decide_eq_true hk
        obtain ⟨k, a', b', c', d', q1, q2, q3, q4⟩ := drawn_ap (F.app [SObj.lst (di (nat left)), SObj.lst (di (nat found))]) (many := (left.length : Int)) (by omega) (by omega)
        obtain ⟨k, rfl⟩ : ∃ j : Nat, k = (j : Int) := ⟨k.toNat, by omega⟩
        have hk : k < left.length := by omega
        have es : (st.set 1 (feed a b c d) ++ [SObj.lst (di (nat left)), SObj.lst (di (nat found))]).set 1 (feed a' b' c' d') = st.set 1 (feed a' b' c' d') ++ [SObj.lst (di (nat left)), SObj.lst (di (nat found))] := by
          rw [List.set_append_left _ _ (by rw [hls]; exact h2), List.set_set]
        rw [es] at q1 q4
        have hls' : (st.set 1 (feed a' b' c' d')).length = st.length := by simp
        have g1 : (st.set 1 (feed a' b' c' d') ++ [SObj.lst (di (nat left)), SObj.lst (di (nat found))])[st.length]? = some (.lst (di (nat left))) := by rw [← hls', app_get0]; rfl
        have r1 := readL_ref g0
        have r2 : readL (.ref (st.length + 1)) (st.set 1 (feed a b c d) ++ [SObj.lst (di (nat left)), SObj.lst (di (nat found))]) = .ok (di (nat found)) _ := readL_ref (by rw [← hls, app_get]; rfl)
        have p1 := popAtM_ap g1 (k := k) (x := .int (gt left k : Nat)) (by rw [di_get, nat_get, gt_get hk]; rfl) (by omega)
        have es2 : (st.set 1 (feed a' b' c' d') ++ [SObj.lst (di (nat left)), SObj.lst (di (nat found))]).set st.length (.lst ((di (nat left)).eraseIdx k)) = st.set 1 (feed a' b' c' d') ++ [SObj.lst (di (nat (left.eraseIdx k))), SObj.lst (di (nat found))] := by
          conv => lhs; rw [show st.length = (st.set 1 (feed a' b' c' d')).length from hls'.symm]
          rw [app_set0, di_eraseIdx]
          rfl
        rw [es2] at p1
        have g2 : (st.set 1 (feed a' b' c' d') ++ [SObj.lst (di (nat (left.eraseIdx k))), SObj.lst (di (nat found))])[st.length + 1]? = some (.lst (di (nat found))) := by rw [← hls', app_get]; rfl
        have a1 := appendM_ap (y := .int (gt left k : Nat)) g2 (by rw [di_length, nat_length]; unfold line; omega)
        have es3 : (st.set 1 (feed a' b' c' d') ++ [SObj.lst (di (nat (left.eraseIdx k))), SObj.lst (di (nat found))]).set (st.length + 1) (.lst (di (nat found) ++ [.int (gt left k : Nat)])) = st.set 1 (feed a' b' c' d') ++ [SObj.lst (di (nat (left.eraseIdx k))), SObj.lst (di (nat (found ++ [gt left k])))] := by
          conv => lhs; rw [show st.length = (st.set 1 (feed a' b' c' d')).length from hls'.symm]
          rw [app_set]
          unfold di nat
          simp
        rw [es3] at a1
        refine ⟨[some (.ref 1), some (.int (n : Int)), some (.ref st.length), none, some (.ref (st.length + 1))], st.set 1 (feed a' b' c' d') ++ [SObj.lst (di (nat (left.eraseIdx k))), SObj.lst (di (nat (found ++ [gt left k])))], ?_, ⟨rfl, a', b', c', d', left.eraseIdx k, found ++ [gt left k], rfl, q4.cut (by rw [hls']; exact h2), ?_⟩, ?_⟩
        · simp only [dropS_ap, metM_ap, callM_ap, consA_ap, nilA_ap, un1_ap, bnd_eq, getV_eq, List.getElem?_cons_zero, List.getElem?_cons_succ, optM_some, andThen_ok, r1, r2, e1, lenQ_ap, di_length, nat_length, ret_ap, List.length_cons, List.length_nil, Nat.zero_add, if_true, quiet_ap, q1, quietR_ok, p1, a1, ite_ap]
        · have pe := perm_erase (gt_get hk)
          rw [List.append_assoc]
          exact (List.Perm.append_left found pe).trans hp
        · show mu st.length (st.set 1 (feed a' b' c' d') ++ [SObj.lst (di (nat (left.eraseIdx k))), SObj.lst (di (nat (found ++ [gt left k])))]) < mu st.length (st.set 1 (feed a b c d) ++ [SObj.lst (di (nat left)), SObj.lst (di (nat found))])
          rw [mu_eq g0, mu_eq (ds := di (nat (left.eraseIdx k))) (by rw [← hls', app_get0]; rfl), di_length, di_length, nat_length, nat_length, List.length_eraseIdx_of_lt hk]
          omega)
    fuel [some (.ref 1), some (.int (n : Int)), some (.ref st.length), none, some (.ref (st.length + 1))] (st ++ [.lst (di (nat (List.range n))), .lst (di (nat []))])
    (by rw [mu_eq (ds := di (nat (List.range n))) (by rw [app_get0]; rfl), di_length, nat_length, List.length_range]; unfold fuel; omega)
    ⟨rfl, a, b, c, d, List.range n, [], by rw [h.same], by rw [h.same]; exact h, by simp⟩
  obtain ⟨e, st', q1, rfl, a', b', c', d', found, rfl, F, hp⟩ := W
  refine ⟨found, a', b', c', d', ⟨hp, h1, h6⟩, fnV_set (b := G.b__law_order) (j := [.lst (di (nat [])), .lst (di (nat found))]) ?_ (by simp [pD, D.low, lowL_di]) (h.low _ _ _ _), F⟩
  unfold G.b__law_order
  have lc := lc_mapL (st := st) (env := [some (.ref 1), some (.int (n : Int)), none, none, none]) (nxt := itR 0 n) (l := List.range n) (enc := fun k : Nat => D.int (0 + (k : Int))) (mi := un1 iterR1 (getV 1)) (asg := asgN 3) (el := getV 3) (vs := [3]) (fun k => D.int (0 + (k : Int))) (by
    have := iterR1_ap (st := st) (okR_small (n := n) (by omega))
    rw [Int.toNat_natCast] at this
    simp only [un1_ap, bnd_eq, getV_eq, List.getElem?_cons_zero, List.getElem?_cons_succ, optM_some, andThen_ok, this]) (itR_list 0 _) (by rw [List.length_range]; unfold line; omega) (fun k _ => ⟨[some (.ref 1), some (.int (n : Int)), none, some (.int (0 + (k : Int))), none], rfl, by simp only [getV_eq, List.getElem?_cons_zero, List.getElem?_cons_succ, optM_some]⟩)
  rw [rg_map, rgI_nat] at lc
  have m0 := mkLst_ap (st := st ++ [.lst (di (nat (List.range n)))]) (ds := []) (Nat.zero_le _)
  have hls' : (st.set 1 (feed a' b' c' d')).length = st.length := by simp
  have e1 : readQ (.ref (st.length + 1)) (st.set 1 (feed a' b' c' d') ++ [SObj.lst (di (nat [])), SObj.lst (di (nat found))]) = .ok (di (nat found)) _ := readQ_ref (by rw [← hls', app_get]; rfl)
  have q1 : whileM _ _ fuel [some (.ref 1), some (.int (n : Int)), some (.ref st.length), none, some (.ref (st.length + 1))] (st ++ [.lst (di (nat (List.range n))), .lst []]) = _ := q1
  have ee : ([some (.ref 1), some (.int (n : Int))] ++ List.replicate (5 - (0 + 1 + 1)) none : Ev) = [some (.ref 1), some (.int (n : Int)), none, none, none] := rfl
  simp only [env0_eq, List.map_cons, List.map_nil, List.length_cons, List.length_nil, ee, seqM_ap, setS_ap, un1_ap, bnd_eq, lc, andThen_ok, alloc_ap, ret_ap, List.set_cons_succ, List.set_cons_zero, thenS_nx, onA_ap, nilA_ap, m0, List.length_append, Nat.zero_add, List.append_assoc, List.cons_append, List.nil_append, q1, retS_ap, getV_eq, List.getElem?_cons_zero, List.getElem?_cons_succ, optM_some, e1, tupQ_ap]
  rfl
end
end L3
set_option maxHeartbeats 4000000
/-! S10: the values that are not orders. -/
namespace L3
open PySem L2
section
variable {sc : List Int} {st : Store} {a b c d : Int} {env : Ev} {n : Nat} {p : List Nat}
theorem typed_mem {x : D} {l : List Int} (h : x ∈ di l) : Typed st x := by
  unfold di at h
  obtain ⟨i, _, rfl⟩ := List.mem_map.mp h
  rfl
theorem cut_mem {x : D} {ds : List D} {lo hi : Option Int} (h : x ∈ cutD ds lo hi) : x ∈ ds := List.mem_of_mem_drop (List.mem_of_mem_take h)
theorem cut_len (ds : List D) (lo hi : Option Int) : (cutD ds lo hi).length ≤ ds.length := by
  unfold cutD
  rw [List.length_take, List.length_drop]
  omega
theorem slT_ap (ds : List D) (lo hi : Option Int) : sliceT (.tup ds) lo hi st = .ok (.tup (cutD ds lo hi)) st := rfl
theorem catT_ap {xs ys : List D} (h : xs.length + ys.length ≤ line) : catT (.tup xs) (.tup ys) st = .ok (.tup (xs ++ ys)) st := by
  unfold catT
  simp only [h, if_true]
theorem fnV_or {n : Nat} {b : Ev → M Out} {ds : List D} {d : D} {k : Nat} {o : SObj} {j : Store} (h : b (env0 n ds) st = .ok (.rt d) (st.set k o ++ j)) (ho : o.low st.length = true) : ∃ j', fnV n b ds st = .ok d (st.set k o ++ j') := by
  rw [fnV_ap, bnd_ok (m := bnd (b (env0 n ds)) outV) (a := d) (st' := st.set k o ++ j) (by rw [bnd_ok h]; rfl)]
  by_cases hd : d.low st.length = true
  · exact ⟨[], by rw [finV_set hd ho, List.append_nil]⟩
  · refine ⟨j, ?_⟩
    unfold finV
    rw [if_neg]
    intro hh
    rw [Bool.and_eq_true] at hh
    exact hd hh.1
/-- one of four, of three -/
theorem ix_lt {ds : List D} {k : Int} (h0 : 0 ≤ k) (h1 : k < ds.length) : ∃ x, x ∈ ds ∧ ixQ ds (.int k) st = .ok x st := by
  obtain ⟨j, rfl⟩ : ∃ j : Nat, k = (j : Int) := ⟨k.toNat, by omega⟩
  have hj : j < ds.length := by omega
  exact ⟨ds[j], List.getElem_mem _, ixQ_ap (atI_nat' (List.getElem?_eq_getElem hj))⟩
theorem typed_store {ds : List D} {x : D} (h : x ∈ ds) (hd : ∀ y ∈ ds, TypedT st y) : TypedT st x := hd x h
theorem typed_app (s : Store) (l : List Int) (i : Int) : TypedT s (.tup (di l ++ [.int i])) := by
  intro x hx
  rcases List.mem_append.mp hx with q | q
  · exact typed_mem q
  · rw [List.mem_singleton] at q; subst q; rfl
theorem typed_cut (s : Store) (l : List Int) (lo hi : Option Int) : TypedT s (.tup (cutD (di l) lo hi)) := fun x hx => typed_mem (cut_mem hx)
theorem bent_ap (h : Fd sc st a b c d) (hp : Pm n p) : ∃ v a' b' c' d' j, G.m__law_bent [.ref 1, pD p] st = .ok v (st.set 1 (feed a' b' c' d') ++ j) ∧ Fd sc (st.set 1 (feed a' b' c' d')) a' b' c' d' ∧ TypedT (st.set 1 (feed a' b' c' d') ++ j) v := by
  have hl := hp.len
  have h6 := hp.hi
  have h1 := hp.lo
  obtain ⟨way, a1, b1, c1, d1, q1, w0, w1, F1⟩ := drawn_ap h (many := 10) (by decide) (by decide)
  obtain ⟨at_, a2, b2, c2, d2, q2, v0, v1, F2⟩ := drawn_ap F1 (many := (p.length : Int)) (by omega) (by omega)
  rw [List.set_set] at q2 F2
  obtain ⟨k, rfl⟩ : ∃ k : Nat, at_ = (k : Int) := ⟨at_.toNat, by omega⟩
  have hk : k < p.length := by omega
  have ee : ([some (.ref 1), some (pD p)] ++ List.replicate (6 - (0 + 1 + 1)) none : Ev) = [some (.ref 1), some (pD p), none, none, none, none] := rfl
  have l0 : (di (nat p)).length ≤ 6 := by rw [di_length, nat_length]; omega
  have s0 : ∀ (a b c d : Int), (st.set 1 (feed a b c d)).length = st.length := fun _ _ _ _ => by simp
  by_cases hw4 : way < 4
  · -- the list of four
    have x2 := ix_pD (p := p) (x := 0) (st := st.set 1 (feed a2 b2 c2 d2) ++ [.lst (di (nat p))]) (by omega)
    have t1 : ∀ s : Store, mkTup [.int (p.length : Int)] s = .ok (.tup [.int (p.length : Int)]) s := fun s => mkTup_ap (by unfold line; simp)
    have t3 : ∀ s : Store, mkTup [.int (gt p 0 : Nat)] s = .ok (.tup [.int (gt p 0 : Nat)]) s := fun s => mkTup_ap (by unfold line; simp)
    have k1 : ∀ (s : Store) (x : D), catT (pD p) (.tup [x]) s = .ok (.tup (di (nat p) ++ [x])) s := fun s x => catT_ap (by unfold line; simp; omega)
    have m4 : ∀ s : Store, mkLst [.ref (st.set 1 (feed a2 b2 c2 d2)).length, .tup (di (nat p) ++ [.int (p.length : Int)]), .tup (cutD (di (nat p)) none (some (-1))), .tup (di (nat p) ++ [.int (gt p 0 : Nat)])] s = .ok _ s := fun s => mkLst_ap (by unfold line; simp)
    obtain ⟨v, hv, q3⟩ := ix_lt (st := st.set 1 (feed a2 b2 c2 d2) ++ [.lst (di (nat p))]) (ds := [.ref (st.set 1 (feed a2 b2 c2 d2)).length, .tup (di (nat p) ++ [.int (p.length : Int)]), .tup (cutD (di (nat p)) none (some (-1))), .tup (di (nat p) ++ [.int (gt p 0 : Nat)])]) (k := way) w0 (by simpa using hw4)
    have tv : ∀ j, TypedT (st.set 1 (feed a2 b2 c2 d2) ++ (.lst (di (nat p)) :: j)) v := by
      intro j
      simp only [List.mem_cons, List.not_mem_nil, or_false] at hv
      rcases hv with rfl | rfl | rfl | rfl
      · show Typed _ _
        unfold Typed
        simp only [tyOf]
        rw [app_get0]
        rfl
      · intro x hx
        rcases List.mem_append.mp hx with q | q
        · exact typed_mem q
        · rw [List.mem_singleton] at q; subst q; rfl
      · intro x hx
        exact typed_mem (cut_mem hx)
      · intro x hx
        rcases List.mem_append.mp hx with q | q
        · exact typed_mem q
        · rw [List.mem_singleton] at q; subst q; rfl
    have body : G.b__law_bent (env0 6 [.ref 1, pD p]) st = .ok (.rt v) (st.set 1 (feed a2 b2 c2 d2) ++ [.lst (di (nat p))]) := by
      unfold G.b__law_bent
      simp only [env0_eq, List.map_cons, List.map_nil, List.length_cons, List.length_nil, ee, seqM_ap, parS_ap, consA_ap, nilA_ap, callM_ap, un1_ap, bin_ap, bnd_eq, getV_eq, List.getElem?_cons_zero, List.getElem?_cons_succ, optM_some, andThen_ok, cst_ap, ret_ap, Nat.zero_add, if_true, quiet_ap, q1, quietR_ok, pD_readQ, lenQ_ap, di_length, nat_length, q2, par2_ap, List.set_cons_succ, List.set_cons_zero, thenS_nx, ifS_ap, ltI_ap, hw4, decide_true, toB_ap, retS_ap, onA_ap, listQ_ap, alloc_ap, t1, k1, sl3_ap, noPart_ap, somePart_ap, negI_ap, intP_int]
      have k2 : sliceT (pD p) none (some (-1)) (st.set 1 (feed a2 b2 c2 d2) ++ [.lst (di (nat p))]) = .ok (.tup (cutD (di (nat p)) none (some (-1)))) (st.set 1 (feed a2 b2 c2 d2) ++ [.lst (di (nat p))]) := rfl
      have x2 : ixQ (di (nat p)) (.int 0) (st.set 1 (feed a2 b2 c2 d2) ++ [.lst (di (nat p))]) = .ok (.int (gt p 0 : Nat)) (st.set 1 (feed a2 b2 c2 d2) ++ [.lst (di (nat p))]) := x2
      simp only [ite_ap, if_true, bnd_eq, andThen_ok, k2, ixV_ap, pD_readQ, x2, t3, k1, ret_ap, m4, q3, thenS_rt, seqM_ap, ifS_ap, un1_ap, bin_ap, getV_eq, List.getElem?_cons_zero, List.getElem?_cons_succ, optM_some, cst_ap, ltI_ap, hw4, decide_true, toB_ap, retS_ap, onA_ap, consA_ap, nilA_ap, listQ_ap, alloc_ap, lenQ_ap, di_length, nat_length, t1, sl3_ap, noPart_ap, somePart_ap, negI_ap, intP_int]
    obtain ⟨j', hj'⟩ : ∃ j', G.m__law_bent [.ref 1, pD p] st = .ok v (st.set 1 (feed a2 b2 c2 d2) ++ j') ∧ TypedT (st.set 1 (feed a2 b2 c2 d2) ++ j') v := by
      show ∃ j', fnV 6 G.b__law_bent [.ref 1, pD p] st = _ ∧ _
      rw [fnV_ap, bnd_ok (m := bnd (G.b__law_bent (env0 6 [.ref 1, pD p])) outV) (a := v) (st' := st.set 1 (feed a2 b2 c2 d2) ++ [.lst (di (nat p))]) (by rw [bnd_ok body]; rfl)]
      by_cases hd : v.low st.length = true
      · refine ⟨[], by rw [finV_set hd (h.low _ _ _ _), List.append_nil], ?_⟩
        simp only [List.mem_cons, List.not_mem_nil, or_false] at hv
        rcases hv with rfl | rfl | rfl | rfl
        · simp [D.low] at hd
        · exact typed_app _ _ _
        · exact typed_cut _ _ _ _
        · exact typed_app _ _ _
      · refine ⟨_, ?_, tv []⟩
        unfold finV
        rw [if_neg]
        intro hh
        rw [Bool.and_eq_true] at hh
        exact hd hh.1
    exact ⟨v, a2, b2, c2, d2, j', hj'.1, F2, hj'.2⟩
  · by_cases hw7 : way < 7
    · obtain ⟨z, a3, b3, c3, d3, q3, z0, z1, F3⟩ := drawn_ap F2 (many := 8) (by decide) (by decide)
      rw [List.set_set] at q3 F3
      have x2 := ix_pD (p := p) (x := k) (st := st.set 1 (feed a3 b3 c3 d3)) hk
      have m3 : mkLst [.int (z - 1), .bl (decide (((gt p k : Nat) : Int) = 1)), .non] (st.set 1 (feed a3 b3 c3 d3)) = .ok _ (st.set 1 (feed a3 b3 c3 d3)) := mkLst_ap (by unfold line; simp)
      obtain ⟨v, hv, q4⟩ := ix_lt (st := st.set 1 (feed a3 b3 c3 d3)) (ds := [.int (z - 1), .bl (decide (((gt p k : Nat) : Int) = 1)), .non]) (k := way - 4) (by omega) (by simp; omega)
      have tv : Typed (st.set 1 (feed a3 b3 c3 d3)) v ∧ v.low st.length = true := by
        simp only [List.mem_cons, List.not_mem_nil, or_false] at hv
        rcases hv with rfl | rfl | rfl <;> exact ⟨rfl, rfl⟩
      have t1 : mkTup [v] (st.set 1 (feed a3 b3 c3 d3)) = .ok (.tup [v]) (st.set 1 (feed a3 b3 c3 d3)) := mkTup_ap (by unfold line; simp)
      have s1 : sliceT (pD p) none (some (k : Int)) (st.set 1 (feed a3 b3 c3 d3)) = .ok (.tup (cutD (di (nat p)) none (some (k : Int)))) (st.set 1 (feed a3 b3 c3 d3)) := rfl
      have s2 : sliceT (pD p) (some ((k : Int) + 1)) none (st.set 1 (feed a3 b3 c3 d3)) = .ok (.tup (cutD (di (nat p)) (some ((k : Int) + 1)) none)) (st.set 1 (feed a3 b3 c3 d3)) := rfl
      have y1 := cut_len (di (nat p)) none (some (k : Int))
      have y2 := cut_len (di (nat p)) (some ((k : Int) + 1)) none
      have k1 := catT_ap (st := st.set 1 (feed a3 b3 c3 d3)) (xs := cutD (di (nat p)) none (some (k : Int))) (ys := [v]) (by unfold line; simp only [List.length_cons, List.length_nil]; omega)
      have k2 := catT_ap (st := st.set 1 (feed a3 b3 c3 d3)) (xs := cutD (di (nat p)) none (some (k : Int)) ++ [v]) (ys := cutD (di (nat p)) (some ((k : Int) + 1)) none) (by unfold line; simp only [List.length_append, List.length_cons, List.length_nil]; omega)
      have tt : ∀ x ∈ cutD (di (nat p)) none (some (k : Int)) ++ [v] ++ cutD (di (nat p)) (some ((k : Int) + 1)) none, Typed (st.set 1 (feed a3 b3 c3 d3)) x ∧ x.low st.length = true := by
        intro x hx
        have li : ∀ (lo hi : Option Int), x ∈ cutD (di (nat p)) lo hi → Typed (st.set 1 (feed a3 b3 c3 d3)) x ∧ x.low st.length = true := fun lo hi q => by
          have := cut_mem q
          unfold di at this
          obtain ⟨i, _, rfl⟩ := List.mem_map.mp this
          exact ⟨rfl, rfl⟩
        rcases List.mem_append.mp hx with q | q
        · rcases List.mem_append.mp q with q | q
          · exact li _ _ q
          · rw [List.mem_singleton] at q; rw [q]; exact tv
        · exact li _ _ q
      have lowl : ∀ (l : List D), (∀ x ∈ l, x.low st.length = true) → D.lowL st.length l = true := by
        intro l
        induction l with
        | nil => intro _; rw [D.lowL]
        | cons y l ih => intro hh; rw [D.lowL, hh y List.mem_cons_self, ih fun x hx => hh x (List.mem_cons_of_mem _ hx)]; rfl
      refine ⟨.tup (cutD (di (nat p)) none (some (k : Int)) ++ [v] ++ cutD (di (nat p)) (some ((k : Int) + 1)) none), a3, b3, c3, d3, [], ?_, F3, by rw [List.append_nil]; exact fun x hx => (tt x hx).1⟩
      rw [List.append_nil]
      refine fnV_set (b := G.b__law_bent) (j := []) ?_ (by rw [D.low]; exact lowl _ fun x hx => (tt x hx).2) (h.low _ _ _ _)
      rw [List.append_nil]
      unfold G.b__law_bent
      simp only [env0_eq, List.map_cons, List.map_nil, List.length_cons, List.length_nil, ee, seqM_ap, parS_ap, consA_ap, nilA_ap, callM_ap, un1_ap, bin_ap, bnd_eq, getV_eq, List.getElem?_cons_zero, List.getElem?_cons_succ, optM_some, andThen_ok, cst_ap, ret_ap, Nat.zero_add, if_true, ite_ap, quiet_ap, q1, quietR_ok, pD_readQ, lenQ_ap, di_length, nat_length, q2, par2_ap, List.set_cons_succ, List.set_cons_zero, thenS_nx, ifS_ap, ltI_ap, hw4, hw7, decide_true, decide_false, Bool.false_eq_true, if_false, toB_ap, nilS_ap, setS_ap, onA_ap, q3, subI_ap, ixV_ap, x2, eqD_int, m3, q4, retS_ap, sl3_ap, noPart_ap, somePart_ap, intP_int, s1, t1, k1, addI_ap, s2, k2, thenS_rt]
    · have lc := lc_mapL (st := st.set 1 (feed a2 b2 c2 d2)) (env := [some (.ref 1), some (pD p), some (.int way), some (.int (k : Int)), none, none]) (nxt := itV (pD p)) (l := p) (enc := fun x : Nat => D.int (x : Int)) (mi := un1 iterV (getV 1)) (asg := asgN 5) (el := bin addI (getV 5) (cst (.int 1))) (vs := [5]) (fun x => .int ((x : Int) + 1)) (by simp [iterV_pD]) (itV_pD p) hp.line (fun x _ => ⟨_, rfl, by simp [wipeE]⟩)
      have t1 : mkTup [pD p] (st.set 1 (feed a2 b2 c2 d2)) = .ok (.tup [pD p]) (st.set 1 (feed a2 b2 c2 d2)) := mkTup_ap (by unfold line; simp)
      have m3 : mkLst [.tup [pD p], .non, .tup (p.map fun x : Nat => D.int ((x : Int) + 1))] (st.set 1 (feed a2 b2 c2 d2)) = .ok _ (st.set 1 (feed a2 b2 c2 d2)) := mkLst_ap (by unfold line; simp)
      obtain ⟨v, hv, q4⟩ := ix_lt (st := st.set 1 (feed a2 b2 c2 d2)) (ds := [.tup [pD p], .non, .tup (p.map fun x : Nat => D.int ((x : Int) + 1))]) (k := way - 7) (by omega) (by simp; omega)
      have hmap : (p.map fun x : Nat => D.int ((x : Int) + 1)) = di (p.map fun x : Nat => (x : Int) + 1) := by unfold di; rw [List.map_map]; rfl
      have tv : TypedT (st.set 1 (feed a2 b2 c2 d2)) v ∧ v.low st.length = true := by
        simp only [List.mem_cons, List.not_mem_nil, or_false] at hv
        rcases hv with rfl | rfl | rfl
        · refine ⟨fun x hx => ?_, by simp [D.low, D.lowL, pD, lowL_di]⟩
          rw [List.mem_singleton] at hx; subst hx; rfl
        · exact ⟨rfl, rfl⟩
        · rw [hmap]
          exact ⟨fun x hx => typed_mem hx, by rw [D.low, lowL_di]⟩
      refine ⟨v, a2, b2, c2, d2, [], ?_, F2, by rw [List.append_nil]; exact tv.1⟩
      rw [List.append_nil]
      refine fnV_set (b := G.b__law_bent) (j := []) ?_ tv.2 (h.low _ _ _ _)
      rw [List.append_nil]
      unfold G.b__law_bent
      simp only [env0_eq, List.map_cons, List.map_nil, List.length_cons, List.length_nil, ee, seqM_ap, parS_ap, consA_ap, nilA_ap, callM_ap, un1_ap, bin_ap, bnd_eq, getV_eq, List.getElem?_cons_zero, List.getElem?_cons_succ, optM_some, andThen_ok, cst_ap, ret_ap, Nat.zero_add, if_true, ite_ap, quiet_ap, q1, quietR_ok, pD_readQ, lenQ_ap, di_length, nat_length, q2, par2_ap, List.set_cons_succ, List.set_cons_zero, thenS_nx, ifS_ap, ltI_ap, hw4, hw7, decide_false, Bool.false_eq_true, if_false, toB_ap, nilS_ap, retS_ap, onA_ap, t1, lc, tupQ_ap, m3, subI_ap, q4, thenS_rt]
end
end L3
set_option maxHeartbeats 4000000
/-! S11a: plain facts of orders of at most six points. -/
namespace L3
open PySem L2
/-- all orders of the items of l, k of them -/
def pk : Nat → List Nat → List (List Nat)
  | 0, _ => [[]]
  | k + 1, l => l.flatMap fun x => (pk k (l.erase x)).map (x :: ·)
theorem pk_mem : ∀ (k : Nat) {l p : List Nat}, p.length = k → p.Perm l → p ∈ pk k l
  | 0, l, p, hl, _ => by
    have : p = [] := List.length_eq_zero_iff.mp hl
    subst this
    simp [pk]
  | k + 1, l, [], hl, _ => by simp at hl
  | k + 1, l, x :: r, hl, h => by
    unfold pk
    rw [List.mem_flatMap]
    have hx : x ∈ l := h.subset List.mem_cons_self
    refine ⟨x, hx, List.mem_map.mpr ⟨r, pk_mem k (by simpa using hl) ?_, rfl⟩⟩
    exact (List.cons_perm_iff_perm_erase.mp h).2
def allP (n : Nat) : List (List Nat) := pk n (List.range n)
theorem Pm.all {n : Nat} {p : List Nat} (h : Pm n p) : p ∈ allP n := pk_mem n h.len h.perm
/-- pairs turned, by the items behind each -/
def less (x : Nat) : List Nat → Nat
  | [] => 0
  | y :: r => cond (Nat.blt y x) (less x r + 1) (less x r)
def invs : List Nat → Nat
  | [] => 0
  | x :: r => less x r + invs r
def sgn (p : List Nat) : Bool := Nat.beq (invs p % 2) 0
def chk1 (p : List Nat) : Bool := match cycles p, lens p, cycles (inv p), order p with
  | some c, some c', some c'', some k => (c == c') && ((c == c'') && (decide (c.length ≤ 6) && ((evenB c == sgn p) && (decide (k ≤ 7) && Nat.beq (turned p) (invs p)))))
  | _, _, _, _ => false
def sI (n i : Nat) : List Nat := ((List.range n).set i (i + 1)).set (i + 1) i
def chk2 (n : Nat) (p : List Nat) : Bool := ((List.range (n - 1)).all fun i => sgn (comp (sI n i) p) == !sgn p) && (p == List.range n || (List.range (n - 1)).any fun i => Nat.blt (invs (comp (sI n i) p)) (invs p))
def perX (x : Nat) : List (List Nat) := (pk 5 ((List.range 6).erase x)).map (x :: ·)
theorem all6 (f : List Nat → Bool) (h0 : (perX 0).all f = true) (h1 : (perX 1).all f = true) (h2 : (perX 2).all f = true) (h3 : (perX 3).all f = true) (h4 : (perX 4).all f = true) (h5 : (perX 5).all f = true) : (allP 6).all f = true := by
  rw [List.all_eq_true]
  intro p hp
  unfold allP pk at hp
  obtain ⟨x, hx, hm⟩ := List.mem_flatMap.mp hp
  have hx := List.mem_range.mp hx
  have : x = 0 ∨ x = 1 ∨ x = 2 ∨ x = 3 ∨ x = 4 ∨ x = 5 := by omega
  rcases this with rfl | rfl | rfl | rfl | rfl | rfl
  · exact List.all_eq_true.mp h0 p hm
  · exact List.all_eq_true.mp h1 p hm
  · exact List.all_eq_true.mp h2 p hm
  · exact List.all_eq_true.mp h3 p hm
  · exact List.all_eq_true.mp h4 p hm
  · exact List.all_eq_true.mp h5 p hm
set_option maxHeartbeats 0
theorem f1_0 : (perX 0).all chk1 = true := by decide +kernel
theorem f2_0 : (perX 0).all (chk2 6) = true := by decide +kernel
theorem f1_1 : (perX 1).all chk1 = true := by decide +kernel
theorem f2_1 : (perX 1).all (chk2 6) = true := by decide +kernel
theorem f1_2 : (perX 2).all chk1 = true := by decide +kernel
theorem f2_2 : (perX 2).all (chk2 6) = true := by decide +kernel
theorem f1_3 : (perX 3).all chk1 = true := by decide +kernel
theorem f2_3 : (perX 3).all (chk2 6) = true := by decide +kernel
theorem f1_4 : (perX 4).all chk1 = true := by decide +kernel
theorem f2_4 : (perX 4).all (chk2 6) = true := by decide +kernel
theorem f1_5 : (perX 5).all chk1 = true := by decide +kernel
theorem f2_5 : (perX 5).all (chk2 6) = true := by decide +kernel
theorem g1 : ((allP 1).all chk1 && ((allP 2).all chk1 && ((allP 3).all chk1 && ((allP 4).all chk1 && (allP 5).all chk1)))) = true := by decide +kernel
theorem g2 : ((allP 1).all (chk2 1) && ((allP 2).all (chk2 2) && ((allP 3).all (chk2 3) && ((allP 4).all (chk2 4) && (allP 5).all (chk2 5))))) = true := by decide +kernel
theorem facts1 : ((allP 1).all chk1 && ((allP 2).all chk1 && ((allP 3).all chk1 && ((allP 4).all chk1 && ((allP 5).all chk1 && (allP 6).all chk1))))) = true := by
  have h6 := all6 chk1 f1_0 f1_1 f1_2 f1_3 f1_4 f1_5
  have h := g1
  rw [h6]
  simpa only [Bool.and_true] using h
theorem facts2 : ((allP 1).all (chk2 1) && ((allP 2).all (chk2 2) && ((allP 3).all (chk2 3) && ((allP 4).all (chk2 4) && ((allP 5).all (chk2 5) && (allP 6).all (chk2 6)))))) = true := by
  have h6 := all6 (chk2 6) f2_0 f2_1 f2_2 f2_3 f2_4 f2_5
  have h := g2
  rw [h6]
  simpa only [Bool.and_true] using h
theorem facts3 : ((List.range 7).all fun n => sgn (List.range n) && (List.range (n - 1)).all fun i => comp (sI n i) (sI n i) == List.range n) = true := by decide +kernel
theorem facts4 : ((List.range 7).all fun n => (List.range (n - 1)).all fun i => (allP n).contains (sI n i)) = true := by decide +kernel
end L3
set_option maxHeartbeats 4000000
/-! S11: .. used. -/
namespace L3
open PySem L2
section
variable {n : Nat} {p q r : List Nat}
theorem ba2 {a b : Bool} (h : (a && b) = true) : a = true ∧ b = true := Bool.and_eq_true_iff.mp h
theorem Pm.chk1 (h : Pm n p) : chk1 p = true := by
  obtain ⟨e1, f⟩ := ba2 facts1
  obtain ⟨e2, f⟩ := ba2 f
  obtain ⟨e3, f⟩ := ba2 f
  obtain ⟨e4, f⟩ := ba2 f
  obtain ⟨e5, e6⟩ := ba2 f
  have hm := h.all
  have h1 := h.lo
  have h2 := h.hi
  have : n = 1 ∨ n = 2 ∨ n = 3 ∨ n = 4 ∨ n = 5 ∨ n = 6 := by omega
  rcases this with rfl | rfl | rfl | rfl | rfl | rfl
  · exact List.all_eq_true.mp e1 p hm
  · exact List.all_eq_true.mp e2 p hm
  · exact List.all_eq_true.mp e3 p hm
  · exact List.all_eq_true.mp e4 p hm
  · exact List.all_eq_true.mp e5 p hm
  · exact List.all_eq_true.mp e6 p hm
theorem Pm.chk2 (h : Pm n p) : chk2 n p = true := by
  obtain ⟨e1, f⟩ := ba2 facts2
  obtain ⟨e2, f⟩ := ba2 f
  obtain ⟨e3, f⟩ := ba2 f
  obtain ⟨e4, f⟩ := ba2 f
  obtain ⟨e5, e6⟩ := ba2 f
  have hm := h.all
  have h1 := h.lo
  have h2 := h.hi
  have : n = 1 ∨ n = 2 ∨ n = 3 ∨ n = 4 ∨ n = 5 ∨ n = 6 := by omega
  rcases this with rfl | rfl | rfl | rfl | rfl | rfl
  · exact List.all_eq_true.mp e1 p hm
  · exact List.all_eq_true.mp e2 p hm
  · exact List.all_eq_true.mp e3 p hm
  · exact List.all_eq_true.mp e4 p hm
  · exact List.all_eq_true.mp e5 p hm
  · exact List.all_eq_true.mp e6 p hm
/-- what is known of an order -/
theorem Pm.known (h : Pm n p) : ∃ c k, cycles p = some c ∧ lens p = some c ∧ cycles (L3.inv p) = some c ∧ order p = some k ∧ c.length ≤ 6 ∧ evenB c = sgn p ∧ turned p = invs p := by
  have e := h.chk1
  unfold L3.chk1 at e
  split at e
  · rename_i c c' c'' k e1 e2 e3 e4
    simp only [Bool.and_eq_true, beq_iff_eq, decide_eq_true_eq] at e
    obtain ⟨rfl, rfl, h1, h2, hk, h3⟩ := e
    exact ⟨c, k, e1, e2, e3, e4, h1, h2, Nat.eq_of_beq_eq_true h3⟩
  · cases e
theorem gt_comp (h : x < p.length) : gt (comp p q) x = gt q (gt p x) := by
  have h' : x < (comp p q).length := by rw [comp_length]; exact h
  rw [← gt_elem h']
  simp only [comp, List.getElem_map, gt_elem h]
theorem comp_assoc (h : ∀ x ∈ p, x < q.length) : comp (comp p q) r = comp p (comp q r) := by
  unfold comp
  rw [List.map_map]
  refine List.map_congr_left fun x hx => ?_
  exact (gt_comp (h x hx)).symm
theorem comp_range (h : q.length = n) : comp (List.range n) q = q := by
  apply List.ext_getElem
  · rw [comp_length, List.length_range, h]
  · intro i h1 h2
    simp only [comp, List.getElem_map, List.getElem_range, gt_elem h2]
theorem sgn_comp : ∀ (k : Nat) {p q : List Nat}, invs p ≤ k → Pm n p → Pm n q → sgn (comp p q) = (sgn p == sgn q) := by
  intro k
  induction k with
  | zero =>
    intro p q hk hp hq
    have e := hp.chk2
    unfold L3.chk2 at e
    obtain ⟨_, e⟩ := ba2 e
    rw [Bool.or_eq_true] at e
    have hpr : p = List.range n := by
      rcases e with e | e
      · exact beq_iff_eq.mp e
      · obtain ⟨i, _, hi⟩ := List.any_eq_true.mp e
        have : invs (comp (sI n i) p) < invs p := by simpa [Nat.blt_eq] using hi
        omega
    subst hpr
    have f := List.all_eq_true.mp facts3 n (List.mem_range.mpr (by have := hp.hi; omega))
    rw [comp_range hq.len, (ba2 f).1]
    cases sgn q <;> rfl
  | succ k ih =>
    intro p q hk hp hq
    have f := List.all_eq_true.mp facts3 n (List.mem_range.mpr (by have := hp.hi; omega))
    have e := hp.chk2
    unfold L3.chk2 at e
    obtain ⟨_, e⟩ := ba2 e
    rw [Bool.or_eq_true] at e
    rcases e with e | e
    · have hpr : p = List.range n := beq_iff_eq.mp e
      subst hpr
      rw [comp_range hq.len, (ba2 f).1]
      cases sgn q <;> rfl
    · obtain ⟨i, hi, hlt⟩ := List.any_eq_true.mp e
      have hlt : invs (comp (sI n i) p) < invs p := by simpa [Nat.blt_eq] using hlt
      have f4 := List.all_eq_true.mp (List.all_eq_true.mp facts4 n (List.mem_range.mpr (by have := hp.hi; omega))) i hi
      have hs : Pm n (sI n i) := by
        have hm : sI n i ∈ allP n := List.contains_iff_mem.mp f4
        have : ∀ (k : Nat) {l p : List Nat}, l.length = k → p ∈ pk k l → p.Perm l := by
          intro k
          induction k with
          | zero =>
            intro l p hl hm
            have : l = [] := List.length_eq_zero_iff.mp hl
            subst this
            simp [pk] at hm
            subst hm
            exact List.Perm.refl _
          | succ k ih =>
            intro l p hl hm
            unfold pk at hm
            obtain ⟨x, hx, hm⟩ := List.mem_flatMap.mp hm
            obtain ⟨r, hr, rfl⟩ := List.mem_map.mp hm
            have := ih (l := l.erase x) (by rw [List.length_erase_of_mem hx]; omega) hr
            exact (List.Perm.cons x this).trans (List.perm_cons_erase hx).symm
        exact ⟨this n (by rw [List.length_range]) hm, hp.lo, hp.hi⟩
      have hp' : Pm n (comp (sI n i) p) := hs.comp hp
      have hss : comp (sI n i) (sI n i) = List.range n := beq_iff_eq.mp (List.all_eq_true.mp (ba2 f).2 i hi)
      have ep : comp (sI n i) (comp (sI n i) p) = p := by rw [← comp_assoc (hs.lt' hs), hss, comp_range hp.len]
      have flip : ∀ {r : List Nat}, Pm n r → sgn (comp (sI n i) r) = !sgn r := fun {r} hr => by
        have e := hr.chk2
        unfold L3.chk2 at e
        exact beq_iff_eq.mp (List.all_eq_true.mp (ba2 e).1 i hi)
      have h1 := ih (p := comp (sI n i) p) (q := q) (by omega) hp' hq
      have h2 : comp p q = comp (sI n i) (comp (comp (sI n i) p) q) := by
        conv => lhs; rw [← ep]
        rw [comp_assoc (hs.lt' hp')]
      rw [h2, flip (hp'.comp hq), h1, flip hp]
      cases sgn p <;> cases sgn q <;> rfl
theorem inv_comp (hp : Pm n p) (hq : Pm n q) : inv (comp p q) = comp (inv q) (inv p) := by
  have hlp := hp.len
  have hlq := hq.len
  apply List.ext_getElem
  · rw [inv_length, comp_length, comp_length, inv_length, hlp, hlq]
  · intro v h1 h2
    have hv : v < n := by rw [inv_length, comp_length, hlp] at h1; exact h1
    have e1 : (inv (comp p q))[v] = (comp p q).idxOf v := by simp only [inv, List.getElem_map, List.getElem_range]
    have gi : ∀ {r : List Nat} {x : Nat}, x < r.length → gt (inv r) x = r.idxOf x := fun {r x} hx => by
      rw [← gt_elem (by rw [inv_length]; exact hx)]
      simp only [inv, List.getElem_map, List.getElem_range]
    rw [e1, gt_elem h2, gt_comp (by rw [inv_length, hlq]; exact hv), gi (r := q) (x := v) (by rw [hlq]; exact hv)]
    have hj : q.idxOf v < n := by rw [← hlq]; exact List.idxOf_lt_length_iff.mpr (hq.mem hv)
    rw [gi (r := p) (x := q.idxOf v) (by rw [hlp]; exact hj)]
    have hi : p.idxOf (q.idxOf v) < n := by rw [← hlp]; exact List.idxOf_lt_length_iff.mpr (hp.mem hj)
    have g1 : gt p (p.idxOf (q.idxOf v)) = q.idxOf v := by
      rw [← gt_elem (by omega)]
      exact List.getElem_idxOf (by omega)
    have g2 : gt q (q.idxOf v) = v := by
      rw [← gt_elem (by omega)]
      exact List.getElem_idxOf (by omega)
    have := (hp.comp hq).idx hi
    rw [gt_comp (by omega), g1, g2] at this
    exact this
end
end L3
set_option maxHeartbeats 4000000
/-! S12: the law about orders. -/
namespace L3
open PySem L2
section
variable {sc : List Int} {st : Store} {a b c d : Int} {env : Ev} {n : Nat} {p q : List Nat}
theorem Typed.app {x : D} (h : Typed st x) (j : Store) : Typed (st ++ j) x := by
  unfold Typed at h ⊢
  cases x with
  | ref m =>
    simp only [tyOf] at h ⊢
    have hm : m < st.length := by
      cases e : st[m]? with
      | none => rw [e] at h; cases h
      | some o => exact (List.getElem?_eq_some_iff.mp e).1
    rw [List.getElem?_append_left hm]
    exact h
  | _ => exact h
theorem TypedT.app {x : D} (h : TypedT st x) (j : Store) : TypedT (st ++ j) x := by
  cases x with
  | tup ds => exact fun y hy => Typed.app (h y hy) j
  | _ => exact Typed.app h j
def kGo {α : Type} (m : List D → M α) (n n0 nk : Nat) (is : List Nat) (ds ks : List D) : M α := if ds.length = n0 ∧ ks.length = nk ∧ (ds ++ pick is ks).length = n then quiet (m (ds ++ pick is ks)) else fail
theorem callK_go {α : Type} (m : List D → M α) (n n0 nk : Nat) (is : List Nat) (ma mk : Ev → M (List D)) : callK m n n0 nk is ma mk env st = bnd (ma env) (fun ds => bnd (mk env) fun ks => kGo m n n0 nk is ds ks) st := (rfl)
theorem kGo_1 {α : Type} (m : List D → M α) (x : D) : kGo m 1 0 1 [0] [] [x] st = quietR (m [x] st) := (rfl)
theorem kGo_21 {α : Type} (m : List D → M α) (x y : D) : kGo m 2 0 2 [1, 0] [] [x, y] st = quietR (m [y, x] st) := (rfl)
theorem pick_1 (x : D) : pick [0] [x] = [x] := rfl
theorem pick_21 (x y : D) : pick [1, 0] [x, y] = [y, x] := rfl
theorem seq_ex {Q : Ev → Store → Prop} {s1 s2 : Ev → M Out} {e1 : Ev} {st1 : Store} (h : s1 env st = .ok (.nx e1) st1) (hb : ∃ e st', s2 e1 st1 = .ok (.nx e) st' ∧ Q e st') : ∃ e st', seqM s1 s2 env st = .ok (.nx e) st' ∧ Q e st' := by rw [seqM_nx h]; exact hb
theorem same_top {x y : D} (h : G.m__law_same_ 6 [x, y] st = .ok (.bl true) st) : G.m__law_same [x, y] st = .ok (.bl true) st := h
/-- if not _law_same([..], [..]): return False -/
theorem chk_ap {X Y : Ev → M (List D)} {L : List D} (hX : X env st = .ok L st) (hY : Y env (st ++ [.lst L]) = .ok L (st ++ [.lst L])) (hl : L.length ≤ 10) (hs : ∀ (s : Store), ∀ x ∈ L, G.m__law_same_ 5 [x, x] s = .ok (.bl true) s) :
    (ifS (notB (un1 toB (callM G.m__law_same 2 (consA (un1 alloc (onA mkLst X)) (consA (un1 alloc (onA mkLst Y)) nilA))))) (retS (cst (.bl false))) nilS) env st = .ok (.nx env) (st ++ [.lst L, .lst L]) := by
  have m1 : mkLst L st = .ok L st := mkLst_ap (by unfold line; omega)
  have m2 : mkLst L (st ++ [.lst L]) = .ok L (st ++ [.lst L]) := mkLst_ap (by unfold line; omega)
  have e : G.m__law_same [.ref st.length, .ref (st ++ [SObj.lst L]).length] (st ++ [.lst L, .lst L]) = .ok (.bl true) (st ++ [.lst L, .lst L]) := by
    refine same_top (same_list 5 (ds := L) (by rw [app_get0]; rfl) ?_ (by omega) (hs _))
    rw [show (st ++ [SObj.lst L]).length = st.length + 1 by simp, app_get]
    rfl
  simp only [ifS_ap, notB_ap, un1_ap, bnd_eq, callM_ap, consA_ap, nilA_ap, onA_ap, hX, hY, m1, m2, andThen_ok, alloc_ap, ret_ap, List.length_cons, List.length_nil, Nat.zero_add, if_true, ite_ap, quiet_ap, List.append_assoc, List.cons_append, List.nil_append, e, quietR_ok, toB_ap, Bool.not_true, Bool.false_eq_true, if_false, nilS_ap]
/-- .. of two values -/
theorem both_ap (hp : Pm n p) (hq : Pm n q) (s x2 x6 x8 x9 x10 x11 x12 x13 : Option D) : (lcM (un1 iterR1 (getV 3)) (asgN 7) yesM (bin ixV (getV 5) (bin ixV (getV 4) (getV 7))) [7]) [s, some (.ref 1), x2, some (.int (n : Int)), some (pD p), some (pD q), x6, none, x8, x9, x10, x11, x12, x13] st = .ok (di (nat (comp p q))) st := by
  have hlp := hp.len
  have h6 := hp.hi
  have lc := lc_mapL (st := st) (env := [s, some (.ref 1), x2, some (.int (n : Int)), some (pD p), some (pD q), x6, none, x8, x9, x10, x11, x12, x13]) (nxt := itR 0 n) (l := List.range n) (enc := fun k : Nat => D.int (0 + (k : Int))) (mi := un1 iterR1 (getV 3)) (asg := asgN 7) (el := bin ixV (getV 5) (bin ixV (getV 4) (getV 7))) (vs := [7]) (fun k => D.int (gt q (gt p k) : Nat)) (by
    have := iterR1_ap (st := st) (okR_small (n := n) (by omega))
    rw [Int.toNat_natCast] at this
    simp only [seqM_ap, setS_ap, parS_ap, asgS_ap, retS_ap, ifS_ap, dropS_ap, notB_ap, orB_ap, andB_ap, onA_ap, consA_ap, nilA_ap, callM_ap, callK_go, kGo_1, kGo_21, un1_ap, bin_ap, bnd_eq, getV_eq, List.getElem?_cons_zero, List.getElem?_cons_succ, optM_some, andThen_ok, cst_ap, ret_ap, toB_ap, List.length_cons, List.length_nil, Nat.zero_add, if_true, ite_ap, quiet_ap, quietR_ok, alloc_ap, List.set_cons_succ, List.set_cons_zero, par2_ap, asg2_ap, evM_some, thenS_nx, nilS_ap, addI_ap, intV_ap, lenQ_ap, tupQ_ap, eqD_int, Bool.not_true, Bool.false_eq_true, if_false, List.append_assoc, List.cons_append, List.nil_append, and_self, true_and, eq_self, Nat.reduceAdd, Nat.reduceEqDiff, this]) (itR_list 0 _) (by rw [List.length_range]; unfold line; omega) (fun k hk => by
      have hk : k < p.length := by rw [hlp]; exact List.mem_range.mp hk
      have i1 := ix_pD (st := st) hk
      have i2 := ix_pD (st := st) (hp.lt' hq _ (getD_mem hk))
      refine ⟨[s, some (.ref 1), x2, some (.int (n : Int)), some (pD p), some (pD q), x6, some (.int (0 + (k : Int))), x8, x9, x10, x11, x12, x13], rfl, ?_⟩
      simp only [seqM_ap, setS_ap, parS_ap, asgS_ap, retS_ap, ifS_ap, dropS_ap, notB_ap, orB_ap, andB_ap, onA_ap, consA_ap, nilA_ap, callM_ap, callK_go, kGo_1, kGo_21, un1_ap, bin_ap, bnd_eq, getV_eq, List.getElem?_cons_zero, List.getElem?_cons_succ, optM_some, andThen_ok, cst_ap, ret_ap, toB_ap, List.length_cons, List.length_nil, Nat.zero_add, if_true, ite_ap, quiet_ap, quietR_ok, alloc_ap, List.set_cons_succ, List.set_cons_zero, par2_ap, asg2_ap, evM_some, thenS_nx, nilS_ap, addI_ap, intV_ap, lenQ_ap, tupQ_ap, eqD_int, Bool.not_true, Bool.false_eq_true, if_false, List.append_assoc, List.cons_append, List.nil_append, and_self, true_and, eq_self, Nat.reduceAdd, Nat.reduceEqDiff, ixV_ap, pD_readQ, Int.zero_add, i1, i2])
  rw [lc]
  suffices e : ((List.range n).map fun k => D.int (gt q (gt p k) : Nat)) = di (nat (comp p q)) by rw [e]
  unfold di nat
  rw [List.map_map]
  have hc := comp_length p q
  apply List.ext_getElem
  · simp [hc, hlp]
  · intro i h1 h2
    have hi : i < p.length := by simpa [hc] using h2
    simp only [List.getElem_map, List.getElem_range, Function.comp]
    rw [gt_elem (p := comp p q) (by rw [hc]; exact hi), gt_comp hi]
theorem idx_ap (hp : Pm n p) (s x2 x5 x6 x8 x9 x10 x11 x12 x13 : Option D) : (lcM (un1 iterR1 (getV 3)) (asgN 7) yesM (indexM (getV 4) (getV 7)) [7]) [s, some (.ref 1), x2, some (.int (n : Int)), some (pD p), x5, x6, none, x8, x9, x10, x11, x12, x13] st = .ok (di (nat (inv p))) st := by
  have hlp := hp.len
  have h6 := hp.hi
  have lc := lc_mapL (st := st) (env := [s, some (.ref 1), x2, some (.int (n : Int)), some (pD p), x5, x6, none, x8, x9, x10, x11, x12, x13]) (nxt := itR 0 n) (l := List.range n) (enc := fun k : Nat => D.int (0 + (k : Int))) (mi := un1 iterR1 (getV 3)) (asg := asgN 7) (el := indexM (getV 4) (getV 7)) (vs := [7]) (fun k => D.int (p.idxOf k : Nat)) (by
    have := iterR1_ap (st := st) (okR_small (n := n) (by omega))
    rw [Int.toNat_natCast] at this
    simp only [seqM_ap, setS_ap, parS_ap, asgS_ap, retS_ap, ifS_ap, dropS_ap, notB_ap, orB_ap, andB_ap, onA_ap, consA_ap, nilA_ap, callM_ap, callK_go, kGo_1, kGo_21, un1_ap, bin_ap, bnd_eq, getV_eq, List.getElem?_cons_zero, List.getElem?_cons_succ, optM_some, andThen_ok, cst_ap, ret_ap, toB_ap, List.length_cons, List.length_nil, Nat.zero_add, if_true, ite_ap, quiet_ap, quietR_ok, alloc_ap, List.set_cons_succ, List.set_cons_zero, par2_ap, asg2_ap, evM_some, thenS_nx, nilS_ap, addI_ap, intV_ap, lenQ_ap, tupQ_ap, eqD_int, Bool.not_true, Bool.false_eq_true, if_false, List.append_assoc, List.cons_append, List.nil_append, and_self, true_and, eq_self, Nat.reduceAdd, Nat.reduceEqDiff, this]) (itR_list 0 _) (by rw [List.length_range]; unfold line; omega) (fun k hk => by
      have hk : k < n := List.mem_range.mp hk
      have hm : ((k : Nat) : Int) ∈ nat p := of_decide_eq_true (by rw [mem_nat]; exact decide_eq_true (hp.mem hk))
      have hix : ∀ l : List Nat, (nat l).idxOf (k : Int) = l.idxOf k := by
        intro l
        induction l with
        | nil => rfl
        | cons y l ih =>
          show ((y : Int) :: nat l).idxOf (k : Int) = _
          have hb : ((y : Int) == (k : Int)) = (y == k) := by
            by_cases e : y = k
            · subst e; rw [beq_self_eq_true, beq_self_eq_true]
            · have e' : ¬ (y : Int) = (k : Int) := fun z => e (by omega)
              rw [beq_false_of_ne e, beq_false_of_ne e']
          rw [List.idxOf_cons, List.idxOf_cons, ih, hb]
      have e1 : indexT (di (nat p)) (.int (k : Int)) st = .ok (.int (p.idxOf k : Nat)) st := by
        unfold indexT
        simp only [intsOf_di, hm, if_true, hix]
      have e0 : readT (pD p) st = .ok (di (nat p)) st := rfl
      refine ⟨[s, some (.ref 1), x2, some (.int (n : Int)), some (pD p), x5, x6, some (.int (0 + (k : Int))), x8, x9, x10, x11, x12, x13], rfl, ?_⟩
      simp only [seqM_ap, setS_ap, parS_ap, asgS_ap, retS_ap, ifS_ap, dropS_ap, notB_ap, orB_ap, andB_ap, onA_ap, consA_ap, nilA_ap, callM_ap, callK_go, kGo_1, kGo_21, un1_ap, bin_ap, bnd_eq, getV_eq, List.getElem?_cons_zero, List.getElem?_cons_succ, optM_some, andThen_ok, cst_ap, ret_ap, toB_ap, List.length_cons, List.length_nil, Nat.zero_add, if_true, ite_ap, quiet_ap, quietR_ok, alloc_ap, List.set_cons_succ, List.set_cons_zero, par2_ap, asg2_ap, evM_some, thenS_nx, nilS_ap, addI_ap, intV_ap, lenQ_ap, tupQ_ap, eqD_int, Bool.not_true, Bool.false_eq_true, if_false, List.append_assoc, List.cons_append, List.nil_append, and_self, true_and, eq_self, Nat.reduceAdd, Nat.reduceEqDiff, indexM_ap, e0, Int.zero_add, e1])
  rw [lc]
  suffices e : ((List.range n).map fun k => D.int (p.idxOf k : Nat)) = di (nat (inv p)) by rw [e]
  unfold di nat inv
  rw [List.map_map, List.map_map, hlp]
  rfl
theorem same5_pD (p : List Nat) (hp : p.length ≤ 1000) (s : Store) : G.m__law_same_ 5 [pD p, pD p] s = .ok (.bl true) s := same_pD 3 hp
theorem same5_tup (l : List Int) (hp : l.length ≤ 1000) (s : Store) : G.m__law_same_ 5 [.tup (di l), .tup (di l)] s = .ok (.bl true) s := same_tup 3 l hp
theorem same5_int (i : Int) (s : Store) : G.m__law_same_ 5 [.int i, .int i] s = .ok (.bl true) s := same_int 4 i
theorem same5_bl (i : Bool) (s : Store) : G.m__law_same_ 5 [.bl i, .bl i] s = .ok (.bl true) s := same_bl 4 i
theorem sgn_mod {m : Nat} {i : Int} (h : i = (m : Int)) : (i.fmod 2 = 0) ↔ (m % 2 = 0) := by
  subst h
  rw [Int.fmod_eq_emod_of_nonneg _ (by decide)]
  omega
theorem evenP (p : List Nat) : decide (invs p % 2 = 0) = sgn p := by
  unfold sgn
  cases e : Nat.beq (invs p % 2) 0 with
  | true => exact decide_eq_true (Nat.eq_of_beq_eq_true e)
  | false => exact decide_eq_false (Nat.ne_of_beq_eq_false e)
theorem even_sum (x y z : Nat) (h : (decide (z % 2 = 0)) = (decide (x % 2 = 0) == decide (y % 2 = 0))) : ((x + y) % 2 = 0) ↔ (z % 2 = 0) := by
  by_cases h1 : x % 2 = 0 <;> by_cases h2 : y % 2 = 0 <;> by_cases h3 : z % 2 = 0 <;> simp_all <;> omega
end
end L3
set_option maxHeartbeats 4000000
/-! S13: a turn of the law, the law. -/
namespace L3
open PySem L2 G
section
variable {sc : List Int} {st : Store} {a b c d : Int} {env : Ev} {n : Nat} {p q : List Nat}
theorem ids_ap (hn : n ≤ 6) (s x2 x4 x5 x6 x8 x9 x10 x11 x12 x13 : Option D) : (lcM (un1 iterR1 (getV 3)) (asgN 7) yesM (getV 7) [7]) [s, some (.ref 1), x2, some (.int (n : Int)), x4, x5, x6, none, x8, x9, x10, x11, x12, x13] st = .ok (di (nat (List.range n))) st := by
  have lc := lc_mapL (st := st) (env := [s, some (.ref 1), x2, some (.int (n : Int)), x4, x5, x6, none, x8, x9, x10, x11, x12, x13]) (nxt := itR 0 n) (l := List.range n) (enc := fun k : Nat => D.int (0 + (k : Int))) (mi := un1 iterR1 (getV 3)) (asg := asgN 7) (el := getV 7) (vs := [7]) (fun k => D.int (0 + (k : Int))) (by
    have := iterR1_ap (st := st) (okR_small (n := n) (by omega))
    rw [Int.toNat_natCast] at this
    simp only [seqM_ap, setS_ap, parS_ap, asgS_ap, retS_ap, ifS_ap, dropS_ap, notB_ap, orB_ap, andB_ap, onA_ap, consA_ap, nilA_ap, callM_ap, callK_go, kGo_1, kGo_21, un1_ap, bin_ap, bnd_eq, getV_eq, List.getElem?_cons_zero, List.getElem?_cons_succ, optM_some, andThen_ok, cst_ap, ret_ap, toB_ap, List.length_cons, List.length_nil, Nat.zero_add, if_true, ite_ap, quiet_ap, quietR_ok, alloc_ap, List.set_cons_succ, List.set_cons_zero, par2_ap, asg2_ap, evM_some, thenS_nx, nilS_ap, addI_ap, intV_ap, lenQ_ap, tupQ_ap, eqD_int, Bool.not_true, Bool.false_eq_true, if_false, List.append_assoc, List.cons_append, List.nil_append, and_self, true_and, eq_self, Nat.reduceAdd, Nat.reduceEqDiff, this]) (itR_list 0 _) (by rw [List.length_range]; unfold line; omega) (fun k hk =>
      ⟨[s, some (.ref 1), x2, some (.int (n : Int)), x4, x5, x6, some (.int (0 + (k : Int))), x8, x9, x10, x11, x12, x13], rfl, by simp only [getV_eq, List.getElem?_cons_zero, List.getElem?_cons_succ, optM_some]⟩)
  rw [lc, rg_map, rgI_nat]
theorem law_order_ap (h : Pm n p) {k : Nat} (hk : order p = some k) (s x2 x5 x6 x8 x9 x12 x13 : Option D) :
    ∃ w, (whileM (un1 toB (bin neD (getV 10) (un1 tupQ (lcM (un1 iterR1 (getV 3)) (asgN 7) yesM (getV 7) [7])))) (parS 10 11 (consA (un1 tupQ (lcM (un1 iterV (getV 10)) (asgN 7) yesM (bin ixV (getV 4) (getV 7)) [7])) (consA (bin addI (getV 11) (cst (.int 1))) nilA))) fuel) [s, some (.ref 1), x2, some (.int (n : Int)), some (pD p), x5, x6, none, x8, x9, some (pD p), some (.int 1), x12, x13] st = .ok (.nx [s, some (.ref 1), x2, some (.int (n : Int)), some (pD p), x5, x6, none, x8, x9, some (pD w), some (.int (k : Nat)), x12, x13]) st := by
  have hl := h.len
  have h6 := h.hi
  unfold order at hk
  rw [Option.map_eq_some_iff] at hk
  obtain ⟨⟨w, k'⟩, hrun, rfl⟩ := hk
  have W := while_run (c := (un1 toB (bin neD (getV 10) (un1 tupQ (lcM (un1 iterR1 (getV 3)) (asgN 7) yesM (getV 7) [7]))))) (b := (parS 10 11 (consA (un1 tupQ (lcM (un1 iterV (getV 10)) (asgN 7) yesM (bin ixV (getV 4) (getV 7)) [7])) (consA (bin addI (getV 11) (cst (.int 1))) nilA)))) (cond := ordC p.length) (next := ordN p)
    (fun t env st' => env = [s, some (.ref 1), x2, some (.int (n : Int)), some (pD p), x5, x6, none, x8, x9, some (pD t.1), some (.int (t.2 : Nat)), x12, x13] ∧ st' = st ∧ Pm n t.1)
    (fun t env st' hR => by
      obtain ⟨rfl, rfl, h1⟩ := hR
      have e1 := ids_ap (st := st') h6 s x2 (some (pD p)) x5 x6 x8 x9 (some (pD t.1)) (some (.int (t.2 : Nat))) x12 x13
      have e2 : neD (pD t.1) (.tup (di (nat (List.range n)))) st' = .ok (.bl (!decide (t.1 = List.range n))) st' := neD_pD t.1 (List.range n)
      simp only [seqM_ap, setS_ap, parS_ap, asgS_ap, retS_ap, ifS_ap, dropS_ap, notB_ap, orB_ap, andB_ap, onA_ap, consA_ap, nilA_ap, callM_ap, callK_go, kGo_1, kGo_21, un1_ap, bin_ap, bnd_eq, getV_eq, List.getElem?_cons_zero, List.getElem?_cons_succ, optM_some, andThen_ok, cst_ap, ret_ap, toB_ap, List.length_cons, List.length_nil, Nat.zero_add, if_true, ite_ap, quiet_ap, quietR_ok, alloc_ap, List.set_cons_succ, List.set_cons_zero, par2_ap, asg2_ap, evM_some, thenS_nx, nilS_ap, addI_ap, intV_ap, lenQ_ap, tupQ_ap, eqD_int, Bool.not_true, Bool.false_eq_true, if_false, List.append_assoc, List.cons_append, List.nil_append, and_self, true_and, eq_self, Nat.reduceAdd, Nat.reduceEqDiff, e1, e2]
      unfold ordC
      rw [hl])
    (fun t env st' hR hc => by
      obtain ⟨rfl, rfl, h1⟩ := hR
      have lc := lc_mapL (st := st') (env := [s, some (.ref 1), x2, some (.int (n : Int)), some (pD p), x5, x6, none, x8, x9, some (pD t.1), some (.int (t.2 : Nat)), x12, x13]) (nxt := itV (pD t.1)) (l := t.1) (enc := fun x : Nat => D.int (x : Int)) (mi := un1 iterV (getV 10)) (asg := asgN 7) (el := bin ixV (getV 4) (getV 7)) (vs := [7]) (fun x => .int (gt p x : Nat)) (by simp only [seqM_ap, setS_ap, parS_ap, asgS_ap, retS_ap, ifS_ap, dropS_ap, notB_ap, orB_ap, andB_ap, onA_ap, consA_ap, nilA_ap, callM_ap, callK_go, kGo_1, kGo_21, un1_ap, bin_ap, bnd_eq, getV_eq, List.getElem?_cons_zero, List.getElem?_cons_succ, optM_some, andThen_ok, cst_ap, ret_ap, toB_ap, List.length_cons, List.length_nil, Nat.zero_add, if_true, ite_ap, quiet_ap, quietR_ok, alloc_ap, List.set_cons_succ, List.set_cons_zero, par2_ap, asg2_ap, evM_some, thenS_nx, nilS_ap, addI_ap, intV_ap, lenQ_ap, tupQ_ap, eqD_int, Bool.not_true, Bool.false_eq_true, if_false, List.append_assoc, List.cons_append, List.nil_append, and_self, true_and, eq_self, Nat.reduceAdd, Nat.reduceEqDiff, iterV_pD]) (itV_pD t.1) h1.line
        (fun x hx => by
          have i1 := ix_pD (st := st') (h1.lt' h x hx)
          refine ⟨[s, some (.ref 1), x2, some (.int (n : Int)), some (pD p), x5, x6, some (.int (x : Int)), x8, x9, some (pD t.1), some (.int (t.2 : Nat)), x12, x13], rfl, ?_⟩
          simp only [seqM_ap, setS_ap, parS_ap, asgS_ap, retS_ap, ifS_ap, dropS_ap, notB_ap, orB_ap, andB_ap, onA_ap, consA_ap, nilA_ap, callM_ap, callK_go, kGo_1, kGo_21, un1_ap, bin_ap, bnd_eq, getV_eq, List.getElem?_cons_zero, List.getElem?_cons_succ, optM_some, andThen_ok, cst_ap, ret_ap, toB_ap, List.length_cons, List.length_nil, Nat.zero_add, if_true, ite_ap, quiet_ap, quietR_ok, alloc_ap, List.set_cons_succ, List.set_cons_zero, par2_ap, asg2_ap, evM_some, thenS_nx, nilS_ap, addI_ap, intV_ap, lenQ_ap, tupQ_ap, eqD_int, Bool.not_true, Bool.false_eq_true, if_false, List.append_assoc, List.cons_append, List.nil_append, and_self, true_and, eq_self, Nat.reduceAdd, Nat.reduceEqDiff, ixV_ap, pD_readQ, i1])
      have e : (t.1.map fun x : Nat => D.int (gt p x : Nat)) = di (nat (comp t.1 p)) := by unfold di nat comp; rw [List.map_map, List.map_map]; rfl
      rw [e] at lc
      refine ⟨[s, some (.ref 1), x2, some (.int (n : Int)), some (pD p), x5, x6, none, x8, x9, some (pD (comp t.1 p)), some (.int ((t.2 + 1 : Nat) : Int)), x12, x13], _, ?_, ⟨rfl, rfl, h1.comp h⟩⟩
      simp only [seqM_ap, setS_ap, parS_ap, asgS_ap, retS_ap, ifS_ap, dropS_ap, notB_ap, orB_ap, andB_ap, onA_ap, consA_ap, nilA_ap, callM_ap, callK_go, kGo_1, kGo_21, un1_ap, bin_ap, bnd_eq, getV_eq, List.getElem?_cons_zero, List.getElem?_cons_succ, optM_some, andThen_ok, cst_ap, ret_ap, toB_ap, List.length_cons, List.length_nil, Nat.zero_add, if_true, ite_ap, quiet_ap, quietR_ok, alloc_ap, List.set_cons_succ, List.set_cons_zero, par2_ap, asg2_ap, evM_some, thenS_nx, nilS_ap, addI_ap, intV_ap, lenQ_ap, tupQ_ap, eqD_int, Bool.not_true, Bool.false_eq_true, if_false, List.append_assoc, List.cons_append, List.nil_append, and_self, true_and, eq_self, Nat.reduceAdd, Nat.reduceEqDiff, lc]
      rfl)
    6 fuel (p, 1) (w, k') [s, some (.ref 1), x2, some (.int (n : Int)), some (pD p), x5, x6, none, x8, x9, some (pD p), some (.int (1 : Nat)), x12, x13] st (by unfold fuel; omega) hrun ⟨rfl, rfl, h⟩
  obtain ⟨e, st', q1, ⟨rfl, rfl, _⟩, _⟩ := W
  exact ⟨w, q1⟩
theorem turn_ap (F : Fd sc st a b c d) (s x2 x3 x4 x5 x6 x8 x9 x10 x11 x12 x13 : Option D) : ∃ e st', (seqM (setS 3 (bin addI (cst (.int 1)) (callM m__law_drawn 2 (consA (getV 1) (consA (cst (.int 6)) nilA))))) (seqM (asgS (asg2 4 5) (onA mkTup (consA (callM m__law_order 2 (consA (getV 1) (consA (getV 3) nilA))) (consA (callM m__law_order 2 (consA (getV 1) (consA (getV 3) nilA))) nilA)))) (seqM (setS 6 (un1 tupQ (lcM (un1 iterR1 (getV 3)) (asgN 7) yesM (bin ixV (getV 5) (bin ixV (getV 4) (getV 7))) [7]))) (seqM (ifS (notB (un1 toB (callM m__law_same 2 (consA (un1 alloc (onA mkLst (consA (callM m_then 2 (consA (getV 4) (consA (getV 5) nilA))) (consA (callK m_then 2 0 2 [1, 0] nilA (consA (getV 5) (consA (getV 4) nilA))) nilA)))) (consA (un1 alloc (onA mkLst (consA (getV 6) (consA (getV 6) nilA)))) nilA))))) (retS (cst (.bl false))) nilS) (seqM (setS 8 (callK m_inverse_permutation 1 0 1 [0] nilA (consA (getV 4) nilA))) (seqM (ifS (orB (notB (un1 toB (callM m__law_same 2 (consA (getV 8) (consA (un1 tupQ (lcM (un1 iterR1 (getV 3)) (asgN 7) yesM (indexM (getV 4) (getV 7)) [7])) nilA))))) (notB (un1 toB (callM m__law_same 2 (consA (callM m_inverse_permutation 1 (consA (getV 6) nilA)) (consA (callM m_then 2 (consA (callM m_inverse_permutation 1 (consA (getV 5) nilA)) (consA (getV 8) nilA))) nilA)))))) (retS (cst (.bl false))) nilS) (seqM (setS 9 (callM m__law_lengths 1 (consA (getV 4) nilA))) (seqM (ifS (notB (un1 toB (callM m__law_same 2 (consA (un1 alloc (onA mkLst (consA (callM m_cycle_pattern 1 (consA (getV 4) nilA)) (consA (callK m_cycle_pattern 1 0 1 [0] nilA (consA (getV 8) nilA)) nilA)))) (consA (un1 alloc (onA mkLst (consA (getV 9) (consA (getV 9) nilA)))) nilA))))) (retS (cst (.bl false))) nilS) (seqM (parS 10 11 (consA (getV 4) (consA (cst (.int 1)) nilA))) (seqM (whileM (un1 toB (bin neD (getV 10) (un1 tupQ (lcM (un1 iterR1 (getV 3)) (asgN 7) yesM (getV 7) [7])))) (parS 10 11 (consA (un1 tupQ (lcM (un1 iterV (getV 10)) (asgN 7) yesM (bin ixV (getV 4) (getV 7)) [7])) (consA (bin addI (getV 11) (cst (.int 1))) nilA))) fuel) (seqM (ifS (notB (un1 toB (callM m__law_same 2 (consA (un1 alloc (onA mkLst (consA (callM m_permutation_order 1 (consA (getV 4) nilA)) (consA (callK m_permutation_order 1 0 1 [0] nilA (consA (getV 4) nilA)) nilA)))) (consA (un1 alloc (onA mkLst (consA (getV 11) (consA (getV 11) nilA)))) nilA))))) (retS (cst (.bl false))) nilS) (seqM (setS 12 (bin eqD (bin modI (un1 intV (callM m__law_turned 1 (consA (getV 4) nilA))) (cst (.int 2))) (cst (.int 0)))) (seqM (ifS (notB (un1 toB (callM m__law_same 2 (consA (un1 alloc (onA mkLst (consA (callM m_is_even 1 (consA (getV 4) nilA)) (consA (callK m_is_even 1 0 1 [0] nilA (consA (getV 4) nilA)) (consA (callM m_is_even 1 (consA (getV 6) nilA)) nilA))))) (consA (un1 alloc (onA mkLst (consA (getV 12) (consA (getV 12) (consA (bin eqD (bin modI (un1 intV (bin addI (callM m__law_turned 1 (consA (getV 4) nilA)) (callM m__law_turned 1 (consA (getV 5) nilA)))) (cst (.int 2))) (cst (.int 0))) nilA))))) nilA))))) (retS (cst (.bl false))) nilS) (seqM (setS 13 (callM m__law_bent 2 (consA (getV 1) (consA (getV 4) nilA)))) (ifS (notB (un1 toB (callM m__law_same 2 (consA (un1 alloc (onA mkLst (consA (callM m_is_permutation 1 (consA (getV 4) nilA)) (consA (callK m_is_permutation 1 0 1 [0] nilA (consA (getV 6) nilA)) (consA (callM m_is_permutation 1 (consA (getV 13) nilA)) nilA))))) (consA (un1 alloc (onA mkLst (consA (cst (.bl true)) (consA (cst (.bl true)) (consA (callM m__law_is_one 1 (consA (getV 13) nilA)) nilA))))) nilA))))) (retS (cst (.bl false))) nilS))))))))))))))) [s, some (.ref 1), x2, x3, x4, x5, x6, none, x8, x9, x10, x11, x12, x13] st = .ok (.nx e) st' ∧ ((∃ y2 y3 y4 y5 y6 y8 y9 y10 y11 y12 y13, e = [s, some (.ref 1), y2, y3, y4, y5, y6, none, y8, y9, y10, y11, y12, y13]) ∧ ∃ a b c d, Fd sc st' a b c d) := by
  obtain ⟨k1, a1, b1, c1, d1, w1, l1, u1, F1⟩ := drawn_ap F (many := 6) (by decide) (by decide)
  obtain ⟨n, hn⟩ : ∃ n : Nat, (1 : Int) + k1 = (n : Int) := ⟨(1 + k1).toNat, by omega⟩
  have hn1 : 1 ≤ n := by omega
  have hn6 : n ≤ 6 := by omega
  refine seq_ex (e1 := [s, some (.ref 1), x2, some (.int (n : Int)), x4, x5, x6, none, x8, x9, x10, x11, x12, x13]) (st1 := st.set 1 (feed a1 b1 c1 d1)) (by simp only [seqM_ap, setS_ap, parS_ap, asgS_ap, retS_ap, ifS_ap, dropS_ap, notB_ap, orB_ap, andB_ap, onA_ap, consA_ap, nilA_ap, callM_ap, callK_go, kGo_1, kGo_21, un1_ap, bin_ap, bnd_eq, getV_eq, List.getElem?_cons_zero, List.getElem?_cons_succ, optM_some, andThen_ok, cst_ap, ret_ap, toB_ap, List.length_cons, List.length_nil, Nat.zero_add, if_true, ite_ap, quiet_ap, quietR_ok, alloc_ap, List.set_cons_succ, List.set_cons_zero, par2_ap, asg2_ap, evM_some, thenS_nx, nilS_ap, addI_ap, intV_ap, lenQ_ap, tupQ_ap, eqD_int, Bool.not_true, Bool.false_eq_true, if_false, List.append_assoc, List.cons_append, List.nil_append, and_self, true_and, eq_self, Nat.reduceAdd, Nat.reduceEqDiff, w1, hn]) ?_
  generalize st.set 1 (feed a1 b1 c1 d1) = S1 at *
  obtain ⟨p, a2, b2, c2, d2, hp, w2, F2⟩ := order_ap' F1 hn1 hn6
  obtain ⟨q, a3, b3, c3, d3, hq, w3, F3⟩ := order_ap' F2 hn1 hn6
  have m1 : ∀ (x y : D) (z : Store), mkTup [x, y] z = .ok (.tup [x, y]) z := fun x y z => mkTup_ap (by unfold line; simp)
  refine seq_ex (e1 := [s, some (.ref 1), x2, some (.int (n : Int)), some (pD p), some (pD q), x6, none, x8, x9, x10, x11, x12, x13]) (st1 := (S1.set 1 (feed a2 b2 c2 d2)).set 1 (feed a3 b3 c3 d3)) (by simp only [seqM_ap, setS_ap, parS_ap, asgS_ap, retS_ap, ifS_ap, dropS_ap, notB_ap, orB_ap, andB_ap, onA_ap, consA_ap, nilA_ap, callM_ap, callK_go, kGo_1, kGo_21, un1_ap, bin_ap, bnd_eq, getV_eq, List.getElem?_cons_zero, List.getElem?_cons_succ, optM_some, andThen_ok, cst_ap, ret_ap, toB_ap, List.length_cons, List.length_nil, Nat.zero_add, if_true, ite_ap, quiet_ap, quietR_ok, alloc_ap, List.set_cons_succ, List.set_cons_zero, par2_ap, asg2_ap, evM_some, thenS_nx, nilS_ap, addI_ap, intV_ap, lenQ_ap, tupQ_ap, eqD_int, Bool.not_true, Bool.false_eq_true, if_false, List.append_assoc, List.cons_append, List.nil_append, and_self, true_and, eq_self, Nat.reduceAdd, Nat.reduceEqDiff, w2, w3, m1]) ?_
  generalize (S1.set 1 (feed a2 b2 c2 d2)).set 1 (feed a3 b3 c3 d3) = S3 at *
  have hpq := hp.comp hq
  refine seq_ex (e1 := [s, some (.ref 1), x2, some (.int (n : Int)), some (pD p), some (pD q), some (pD (comp p q)), none, x8, x9, x10, x11, x12, x13]) (st1 := S3) (by simp only [seqM_ap, setS_ap, parS_ap, asgS_ap, retS_ap, ifS_ap, dropS_ap, notB_ap, orB_ap, andB_ap, onA_ap, consA_ap, nilA_ap, callM_ap, callK_go, kGo_1, kGo_21, un1_ap, bin_ap, bnd_eq, getV_eq, List.getElem?_cons_zero, List.getElem?_cons_succ, optM_some, andThen_ok, cst_ap, ret_ap, toB_ap, List.length_cons, List.length_nil, Nat.zero_add, if_true, ite_ap, quiet_ap, quietR_ok, alloc_ap, List.set_cons_succ, List.set_cons_zero, par2_ap, asg2_ap, evM_some, thenS_nx, nilS_ap, addI_ap, intV_ap, lenQ_ap, tupQ_ap, eqD_int, Bool.not_true, Bool.false_eq_true, if_false, List.append_assoc, List.cons_append, List.nil_append, and_self, true_and, eq_self, Nat.reduceAdd, Nat.reduceEqDiff, both_ap hp hq]; rfl) ?_
  have t2 : ∀ z : Store, G.m_then [pD p, pD q] z = .ok (pD (comp p q)) z := fun z => then_ap hp hq
  refine seq_ex (chk_ap (L := [pD (comp p q), pD (comp p q)]) (by simp only [seqM_ap, setS_ap, parS_ap, asgS_ap, retS_ap, ifS_ap, dropS_ap, notB_ap, orB_ap, andB_ap, onA_ap, consA_ap, nilA_ap, callM_ap, callK_go, kGo_1, kGo_21, un1_ap, bin_ap, bnd_eq, getV_eq, List.getElem?_cons_zero, List.getElem?_cons_succ, optM_some, andThen_ok, cst_ap, ret_ap, toB_ap, List.length_cons, List.length_nil, Nat.zero_add, if_true, ite_ap, quiet_ap, quietR_ok, alloc_ap, List.set_cons_succ, List.set_cons_zero, par2_ap, asg2_ap, evM_some, thenS_nx, nilS_ap, addI_ap, intV_ap, lenQ_ap, tupQ_ap, eqD_int, Bool.not_true, Bool.false_eq_true, if_false, List.append_assoc, List.cons_append, List.nil_append, and_self, true_and, eq_self, Nat.reduceAdd, Nat.reduceEqDiff, t2]) (by simp only [seqM_ap, setS_ap, parS_ap, asgS_ap, retS_ap, ifS_ap, dropS_ap, notB_ap, orB_ap, andB_ap, onA_ap, consA_ap, nilA_ap, callM_ap, callK_go, kGo_1, kGo_21, un1_ap, bin_ap, bnd_eq, getV_eq, List.getElem?_cons_zero, List.getElem?_cons_succ, optM_some, andThen_ok, cst_ap, ret_ap, toB_ap, List.length_cons, List.length_nil, Nat.zero_add, if_true, ite_ap, quiet_ap, quietR_ok, alloc_ap, List.set_cons_succ, List.set_cons_zero, par2_ap, asg2_ap, evM_some, thenS_nx, nilS_ap, addI_ap, intV_ap, lenQ_ap, tupQ_ap, eqD_int, Bool.not_true, Bool.false_eq_true, if_false, List.append_assoc, List.cons_append, List.nil_append, and_self, true_and, eq_self, Nat.reduceAdd, Nat.reduceEqDiff]) (by simp) (fun z x hx => by
    simp only [List.mem_cons, List.not_mem_nil, or_false, or_self] at hx
    subst hx
    exact same5_pD _ (by rw [hpq.len]; omega) z)) ?_
  have F4 := F3.app [SObj.lst [pD (comp p q), pD (comp p q)], SObj.lst [pD (comp p q), pD (comp p q)]]
  generalize S3 ++ [SObj.lst [pD (comp p q), pD (comp p q)], SObj.lst [pD (comp p q), pD (comp p q)]] = S4 at *
  have i1 : ∀ z : Store, G.m_inverse_permutation [pD p] z = .ok (pD (inv p)) z := fun z => inverse_ap hp
  have i2 : ∀ z : Store, G.m_inverse_permutation [pD q] z = .ok (pD (inv q)) z := fun z => inverse_ap hq
  have i3 : ∀ z : Store, G.m_inverse_permutation [pD (comp p q)] z = .ok (pD (inv (comp p q))) z := fun z => inverse_ap hpq
  refine seq_ex (e1 := [s, some (.ref 1), x2, some (.int (n : Int)), some (pD p), some (pD q), some (pD (comp p q)), none, some (pD (inv p)), x9, x10, x11, x12, x13]) (st1 := S4) (by simp only [seqM_ap, setS_ap, parS_ap, asgS_ap, retS_ap, ifS_ap, dropS_ap, notB_ap, orB_ap, andB_ap, onA_ap, consA_ap, nilA_ap, callM_ap, callK_go, kGo_1, kGo_21, un1_ap, bin_ap, bnd_eq, getV_eq, List.getElem?_cons_zero, List.getElem?_cons_succ, optM_some, andThen_ok, cst_ap, ret_ap, toB_ap, List.length_cons, List.length_nil, Nat.zero_add, if_true, ite_ap, quiet_ap, quietR_ok, alloc_ap, List.set_cons_succ, List.set_cons_zero, par2_ap, asg2_ap, evM_some, thenS_nx, nilS_ap, addI_ap, intV_ap, lenQ_ap, tupQ_ap, eqD_int, Bool.not_true, Bool.false_eq_true, if_false, List.append_assoc, List.cons_append, List.nil_append, and_self, true_and, eq_self, Nat.reduceAdd, Nat.reduceEqDiff, i1]) ?_
  have t3 : ∀ z : Store, G.m_then [pD (inv q), pD (inv p)] z = .ok (pD (inv (comp p q))) z := fun z => by rw [then_ap hq.inv hp.inv, inv_comp hp hq]
  have s1 : ∀ z : Store, G.m__law_same [pD (inv p), .tup (di (nat (inv p)))] z = .ok (.bl true) z := fun z => same_pD 4 (by rw [hp.inv.len]; omega)
  have s2 : ∀ z : Store, G.m__law_same [pD (inv (comp p q)), pD (inv (comp p q))] z = .ok (.bl true) z := fun z => same_pD 4 (by rw [hpq.inv.len]; omega)
  refine seq_ex (e1 := [s, some (.ref 1), x2, some (.int (n : Int)), some (pD p), some (pD q), some (pD (comp p q)), none, some (pD (inv p)), x9, x10, x11, x12, x13]) (st1 := S4) (by simp only [seqM_ap, setS_ap, parS_ap, asgS_ap, retS_ap, ifS_ap, dropS_ap, notB_ap, orB_ap, andB_ap, onA_ap, consA_ap, nilA_ap, callM_ap, callK_go, kGo_1, kGo_21, un1_ap, bin_ap, bnd_eq, getV_eq, List.getElem?_cons_zero, List.getElem?_cons_succ, optM_some, andThen_ok, cst_ap, ret_ap, toB_ap, List.length_cons, List.length_nil, Nat.zero_add, if_true, ite_ap, quiet_ap, quietR_ok, alloc_ap, List.set_cons_succ, List.set_cons_zero, par2_ap, asg2_ap, evM_some, thenS_nx, nilS_ap, addI_ap, intV_ap, lenQ_ap, tupQ_ap, eqD_int, Bool.not_true, Bool.false_eq_true, if_false, List.append_assoc, List.cons_append, List.nil_append, and_self, true_and, eq_self, Nat.reduceAdd, Nat.reduceEqDiff, idx_ap hp, i2, i3, t3, s1, s2]) ?_
  obtain ⟨cc, k, y1, y2, y3, y4, y5, y6, y7⟩ := hp.known
  obtain ⟨cq, kq, z1, z2, z3, z4, z5, z6, z7⟩ := hq.known
  obtain ⟨cb, kb, v1, v2, v3, v4, v5, v6, v7⟩ := hpq.known
  have l1 : ∀ z : Store, G.m__law_lengths [pD p] z = .ok (.tup (di (sortI (nat cc)))) z := fun z => law_lengths_ap hp y2
  refine seq_ex (e1 := [s, some (.ref 1), x2, some (.int (n : Int)), some (pD p), some (pD q), some (pD (comp p q)), none, some (pD (inv p)), some (.tup (di (sortI (nat cc)))), x10, x11, x12, x13]) (st1 := S4) (by simp only [seqM_ap, setS_ap, parS_ap, asgS_ap, retS_ap, ifS_ap, dropS_ap, notB_ap, orB_ap, andB_ap, onA_ap, consA_ap, nilA_ap, callM_ap, callK_go, kGo_1, kGo_21, un1_ap, bin_ap, bnd_eq, getV_eq, List.getElem?_cons_zero, List.getElem?_cons_succ, optM_some, andThen_ok, cst_ap, ret_ap, toB_ap, List.length_cons, List.length_nil, Nat.zero_add, if_true, ite_ap, quiet_ap, quietR_ok, alloc_ap, List.set_cons_succ, List.set_cons_zero, par2_ap, asg2_ap, evM_some, thenS_nx, nilS_ap, addI_ap, intV_ap, lenQ_ap, tupQ_ap, eqD_int, Bool.not_true, Bool.false_eq_true, if_false, List.append_assoc, List.cons_append, List.nil_append, and_self, true_and, eq_self, Nat.reduceAdd, Nat.reduceEqDiff, l1]) ?_
  have p1 : ∀ z : Store, G.m_cycle_pattern [pD p] z = .ok (.tup (di (sortI (nat cc)))) z := fun z => cycle_pattern_ap hp y1 (by omega)
  have p2 : ∀ z : Store, G.m_cycle_pattern [pD (inv p)] z = .ok (.tup (di (sortI (nat cc)))) z := fun z => cycle_pattern_ap hp.inv y3 (by omega)
  refine seq_ex (chk_ap (L := [.tup (di (sortI (nat cc))), .tup (di (sortI (nat cc)))]) (by simp only [seqM_ap, setS_ap, parS_ap, asgS_ap, retS_ap, ifS_ap, dropS_ap, notB_ap, orB_ap, andB_ap, onA_ap, consA_ap, nilA_ap, callM_ap, callK_go, kGo_1, kGo_21, un1_ap, bin_ap, bnd_eq, getV_eq, List.getElem?_cons_zero, List.getElem?_cons_succ, optM_some, andThen_ok, cst_ap, ret_ap, toB_ap, List.length_cons, List.length_nil, Nat.zero_add, if_true, ite_ap, quiet_ap, quietR_ok, alloc_ap, List.set_cons_succ, List.set_cons_zero, par2_ap, asg2_ap, evM_some, thenS_nx, nilS_ap, addI_ap, intV_ap, lenQ_ap, tupQ_ap, eqD_int, Bool.not_true, Bool.false_eq_true, if_false, List.append_assoc, List.cons_append, List.nil_append, and_self, true_and, eq_self, Nat.reduceAdd, Nat.reduceEqDiff, p1, p2]) (by simp only [seqM_ap, setS_ap, parS_ap, asgS_ap, retS_ap, ifS_ap, dropS_ap, notB_ap, orB_ap, andB_ap, onA_ap, consA_ap, nilA_ap, callM_ap, callK_go, kGo_1, kGo_21, un1_ap, bin_ap, bnd_eq, getV_eq, List.getElem?_cons_zero, List.getElem?_cons_succ, optM_some, andThen_ok, cst_ap, ret_ap, toB_ap, List.length_cons, List.length_nil, Nat.zero_add, if_true, ite_ap, quiet_ap, quietR_ok, alloc_ap, List.set_cons_succ, List.set_cons_zero, par2_ap, asg2_ap, evM_some, thenS_nx, nilS_ap, addI_ap, intV_ap, lenQ_ap, tupQ_ap, eqD_int, Bool.not_true, Bool.false_eq_true, if_false, List.append_assoc, List.cons_append, List.nil_append, and_self, true_and, eq_self, Nat.reduceAdd, Nat.reduceEqDiff]) (by simp) (fun z x hx => by
    simp only [List.mem_cons, List.not_mem_nil, or_false, or_self] at hx
    subst hx
    exact same5_tup _ (by rw [(sortI_perm _).length_eq, nat_length]; omega) z)) ?_
  have F5 := F4.app [SObj.lst [.tup (di (sortI (nat cc))), .tup (di (sortI (nat cc)))], SObj.lst [.tup (di (sortI (nat cc))), .tup (di (sortI (nat cc)))]]
  generalize S4 ++ [SObj.lst [.tup (di (sortI (nat cc))), .tup (di (sortI (nat cc)))], SObj.lst [.tup (di (sortI (nat cc))), .tup (di (sortI (nat cc)))]] = S5 at *
  refine seq_ex (e1 := [s, some (.ref 1), x2, some (.int (n : Int)), some (pD p), some (pD q), some (pD (comp p q)), none, some (pD (inv p)), some (.tup (di (sortI (nat cc)))), some (pD p), some (.int 1), x12, x13]) (st1 := S5) (by simp only [seqM_ap, setS_ap, parS_ap, asgS_ap, retS_ap, ifS_ap, dropS_ap, notB_ap, orB_ap, andB_ap, onA_ap, consA_ap, nilA_ap, callM_ap, callK_go, kGo_1, kGo_21, un1_ap, bin_ap, bnd_eq, getV_eq, List.getElem?_cons_zero, List.getElem?_cons_succ, optM_some, andThen_ok, cst_ap, ret_ap, toB_ap, List.length_cons, List.length_nil, Nat.zero_add, if_true, ite_ap, quiet_ap, quietR_ok, alloc_ap, List.set_cons_succ, List.set_cons_zero, par2_ap, asg2_ap, evM_some, thenS_nx, nilS_ap, addI_ap, intV_ap, lenQ_ap, tupQ_ap, eqD_int, Bool.not_true, Bool.false_eq_true, if_false, List.append_assoc, List.cons_append, List.nil_append, and_self, true_and, eq_self, Nat.reduceAdd, Nat.reduceEqDiff]) ?_
  obtain ⟨w, hw⟩ := law_order_ap (st := S5) hp y4 s x2 (some (pD q)) (some (pD (comp p q))) (some (pD (inv p))) (some (.tup (di (sortI (nat cc))))) x12 x13
  refine seq_ex hw ?_
  have o1 : ∀ z : Store, G.m_permutation_order [pD p] z = .ok (.int (k : Nat)) z := fun z => order_ap hp y4
  refine seq_ex (chk_ap (L := [.int (k : Nat), .int (k : Nat)]) (by simp only [seqM_ap, setS_ap, parS_ap, asgS_ap, retS_ap, ifS_ap, dropS_ap, notB_ap, orB_ap, andB_ap, onA_ap, consA_ap, nilA_ap, callM_ap, callK_go, kGo_1, kGo_21, un1_ap, bin_ap, bnd_eq, getV_eq, List.getElem?_cons_zero, List.getElem?_cons_succ, optM_some, andThen_ok, cst_ap, ret_ap, toB_ap, List.length_cons, List.length_nil, Nat.zero_add, if_true, ite_ap, quiet_ap, quietR_ok, alloc_ap, List.set_cons_succ, List.set_cons_zero, par2_ap, asg2_ap, evM_some, thenS_nx, nilS_ap, addI_ap, intV_ap, lenQ_ap, tupQ_ap, eqD_int, Bool.not_true, Bool.false_eq_true, if_false, List.append_assoc, List.cons_append, List.nil_append, and_self, true_and, eq_self, Nat.reduceAdd, Nat.reduceEqDiff, o1]) (by simp only [seqM_ap, setS_ap, parS_ap, asgS_ap, retS_ap, ifS_ap, dropS_ap, notB_ap, orB_ap, andB_ap, onA_ap, consA_ap, nilA_ap, callM_ap, callK_go, kGo_1, kGo_21, un1_ap, bin_ap, bnd_eq, getV_eq, List.getElem?_cons_zero, List.getElem?_cons_succ, optM_some, andThen_ok, cst_ap, ret_ap, toB_ap, List.length_cons, List.length_nil, Nat.zero_add, if_true, ite_ap, quiet_ap, quietR_ok, alloc_ap, List.set_cons_succ, List.set_cons_zero, par2_ap, asg2_ap, evM_some, thenS_nx, nilS_ap, addI_ap, intV_ap, lenQ_ap, tupQ_ap, eqD_int, Bool.not_true, Bool.false_eq_true, if_false, List.append_assoc, List.cons_append, List.nil_append, and_self, true_and, eq_self, Nat.reduceAdd, Nat.reduceEqDiff]) (by simp) (fun z x hx => by
    simp only [List.mem_cons, List.not_mem_nil, or_false, or_self] at hx
    subst hx
    exact same5_int _ z)) ?_
  have F6 := F5.app [SObj.lst [.int (k : Nat), .int (k : Nat)], SObj.lst [.int (k : Nat), .int (k : Nat)]]
  generalize S5 ++ [SObj.lst [.int (k : Nat), .int (k : Nat)], SObj.lst [.int (k : Nat), .int (k : Nat)]] = S6 at *
  have u1 : ∀ z : Store, G.m__law_turned [pD p] z = .ok (.int (turned p : Nat)) z := fun z => turned_ap hp
  have u2 : ∀ z : Store, G.m__law_turned [pD q] z = .ok (.int (turned q : Nat)) z := fun z => turned_ap hq
  have f1 : ∀ (i : Int) (z : Store), modI (.int i) (.int 2) z = .ok (.int (i.fmod 2)) z := fun i z => modI_ap (by decide)
  have g1 : decide (((turned p : Nat) : Int).fmod 2 = 0) = sgn p := by rw [← evenP, ← y7]; simp only [sgn_mod (i := ((turned p : Nat) : Int)) rfl]
  have g2 : decide ((((turned p : Nat) : Int) + ((turned q : Nat) : Int)).fmod 2 = 0) = sgn (comp p q) := by
    rw [← evenP (comp p q)]
    have e0 := sgn_comp _ (Nat.le_refl _) hp hq
    rw [← evenP, ← evenP, ← evenP] at e0
    have := even_sum (invs p) (invs q) (invs (comp p q)) e0
    have e1 : (((turned p : Nat) : Int) + ((turned q : Nat) : Int)) = ((invs p + invs q : Nat) : Int) := by rw [y7, z7]; omega
    rw [e1]
    simp only [sgn_mod (i := ((invs p + invs q : Nat) : Int)) rfl, this]
  refine seq_ex (e1 := [s, some (.ref 1), x2, some (.int (n : Int)), some (pD p), some (pD q), some (pD (comp p q)), none, some (pD (inv p)), some (.tup (di (sortI (nat cc)))), some (pD w), some (.int (k : Nat)), some (.bl (sgn p)), x13]) (st1 := S6) (by simp only [seqM_ap, setS_ap, parS_ap, asgS_ap, retS_ap, ifS_ap, dropS_ap, notB_ap, orB_ap, andB_ap, onA_ap, consA_ap, nilA_ap, callM_ap, callK_go, kGo_1, kGo_21, un1_ap, bin_ap, bnd_eq, getV_eq, List.getElem?_cons_zero, List.getElem?_cons_succ, optM_some, andThen_ok, cst_ap, ret_ap, toB_ap, List.length_cons, List.length_nil, Nat.zero_add, if_true, ite_ap, quiet_ap, quietR_ok, alloc_ap, List.set_cons_succ, List.set_cons_zero, par2_ap, asg2_ap, evM_some, thenS_nx, nilS_ap, addI_ap, intV_ap, lenQ_ap, tupQ_ap, eqD_int, Bool.not_true, Bool.false_eq_true, if_false, List.append_assoc, List.cons_append, List.nil_append, and_self, true_and, eq_self, Nat.reduceAdd, Nat.reduceEqDiff, u1, f1, g1]) ?_
  have v1' : ∀ z : Store, G.m_is_even [pD p] z = .ok (.bl (sgn p)) z := fun z => by rw [is_even_ap hp y1 (by omega), y6]
  have v2' : ∀ z : Store, G.m_is_even [pD (comp p q)] z = .ok (.bl (sgn (comp p q))) z := fun z => by rw [is_even_ap hpq v1 (by omega), v6]
  refine seq_ex (chk_ap (L := [.bl (sgn p), .bl (sgn p), .bl (sgn (comp p q))]) (by simp only [seqM_ap, setS_ap, parS_ap, asgS_ap, retS_ap, ifS_ap, dropS_ap, notB_ap, orB_ap, andB_ap, onA_ap, consA_ap, nilA_ap, callM_ap, callK_go, kGo_1, kGo_21, un1_ap, bin_ap, bnd_eq, getV_eq, List.getElem?_cons_zero, List.getElem?_cons_succ, optM_some, andThen_ok, cst_ap, ret_ap, toB_ap, List.length_cons, List.length_nil, Nat.zero_add, if_true, ite_ap, quiet_ap, quietR_ok, alloc_ap, List.set_cons_succ, List.set_cons_zero, par2_ap, asg2_ap, evM_some, thenS_nx, nilS_ap, addI_ap, intV_ap, lenQ_ap, tupQ_ap, eqD_int, Bool.not_true, Bool.false_eq_true, if_false, List.append_assoc, List.cons_append, List.nil_append, and_self, true_and, eq_self, Nat.reduceAdd, Nat.reduceEqDiff, v1', v2']) (by simp only [seqM_ap, setS_ap, parS_ap, asgS_ap, retS_ap, ifS_ap, dropS_ap, notB_ap, orB_ap, andB_ap, onA_ap, consA_ap, nilA_ap, callM_ap, callK_go, kGo_1, kGo_21, un1_ap, bin_ap, bnd_eq, getV_eq, List.getElem?_cons_zero, List.getElem?_cons_succ, optM_some, andThen_ok, cst_ap, ret_ap, toB_ap, List.length_cons, List.length_nil, Nat.zero_add, if_true, ite_ap, quiet_ap, quietR_ok, alloc_ap, List.set_cons_succ, List.set_cons_zero, par2_ap, asg2_ap, evM_some, thenS_nx, nilS_ap, addI_ap, intV_ap, lenQ_ap, tupQ_ap, eqD_int, Bool.not_true, Bool.false_eq_true, if_false, List.append_assoc, List.cons_append, List.nil_append, and_self, true_and, eq_self, Nat.reduceAdd, Nat.reduceEqDiff, u1, u2, f1, g2]) (by simp) (fun z x hx => by
    simp only [List.mem_cons, List.not_mem_nil, or_false] at hx
    rcases hx with rfl | rfl | rfl <;> exact same5_bl _ z)) ?_
  have F7 := F6.app [SObj.lst [.bl (sgn p), .bl (sgn p), .bl (sgn (comp p q))], SObj.lst [.bl (sgn p), .bl (sgn p), .bl (sgn (comp p q))]]
  generalize S6 ++ [SObj.lst [.bl (sgn p), .bl (sgn p), .bl (sgn (comp p q))], SObj.lst [.bl (sgn p), .bl (sgn p), .bl (sgn (comp p q))]] = S7 at *
  obtain ⟨v, a8, b8, c8, d8, j8, w8, F8, T8⟩ := bent_ap F7 hp
  have F8 := F8.app j8
  refine seq_ex (e1 := [s, some (.ref 1), x2, some (.int (n : Int)), some (pD p), some (pD q), some (pD (comp p q)), none, some (pD (inv p)), some (.tup (di (sortI (nat cc)))), some (pD w), some (.int (k : Nat)), some (.bl (sgn p)), some v]) (st1 := S7.set 1 (feed a8 b8 c8 d8) ++ j8) (by simp only [seqM_ap, setS_ap, parS_ap, asgS_ap, retS_ap, ifS_ap, dropS_ap, notB_ap, orB_ap, andB_ap, onA_ap, consA_ap, nilA_ap, callM_ap, callK_go, kGo_1, kGo_21, un1_ap, bin_ap, bnd_eq, getV_eq, List.getElem?_cons_zero, List.getElem?_cons_succ, optM_some, andThen_ok, cst_ap, ret_ap, toB_ap, List.length_cons, List.length_nil, Nat.zero_add, if_true, ite_ap, quiet_ap, quietR_ok, alloc_ap, List.set_cons_succ, List.set_cons_zero, par2_ap, asg2_ap, evM_some, thenS_nx, nilS_ap, addI_ap, intV_ap, lenQ_ap, tupQ_ap, eqD_int, Bool.not_true, Bool.false_eq_true, if_false, List.append_assoc, List.cons_append, List.nil_append, and_self, true_and, eq_self, Nat.reduceAdd, Nat.reduceEqDiff, w8]) ?_
  generalize S7.set 1 (feed a8 b8 c8 d8) ++ j8 = S8 at *
  have r1 : ∀ z : Store, G.m_is_permutation [pD p] z = .ok (.bl true) z := fun z => is_perm_ap hp
  have r2 : ∀ z : Store, G.m_is_permutation [pD (comp p q)] z = .ok (.bl true) z := fun z => is_perm_ap hpq
  have r3 : G.m_is_permutation [v] S8 = .ok (.bl (permD v)) S8 := is_permutation_ap T8
  have T9 : TypedT (S8 ++ [SObj.lst [.bl true, .bl true, .bl (permD v)]]) v := T8.app _
  have r4 : G.m__law_is_one [v] (S8 ++ [SObj.lst [.bl true, .bl true, .bl (permD v)]]) = .ok (.bl (permD v)) _ := is_one_ap T9
  have CK := chk_ap (env := [s, some (.ref 1), x2, some (.int (n : Int)), some (pD p), some (pD q), some (pD (comp p q)), none, some (pD (inv p)), some (.tup (di (sortI (nat cc)))), some (pD w), some (.int (k : Nat)), some (.bl (sgn p)), some v]) (st := S8) (X := (consA (callM G.m_is_permutation 1 (consA (getV 4) nilA)) (consA (callK G.m_is_permutation 1 0 1 [0] nilA (consA (getV 6) nilA)) (consA (callM G.m_is_permutation 1 (consA (getV 13) nilA)) nilA)))) (Y := (consA (cst (.bl true)) (consA (cst (.bl true)) (consA (callM G.m__law_is_one 1 (consA (getV 13) nilA)) nilA)))) (L := [.bl true, .bl true, .bl (permD v)]) (by simp only [seqM_ap, setS_ap, parS_ap, asgS_ap, retS_ap, ifS_ap, dropS_ap, notB_ap, orB_ap, andB_ap, onA_ap, consA_ap, nilA_ap, callM_ap, callK_go, kGo_1, kGo_21, un1_ap, bin_ap, bnd_eq, getV_eq, List.getElem?_cons_zero, List.getElem?_cons_succ, optM_some, andThen_ok, cst_ap, ret_ap, toB_ap, List.length_cons, List.length_nil, Nat.zero_add, if_true, ite_ap, quiet_ap, quietR_ok, alloc_ap, List.set_cons_succ, List.set_cons_zero, par2_ap, asg2_ap, evM_some, thenS_nx, nilS_ap, addI_ap, intV_ap, lenQ_ap, tupQ_ap, eqD_int, Bool.not_true, Bool.false_eq_true, if_false, List.append_assoc, List.cons_append, List.nil_append, and_self, true_and, eq_self, Nat.reduceAdd, Nat.reduceEqDiff, r1, r2, r3]) (by simp only [seqM_ap, setS_ap, parS_ap, asgS_ap, retS_ap, ifS_ap, dropS_ap, notB_ap, orB_ap, andB_ap, onA_ap, consA_ap, nilA_ap, callM_ap, callK_go, kGo_1, kGo_21, un1_ap, bin_ap, bnd_eq, getV_eq, List.getElem?_cons_zero, List.getElem?_cons_succ, optM_some, andThen_ok, cst_ap, ret_ap, toB_ap, List.length_cons, List.length_nil, Nat.zero_add, if_true, ite_ap, quiet_ap, quietR_ok, alloc_ap, List.set_cons_succ, List.set_cons_zero, par2_ap, asg2_ap, evM_some, thenS_nx, nilS_ap, addI_ap, intV_ap, lenQ_ap, tupQ_ap, eqD_int, Bool.not_true, Bool.false_eq_true, if_false, List.append_assoc, List.cons_append, List.nil_append, and_self, true_and, eq_self, Nat.reduceAdd, Nat.reduceEqDiff, r4]) (by simp) (fun z x hx => by
    simp only [List.mem_cons, List.not_mem_nil, or_false] at hx
    rcases hx with rfl | rfl | rfl <;> exact same5_bl _ z)
  exact ⟨_, _, CK, ⟨_, _, _, _, _, _, _, _, _, _, _, rfl⟩, _, _, _, _, F8.app _⟩
end
end L3
set_option maxHeartbeats 4000000
/-! S14: the law holds of the mirrors. -/
namespace L3
open PySem L2 G
theorem readQ_frl' (ds : List D) (st : Store) : readQ (.frl ds) st = .ok ds st := rfl
theorem feed_ap (ns : List Int) : G.m__law_feed [.frl (di ns)] [] = .ok (.ref 1) [.lst (di ns), feed 0 0 5 0] := by
  have m : ∀ (l : List D) (s : Store), l.length ≤ 10 → mkLst l s = .ok l s := fun l s h => mkLst_ap (by unfold line; omega)
  have body : G.b__law_feed (env0 1 [.frl (di ns)]) [] = .ok (.rt (.ref 1)) [.lst (di ns), feed 0 0 5 0] := by
    unfold G.b__law_feed
    have ee : ([some (.frl (di ns))] ++ List.replicate (1 - (0 + 1)) none : Ev) = [some (.frl (di ns))] := rfl
    simp only [env0_eq, List.map_cons, List.map_nil, List.length_cons, List.length_nil, ee, retS_ap, un1_ap, onA_ap, consA_ap, nilA_ap, bnd_eq, getV_eq, List.getElem?_cons_zero, optM_some, andThen_ok, readQ_frl', listQ_ap, alloc_ap, cst_ap, ret_ap, List.nil_append]
    rw [m _ _ (by simp)]
    simp only [andThen_ok, alloc_ap, ret_ap]
    rfl
  show fnV 1 G.b__law_feed [.frl (di ns)] [] = _
  rw [fnV_ap, bnd_ok (m := bnd (G.b__law_feed (env0 1 [.frl (di ns)])) outV) (a := .ref 1) (st' := [.lst (di ns), feed 0 0 5 0]) (by rw [bnd_ok body]; rfl)]
  rfl
theorem law_true (ns : List Int) (hl : ns.length ≤ 63) : ∃ st', G.m_law [.frl (ns.map D.int)] [] = .ok (.bl true) st' := by
  have F0 : Fd ns [.lst (di ns), feed 0 0 5 0] 0 0 5 0 := ⟨rfl, rfl, by decide, by omega, by decide, by decide, by decide⟩
  have ee : ([some (.frl (di ns))] ++ List.replicate (14 - (0 + 1)) none : Ev) = [some (.frl (di ns)), none, none, none, none, none, none, none, none, none, none, none, none, none] := rfl
  obtain ⟨N, hN⟩ : ∃ N : Nat, (if (2 : Int) + (ns.length : Int) < 12 then (2 : Int) + (ns.length : Int) else 12) = (N : Int) := ⟨(if (2 : Int) + (ns.length : Int) < 12 then (2 : Int) + (ns.length : Int) else 12).toNat, by split <;> omega⟩
  have hN2 : N ≤ 12 := by split at hN <;> omega
  have L := for_all (st := [.lst (di ns), feed 0 0 5 0]) (env := [some (.frl (di ns)), some (.ref 1), none, none, none, none, none, none, none, none, none, none, none, none]) (nxt := itR 0 N) (ds := (List.range N).map fun k : Nat => D.int (0 + (k : Int))) (mi := (un1 iterR1 (bin min2 (cst (.int 12)) (bin addI (cst (.int 2)) (un1 lenQ (un1 readQ (getV 0))))))) (asg := asgN 2)
    (fun _ env st => (∃ y2 y3 y4 y5 y6 y8 y9 y10 y11 y12 y13, env = [some (.frl (di ns)), some (.ref 1), y2, y3, y4, y5, y6, none, y8, y9, y10, y11, y12, y13]) ∧ ∃ a b c d, Fd ns st a b c d)
    (by
      have := iterR1_ap (st := [.lst (di ns), feed 0 0 5 0]) (okR_small (n := N) (by omega))
      rw [Int.toNat_natCast] at this
      simp only [un1_ap, bin_ap, bnd_eq, getV_eq, List.getElem?_cons_zero, optM_some, andThen_ok, readQ_frl', lenQ_ap, di_length, cst_ap, addI_ap, min2_ap, hN, this])
    (by rw [List.length_map, List.length_range]; unfold line; omega) ⟨⟨_, _, _, _, _, _, _, _, _, _, _, rfl⟩, _, _, _, _, F0⟩ (fun i env st _ => itR_list 0 N i)
    (fun i a env st _ hP => by
      obtain ⟨⟨y2, y3, y4, y5, y6, y8, y9, y10, y11, y12, y13, rfl⟩, a', b', c', d', F⟩ := hP
      exact ⟨[some (.frl (di ns)), some (.ref 1), some a, y3, y4, y5, y6, none, y8, y9, y10, y11, y12, y13], rfl, turn_ap F _ _ _ _ _ _ _ _ _ _ _ _⟩)
  obtain ⟨e, st', q, _⟩ := L
  have body : G.b_law (env0 14 [.frl (di ns)]) [] = .ok (.rt (.bl true)) st' := by
    unfold G.b_law
    rw [env0_eq]
    show seqM _ _ [some (.frl (di ns)), none, none, none, none, none, none, none, none, none, none, none, none, none] [] = _
    rw [seqM_nx (e := [some (.frl (di ns)), some (.ref 1), none, none, none, none, none, none, none, none, none, none, none, none]) (st' := [.lst (di ns), feed 0 0 5 0]) (by
      simp only [setS_ap, callM_ap, consA_ap, nilA_ap, bnd_eq, getV_eq, List.getElem?_cons_zero, optM_some, andThen_ok, ret_ap, List.length_cons, List.length_nil, Nat.zero_add, if_true, ite_ap, quiet_ap, feed_ap, quietR_ok, List.set_cons_succ, List.set_cons_zero])]
    rw [seqM_nx q]
    rfl
  show ∃ st', fnV 14 G.b_law [.frl (di ns)] [] = .ok (.bl true) st'
  rw [fnV_ap, bnd_ok (m := bnd (G.b_law (env0 14 [.frl (di ns)])) outV) (a := .bl true) (st' := st') (by rw [bnd_ok body]; rfl)]
  unfold finV
  split
  · exact ⟨_, rfl⟩
  · exact ⟨_, rfl⟩
end L3
theorem PySem.Challenge.cw_wholetowers_k67_permutations_holds : PySem.Challenge.rw_wholetowers_k67_permutations.Holds := by
  exact law_holds L3.law_true
