import PyProof.Rows.All
import Wide.All
import OpenK.AllK
import Wide.FinOn
import HandS.ForMost
import HandS.Evl
import HandS.Style
import HandS.Wide
import KE.DataEq
import KE.DataFind
import HandS.IsInst
import HandS.Conv
import HandS.SortInts
import HandS.More
import HandS.SetFor
import HandS.WordsDict
import PySem.Challenge.RW_fewbends_k04_whole_steps_of_maps
set_option Elab.async false
set_option linter.all false
set_option maxRecDepth 100000
set_option maxHeartbeats 1000000
/-! Pv: values without a heap. D: data; Rep: a value holds data in a heap; Own: .. by lists that nobody else holds. -/
namespace Pv
open PySem L2
inductive Rz (α : Type) where
  | ok (a : α) | er (c : Nat) | no
namespace Rz
variable {α β γ : Type}
def bind : Rz α → (α → Rz β) → Rz β
  | ok a, f => f a
  | er c, _ => er c
  | no, _ => no
@[simp] theorem bind_ok (a : α) (f : α → Rz β) : (ok a).bind f = f a := rfl
@[simp] theorem bind_er (c : Nat) (f : α → Rz β) : (er c : Rz α).bind f = er c := rfl
@[simp] theorem bind_no (f : α → Rz β) : (no : Rz α).bind f = no := rfl
end Rz

inductive D where
  | non | bl (b : Bool) | int (i : Int) | str (x : Str)
  | lst (xs : List D) | tup (xs : List D) | fzl (xs : List D)
  | dK (kvs : List (Key × D)) | dT (kvs : List (List Key × D))
  | obj (c : Nat) (fs : List (Str × D))

/-- the classes' places; p: where a pinned slot's thing stands -/
structure Cl where
  c : Nat → Addr
  p : Nat → V
instance : CoeFun Cl (fun _ => Nat → Addr) := ⟨Cl.c⟩
mutual
inductive Rep (K : PySem.W.Frag) (cl : Cl) (H : Hp) : V → D → Prop
  | non : Rep K cl H .non .non
  | bl (b : Bool) : Rep K cl H (.bl b) (.bl b)
  | int (i : Int) : Rep K cl H (.int i) (.int i)
  | str (x : Str) : Rep K cl H (.str x) (.str x)
  | lst {a : Addr} {xs : List V} {ds : List D} : H a = some (.lst xs) → Reps K cl H xs ds → Rep K cl H (.ref a) (.lst ds)
  | fzl {a : Addr} {xs : List V} {ds : List D} : SqL K H a xs → Reps K cl H xs ds → Rep K cl H (.ref a) (.fzl ds)
  | tup {a : Addr} {xs : List V} {ds : List D} : H a = some (.tup xs) → Reps K cl H xs ds → Rep K cl H (.ref a) (.tup ds)
  | dK {a : Addr} {ks : List (Key × V)} {ds : List (Key × D)} : H a = some (.dK ks) → ks.map (·.1) = ds.map (·.1) → Reps K cl H (ks.map (·.2)) (ds.map (·.2)) → Rep K cl H (.ref a) (.dK ds)
  | dT {a : Addr} {ks : List (List Key × V)} {ds : List (List Key × D)} : H a = some (.dT ks) → ks.map (·.1) = ds.map (·.1) → Reps K cl H (ks.map (·.2)) (ds.map (·.2)) → Rep K cl H (.ref a) (.dT ds)
  | obj {a dx : Addr} {c : Nat} {fs : List (Str × V)} {ds : List (Str × D)} : H a = some (.ins (cl c) dx fs) → fs.map (·.1) = ds.map (·.1) → Reps K cl H (fs.map (·.2)) (ds.map (·.2)) → Rep K cl H (.ref a) (.obj c ds)
inductive Reps (K : PySem.W.Frag) (cl : Cl) (H : Hp) : List V → List D → Prop
  | nil : Reps K cl H [] []
  | cons {v : V} {vs : List V} {d : D} {ds : List D} : Rep K cl H v d → Reps K cl H vs ds → Reps K cl H (v :: vs) (d :: ds)
end

/-- all that is kept -/
abbrev Ex := Evl.Ex

mutual
/-- no list, dict, object within -/
def imm : D → Bool
  | .non | .bl _ | .int _ | .str _ => true
  | .tup xs => immA xs
  | _ => false
def immA : List D → Bool
  | [] => true
  | x :: xs => imm x && immA xs
end

section
variable {K : PySem.W.Frag} {cl : Cl} {H H' : Hp}
theorem Rep.mono (e : Ex H H') {v : V} {d : D} (h : Rep K cl H v d) : Rep K cl H' v d :=
  Rep.rec (motive_1 := fun v d _ => Rep K cl H' v d) (motive_2 := fun vs ds _ => Reps K cl H' vs ds)
    .non .bl .int .str (fun s _ r => .lst (e _ _ s) r) (fun s _ r => .fzl (Evl.ex_l e s) r) (fun s _ r => .tup (e _ _ s) r) (fun s k _ r => .dK (e _ _ s) k r) (fun s k _ r => .dT (e _ _ s) k r) (fun s k _ r => .obj (e _ _ s) k r) .nil (fun _ _ r rs => .cons r rs) h
theorem Reps.mono (e : Ex H H') {v : List V} {d : List D} (h : Reps K cl H v d) : Reps K cl H' v d := by
  induction d generalizing v with
  | nil => cases h; exact .nil
  | cons d ds ih =>
    cases h with
    | cons a b => exact .cons (a.mono e) (ih b)
/-- data of tuples and plain values hang on tuples alone -/
theorem Rep.imm_mono (e : ∀ a xs, H a = some (.tup xs) → H' a = some (.tup xs)) {v : V} {d : D} (h : Rep K cl H v d) : imm d = true → Rep K cl H' v d :=
  Rep.rec (motive_1 := fun v d _ => imm d = true → Rep K cl H' v d) (motive_2 := fun vs ds _ => immA ds = true → Reps K cl H' vs ds)
    (fun _ => .non) (fun b _ => .bl b) (fun i _ => .int i) (fun x _ => .str x) (fun _ _ _ z => by simp [imm] at z) (fun _ _ _ z => by simp [imm] at z) (fun s _ r z => .tup (e _ _ s) (r (by simpa [imm] using z))) (fun _ _ _ _ z => by simp [imm] at z) (fun _ _ _ _ z => by simp [imm] at z) (fun _ _ _ _ z => by simp [imm] at z)
    (fun _ => .nil) (fun _ _ r rs z => by
      rw [immA, Bool.and_eq_true] at z
      exact .cons (r z.1) (rs z.2)) h
theorem Reps.length : ∀ {vs : List V} {ds : List D}, Reps K cl H vs ds → vs.length = ds.length
  | _, _, .nil => rfl
  | _, _, .cons _ t => by simp [Reps.length t]
theorem Reps.get : ∀ {vs : List V} {ds : List D} {i : Nat} {d : D}, Reps K cl H vs ds → ds[i]? = some d → ∃ v, vs[i]? = some v ∧ Rep K cl H v d
  | _, _, _, _, .nil, h => by simp at h
  | _, _, 0, _, .cons r _, h => by simp at h; subst h; exact ⟨_, rfl, r⟩
  | _, _, i + 1, d, .cons _ t, h => by
    obtain ⟨v, h1, h2⟩ := Reps.get (i := i) (d := d) t (by simpa using h)
    exact ⟨v, by simpa using h1, h2⟩
theorem Reps.getV : ∀ {vs : List V} {ds : List D} {i : Nat} {v : V}, Reps K cl H vs ds → vs[i]? = some v → ∃ d, ds[i]? = some d ∧ Rep K cl H v d
  | _, _, _, _, .nil, h => by simp at h
  | _, _, 0, _, .cons r _, h => by simp at h; subst h; exact ⟨_, rfl, r⟩
  | _, _, i + 1, d, .cons _ t, h => by
    obtain ⟨v, h1, h2⟩ := Reps.getV (i := i) (v := d) t (by simpa using h)
    exact ⟨v, by simpa using h1, h2⟩
theorem Reps.append : ∀ {vs ws : List V} {ds es : List D}, Reps K cl H vs ds → Reps K cl H ws es → Reps K cl H (vs ++ ws) (ds ++ es)
  | _, _, _, _, .nil, s => s
  | _, _, _, _, .cons r t, s => .cons r (Reps.append t s)
theorem Reps.take : ∀ {vs : List V} {ds : List D} (n : Nat), Reps K cl H vs ds → Reps K cl H (vs.take n) (ds.take n)
  | _, _, 0, _ => .nil
  | _, _, _ + 1, .nil => .nil
  | _, _, n + 1, .cons r t => .cons r (Reps.take n t)
theorem Reps.drop : ∀ {vs : List V} {ds : List D} (n : Nat), Reps K cl H vs ds → Reps K cl H (vs.drop n) (ds.drop n)
  | _, _, 0, r => r
  | _, _, _ + 1, .nil => .nil
  | _, _, n + 1, .cons _ t => Reps.drop n t
theorem Reps.set : ∀ {vs : List V} {ds : List D} {v : V} {d : D} (i : Nat), Rep K cl H v d → Reps K cl H vs ds → Reps K cl H (vs.set i v) (ds.set i d)
  | _, _, _, _, _, _, .nil => .nil
  | _, _, _, _, 0, r, .cons _ t => .cons r t
  | _, _, _, _, i + 1, r, .cons q t => .cons q (Reps.set i r t)
theorem Reps.reverse {vs : List V} {ds : List D} (h : Reps K cl H vs ds) : Reps K cl H vs.reverse ds.reverse := by
  induction ds generalizing vs with
  | nil => cases h; exact .nil
  | cons d ds ih =>
    cases h with
    | cons r t => rw [List.reverse_cons, List.reverse_cons]; exact (ih t).append (.cons r .nil)
/-- ints -/
theorem Reps.ints : ∀ {vs : List V} {ns : List Int}, Reps K cl H vs (ns.map .int) → vs = ns.map V.int
  | _, [], .nil => rfl
  | _, n :: ns, .cons r t => by
    cases r
    rw [Reps.ints t]; rfl
theorem Reps.of_ints (ns : List Int) : Reps K cl H (ns.map V.int) (ns.map .int) := by
  induction ns with
  | nil => exact .nil
  | cons n ns ih => exact .cons (.int n) ih
end

/-! ### owned -/
mutual
/-- v holds d by objects that stand at S, to the depth k; what lies deeper stands in F -/
inductive Own (K : PySem.W.Frag) (cl : Cl) (F H : Hp) : Nat → V → D → List Addr → Prop
  | z {v : V} {d : D} : Rep K cl F v d → Own K cl F H 0 v d []
  | im {k : Nat} {v : V} {d : D} : Rep K cl F v d → imm d = true → Own K cl F H k v d []
  | lst {k : Nat} {a : Addr} {vs : List V} {ds : List D} {S : List Addr} : H a = some (.lst vs) → Owns K cl F H k vs ds S → Own K cl F H (k + 1) (.ref a) (.lst ds) (a :: S)
  | tup {k : Nat} {a : Addr} {vs : List V} {ds : List D} {S : List Addr} : F a = some (.tup vs) → Owns K cl F H k vs ds S → Own K cl F H k (.ref a) (.tup ds) S
  | dK {k : Nat} {a : Addr} {ks : List (Key × V)} {ds : List (Key × D)} : H a = some (.dK ks) → ks.map (·.1) = ds.map (·.1) → Reps K cl F (ks.map (·.2)) (ds.map (·.2)) → Own K cl F H (k + 1) (.ref a) (.dK ds) [a]
  | dT {k : Nat} {a : Addr} {ks : List (List Key × V)} {ds : List (List Key × D)} : H a = some (.dT ks) → ks.map (·.1) = ds.map (·.1) → Reps K cl F (ks.map (·.2)) (ds.map (·.2)) → Own K cl F H (k + 1) (.ref a) (.dT ds) [a]
inductive Owns (K : PySem.W.Frag) (cl : Cl) (F H : Hp) : Nat → List V → List D → List Addr → Prop
  | nil {k : Nat} : Owns K cl F H k [] [] []
  | cons {k : Nat} {v : V} {vs : List V} {d : D} {ds : List D} {S T : List Addr} : Own K cl F H k v d S → Owns K cl F H k vs ds T → Owns K cl F H k (v :: vs) (d :: ds) (S ++ T)
end
section
variable {K : PySem.W.Frag} {cl : Cl} {F F' H H' : Hp}
theorem Own.mono (eF : Ex F F') {k : Nat} {v : V} {d : D} {S : List Addr} (h : Own K cl F H k v d S) : (∀ a ∈ S, H' a = H a) → Own K cl F' H' k v d S :=
  Own.rec (motive_1 := fun k v d S _ => (∀ a ∈ S, H' a = H a) → Own K cl F' H' k v d S) (motive_2 := fun k vs ds S _ => (∀ a ∈ S, H' a = H a) → Owns K cl F' H' k vs ds S)
    (fun r _ => .z (r.mono eF)) (fun r i _ => .im (r.mono eF) i) (fun s _ r q => .lst ((q _ List.mem_cons_self).trans s) (r fun b hb => q b (List.mem_cons_of_mem _ hb))) (fun s _ r q => .tup (eF _ _ s) (r q))
    (fun s k r q => .dK ((q _ List.mem_cons_self).trans s) k (r.mono eF)) (fun s k r q => .dT ((q _ List.mem_cons_self).trans s) k (r.mono eF))
    (fun _ => .nil) (fun _ _ r rs q => .cons (r fun b hb => q b (List.mem_append_left _ hb)) (rs fun b hb => q b (List.mem_append_right _ hb))) h
theorem Owns.mono (eF : Ex F F') {k : Nat} {v : List V} {d : List D} {S : List Addr} (h : Owns K cl F H k v d S) (q : ∀ a ∈ S, H' a = H a) : Owns K cl F' H' k v d S := by
  induction d generalizing v S with
  | nil => cases h; exact .nil
  | cons d ds ih =>
    cases h with
    | cons a b => exact .cons (a.mono eF fun c hc => q c (List.mem_append_left _ hc)) (ih b fun c hc => q c (List.mem_append_right _ hc))
/-- it can be read -/
theorem Own.rep (e : Ex F H) {k : Nat} {v : V} {d : D} {S : List Addr} (h : Own K cl F H k v d S) : Rep K cl H v d :=
  Own.rec (motive_1 := fun _ v d _ _ => Rep K cl H v d) (motive_2 := fun _ vs ds _ _ => Reps K cl H vs ds)
    (fun r => r.mono e) (fun r _ => r.mono e) (fun s _ r => .lst s r) (fun s _ r => .tup (e _ _ s) r) (fun s k r => .dK s k (r.mono e)) (fun s k r => .dT s k (r.mono e)) .nil (fun _ _ r rs => .cons r rs) h
theorem Owns.reps (e : Ex F H) {k : Nat} {v : List V} {d : List D} {S : List Addr} (h : Owns K cl F H k v d S) : Reps K cl H v d := by
  induction d generalizing v S with
  | nil => cases h; exact .nil
  | cons d ds ih =>
    cases h with
    | cons a b => exact .cons (a.rep e) (ih b)
theorem Own.live {k : Nat} {v : V} {d : D} {S : List Addr} (h : Own K cl F H k v d S) : ∀ a ∈ S, Mut (H a) :=
  Own.rec (motive_1 := fun _ v d S _ => ∀ a ∈ S, Mut (H a)) (motive_2 := fun _ vs ds S _ => ∀ a ∈ S, Mut (H a))
    (fun _ _ q => nomatch q) (fun _ _ _ q => nomatch q) (fun s _ r b hb => by
      rcases List.mem_cons.mp hb with rfl | hb
      · rw [s]; trivial
      · exact r b hb) (fun _ _ r => r) (fun s _ _ b hb => by
      rcases List.mem_cons.mp hb with rfl | hb
      · rw [s]; trivial
      · exact nomatch hb) (fun s _ _ b hb => by
      rcases List.mem_cons.mp hb with rfl | hb
      · rw [s]; trivial
      · exact nomatch hb) (fun _ q => nomatch q) (fun _ _ r rs b hb => (List.mem_append.mp hb).elim (r b) (rs b)) h
/-- F with the objects at S -/
def fzA (F H : Hp) (S : List Addr) : Hp := fun a => if a ∈ S then H a else F a
theorem fzA_ex {S : List Addr} (h : ∀ a ∈ S, F a = none) : Ex F (fzA F H S) := fun a o e => by
  unfold fzA
  by_cases ha : a ∈ S
  · rw [h a ha] at e; cases e
  · rw [if_neg ha]; exact e
theorem fzA_in {S : List Addr} (h : Ex F H) : Ex (fzA F H S) H := fun a o e => by
  unfold fzA at e
  by_cases ha : a ∈ S
  · rw [if_pos ha] at e; exact e
  · rw [if_neg ha] at e; exact h _ _ e
theorem Own.freeze {k : Nat} {v : V} {d : D} {S : List Addr} (h : Own K cl F H k v d S) : (∀ a o, F a = some o → F' a = some o) → (∀ a ∈ S, F' a = H a) → Rep K cl F' v d :=
  Own.rec (motive_1 := fun _ v d S _ => (∀ a o, F a = some o → F' a = some o) → (∀ a ∈ S, F' a = H a) → Rep K cl F' v d) (motive_2 := fun _ vs ds S _ => (∀ a o, F a = some o → F' a = some o) → (∀ a ∈ S, F' a = H a) → Reps K cl F' vs ds)
    (fun r e _ => r.mono e) (fun r _ e _ => r.mono e) (fun s _ r e q => .lst ((q _ List.mem_cons_self).trans s) (r e fun b hb => q b (List.mem_cons_of_mem _ hb))) (fun s _ r e q => .tup (e _ _ s) (r e q))
    (fun s k r e q => .dK ((q _ List.mem_cons_self).trans s) k (r.mono e)) (fun s k r e q => .dT ((q _ List.mem_cons_self).trans s) k (r.mono e))
    (fun _ _ => .nil) (fun _ _ r rs e q => .cons (r e fun b hb => q b (List.mem_append_left _ hb)) (rs e fun b hb => q b (List.mem_append_right _ hb))) h
theorem Owns.append {k : Nat} {vs ws : List V} {ds es : List D} {S T : List Addr} (h : Owns K cl F H k vs ds S) (h' : Owns K cl F H k ws es T) : Owns K cl F H k (vs ++ ws) (ds ++ es) (S ++ T) := by
  induction ds generalizing vs S with
  | nil => cases h; exact h'
  | cons d ds ih =>
    cases h with
    | cons a b =>
      rw [List.append_assoc]
      exact .cons a (ih b)
theorem Owns.zero {vs : List V} {ds : List D} (h : Reps K cl F vs ds) : Owns K cl F H 0 vs ds [] := by
  induction ds generalizing vs with
  | nil => cases h; exact .nil
  | cons d ds ih =>
    cases h with
    | cons a b => exact .cons (S := []) (T := []) (.z a) (ih b)
theorem Own.zero_nil {v : V} {d : D} {S : List Addr} (h : Own K cl F H 0 v d S) : S = [] ∧ Rep K cl F v d := by
  generalize hk : 0 = k at h
  exact Own.rec (motive_1 := fun k v d S _ => 0 = k → S = [] ∧ Rep K cl F v d) (motive_2 := fun k vs ds S _ => 0 = k → S = [] ∧ Reps K cl F vs ds)
    (fun r _ => ⟨rfl, r⟩) (fun r _ _ => ⟨rfl, r⟩) (fun _ _ _ z => nomatch z) (fun s _ r z => ⟨(r z).1, .tup s (r z).2⟩) (fun _ _ _ z => nomatch z) (fun _ _ _ z => nomatch z) (fun _ => ⟨rfl, .nil⟩)
    (fun _ _ r rs z => ⟨by rw [(r z).1, (rs z).1]; rfl, .cons (r z).2 (rs z).2⟩) h hk
theorem Owns.zero_nil {v : List V} {d : List D} {S : List Addr} (h : Owns K cl F H 0 v d S) : S = [] ∧ Reps K cl F v d := by
  induction d generalizing v S with
  | nil => cases h; exact ⟨rfl, .nil⟩
  | cons d ds ih =>
    cases h with
    | cons a b =>
      obtain ⟨e1, r1⟩ := a.zero_nil
      obtain ⟨e2, r2⟩ := ih b
      exact ⟨by rw [e1, e2]; rfl, .cons r1 r2⟩
end

/-! ### the pins count for nothing here -/
section
variable {K : PySem.W.Frag} {cl cl' : Cl} {F F' H H' : Hp}
theorem Rep.toCl (e : cl.c = cl'.c) {v : V} {d : D} (h : Rep K cl H v d) : Rep K cl' H v d := by
  obtain ⟨c, p⟩ := cl
  obtain ⟨c', p'⟩ := cl'
  cases e
  exact Rep.rec (K := K) (cl := ⟨c, p⟩) (H := H) (motive_1 := fun v d _ => Rep K ⟨c, p'⟩ H v d) (motive_2 := fun vs ds _ => Reps K ⟨c, p'⟩ H vs ds)
    .non .bl .int .str (fun s _ r => .lst s r) (fun s _ r => .fzl s r) (fun s _ r => .tup s r) (fun s k _ r => .dK s k r) (fun s k _ r => .dT s k r) (fun s k _ r => .obj s k r) .nil (fun _ _ r rs => .cons r rs) h
theorem Reps.toCl (e : cl.c = cl'.c) {v : List V} {d : List D} (h : Reps K cl H v d) : Reps K cl' H v d := by
  induction d generalizing v with
  | nil => cases h; exact .nil
  | cons d ds ih =>
    cases h with
    | cons a b => exact .cons (a.toCl e) (ih b)
theorem Own.toCl (e : cl.c = cl'.c) {k : Nat} {v : V} {d : D} {S : List Addr} (h : Own K cl F H k v d S) : Own K cl' F H k v d S :=
  Own.rec (K := K) (cl := cl) (F := F) (H := H) (motive_1 := fun k v d S _ => Own K cl' F H k v d S) (motive_2 := fun k vs ds S _ => Owns K cl' F H k vs ds S)
    (fun r => .z (r.toCl e)) (fun r i => .im (r.toCl e) i) (fun s _ r => .lst s r) (fun s _ r => .tup s r)
    (fun s k r => .dK s k (r.toCl e)) (fun s k r => .dT s k (r.toCl e)) .nil (fun _ _ r rs => .cons r rs) h
end
/-! ### the slots -/
abbrev Md := Option Nat
abbrev En := List (Option D)
structure Sl (K : PySem.W.Frag) (cl : Cl) (G : List Md) (env : En) (σ : L2.St) (So : Nat → List Addr) (F H : Hp) : Prop where
  len : env.length ≤ σ.length
  sl : ∀ (i k : Nat) (d : D), G[i]? = some (some k) → env[i]? = some (some d) → ∃ v, σ[i]? = some (some v) ∧ Own K cl F H k v d (So i)
  nd : ∀ i, (So i).Nodup
  dj : ∀ i j a, i ≠ j → a ∈ So i → a ∉ So j
  fr : ∀ i a, a ∈ So i → F a = none
  lv : ∀ i a, a ∈ So i → Mut (H a)
  ex : Ex F H
  pn : ∀ i k, G[i]? = some (some k) → 100 ≤ k → σ[i]? = some (some (cl.p i))

/-- the heap grows -/
structure Grow (F H F' H' : Hp) : Prop where
  h : Ex H H'
  f : Ex F F'
  i : Ex F' H'
  n : ∀ a, F a = none → F' a ≠ none → ¬ Mut (H a)
section
variable {K : PySem.W.Frag} {cl : Cl} {F F' F'' H H' H'' : Hp} {G : List Md} {env : En} {σ : L2.St} {So : Nat → List Addr}
theorem Grow.refl (h : Ex F H) : Grow F H F H := ⟨Evl.Ex.refl _, Evl.Ex.refl _, h, fun a h1 h2 => absurd h1 h2⟩
theorem mut_keep (e : Ex H H') {a : Addr} (h : Mut (H a)) : H' a = H a := by
  cases q : H a with
  | none => rw [q] at h; exact h.elim
  | some o => exact e _ _ q
theorem Grow.trans (a : Grow F H F' H') (b : Grow F' H' F'' H'') : Grow F H F'' H'' where
  h := a.h.trans b.h
  f := a.f.trans b.f
  i := b.i
  n := fun c h1 h2 hm => by
    cases q : F' c with
    | some o => exact a.n c h1 (by rw [q]; simp) hm
    | none => exact b.n c q h2 (by rw [mut_keep a.h hm]; exact hm)
theorem Sl.grow (s : Sl K cl G env σ So F H) (g : Grow F H F' H') : Sl K cl G env σ So F' H' where
  len := s.len
  sl := fun i k d h1 h2 => by
    obtain ⟨v, h3, h4⟩ := s.sl i k d h1 h2
    exact ⟨v, h3, h4.mono g.f fun a ha => mut_keep g.h (s.lv i a ha)⟩
  nd := s.nd
  dj := s.dj
  fr := fun i a ha => by
    cases q : F' a with
    | none => rfl
    | some o => exact absurd (s.lv i a ha) (g.n a (s.fr i a ha) (by rw [q]; simp))
  lv := fun i a ha => by rw [mut_keep g.h (s.lv i a ha)]; exact s.lv i a ha
  ex := g.i
  pn := s.pn
/-- a new object, frozen -/
theorem Grow.newF {p : Addr} {o : HO} (e : Ex F H) (hp : H p = none) : Grow F H (upd F p o) (upd H p o) where
  h := Evl.Ex.new hp
  f := Evl.Ex.new (Evl.fresh_back e hp)
  i := fun a u q => by
    by_cases ha : a = p
    · subst ha; rw [upd_same] at q ⊢; exact q
    · rw [upd_ne ha] at q ⊢; exact e _ _ q
  n := fun a h1 h2 hm => by
    by_cases ha : a = p
    · subst ha; rw [hp] at hm; exact hm
    · rw [upd_ne ha] at h2; exact h2 h1
/-- a new object, owned -/
theorem Grow.newO {p : Addr} {o : HO} (e : Ex F H) (hp : H p = none) : Grow F H F (upd H p o) where
  h := Evl.Ex.new hp
  f := Evl.Ex.refl _
  i := fun a u q => Evl.Ex.new hp _ _ (e _ _ q)
  n := fun a h1 h2 => absurd h1 h2
end
end Pv

set_option Elab.async false
set_option linter.all false
set_option maxRecDepth 100000
set_option maxHeartbeats 1000000
/-! Pv, second part: what an expression is worth. -/
namespace Pv
open PySem L2

inductive Mo where
  | R | N (k : Nat)
section
variable (K : PySem.W.Frag) (cl : Cl) (W : Nat → Hp → Prop)
def Out : Mo → V → D → Hp → Hp → Hp → Prop
  | .R, v, d, _, _, H' => Rep K cl H' v d
  | .N k, v, d, H, F', H' => ∃ S, Own K cl F' H' k v d S ∧ S.Nodup ∧ ∀ a ∈ S, H a = none ∧ F' a = none
def Res (o : Rz D) (m : Mo) (F H : Hp) (Q : VK) : Prop := match o with
  | .ok d => ∀ v H' F', Grow F H F' H' → Out K cl m v d H F' H' → Q v H'
  | .er c => ∀ H', Ex H H' → W c H'
  | .no => False
def tE (G : List Md) (f : En → Rz D) (m : Mo) : TE := fun σ H Q => ∃ env So F, Sl K cl G env σ So F H ∧ Res K cl W (f env) m F H Q
def ResT (o : Rz Bool) (F H : Hp) (Q : Bool → Hp → Prop) : Prop := match o with
  | .ok b => ∀ H' F', Grow F H F' H' → Q b H'
  | .er c => ∀ H', Ex H H' → W c H'
  | .no => False
def tT (G : List Md) (f : En → Rz Bool) : TT := fun σ H Q => ∃ env So F, Sl K cl G env σ So F H ∧ ResT W (f env) F H Q
def OutA : Mo → List V → List D → Hp → Hp → Hp → Prop
  | .R, v, d, _, _, H' => Reps K cl H' v d
  | .N k, v, d, H, F', H' => ∃ S, Owns K cl F' H' k v d S ∧ S.Nodup ∧ ∀ a ∈ S, H a = none ∧ F' a = none
def ResA (o : Rz (List D)) (m : Mo) (F H : Hp) (Q : List V → Hp → Prop) : Prop := match o with
  | .ok ds => ∀ vs H' F', Grow F H F' H' → OutA K cl m vs ds H F' H' → Q vs H'
  | .er c => ∀ H', Ex H H' → W c H'
  | .no => False
def tA (G : List Md) (f : En → Rz (List D)) (m : Mo) : TA := fun σ H Q => ∃ env So F, Sl K cl G env σ So F H ∧ ResA K cl W (f env) m F H Q
end
abbrev SimE (cl : Cl) (W : Nat → Hp → Prop) (X : Cx) (G : List Md) (e : Expr) (f : En → Rz D) (m : Mo) : Prop := PE X e (tE X.K cl W G f m)
abbrev SimT (cl : Cl) (W : Nat → Hp → Prop) (X : Cx) (G : List Md) (e : Expr) (f : En → Rz Bool) : Prop := PT X e (tT X.K cl W G f)
abbrev SimA (cl : Cl) (W : Nat → Hp → Prop) (X : Cx) (G : List Md) (es : List Expr) (f : En → Rz (List D)) (m : Mo) : Prop := PA X es (tA X.K cl W G f m)

theorem PE.weak {X : Cx} {e : Expr} {t t' : TE} (h : PE X e t) (i : ∀ σ H Q, t' σ H Q → t σ H Q) : PE X e t' := ⟨fun pins s σ H Q I q => h.run pins s σ H Q I (i _ _ _ q)⟩
theorem PT.weak {X : Cx} {e : Expr} {t t' : TT} (h : PT X e t) (i : ∀ σ H Q, t' σ H Q → t σ H Q) : PT X e t' := ⟨fun pins s σ H Q I q => h.run pins s σ H Q I (i _ _ _ q)⟩
theorem PW.weak {X : Cx} {e : Expr} {t t' : TT} (h : PW X e t) (i : ∀ σ H Q, t' σ H Q → t σ H Q) : PW X e t' := ⟨fun wh pins s σ H Q I q => h.run wh pins s σ H Q I (i _ _ _ q)⟩
theorem PA.weak {X : Cx} {e : List Expr} {t t' : TA} (h : PA X e t) (i : ∀ σ H Q, t' σ H Q → t σ H Q) : PA X e t' := ⟨fun pos pins s σ H Q I q => h.run pos pins s σ H Q I (i _ _ _ q)⟩

section
variable {K : PySem.W.Frag} {cl : Cl} {W : Nat → Hp → Prop} {F F' F1 F2 H H' H1 H2 : Hp} {G : List Md} {env : En} {σ : L2.St} {So : Nat → List Addr} {m : Mo}
theorem Out.rep (i : Ex F' H') {v : V} {d : D} (h : Out K cl m v d H F' H') : Rep K cl H' v d := by
  cases m with
  | R => exact h
  | N k => obtain ⟨S, o, _⟩ := h; exact o.rep i
theorem OutA.reps (i : Ex F' H') {v : List V} {d : List D} (h : OutA K cl m v d H F' H') : Reps K cl H' v d := by
  cases m with
  | R => exact h
  | N k => obtain ⟨S, o, _⟩ := h; exact o.reps i
theorem Out.back (e : Ex H H1) {v : V} {d : D} (h : Out K cl m v d H1 F' H') : Out K cl m v d H F' H' := by
  cases m with
  | R => exact h
  | N k => obtain ⟨S, o, nd, fr⟩ := h; exact ⟨S, o, nd, fun a ha => ⟨Evl.fresh_back e (fr a ha).1, (fr a ha).2⟩⟩
theorem Out.fwd (g : Grow F1 H1 F2 H2) {v : V} {d : D} (h : Out K cl m v d H F1 H1) : Out K cl m v d H F2 H2 := by
  cases m with
  | R => exact Rep.mono g.h h
  | N k =>
    obtain ⟨S, o, nd, fr⟩ := h
    refine ⟨S, o.mono g.f fun a ha => mut_keep g.h (o.live a ha), nd, fun a ha => ⟨(fr a ha).1, ?_⟩⟩
    cases q : F2 a with
    | none => rfl
    | some u => exact absurd (o.live a ha) (g.n a (fr a ha).2 (by rw [q]; simp))
theorem Res.go {o : Rz D} {Q : VK} (g : Grow F H F1 H1) (h : Res K cl W o m F H Q) : Res K cl W o m F1 H1 Q := by
  cases o with
  | ok d => exact fun v H' F' g1 out => h v H' F' (g.trans g1) (out.back g.h)
  | er c => exact fun H' e => h H' (g.h.trans e)
  | no => exact h
theorem ResT.go {o : Rz Bool} {Q : Bool → Hp → Prop} (g : Grow F H F1 H1) (h : ResT W o F H Q) : ResT W o F1 H1 Q := by
  cases o with
  | ok d => exact fun H' F' g1 => h H' F' (g.trans g1)
  | er c => exact fun H' e => h H' (g.h.trans e)
  | no => exact h
theorem ResA.go {o : Rz (List D)} {Q : List V → Hp → Prop} (g : Grow F H F1 H1) (h : ResA K cl W o m F H Q) : ResA K cl W o m F1 H1 Q := by
  cases o with
  | ok d =>
    refine fun v H' F' g1 out => h v H' F' (g.trans g1) ?_
    cases m with
    | R => exact out
    | N k => obtain ⟨S, o, nd, fr⟩ := out; exact ⟨S, o, nd, fun a ha => ⟨Evl.fresh_back g.h (fr a ha).1, (fr a ha).2⟩⟩
  | er c => exact fun H' e => h H' (g.h.trans e)
  | no => exact h

/-! ### names, constants -/
def vF (i : Nat) : En → Rz D := fun env => match env[i]? with
  | some (some d) => .ok d
  | _ => .no
def cF (d : D) : En → Rz D := fun _ => .ok d
theorem Res.im {v : V} {d : D} {k : Nat} (h : ∀ H, Rep K cl H v d) (i : imm d = true) (e : Ex F H) {Q : VK} (r : Res K cl W (.ok d) (.N k) F H Q) : Q v H :=
  r v H F (Grow.refl e) ⟨[], .im (h F) i, List.nodup_nil, fun _ z => nomatch z⟩
theorem Res.imR {v : V} {d : D} (h : ∀ H, Rep K cl H v d) (i : imm d = true) (e : Ex F H) {Q : VK} (r : Res K cl W (.ok d) m F H Q) : Q v H := by
  cases m with
  | R => exact r v H F (Grow.refl e) (h H)
  | N k => exact r.im h i e
end
section
variable {X : Cx} {cl : Cl} {W : Nat → Hp → Prop} {G : List Md} {m : Mo} {pos : Pos} {e a b : Expr} {f g : En → Rz D}
theorem sim_const {v : V} {d : D} (h : PE X e (tC v)) (r : ∀ K H, Rep K cl H v d) (i : imm d = true) : SimE cl W X G e (cF d) m :=
  PE.weak h fun σ H Q ⟨env, So, F, s, q⟩ => Res.imR (r X.K) i s.ex q
theorem sim_int {n : Int} {j} : SimE cl W X G (.Constant (.int n) j pos) (cF (.int n)) m := sim_const pe_int (fun _ _ => .int n) rfl
theorem sim_bl {n : Bool} {j} : SimE cl W X G (.Constant (.bool n) j pos) (cF (.bl n)) m := sim_const pe_bl (fun _ _ => .bl n) rfl
theorem sim_non {j} : SimE cl W X G (.Constant .none j pos) (cF .non) m := sim_const pe_non (fun _ _ => .non) rfl
theorem sim_str {x : Str} {j} : SimE cl W X G (.Constant (.str x) j pos) (cF (.str x)) m := sim_const pe_str (fun _ _ => .str x) rfl
theorem sim_varP {i k : Nat} (h : PE X e (tVar i)) (hG : G[i]? = some (some k)) : SimE cl W X G e (vF i) .R :=
  PE.weak h fun σ H Q ⟨env, So, F, s, q⟩ => by
    unfold vF at q
    cases hd : env[i]? with
    | none => rw [hd] at q; exact q.elim
    | some od =>
      cases od with
      | none => rw [hd] at q; exact q.elim
      | some d =>
        rw [hd] at q
        obtain ⟨v, h1, h2⟩ := s.sl i k d hG hd
        exact ⟨v, h1, q v H F (Grow.refl s.ex) (h2.rep s.ex)⟩
theorem sim_varPF {i : Nat} (h : PE X e (tVar i)) (hG : G[i]? = some (some 0)) : SimE cl W X G e (vF i) (.N 0) :=
  PE.weak h fun σ H Q ⟨env, So, F, s, q⟩ => by
    unfold vF at q
    cases hd : env[i]? with
    | none => rw [hd] at q; exact q.elim
    | some od =>
      cases od with
      | none => rw [hd] at q; exact q.elim
      | some d =>
        rw [hd] at q
        obtain ⟨v, h1, h2⟩ := s.sl i 0 d hG hd
        refine ⟨v, h1, q v H F (Grow.refl s.ex) ⟨[], .z h2.zero_nil.2, List.nodup_nil, fun _ z => nomatch z⟩⟩
/-! ### modes -/
theorem sim_R {k : Nat} (h : SimE cl W X G e f (.N k)) : SimE cl W X G e f .R :=
  PE.weak h fun σ H Q ⟨env, So, F, s, q⟩ => ⟨env, So, F, s, by
    cases hf : f env with
    | ok d => rw [hf] at q; exact fun v H' F' g out => q v H' F' g (out.rep g.i)
    | er c => rw [hf] at q; exact q
    | no => rw [hf] at q; exact q⟩
/-- frozen -/
theorem sim_F {k : Nat} (h : SimE cl W X G e f (.N k)) : SimE cl W X G e f (.N 0) :=
  PE.weak h fun σ H Q ⟨env, So, F, s, q⟩ => ⟨env, So, F, s, by
    cases hf : f env with
    | ok d =>
      rw [hf] at q
      refine fun v H' F' g ⟨S, o, nd, fr⟩ => q v H' (fzA F' H' S) ⟨g.h, g.f.trans (fzA_ex fun a ha => (fr a ha).2), fzA_in g.i, fun a h1 h2 => ?_⟩ ⟨[], .z (o.freeze (fzA_ex fun a ha => (fr a ha).2) fun a ha => by unfold fzA; rw [if_pos ha]), List.nodup_nil, fun _ z => nomatch z⟩
      unfold fzA at h2
      by_cases ha : a ∈ S
      · rw [(fr a ha).1]; exact id
      · rw [if_neg ha] at h2; exact g.n a h1 h2
    | er c => rw [hf] at q; exact q
    | no => rw [hf] at q; exact q⟩
/-- F with the things of H that never change -/
def addT (F H : Hp) : Hp := fun a => match F a with
  | some o => some o
  | none => match H a with
    | some (.tup xs) => some (.tup xs)
    | _ => none
theorem addT_ex {F H : Hp} : Ex F (addT F H) := fun a o e => by unfold addT; rw [e]
theorem addT_tup {F H : Hp} (i : Ex F H) {a : Addr} {xs : List V} (e : H a = some (.tup xs)) : addT F H a = some (.tup xs) := by
  unfold addT
  cases q : F a with
  | some o => have := i a o q; rw [e] at this; cases this; rfl
  | none => simp only [e]
theorem addT_in {F H H' : Hp} (i : Ex F H') (h : Ex H H') : Ex (addT F H) H' := fun a o e => by
  unfold addT at e
  cases q : F a with
  | some u => rw [q] at e; cases e; exact i a _ q
  | none =>
    rw [q] at e
    cases r : H a with
    | none => rw [r] at e; cases e
    | some u => cases u <;> rw [r] at e <;> cases e; exact h a _ r
theorem addT_n {F H : Hp} {a : Addr} (h1 : F a = none) (h2 : addT F H a ≠ none) : ∃ xs, H a = some (.tup xs) := by
  unfold addT at h2
  rw [h1] at h2
  cases r : H a with
  | none => rw [r] at h2; exact absurd rfl h2
  | some u => cases u <;> rw [r] at h2 <;> first | exact ⟨_, rfl⟩ | exact absurd rfl h2
theorem not_mut_tup {xs : List V} : ¬ Mut (some (.tup xs)) := id
def imF (f : En → Rz D) : En → Rz D := fun env => (f env).bind fun d => if imm d = true then .ok d else .no
/-- plain data need no owner -/
theorem sim_im {k : Nat} (h : SimE cl W X G e f .R) : SimE cl W X G e (imF f) (.N k) :=
  PE.weak h fun σ H Q ⟨env, So, F, s, q⟩ => ⟨env, So, F, s, by
    unfold imF at q
    cases hf : f env with
    | ok d =>
      rw [hf] at q
      simp only [Rz.bind_ok] at q
      by_cases hi : imm d = true
      · rw [if_pos hi] at q
        refine fun v H' F' g r => q v H' (addT F' H') ⟨g.h, g.f.trans addT_ex, addT_in g.i (Evl.Ex.refl _), fun a h1 h2 => ?_⟩ ⟨[], .im (Rep.imm_mono (fun a xs e => addT_tup g.i e) r hi) hi, List.nodup_nil, fun _ z => nomatch z⟩
        cases r' : F' a with
        | some o => exact g.n a h1 (by rw [r']; simp)
        | none =>
          obtain ⟨xs, e⟩ := addT_n r' h2
          intro hm
          have := mut_keep g.h hm
          rw [← this, e] at hm
          exact hm
      · rw [if_neg hi] at q; exact q.elim
    | er c => rw [hf] at q; exact q
    | no => rw [hf] at q; exact q⟩

/-! ### two operands -/
def b2 (op : D → D → Rz D) (f g : En → Rz D) : En → Rz D := fun env => (f env).bind fun x => (g env).bind fun y => op x y
theorem go2 {r : R2} {op : D → D → Rz D} {m : Mo} {G : List Md} {f g : En → Rz D} {K : PySem.W.Frag} (hop : ∀ F H x y dx dy Q, Ex F H → Rep K cl H x dx → Rep K cl H y dy → Res K cl W (op dx dy) m F H Q → r x y H Q) :
    ∀ σ H Q, tE K cl W G (b2 op f g) m σ H Q → tOp r (tE K cl W G f .R) (tE K cl W G g .R) σ H Q := fun σ H Q ⟨env, So, F, s, q⟩ => by
  unfold b2 at q
  refine ⟨env, So, F, s, ?_⟩
  cases hf : f env with
  | ok dx =>
    rw [hf] at q
    simp only [Rz.bind_ok] at q
    refine fun x H1 F1 g1 o1 => ⟨env, So, F1, s.grow g1, ?_⟩
    cases hg : g env with
    | ok dy =>
      rw [hg] at q
      simp only [Rz.bind_ok] at q
      exact fun y H2 F2 g2 o2 => hop F2 H2 x y dx dy Q g2.i (Rep.mono g2.h o1) o2 (q.go (g1.trans g2))
    | er c => rw [hg] at q; exact fun H' e => q H' (g1.h.trans e)
    | no => rw [hg] at q; exact q
  | er c => rw [hf] at q; exact q
  | no => rw [hf] at q; exact q
theorem sim_op {op : Operator} {r : R2} {p : D → D → Rz D} (ho : OpR X (binaryOp op) r) (hop : ∀ F H x y dx dy Q, Ex F H → Rep X.K cl H x dx → Rep X.K cl H y dy → Res X.K cl W (p dx dy) m F H Q → r x y H Q)
    (ha : SimE cl W X G a f .R) (hb : SimE cl W X G b g .R) : SimE cl W X G (.BinOp a op b pos) (b2 p f g) m := PE.weak (pe_op ho ha hb) (go2 hop)
theorem sim_cmpR {op : CmpOp} {r : R2} {p : D → D → Rz D} (ho : OpR X (compareOp op) r) (hop : ∀ F H x y dx dy Q, Ex F H → Rep X.K cl H x dx → Rep X.K cl H y dy → Res X.K cl W (p dx dy) m F H Q → r x y H Q)
    (ha : SimE cl W X G a f .R) (hb : SimE cl W X G b g .R) (hm : behindInMarks op b = false) : SimE cl W X G (.Compare a [op] [b] pos) (b2 p f g) m := PE.weak (pe_cmpR ho ha hb hm) (go2 hop)
/-- an expression's truth value -/
def toB : D → Rz Bool
  | .bl b => .ok b
  | _ => .no
def tF (f : En → Rz D) : En → Rz Bool := fun env => (f env).bind toB
theorem goT {K : PySem.W.Frag} {te : TE} (h : ∀ σ H Q, tE K cl W G f .R σ H Q → te σ H Q) : ∀ σ H Q, tT K cl W G (tF f) σ H Q → tB te σ H Q := fun σ H Q ⟨env, So, F, s, q⟩ => h σ H _ ⟨env, So, F, s, by
  unfold tF at q
  cases hf : f env with
  | ok d =>
    rw [hf] at q
    simp only [Rz.bind_ok] at q
    refine fun v H' F' g r => ?_
    cases d <;> first | exact False.elim q | skip
    have r' : Rep K cl H' v (.bl _) := r
    cases r'
    exact ⟨_, rfl, q H' F' g⟩
  | er c => rw [hf] at q; exact q
  | no => rw [hf] at q; exact q⟩
theorem simT_cmpR {op : CmpOp} {r : R2} {p : D → D → Rz D} (ho : OpR X (compareOp op) r) (hop : ∀ F H x y dx dy Q, Ex F H → Rep X.K cl H x dx → Rep X.K cl H y dy → Res X.K cl W (p dx dy) .R F H Q → r x y H Q)
    (ha : SimE cl W X G a f .R) (hb : SimE cl W X G b g .R) (hm : behindInMarks op b = false) : SimT cl W X G (.Compare a [op] [b] pos) (tF (b2 p f g)) :=
  PT.weak (pt_cmpR ho ha hb hm) (goT (go2 hop))
theorem simT_val (h : SimE cl W X G e f .R) (he : ∀ whole, isTrue e X.env whole = (do let v ← whole; standAt e.pos; holding [v] (truthy v)) := by intro _; rfl) : SimT cl W X G e (tF f) :=
  PT.weak (pt_val h he) (goT fun _ _ _ q => q)

/-! ### the operators -/
def i2 (p : Int → Int → Rz D) : D → D → Rz D
  | .int i, .int j => p i j
  | _, _ => .no
@[simp] theorem i2_int (p : Int → Int → Rz D) (i j : Int) : i2 p (.int i) (.int j) = p i j := rfl
theorem hop_i2 {K : PySem.W.Frag} {p : Int → Int → Rz D} {r : R2} (h : ∀ F H i j Q, Ex F H → Res K cl W (p i j) m F H Q → r (.int i) (.int j) H Q) :
    ∀ F H x y dx dy Q, Ex F H → Rep K cl H x dx → Rep K cl H y dy → Res K cl W (i2 p dx dy) m F H Q → r x y H Q := fun F H x y dx dy Q ex rx ry q => by
  cases rx <;> first
    | exact q.elim
    | (cases ry <;> first | exact q.elim | exact h F H _ _ Q ex q)
def addI (i j : Int) : Rz D := .ok (.int (i + j))
def subI (i j : Int) : Rz D := .ok (.int (i - j))
def mulI (i j : Int) : Rz D := if i.natAbs < 18446744073709551616 ∨ j.natAbs < 18446744073709551616 then .ok (.int (i * j)) else .no
def fdivI (i j : Int) : Rz D := if j ≠ 0 ∧ j.natAbs < 1073741824 then .ok (.int (i.fdiv j)) else .no
def modI (i j : Int) : Rz D := if j ≠ 0 then .ok (.int (i.fmod j)) else .no
def powI (i j : Int) : Rz D := if 0 ≤ j ∧ j.natAbs ≤ 1000 ∧ i.natAbs < 1000000 then .ok (.int (i ^ j.toNat)) else .no
def ltI (i j : Int) : Rz D := .ok (.bl (decide (i < j)))
def leI (i j : Int) : Rz D := .ok (.bl (decide (i ≤ j)))
def gtI (i j : Int) : Rz D := .ok (.bl (decide (j < i)))
def geI (i j : Int) : Rz D := .ok (.bl (decide (j ≤ i)))
section
variable {ha : SimE cl W X G a f .R} {hb : SimE cl W X G b g .R}
theorem sim_add (ha : SimE cl W X G a f .R) (hb : SimE cl W X G b g .R) : SimE cl W X G (.BinOp a .Add b pos) (b2 (i2 addI) f g) m :=
  sim_op op_add (hop_i2 fun F H i j Q ex q => ⟨i, j, rfl, rfl, q.imR (fun _ => .int _) rfl ex⟩) ha hb
theorem sim_sub (ha : SimE cl W X G a f .R) (hb : SimE cl W X G b g .R) : SimE cl W X G (.BinOp a .Sub b pos) (b2 (i2 subI) f g) m :=
  sim_op op_sub (hop_i2 fun F H i j Q ex q => ⟨i, j, rfl, rfl, q.imR (fun _ => .int _) rfl ex⟩) ha hb
theorem Res.ifp {K : PySem.W.Frag} {c : Prop} [Decidable c] {o : Rz D} {F H : Hp} {Q : VK} (q : Res K cl W (if c then o else .no) m F H Q) : c ∧ Res K cl W o m F H Q := by
  by_cases h : c
  · rw [if_pos h] at q; exact ⟨h, q⟩
  · rw [if_neg h] at q; exact q.elim
theorem sim_mul (ha : SimE cl W X G a f .R) (hb : SimE cl W X G b g .R) : SimE cl W X G (.BinOp a .Mult b pos) (b2 (i2 mulI) f g) m :=
  sim_op op_mul (hop_i2 fun F H i j Q ex q => by
    obtain ⟨c, q⟩ := Res.ifp q
    exact ⟨i, j, rfl, rfl, c.imp (fun z => ⟨by omega, by omega⟩) (fun z => ⟨by omega, by omega⟩), q.imR (fun _ => .int _) rfl ex⟩) ha hb
theorem sim_fdiv (ha : SimE cl W X G a f .R) (hb : SimE cl W X G b g .R) : SimE cl W X G (.BinOp a .FloorDiv b pos) (b2 (i2 fdivI) f g) m :=
  sim_op op_fdivN (hop_i2 fun F H i j Q ex q => by
    obtain ⟨c, q⟩ := Res.ifp q
    exact ⟨i, j, rfl, rfl, ⟨c.1, by omega⟩, q.imR (fun _ => .int _) rfl ex⟩) ha hb
theorem sim_mod (ha : SimE cl W X G a f .R) (hb : SimE cl W X G b g .R) : SimE cl W X G (.BinOp a .Mod b pos) (b2 (i2 modI) f g) m :=
  sim_op op_modN (hop_i2 fun F H i j Q ex q => by
    obtain ⟨c, q⟩ := Res.ifp q
    exact ⟨i, j, rfl, rfl, c, q.imR (fun _ => .int _) rfl ex⟩) ha hb
theorem sim_pow (ha : SimE cl W X G a f .R) (hb : SimE cl W X G b g .R) : SimE cl W X G (.BinOp a .Pow b pos) (b2 (i2 powI) f g) m :=
  sim_op op_pow (hop_i2 fun F H i j Q ex q => by
    obtain ⟨c, q⟩ := Res.ifp q
    exact ⟨i, j, rfl, rfl, ⟨c.1, by omega, by omega⟩, q.imR (fun _ => .int _) rfl ex⟩) ha hb
theorem hopB {K : PySem.W.Frag} {p : Int → Int → Bool} : ∀ F H i j Q, Ex F H → Res K cl W (.ok (.bl (p i j))) m F H Q → rI0 (fun i j => .bl (p i j)) (.int i) (.int j) H Q := fun F H i j Q ex q => ⟨i, j, rfl, rfl, q.imR (fun _ => .bl _) rfl ex⟩
theorem sim_lt (ha : SimE cl W X G a f .R) (hb : SimE cl W X G b g .R) : SimE cl W X G (.Compare a [.Lt] [b] pos) (b2 (i2 ltI) f g) m := sim_cmpR op_lt (hop_i2 hopB) ha hb (nomark _)
theorem sim_le (ha : SimE cl W X G a f .R) (hb : SimE cl W X G b g .R) : SimE cl W X G (.Compare a [.LtE] [b] pos) (b2 (i2 leI) f g) m := sim_cmpR op_le (hop_i2 hopB) ha hb (nomark _)
theorem sim_gt (ha : SimE cl W X G a f .R) (hb : SimE cl W X G b g .R) : SimE cl W X G (.Compare a [.Gt] [b] pos) (b2 (i2 gtI) f g) m := sim_cmpR op_gt (hop_i2 hopB) ha hb (nomark _)
theorem sim_ge (ha : SimE cl W X G a f .R) (hb : SimE cl W X G b g .R) : SimE cl W X G (.Compare a [.GtE] [b] pos) (b2 (i2 geI) f g) m := sim_cmpR op_ge (hop_i2 hopB) ha hb (nomark _)
theorem simT_lt (ha : SimE cl W X G a f .R) (hb : SimE cl W X G b g .R) : SimT cl W X G (.Compare a [.Lt] [b] pos) (tF (b2 (i2 ltI) f g)) := simT_cmpR op_lt (hop_i2 hopB) ha hb (nomark _)
theorem simT_le (ha : SimE cl W X G a f .R) (hb : SimE cl W X G b g .R) : SimT cl W X G (.Compare a [.LtE] [b] pos) (tF (b2 (i2 leI) f g)) := simT_cmpR op_le (hop_i2 hopB) ha hb (nomark _)
theorem simT_gt (ha : SimE cl W X G a f .R) (hb : SimE cl W X G b g .R) : SimT cl W X G (.Compare a [.Gt] [b] pos) (tF (b2 (i2 gtI) f g)) := simT_cmpR op_gt (hop_i2 hopB) ha hb (nomark _)
theorem simT_ge (ha : SimE cl W X G a f .R) (hb : SimE cl W X G b g .R) : SimT cl W X G (.Compare a [.GtE] [b] pos) (tF (b2 (i2 geI) f g)) := simT_cmpR op_ge (hop_i2 hopB) ha hb (nomark _)
end

/-! ### one operand -/
def u1 (p : D → Rz D) (f : En → Rz D) : En → Rz D := fun env => (f env).bind p
theorem go1 {K : PySem.W.Frag} {m : Mo} {p : D → Rz D} {r : V → Hp → VK → Prop} (hop : ∀ F H x dx Q, Ex F H → Rep K cl H x dx → Res K cl W (p dx) m F H Q → r x H Q) :
    ∀ σ H Q, tE K cl W G (u1 p f) m σ H Q → tUn r (tE K cl W G f .R) σ H Q := fun σ H Q ⟨env, So, F, s, q⟩ => by
  unfold u1 at q
  refine ⟨env, So, F, s, ?_⟩
  cases hf : f env with
  | ok dx =>
    rw [hf] at q
    exact fun x H1 F1 g1 o1 => hop F1 H1 x dx Q g1.i o1 (q.go g1)
  | er c => rw [hf] at q; exact q
  | no => rw [hf] at q; exact q
def negD : D → Rz D
  | .int i => .ok (.int (-i))
  | _ => .no
theorem sim_neg (ha : SimE cl W X G a f .R) : SimE cl W X G (.UnaryOp .USub a pos) (u1 negD f) m :=
  PE.weak (pe_un un_neg ha) (go1 fun F H x dx Q ex rx q => by
    cases rx <;> first | exact q.elim | exact ⟨_, rfl, q.imR (fun _ => .int _) rfl ex⟩)

/-! ### is None -/
def isN : D → Bool
  | .non => true
  | _ => false
theorem Rep.isN {K : PySem.W.Frag} {H : Hp} {v : V} {d : D} (h : Rep K cl H v d) : decide (v = .non) = isN d := by
  cases h <;> rfl
theorem sim_isN {j pos'} (ha : SimE cl W X G a f .R) : SimE cl W X G (.Compare a [.Is] [.Constant .none j pos'] pos) (u1 (fun d => .ok (.bl (isN d))) f) m :=
  PE.weak (pe_cmp (pc_isN ha) rfl) (go1 (r := fun x H Q => Q (.bl (decide (x = .non))) H) fun F H x dx Q ex rx q => by
    rw [rx.isN]; exact q.imR (fun _ => .bl _) rfl ex)
theorem sim_notN {j pos'} (ha : SimE cl W X G a f .R) : SimE cl W X G (.Compare a [.IsNot] [.Constant .none j pos'] pos) (u1 (fun d => .ok (.bl (!isN d))) f) m :=
  PE.weak (pe_cmp (pc_notN ha) rfl) (go1 (r := fun x H Q => Q (.bl (!decide (x = .non))) H) fun F H x dx Q ex rx q => by
    rw [rx.isN]; exact q.imR (fun _ => .bl _) rfl ex)
theorem simT_isN {j pos'} (ha : SimE cl W X G a f .R) : SimT cl W X G (.Compare a [.Is] [.Constant .none j pos'] pos) (tF (u1 (fun d => .ok (.bl (isN d))) f)) :=
  PT.weak (pt_cmp (pc_isN ha) rfl) (goT (go1 (r := fun x H Q => Q (.bl (decide (x = .non))) H) fun F H x dx Q ex rx q => by
    rw [rx.isN]; exact q.imR (fun _ => .bl _) rfl ex))
theorem simT_notN {j pos'} (ha : SimE cl W X G a f .R) : SimT cl W X G (.Compare a [.IsNot] [.Constant .none j pos'] pos) (tF (u1 (fun d => .ok (.bl (!isN d))) f)) :=
  PT.weak (pt_cmp (pc_notN ha) rfl) (goT (go1 (r := fun x H Q => Q (.bl (!decide (x = .non))) H) fun F H x dx Q ex rx q => by
    rw [rx.isN]; exact q.imR (fun _ => .bl _) rfl ex))

/-! ### and, or, not, if -/
def andF (f g : En → Rz Bool) : En → Rz Bool := fun env => (f env).bind fun b => if b = true then g env else .ok false
def orF (f g : En → Rz Bool) : En → Rz Bool := fun env => (f env).bind fun b => if b = true then .ok true else g env
def notF (f : En → Rz Bool) : En → Rz Bool := fun env => (f env).bind fun b => .ok (!b)
def iteF {α : Type} (c : En → Rz Bool) (f g : En → Rz α) : En → Rz α := fun env => (c env).bind fun b => if b = true then f env else g env
/-- a test's value -/
def bV (f : En → Rz Bool) : En → Rz D := fun env => (f env).bind fun b => .ok (.bl b)
variable {rest : List Expr} {p q' : En → Rz Bool}
theorem simW_and1 (ha : SimT cl W X G a p) : PW X (.BoolOp .And [a] pos) (tT X.K cl W G p) := pw_and1 ha
theorem simW_or1 (ha : SimT cl W X G a p) : PW X (.BoolOp .Or [a] pos) (tT X.K cl W G p) := pw_or1 ha
theorem simW_and (ha : SimT cl W X G a p) (hb : PW X (.BoolOp .And (b :: rest) pos) (tT X.K cl W G q')) : PW X (.BoolOp .And (a :: b :: rest) pos) (tT X.K cl W G (andF p q')) :=
  PW.weak (pw_and ha hb) fun σ H Q ⟨env, So, F, s, r⟩ => ⟨env, So, F, s, by
    unfold andF at r
    cases hp : p env with
    | ok c =>
      rw [hp] at r
      refine fun H1 F1 g1 => ?_
      cases c with
      | true => exact ⟨env, So, F1, s.grow g1, ResT.go g1 r⟩
      | false => exact r H1 F1 g1
    | er c => rw [hp] at r; exact r
    | no => rw [hp] at r; exact r⟩
theorem simW_or (ha : SimT cl W X G a p) (hb : PW X (.BoolOp .Or (b :: rest) pos) (tT X.K cl W G q')) : PW X (.BoolOp .Or (a :: b :: rest) pos) (tT X.K cl W G (orF p q')) :=
  PW.weak (pw_or ha hb) fun σ H Q ⟨env, So, F, s, r⟩ => ⟨env, So, F, s, by
    unfold orF at r
    cases hp : p env with
    | ok c =>
      rw [hp] at r
      refine fun H1 F1 g1 => ?_
      cases c with
      | false => exact ⟨env, So, F1, s.grow g1, ResT.go g1 r⟩
      | true => exact r H1 F1 g1
    | er c => rw [hp] at r; exact r
    | no => rw [hp] at r; exact r⟩
theorem simT_W (h : PW X e (tT X.K cl W G p)) : SimT cl W X G e p := h.pt
theorem simT_not (ha : SimT cl W X G a p) : SimT cl W X G (.UnaryOp .Not a pos) (notF p) :=
  PT.weak (pt_not ha) fun σ H Q ⟨env, So, F, s, r⟩ => ⟨env, So, F, s, by
    unfold notF at r
    cases hp : p env with
    | ok c => rw [hp] at r; exact r
    | er c => rw [hp] at r; exact r
    | no => rw [hp] at r; exact r⟩
theorem Res.bl {K : PySem.W.Frag} {F H : Hp} {b : Bool} {Q : VK} (e : Ex F H) (q : Res K cl W (.ok (.bl b)) m F H Q) : Q (.bl b) H := q.imR (fun _ => .bl _) rfl e
theorem bl_of {K : PySem.W.Frag} {F H : Hp} {v : V} {d : D} {b : Bool} (h : Rep K cl H v d) (e : toB d = .ok b) : v = .bl b := by
  cases h <;> first | (cases e; rfl) | cases e
/-- and, or, not as values -/
theorem sim_and1 (ha : SimE cl W X G a f .R) : SimE cl W X G (.BoolOp .And [a] pos) (bV (tF f)) .R := PE.weak (pe_one ha) fun σ H Q ⟨env, So, F, s, r⟩ => ⟨env, So, F, s, by
    unfold bV tF at r
    cases hf : f env with
    | ok d =>
      rw [hf] at r
      simp only [Rz.bind_ok] at r
      cases hb : toB d with
      | ok c =>
        rw [hb] at r
        refine fun v H1 F1 g1 o => ?_
        have ev := bl_of (F := F1) o hb
        subst ev
        exact r _ H1 F1 g1 (.bl c)
      | er c => cases d <;> cases hb
      | no => rw [hb] at r; exact r.elim
    | er c => rw [hf] at r; exact r
    | no => rw [hf] at r; exact r⟩
theorem sim_or1 (ha : SimE cl W X G a f .R) : SimE cl W X G (.BoolOp .Or [a] pos) (bV (tF f)) .R := PE.weak (pe_one ha) fun σ H Q ⟨env, So, F, s, r⟩ => ⟨env, So, F, s, by
    unfold bV tF at r
    cases hf : f env with
    | ok d =>
      rw [hf] at r
      simp only [Rz.bind_ok] at r
      cases hb : toB d with
      | ok c =>
        rw [hb] at r
        refine fun v H1 F1 g1 o => ?_
        have ev := bl_of (F := F1) o hb
        subst ev
        exact r _ H1 F1 g1 (.bl c)
      | er c => cases d <;> cases hb
      | no => rw [hb] at r; exact r.elim
    | er c => rw [hf] at r; exact r
    | no => rw [hf] at r; exact r⟩
theorem toB_er {d : D} {c : Nat} : toB d ≠ .er c := by cases d <;> (intro h; cases h)
theorem sim_and (ha : SimE cl W X G a f .R) (hb : SimE cl W X G (.BoolOp .And (b :: rest) pos) (bV q') .R) : SimE cl W X G (.BoolOp .And (a :: b :: rest) pos) (bV (andF (tF f) q')) .R :=
  PE.weak (pe_and ha hb) fun σ H Q ⟨env, So, F, s, r⟩ => ⟨env, So, F, s, by
    unfold bV andF tF at r
    cases hf : f env with
    | ok d =>
      rw [hf] at r
      simp only [Rz.bind_ok] at r
      cases hb : toB d with
      | ok c =>
        rw [hb] at r
        refine fun v H1 F1 g1 o => ⟨c, bl_of (F := F1) o hb, ?_⟩
        cases c with
        | true => exact ⟨env, So, F1, s.grow g1, Res.go g1 r⟩
        | false => exact r _ H1 F1 g1 (.bl false)
      | er c => exact (toB_er hb).elim
      | no => rw [hb] at r; exact r.elim
    | er c => rw [hf] at r; exact r
    | no => rw [hf] at r; exact r⟩
theorem sim_or (ha : SimE cl W X G a f .R) (hb : SimE cl W X G (.BoolOp .Or (b :: rest) pos) (bV q') .R) : SimE cl W X G (.BoolOp .Or (a :: b :: rest) pos) (bV (orF (tF f) q')) .R :=
  PE.weak (pe_or ha hb) fun σ H Q ⟨env, So, F, s, r⟩ => ⟨env, So, F, s, by
    unfold bV orF tF at r
    cases hf : f env with
    | ok d =>
      rw [hf] at r
      simp only [Rz.bind_ok] at r
      cases hb : toB d with
      | ok c =>
        rw [hb] at r
        refine fun v H1 F1 g1 o => ⟨c, bl_of (F := F1) o hb, ?_⟩
        cases c with
        | false => exact ⟨env, So, F1, s.grow g1, Res.go g1 r⟩
        | true => exact r _ H1 F1 g1 (.bl true)
      | er c => exact (toB_er hb).elim
      | no => rw [hb] at r; exact r.elim
    | er c => rw [hf] at r; exact r
    | no => rw [hf] at r; exact r⟩
theorem sim_not (ha : SimE cl W X G a f .R) : SimE cl W X G (.UnaryOp .Not a pos) (bV (notF (tF f))) .R :=
  PE.weak (pe_not ha) fun σ H Q ⟨env, So, F, s, r⟩ => ⟨env, So, F, s, by
    unfold bV notF tF at r
    cases hf : f env with
    | ok d =>
      rw [hf] at r
      simp only [Rz.bind_ok] at r
      cases hb : toB d with
      | ok c => rw [hb] at r; exact fun v H1 F1 g1 o => ⟨c, bl_of (F := F1) o hb, r _ H1 F1 g1 (.bl _)⟩
      | er c => exact (toB_er hb).elim
      | no => rw [hb] at r; exact r.elim
    | er c => rw [hf] at r; exact r
    | no => rw [hf] at r; exact r⟩
theorem sim_if {c : Expr} (hc : SimT cl W X G c p) (ha : SimE cl W X G a f m) (hb : SimE cl W X G b g m) : SimE cl W X G (.IfExp c a b pos) (iteF p f g) m :=
  PE.weak (pe_ifExp hc ha hb) fun σ H Q ⟨env, So, F, s, r⟩ => ⟨env, So, F, s, by
    unfold iteF at r
    cases hp : p env with
    | ok c =>
      rw [hp] at r
      refine fun H1 F1 g1 => ?_
      cases c with
      | true => exact ⟨env, So, F1, s.grow g1, Res.go g1 r⟩
      | false => exact ⟨env, So, F1, s.grow g1, Res.go g1 r⟩
    | er c => rw [hp] at r; exact r
    | no => rw [hp] at r; exact r⟩
end
end Pv

set_option Elab.async false
set_option linter.all false
set_option maxRecDepth 100000
set_option maxHeartbeats 1000000
/-! Pv, third part: ==, in, displays, items, slices, built-ins, calls, targets, what is walked, comprehensions. -/
namespace Pv
open PySem L2

/-! ### data as the library's -/
mutual
def toP : D → PyData
  | .non => .none
  | .bl b => .bool b
  | .int i => .int i
  | .str x => .str x
  | .lst xs => .list (toPs xs)
  | .tup xs => .tuple (toPs xs)
  | .fzl _ => .dict []
  | .dK _ => .dict []
  | .dT _ => .dict []
  | .obj _ _ => .dict []
def toPs : List D → List PyData
  | [] => []
  | x :: xs => toP x :: toPs xs
end
mutual
def okQ : D → Nat → Bool
  | .non, _ => true
  | .bl _, _ => true
  | .int _, _ => true
  | .str _, _ => true
  | .lst xs, n => decide (0 < n) && okQs xs (n - 1)
  | .tup xs, n => decide (0 < n) && okQs xs (n - 1)
  | .fzl _, _ => false
  | .dK _, _ => false
  | .dT _, _ => false
  | .obj _ _, _ => false
def okQs : List D → Nat → Bool
  | [], _ => true
  | x :: xs, n => okQ x n && okQs xs n
end
mutual
theorem okQ_plain : ∀ (d : D) (n : Nat), okQ d n = true → (toP d).plain = true ∧ (toP d).depth ≤ n
  | .non, _, _ => ⟨rfl, Nat.zero_le _⟩
  | .bl _, _, _ => ⟨rfl, Nat.zero_le _⟩
  | .int _, _, _ => ⟨rfl, Nat.zero_le _⟩
  | .str _, _, _ => ⟨rfl, Nat.zero_le _⟩
  | .lst xs, n, h => by
    rw [okQ, Bool.and_eq_true, decide_eq_true_eq] at h
    have z := okQs_plain xs (n - 1) h.2
    rw [toP, PyData.plain, PyData.depth]
    exact ⟨z.1, by omega⟩
  | .tup xs, n, h => by
    rw [okQ, Bool.and_eq_true, decide_eq_true_eq] at h
    have z := okQs_plain xs (n - 1) h.2
    rw [toP, PyData.plain, PyData.depth]
    exact ⟨z.1, by omega⟩
  | .fzl _, _, h => by simp [okQ] at h
  | .dK _, _, h => by simp [okQ] at h
  | .dT _, _, h => by simp [okQ] at h
  | .obj _ _, _, h => by simp [okQ] at h
theorem okQs_plain : ∀ (d : List D) (n : Nat), okQs d n = true → PyData.plainAll (toPs d) = true ∧ PyData.depthAll (toPs d) ≤ n
  | [], _, _ => ⟨rfl, Nat.zero_le _⟩
  | x :: xs, n, h => by
    rw [okQs, Bool.and_eq_true] at h
    have a := okQ_plain x n h.1
    have b := okQs_plain xs n h.2
    rw [toPs, PyData.plainAll, PyData.depthAll, a.1, b.1]
    exact ⟨rfl, Nat.max_le.mpr ⟨a.2, b.2⟩⟩
end
section
variable {K : PySem.W.Frag} {cl : Cl} {H : Hp}
mutual
theorem Rep.dp : ∀ (d : D) (v : V) (n : Nat), Rep K cl H v d → okQ d n = true → Dp K H v (toP d)
  | .non, _, _, h, _ => by cases h; exact .non
  | .bl _, _, _, h, _ => by cases h; exact .bl _
  | .int _, _, _, h, _ => by cases h; exact .int _
  | .str _, _, _, h, _ => by cases h; exact .str _
  | .lst xs, v, n, h, q => by
    rw [okQ, Bool.and_eq_true] at q
    cases h with
    | lst s r => rw [toP]; exact .lst (SqL.of s) (Reps.dp xs _ (n - 1) r q.2)
  | .tup xs, v, n, h, q => by
    rw [okQ, Bool.and_eq_true] at q
    cases h with
    | tup s r => rw [toP]; exact .tup (SqT.of s) (Reps.dp xs _ (n - 1) r q.2)
  | .fzl _, _, _, _, h => by simp [okQ] at h
  | .dK _, _, _, _, h => by simp [okQ] at h
  | .dT _, _, _, _, h => by simp [okQ] at h
  | .obj _ _, _, _, _, h => by simp [okQ] at h
theorem Reps.dp : ∀ (d : List D) (v : List V) (n : Nat), Reps K cl H v d → okQs d n = true → DpAll K H v (toPs d)
  | [], _, _, h, _ => by cases h; exact .nil
  | x :: xs, v, n, h, q => by
    rw [okQs, Bool.and_eq_true] at q
    cases h with
    | cons a b => rw [toPs]; exact .cons (Rep.dp x _ n a q.1) (Reps.dp xs _ n b q.2)
end
end
def eqq (a b : D) : Bool := PyData.eqv (toP a) (toP b)
def eqD (a b : D) : Rz D := if okQ a 20 = true ∧ okQ b 20 = true then .ok (.bl (eqq a b)) else .no
def neD (a b : D) : Rz D := if okQ a 20 = true ∧ okQ b 20 = true then .ok (.bl (!eqq a b)) else .no
def inD (x l : D) : Rz D := match l with
  | .lst ds => if okQ x 20 = true ∧ okQs ds 20 = true then .ok (.bl (ds.any fun y => eqq y x)) else .no
  | .tup ds => if okQ x 20 = true ∧ okQs ds 20 = true then .ok (.bl (ds.any fun y => eqq y x)) else .no
  | _ => .no
def ninD (x l : D) : Rz D := match l with
  | .lst ds => if okQ x 20 = true ∧ okQs ds 20 = true then .ok (.bl (!ds.any fun y => eqq y x)) else .no
  | .tup ds => if okQ x 20 = true ∧ okQs ds 20 = true then .ok (.bl (!ds.any fun y => eqq y x)) else .no
  | _ => .no
theorem toPs_any (ds : List D) (x : D) : ((toPs ds).any fun y => PyData.eqv y (toP x)) = ds.any fun y => eqq y x := by
  induction ds with
  | nil => rfl
  | cons d ds ih => rw [toPs, List.any_cons, List.any_cons, ih]; rfl
section
variable {X : Cx}
def rEqP (K : PySem.W.Frag) (neg : Bool) : R2 := fun x y H Q => ∃ d e, Dp K H x d ∧ Dp K H y e ∧ d.plain = true ∧ e.plain = true ∧ d.depth ≤ 20 ∧ Q (.bl (if neg then !PyData.eqv d e else PyData.eqv d e)) H
theorem op_eqP (hu : X.A.units + 64 < cLine) : OpR X (compareOp .Eq) (rEqP X.K false) := by
  intro pins s σ H x y v u Q I rx ry h
  obtain ⟨d, e, hd, he, sd, se, hn, q⟩ := h
  obtain ⟨as, r1⟩ := Dp.reads I d x v hd rx
  obtain ⟨bs, r2⟩ := Dp.reads I e y u he ry
  exact SeqAt.eq_plain r1 r2 sd se (by omega) ⟨.bl _, H, I, rfl, q⟩
theorem op_neP (hu : X.A.units + 64 < cLine) : OpR X (compareOp .NotEq) (rEqP X.K true) := by
  intro pins s σ H x y v u Q I rx ry h
  obtain ⟨d, e, hd, he, sd, se, hn, q⟩ := h
  obtain ⟨as, r1⟩ := Dp.reads I d x v hd rx
  obtain ⟨bs, r2⟩ := Dp.reads I e y u he ry
  exact SeqAt.ne_plain r1 r2 sd se (by omega) ⟨.bl _, H, I, rfl, q⟩
def rInP (K : PySem.W.Frag) (neg : Bool) : R2 := fun x y H Q => ∃ d ds, Dp K H x d ∧ (Dp K H y (.list ds) ∨ Dp K H y (.tuple ds)) ∧ d.plain = true ∧ PyData.plainAll ds = true ∧ d.depth ≤ 20 ∧ Q (.bl (if neg then !ds.any fun z => PyData.eqv z d else ds.any fun z => PyData.eqv z d)) H
theorem op_inP (hu : X.A.units + 64 < cLine) : OpR X (compareOp .In) (rInP X.K false) := by
  intro pins s σ H x y v u Q I rx ry h
  obtain ⟨d, ds, hd, he, sd, se, hn, q⟩ := h
  obtain ⟨as, r1⟩ := Dp.reads I d x v hd rx
  rcases he with he | he
  · obtain ⟨bs, r2⟩ := Dp.reads I _ y u he ry
    exact SeqAt.in_list_data r2 r1 se sd (by omega) ⟨.bl _, H, I, rfl, q⟩
  · obtain ⟨bs, r2⟩ := Dp.reads I _ y u he ry
    exact SeqAt.in_tuple_data r2 r1 se sd (by omega) ⟨.bl _, H, I, rfl, q⟩
theorem op_ninP (hu : X.A.units + 64 < cLine) : OpR X (compareOp .NotIn) (rInP X.K true) := by
  intro pins s σ H x y v u Q I rx ry h
  obtain ⟨d, ds, hd, he, sd, se, hn, q⟩ := h
  obtain ⟨as, r1⟩ := Dp.reads I d x v hd rx
  rcases he with he | he
  · obtain ⟨bs, r2⟩ := Dp.reads I _ y u he ry
    exact SeqAt.notIn_list_data r2 r1 se sd (by omega) ⟨.bl _, H, I, rfl, q⟩
  · obtain ⟨bs, r2⟩ := Dp.reads I _ y u he ry
    exact SeqAt.notIn_tuple_data r2 r1 se sd (by omega) ⟨.bl _, H, I, rfl, q⟩
end
section
variable {X : Cx} {cl : Cl} {W : Nat → Hp → Prop} {G : List Md} {m : Mo} {pos : Pos} {e a b : Expr} {f g : En → Rz D}
theorem hop_eq {K : PySem.W.Frag} : ∀ F H x y dx dy Q, Ex F H → Rep K cl H x dx → Rep K cl H y dy → Res K cl W (eqD dx dy) m F H Q → rEqP K false x y H Q := fun F H x y dx dy Q ex rx ry q => by
  obtain ⟨c, q⟩ := Res.ifp q
  have p1 := okQ_plain dx 20 c.1
  have p2 := okQ_plain dy 20 c.2
  exact ⟨_, _, Rep.dp dx x 20 rx c.1, Rep.dp dy y 20 ry c.2, p1.1, p2.1, p1.2, q.bl ex⟩
theorem hop_ne {K : PySem.W.Frag} : ∀ F H x y dx dy Q, Ex F H → Rep K cl H x dx → Rep K cl H y dy → Res K cl W (neD dx dy) m F H Q → rEqP K true x y H Q := fun F H x y dx dy Q ex rx ry q => by
  obtain ⟨c, q⟩ := Res.ifp q
  have p1 := okQ_plain dx 20 c.1
  have p2 := okQ_plain dy 20 c.2
  exact ⟨_, _, Rep.dp dx x 20 rx c.1, Rep.dp dy y 20 ry c.2, p1.1, p2.1, p1.2, q.bl ex⟩
theorem hop_in {K : PySem.W.Frag} : ∀ F H x y dx dy Q, Ex F H → Rep K cl H x dx → Rep K cl H y dy → Res K cl W (inD dx dy) m F H Q → rInP K false x y H Q := fun F H x y dx dy Q ex rx ry q => by
  cases dy <;> first
    | exact q.elim
    | (obtain ⟨c, q⟩ := Res.ifp q
       have p1 := okQ_plain dx 20 c.1
       have p2 := okQs_plain _ 20 c.2
       refine ⟨_, _, Rep.dp dx x 20 rx c.1, ?_, p1.1, p2.1, p1.2, ?_⟩
       · first | exact .inl (Rep.dp _ y 21 ry (by rw [okQ, c.2]; rfl)) | exact .inr (Rep.dp _ y 21 ry (by rw [okQ, c.2]; rfl))
       · simp only [Bool.false_eq_true, if_false]
         rw [toPs_any]; exact q.bl ex)
theorem hop_nin {K : PySem.W.Frag} : ∀ F H x y dx dy Q, Ex F H → Rep K cl H x dx → Rep K cl H y dy → Res K cl W (ninD dx dy) m F H Q → rInP K true x y H Q := fun F H x y dx dy Q ex rx ry q => by
  cases dy <;> first
    | exact q.elim
    | (obtain ⟨c, q⟩ := Res.ifp q
       have p1 := okQ_plain dx 20 c.1
       have p2 := okQs_plain _ 20 c.2
       refine ⟨_, _, Rep.dp dx x 20 rx c.1, ?_, p1.1, p2.1, p1.2, ?_⟩
       · first | exact .inl (Rep.dp _ y 21 ry (by rw [okQ, c.2]; rfl)) | exact .inr (Rep.dp _ y 21 ry (by rw [okQ, c.2]; rfl))
       · simp only [if_true]
         rw [toPs_any]; exact q.bl ex)
theorem sim_eq (hu : X.A.units + 64 < cLine) (ha : SimE cl W X G a f .R) (hb : SimE cl W X G b g .R) : SimE cl W X G (.Compare a [.Eq] [b] pos) (b2 eqD f g) m := sim_cmpR (op_eqP hu) hop_eq ha hb (nomark _)
theorem sim_ne (hu : X.A.units + 64 < cLine) (ha : SimE cl W X G a f .R) (hb : SimE cl W X G b g .R) : SimE cl W X G (.Compare a [.NotEq] [b] pos) (b2 neD f g) m := sim_cmpR (op_neP hu) hop_ne ha hb (nomark _)
theorem simT_eq (hu : X.A.units + 64 < cLine) (ha : SimE cl W X G a f .R) (hb : SimE cl W X G b g .R) : SimT cl W X G (.Compare a [.Eq] [b] pos) (tF (b2 eqD f g)) := simT_cmpR (op_eqP hu) hop_eq ha hb (nomark _)
theorem simT_ne (hu : X.A.units + 64 < cLine) (ha : SimE cl W X G a f .R) (hb : SimE cl W X G b g .R) : SimT cl W X G (.Compare a [.NotEq] [b] pos) (tF (b2 neD f g)) := simT_cmpR (op_neP hu) hop_ne ha hb (nomark _)
theorem sim_in (hu : X.A.units + 64 < cLine) (ha : SimE cl W X G a f .R) (hb : SimE cl W X G b g .R) (hm : behindInMarks .In b = false := by rfl) : SimE cl W X G (.Compare a [.In] [b] pos) (b2 inD f g) m := sim_cmpR (op_inP hu) hop_in ha hb hm
theorem sim_nin (hu : X.A.units + 64 < cLine) (ha : SimE cl W X G a f .R) (hb : SimE cl W X G b g .R) (hm : behindInMarks .NotIn b = false := by rfl) : SimE cl W X G (.Compare a [.NotIn] [b] pos) (b2 ninD f g) m := sim_cmpR (op_ninP hu) hop_nin ha hb hm
theorem simT_in (hu : X.A.units + 64 < cLine) (ha : SimE cl W X G a f .R) (hb : SimE cl W X G b g .R) (hm : behindInMarks .In b = false := by rfl) : SimT cl W X G (.Compare a [.In] [b] pos) (tF (b2 inD f g)) := simT_cmpR (op_inP hu) hop_in ha hb hm
theorem simT_nin (hu : X.A.units + 64 < cLine) (ha : SimE cl W X G a f .R) (hb : SimE cl W X G b g .R) (hm : behindInMarks .NotIn b = false := by rfl) : SimT cl W X G (.Compare a [.NotIn] [b] pos) (tF (b2 ninD f g)) := simT_cmpR (op_ninP hu) hop_nin ha hb hm

/-! ### items -/
def ixD (l i : D) : Rz D := match l, i with
  | .lst ds, .int k => match atI ds k with
    | some d => .ok d
    | none => .no
  | .fzl ds, .int k => match atI ds k with
    | some d => .ok d
    | none => .no
  | .tup ds, .int k => match atI ds k with
    | some d => .ok d
    | none => .no
  | _, _ => .no
theorem Reps.atI {K : PySem.W.Frag} {H : Hp} {vs : List V} {ds : List D} {k : Int} {d : D} (r : Reps K cl H vs ds) (h : L2.atI ds k = some d) : ∃ v, L2.atI vs k = some v ∧ Rep K cl H v d := by
  unfold L2.atI at h ⊢
  rw [r.length]
  cases q : ixN ds.length k with
  | none => rw [q] at h; cases h
  | some j =>
    rw [q] at h
    exact r.get h
theorem hop_ix {K : PySem.W.Frag} (hd : (∃ k, m = .N (k + 1)) → False) (hm : m = .R ∨ m = .N 0) (fr : m = .N 0 → ∀ F H x dx, Ex F H → Rep K cl H x dx → Rep K cl F x dx) :
    ∀ F H x y dx dy Q, Ex F H → Rep K cl H x dx → Rep K cl H y dy → Res K cl W (ixD dx dy) m F H Q → rIx K x y H Q := fun F H x y dx dy Q ex rx ry q => by
  have fin : ∀ {v d}, Rep K cl H v d → Res K cl W (.ok d) m F H Q → Q v H := fun {v d} r q => by
    rcases hm with rfl | rfl
    · exact q v H F (Grow.refl ex) r
    · exact q v H F (Grow.refl ex) ⟨[], .z (fr rfl F H v d ex r), List.nodup_nil, fun _ z => nomatch z⟩
  cases rx <;> first
    | exact q.elim
    | skip
  · cases ry <;> first | exact q.elim | skip
    rename_i a xs ds s r k
    have q : Res K cl W (match L2.atI ds k with | some d => .ok d | none => .no) m F H Q := q
    cases h : L2.atI ds k with
    | none => rw [h] at q; exact q.elim
    | some d =>
      rw [h] at q
      obtain ⟨v, hv, rv⟩ := r.atI h
      exact .inl ⟨a, xs, k, v, rfl, rfl, SqL.of s, hv, fin rv q⟩
  · cases ry <;> first | exact q.elim | skip
    rename_i a xs ds s r k
    have q : Res K cl W (match L2.atI ds k with | some d => .ok d | none => .no) m F H Q := q
    cases h : L2.atI ds k with
    | none => rw [h] at q; exact q.elim
    | some d =>
      rw [h] at q
      obtain ⟨v, hv, rv⟩ := r.atI h
      exact .inl ⟨a, xs, k, v, rfl, rfl, s, hv, fin rv q⟩
  · cases ry <;> first | exact q.elim | skip
    rename_i a xs ds s r k
    have q : Res K cl W (match L2.atI ds k with | some d => .ok d | none => .no) m F H Q := q
    cases h : L2.atI ds k with
    | none => rw [h] at q; exact q.elim
    | some d =>
      rw [h] at q
      obtain ⟨v, hv, rv⟩ := r.atI h
      exact .inr (.inl ⟨a, xs, k, v, rfl, rfl, SqT.of s, hv, fin rv q⟩)
theorem sim_ix (ha : SimE cl W X G a f .R) (hb : SimE cl W X G b g .R) (hs : PlainIx b := by intro _ _; rfl) : SimE cl W X G (.Subscript a b pos) (b2 ixD f g) .R :=
  PE.weak (pe_ix ix_seq ha hb hs) (go2 (hop_ix (m := .R) (fun ⟨_, z⟩ => nomatch z) (.inl rfl) fun z => nomatch z))
/-- of a frozen one -/
theorem go2N {r : R2} {op : D → D → Rz D} {m : Mo} {G : List Md} {f g : En → Rz D} {K : PySem.W.Frag} (hop : ∀ F H x y dx dy Q, Ex F H → Rep K cl F x dx → Rep K cl H y dy → Res K cl W (op dx dy) m F H Q → r x y H Q) :
    ∀ σ H Q, tE K cl W G (b2 op f g) m σ H Q → tOp r (tE K cl W G f (.N 0)) (tE K cl W G g .R) σ H Q := fun σ H Q ⟨env, So, F, s, q⟩ => by
  unfold b2 at q
  refine ⟨env, So, F, s, ?_⟩
  cases hf : f env with
  | ok dx =>
    rw [hf] at q
    simp only [Rz.bind_ok] at q
    refine fun x H1 F1 g1 ⟨S, o1, _⟩ => ⟨env, So, F1, s.grow g1, ?_⟩
    cases hg : g env with
    | ok dy =>
      rw [hg] at q
      simp only [Rz.bind_ok] at q
      exact fun y H2 F2 g2 o2 => hop F2 H2 x y dx dy Q g2.i (o1.zero_nil.2.mono g2.f) o2 (q.go (g1.trans g2))
    | er c => rw [hg] at q; exact fun H' e => q H' (g1.h.trans e)
    | no => rw [hg] at q; exact q
  | er c => rw [hf] at q; exact q
  | no => rw [hf] at q; exact q
theorem hop_ixN {K : PySem.W.Frag} : ∀ F H x y dx dy Q, Ex F H → Rep K cl F x dx → Rep K cl H y dy → Res K cl W (ixD dx dy) (.N 0) F H Q → rIx K x y H Q := fun F H x y dx dy Q ex rx ry q => by
  have fin : ∀ {v d}, Rep K cl F v d → Res K cl W (.ok d) (.N 0) F H Q → Q v H := fun {v d} r q =>
    q v H F (Grow.refl ex) ⟨[], .z r, List.nodup_nil, fun _ z => nomatch z⟩
  cases rx <;> first
    | exact q.elim
    | skip
  · cases ry <;> first | exact q.elim | skip
    rename_i a xs ds s r k
    have q : Res K cl W (match L2.atI ds k with | some d => .ok d | none => .no) (.N 0) F H Q := q
    cases h : L2.atI ds k with
    | none => rw [h] at q; exact q.elim
    | some d =>
      rw [h] at q
      obtain ⟨v, hv, rv⟩ := r.atI h
      exact .inl ⟨a, xs, k, v, rfl, rfl, SqL.of (ex _ _ s), hv, fin rv q⟩
  · cases ry <;> first | exact q.elim | skip
    rename_i a xs ds s r k
    have q : Res K cl W (match L2.atI ds k with | some d => .ok d | none => .no) (.N 0) F H Q := q
    cases h : L2.atI ds k with
    | none => rw [h] at q; exact q.elim
    | some d =>
      rw [h] at q
      obtain ⟨v, hv, rv⟩ := r.atI h
      exact .inl ⟨a, xs, k, v, rfl, rfl, Evl.ex_l ex s, hv, fin rv q⟩
  · cases ry <;> first | exact q.elim | skip
    rename_i a xs ds s r k
    have q : Res K cl W (match L2.atI ds k with | some d => .ok d | none => .no) (.N 0) F H Q := q
    cases h : L2.atI ds k with
    | none => rw [h] at q; exact q.elim
    | some d =>
      rw [h] at q
      obtain ⟨v, hv, rv⟩ := r.atI h
      exact .inr (.inl ⟨a, xs, k, v, rfl, rfl, SqT.of (ex _ _ s), hv, fin rv q⟩)
theorem sim_ixN (ha : SimE cl W X G a f (.N 0)) (hb : SimE cl W X G b g .R) (hs : PlainIx b := by intro _ _; rfl) : SimE cl W X G (.Subscript a b pos) (b2 ixD f g) (.N 0) :=
  PE.weak (pe_ix ix_seq ha hb hs) (go2N hop_ixN)
def ixLD (l i : D) : Rz D := match l, i with
  | .lst ds, .int k => match atI ds k with
    | some d => .ok d
    | none => .no
  | _, _ => .no
/-- an item of an owned list of frozen ones -/
theorem sim_ix1 {i : Nat} (h : PE X a (tVar i)) (hG : G[i]? = some (some 1)) (hb : SimE cl W X G b g .R) (hs : PlainIx b := by intro _ _; rfl) : SimE cl W X G (.Subscript a b pos) (b2 ixLD (vF i) g) (.N 0) :=
  PE.weak (pe_ix ix_list h hb hs) fun σ H Q ⟨env, So, F, s, q⟩ => by
    unfold b2 vF at q
    cases hd : env[i]? with
    | none => rw [hd] at q; exact q.elim
    | some od =>
      cases od with
      | none => rw [hd] at q; exact q.elim
      | some d =>
        rw [hd] at q
        simp only [Rz.bind_ok] at q
        obtain ⟨v, h1, h2⟩ := s.sl i 1 d hG hd
        refine ⟨v, h1, env, So, F, s, ?_⟩
        cases hg : g env with
        | er c => rw [hg] at q; exact q
        | no => rw [hg] at q; exact q
        | ok dy =>
          rw [hg] at q
          simp only [Rz.bind_ok] at q
          refine fun y H2 F2 g2 o2 => ?_
          have o2 : Rep X.K cl H2 y dy := o2
          have q2 := q.go g2
          cases d <;> first | exact q2.elim | skip
          · cases o2 <;> first | exact q2.elim | skip
            rename_i ds k
            have q2 : Res X.K cl W (match L2.atI ds k with | some d => .ok d | none => .no) (.N 0) F2 H2 Q := q2
            cases h : L2.atI ds k with
            | none => rw [h] at q2; exact q2.elim
            | some d =>
              rw [h] at q2
              have sg := s.grow g2
              obtain ⟨v', h1', h2'⟩ := sg.sl i 1 _ hG hd
              rw [h1] at h1'; cases h1'
              generalize hS : So i = S at h2'
              cases h2' with
              | im r z => simp [imm] at z
              | lst hh oo =>
                obtain ⟨w', hv, rv⟩ := oo.zero_nil.2.atI h
                exact ⟨_, _, k, w', rfl, rfl, SqL.of hh, hv, q2 w' H2 F2 (Grow.refl g2.i) ⟨[], .z rv, List.nodup_nil, fun _ z => nomatch z⟩⟩

/-! ### argument lists, displays -/
def nilF : En → Rz (List D) := fun _ => .ok []
def consF (f : En → Rz D) (g : En → Rz (List D)) : En → Rz (List D) := fun env => (f env).bind fun x => (g env).bind fun xs => .ok (x :: xs)
theorem simA_nil : SimA cl W X G [] nilF m := PA.weak pa_nil fun σ H Q ⟨env, So, F, s, q⟩ => by
  have q : ResA X.K cl W (.ok []) m F H Q := q
  refine q [] H F (Grow.refl s.ex) ?_
  cases m with
  | R => exact .nil
  | N k => exact ⟨[], .nil, List.nodup_nil, fun _ z => nomatch z⟩
theorem simA_cons {es : List Expr} {fs : En → Rz (List D)} (ha : SimE cl W X G e f m) (hb : SimA cl W X G es fs m) (hs : starEach (e :: es) X.env = (false, eval e X.env) :: starEach es X.env := by rfl) : SimA cl W X G (e :: es) (consF f fs) m :=
  PA.weak (pa_cons ha hb hs) fun σ H Q ⟨env, So, F, s, q⟩ => by
    unfold consF at q
    refine ⟨env, So, F, s, ?_⟩
    cases hf : f env with
    | er c => rw [hf] at q; exact q
    | no => rw [hf] at q; exact q
    | ok x =>
      rw [hf] at q
      simp only [Rz.bind_ok] at q
      refine fun v H1 F1 g1 o1 => ⟨env, So, F1, s.grow g1, ?_⟩
      cases hg : fs env with
      | er c => rw [hg] at q; exact fun H' e => q H' (g1.h.trans e)
      | no => rw [hg] at q; exact q
      | ok xs =>
        rw [hg] at q
        simp only [Rz.bind_ok] at q
        refine fun vs H2 F2 g2 o2 => q (v :: vs) H2 F2 (g1.trans g2) ?_
        cases m with
        | R => exact .cons (Rep.mono g2.h o1) o2
        | N k =>
          obtain ⟨S, o, nd, fr⟩ := o1
          obtain ⟨T, o', nd', fr'⟩ := o2
          have lv := o.live
          refine ⟨S ++ T, .cons (o.mono g2.f fun a ha => mut_keep g2.h (lv a ha)) o', List.nodup_append.mpr ⟨nd, nd', fun a ha b hb e => ?_⟩, fun a ha => ?_⟩
          · subst e
            have z := lv a ha
            rw [(fr' a hb).1] at z
            exact z
          · rcases List.mem_append.mp ha with ha | ha
            · refine ⟨(fr a ha).1, ?_⟩
              cases q' : F2 a with
              | none => rfl
              | some u => exact absurd (lv a ha) (g2.n a (fr a ha).2 (by rw [q']; simp))
            · exact ⟨Evl.fresh_back g1.h (fr' a ha).1, (fr' a ha).2⟩
/-- the most that a list holds here -/
def lim : Nat := 1000000
theorem lim_le {n : Nat} (h : n ≤ lim) : n ≤ sizeLine := Nat.le_trans h (by decide)
theorem lim_lt {n : Nat} (h : n < lim) : n < sizeLine := Nat.lt_of_lt_of_le h (by decide)
def lstO (ds : List D) : Rz D := if ds.length ≤ lim then .ok (.lst ds) else .no
def tupO (ds : List D) : Rz D := if ds.length ≤ lim then .ok (.tup ds) else .no
def aF (op : List D → Rz D) (f : En → Rz (List D)) : En → Rz D := fun env => (f env).bind op
theorem Owns.live {K : PySem.W.Frag} {F H : Hp} {k : Nat} {vs : List V} {ds : List D} {S : List Addr} (h : Owns K cl F H k vs ds S) : ∀ a ∈ S, Mut (H a) := by
  induction ds generalizing vs S with
  | nil => cases h; exact fun _ z => nomatch z
  | cons d ds ih =>
    cases h with
    | cons a b => exact fun c hc => (List.mem_append.mp hc).elim (a.live c) (ih b c)
theorem goA {K : PySem.W.Frag} {m m' : Mo} {op : List D → Rz D} {fs : En → Rz (List D)} {R : VK → List V → Hp → Prop}
    (hop : ∀ F0 H0 F H vs ds Q, Grow F0 H0 F H → OutA K cl m' vs ds H0 F H → Res K cl W (op ds) m F0 H0 Q → R Q vs H) :
    ∀ σ H Q, tE K cl W G (aF op fs) m σ H Q → tA K cl W G fs m' σ H (R Q) := fun σ H Q ⟨env, So, F, s, q⟩ => ⟨env, So, F, s, by
  unfold aF at q
  cases hf : fs env with
  | er c => rw [hf] at q; exact q
  | no => rw [hf] at q; exact q
  | ok ds =>
    rw [hf] at q
    exact fun vs H1 F1 g1 o1 => hop F H F1 H1 vs ds Q g1 o1 q⟩
theorem upd_keep {H : Hp} {p : Addr} {o : HO} (hp : H p = none) {a : Addr} (h : Mut (H a)) : upd H p o a = H a := by
  rw [upd_ne]
  rintro rfl
  rw [hp] at h; exact h
theorem sim_lst {es : List Expr} {fs : En → Rz (List D)} {k : Nat} (h : SimA cl W X G es fs (.N k)) : SimE cl W X G (.List es pos) (aF lstO fs) (.N (k + 1)) :=
  PE.weak (pe_lst h) (goA (R := fun Q xs H1 => xs.length ≤ sizeLine ∧ ∀ p, H1 p = none → Q (.ref p) (upd H1 p (.lst xs))) fun F0 H0 F H vs ds Q g ⟨S, o, nd, fr⟩ q => by
    obtain ⟨c, q⟩ := Res.ifp q
    refine ⟨by rw [(o.reps g.i).length]; exact lim_le c, fun p hp => q (.ref p) _ F (g.trans (Grow.newO g.i hp)) ⟨p :: S, .lst upd_same (o.mono (Evl.Ex.refl _) fun a ha => upd_keep hp (o.live a ha)), List.nodup_cons.mpr ⟨fun z => ?_, nd⟩, fun a ha => ?_⟩⟩
    · have := o.live p z; rw [hp] at this; exact this
    · rcases List.mem_cons.mp ha with rfl | ha
      · exact ⟨Evl.fresh_back g.h hp, Evl.fresh_back g.i hp⟩
      · exact fr a ha)
theorem sim_tup {es : List Expr} {fs : En → Rz (List D)} {k j : Nat} (h : SimA cl W X G es fs (.N k)) : SimE cl W X G (.Tuple es j pos) (aF tupO fs) (.N k) :=
  PE.weak (pe_tup h) (goA (R := fun Q xs H1 => xs.length ≤ sizeLine ∧ ∀ p, H1 p = none → Q (.ref p) (upd H1 p (.tup xs))) fun F0 H0 F H vs ds Q g ⟨S, o, nd, fr⟩ q => by
    obtain ⟨c, q⟩ := Res.ifp q
    refine ⟨by rw [(o.reps g.i).length]; exact lim_le c, fun p hp => ?_⟩
    have g2 := Grow.newF (o := .tup vs) g.i hp
    refine q (.ref p) _ _ (g.trans g2) ⟨S, .tup upd_same (o.mono g2.f fun a ha => upd_keep hp (o.live a ha)), nd, fun a ha => ⟨(fr a ha).1, ?_⟩⟩
    rw [upd_ne]
    · exact (fr a ha).2
    · rintro rfl
      have := o.live a ha; rw [hp] at this; exact this)
end
end Pv

set_option Elab.async false
set_option linter.all false
set_option maxRecDepth 100000
set_option maxHeartbeats 1000000
/-! Pv, fourth part: slices, +, built-ins, calls of the text's own defs. -/
namespace Pv
open PySem L2

section
variable {X : Cx} {cl : Cl} {W : Nat → Hp → Prop} {G : List Md} {m : Mo} {pos : Pos} {e a b : Expr} {f g : En → Rz D}
/-! ### a new list of frozen items -/
theorem new_lst {K : PySem.W.Frag} {F0 H0 F H : Hp} {vs : List V} {ds : List D} {Q : VK} (g : Grow F0 H0 F H) (r : Reps K cl F vs ds) (q : ∀ v H' F', Grow F0 H0 F' H' → Out K cl (.N 1) v (.lst ds) H0 F' H' → Q v H') :
    ∀ p, H p = none → Q (.ref p) (upd H p (.lst vs)) := fun p hp =>
  q (.ref p) _ F (g.trans (Grow.newO g.i hp)) ⟨[p], .lst upd_same (Owns.zero r), by simp, fun a ha => by
    have e : a = p := by simpa using ha
    subst e
    exact ⟨Evl.fresh_back g.h hp, Evl.fresh_back g.i hp⟩⟩
/-- what is plain in H is frozen in F with H's tuples -/
theorem Reps.imm_mono {K : PySem.W.Frag} {H H' : Hp} (e : ∀ a xs, H a = some (.tup xs) → H' a = some (.tup xs)) : ∀ {vs : List V} {ds : List D}, Reps K cl H vs ds → immA ds = true → Reps K cl H' vs ds
  | _, _, .nil, _ => .nil
  | _, _, .cons a b, z => by
    rw [immA, Bool.and_eq_true] at z
    exact .cons (a.imm_mono e z.1) (Reps.imm_mono e b z.2)
theorem Grow.addT {F0 H0 F H : Hp} (g : Grow F0 H0 F H) : Grow F0 H0 (addT F H) H := ⟨g.h, g.f.trans addT_ex, addT_in g.i (Evl.Ex.refl _), fun a h1 h2 => by
  cases r' : F a with
  | some o => exact g.n a h1 (by rw [r']; simp)
  | none =>
    obtain ⟨xs, e⟩ := addT_n r' h2
    intro hm
    have := mut_keep g.h hm
    rw [← this, e] at hm
    exact hm⟩

/-! ### slices -/
def simO (X : Cx) (cl : Cl) (W : Nat → Hp → Prop) (G : List Md) (o : Option Expr) (f : En → Rz (Option Int)) : Prop := ∃ t, PO X o t ∧ ∀ σ H Q env So F, Sl X.K cl G env σ So F H → (match f env with
  | .ok i => ∀ H' F', Grow F H F' H' → Q i H'
  | .er c => ∀ H', Ex H H' → W c H'
  | .no => False) → t σ H Q
theorem simO_none : simO X cl W G none (fun _ => .ok none) := ⟨_, po_none, fun σ H Q env So F s q => q H F (Grow.refl s.ex)⟩
def oiF (f : En → Rz D) : En → Rz (Option Int) := fun env => (f env).bind fun d => match d with
  | .int i => .ok (some i)
  | _ => .no
theorem simO_some (h : SimE cl W X G e f .R) : simO X cl W G (some e) (oiF f) := ⟨_, po_some h, fun σ H Q env So F s q => ⟨env, So, F, s, by
  unfold oiF at q
  cases hf : f env with
  | er c => rw [hf] at q; exact q
  | no => rw [hf] at q; exact q
  | ok d =>
    rw [hf] at q
    simp only [Rz.bind_ok] at q
    refine fun v H1 F1 g1 o1 => ?_
    have o1 : Rep X.K cl H1 v d := o1
    cases o1 <;> first | exact q.elim | exact ⟨_, rfl, q H1 F1 g1⟩⟩⟩
def cutL {α : Type} (xs : List α) (lo hi : Option Int) : List α := (xs.drop (HT.sIx xs.length 0 lo)).take (HT.sIx xs.length xs.length hi - HT.sIx xs.length 0 lo)
theorem Reps.cut {K : PySem.W.Frag} {H : Hp} {vs : List V} {ds : List D} (r : Reps K cl H vs ds) (lo hi : Option Int) : Reps K cl H (cutV vs lo hi) (cutL ds lo hi) := by
  unfold cutV cutL
  rw [r.length]
  exact (r.drop _).take _
def slD (d : D) (lo hi : Option Int) : Rz D := match d with
  | .lst ds => .ok (.lst (cutL ds lo hi))
  | _ => .no
def sl3 (p : D → Option Int → Option Int → Rz D) (f : En → Rz D) (lo hi : En → Rz (Option Int)) : En → Rz D := fun env => (f env).bind fun d => (lo env).bind fun l => (hi env).bind fun h => p d l h
theorem go_sl {lo hi : Option Expr} {fl fh : En → Rz (Option Int)} {m' : Mo} {p2 : Pos} {r : V → Option Int → Option Int → Hp → VK → Prop} {p : D → Option Int → Option Int → Rz D} (hr : SlR X r) (he : SimE cl W X G e f m') (hl : simO X cl W G lo fl) (hh : simO X cl W G hi fh)
    (hop : ∀ F0 H0 F1 H1 F H v d l u Q, Grow F0 H0 F1 H1 → Out X.K cl m' v d H0 F1 H1 → Grow F1 H1 F H → Res X.K cl W (p d l u) m F0 H0 Q → r v l u H Q) : SimE cl W X G (.Subscript e (.Slice lo hi none p2) pos) (sl3 p f fl fh) m := by
  obtain ⟨tl, pl, kl⟩ := hl
  obtain ⟨th, ph, kh⟩ := hh
  refine PE.weak (pe_slice hr he pl ph) fun σ H Q ⟨env, So, F, s, q⟩ => ⟨env, So, F, s, ?_⟩
  unfold sl3 at q
  cases hf : f env with
  | er c => rw [hf] at q; exact q
  | no => rw [hf] at q; exact q
  | ok d =>
    rw [hf] at q
    simp only [Rz.bind_ok] at q
    refine fun v H1 F1 g1 o1 => kl _ _ _ env So F1 (s.grow g1) ?_
    cases h1 : fl env with
    | er c => rw [h1] at q; exact fun H' e => q H' (g1.h.trans e)
    | no => rw [h1] at q; exact q
    | ok l =>
      rw [h1] at q
      simp only [Rz.bind_ok] at q
      refine fun H2 F2 g2 => kh _ _ _ env So F2 (s.grow (g1.trans g2)) ?_
      cases h2 : fh env with
      | er c => rw [h2] at q; exact fun H' e => q H' ((g1.trans g2).h.trans e)
      | no => rw [h2] at q; exact q
      | ok u =>
        rw [h2] at q
        exact fun H3 F3 g3 => hop F H F1 H1 F3 H3 v d l u Q g1 o1 (g2.trans g3) q
theorem sim_sl {lo hi : Option Expr} {fl fh : En → Rz (Option Int)} {p2 : Pos} (he : SimE cl W X G e f (.N 0)) (hl : simO X cl W G lo fl) (hh : simO X cl W G hi fh) : SimE cl W X G (.Subscript e (.Slice lo hi none p2) pos) (sl3 slD f fl fh) (.N 1) :=
  go_sl sl_list he hl hh fun F0 H0 F1 H1 F H v d l u Q g1 ⟨S, o, _⟩ g2 q => by
    have r := o.zero_nil.2
    cases r with
    | lst s r => exact ⟨_, _, rfl, SqL.of (g2.i _ _ (g2.f _ _ s)), new_lst (g1.trans g2) ((r.mono g2.f).cut l u) q⟩
    | _ => exact q.elim
def slI (d : D) (lo hi : Option Int) : Rz D := match d with
  | .lst ds => if immA ds = true then .ok (.lst (cutL ds lo hi)) else .no
  | _ => .no
/-- of any list of plain things -/
theorem sim_slR {lo hi : Option Expr} {fl fh : En → Rz (Option Int)} {p2 : Pos} (he : SimE cl W X G e f .R) (hl : simO X cl W G lo fl) (hh : simO X cl W G hi fh) : SimE cl W X G (.Subscript e (.Slice lo hi none p2) pos) (sl3 slI f fl fh) (.N 1) :=
  go_sl sl_list he hl hh fun F0 H0 F1 H1 F H v d l u Q g1 o g2 q => by
    have r : Rep X.K cl H1 v d := o
    cases r with
    | lst s r =>
      obtain ⟨c, q⟩ := Res.ifp q
      have g := (g1.trans g2)
      exact ⟨_, _, rfl, SqL.of (g2.h _ _ s), new_lst g.addT (((Reps.mono g2.h r).imm_mono (fun a xs e => addT_tup g.i e) c).cut l u) q⟩
    | _ => exact q.elim

/-! ### lists put together -/
def catD (x y : D) : Rz D := match x, y with
  | .lst a, .lst b => if a.length + b.length ≤ lim then .ok (.lst (a ++ b)) else .no
  | _, _ => .no
/-- both frozen -/
theorem go2NN {r : R2} {op : D → D → Rz D} {m : Mo} {G : List Md} {f g : En → Rz D} {K : PySem.W.Frag} (hop : ∀ F0 H0 F H x y dx dy Q, Grow F0 H0 F H → Rep K cl F x dx → Rep K cl F y dy → Res K cl W (op dx dy) m F0 H0 Q → r x y H Q) :
    ∀ σ H Q, tE K cl W G (b2 op f g) m σ H Q → tOp r (tE K cl W G f (.N 0)) (tE K cl W G g (.N 0)) σ H Q := fun σ H Q ⟨env, So, F, s, q⟩ => by
  unfold b2 at q
  refine ⟨env, So, F, s, ?_⟩
  cases hf : f env with
  | ok dx =>
    rw [hf] at q
    simp only [Rz.bind_ok] at q
    refine fun x H1 F1 g1 ⟨S, o1, _⟩ => ⟨env, So, F1, s.grow g1, ?_⟩
    cases hg : g env with
    | ok dy =>
      rw [hg] at q
      simp only [Rz.bind_ok] at q
      exact fun y H2 F2 g2 ⟨S2, o2, _⟩ => hop F H F2 H2 x y dx dy Q (g1.trans g2) (o1.zero_nil.2.mono g2.f) o2.zero_nil.2 q
    | er c => rw [hg] at q; exact fun H' e => q H' (g1.h.trans e)
    | no => rw [hg] at q; exact q
  | er c => rw [hf] at q; exact q
  | no => rw [hf] at q; exact q
theorem sim_cat (ha : SimE cl W X G a f (.N 0)) (hb : SimE cl W X G b g (.N 0)) : SimE cl W X G (.BinOp a .Add b pos) (b2 catD f g) (.N 1) :=
  PE.weak (pe_op op_cat ha hb) (go2NN fun F0 H0 F H x y dx dy Q g rx ry q => by
    cases rx <;> first | exact q.elim | skip
    cases ry <;> first | exact q.elim | skip
    rename_i a xs ds s r b ys es s' r'
    obtain ⟨c, q⟩ := Res.ifp q
    exact ⟨a, b, xs, ys, rfl, rfl, g.i _ _ s, g.i _ _ s', by rw [r.length, r'.length]; exact lim_le c, new_lst g (r.append r') q⟩)
/-- of plain items, the operands anyhow -/
def catI (x y : D) : Rz D := match x, y with
  | .lst a, .lst b => if (immA a = true ∧ immA b = true) ∧ a.length + b.length ≤ lim then .ok (.lst (a ++ b)) else .no
  | _, _ => .no
theorem sim_catR (ha : SimE cl W X G a f .R) (hb : SimE cl W X G b g .R) : SimE cl W X G (.BinOp a .Add b pos) (b2 catI f g) (.N 1) :=
  PE.weak (pe_op op_cat ha hb) (go2 fun F H x y dx dy Q ex rx ry q => by
    cases rx <;> first | exact q.elim | skip
    cases ry <;> first | exact q.elim | skip
    rename_i a xs ds s r b ys es s' r'
    obtain ⟨c, q⟩ := Res.ifp q
    have g := (Grow.refl ex).addT
    exact ⟨a, b, xs, ys, rfl, rfl, s, s', by rw [r.length, r'.length]; exact lim_le c.2, new_lst g ((r.imm_mono (fun a xs e => addT_tup ex e) c.1.1).append (r'.imm_mono (fun a xs e => addT_tup ex e) c.1.2)) q⟩)

/-! ### built-ins -/
theorem sim_cb {K : PySem.W.Frag} {R : List V → Hp → VK → Prop} {op : List D → Rz D} {fs : En → Rz (List D)} (hop : ∀ F H vs ds Q, Ex F H → Reps K cl H vs ds → Res K cl W (op ds) m F H Q → R vs H Q) :
    ∀ σ H Q, tE K cl W G (aF op fs) m σ H Q → tCB R (tA K cl W G fs .R) σ H Q :=
  goA (R := fun Q vs H => R vs H Q) fun F0 H0 F H vs ds Q g o q => hop F H vs ds Q g.i o (q.go g)
def lenO (ds : List D) : Rz D := match ds with
  | [.lst xs] => .ok (.int xs.length)
  | [.tup xs] => .ok (.int xs.length)
  | [.fzl xs] => .ok (.int xs.length)
  | _ => .no
theorem Reps.one {K : PySem.W.Frag} {H : Hp} {vs : List V} {d : D} (r : Reps K cl H vs [d]) : ∃ v, vs = [v] ∧ Rep K cl H v d := by
  cases r with
  | cons a b => cases b; exact ⟨_, rfl, a⟩
theorem Reps.two {K : PySem.W.Frag} {H : Hp} {vs : List V} {d d' : D} (r : Reps K cl H vs [d, d']) : ∃ v v', vs = [v, v'] ∧ Rep K cl H v d ∧ Rep K cl H v' d' := by
  cases r with
  | cons a b =>
    obtain ⟨v, rfl, q⟩ := b.one
    exact ⟨_, v, rfl, a, q⟩
theorem sim_len {x : Expr} {fs : En → Rz (List D)} {p : Pos} (hg : Gl X "len") (hm : X.mg "len" = none) (ha : SimA cl W X G [x] fs .R)
    (he : starEach [x] X.env = (false, eval x X.env) :: starEach [] X.env := by rfl) (hpl : (backTo pos (starEach [] X.env)).any (·.1) = false := by rfl) : SimE cl W X G (.Call (.Name "len" p) [x] [] pos) (aF lenO fs) m :=
  PE.weak (pe_callB call_len_seq hg hm PySem.boot_len ha (he := he) (hpl := hpl)) (sim_cb fun F H vs ds Q ex r q => by
    rcases ds with _ | ⟨d, _ | ⟨d2, ds⟩⟩
    · exact q.elim
    · obtain ⟨v, rfl, r1⟩ := r.one
      cases r1 with
      | lst s r2 => exact ⟨_, _, rfl, .inl (SqL.of s), by rw [r2.length]; exact q.imR (fun _ => .int _) rfl ex⟩
      | fzl s r2 => exact ⟨_, _, rfl, .inl s, by rw [r2.length]; exact q.imR (fun _ => .int _) rfl ex⟩
      | tup s r2 => exact ⟨_, _, rfl, .inr (SqT.of s), by rw [r2.length]; exact q.imR (fun _ => .int _) rfl ex⟩
      | _ => exact q.elim
    · cases d <;> exact q.elim)
def ints1 : List D → Option (List Int)
  | [] => some []
  | .int i :: r => (ints1 r).map (i :: ·)
  | _ => none
theorem ints1_eq : ∀ {ds : List D} {ns : List Int}, ints1 ds = some ns → ds = ns.map .int
  | [], _, h => by cases h; rfl
  | .int i :: r, ns, h => by
    rw [ints1] at h
    cases q : ints1 r with
    | none => rw [q] at h; cases h
    | some l => rw [q] at h; cases h; rw [ints1_eq q]; rfl
  | .non :: _, _, h => by cases h
  | .bl _ :: _, _, h => by cases h
  | .str _ :: _, _, h => by cases h
  | .lst _ :: _, _, h => by cases h
  | .tup _ :: _, _, h => by cases h
  | .fzl _ :: _, _, h => by cases h
  | .dK _ :: _, _, h => by cases h
  | .dT _ :: _, _, h => by cases h
  | .obj _ _ :: _, _, h => by cases h
@[simp] theorem ints1_map (ns : List Int) : ints1 (ns.map .int) = some ns := by
  induction ns with
  | nil => rfl
  | cons n ns ih => rw [List.map_cons, ints1, ih]; rfl
/-- of one list of ints -/
def onInts (p : List Int → Rz D) (ds : List D) : Rz D := match ds with
  | [.lst xs] => match ints1 xs with
    | some ns => p ns
    | none => .no
  | _ => .no
@[simp] theorem onInts_map (p : List Int → Rz D) (ns : List Int) : onInts p [.lst (ns.map .int)] = p ns := by
  show (match ints1 (ns.map .int) with | some ns => p ns | none => .no) = p ns
  rw [ints1_map]
theorem hop_ints {K : PySem.W.Frag} {p : List Int → Rz D} {R : List V → Hp → VK → Prop} (hop : ∀ F H a ns Q, Ex F H → SqL K H a (ns.map V.int) → Res K cl W (p ns) m F H Q → R [.ref a] H Q) :
    ∀ F H vs ds Q, Ex F H → Reps K cl H vs ds → Res K cl W (onInts p ds) m F H Q → R vs H Q := fun F H vs ds Q ex r q => by
  rcases ds with _ | ⟨d, _ | ⟨d2, ds⟩⟩
  · exact q.elim
  · obtain ⟨v, rfl, r1⟩ := r.one
    cases r1 with
    | @lst a xs ds s r2 =>
      have q2 : Res K cl W (match ints1 ds with | some ns => p ns | none => .no) m F H Q := q
      clear q
      cases h : ints1 ds with
      | none => rw [h] at q2; exact q2.elim
      | some ns =>
        rw [h] at q2
        have e := ints1_eq h
        subst e
        have e2 := Reps.ints r2
        subst e2
        exact hop F H a ns Q ex (SqL.of s) q2
    | _ => exact q.elim
  · cases d <;> exact q.elim
section
variable {x : Expr} {fs : En → Rz (List D)} {p : Pos}
theorem sim_sum (hc : X.calm = true) (hg : Gl X "sum") (hm : X.mg "sum" = none) (ha : SimA cl W X G [x] fs .R) (he : starEach [x] X.env = (false, eval x X.env) :: starEach [] X.env := by rfl) (hpl : (backTo pos (starEach [] X.env)).any (·.1) = false := by rfl) :
    SimE cl W X G (.Call (.Name "sum" p) [x] [] pos) (aF (onInts fun ns => .ok (.int ns.sum)) fs) m :=
  PE.weak (pe_callB (cr_sum hc) hg hm (by decide +kernel) ha (he := he) (hpl := hpl)) (sim_cb (hop_ints fun F H a ns Q ex s q => ⟨a, ns, rfl, s, q.imR (fun _ => .int _) rfl ex⟩))
/-- the greatest, the least -/
def maxI : List Int → Rz D
  | [] => .no
  | n :: ns => .ok (.int (ns.foldl max n))
def minI : List Int → Rz D
  | [] => .no
  | n :: ns => .ok (.int (ns.foldl min n))
theorem foldl_max_spec : ∀ (ns : List Int) (n : Int), ns.foldl max n ∈ n :: ns ∧ ∀ y ∈ n :: ns, y ≤ ns.foldl max n
  | [], n => ⟨List.mem_cons_self, fun y h => Int.le_of_eq (List.mem_singleton.mp h)⟩
  | a :: ns, n => by
    obtain ⟨h1, h2⟩ := foldl_max_spec ns (max n a)
    rw [List.foldl_cons]
    refine ⟨?_, fun y hy => ?_⟩
    · rcases List.mem_cons.mp h1 with e | e
      · rw [e]
        rcases Int.le_total n a with l | l
        · rw [Int.max_eq_right l]; simp
        · rw [Int.max_eq_left l]; simp
      · exact List.mem_cons_of_mem _ (List.mem_cons_of_mem _ e)
    · have hm := h2 (max n a) List.mem_cons_self
      rcases List.mem_cons.mp hy with rfl | hy
      · exact Int.le_trans (Int.le_max_left _ _) hm
      · rcases List.mem_cons.mp hy with rfl | hy
        · exact Int.le_trans (Int.le_max_right _ _) hm
        · exact h2 y (List.mem_cons_of_mem _ hy)
theorem foldl_min_spec : ∀ (ns : List Int) (n : Int), ns.foldl min n ∈ n :: ns ∧ ∀ y ∈ n :: ns, ns.foldl min n ≤ y
  | [], n => ⟨List.mem_cons_self, fun y h => Int.le_of_eq (List.mem_singleton.mp h).symm⟩
  | a :: ns, n => by
    obtain ⟨h1, h2⟩ := foldl_min_spec ns (min n a)
    rw [List.foldl_cons]
    refine ⟨?_, fun y hy => ?_⟩
    · rcases List.mem_cons.mp h1 with e | e
      · rw [e]
        rcases Int.le_total n a with l | l
        · rw [Int.min_eq_left l]; simp
        · rw [Int.min_eq_right l]; simp
      · exact List.mem_cons_of_mem _ (List.mem_cons_of_mem _ e)
    · have hm := h2 (min n a) List.mem_cons_self
      rcases List.mem_cons.mp hy with rfl | hy
      · exact Int.le_trans hm (Int.min_le_left _ _)
      · rcases List.mem_cons.mp hy with rfl | hy
        · exact Int.le_trans hm (Int.min_le_right _ _)
        · exact h2 y (List.mem_cons_of_mem _ hy)
theorem sim_max1 (hc : X.calm = true) (hg : Gl X "max") (hm : X.mg "max" = none) (ha : SimA cl W X G [x] fs .R) (he : starEach [x] X.env = (false, eval x X.env) :: starEach [] X.env := by rfl) (hpl : (backTo pos (starEach [] X.env)).any (·.1) = false := by rfl) :
    SimE cl W X G (.Call (.Name "max" p) [x] [] pos) (aF (onInts maxI) fs) m :=
  PE.weak (pe_callB (cr_max hc) hg hm (by decide +kernel) ha (he := he) (hpl := hpl)) (sim_cb (hop_ints fun F H a ns Q ex s q => by
    cases ns with
    | nil => exact q.elim
    | cons n ns =>
      refine ⟨a, n :: ns, rfl, s, by simp, fun mx h1 h2 => ?_⟩
      have e : mx = ns.foldl max n := Int.le_antisymm ((foldl_max_spec ns n).2 mx h1) (h2 _ (foldl_max_spec ns n).1)
      subst e
      exact q.imR (fun _ => .int _) rfl ex))
theorem sim_min1 (hc : X.calm = true) (hg : Gl X "min") (hm : X.mg "min" = none) (ha : SimA cl W X G [x] fs .R) (he : starEach [x] X.env = (false, eval x X.env) :: starEach [] X.env := by rfl) (hpl : (backTo pos (starEach [] X.env)).any (·.1) = false := by rfl) :
    SimE cl W X G (.Call (.Name "min" p) [x] [] pos) (aF (onInts minI) fs) m :=
  PE.weak (pe_callB (cr_min hc) hg hm (by decide +kernel) ha (he := he) (hpl := hpl)) (sim_cb (hop_ints fun F H a ns Q ex s q => by
    cases ns with
    | nil => exact q.elim
    | cons n ns =>
      refine ⟨a, n :: ns, rfl, s, by simp, fun mx h1 h2 => ?_⟩
      have e : mx = ns.foldl min n := Int.le_antisymm (h2 _ (foldl_min_spec ns n).1) ((foldl_min_spec ns n).2 mx h1)
      subst e
      exact q.imR (fun _ => .int _) rfl ex))
def max2O (ds : List D) : Rz D := match ds with
  | [.int i, .int j] => .ok (.int (if j > i then j else i))
  | _ => .no
def min2O (ds : List D) : Rz D := match ds with
  | [.int i, .int j] => .ok (.int (if j < i then j else i))
  | _ => .no
theorem hop_ii {K : PySem.W.Frag} {op : List D → Rz D} {R : List V → Hp → VK → Prop} (h1 : ∀ ds, (∀ i j, ds ≠ [.int i, .int j]) → op ds = .no) (hop : ∀ F H i j Q, Ex F H → Res K cl W (op [.int i, .int j]) m F H Q → R [.int i, .int j] H Q) :
    ∀ F H vs ds Q, Ex F H → Reps K cl H vs ds → Res K cl W (op ds) m F H Q → R vs H Q := fun F H vs ds Q ex r q => by
  by_cases hh : ∃ i j, ds = [.int i, .int j]
  · obtain ⟨i, j, rfl⟩ := hh
    obtain ⟨v, v', rfl, r1, r2⟩ := r.two
    cases r1; cases r2
    exact hop F H i j Q ex q
  · rw [h1 ds (fun i j e => hh ⟨i, j, e⟩)] at q
    exact q.elim
theorem max2O_no : ∀ ds, (∀ i j, ds ≠ [.int i, .int j]) → max2O ds = .no := fun ds h => by
  unfold max2O
  split
  · exact absurd rfl (h _ _)
  · rfl
theorem min2O_no : ∀ ds, (∀ i j, ds ≠ [.int i, .int j]) → min2O ds = .no := fun ds h => by
  unfold min2O
  split
  · exact absurd rfl (h _ _)
  · rfl
theorem sim_max2 {y : Expr} (hc : X.calm = true) (hg : Gl X "max") (hm : X.mg "max" = none) (ha : SimA cl W X G [x, y] fs .R) (he : starEach [x, y] X.env = (false, eval x X.env) :: starEach [y] X.env := by rfl) (hpl : (backTo pos (starEach [y] X.env)).any (·.1) = false := by rfl) :
    SimE cl W X G (.Call (.Name "max" p) [x, y] [] pos) (aF max2O fs) m :=
  PE.weak (pe_callB (call_max2 hc) hg hm (by decide +kernel) ha (he := he) (hpl := hpl)) (sim_cb (hop_ii max2O_no fun F H i j Q ex q => ⟨i, j, rfl, q.imR (fun _ => .int _) rfl ex⟩))
theorem sim_min2 {y : Expr} (hc : X.calm = true) (hg : Gl X "min") (hm : X.mg "min" = none) (ha : SimA cl W X G [x, y] fs .R) (he : starEach [x, y] X.env = (false, eval x X.env) :: starEach [y] X.env := by rfl) (hpl : (backTo pos (starEach [y] X.env)).any (·.1) = false := by rfl) :
    SimE cl W X G (.Call (.Name "min" p) [x, y] [] pos) (aF min2O fs) m :=
  PE.weak (pe_callB (call_min2 hc) hg hm (by decide +kernel) ha (he := he) (hpl := hpl)) (sim_cb (hop_ii min2O_no fun F H i j Q ex q => ⟨i, j, rfl, q.imR (fun _ => .int _) rfl ex⟩))
/-- int of an int, of a truth value; abs -/
def intO (ds : List D) : Rz D := match ds with
  | [.int i] => .ok (.int i)
  | [.bl b] => .ok (.int (if b = true then 1 else 0))
  | _ => .no
theorem sim_intc (hg : Gl X "int") (hm : X.mg "int" = none) (ha : SimA cl W X G [x] fs .R) (he : starEach [x] X.env = (false, eval x X.env) :: starEach [] X.env := by rfl) (hpl : (backTo pos (starEach [] X.env)).any (·.1) = false := by rfl) :
    SimE cl W X G (.Call (.Name "int" p) [x] [] pos) (aF intO fs) m :=
  PE.weak (pe_callTy call_int1 hg hm (by decide +kernel) ha (he := he) (hpl := hpl)) (sim_cb fun F H vs ds Q ex r q => by
    rcases ds with _ | ⟨d, _ | ⟨d2, ds⟩⟩
    · exact q.elim
    · obtain ⟨v, rfl, r1⟩ := r.one
      cases r1 with
      | bl b => exact .inr ⟨_, rfl, q.imR (fun _ => .int _) rfl ex⟩
      | int i => exact .inl ⟨_, rfl, q.imR (fun _ => .int _) rfl ex⟩
      | _ => exact q.elim
    · cases d <;> exact q.elim)
def absO (ds : List D) : Rz D := match ds with
  | [.int i] => .ok (.int (if i < 0 then -i else i))
  | _ => .no
theorem sim_abs (hg : Gl X "abs") (hm : X.mg "abs" = none) (ha : SimA cl W X G [x] fs .R) (he : starEach [x] X.env = (false, eval x X.env) :: starEach [] X.env := by rfl) (hpl : (backTo pos (starEach [] X.env)).any (·.1) = false := by rfl) :
    SimE cl W X G (.Call (.Name "abs" p) [x] [] pos) (aF absO fs) m :=
  PE.weak (pe_callB call_abs hg hm (by decide +kernel) ha (he := he) (hpl := hpl)) (sim_cb fun F H vs ds Q ex r q => by
    rcases ds with _ | ⟨d, _ | ⟨d2, ds⟩⟩
    · exact q.elim
    · obtain ⟨v, rfl, r1⟩ := r.one
      cases r1 with
      | int i => exact ⟨_, rfl, q.imR (fun _ => .int _) rfl ex⟩
      | _ => exact q.elim
    · cases d <;> exact q.elim)
/-- list(x), frozen items; tuple(x) -/
def listO (ds : List D) : Rz D := match ds with
  | [.lst xs] => .ok (.lst xs)
  | [.tup xs] => .ok (.lst xs)
  | _ => .no
theorem sim_list (hg : Gl X "list") (hm : X.mg "list" = none) (ha : SimA cl W X G [x] fs (.N 0)) (he : starEach [x] X.env = (false, eval x X.env) :: starEach [] X.env := by rfl) (hpl : (backTo pos (starEach [] X.env)).any (·.1) = false := by rfl) :
    SimE cl W X G (.Call (.Name "list" p) [x] [] pos) (aF listO fs) (.N 1) :=
  PE.weak (pe_callTy call_list_of hg hm (by decide +kernel) ha (he := he) (hpl := hpl)) (goA (R := fun Q xs H => ∃ p ys, xs = [.ref p] ∧ (SqL X.K H p ys ∨ SqT X.K H p ys) ∧ ∀ l, H l = none → Q (.ref l) (upd H l (.lst ys))) fun F0 H0 F H vs ds Q g ⟨S, o, _⟩ q => by
    have r := o.zero_nil.2
    rcases ds with _ | ⟨d, _ | ⟨d2, ds⟩⟩
    · exact q.elim
    · obtain ⟨v, rfl, r1⟩ := r.one
      cases r1 with
      | lst s r2 => exact ⟨_, _, rfl, .inl (SqL.of (g.i _ _ s)), new_lst g r2 q⟩
      | tup s r2 => exact ⟨_, _, rfl, .inr (SqT.of (g.i _ _ s)), new_lst g r2 q⟩
      | _ => exact q.elim
    · cases d <;> exact q.elim)
def listI (ds : List D) : Rz D := match ds with
  | [.lst xs] => if immA xs = true then .ok (.lst xs) else .no
  | [.tup xs] => if immA xs = true then .ok (.lst xs) else .no
  | _ => .no
theorem sim_listR (hg : Gl X "list") (hm : X.mg "list" = none) (ha : SimA cl W X G [x] fs .R) (he : starEach [x] X.env = (false, eval x X.env) :: starEach [] X.env := by rfl) (hpl : (backTo pos (starEach [] X.env)).any (·.1) = false := by rfl) :
    SimE cl W X G (.Call (.Name "list" p) [x] [] pos) (aF listI fs) (.N 1) :=
  PE.weak (pe_callTy call_list_of hg hm (by decide +kernel) ha (he := he) (hpl := hpl)) (goA (R := fun Q xs H => ∃ p ys, xs = [.ref p] ∧ (SqL X.K H p ys ∨ SqT X.K H p ys) ∧ ∀ l, H l = none → Q (.ref l) (upd H l (.lst ys))) fun F0 H0 F H vs ds Q g o q => by
    have r : Reps X.K cl H vs ds := o
    rcases ds with _ | ⟨d, _ | ⟨d2, ds⟩⟩
    · exact q.elim
    · obtain ⟨v, rfl, r1⟩ := r.one
      cases r1 with
      | lst s r2 =>
        obtain ⟨c, q⟩ := Res.ifp q
        exact ⟨_, _, rfl, .inl (SqL.of s), new_lst g.addT (r2.imm_mono (fun a xs e => addT_tup g.i e) c) q⟩
      | tup s r2 =>
        obtain ⟨c, q⟩ := Res.ifp q
        exact ⟨_, _, rfl, .inr (SqT.of s), new_lst g.addT (r2.imm_mono (fun a xs e => addT_tup g.i e) c) q⟩
      | _ => exact q.elim
    · cases d <;> exact q.elim)
/-- all of truth values -/
def bls1 : List D → Option (List Bool)
  | [] => some []
  | .bl i :: r => (bls1 r).map (i :: ·)
  | _ => none
@[simp] theorem bls1_map (ns : List Bool) : bls1 (ns.map .bl) = some ns := by
  induction ns with
  | nil => rfl
  | cons n ns ih => rw [List.map_cons, bls1, ih]; rfl
theorem bls1_eq {K : PySem.W.Frag} {H : Hp} : ∀ {ds : List D} {vs : List V} {ns : List Bool}, Reps K cl H vs ds → bls1 ds = some ns → vs = ns.map .bl
  | [], _, _, r, h => by cases r; cases h; rfl
  | .bl i :: ds, _, ns, r, h => by
    rw [bls1] at h
    cases r with
    | cons a b =>
      cases a
      cases q : bls1 ds with
      | none => rw [q] at h; cases h
      | some l => rw [q] at h; cases h; rw [bls1_eq b q]; rfl
  | .non :: _, _, _, _, h => by cases h
  | .int _ :: _, _, _, _, h => by cases h
  | .str _ :: _, _, _, _, h => by cases h
  | .lst _ :: _, _, _, _, h => by cases h
  | .tup _ :: _, _, _, _, h => by cases h
  | .fzl _ :: _, _, _, _, h => by cases h
  | .dK _ :: _, _, _, _, h => by cases h
  | .dT _ :: _, _, _, _, h => by cases h
  | .obj _ _ :: _, _, _, _, h => by cases h
def allO (ds : List D) : Rz D := match ds with
  | [.lst xs] => match bls1 xs with
    | some ns => .ok (.bl (ns.all id))
    | none => .no
  | _ => .no
theorem sim_all (hc : X.calm = true) (hg : Gl X "all") (hm : X.mg "all" = none) (ha : SimA cl W X G [x] fs .R) (he : starEach [x] X.env = (false, eval x X.env) :: starEach [] X.env := by rfl) (hpl : (backTo pos (starEach [] X.env)).any (·.1) = false := by rfl) :
    SimE cl W X G (.Call (.Name "all" p) [x] [] pos) (aF allO fs) m :=
  PE.weak (pe_callB (cr_all hc) hg hm (by decide +kernel) ha (he := he) (hpl := hpl)) (sim_cb fun F H vs ds Q ex r q => by
    rcases ds with _ | ⟨d, _ | ⟨d2, ds⟩⟩
    · exact q.elim
    · obtain ⟨v, rfl, r1⟩ := r.one
      cases r1 with
      | @lst a xs ds s r2 =>
        have q : Res X.K cl W (match bls1 ds with | some ns => .ok (.bl (ns.all id)) | none => .no) m F H Q := q
        cases h : bls1 ds with
        | none => rw [h] at q; exact q.elim
        | some ns =>
          rw [h] at q
          have e := bls1_eq r2 h
          subst e
          exact ⟨a, ns, rfl, SqL.of s, q.bl ex⟩
      | _ => exact q.elim
    · cases d <;> exact q.elim)
end

end
end Pv

set_option Elab.async false
set_option linter.all false
set_option maxRecDepth 100000
set_option maxHeartbeats 1000000
/-! Pv, fifth part: calls of the text's own defs, targets, what is walked, comprehensions. -/
namespace Pv
open PySem L2

/-- a def's promise: F is what it is worth; the answer is owned to the depth k -/
def spG (K : PySem.W.Frag) (cl : Cl) (n : Nat) (F : List D → Rz D) (k : Nat) : Sp := fun vs H Q E => vs.length = n ∧ ∃ Fz ds, Ex Fz H ∧ Reps K cl Fz vs ds ∧ (match F ds with
  | .ok r => ∀ v H2 F2, Grow Fz H F2 H2 → Out K cl (.N k) v r H F2 H2 → Q v H2
  | .er c => ∀ H2, Ex H H2 → E (.ref (cl c)) none H2
  | .no => False)
theorem spG_cl {K : PySem.W.Frag} {cl cl' : Cl} (e : cl.c = cl'.c) {n : Nat} {F : List D → Rz D} {k : Nat} : ∀ vs H Q E, spG K cl n F k vs H Q E → spG K cl' n F k vs H Q E := fun vs H Q E ⟨h1, Fz, ds, h2, h3, h4⟩ => ⟨h1, Fz, ds, h2, h3.toCl e, by
  cases hf : F ds with
  | ok r => rw [hf] at h4; exact fun v H2 F2 g ⟨S, o, h⟩ => h4 v H2 F2 g ⟨S, o.toCl e.symm, h⟩
  | er c => rw [hf] at h4; obtain ⟨c1, p1⟩ := cl; obtain ⟨c2, p2⟩ := cl'; cases e; exact h4
  | no => rw [hf] at h4; exact h4⟩
/-- the same, where no slot is pinned -/
def spF (K : PySem.W.Frag) (c : Nat → Addr) (n : Nat) (F : List D → Rz D) (k : Nat) : Sp := spG K ⟨c, fun _ => .non⟩ n F k
mutual
def immK : D → Nat → Bool
  | .lst ds, k => decide (0 < k) && immKs ds (k - 1)
  | .tup ds, k => immKs ds k
  | .dK ks, k => decide (0 < k) && immA (ks.map (·.2))
  | .dT ks, k => decide (0 < k) && immA (ks.map (·.2))
  | .fzl _, _ => false
  | .obj _ _, _ => false
  | .non, _ => true
  | .bl _, _ => true
  | .int _, _ => true
  | .str _, _ => true
def immKs : List D → Nat → Bool
  | [], _ => true
  | d :: ds, k => immK d k && immKs ds k
end
mutual
theorem immK_zero : ∀ d : D, immK d 0 = true → imm d = true
  | .lst ds, h => by simp [immK] at h
  | .tup ds, h => by rw [immK] at h; rw [imm]; exact immKs_zero ds h
  | .dK ks, h => by simp [immK] at h
  | .dT ks, h => by simp [immK] at h
  | .fzl _, h => by simp [immK] at h
  | .obj _ _, h => by simp [immK] at h
  | .non, _ => rfl
  | .bl _, _ => rfl
  | .int _, _ => rfl
  | .str _, _ => rfl
theorem immKs_zero : ∀ ds : List D, immKs ds 0 = true → immA ds = true
  | [], _ => rfl
  | d :: ds, h => by
    rw [immKs, Bool.and_eq_true] at h
    rw [immA, immK_zero d h.1, immKs_zero ds h.2]; rfl
end
section
variable {K : PySem.W.Frag} {cl : Cl} {F F' H : Hp}
theorem Own.immF (e : ∀ a xs, F a = some (.tup xs) → F' a = some (.tup xs)) {k : Nat} {v : V} {d : D} {S : List Addr} (h : Own K cl F H k v d S) : immK d k = true → Own K cl F' H k v d S :=
  Own.rec (motive_1 := fun k v d S _ => immK d k = true → Own K cl F' H k v d S) (motive_2 := fun k vs ds S _ => immKs ds k = true → Owns K cl F' H k vs ds S)
    (fun r i => .z (r.imm_mono e (immK_zero _ i))) (fun r i _ => .im (r.imm_mono e i) i) (fun s _ r i => .lst s (r (by rw [immK, Bool.and_eq_true] at i; exact i.2))) (fun s _ r i => .tup (e _ _ s) (r (by rw [immK] at i; exact i)))
    (fun s k r i => .dK s k (r.imm_mono e (by rw [immK, Bool.and_eq_true] at i; exact i.2))) (fun s k r i => .dT s k (r.imm_mono e (by rw [immK, Bool.and_eq_true] at i; exact i.2)))
    (fun _ => .nil) (fun _ _ r rs i => by rw [immKs, Bool.and_eq_true] at i; exact .cons (r i.1) (rs i.2)) h
end
section
variable {K : PySem.W.Frag} {cl : Cl} {F F' H : Hp}
/-- where the lists lie no deeper than k, a greater depth is none -/
theorem Own.conv' {k1 : Nat} {v : V} {d : D} {S : List Addr} (h : Own K cl F H k1 v d S) : ∀ (k k2 : Nat), immK d k = true → k ≤ k1 → k ≤ k2 → Own K cl F H k2 v d S :=
  Own.rec (motive_1 := fun k1 v d S _ => ∀ (k k2 : Nat), immK d k = true → k ≤ k1 → k ≤ k2 → Own K cl F H k2 v d S) (motive_2 := fun k1 vs ds S _ => ∀ (k k2 : Nat), immKs ds k = true → k ≤ k1 → k ≤ k2 → Owns K cl F H k2 vs ds S)
    (fun r k k2 i h1 h2 => by
      have : k = 0 := by omega
      subst this
      exact .im r (immK_zero _ i)) (fun r i _ _ _ _ _ => .im r i)
    (fun s _ r k k2 i h1 h2 => by
      rw [immK, Bool.and_eq_true, decide_eq_true_eq] at i
      obtain ⟨k3, rfl⟩ : ∃ k3, k2 = k3 + 1 := ⟨k2 - 1, by omega⟩
      exact .lst s (r _ _ i.2 (by omega) (by omega)))
    (fun s _ r k k2 i h1 h2 => by
      rw [immK] at i
      exact .tup s (r _ _ i h1 h2))
    (fun s e r k k2 i h1 h2 => by
      rw [immK, Bool.and_eq_true, decide_eq_true_eq] at i
      obtain ⟨k3, rfl⟩ : ∃ k3, k2 = k3 + 1 := ⟨k2 - 1, by omega⟩
      exact .dK s e r)
    (fun s e r k k2 i h1 h2 => by
      rw [immK, Bool.and_eq_true, decide_eq_true_eq] at i
      obtain ⟨k3, rfl⟩ : ∃ k3, k2 = k3 + 1 := ⟨k2 - 1, by omega⟩
      exact .dT s e r)
    (fun _ _ _ _ _ => .nil) (fun _ _ r rs k k2 i h1 h2 => by
      rw [immKs, Bool.and_eq_true] at i
      exact .cons (r _ _ i.1 h1 h2) (rs _ _ i.2 h1 h2)) h
theorem Own.conv {k1 k k2 : Nat} {v : V} {d : D} {S : List Addr} (h : Own K cl F H k1 v d S) (i : immK d k = true) (h1 : k ≤ k1) (h2 : k ≤ k2) : Own K cl F H k2 v d S := h.conv' k k2 i h1 h2
end
def cO (n : Nat) (Fn : List D → Rz D) (ds : List D) : Rz D := if ds.length = n then Fn ds else .no
def cI (n k : Nat) (Fn : List D → Rz D) (ds : List D) : Rz D := if ds.length = n then (Fn ds).bind fun r => if immK r k = true then .ok r else .no else .no
section
variable {X : Cx} {cl : Cl} {W : Nat → Hp → Prop} {G : List Md} {m : Mo} {pos p : Pos} {e a b : Expr} {f g : En → Rz D} {CX : CXT} {k n kr : Nat} {fa : Addr} {fd : FuncData} {ps : List Str} {E : XK} {x : Str} {es : List Expr} {fs : En → Rz (List D)} {Fn : List D → Rz D}
theorem sim_callF (Fo : FnOk X.prog X.w X.K X.mg X.base CX k fa fd ps (spF X.K cl.c n Fn kr)) (hr : Room k X.A) (hg : Gl X x) (hm : X.mg x = some (.ref fa)) (hk : PySem.W.keepIn X.K (.ref fa) = true) (hb : Binds X.K fd ps []) (hx : Passes CX X E)
    (hE : ∀ c H, W c H → E (.ref (cl c)) none H) (ha : SimA cl W X G (e :: es) fs (.N 0)) (hdb : (x == ("__debug__" : Str)) = false := by decide) (he : starEach (e :: es) X.env = (false, eval e X.env) :: starEach es X.env := by rfl) (hpl : (backTo pos (starEach es X.env)).any (·.1) = false := by rfl) :
    SimE cl W X G (.Call (.Name x p) (e :: es) [] pos) (aF (cO n Fn) fs) (.N kr) :=
  PE.weak (pe_call (Fo.imp (spG_cl (cl := cl) (cl' := ⟨cl.c, fun _ => .non⟩) rfl)) hr hg hm hk hb .nil hx ha hdb he hpl) (goA (R := fun Q vs H => spG X.K cl n Fn kr (vs ++ []) H Q E) fun F0 H0 F H vs ds Q g ⟨S, o, _⟩ q => by
    have r := o.zero_nil.2
    obtain ⟨c, q⟩ := Res.ifp q
    rw [List.append_nil]
    refine ⟨r.length.trans c, F, ds, g.i, r, ?_⟩
    cases hf : Fn ds with
    | ok d => rw [hf] at q; exact fun v H2 F2 g2 o2 => q v H2 F2 (g.trans g2) (o2.back g.h)
    | er c => rw [hf] at q; exact fun H2 e => hE c H2 (q H2 (g.h.trans e))
    | no => rw [hf] at q; exact q)
theorem sim_call0 (Fo : FnOk X.prog X.w X.K X.mg X.base CX k fa fd ps (spF X.K cl.c 0 Fn kr)) (hr : Room k X.A) (hg : Gl X x) (hm : X.mg x = some (.ref fa)) (hk : PySem.W.keepIn X.K (.ref fa) = true) (hb : Binds X.K fd ps []) (hx : Passes CX X E)
    (hE : ∀ c H, W c H → E (.ref (cl c)) none H) (hdb : (x == ("__debug__" : Str)) = false := by decide) :
    SimE cl W X G (.Call (.Name x p) [] [] pos) (aF (cO 0 Fn) nilF) (.N kr) :=
  PE.weak (pe_call0 (Fo.imp (spG_cl (cl := cl) (cl' := ⟨cl.c, fun _ => .non⟩) rfl)) hr hg hm hk hb .nil hx hdb) fun σ H Q ⟨env, So, F, s, q⟩ => by
    have q : Res X.K cl W (if ([] : List D).length = 0 then Fn [] else .no) (.N kr) F H Q := q
    rw [if_pos (show ([] : List D).length = 0 from rfl)] at q
    refine ⟨rfl, F, [], s.ex, .nil, ?_⟩
    cases hf : Fn [] with
    | ok d => rw [hf] at q; exact fun v H2 F2 g2 o2 => q v H2 F2 g2 o2
    | er c => rw [hf] at q; exact fun H2 e => hE c H2 (q H2 e)
    | no => rw [hf] at q; exact q
/-- the arguments anyhow; the answer holds nothing of them but plain things -/
theorem sim_callR (Fo : FnOk X.prog X.w X.K X.mg X.base CX k fa fd ps (spF X.K cl.c n Fn kr)) (hr : Room k X.A) (hg : Gl X x) (hm : X.mg x = some (.ref fa)) (hk : PySem.W.keepIn X.K (.ref fa) = true) (hb : Binds X.K fd ps []) (hx : Passes CX X E)
    (hE : ∀ c H, W c H → E (.ref (cl c)) none H) (ha : SimA cl W X G (e :: es) fs .R) (hdb : (x == ("__debug__" : Str)) = false := by decide) (he : starEach (e :: es) X.env = (false, eval e X.env) :: starEach es X.env := by rfl) (hpl : (backTo pos (starEach es X.env)).any (·.1) = false := by rfl) :
    SimE cl W X G (.Call (.Name x p) (e :: es) [] pos) (aF (cI n kr Fn) fs) (.N kr) :=
  PE.weak (pe_call (Fo.imp (spG_cl (cl := cl) (cl' := ⟨cl.c, fun _ => .non⟩) rfl)) hr hg hm hk hb .nil hx ha hdb he hpl) (goA (R := fun Q vs H => spG X.K cl n Fn kr (vs ++ []) H Q E) fun F0 H0 F H vs ds Q g r q => by
    have r : Reps X.K cl H vs ds := r
    obtain ⟨c, q⟩ := Res.ifp q
    rw [List.append_nil]
    refine ⟨r.length.trans c, H, ds, Evl.Ex.refl _, r, ?_⟩
    cases hf : Fn ds with
    | ok d =>
      rw [hf] at q
      obtain ⟨c2, q⟩ := Res.ifp q
      refine fun v H2 F2 g2 ⟨S, o, nd, fr⟩ => q v H2 (addT F F2) (g.trans ⟨g2.h, addT_ex, addT_in (g.i.trans g2.h) g2.i, fun a h1 h2 hm => ?_⟩) ⟨S, o.immF (fun a xs e => addT_tup (g.i.trans g2.f) e) c2, nd, fun a ha => ⟨Evl.fresh_back g.h (fr a ha).1, ?_⟩⟩
      · obtain ⟨xs, e⟩ := addT_n h1 h2
        rw [mut_keep g2.f hm] at e
        rw [e] at hm; exact hm
      · cases z : addT F F2 a with
        | none => rfl
        | some o =>
          obtain ⟨xs, e⟩ := addT_n (Evl.fresh_back g.i (fr a ha).1) (show addT F F2 a ≠ none by rw [z]; simp)
          rw [(fr a ha).2] at e; cases e
    | er c => rw [hf] at q; exact fun H2 e => hE c H2 (q H2 (g.h.trans e))
    | no => rw [hf] at q; exact q)
end

/-! ### a slot is stored -/
section
variable {K : PySem.W.Frag} {cl : Cl} {F F' H H' : Hp} {G : List Md} {env : En} {σ : L2.St} {So : Nat → List Addr}
theorem Sl.set (s : Sl K cl G env σ So F H) (i : Nat) {k : Nat} {v : V} {d : D} {S : List Addr} (o : Own K cl F H k v d S) (nd : S.Nodup) (dj : ∀ a ∈ S, ∀ j, j ≠ i → a ∉ So j) (fr : ∀ a ∈ S, F a = none) (hk : k < 100) :
    Sl K cl (G.set i (some k)) (env.set i (some d)) (σ.set i (some v)) (fun j => if j = i then S else So j) F H where
  len := by rw [List.length_set, List.length_set]; exact s.len
  sl := fun j k' d' h1 h2 => by
    by_cases hj : j = i
    · subst hj
      simp only [if_true]
      have hl : j < env.length := by
        have := (List.getElem?_eq_some_iff.mp h2).1
        rw [List.length_set] at this; exact this
      have hg : j < G.length := by
        have := (List.getElem?_eq_some_iff.mp h1).1
        rw [List.length_set] at this; exact this
      rw [List.getElem?_set_self hl] at h2
      rw [List.getElem?_set_self hg] at h1
      cases h1; cases h2
      exact ⟨v, List.getElem?_set_self (Nat.lt_of_lt_of_le hl s.len), o⟩
    · rw [List.getElem?_set_ne (Ne.symm hj)] at h1 h2
      obtain ⟨w, h3, h4⟩ := s.sl j k' d' h1 h2
      refine ⟨w, by rw [List.getElem?_set_ne (Ne.symm hj)]; exact h3, ?_⟩
      rw [if_neg hj]; exact h4
  nd := fun j => by
    by_cases hj : j = i
    · rw [if_pos hj]; exact nd
    · rw [if_neg hj]; exact s.nd j
  dj := fun j l a hne h1 h2 => by
    by_cases hj : j = i
    · rw [if_pos hj] at h1
      rw [if_neg (fun z => hne (hj.trans z.symm))] at h2
      exact dj a h1 l (fun z => hne (hj.trans z.symm)) h2
    · rw [if_neg hj] at h1
      by_cases hl : l = i
      · rw [if_pos hl] at h2; exact dj a h2 j hj h1
      · rw [if_neg hl] at h2; exact s.dj j l a hne h1 h2
  fr := fun j a h => by
    by_cases hj : j = i
    · rw [if_pos hj] at h; exact fr a h
    · rw [if_neg hj] at h; exact s.fr j a h
  lv := fun j a h => by
    by_cases hj : j = i
    · rw [if_pos hj] at h; exact o.live a h
    · rw [if_neg hj] at h; exact s.lv j a h
  ex := s.ex
  pn := fun j k' h1 h2 => by
    by_cases hj : j = i
    · subst hj
      have hg : j < G.length := by
        have := (List.getElem?_eq_some_iff.mp h1).1
        rw [List.length_set] at this; exact this
      rw [List.getElem?_set_self hg] at h1
      cases h1
      omega
    · rw [List.getElem?_set_ne (Ne.symm hj)] at h1 ⊢
      exact s.pn j k' h1 h2
/-- names forgotten -/
def ewipe (env : En) : List Nat → En
  | [] => env
  | v :: vs => (ewipe env vs).set v none
theorem ewipe_get {env : En} {i : Nat} {d : D} : ∀ {vs : List Nat}, (ewipe env vs)[i]? = some (some d) → env[i]? = some (some d) ∧ i ∉ vs
  | [], h => ⟨h, by simp⟩
  | v :: vs, h => by
    unfold ewipe at h
    by_cases hi : v = i
    · subst hi
      by_cases hl : v < (ewipe env vs).length
      · rw [List.getElem?_set_self hl] at h; cases h
      · rw [List.getElem?_eq_none (by simpa using hl)] at h; cases h
    · rw [List.getElem?_set_ne hi] at h
      obtain ⟨h1, h2⟩ := ewipe_get h
      exact ⟨h1, by simp only [List.mem_cons, not_or]; exact ⟨fun e => hi e.symm, h2⟩⟩
theorem ewipe_len (env : En) : ∀ vs : List Nat, (ewipe env vs).length = env.length
  | [] => rfl
  | v :: vs => by unfold ewipe; rw [List.length_set, ewipe_len env vs]
theorem wipe_get' {σ : L2.St} {i : Nat} : ∀ {vs : List Nat}, i ∉ vs → (wipe σ vs)[i]? = σ[i]?
  | [], _ => rfl
  | v :: vs, h => by
    unfold wipe
    have h1 : i ≠ v ∧ i ∉ vs := by simpa using h
    rw [List.getElem?_set_ne (Ne.symm h1.1)]
    exact wipe_get' h1.2
/-- none of these slots is pinned -/
def clear (G : List Md) (vs : List Nat) : Bool := vs.all fun i => match G[i]? with
  | some (some k) => decide (k < 100)
  | _ => true
theorem Sl.wipe (s : Sl K cl G env σ So F H) (vs : List Nat) (hv : clear G vs = true) : Sl K cl G (ewipe env vs) (L2.wipe σ vs) So F H where
  len := by rw [ewipe_len, wipe_length]; exact s.len
  sl := fun i k d h1 h2 => by
    obtain ⟨h3, h4⟩ := ewipe_get h2
    obtain ⟨v, h5, h6⟩ := s.sl i k d h1 h3
    exact ⟨v, by rw [wipe_get' h4]; exact h5, h6⟩
  nd := s.nd
  dj := s.dj
  fr := s.fr
  lv := s.lv
  ex := s.ex
  pn := fun i k h1 h2 => by
    by_cases hi : i ∈ vs
    · have := List.all_eq_true.mp hv i hi
      rw [h1] at this
      have := of_decide_eq_true this
      omega
    · rw [wipe_get' hi]; exact s.pn i k h1 h2
end

/-! ### targets -/
/-- but for the slots ix all is as it was -/
def Off (ix : List Nat) (σ σ' : L2.St) : Prop := ∀ vs, (∀ i ∈ ix, i ∈ vs) → L2.wipe σ' vs = L2.wipe σ vs
theorem Off.refl (σ : L2.St) : Off [] σ σ := fun _ _ => rfl
theorem Off.trans {a b : List Nat} {σ σ' σ'' : L2.St} (h : Off a σ σ') (h' : Off b σ' σ'') : Off (a ++ b) σ σ'' := fun vs q =>
  (h' vs fun i hi => q i (List.mem_append_right _ hi)).trans (h vs fun i hi => q i (List.mem_append_left _ hi))
theorem wipe_set {σ : L2.St} {i : Nat} {v : Option V} : ∀ {vs : List Nat}, i ∈ vs → L2.wipe (σ.set i v) vs = L2.wipe σ vs
  | [], h => nomatch h
  | j :: vs, h => by
    unfold L2.wipe
    by_cases hi : i ∈ vs
    · rw [wipe_set hi]
    · have e : i = j := by
        rcases List.mem_cons.mp h with e | e
        · exact e
        · exact absurd e hi
      subst e
      have comm : ∀ ws : List Nat, i ∉ ws → L2.wipe (σ.set i v) ws = (L2.wipe σ ws).set i v := by
        intro ws
        induction ws with
        | nil => intro _; rfl
        | cons w ws ih =>
          intro hn
          have h1 : i ≠ w ∧ i ∉ ws := by simpa using hn
          unfold L2.wipe
          rw [ih h1.2, List.set_comm _ _ h1.1]
      rw [comm vs hi, List.set_set]
theorem Off.set {σ : L2.St} {i : Nat} {v : Option V} : Off [i] σ (σ.set i v) := fun vs h => wipe_set (h i (by simp))
section
variable (K : PySem.W.Frag) (cl : Cl)
def tG (G : List Md) (k : Nat) (h : D → En → Rz En) (G' : List Md) (ix : List Nat) : TG := fun v σ H Q => ∃ env So F d S, Sl K cl G env σ So F H ∧ Own K cl F H k v d S ∧ S.Nodup ∧ (∀ a ∈ S, ∀ j, a ∉ So j) ∧ (∀ a ∈ S, F a = none) ∧ (match h d env with
  | .ok env' => ∀ σ' So', Sl K cl G' env' σ' So' F H → (∀ i a, a ∈ So' i → a ∈ So i ∨ a ∈ S) → Off ix σ σ' → Q σ' H
  | _ => False)
def tGs (G : List Md) (k : Nat) (h : List D → En → Rz En) (G' : List Md) (ix : List Nat) : TGs := fun vs σ H Q => ∃ env So F ds S, Sl K cl G env σ So F H ∧ Owns K cl F H k vs ds S ∧ S.Nodup ∧ (∀ a ∈ S, ∀ j, a ∉ So j) ∧ (∀ a ∈ S, F a = none) ∧ (match h ds env with
  | .ok env' => ∀ σ' So', Sl K cl G' env' σ' So' F H → (∀ i a, a ∈ So' i → a ∈ So i ∨ a ∈ S) → Off ix σ σ' → Q σ' H
  | _ => False)
end
theorem PG.weak {X : Cx} {e : Expr} {t t' : TG} (h : PG X e t) (i : ∀ v σ H Q, t' v σ H Q → t v σ H Q) : PG X e t' := ⟨fun pins s σ H v u Q I r q => h.run pins s σ H v u Q I r (i _ _ _ _ q)⟩
theorem PGs.weak {X : Cx} {e : List Expr} {t t' : TGs} (h : PGs X e t) (i : ∀ v σ H Q, t' v σ H Q → t v σ H Q) : PGs X e t' := ⟨fun pins s σ H v u Q I r q => h.run pins s σ H v u Q I r (i _ _ _ _ q)⟩
abbrev SimG (cl : Cl) (X : Cx) (G : List Md) (k : Nat) (e : Expr) (h : D → En → Rz En) (G' : List Md) (ix : List Nat) : Prop := PG X e (tG X.K cl G k h G' ix)
abbrev SimGs (cl : Cl) (X : Cx) (G : List Md) (k : Nat) (e : List Expr) (h : List D → En → Rz En) (G' : List Md) (ix : List Nat) : Prop := PGs X e (tGs X.K cl G k h G' ix)
section
variable {X : Cx} {cl : Cl} {W : Nat → Hp → Prop} {G G' G'' : List Md} {m : Mo} {pos p : Pos} {e a b : Expr} {k : Nat} {ix iy : List Nat}
def gN (i : Nat) : D → En → Rz En := fun d env => .ok (env.set i (some d))
theorem simG_name {i : Nat} (h : PG X e (gName i)) (hk : k < 100 := by decide) : SimG cl X G k e (gN i) (G.set i (some k)) [i] := PG.weak h fun v σ H Q ⟨env, So, F, d, S, s, o, nd, dj, fr, q⟩ =>
  q _ _ (s.set i o nd (fun a ha j _ => dj a ha j) fr hk) (fun j a ha => by
    by_cases hj : j = i
    · rw [if_pos hj] at ha; exact .inr ha
    · rw [if_neg hj] at ha; exact .inl ha) Off.set
def gT0 : List D → En → Rz En := fun ds env => match ds with
  | [] => .ok env
  | _ => .no
def gTc (h : D → En → Rz En) (hs : List D → En → Rz En) : List D → En → Rz En := fun ds env => match ds with
  | d :: ds => (h d env).bind (hs ds)
  | _ => .no
theorem simGs_nil : SimGs cl X G k [] gT0 G [] := PGs.weak pgs_nil fun vs σ H Q ⟨env, So, F, ds, S, s, o, nd, dj, fr, q⟩ => by
  cases o with
  | nil => exact ⟨rfl, q σ So s (fun i a ha => .inl ha) (Off.refl σ)⟩
  | cons a b => exact q.elim
theorem simGs_cons {es : List Expr} {h : D → En → Rz En} {hs : List D → En → Rz En} (h1 : SimG cl X G k e h G' ix) (h2 : SimGs cl X G' k es hs G'' iy) (hst : (assignEach (e :: es) X.env).map (·.2) = assign e X.env :: (assignEach es X.env).map (·.2) := by rfl) : SimGs cl X G k (e :: es) (gTc h hs) G'' (ix ++ iy) :=
  PGs.weak (pgs_cons h1 h2 hst) fun vs σ H Q ⟨env, So, F, ds, S, s, o, nd, dj, fr, q⟩ => by
    cases o with
    | nil => exact q.elim
    | @cons _ v vs d ds S T a b =>
      have q : (match (h d env).bind (hs ds) with
        | .ok env' => ∀ σ' So', Sl X.K cl G'' env' σ' So' F H → (∀ i a, a ∈ So' i → a ∈ So i ∨ a ∈ S ++ T) → Off (ix ++ iy) σ σ' → Q σ' H
        | _ => False) := q
      obtain ⟨nS, nT, nST⟩ := List.nodup_append.mp nd
      refine ⟨v, vs, rfl, env, So, F, d, S, s, a, nS, fun c hc => dj c (List.mem_append_left _ hc), fun c hc => fr c (List.mem_append_left _ hc), ?_⟩
      cases hd : h d env with
      | er c => rw [hd] at q; exact q
      | no => rw [hd] at q; exact q
      | ok env1 =>
        rw [hd] at q
        refine fun σ1 So1 s1 sub of1 => ⟨env1, So1, F, ds, T, s1, b, nT, fun c hc j hj => ?_, fun c hc => fr c (List.mem_append_right _ hc), ?_⟩
        · rcases sub j c hj with z | z
          · exact dj c (List.mem_append_right _ hc) j z
          · exact nST c z c hc rfl
        · simp only [Rz.bind_ok] at q
          cases he : hs ds env1 with
          | er c => rw [he] at q; exact q
          | no => rw [he] at q; exact q
          | ok env2 =>
            rw [he] at q
            exact fun σ2 So2 s2 sub2 of2 => q σ2 So2 s2 (fun i c hc => by
              rcases sub2 i c hc with z | z
              · rcases sub i c z with z | z
                · exact .inl z
                · exact .inr (List.mem_append_left _ z)
              · exact .inr (List.mem_append_right _ z)) (of1.trans of2)
def gTu (n : Nat) (hs : List D → En → Rz En) : D → En → Rz En := fun d env => match d with
  | .tup ds => if ds.length = n then hs ds env else .no
  | _ => .no
theorem Owns.im {K : PySem.W.Frag} {F H : Hp} {k : Nat} : ∀ {vs : List V} {ds : List D}, Reps K cl F vs ds → immA ds = true → Owns K cl F H k vs ds []
  | _, _, .nil, _ => .nil
  | _, _, .cons a b, z => by
    rw [immA, Bool.and_eq_true] at z
    exact .cons (S := []) (T := []) (.im a z.1) (Owns.im b z.2)
theorem Own.tup_inv {K : PySem.W.Frag} {F H : Hp} {k : Nat} {v : V} {ds : List D} {S : List Addr} (h : Own K cl F H k v (.tup ds) S) : ∃ a vs, v = .ref a ∧ F a = some (.tup vs) ∧ Owns K cl F H k vs ds S := by
  cases h with
  | z r => cases r with
    | tup s r => exact ⟨_, _, rfl, s, Owns.zero r⟩
  | im r i => cases r with
    | tup s r => exact ⟨_, _, rfl, s, Owns.im r (by rw [imm] at i; exact i)⟩
  | tup s r => exact ⟨_, _, rfl, s, r⟩
theorem simG_tup {es : List Expr} {j n : Nat} {hs : List D → En → Rz En} (hc : X.calm = true) (h : SimGs cl X G k es hs G' ix) (hn : (assignEach es X.env).length = n := by rfl) (hst : (assignEach es X.env).findIdx? (·.1) = none := by rfl) :
    SimG cl X G k (.Tuple es j pos) (gTu n hs) G' ix := PG.weak (pg_tup hc h hn hst) fun v σ H Q ⟨env, So, F, d, S, s, o, nd, dj, fr, q⟩ => by
  cases d with
  | tup ds =>
    obtain ⟨a, vs, rfl, ha, os⟩ := o.tup_inv
    have q : (match (if ds.length = n then hs ds env else .no : Rz En) with
        | .ok env' => ∀ σ' So', Sl X.K cl G' env' σ' So' F H → (∀ i a, a ∈ So' i → a ∈ So i ∨ a ∈ S) → Off ix σ σ' → Q σ' H
        | _ => False) := q
    by_cases c : ds.length = n
    · rw [if_pos c] at q
      exact ⟨a, vs, rfl, SqT.of (s.ex _ _ ha), (os.reps s.ex).length.trans c, env, So, F, ds, S, s, os, nd, dj, fr, q⟩
    · rw [if_neg c] at q; exact q.elim
  | _ => exact q.elim
end

/-! ### what is walked -/
/-- J yields ds, one by one, as long as B and F' stand -/
def Walk (K : PySem.W.Frag) (cl : Cl) (J : It) (ds : List D) (B F' : Hp) : Prop := ∀ i H2 F2, Ex B H2 → Ex F' F2 → Ex F2 H2 →
  (∀ d, ds[i]? = some d → J.go i H2 ∧ ∀ x H3, J.yld i H2 x H3 → ∃ F3, Grow F2 H2 F3 H3 ∧ Rep K cl F3 x d) ∧ (ds.length ≤ i → J.stop i H2)
def tI (K : PySem.W.Frag) (cl : Cl) (W : Nat → Hp → Prop) (G : List Md) (f : En → Rz (List D)) : TI := fun σ H R => ∃ env So F, Sl K cl G env σ So F H ∧ (match f env with
  | .ok ds => ∀ J H' F', Grow F H F' H' → Walk K cl J ds F' F' → R J H'
  | .er c => ∀ H', Ex H H' → W c H'
  | .no => False)
theorem PI.weak {X : Cx} {tg e : Expr} {t t' : TI} (h : PI X tg e t) (i : ∀ σ H Q, t' σ H Q → t σ H Q) : PI X tg e t' := ⟨fun pins s σ H Q I q => h.run pins s σ H Q I (i _ _ _ q)⟩
abbrev SimI (cl : Cl) (W : Nat → Hp → Prop) (X : Cx) (G : List Md) (tg e : Expr) (f : En → Rz (List D)) : Prop := PI X tg e (tI X.K cl W G f)
section
variable {X : Cx} {cl : Cl} {W : Nat → Hp → Prop} {G : List Md} {pos p : Pos} {e a b tg : Expr} {f g : En → Rz D} {fs : En → Rz (List D)}
def lOf (f : En → Rz D) : En → Rz (List D) := fun env => (f env).bind fun d => match d with
  | .lst ds => .ok ds
  | _ => .no
theorem walk_list {K : PySem.W.Frag} {F' : Hp} {a : Addr} {xs : List V} {ds : List D} (s : F' a = some (.lst xs)) (r : Reps K cl F' xs ds) : Walk K cl (Itl K a) ds F' F' := fun i H2 F2 _ e1 e2 => by
  have sq : SqL K H2 a xs := SqL.of (e2 _ _ (e1 _ _ s))
  refine ⟨fun d hd => ?_, fun hl => ⟨xs, sq, by rw [r.length]; exact hl⟩⟩
  obtain ⟨v, hv, rv⟩ := r.get hd
  refine ⟨⟨xs, v, sq, hv⟩, fun x H3 y => ?_⟩
  obtain ⟨rfl, y⟩ := y
  have e := y xs sq
  rw [hv] at e; cases e
  exact ⟨F2, Grow.refl e2, rv.mono e1⟩
theorem simI_list (h : SimE cl W X G e f (.N 0)) : SimI cl W X G tg e (lOf f) := PI.weak (pi_list h) fun σ H R ⟨env, So, F, s, q⟩ => ⟨env, So, F, s, by
  unfold lOf at q
  cases hf : f env with
  | er c => rw [hf] at q; exact q
  | no => rw [hf] at q; exact q
  | ok d =>
    rw [hf] at q
    simp only [Rz.bind_ok] at q
    refine fun v H1 F1 g1 ⟨S, o, hh⟩ => ?_
    have r := o.zero_nil.2
    clear o hh
    cases r with
    | lst s r => exact ⟨_, rfl, ⟨_, SqL.of (g1.i _ _ s)⟩, q _ H1 F1 g1 (walk_list s r)⟩
    | _ => exact q.elim⟩
def tOf (f : En → Rz D) : En → Rz (List D) := fun env => (f env).bind fun d => match d with
  | .tup ds => .ok ds
  | _ => .no
theorem walk_tup {K : PySem.W.Frag} {F' : Hp} {a : Addr} {xs : List V} {ds : List D} (s : F' a = some (.tup xs)) (r : Reps K cl F' xs ds) : Walk K cl (Itt K a) ds F' F' := fun i H2 F2 _ e1 e2 => by
  have sq : SqT K H2 a xs := SqT.of (e2 _ _ (e1 _ _ s))
  refine ⟨fun d hd => ?_, fun hl => ⟨xs, sq, by rw [r.length]; exact hl⟩⟩
  obtain ⟨v, hv, rv⟩ := r.get hd
  refine ⟨⟨xs, v, sq, hv⟩, fun x H3 y => ?_⟩
  obtain ⟨rfl, y⟩ := y
  have e := y xs sq
  rw [hv] at e; cases e
  exact ⟨F2, Grow.refl e2, rv.mono e1⟩
theorem simI_tup (h : SimE cl W X G e f (.N 0)) : SimI cl W X G tg e (tOf f) := PI.weak (pi_tup h) fun σ H R ⟨env, So, F, s, q⟩ => ⟨env, So, F, s, by
  unfold tOf at q
  cases hf : f env with
  | er c => rw [hf] at q; exact q
  | no => rw [hf] at q; exact q
  | ok d =>
    rw [hf] at q
    simp only [Rz.bind_ok] at q
    refine fun v H1 F1 g1 ⟨S, o, hh⟩ => ?_
    have r := o.zero_nil.2
    clear o hh
    cases r with
    | tup s r => exact ⟨_, rfl, ⟨_, SqT.of (g1.i _ _ s)⟩, q _ H1 F1 g1 (walk_tup s r)⟩
    | _ => exact q.elim⟩
/-- range(a, b) as a list -/
def upto (lo hi : Int) : List D := (List.range (hi - lo).toNat).map fun (i : Nat) => .int (lo + (i : Int))
def rng1 (ds : List D) : Rz (List D) := match ds with
  | [.int j] => if j.natAbs ≤ 1000000000 then .ok (upto 0 j) else .no
  | _ => .no
def rng2 (ds : List D) : Rz (List D) := match ds with
  | [.int i, .int j] => if i.natAbs ≤ 1000000000 ∧ j.natAbs ≤ 1000000000 then .ok (upto i j) else .no
  | _ => .no
def aI (op : List D → Rz (List D)) (f : En → Rz (List D)) : En → Rz (List D) := fun env => (f env).bind op
theorem walk_rng {K : PySem.W.Frag} {F' : Hp} {lo : Int} {n : Nat} : Walk K cl (Itr lo n) ((List.range n).map fun (i : Nat) => .int (lo + (i : Int))) F' F' := fun i H2 F2 _ e1 e2 => by
  refine ⟨fun d hd => ?_, fun hl => by rw [List.length_map, List.length_range] at hl; exact hl⟩
  have hl : i < n := by
    have := (List.getElem?_eq_some_iff.mp hd).1
    simpa using this
  rw [List.getElem?_map, List.getElem?_range hl] at hd
  cases hd
  refine ⟨hl, fun x H3 y => ?_⟩
  obtain ⟨rfl, rfl⟩ := y
  exact ⟨F2, Grow.refl e2, .int _⟩
theorem simI_rng1 (hg : Gl X "range") (hm : X.mg "range" = none) (ha : SimA cl W X G [a] fs .R) (hs : starEach [a] X.env = [(false, eval a X.env)] := by rfl) : SimI cl W X G tg (.Call (.Name "range" p) [a] [] pos) (aI rng1 fs) :=
  PI.weak (pi_range1 hg hm ha hs) fun σ H R ⟨env, So, F, s, q⟩ => ⟨env, So, F, s, by
    unfold aI at q
    cases hf : fs env with
    | er c => rw [hf] at q; exact q
    | no => rw [hf] at q; exact q
    | ok ds =>
      rw [hf] at q
      simp only [Rz.bind_ok] at q
      refine fun vs H1 F1 g1 r => ?_
      have r : Reps X.K cl H1 vs ds := r
      rcases ds with _ | ⟨d, _ | ⟨d2, ds⟩⟩
      · exact q.elim
      · obtain ⟨v, rfl, r1⟩ := r.one
        clear r
        cases r1 with
        | int j =>
          have q2 : (match (if j.natAbs ≤ 1000000000 then .ok (upto 0 j) else .no : Rz (List D)) with
            | .ok ds => ∀ J H' F', Grow F H F' H' → Walk X.K cl J ds F' F' → R J H'
            | .er c => ∀ H', Ex H H' → W c H'
            | .no => False) := q
          by_cases c : j.natAbs ≤ 1000000000
          · rw [if_pos c] at q2
            refine ⟨j, rfl, by omega, by omega, q2 _ H1 F1 g1 ?_⟩
            have e : (j - 0).toNat = j.toNat := by rw [Int.sub_zero]
            unfold upto
            rw [e]
            exact walk_rng
          · rw [if_neg c] at q2; exact q2.elim
        | _ => exact q.elim
      · cases d <;> exact q.elim⟩
theorem simI_rng2 (hg : Gl X "range") (hm : X.mg "range" = none) (ha : SimA cl W X G [a, b] fs .R) (hs : starEach [a, b] X.env = [(false, eval a X.env), (false, eval b X.env)] := by rfl) (hs2 : starEach [b] X.env = [(false, eval b X.env)] := by rfl) : SimI cl W X G tg (.Call (.Name "range" p) [a, b] [] pos) (aI rng2 fs) :=
  PI.weak (pi_range2 hg hm ha hs hs2) fun σ H R ⟨env, So, F, s, q⟩ => ⟨env, So, F, s, by
    unfold aI at q
    cases hf : fs env with
    | er c => rw [hf] at q; exact q
    | no => rw [hf] at q; exact q
    | ok ds =>
      rw [hf] at q
      simp only [Rz.bind_ok] at q
      refine fun vs H1 F1 g1 r => ?_
      have r : Reps X.K cl H1 vs ds := r
      by_cases hh : ∃ i j, ds = [.int i, .int j]
      · obtain ⟨i, j, rfl⟩ := hh
        obtain ⟨v, v', rfl, r1, r2⟩ := r.two
        cases r1; cases r2
        have q2 : (match (if i.natAbs ≤ 1000000000 ∧ j.natAbs ≤ 1000000000 then .ok (upto i j) else .no : Rz (List D)) with
            | .ok ds => ∀ J H' F', Grow F H F' H' → Walk X.K cl J ds F' F' → R J H'
            | .er c => ∀ H', Ex H H' → W c H'
            | .no => False) := q
        by_cases c : i.natAbs ≤ 1000000000 ∧ j.natAbs ≤ 1000000000
        · rw [if_pos c] at q2
          exact ⟨i, j, rfl, ⟨by omega, by omega, by omega, by omega⟩, q2 _ H1 F1 g1 walk_rng⟩
        · rw [if_neg c] at q2; exact q2.elim
      · have e : rng2 ds = .no := by
          unfold rng2
          split
          · exact absurd ⟨_, _, rfl⟩ hh
          · rfl
        rw [e] at q; exact q.elim⟩
/-- enumerate, zip -/
def enumL (ds : List D) : List D := ds.zipIdx.map fun p => .tup [.int (p.2 : Int), p.1]
def enumO (ds : List D) : Rz (List D) := match ds with
  | [.lst xs] => .ok (enumL xs)
  | _ => .no
theorem walk_enum {K : PySem.W.Frag} {F' : Hp} {a : Addr} {xs : List V} {ds : List D} (s : F' a = some (.lst xs)) (r : Reps K cl F' xs ds) : Walk K cl (Ite K a) (enumL ds) F' F' := fun i H2 F2 _ e1 e2 => by
  have sq : SqL K H2 a xs := SqL.of (e2 _ _ (e1 _ _ s))
  refine ⟨fun d hd => ?_, fun hl => ⟨xs, sq, by rw [r.length]; simpa [enumL] using hl⟩⟩
  unfold enumL at hd
  rw [List.getElem?_map, List.getElem?_zipIdx] at hd
  cases hx : ds[i]? with
  | none => rw [hx] at hd; cases hd
  | some d' =>
    rw [hx] at hd
    simp only [Option.map_some, Nat.zero_add, Option.some.injEq] at hd
    subst hd
    obtain ⟨v, hv, rv⟩ := r.get hx
    refine ⟨⟨xs, v, sq, hv⟩, fun x H3 y => ?_⟩
    obtain ⟨T, x', rfl, hT, rfl, y⟩ := y
    have e := y xs sq
    rw [hv] at e; cases e
    have g := Grow.newF (o := .tup [.int (i : Nat), v]) e2 hT
    exact ⟨_, g, .tup upd_same (.cons (.int _) (.cons ((rv.mono e1).mono g.f) .nil))⟩
theorem simI_enum {elts : List Expr} {kk : Nat} {tpos : Pos} (hg : Gl X "enumerate") (hm : X.mg "enumerate" = none) (ha : SimA cl W X G [e] fs (.N 0)) (hs : starEach [e] X.env = [(false, eval e X.env)] := by rfl) :
    SimI cl W X G (.Tuple elts kk tpos) (.Call (.Name "enumerate" p) [e] [] pos) (aI enumO fs) := PI.weak (pi_enum hg hm ha hs) fun σ H R ⟨env, So, F, s, q⟩ => ⟨env, So, F, s, by
    unfold aI at q
    cases hf : fs env with
    | er c => rw [hf] at q; exact q
    | no => rw [hf] at q; exact q
    | ok ds =>
      rw [hf] at q
      simp only [Rz.bind_ok] at q
      refine fun vs H1 F1 g1 ⟨S, o, hh⟩ => ?_
      have r := o.zero_nil.2
      clear o hh
      rcases ds with _ | ⟨d, _ | ⟨d2, ds⟩⟩
      · exact q.elim
      · obtain ⟨v, rfl, r1⟩ := r.one
        clear r
        cases r1 with
        | lst s r => exact ⟨_, _, rfl, SqL.of (g1.i _ _ s), q _ H1 F1 g1 (walk_enum s r)⟩
        | _ => exact q.elim
      · cases d <;> exact q.elim⟩
def zipL (a b : List D) : List D := (a.zip b).map fun p => .tup [p.1, p.2]
def zipO (ds : List D) : Rz (List D) := match ds with
  | [.lst xs, .lst ys] => .ok (zipL xs ys)
  | _ => .no
theorem walk_zip {K : PySem.W.Frag} {F' : Hp} {a b : Addr} {xs ys : List V} {ds es : List D} (s : F' a = some (.lst xs)) (r : Reps K cl F' xs ds) (s' : F' b = some (.lst ys)) (r' : Reps K cl F' ys es) : Walk K cl (Itz K a b) (zipL ds es) F' F' := fun i H2 F2 _ e1 e2 => by
  have sq : SqL K H2 a xs := SqL.of (e2 _ _ (e1 _ _ s))
  have sq' : SqL K H2 b ys := SqL.of (e2 _ _ (e1 _ _ s'))
  refine ⟨fun d hd => ?_, fun hl => ⟨xs, ys, sq, sq', by
    rw [r.length, r'.length]
    unfold zipL at hl
    rw [List.length_map, List.length_zip] at hl
    omega⟩⟩
  unfold zipL at hd
  rw [List.getElem?_map] at hd
  cases hx : (ds.zip es)[i]? with
  | none => rw [hx] at hd; cases hd
  | some d' =>
    rw [hx] at hd
    simp only [Option.map_some, Option.some.injEq] at hd
    subst hd
    have h1 := List.getElem?_zip_eq_some.mp hx
    obtain ⟨v, hv, rv⟩ := r.get h1.1
    obtain ⟨v2, hv2, rv2⟩ := r'.get h1.2
    refine ⟨⟨xs, ys, v, v2, sq, sq', hv, hv2⟩, fun x H3 y => ?_⟩
    obtain ⟨T, x', y', rfl, hT, rfl, y1, y2⟩ := y
    have e := y1 xs sq
    rw [hv] at e; cases e
    have e := y2 ys sq'
    rw [hv2] at e; cases e
    have g := Grow.newF (o := .tup [v, v2]) e2 hT
    exact ⟨_, g, .tup upd_same (.cons ((rv.mono e1).mono g.f) (.cons ((rv2.mono e1).mono g.f) .nil))⟩
theorem simI_zip {elts : List Expr} {kk : Nat} {tpos : Pos} (hg : Gl X "zip") (hm : X.mg "zip" = none) (ha : SimA cl W X G [a, b] fs (.N 0)) (hs : starEach [a, b] X.env = (false, eval a X.env) :: starEach [b] X.env := by rfl) (hpl : (backTo pos (starEach [b] X.env)).any (·.1) = false := by rfl) :
    SimI cl W X G (.Tuple elts kk tpos) (.Call (.Name "zip" p) [a, b] [] pos) (aI zipO fs) := PI.weak (pi_zip hg hm ha hs hpl) fun σ H R ⟨env, So, F, s, q⟩ => ⟨env, So, F, s, by
    unfold aI at q
    cases hf : fs env with
    | er c => rw [hf] at q; exact q
    | no => rw [hf] at q; exact q
    | ok ds =>
      rw [hf] at q
      simp only [Rz.bind_ok] at q
      refine fun vs H1 F1 g1 ⟨S, o, hh⟩ => ?_
      have r := o.zero_nil.2
      clear o hh
      by_cases hh : ∃ i j, ds = [.lst i, .lst j]
      · obtain ⟨i, j, rfl⟩ := hh
        obtain ⟨v, v', rfl, r1, r2⟩ := r.two
        clear r
        cases r1 with
        | lst s r => cases r2 with
          | lst s' r' => exact ⟨_, _, _, _, rfl, SqL.of (g1.i _ _ s), SqL.of (g1.i _ _ s'), q _ H1 F1 g1 (walk_zip s r s' r')⟩
      · have e : zipO ds = .no := by
          unfold zipO
          split
          · exact absurd ⟨_, _, rfl⟩ hh
          · rfl
        rw [e] at q; exact q.elim⟩
end
end Pv

set_option Elab.async false
set_option linter.all false
set_option maxRecDepth 100000
set_option maxHeartbeats 1000000
/-! Pv, sixth part: comprehensions, statements, loops, defs. -/
namespace Pv
open PySem L2

/-! ### comprehensions -/
def Rz.bn {α β : Type} : Rz α → (α → Rz β) → Rz β
  | .ok a, f => f a
  | _, _ => .no
@[simp] theorem Rz.bn_ok {α β : Type} (a : α) (f : α → Rz β) : (Rz.ok a).bn f = f a := rfl
@[simp] theorem Rz.bn_er {α β : Type} (c : Nat) (f : α → Rz β) : (Rz.er c : Rz α).bn f = .no := rfl
@[simp] theorem Rz.bn_no {α β : Type} (f : α → Rz β) : (Rz.no : Rz α).bn f = .no := rfl
/-- each kept item's value -/
def compL (tg : D → En → Rz En) (t : En → Rz Bool) (f : En → Rz D) (env : En) : List D → Rz (List D)
  | [] => .ok []
  | d :: ds => (tg d env).bn fun e1 => (t e1).bn fun b => if b = true then (f e1).bn fun x => (compL tg t f env ds).bn fun xs => .ok (x :: xs) else compL tg t f env ds
def compF (it : En → Rz (List D)) (own : List Nat) (tg : D → En → Rz En) (t : En → Rz Bool) (f : En → Rz D) : En → Rz D := fun env => (it env).bind fun ds => if ds.length ≤ lim then (compL tg t f (ewipe env own) ds).bn fun xs => .ok (.lst xs) else .no
def tTs (K : PySem.W.Frag) (cl : Cl) (W : Nat → Hp → Prop) (G : List Md) (f : En → Rz Bool) : TT := tT K cl W G f
def yesF : En → Rz Bool := fun _ => .ok true
section
variable {X : Cx} {cl : Cl} {W : Nat → Hp → Prop} {G G' : List Md} {m : Mo} {pos p : Pos} {e a b elt tg iter : Expr} {k : Nat} {f : En → Rz D} {t : En → Rz Bool} {it : En → Rz (List D)} {h : D → En → Rz En} {ifs : List Expr}
theorem simPT_nil : PTs X [] (tT X.K cl W G yesF) := ⟨fun pins s σ H Q I ⟨env, So, F, sl, q⟩ => pts_nil.run pins s σ H Q I (q H F (Grow.refl sl.ex))⟩
theorem simPT_one (ht : SimT cl W X G e t) : PTs X [e] (tT X.K cl W G t) := pts_one ht
/-- the list at D0 while the comprehension runs -/
structure Lc (K : PySem.W.Frag) (cl : Cl) (G : List Md) (env : En) (σ : L2.St) (So : Nat → List Addr) (k : Nat) (F1 H1 : Hp) (D0 : Addr) (done : List D) (F H : Hp) : Prop where
  s : Sl K cl G env σ So F H
  e1 : Ex H1 H
  e2 : Ex F1 F
  nn : ∀ a, F1 a = none → F a ≠ none → ¬ Mut (H1 a)
  d1 : H1 D0 = none
  d2 : F D0 = none
  l : ∃ vs S, H D0 = some (.lst vs) ∧ Owns K cl F H k vs done S ∧ S.Nodup ∧ ∀ a ∈ S, H1 a = none ∧ F a = none ∧ a ≠ D0
  so : ∀ i a, a ∈ So i → a ≠ D0
theorem mut_of {H H' : Hp} (e : Ex H H') {a : Addr} (h : ¬ Mut (H' a)) : ¬ Mut (H a) := fun z => h (by rw [mut_keep e z]; exact z)
theorem still {F H F' H' : Hp} (g : Grow F H F' H') {a : Addr} (h1 : F a = none) (h2 : Mut (H a)) : F' a = none := by
  cases q : F' a with
  | none => rfl
  | some o => exact absurd h2 (g.n a h1 (by rw [q]; simp))
theorem Lc.grow {K : PySem.W.Frag} {env : En} {σ : L2.St} {So : Nat → List Addr} {F1 H1 F H F' H' : Hp} {D0 : Addr} {done : List D} (c : Lc K cl G env σ So k F1 H1 D0 done F H) (g : Grow F H F' H') : Lc K cl G env σ So k F1 H1 D0 done F' H' where
  s := c.s.grow g
  e1 := c.e1.trans g.h
  e2 := c.e2.trans g.f
  nn := fun a h1 h2 => by
    cases q : F a with
    | some o => exact c.nn a h1 (by rw [q]; simp)
    | none => exact mut_of c.e1 (g.n a q h2)
  d1 := c.d1
  d2 := by
    obtain ⟨vs, S, h, _⟩ := c.l
    exact still g c.d2 (by rw [h]; trivial)
  l := by
    obtain ⟨vs, S, h, o, nd, fr⟩ := c.l
    exact ⟨vs, S, g.h _ _ h, o.mono g.f fun a ha => mut_keep g.h (o.live a ha), nd, fun a ha => ⟨(fr a ha).1, still g (fr a ha).2.1 (o.live a ha), (fr a ha).2.2⟩⟩
  so := c.so
/-- one item more -/
theorem Lc.snoc {K : PySem.W.Frag} {env : En} {σ : L2.St} {So : Nat → List Addr} {F1 H1 F H F' H' : Hp} {D0 : Addr} {done : List D} {v : V} {d : D} (c : Lc K cl G env σ So k F1 H1 D0 done F H) (g : Grow F H F' H') (o : Out K cl (.N k) v d H F' H') :
    ∃ acc, H' D0 = some (.lst acc) ∧ acc.length = done.length ∧ Lc K cl G env σ So k F1 H1 D0 (done ++ [d]) F' (upd H' D0 (.lst (acc ++ [v]))) := by
  have c' := c.grow g
  obtain ⟨vs, S, h0, os0, nd, fr0⟩ := c.l
  have h : H' D0 = some (.lst vs) := g.h _ _ h0
  have os : Owns K cl F' H' k vs done S := os0.mono g.f fun a ha => mut_keep g.h (os0.live a ha)
  have fr : ∀ a ∈ S, H1 a = none ∧ F' a = none ∧ a ≠ D0 := fun a ha => ⟨(fr0 a ha).1, still g (fr0 a ha).2.1 (os0.live a ha), (fr0 a ha).2.2⟩
  obtain ⟨T, o, ndT, frT⟩ := o
  have nT : ∀ a ∈ T, a ≠ D0 := fun a ha z => by
    have := (frT a ha).1
    rw [z, h0] at this; cases this
  refine ⟨vs, h, (os.reps c'.s.ex).length, ?_⟩
  have exU : Ex F' (upd H' D0 (.lst (vs ++ [v]))) := Evl.Ex.mut c'.s.ex c'.d2
  have ex1 : Ex H1 (upd H' D0 (.lst (vs ++ [v]))) := Evl.Ex.mut c'.e1 c'.d1
  refine ⟨⟨c'.s.len, fun i k' d' h1 h2 => ?_, c'.s.nd, c'.s.dj, c'.s.fr, fun i a ha => ?_, exU, c'.s.pn⟩, ex1, c'.e2, c'.nn, c'.d1, c'.d2, ⟨vs ++ [v], S ++ T, upd_same, ?_, ?_, fun a ha => ?_⟩, c'.so⟩
  · obtain ⟨w, h3, h4⟩ := c'.s.sl i k' d' h1 h2
    exact ⟨w, h3, h4.mono (Evl.Ex.refl _) fun a ha => upd_ne (c'.so i a ha)⟩
  · rw [upd_ne (c'.so i a ha)]; exact c'.s.lv i a ha
  · have o1 := os.mono (H' := upd H' D0 (.lst (vs ++ [v]))) (Evl.Ex.refl _) fun a ha => upd_ne (fr a ha).2.2
    have o2 := o.mono (H' := upd H' D0 (.lst (vs ++ [v]))) (Evl.Ex.refl _) fun a ha => upd_ne (nT a ha)
    have o3 : Owns K cl F' (upd H' D0 (.lst (vs ++ [v]))) k [v] [d] (T ++ []) := .cons o2 .nil
    rw [List.append_nil] at o3
    exact o1.append o3
  · refine List.nodup_append.mpr ⟨nd, ndT, fun a ha b hb e => ?_⟩
    subst e
    have lv := os0.live a ha
    rw [(frT a hb).1] at lv
    exact lv
  · rcases List.mem_append.mp ha with ha | ha
    · exact ⟨(fr a ha).1, (fr a ha).2.1, (fr a ha).2.2⟩
    · exact ⟨Evl.fresh_back c.e1 (frT a ha).1, (frT a ha).2, nT a ha⟩
theorem wipe_in {σ : L2.St} {i : Nat} : ∀ {vs : List Nat}, i ∈ vs → (L2.wipe σ vs)[i]? = (σ[i]?).map fun _ => none
  | [], h => nomatch h
  | v :: vs, h => by
    unfold L2.wipe
    by_cases hi : v = i
    · subst hi
      by_cases hl : v < σ.length
      · rw [List.getElem?_set_self (by rw [wipe_length]; exact hl), List.getElem?_eq_getElem hl]; rfl
      · rw [List.getElem?_eq_none (by rw [List.length_set, wipe_length]; omega), List.getElem?_eq_none (by omega)]; rfl
    · rw [List.getElem?_set_ne hi]
      rcases List.mem_cons.mp h with e | e
      · exact absurd e.symm hi
      · exact wipe_in e
theorem wipe_wipe (σ : L2.St) (vs : List Nat) : L2.wipe (L2.wipe σ vs) vs = L2.wipe σ vs := by
  refine List.ext_getElem? fun i => ?_
  by_cases h : i ∈ vs
  · rw [wipe_in h, wipe_in h]
    cases σ[i]? <;> rfl
  · rw [wipe_get' h]
/-- as tI, where nothing that stands is changed meanwhile -/
def tIR (K : PySem.W.Frag) (cl : Cl) (W : Nat → Hp → Prop) (G : List Md) (f : En → Rz (List D)) : TI := fun σ H R => ∃ env So F, Sl K cl G env σ So F H ∧ (match f env with
  | .ok ds => ∀ J H' F', Grow F H F' H' → Walk K cl J ds H' F' → R J H'
  | .er c => ∀ H', Ex H H' → W c H'
  | .no => False)
abbrev SimIR (cl : Cl) (W : Nat → Hp → Prop) (X : Cx) (G : List Md) (tg e : Expr) (f : En → Rz (List D)) : Prop := PI X tg e (tIR X.K cl W G f)
theorem simIR_of (h : SimI cl W X G tg e it) : SimIR cl W X G tg e it := PI.weak h fun σ H R ⟨env, So, F, s, q⟩ => ⟨env, So, F, s, by
  cases hf : it env with
  | er c => rw [hf] at q; exact q
  | no => rw [hf] at q; exact q
  | ok ds =>
    rw [hf] at q
    exact fun J H1 F1 g1 wk => q J H1 F1 g1 fun i H2 F2 e0 e1 e2 => wk i H2 F2 (g1.i.trans e0) e1 e2⟩
/-- a list of plain items, owned by whomever -/
def lOfR (f : En → Rz D) : En → Rz (List D) := fun env => (f env).bind fun d => match d with
  | .lst ds => if immA ds = true then .ok ds else .no
  | _ => .no
theorem immA_mem : ∀ {ds : List D} {d : D}, immA ds = true → d ∈ ds → imm d = true
  | [], _, _, h => nomatch h
  | x :: xs, d, h, hm => by
    unfold immA at h
    rw [Bool.and_eq_true] at h
    rcases List.mem_cons.mp hm with e | e
    · rw [e]; exact h.1
    · exact immA_mem h.2 e
theorem walk_listR {K : PySem.W.Frag} {F' H' : Hp} {a : Addr} {xs : List V} {ds : List D} (s : H' a = some (.lst xs)) (r : Reps K cl H' xs ds) (hi : immA ds = true) : Walk K cl (Itl K a) ds H' F' := fun i H2 F2 e0 _ e2 => by
  have sq : SqL K H2 a xs := SqL.of (e0 _ _ s)
  refine ⟨fun d hd => ?_, fun hl => ⟨xs, sq, by rw [r.length]; exact hl⟩⟩
  obtain ⟨v, hv, rv⟩ := r.get hd
  refine ⟨⟨xs, v, sq, hv⟩, fun x H3 y => ?_⟩
  obtain ⟨rfl, y⟩ := y
  have e := y xs sq
  rw [hv] at e; cases e
  refine ⟨addT F2 H3, ⟨Evl.Ex.refl _, addT_ex, addT_in e2 (Evl.Ex.refl _), fun a h1 h2 => ?_⟩, Rep.imm_mono (fun a xs e => addT_tup e2 (e0 _ _ e)) rv (immA_mem hi (List.mem_of_getElem? hd))⟩
  obtain ⟨ys, e⟩ := addT_n h1 h2
  rw [e]; exact id
theorem simIR_list (h : SimE cl W X G e f .R) : SimIR cl W X G tg e (lOfR f) := PI.weak (pi_list h) fun σ H R ⟨env, So, F, s, q⟩ => ⟨env, So, F, s, by
  unfold lOfR at q
  cases hf : f env with
  | er c => rw [hf] at q; exact q
  | no => rw [hf] at q; exact q
  | ok d =>
    rw [hf] at q
    simp only [Rz.bind_ok] at q
    refine fun v H1 F1 g1 r => ?_
    cases d with
    | lst ds =>
      simp only at q
      by_cases hi : immA ds = true
      · rw [if_pos hi] at q
        have r : Rep X.K cl H1 v (.lst ds) := r
        cases r with
        | lst s r => exact ⟨_, rfl, ⟨_, SqL.of s⟩, q _ H1 F1 g1 (walk_listR s r hi)⟩
      · rw [if_neg hi] at q; exact q.elim
    | _ => exact q.elim⟩
theorem go_lc {K : PySem.W.Frag} {own ix : List Nat} (hix : ∀ i ∈ ix, i ∈ own) (hcl : clear G own = true) : ∀ σ H Q, tE K cl W G (compF it own h t f) (.N (k + 1)) σ H Q →
    tLc (tIR K cl W G it) (tG K cl G 0 h G' ix) (tT K cl (fun _ _ => False) G' t) (tE K cl (fun _ _ => False) G' f (.N k)) own σ H Q := fun σ H Q ⟨env, So, F, s, q⟩ => ⟨env, So, F, s, by
  unfold compF at q
  cases hi : it env with
  | er c => rw [hi] at q; exact q
  | no => rw [hi] at q; exact q
  | ok ds =>
    rw [hi] at q
    simp only [Rz.bind_ok] at q
    obtain ⟨hl, q⟩ := Res.ifp q
    cases hT : compL h t f (ewipe env own) ds with
    | er c => rw [hT] at q; exact q.elim
    | no => rw [hT] at q; exact q.elim
    | ok tot =>
    rw [hT] at q
    simp only [Rz.bn_ok] at q
    refine fun J H1 F1 g1 wk D0 hD => ?_
    have s1 := s.grow g1
    have nD : ∀ i a, a ∈ So i → a ≠ D0 := fun i a ha z => by
      have := s1.lv i a ha
      rw [z, hD] at this; exact this
    have fD : F1 D0 = none := Evl.fresh_back s1.ex hD
    let Pv : Nat → Hp → Prop := fun i H2 => ∃ F2 done rest, Lc K cl G (ewipe env own) (L2.wipe σ own) So k F1 H1 D0 done F2 H2 ∧ compL h t f (ewipe env own) (ds.drop i) = .ok rest ∧ done ++ rest = tot ∧ done.length ≤ i ∧ i ≤ ds.length
    have ex0 : Ex F1 (upd H1 D0 (.lst [])) := Evl.Ex.mut s1.ex fD
    have c0 : Lc K cl G (ewipe env own) (L2.wipe σ own) So k F1 H1 D0 [] F1 (upd H1 D0 (.lst [])) :=
      ⟨(s1.grow (Grow.newO s1.ex hD)).wipe own hcl, Evl.Ex.new hD, Evl.Ex.refl _, fun a h1 h2 => absurd h1 h2, hD, fD, ⟨[], [], upd_same, .nil, List.nodup_nil, fun _ z => nomatch z⟩, nD⟩
    refine ⟨fun i mm H2 => mm = ds.length - i ∧ Pv i H2, ⟨_, rfl, F1, [], tot, c0, hT, rfl, Nat.le_refl _, Nat.zero_le _⟩, ?_⟩
    rintro i mm H2 ⟨rfl, F2, done, rest, c, hr, he, hdl, hil⟩
    have w := wk i H2 F2 c.e1 c.e2 c.s.ex
    by_cases hlt : i < ds.length
    · refine .inr ?_
      have hd : ds[i]? = some ds[i] := List.getElem?_eq_getElem hlt
      obtain ⟨go, yl⟩ := w.1 _ hd
      refine ⟨go, Pv (i + 1), fun H' p' => ⟨ds.length - (i + 1), by omega, rfl, p'⟩, fun x H3 y => ?_⟩
      obtain ⟨F3, g3, rx⟩ := yl x H3 y
      have c3 := c.grow g3
      rw [List.drop_eq_getElem_cons hlt] at hr
      unfold compL at hr
      refine ⟨ewipe env own, So, F3, ds[i], [], c3.s, .z rx, List.nodup_nil, (fun _ z => nomatch z), (fun _ z => nomatch z), ?_⟩
      cases h1 : h ds[i] (ewipe env own) with
      | er c => rw [h1] at hr; cases hr
      | no => rw [h1] at hr; cases hr
      | ok e1 =>
        rw [h1] at hr
        simp only [Rz.bn_ok] at hr
        refine fun σ' So' sl' sub off => ⟨(off own hix).trans (wipe_wipe σ own), e1, So', F3, sl', ?_⟩
        cases h2 : t e1 with
        | er c => rw [h2] at hr; cases hr
        | no => rw [h2] at hr; cases hr
        | ok b =>
          rw [h2] at hr
          simp only [Rz.bn_ok] at hr
          refine fun H4 F4 g4 => ?_
          have c4 := c3.grow g4
          cases b with
          | false =>
            rw [if_neg Bool.false_ne_true] at hr
            refine L2.iteF ?_
            exact ⟨F4, done, rest, c4, hr, he, Nat.le_succ_of_le hdl, hlt⟩
          | true =>
            rw [if_pos rfl] at hr
            refine L2.iteT ?_
            refine ⟨e1, So', F4, sl'.grow g4, ?_⟩
            cases h3 : f e1 with
            | er c => rw [h3] at hr; cases hr
            | no => rw [h3] at hr; cases hr
            | ok xd =>
              rw [h3] at hr
              simp only [Rz.bn_ok] at hr
              refine fun v H5 F5 g5 o5 => ?_
              obtain ⟨acc, ha, hal, c5⟩ := c4.snoc g5 o5
              refine ⟨acc, ha, lim_lt (by omega), ?_⟩
              cases h4 : compL h t f (ewipe env own) (ds.drop (i + 1)) with
              | er c => rw [h4] at hr; cases hr
              | no => rw [h4] at hr; cases hr
              | ok ys =>
                rw [h4] at hr
                simp only [Rz.bn_ok] at hr
                cases hr
                exact ⟨F5, done ++ [xd], ys, c5, h4, by rw [← he, List.append_assoc]; rfl, by rw [List.length_append]; exact Nat.succ_le_succ hdl, hlt⟩
    · refine .inl ⟨w.2 (by omega), ?_⟩
      rw [List.drop_eq_nil_of_le (by omega)] at hr
      cases hr
      rw [List.append_nil] at he
      subst he
      obtain ⟨vs, S, hh, os, nd, fr⟩ := c.l
      refine q (.ref D0) H2 F2 (g1.trans ⟨c.e1, c.e2, c.s.ex, c.nn⟩) ⟨D0 :: S, .lst hh os, List.nodup_cons.mpr ⟨fun z => (fr _ z).2.2 rfl, nd⟩, fun a ha => ?_⟩
      rcases List.mem_cons.mp ha with rfl | ha
      · exact ⟨Evl.fresh_back g1.h hD, c.d2⟩
      · exact ⟨Evl.fresh_back g1.h (fr a ha).1, (fr a ha).2.1⟩⟩
theorem sim_lcR {scope : Scope} {own : List (Str × Nat)} {ix : List Nat} (hc : X.calm = true) (hN : X.N.Nodup) (hi : SimIR cl W X G tg iter it) (ok : BlkOk X.N X.env.scope scope own)
    (hg : ∀ (s : Shared) (H : Hp) (C : Addr) (c : List (Str × Addr)) (fp : List Addr), SimG cl (X.blk s H scope (compEnvC scope c C X.env) fp) G 0 tg h G' ix)
    (ht : ∀ (s : Shared) (H : Hp) (C : Addr) (c : List (Str × Addr)) (fp : List Addr), PTs (X.blk s H scope (compEnvC scope c C X.env) fp) ifs (tT X.K cl (fun _ _ => False) G' t))
    (he : ∀ (s : Shared) (H : Hp) (C : Addr) (c : List (Str × Addr)) (fp : List Addr), SimE cl (fun _ _ => False) (X.blk s H scope (compEnvC scope c C X.env) fp) G' elt f (.N k))
    (hix : ∀ i ∈ ix, i ∈ own.map (·.2) := by decide) (hs : ∀ x, foldedSetIterable iter X.env x = pure x := by intro _; rfl) (hcl : clear G (own.map (·.2)) = true := by rfl) :
    SimE cl W X G (.ListComp elt [⟨tg, iter, ifs, 0⟩] scope pos) (compF it (own.map (·.2)) h t f) (.N (k + 1)) :=
  PE.weak (pe_lc hc hN hi ok hg ht he hs) (go_lc hix hcl)
theorem sim_lc {scope : Scope} {own : List (Str × Nat)} {ix : List Nat} (hc : X.calm = true) (hN : X.N.Nodup) (hi : SimI cl W X G tg iter it) (ok : BlkOk X.N X.env.scope scope own)
    (hg : ∀ (s : Shared) (H : Hp) (C : Addr) (c : List (Str × Addr)) (fp : List Addr), SimG cl (X.blk s H scope (compEnvC scope c C X.env) fp) G 0 tg h G' ix)
    (ht : ∀ (s : Shared) (H : Hp) (C : Addr) (c : List (Str × Addr)) (fp : List Addr), PTs (X.blk s H scope (compEnvC scope c C X.env) fp) ifs (tT X.K cl (fun _ _ => False) G' t))
    (he : ∀ (s : Shared) (H : Hp) (C : Addr) (c : List (Str × Addr)) (fp : List Addr), SimE cl (fun _ _ => False) (X.blk s H scope (compEnvC scope c C X.env) fp) G' elt f (.N k))
    (hix : ∀ i ∈ ix, i ∈ own.map (·.2) := by decide) (hs : ∀ x, foldedSetIterable iter X.env x = pure x := by intro _; rfl) (hcl : clear G (own.map (·.2)) = true := by rfl) :
    SimE cl W X G (.ListComp elt [⟨tg, iter, ifs, 0⟩] scope pos) (compF it (own.map (·.2)) h t f) (.N (k + 1)) :=
  PE.weak (pe_lc hc hN (simIR_of hi) ok hg ht he hs) (go_lc hix hcl)
end

/-! ### statements -/
inductive Fl where
  | nx (env : En) | rt (d : D)
section
variable (K : PySem.W.Frag) (cl : Cl) (W : Nat → Hp → Prop) (B F0 : Hp)
/-- what the def has found stays; what it owns is its own -/
structure Bd (So : Nat → List Addr) (F H : Hp) : Prop where
  b : Ex B H
  f : Ex F0 F
  n : ∀ a, F0 a = none → F a ≠ none → ¬ Mut (B a)
  o : ∀ i a, a ∈ So i → B a = none
def FinS (G' : List Md) (kr : Nat) (o : Rz Fl) (H : Hp) (Dn : Ends) : Prop := match o with
  | .ok (.nx env') => ∀ σ' H' So' F', Sl K cl G' env' σ' So' F' H' → Bd B F0 So' F' H' → Dn.nx σ' H'
  | .ok (.rt d) => ∀ v H' F' S, Ex B H' → Ex F0 F' → Ex F' H' → (∀ a, F0 a = none → F' a ≠ none → ¬ Mut (B a)) → Own K cl F' H' kr v d S → S.Nodup → (∀ a ∈ S, B a = none ∧ F' a = none) → Dn.rt v H'
  | .er c => ∀ H', Ex B H' → W c H'
  | .no => False
def tS (G : List Md) (f : En → Rz Fl) (G' : List Md) (kr : Nat) : TS := fun Dn σ H => ∃ env So F, Sl K cl G env σ So F H ∧ Bd B F0 So F H ∧ FinS K cl W B F0 G' kr (f env) H Dn
end
abbrev SimS (cl : Cl) (W : Nat → Hp → Prop) (X : Cx) (G : List Md) (st : Stmt) (f : En → Rz Fl) (G' : List Md) (kr : Nat) : Prop := ∀ B F0, PS X st (tS X.K cl W B F0 G f G' kr)
abbrev SimSs (cl : Cl) (W : Nat → Hp → Prop) (X : Cx) (G : List Md) (st : List Stmt) (f : En → Rz Fl) (G' : List Md) (kr : Nat) : Prop := ∀ B F0, PSs X st (tS X.K cl W B F0 G f G' kr)
theorem PS.weak {X : Cx} {e : Stmt} {t t' : TS} (h : PS X e t) (i : ∀ D σ H, t' D σ H → t D σ H) : PS X e t' := ⟨fun pins s σ H D I q => h.run pins s σ H D I (i _ _ _ q)⟩
theorem PSs.weak {X : Cx} {e : List Stmt} {t t' : TS} (h : PSs X e t) (i : ∀ D σ H, t' D σ H → t D σ H) : PSs X e t' := ⟨fun pins s σ H D I q => h.run pins s σ H D I (i _ _ _ q)⟩
section
variable {K : PySem.W.Frag} {cl : Cl} {W : Nat → Hp → Prop} {B F0 F F' H H' : Hp} {So : Nat → List Addr}
theorem Bd.grow {G : List Md} {env : En} {σ : L2.St} (s : Sl K cl G env σ So F H) (b : Bd B F0 So F H) (g : Grow F H F' H') : Bd B F0 So F' H' where
  b := b.b.trans g.h
  f := b.f.trans g.f
  n := fun a h1 h2 => by
    cases q : F a with
    | some o => exact b.n a h1 (by rw [q]; simp)
    | none => exact mut_of b.b (g.n a q h2)
  o := b.o
end
section
variable {X : Cx} {cl : Cl} {W : Nat → Hp → Prop} {G G' G'' : List Md} {m : Mo} {pos p : Pos} {e a b elt tg iter : Expr} {k kr : Nat} {f g : En → Rz D} {t : En → Rz Bool} {st : Stmt} {sts : List Stmt} {u v w : En → Rz Fl}
def skF : En → Rz Fl := fun env => .ok (.nx env)
def seqF (u v : En → Rz Fl) : En → Rz Fl := fun env => (u env).bind fun o => match o with
  | .nx e => v e
  | .rt d => .ok (.rt d)
theorem simSs_nil : SimSs cl W X G [] skF G kr := fun B F0 => PSs.weak pss_nil fun Dn σ H ⟨env, So, F, s, b, q⟩ => q σ H So F s b
theorem simSs_one (h : SimS cl W X G st u G' kr) : SimSs cl W X G [st] u G' kr := fun B F0 => pss_one (h B F0)
theorem simSs_cons (h1 : SimS cl W X G st u G' kr) (h2 : SimSs cl W X G' sts v G'' kr) : SimSs cl W X G (st :: sts) (seqF u v) G'' kr := fun B F0 =>
  PSs.weak (pss_cons (h1 B F0) (h2 B F0)) fun Dn σ H ⟨env, So, F, s, b, q⟩ => ⟨env, So, F, s, b, by
    unfold seqF at q
    cases hu : u env with
    | er c => rw [hu] at q; exact q
    | no => rw [hu] at q; exact q
    | ok o =>
      rw [hu] at q
      cases o with
      | rt d => exact q
      | nx e1 => exact fun σ' H' So' F' s' b' => ⟨e1, So', F', s', b', by
          have q : FinS X.K cl W B F0 G'' kr (v e1) H Dn := q
          cases hv : v e1 with
          | er c => rw [hv] at q; exact q
          | no => rw [hv] at q; exact q
          | ok o2 => rw [hv] at q; cases o2 <;> exact q⟩⟩
/-- what is owned may be given up: to n -/
theorem simS_pass : SimS cl W X G (.Pass pos) skF G kr := fun B F0 => PS.weak ps_pass fun Dn σ H ⟨env, So, F, s, b, q⟩ => q σ H So F s b
def retF (f : En → Rz D) : En → Rz Fl := fun env => (f env).bind fun d => .ok (.rt d)
theorem simS_ret (h : SimE cl W X G e f (.N kr)) : SimS cl W X G (.Return (some e) pos) (retF f) G' kr := fun B F0 => PS.weak (ps_ret h) fun Dn σ H ⟨env, So, F, s, b, q⟩ => ⟨env, So, F, s, by
  unfold retF at q
  cases hf : f env with
  | er c => rw [hf] at q; exact fun H' e => q H' (b.b.trans e)
  | no => rw [hf] at q; exact q
  | ok d =>
    rw [hf] at q
    refine fun v H' F' g ⟨S, o, nd, fr⟩ => q v H' F' S (b.b.trans g.h) (b.f.trans g.f) g.i (b.grow s g).n o nd fun a ha => ⟨Evl.fresh_back b.b (fr a ha).1, (fr a ha).2⟩⟩
theorem simS_retN : SimS cl W X G (.Return none pos) (retF (cF .non)) G' kr := fun B F0 => PS.weak ps_retN fun Dn σ H ⟨env, So, F, s, b, q⟩ =>
  q .non H F [] b.b b.f s.ex b.n (.im .non rfl) List.nodup_nil fun _ z => nomatch z
/-- name = e -/
def setF (i : Nat) (f : En → Rz D) : En → Rz Fl := fun env => (f env).bind fun d => .ok (.nx (env.set i (some d)))
theorem go_set {B F0 : Hp} {i : Nat} {K : PySem.W.Frag} (hk : k < 100) : ∀ Dn σ H, tS K cl W B F0 G (setF i f) (G.set i (some k)) kr Dn σ H → tAsg (tE K cl W G f (.N k)) (gName i) Dn σ H := fun Dn σ H ⟨env, So, F, s, b, q⟩ => ⟨env, So, F, s, by
  unfold setF at q
  cases hf : f env with
  | er c => rw [hf] at q; exact fun H' e => q H' (b.b.trans e)
  | no => rw [hf] at q; exact q
  | ok d =>
    rw [hf] at q
    refine fun v H' F' g ⟨S, o, nd, fr⟩ => ?_
    have s' := s.grow g
    have b' := b.grow s g
    refine q _ H' _ F' (s'.set i o nd (fun a ha j _ hj => ?_) (fun a ha => (fr a ha).2) hk) ⟨b'.b, b'.f, b'.n, fun j a ha => ?_⟩
    · have := s.lv j a hj
      rw [(fr a ha).1] at this; exact this
    · by_cases hj : j = i
      · rw [if_pos hj] at ha; exact Evl.fresh_back b.b (fr a ha).1
      · rw [if_neg hj] at ha; exact b.o j a ha⟩
theorem simS_set {i : Nat} {x : Str} {pos' : Pos} (hN : X.N.Nodup) (hi : X.N[i]? = some x) (hx : Loc X.env.scope x) (he : SimE cl W X G e f (.N k)) (hs : swapsWith e (some (.Name x pos')) pos.line X.env = pure false) (hf : X.fn x = true ∨ X.env.scope.names.lookup x = some .local) (hk : k < 100 := by decide) :
    SimS cl W X G (.Assign [.Name x pos'] e pos) (setF i f) (G.set i (some k)) kr := fun B F0 => PS.weak (ps_set hN hi hx he hs hf) (go_set hk)
end
end Pv

set_option Elab.async false
set_option linter.all false
set_option maxRecDepth 100000
set_option maxHeartbeats 1000000
/-! Pv, seventh part: giving up, if, loops, what changes, defs. -/
namespace Pv
open PySem L2

section
variable {K : PySem.W.Frag} {cl : Cl} {W : Nat → Hp → Prop} {B F0 F F' H H' : Hp} {So : Nat → List Addr} {G : List Md} {env : En} {σ : L2.St}
/-- a slot's objects are owned no more -/
theorem Sl.frz (s : Sl K cl G env σ So F H) (i : Nat) (hi : ∃ k, G[i]? = some (some k)) : Sl K cl (G.set i (some 0)) env σ (fun j => if j = i then [] else So j) (fzA F H (So i)) H where
  len := s.len
  sl := fun j k d h1 h2 => by
    by_cases hj : j = i
    · subst hj
      have hg : j < G.length := by
        have := (List.getElem?_eq_some_iff.mp h1).1
        rw [List.length_set] at this; exact this
      rw [List.getElem?_set_self hg] at h1
      cases h1
      rw [if_pos rfl]
      obtain ⟨k, hm⟩ := hi
      obtain ⟨v, h3, h4⟩ := s.sl j k d hm h2
      exact ⟨v, h3, .z (h4.freeze (fzA_ex (s.fr j)) fun a ha => by unfold fzA; rw [if_pos ha])⟩
    · rw [List.getElem?_set_ne (Ne.symm hj)] at h1
      obtain ⟨w, h3, h4⟩ := s.sl j k d h1 h2
      refine ⟨w, h3, ?_⟩
      rw [if_neg hj]
      exact h4.mono (fzA_ex (s.fr i)) fun _ _ => rfl
  nd := fun j => by
    by_cases hj : j = i
    · rw [if_pos hj]; exact List.nodup_nil
    · rw [if_neg hj]; exact s.nd j
  dj := fun j l a hne h1 h2 => by
    by_cases hj : j = i
    · rw [if_pos hj] at h1; cases h1
    · by_cases hl : l = i
      · rw [if_pos hl] at h2; cases h2
      · rw [if_neg hj] at h1; rw [if_neg hl] at h2; exact s.dj j l a hne h1 h2
  fr := fun j a h => by
    by_cases hj : j = i
    · rw [if_pos hj] at h; cases h
    · rw [if_neg hj] at h
      unfold fzA
      rw [if_neg (fun z => s.dj j i a hj h z)]
      exact s.fr j a h
  lv := fun j a h => by
    by_cases hj : j = i
    · rw [if_pos hj] at h; cases h
    · rw [if_neg hj] at h; exact s.lv j a h
  ex := fzA_in s.ex
  pn := fun j k h1 h2 => by
    by_cases hj : j = i
    · subst hj
      have hg : j < G.length := by
        have := (List.getElem?_eq_some_iff.mp h1).1
        rw [List.length_set] at this; exact this
      rw [List.getElem?_set_self hg] at h1
      cases h1
      omega
    · rw [List.getElem?_set_ne (Ne.symm hj)] at h1
      exact s.pn j k h1 h2
theorem Bd.frz (s : Sl K cl G env σ So F H) (b : Bd B F0 So F H) (i : Nat) : Bd B F0 (fun j => if j = i then [] else So j) (fzA F H (So i)) H where
  b := b.b
  f := b.f.trans (fzA_ex (s.fr i))
  n := fun a h1 h2 => by
    unfold fzA at h2
    by_cases ha : a ∈ So i
    · rw [b.o i a ha]; exact id
    · rw [if_neg ha] at h2; exact b.n a h1 h2
  o := fun j a h => by
    by_cases hj : j = i
    · rw [if_pos hj] at h; cases h
    · rw [if_neg hj] at h; exact b.o j a h
theorem Sl.fgt (s : Sl K cl G env σ So F H) (i : Nat) : Sl K cl (G.set i none) env σ (fun j => if j = i then [] else So j) F H where
  len := s.len
  sl := fun j k d h1 h2 => by
    by_cases hj : j = i
    · subst hj
      have hg : j < G.length := by
        have := (List.getElem?_eq_some_iff.mp h1).1
        rw [List.length_set] at this; exact this
      rw [List.getElem?_set_self hg] at h1
      cases h1
    · rw [List.getElem?_set_ne (Ne.symm hj)] at h1
      obtain ⟨w, h3, h4⟩ := s.sl j k d h1 h2
      refine ⟨w, h3, ?_⟩
      rw [if_neg hj]
      exact h4
  nd := fun j => by
    by_cases hj : j = i
    · rw [if_pos hj]; exact List.nodup_nil
    · rw [if_neg hj]; exact s.nd j
  dj := fun j l a hne h1 h2 => by
    by_cases hj : j = i
    · rw [if_pos hj] at h1; cases h1
    · by_cases hl : l = i
      · rw [if_pos hl] at h2; cases h2
      · rw [if_neg hj] at h1; rw [if_neg hl] at h2; exact s.dj j l a hne h1 h2
  fr := fun j a h => by
    by_cases hj : j = i
    · rw [if_pos hj] at h; cases h
    · rw [if_neg hj] at h; exact s.fr j a h
  lv := fun j a h => by
    by_cases hj : j = i
    · rw [if_pos hj] at h; cases h
    · rw [if_neg hj] at h; exact s.lv j a h
  ex := s.ex
  pn := fun j k h1 h2 => by
    by_cases hj : j = i
    · subst hj
      have hg : j < G.length := by
        have := (List.getElem?_eq_some_iff.mp h1).1
        rw [List.length_set] at this; exact this
      rw [List.getElem?_set_self hg] at h1
      cases h1
    · rw [List.getElem?_set_ne (Ne.symm hj)] at h1
      exact s.pn j k h1 h2
theorem Bd.fgt (b : Bd B F0 So F H) (i : Nat) : Bd B F0 (fun j => if j = i then [] else So j) F H where
  b := b.b
  f := b.f
  n := b.n
  o := fun j a h => by
    by_cases hj : j = i
    · rw [if_pos hj] at h; cases h
    · rw [if_neg hj] at h; exact b.o j a h
end
section
variable {X : Cx} {cl : Cl} {W : Nat → Hp → Prop} {G G1 G' G'' : List Md} {m : Mo} {pos p : Pos} {e a b c elt tg iter : Expr} {k kr : Nat} {f g : En → Rz D} {t : En → Rz Bool} {st : Stmt} {sts sts' body : List Stmt} {u v w : En → Rz Fl} {it : En → Rz (List D)} {h : D → En → Rz En} {ix : List Nat}
theorem simSs_frz (i : Nat) (hh : SimSs cl W X (G.set i (some 0)) sts u G' kr) (hi : ∃ k, G[i]? = some (some k)) : SimSs cl W X G sts u G' kr := fun B F0 => PSs.weak (hh B F0) fun Dn σ H ⟨env, So, F, s, b, q⟩ => ⟨env, _, _, s.frz i hi, b.frz s i, q⟩
theorem simSs_fgt (i : Nat) (hh : SimSs cl W X (G.set i none) sts u G' kr) : SimSs cl W X G sts u G' kr := fun B F0 => PSs.weak (hh B F0) fun Dn σ H ⟨env, So, F, s, b, q⟩ => ⟨env, _, F, s.fgt i, b.fgt i, q⟩
theorem simS_if (hc : SimT cl W X G c t) (ha : SimSs cl W X G sts u G' kr) (hb : SimSs cl W X G sts' v G' kr) : SimS cl W X G (.If c sts sts' pos) (iteF t u v) G' kr := fun B F0 => PS.weak (ps_if hc (ha B F0) (hb B F0)) fun Dn σ H ⟨env, So, F, s, bd, q⟩ => ⟨env, So, F, s, by
  unfold iteF at q
  cases ht : t env with
  | er c => rw [ht] at q; exact fun H' e => q H' (bd.b.trans e)
  | no => rw [ht] at q; exact q
  | ok b =>
    rw [ht] at q
    have q : FinS X.K cl W B F0 G' kr (if b = true then u env else v env) H Dn := q
    refine fun H1 F1 g1 => ?_
    cases b with
    | true =>
      rw [if_pos rfl] at q
      refine L2.iteT ⟨env, So, F1, s.grow g1, bd.grow s g1, ?_⟩
      cases hu : u env with
      | er c => rw [hu] at q; exact q
      | no => rw [hu] at q; exact q
      | ok o => rw [hu] at q; cases o <;> exact q
    | false =>
      rw [if_neg Bool.false_ne_true] at q
      refine L2.iteF ⟨env, So, F1, s.grow g1, bd.grow s g1, ?_⟩
      cases hu : v env with
      | er c => rw [hu] at q; exact q
      | no => rw [hu] at q; exact q
      | ok o => rw [hu] at q; cases o <;> exact q⟩
/-! ### loops -/
def forL (h : D → En → Rz En) (u : En → Rz Fl) : List D → En → Rz Fl
  | [], env => .ok (.nx env)
  | d :: ds, env => (h d env).bn fun e1 => (u e1).bind fun o => match o with
    | .nx e2 => forL h u ds e2
    | .rt r => .ok (.rt r)
def forF (it : En → Rz (List D)) (h : D → En → Rz En) (u : En → Rz Fl) : En → Rz Fl := fun env => (it env).bind fun ds => forL h u ds env
theorem FinS.ends {K : PySem.W.Frag} {B F0 H H' : Hp} {o : Rz Fl} {Dn : Ends} (q : FinS K cl W B F0 G' kr o H Dn) : FinS K cl W B F0 G' kr o H' Dn := by
  cases o with
  | er c => exact q
  | no => exact q
  | ok o => cases o <;> exact q
theorem pss_all (hb : SimSs cl W X G body u G' kr) : PSs X body (fun Dn σ H => ∃ B F0, tS X.K cl W B F0 G u G' kr Dn σ H) := ⟨fun pins s σ H D I ⟨B, F0, q⟩ => (hb B F0).run pins s σ H D I q⟩
theorem simS_for (hc : X.calm = true) (hp : PassesOwn (model X.prog X.w) X.A X.env X.xe) (hi : SimI cl W X G tg iter it) (hg : SimG cl X G 0 tg h G1 ix) (hb : SimSs cl W X G1 body u G kr) (hs : ∀ x, foldedSetIterable iter X.env x = pure x := by intro _; rfl) :
    SimS cl W X G (.For tg iter body [] pos) (forF it h u) G kr := fun B F0 => PS.weak (ps_for hp hc hi hg (pss_all hb) hs) fun Dn σ H ⟨env, So, F, s, bd, q⟩ => ⟨env, So, F, s, by
  unfold forF at q
  cases hit : it env with
  | er c => rw [hit] at q; exact fun H' e => q H' (bd.b.trans e)
  | no => rw [hit] at q; exact q
  | ok ds =>
    rw [hit] at q
    have q : FinS X.K cl W B F0 G kr (forL h u ds env) H Dn := q
    refine fun J H1 F1 g1 wk => ?_
    let Pv : Nat → L2.St → Hp → Prop := fun i σ2 H2 => ∃ env2 So2 F2, Sl X.K cl G env2 σ2 So2 F2 H2 ∧ Bd B F0 So2 F2 H2 ∧ Ex F1 F2 ∧ FinS X.K cl W B F0 G kr (forL h u (ds.drop i) env2) H2 Dn ∧ i ≤ ds.length
    refine ⟨fun i mm σ2 H2 => mm = ds.length - i ∧ Pv i σ2 H2, ⟨_, rfl, env, So, F1, s.grow g1, bd.grow s g1, Evl.Ex.refl _, q.ends, Nat.zero_le _⟩, ?_⟩
    rintro i mm σ2 H2 ⟨rfl, env2, So2, F2, s2, b2, e2, q2, hil⟩
    have w := wk i H2 F2 (e2.trans s2.ex) e2 s2.ex
    by_cases hlt : i < ds.length
    · refine .inr ?_
      have hd : ds[i]? = some ds[i] := List.getElem?_eq_getElem hlt
      obtain ⟨go, yl⟩ := w.1 _ hd
      refine ⟨go, Pv (i + 1), fun σ' H' p' => ⟨ds.length - (i + 1), by omega, rfl, p'⟩, fun x H3 y => ?_⟩
      obtain ⟨F3, g3, rx⟩ := yl x H3 y
      rw [List.drop_eq_getElem_cons hlt] at q2
      have q2 : FinS X.K cl W B F0 G kr ((h ds[i] env2).bn fun e1 => (u e1).bind fun o => match o with | .nx e2 => forL h u (ds.drop (i + 1)) e2 | .rt r => .ok (.rt r)) H2 Dn := q2
      refine ⟨env2, So2, F3, ds[i], [], s2.grow g3, .z rx, List.nodup_nil, (fun _ z => nomatch z), (fun _ z => nomatch z), ?_⟩
      cases h1 : h ds[i] env2 with
      | er c => rw [h1] at q2; exact q2
      | no => rw [h1] at q2; exact q2
      | ok e1 =>
        rw [h1] at q2
        simp only [Rz.bn_ok] at q2
        have b3 := b2.grow s2 g3
        have f13 : Ex F1 F3 := e2.trans g3.f
        have n1 := (bd.grow s g1).n
        have f01 := (bd.grow s g1).f
        refine fun σ' So' sl' sub off => ⟨B, F1, e1, So', F3, sl', ⟨b3.b, f13, fun a h1 h2 => b3.n a (Evl.fresh_back f01 h1) h2, fun j a ha => ?_⟩, ?_⟩
        · rcases sub j a ha with z | z
          · exact b2.o j a z
          · cases z
        · cases hu : u e1 with
          | er c => rw [hu] at q2; exact q2
          | no => rw [hu] at q2; exact q2
          | ok o =>
            rw [hu] at q2
            cases o with
            | rt r => exact fun v H' F' S h1 h2 h3 h4 h5 h6 h7 => q2 v H' F' S h1 (f01.trans h2) h3 (fun a z1 z2 => by
                cases qq : F1 a with
                | some o => exact n1 a z1 (by rw [qq]; simp)
                | none => exact h4 a qq z2) h5 h6 h7
            | nx e3 => exact fun σ4 H4 So4 F4 s4 b4 => ⟨e3, So4, F4, s4, ⟨b4.b, f01.trans b4.f, fun a z1 z2 => by
                cases qq : F1 a with
                | some o => exact n1 a z1 (by rw [qq]; simp)
                | none => exact b4.n a qq z2, b4.o⟩, b4.f, q2.ends, hlt⟩
    · refine .inl ⟨w.2 (by omega), ?_⟩
      rw [List.drop_eq_nil_of_le (by omega)] at q2
      exact q2 σ2 H2 So2 F2 s2 b2⟩
/-- while, n turns at most -/
def whF : Nat → (En → Rz Bool) → (En → Rz Fl) → En → Rz Fl
  | 0, _, _, _ => .no
  | n + 1, t, u, env => (t env).bind fun b => if b = true then (u env).bind fun o => match o with
    | .nx e2 => whF n t u e2
    | .rt r => .ok (.rt r)
    else .ok (.nx env)
theorem simS_while (n : Nat) (hp : PassesOwn (model X.prog X.w) X.A X.env X.xe) (hc : SimT cl W X G c t) (hb : SimSs cl W X G body u G kr) : SimS cl W X G (.While c body [] pos) (whF n t u) G kr := fun B F0 => PS.weak (ps_while hp hc (hb B F0)) fun Dn σ H ⟨env, So, F, s, bd, q⟩ => by
  refine ⟨fun m σ2 H2 => ∃ env2 So2 F2, Sl X.K cl G env2 σ2 So2 F2 H2 ∧ Bd B F0 So2 F2 H2 ∧ FinS X.K cl W B F0 G kr (whF m t u env2) H2 Dn, ⟨n, env, So, F, s, bd, q⟩, ?_⟩
  rintro m σ2 H2 ⟨env2, So2, F2, s2, b2, q2⟩
  cases m with
  | zero => exact q2.elim
  | succ m =>
    have q2 : FinS X.K cl W B F0 G kr ((t env2).bind fun b => if b = true then (u env2).bind fun o => match o with | .nx e2 => whF m t u e2 | .rt r => .ok (.rt r) else .ok (.nx env2)) H2 Dn := q2
    refine ⟨env2, So2, F2, s2, ?_⟩
    cases ht : t env2 with
    | er c => rw [ht] at q2; exact fun H' e => q2 H' (b2.b.trans e)
    | no => rw [ht] at q2; exact q2
    | ok b =>
      rw [ht] at q2
      simp only [Rz.bind_ok] at q2
      refine fun H3 F3 g3 => ?_
      cases b with
      | false =>
        rw [if_neg Bool.false_ne_true] at q2
        exact L2.iteF (q2 σ2 H3 So2 F3 (s2.grow g3) (b2.grow s2 g3))
      | true =>
        rw [if_pos rfl] at q2
        refine L2.iteT ⟨fun σ4 H4 => ∃ env4 So4 F4, Sl X.K cl G env4 σ4 So4 F4 H4 ∧ Bd B F0 So4 F4 H4 ∧ FinS X.K cl W B F0 G kr (whF m t u env4) H4 Dn, fun σ' H' z => ⟨m, Nat.lt_succ_self m, z⟩, env2, So2, F3, s2.grow g3, b2.grow s2 g3, ?_⟩
        cases hu : u env2 with
        | er c => rw [hu] at q2; exact q2
        | no => rw [hu] at q2; exact q2
        | ok o =>
          rw [hu] at q2
          cases o with
          | rt r => exact q2
          | nx e3 => exact fun σ4 H4 So4 F4 s4 b4 => ⟨e3, So4, F4, s4, b4, q2.ends⟩
/-! ### e alone -/
def exprF (f : En → Rz D) : En → Rz Fl := fun env => (f env).bind fun _ => .ok (.nx env)
theorem simS_expr (h : SimE cl W X G e f m) (hs : swapsWith e none pos.line X.env = pure false := by rfl) : SimS cl W X G (.Expr e pos) (exprF f) G kr := fun B F0 => PS.weak (ps_expr h hs) fun Dn σ H ⟨env, So, F, s, b, q⟩ => ⟨env, So, F, s, by
  unfold exprF at q
  cases hf : f env with
  | er c => rw [hf] at q; exact fun H' e => q H' (b.b.trans e)
  | no => rw [hf] at q; exact q
  | ok d =>
    rw [hf] at q
    exact fun v H' F' g o => q σ H' So F' (s.grow g) (b.grow s g)⟩
/-! ### a, b = e -/
def unpF (f : En → Rz D) (h : D → En → Rz En) : En → Rz Fl := fun env => (f env).bind fun d => (h d env).bn fun e => .ok (.nx e)
theorem simS_unp {tgx : Expr} (he : SimE cl W X G e f (.N k)) (hg : SimG cl X G k tgx h G' ix) (hs : swapsWithSole [tgx] e pos.line X.env = pure false := by rfl) (hw : swappedStores [tgx] e X.env = pure none := by rfl) (h1 : (assignEach [tgx] X.env).map (·.2) = [assign tgx X.env] := by rfl) :
    SimS cl W X G (.Assign [tgx] e pos) (unpF f h) G' kr := fun B F0 => PS.weak (ps_asg he hg hs hw h1) fun Dn σ H ⟨env, So, F, s, b, q⟩ => ⟨env, So, F, s, by
  unfold unpF at q
  cases hf : f env with
  | er c => rw [hf] at q; exact fun H' e => q H' (b.b.trans e)
  | no => rw [hf] at q; exact q
  | ok d =>
    rw [hf] at q
    simp only [Rz.bind_ok] at q
    refine fun v H' F' g ⟨S, o, nd, fr⟩ => ?_
    have s' := s.grow g
    have b' := b.grow s g
    refine ⟨env, So, F', d, S, s', o, nd, fun a ha j hj => ?_, fun a ha => (fr a ha).2, ?_⟩
    · have := s.lv j a hj
      rw [(fr a ha).1] at this; exact this
    · cases hh : h d env with
      | er c => rw [hh] at q; exact q
      | no => rw [hh] at q; exact q
      | ok e1 =>
        rw [hh] at q
        exact fun σ' So' sl' sub _ => q σ' H' So' F' sl' ⟨b'.b, b'.f, b'.n, fun j a ha => by
          rcases sub j a ha with z | z
          · exact b.o j a z
          · exact Evl.fresh_back b.b (fr a z).1⟩⟩
/-! ### name op= e -/
def augF (op : D → D → Rz D) (i : Nat) (f : En → Rz D) : En → Rz Fl := fun env => match env[i]? with
  | some (some x) => (f env).bind fun y => (op x y).bind fun z => .ok (.nx (env.set i (some z)))
  | _ => .no
theorem go_aug {op : Operator} {B F0 : Hp} {i : Nat} {fi : Int → Int → Int} {pI : Int → Int → Rz D} (hpI : ∀ x y, pI x y = .ok (.int (fi x y))) (hG : G[i]? = some (some 0)) : ∀ Dn σ H, tS X.K cl W B F0 G (augF (i2 pI) i f) G kr Dn σ H → tAug i (tE X.K cl W G f .R) (ipI fi) Dn σ H := fun Dn σ H ⟨env, So, F, s, b, q⟩ => by
  unfold augF at q
  cases hd : env[i]? with
  | none => rw [hd] at q; exact q.elim
  | some od =>
    cases od with
    | none => rw [hd] at q; exact q.elim
    | some d =>
      rw [hd] at q
      simp only at q
      obtain ⟨v, h1, h2⟩ := s.sl i 0 d hG hd
      refine ⟨v, h1, env, So, F, s, ?_⟩
      cases hf : f env with
      | er c => rw [hf] at q; exact fun H' e => q H' (b.b.trans e)
      | no => rw [hf] at q; exact q
      | ok y =>
        rw [hf] at q
        simp only [Rz.bind_ok] at q
        refine fun w H' F' g r => ?_
        have r : Rep X.K cl H' w y := r
        have rx := h2.zero_nil.2
        cases rx with
        | int x => cases r with
          | int y =>
            rw [i2_int, hpI] at q
            refine ⟨x, y, rfl, rfl, ?_⟩
            have s' := s.grow g
            have b' := b.grow s g
            have sg := s'.set i (v := .int (fi x y)) (k := 0) (S := []) (.z (.int _)) List.nodup_nil (fun _ z => nomatch z) (fun _ z => nomatch z) (by decide)
            have eG : G.set i (some 0) = G := by
              refine List.ext_getElem? fun j => ?_
              by_cases hj : i = j
              · subst hj
                have hl := (List.getElem?_eq_some_iff.mp hG).1
                rw [List.getElem?_set_self hl, hG]
              · rw [List.getElem?_set_ne hj]
            rw [eG] at sg
            exact q _ H' _ F' sg ⟨b'.b, b'.f, b'.n, fun j a ha => by
              by_cases hj : j = i
              · rw [if_pos hj] at ha; cases ha
              · rw [if_neg hj] at ha; exact b.o j a ha⟩
          | _ => exact q.elim
        | _ => exact q.elim
theorem simS_augA {i : Nat} {x : Str} {pos' : Pos} (hN : X.N.Nodup) (hi : X.N[i]? = some x) (hx : Loc X.env.scope x) (he : SimE cl W X G e f .R) (hf : X.fn x = true ∨ X.env.scope.names.lookup x = some .local) (hG : G[i]? = some (some 0)) : SimS cl W X G (.AugAssign (.Name x pos') .Add e pos) (augF (i2 addI) i f) G kr :=
  fun B F0 => PS.weak (ps_aug hN hi hx he ip_add hf) (go_aug (op := .Add) (fun _ _ => rfl) hG)
theorem simS_augS {i : Nat} {x : Str} {pos' : Pos} (hN : X.N.Nodup) (hi : X.N[i]? = some x) (hx : Loc X.env.scope x) (he : SimE cl W X G e f .R) (hf : X.fn x = true ∨ X.env.scope.names.lookup x = some .local) (hG : G[i]? = some (some 0)) : SimS cl W X G (.AugAssign (.Name x pos') .Sub e pos) (augF (i2 subI) i f) G kr :=
  fun B F0 => PS.weak (ps_aug hN hi hx he ip_sub hf) (go_aug (op := .Sub) (fun _ _ => rfl) hG)
end
end Pv

set_option Elab.async false
set_option linter.all false
set_option maxRecDepth 100000
set_option maxHeartbeats 1000000
/-! Pv, eighth part: what changes. -/
namespace Pv
open PySem L2

section
variable {K : PySem.W.Frag} {cl : Cl} {F F' H H' : Hp}
theorem Own.lst_inv {k : Nat} {v : V} {ds : List D} {S : List Addr} (h : Own K cl F H (k + 1) v (.lst ds) S) : ∃ a vs S0, v = .ref a ∧ S = a :: S0 ∧ H a = some (.lst vs) ∧ Owns K cl F H k vs ds S0 := by
  cases h with
  | im r i => simp [imm] at i
  | lst s r => exact ⟨_, _, _, rfl, rfl, s, r⟩
theorem Owns.length {k : Nat} : ∀ {vs : List V} {ds : List D} {S : List Addr}, Owns K cl F H k vs ds S → vs.length = ds.length
  | _, _, _, .nil => rfl
  | _, _, _, .cons _ t => by simp [Owns.length t]
/-- the j-th item taken out, another one put in -/
theorem Owns.split {k : Nat} : ∀ {vs : List V} {ds : List D} {S : List Addr} {j : Nat} {d : D}, Owns K cl F H k vs ds S → ds[j]? = some d → ∃ v S1 Sj S2, vs[j]? = some v ∧ S = S1 ++ (Sj ++ S2) ∧ Own K cl F H k v d Sj ∧
    ∀ F' H' v' d' Sj', Ex F F' → (∀ b, b ∈ S1 ∨ b ∈ S2 → H' b = H b) → Own K cl F' H' k v' d' Sj' → Owns K cl F' H' k (vs.set j v') (ds.set j d') (S1 ++ (Sj' ++ S2))
  | _, _, _, _, _, .nil, h => by simp at h
  | v :: vs, d0 :: ds, _, 0, d, .cons (S := S) (T := T) a b, h => by
    have e : d0 = d := by simpa using h
    subst e
    exact ⟨v, [], S, T, rfl, rfl, a, fun F' H' v' d' Sj' eF eH o => show Owns K cl F' H' k (v' :: vs) (d' :: ds) (Sj' ++ T) from .cons o (b.mono eF fun c hc => eH c (.inr hc))⟩
  | v :: vs, d0 :: ds, _, j + 1, d, .cons (S := S) (T := T) a b, h => by
    obtain ⟨w, S1, Sj, S2, h1, h2, h3, h4⟩ := Owns.split (j := j) (d := d) b (by simpa using h)
    refine ⟨w, S ++ S1, Sj, S2, by simpa using h1, by rw [h2, List.append_assoc], h3, fun F' H' v' d' Sj' eF eH o => ?_⟩
    rw [List.append_assoc]
    exact .cons (a.mono eF fun c hc => eH c (.inl (List.mem_append_left _ hc))) (h4 F' H' v' d' Sj' eF (fun c hc => eH c (hc.imp (fun z => List.mem_append_right _ z) id)) o)
theorem Owns.snoc_inv {k : Nat} : ∀ {vs : List V} {ds : List D} {S : List Addr} {d : D}, Owns K cl F H k vs (ds ++ [d]) S → ∃ vs0 v S1 S2, vs = vs0 ++ [v] ∧ S = S1 ++ S2 ∧ Owns K cl F H k vs0 ds S1 ∧ Own K cl F H k v d S2
  | _, [], _, d, .cons a b => by
    cases b
    exact ⟨[], _, [], _, rfl, by rw [List.append_nil]; rfl, .nil, a⟩
  | _, d0 :: ds, _, d, .cons (S := S) (T := T) a b => by
    obtain ⟨vs0, v, S1, S2, h1, h2, h3, h4⟩ := Owns.snoc_inv (ds := ds) b
    exact ⟨_ :: vs0, v, S ++ S1, S2, by rw [h1]; rfl, by rw [h2, List.append_assoc], .cons a h3, h4⟩
theorem Owns.take {k : Nat} : ∀ {vs : List V} {ds : List D} {S : List Addr} (n : Nat), Owns K cl F H k vs ds S → ∃ S1 S2, S = S1 ++ S2 ∧ Owns K cl F H k (vs.take n) (ds.take n) S1 ∧ Owns K cl F H k (vs.drop n) (ds.drop n) S2
  | _, _, S, 0, h => ⟨[], S, rfl, .nil, h⟩
  | _, _, _, _ + 1, .nil => ⟨[], [], rfl, .nil, .nil⟩
  | _, _, _, n + 1, .cons (S := S) (T := T) a b => by
    obtain ⟨S1, S2, h1, h2, h3⟩ := Owns.take n b
    exact ⟨S ++ S1, S2, by rw [h1, List.append_assoc], .cons a h2, h3⟩
variable {G : List Md} {env : En} {σ : L2.St} {So : Nat → List Addr} {B F0 : Hp}
/-- an object of the slot i changes -/
theorem Sl.mut {i k : Nat} {v : V} {d' : D} {a : Addr} {ho : HO} {S' T : List Addr} (s : Sl K cl G env σ So F H) (hG : G[i]? = some (some k)) (hv : σ[i]? = some (some v)) (ha : a ∈ So i) (o : Own K cl F (upd H a ho) k v d' S') (nd : S'.Nodup)
    (sub : ∀ b ∈ S', b ∈ So i ∨ b ∈ T) (tf : ∀ b ∈ T, F b = none ∧ ∀ j, b ∉ So j) : Sl K cl G (env.set i (some d')) σ (fun j => if j = i then S' else So j) F (upd H a ho) where
  len := by rw [List.length_set]; exact s.len
  sl := fun j k' d h1 h2 => by
    by_cases hj : j = i
    · subst hj
      have hl : j < env.length := by
        have := (List.getElem?_eq_some_iff.mp h2).1
        rw [List.length_set] at this; exact this
      rw [List.getElem?_set_self hl] at h2
      cases h2
      rw [hG] at h1; cases h1
      rw [if_pos rfl]
      exact ⟨v, hv, o⟩
    · rw [List.getElem?_set_ne (Ne.symm hj)] at h2
      obtain ⟨w, h3, h4⟩ := s.sl j k' d h1 h2
      refine ⟨w, h3, ?_⟩
      rw [if_neg hj]
      exact h4.mono (Evl.Ex.refl _) fun b hb => upd_ne (fun z => s.dj j i b hj hb (by rw [z]; exact ha))
  nd := fun j => by
    by_cases hj : j = i
    · rw [if_pos hj]; exact nd
    · rw [if_neg hj]; exact s.nd j
  dj := fun j l b hne h1 h2 => by
    by_cases hj : j = i
    · rw [if_pos hj] at h1
      have hl : l ≠ i := fun z => hne (hj.trans z.symm)
      rw [if_neg hl] at h2
      rcases sub b h1 with z | z
      · exact s.dj i l b (Ne.symm hl) z h2
      · exact (tf b z).2 l h2
    · rw [if_neg hj] at h1
      by_cases hl : l = i
      · rw [if_pos hl] at h2
        rcases sub b h2 with z | z
        · exact s.dj j i b hj h1 z
        · exact (tf b z).2 j h1
      · rw [if_neg hl] at h2; exact s.dj j l b hne h1 h2
  fr := fun j b h => by
    by_cases hj : j = i
    · rw [if_pos hj] at h
      rcases sub b h with z | z
      · exact s.fr i b z
      · exact (tf b z).1
    · rw [if_neg hj] at h; exact s.fr j b h
  lv := fun j b h => by
    by_cases hj : j = i
    · rw [if_pos hj] at h; exact o.live b h
    · rw [if_neg hj] at h
      rw [upd_ne (fun z => s.dj j i b hj h (by rw [z]; exact ha))]
      exact s.lv j b h
  ex := Evl.Ex.mut s.ex (s.fr i a ha)
  pn := s.pn
theorem Bd.mut {i : Nat} {a : Addr} {ho : HO} {S' T : List Addr} (b : Bd B F0 So F H) (ha : a ∈ So i) (sub : ∀ c ∈ S', c ∈ So i ∨ c ∈ T) (tb : ∀ c ∈ T, B c = none) : Bd B F0 (fun j => if j = i then S' else So j) F (upd H a ho) where
  b := Evl.Ex.mut b.b (b.o i a ha)
  f := b.f
  n := b.n
  o := fun j c h => by
    by_cases hj : j = i
    · rw [if_pos hj] at h
      rcases sub c h with z | z
      · exact b.o i c z
      · exact tb c z
    · rw [if_neg hj] at h; exact b.o j c h
end
section
variable {X : Cx} {cl : Cl} {W : Nat → Hp → Prop} {G G1 G' G'' : List Md} {m : Mo} {pos p apos cpos : Pos} {e a b c o elt tg iter : Expr} {k kr i : Nat} {f g fi : En → Rz D} {t : En → Rz Bool}
/-- x.append(e) -/
def appF (i : Nat) (f : En → Rz D) : En → Rz Fl := fun env => match env[i]? with
  | some (some (.lst ds)) => (f env).bind fun d => if ds.length < lim then .ok (.nx (env.set i (some (.lst (ds ++ [d]))))) else .no
  | _ => .no
theorem simS_append (ho : PE X o (tVar i)) (hG : G[i]? = some (some (k + 1))) (he : SimE cl W X G e f (.N k))
    (hbase : attributeBase o "append" X.env (eval o X.env) = eval o X.env := by rfl)
    (hfew : ((backTo cpos (starEach [e] X.env)).all (fun x => !x.1) && (backToKw cpos (keywordEach [] X.env)).all (fun x => x.1.isSome)
      && decide ([e].length + ([] : List Keyword).length + (if ([] : List Keyword).isEmpty then 0 else 1) < 30)) = true := by rfl)
    (hline : (apos.endLine == cpos.line) = true := by rfl) (hs : starEach [e] X.env = (false, eval e X.env) :: starEach [] X.env := by rfl) (hplain : (backTo cpos (starEach [] X.env)).any (·.1) = false := by rfl)
    (hsw : swapsWith (.Call (.Attribute o "append" apos) [e] [] cpos) none pos.line X.env = pure false := by rfl) :
    SimS cl W X G (.Expr (.Call (.Attribute o "append" apos) [e] [] cpos) pos) (appF i f) G kr := fun B F0 =>
  PS.weak (ps_expr (pe_bm PySem.F.plainAttrs_list PySem.F.slot_list_append PySem.F.type_list_append mt_append ho (pa_cons he pa_nil (hs := hs)) hbase hfew hline hs hplain) hsw) fun Dn σ H ⟨env, So, F, s, bd, q⟩ => by
    unfold appF at q
    split at q
    · rename_i ds hd
      obtain ⟨v, h1, h2⟩ := s.sl i (k + 1) _ hG hd
      obtain ⟨ad, vs, S0, rfl, hS, hh, os⟩ := h2.lst_inv
      refine ⟨.ref ad, h1, .inl ⟨rfl, vs, SqL.of hh⟩, env, So, F, s, ?_⟩
      cases hf : f env with
      | er c => rw [hf] at q; exact fun H' e => q H' (bd.b.trans e)
      | no => rw [hf] at q; exact q
      | ok d =>
        rw [hf] at q
        simp only [Rz.bind_ok] at q
        by_cases hl : ds.length < lim
        · rw [if_pos hl] at q
          refine fun w H1 F1 g1 ⟨T, oT, ndT, frT⟩ => ?_
          have s1 := s.grow g1
          have b1 := bd.grow s g1
          have ha : ad ∈ So i := by rw [hS]; exact List.mem_cons_self
          have nd := s.nd i
          rw [hS] at nd
          obtain ⟨n1, n2⟩ := List.nodup_cons.mp nd
          have lT : ∀ c ∈ T, ∀ j, c ∉ So j := fun c hc j hj => by
            have := s.lv j c hj
            rw [(frT c hc).1] at this; exact this
          have os1 : Owns X.K cl F1 (upd H1 ad (.lst (vs ++ [w]))) k vs ds S0 := (os.mono g1.f fun c hc => mut_keep g1.h (os.live c hc)).mono (Evl.Ex.refl _) fun c hc => upd_ne (fun z => n1 (by rw [← z]; exact hc))
          have oT1 : Owns X.K cl F1 (upd H1 ad (.lst (vs ++ [w]))) k [w] [d] (T ++ []) := .cons (oT.mono (Evl.Ex.refl _) fun c hc => upd_ne (fun z => lT c hc i (by rw [z]; exact ha))) .nil
          rw [List.append_nil] at oT1
          have on : Own X.K cl F1 (upd H1 ad (.lst (vs ++ [w]))) (k + 1) (.ref ad) (.lst (ds ++ [d])) (ad :: (S0 ++ T)) := .lst upd_same (os1.append oT1)
          have ndn : (ad :: (S0 ++ T)).Nodup := List.nodup_cons.mpr ⟨fun z => by
            rcases List.mem_append.mp z with z | z
            · exact n1 z
            · exact lT _ z i ha, List.nodup_append.mpr ⟨n2, ndT, fun x hx y hy e => lT y hy i (by rw [hS, ← e]; exact List.mem_cons_of_mem _ hx)⟩⟩
          have sub : ∀ c ∈ ad :: (S0 ++ T), c ∈ So i ∨ c ∈ T := fun c hc => by
            rcases List.mem_cons.mp hc with rfl | hc
            · exact .inl ha
            · rcases List.mem_append.mp hc with z | z
              · exact .inl (by rw [hS]; exact List.mem_cons_of_mem _ z)
              · exact .inr z
          refine ⟨ad, vs, w, rfl, rfl, g1.h _ _ hh, by rw [os.length]; exact lim_lt hl, ?_⟩
          exact q σ _ _ F1 (s1.mut hG h1 ha on ndn sub fun c hc => ⟨(frT c hc).2, lT c hc⟩) (b1.mut ha sub fun c hc => Evl.fresh_back bd.b (frT c hc).1)
        · rw [if_neg hl] at q; exact q.elim
    · exact q.elim
/-- x[i] = e -/
def stF (i : Nat) (fi f : En → Rz D) : En → Rz Fl := fun env => (f env).bind fun d => match env[i]? with
  | some (some (.lst ds)) => (fi env).bind fun x => match x with
    | .int k => match ixN ds.length k with
      | some j => .ok (.nx (env.set i (some (.lst (ds.set j d)))))
      | none => .no
    | _ => .no
  | _ => .no
theorem ixN_lt {n : Nat} {k : Int} {j : Nat} (h : ixN n k = some j) : j < n := (ixN_seq h).2.1
theorem simS_store {ix : Expr} (ho : PE X o (tVar i)) (hG : G[i]? = some (some (k + 1))) (hi : SimE cl W X G ix fi .R) (he : SimE cl W X G e f (.N k))
    (ha : ∀ v, assign (.Subscript o ix p) X.env v = (do
      let ov ← holding [v] (eval o X.env)
      let iv ← holding [v, ov] (eval ix X.env)
      standAt p
      holding [v, ov, iv] (setItem ov iv v)
      release [v, ov, iv] []) := by intro _; rfl)
    (hs : swapsWithSole [.Subscript o ix p] e pos.line X.env = pure false := by rfl) (hw : swappedStores [.Subscript o ix p] e X.env = pure none := by rfl) (h1 : (assignEach [.Subscript o ix p] X.env).map (·.2) = [assign (.Subscript o ix p) X.env] := by rfl) :
    SimS cl W X G (.Assign [.Subscript o ix p] e pos) (stF i fi f) G kr := fun B F0 => PS.weak (ps_asg he (pg_sub ho hi set_list ha) hs hw h1) fun Dn σ H ⟨env, So, F, s, bd, q⟩ => ⟨env, So, F, s, by
  unfold stF at q
  cases hf : f env with
  | er c => rw [hf] at q; exact fun H' e => q H' (bd.b.trans e)
  | no => rw [hf] at q; exact q
  | ok d =>
    rw [hf] at q
    simp only [Rz.bind_ok] at q
    refine fun w H1 F1 g1 oT0 => ?_
    have s1 := s.grow g1
    have b1 := bd.grow s g1
    split at q
    · rename_i ds hd
      obtain ⟨v, h1, h2⟩ := s1.sl i (k + 1) _ hG hd
      refine ⟨v, h1, env, So, F1, s1, ?_⟩
      cases hx : fi env with
      | er c => rw [hx] at q; exact fun H' e => q H' (b1.b.trans e)
      | no => rw [hx] at q; exact q
      | ok x =>
        rw [hx] at q
        simp only [Rz.bind_ok] at q
        refine fun y H2 F2 g2 ry => ?_
        have ry : Rep X.K cl H2 y x := ry
        obtain ⟨T, oT, ndT, frT⟩ := oT0.fwd g2
        have s2 := s1.grow g2
        have b2 := b1.grow s1 g2
        obtain ⟨v', h1', h2⟩ := s2.sl i (k + 1) _ hG hd
        rw [h1] at h1'; cases h1'
        obtain ⟨ad, vs, S0, rfl, hS, hh, os⟩ := h2.lst_inv
        cases ry with
        | int z =>
          have q : FinS X.K cl W B F0 G kr (match ixN ds.length z with | some j => .ok (.nx (env.set i (some (.lst (ds.set j d))))) | none => .no) H Dn := q
          cases hj : ixN ds.length z with
          | none => rw [hj] at q; exact q.elim
          | some j =>
            rw [hj] at q
            have jl := ixN_lt hj
            have ha : ad ∈ So i := by rw [hS]; exact List.mem_cons_self
            have nd := s2.nd i
            rw [hS] at nd
            obtain ⟨n1, n2⟩ := List.nodup_cons.mp nd
            have lT : ∀ c ∈ T, ∀ j, c ∉ So j := fun c hc j hj => by
              have := s.lv j c hj
              rw [(frT c hc).1] at this; exact this
            obtain ⟨v0, S1, Sj, S2, e1, e2, _, rb⟩ := os.split (List.getElem?_eq_getElem jl)
            have on := rb F2 (upd H2 ad (.lst (vs.set j w))) w d T (Evl.Ex.refl _) (fun c hc => upd_ne (fun z => n1 (by rw [← z, e2]; rcases hc with hc | hc <;> simp [hc]))) (oT.mono (Evl.Ex.refl _) fun c hc => upd_ne (fun z => lT c hc i (by rw [z]; exact ha)))
            have sub : ∀ c ∈ ad :: (S1 ++ (T ++ S2)), c ∈ So i ∨ c ∈ T := fun c hc => by
              rcases List.mem_cons.mp hc with rfl | hc
              · exact .inl ha
              · rcases List.mem_append.mp hc with z | z
                · exact .inl (by rw [hS, e2]; simp [z])
                · rcases List.mem_append.mp z with z | z
                  · exact .inr z
                  · exact .inl (by rw [hS, e2]; simp [z])
            have nd3 : (ad :: (S1 ++ (T ++ S2))).Nodup := by
              rw [e2] at n1 n2
              obtain ⟨a1, a2, a3⟩ := List.nodup_append.mp n2
              obtain ⟨b1, b2, b3⟩ := List.nodup_append.mp a2
              have inS : ∀ c, c ∈ S1 ∨ c ∈ S2 → c ∈ So i := fun c hc => by rw [hS, e2]; rcases hc with hc | hc <;> simp [hc]
              refine List.nodup_cons.mpr ⟨fun z => ?_, List.nodup_append.mpr ⟨a1, List.nodup_append.mpr ⟨ndT, b2, fun x hx y hy e => lT x hx i (by rw [e]; exact inS y (.inr hy))⟩, fun x hx y hy e => ?_⟩⟩
              · rcases List.mem_append.mp z with z | z
                · exact n1 (by simp [z])
                · rcases List.mem_append.mp z with z | z
                  · exact lT _ z i ha
                  · exact n1 (by simp [z])
              · rcases List.mem_append.mp hy with z | z
                · exact lT y z i (by rw [← e]; exact inS x (.inl hx))
                · exact a3 x hx y (by simp [z]) e
            refine ⟨ad, vs, z, j, rfl, rfl, hh, by rw [os.length]; exact hj, ?_⟩
            exact q σ _ _ F2 (s2.mut hG h1 ha (.lst upd_same on) nd3 sub fun c hc => ⟨(frT c hc).2, lT c hc⟩) (b2.mut ha sub fun c hc => Evl.fresh_back bd.b (frT c hc).1)
        | _ => exact q.elim
    · exact q.elim⟩
end
end Pv

set_option Elab.async false
set_option linter.all false
set_option maxRecDepth 100000
set_option maxHeartbeats 1000000
/-! Pv, ninth part: a def by its body; the law. -/
namespace Pv
open PySem PySem.Spec PyProof.Rows L2

def ini (n : Nat) (ds : List D) : En := ds.map some ++ List.replicate (n - ds.length) none
/-- a def that nothing leaves but its answer -/
def fnN (n : Nat) (u : En → Rz Fl) (ds : List D) : Rz D := match u (ini n ds) with
  | .ok (.nx _) => .ok .non
  | .ok (.rt d) => .ok d
  | _ => .no
abbrev W0 : Nat → Hp → Prop := fun _ _ => False
section
variable {P : Program} {w : World} {K : PySem.W.Frag} {mg : Str → Option Value} {base : Heap} {cl : Cl} {c : Nat → Addr}
theorem sl_start {N : List Str} {vs : List V} {ds : List D} {F H : Hp} (ex : Ex F H) (r : Reps K cl F vs ds) : Sl K cl (List.replicate N.length (some 0)) (ini N.length ds) (L2.start N vs) (fun _ => []) F H where
  len := by
    unfold ini L2.start
    rw [List.length_append, List.length_append, List.length_map, List.length_map, List.length_replicate, List.length_replicate, r.length]
    exact Nat.le_refl _
  sl := fun i k d h1 h2 => by
    have hk : k = 0 := by
      rw [List.getElem?_replicate] at h1
      split at h1
      · cases h1; rfl
      · cases h1
    subst hk
    unfold ini at h2
    by_cases hi : i < ds.length
    · rw [List.getElem?_append_left (by simpa using hi), List.getElem?_map] at h2
      cases hd : ds[i]? with
      | none => rw [hd] at h2; cases h2
      | some d' =>
        rw [hd] at h2
        cases h2
        obtain ⟨v, hv, rv⟩ := r.get hd
        refine ⟨v, ?_, .z rv⟩
        unfold L2.start
        rw [List.getElem?_append_left (by rw [List.length_map, r.length]; exact hi), List.getElem?_map, hv]; rfl
    · rw [List.getElem?_append_right (by simpa using hi), List.getElem?_replicate] at h2
      split at h2 <;> cases h2
  nd := fun _ => List.nodup_nil
  dj := fun _ _ _ _ h => nomatch h
  fr := fun _ _ h => nomatch h
  lv := fun _ _ h => nomatch h
  ex := ex
  pn := fun i k h1 h2 => by
    rw [List.getElem?_replicate] at h1
    split at h1
    · cases h1; omega
    · cases h1
theorem bd_start {F H : Hp} : Bd H F (fun _ => []) F H := ⟨Evl.Ex.refl _, Evl.Ex.refl _, fun a h1 h2 => absurd h1 h2, fun _ _ h => nomatch h⟩
theorem fn_ok0 {x qual : Str} {st : Stmt} {f : Addr} {fd : FuncData} {N ps : List Str} {k kr : Nat} {u : En → Rz Fl} {G' : List Md} (Fo : Fun K x qual st f fd) (S : FnScope N ps (defScope st))
    (hb : ∀ (cdv : Value) (A : Around) (outer : List Env) (s : Shared) (H : Hp) (E : XK), Room k (A.deeper (envOfC qual (defScope st) s.heap.objs.size f cdv)) →
      SimSs ⟨c, fun _ => .non⟩ W0 (cxOf CX0 P w K mg base N qual (defScope st) f cdv A outer s H E).nox (List.replicate N.length (some 0)) (defBody st) u G' kr) :
    FnOk P w K mg base CX0 (k + 1) f fd ps (spF K c ps.length (fnN N.length u) kr) :=
  Fo.ok S (fun vs H Q E h => h.1) fun cdv A outer s H vs Q E hr ⟨hl, Fz, ds, ex, r, q⟩ => ⟨_, hb cdv A outer s H E hr H Fz, ini N.length ds, fun _ => [], Fz, sl_start ex r, bd_start, by
    unfold fnN at q
    cases hu : u (ini N.length ds) with
    | er c => rw [hu] at q; exact (show False from q).elim
    | no => rw [hu] at q; exact q
    | ok o =>
      rw [hu] at q
      cases o with
      | nx env' => exact fun σ' H' So' F' s' b' => q .non H' F' ⟨b'.b, b'.f, s'.ex, b'.n⟩ ⟨[], .im .non rfl, List.nodup_nil, fun _ z => nomatch z⟩
      | rt d => exact fun v H' F' S h1 h2 h3 h4 o nd fr => q v H' F' ⟨h1, h2, h3, h4⟩ ⟨S, o, nd, fr⟩⟩
theorem fn_ok {x qual : Str} {st : Stmt} {f : Addr} {fd : FuncData} {k kr : Nat} {u : En → Rz Fl} {G' : List Md} (N ps : List Str) (n pl : Nat) (G0 : List Md) (Fo : Fun K x qual st f fd) (S : FnScope N ps (defScope st))
    (hb : ∀ (cdv : Value) (A : Around) (outer : List Env) (s : Shared) (H : Hp) (E : XK), Room k (A.deeper (envOfC qual (defScope st) s.heap.objs.size f cdv)) →
      SimSs ⟨c, fun _ => .non⟩ W0 (cxOf CX0 P w K mg base N qual (defScope st) f cdv A outer s H E).nox G0 (defBody st) u G' kr) (hn : N.length = n) (hp : ps.length = pl) (hG : G0 = List.replicate n (some 0)) :
    FnOk P w K mg base CX0 (k + 1) f fd ps (spF K c pl (fnN n u) kr) := by
  subst hn hp hG
  exact fn_ok0 Fo S hb
/-- a def of the text: where it stands, what it is worth -/
structure Df (P : Program) (w : World) (K : PySem.W.Frag) (mg : Str → Option Value) (base : Heap) (c : Nat → Addr) (x : Str) (lvl : Nat) (ps : List Str) (n : Nat) (Fn : List D → Rz D) (kr : Nat) (f : Addr) (fd : FuncData) : Prop where
  ok : FnOk P w K mg base CX0 lvl f fd ps (spF K c n Fn kr)
  m : mg x = some (.ref f)
  kp : PySem.W.keepIn K (.ref f) = true
  bi : Binds K fd ps []
/-- no built-in is hidden -/
structure Bl (mg : Str → Option Value) : Prop where
  len : mg "len" = none
  range : mg "range" = none
  min : mg "min" = none
  max : mg "max" = none
  sum : mg "sum" = none
  abs : mg "abs" = none
  int : mg "int" = none
  list : mg "list" = none
  tuple : mg "tuple" = none
  all : mg "all" = none
  enumerate : mg "enumerate" = none
  zip : mg "zip" = none
  sorted : mg "sorted" = none
  isinstance : mg "isinstance" = none
  set : mg "set" = none
  str : mg "str" = none
  bool : mg "bool" = none
/-- the law's promise, from what its def is worth -/
def spLaw (K : PySem.W.Frag) : Sp := fun vs H Q _ => ∃ (a : Addr) (ns : List Int), vs = [.ref a] ∧ SqL K H a (ns.map V.int) ∧ ns.length ≤ 63 ∧ ∀ H', Q (.bl true) H'
theorem law_of {k kr : Nat} {f : Addr} {fd : FuncData} {x : Str} {Fn : List D → Rz D} (F : FnOk P w K mg base CX0 k f fd [x] (spF K c 1 Fn kr)) (h : ∀ ns : List Int, ns.length ≤ 63 → Fn [.fzl (ns.map .int)] = .ok (.bl true)) :
    FnOk P w K mg base CX0 k f fd [x] (spLaw K) := F.imp fun vs H Q E ⟨a, ns, e, hs, hl, q⟩ => ⟨by rw [e]; rfl, H, [.fzl (ns.map .int)], Evl.Ex.refl _, by rw [e]; exact .cons (.fzl hs (Reps.of_ints ns)) .nil, by
    rw [h ns hl]
    refine fun v H2 F2 g ⟨S, o, _⟩ => ?_
    have r := o.rep g.i
    cases r
    exact q H2⟩
end
end Pv

set_option Elab.async false
set_option linter.all false
set_option maxRecDepth 100000
set_option maxHeartbeats 1000000
/-! Pv, tenth part: owned things handed on, isinstance, tuple(..), what changes deeper. -/
namespace Pv
open PySem PySem.Spec PyProof.Rows L2

/-! ### owned things handed on (by return) -/
section
variable (K : PySem.W.Frag) (cl : Cl) (W : Nat → Hp → Prop)
def tM (G : List Md) (mv : List Nat) (f : En → Rz D) (k : Nat) : TE := fun σ H Q => ∃ env So F, Sl K cl G env σ So F H ∧ (match f env with
  | .ok d => ∀ v H' F', Grow F H F' H' → (∃ S, Own K cl F' H' k v d S ∧ S.Nodup ∧ ∀ a ∈ S, F' a = none ∧ (H a = none ∨ ∃ i ∈ mv, a ∈ So i)) → Q v H'
  | .er c => ∀ H', Ex H H' → W c H'
  | .no => False)
def tMs (G : List Md) (mv : List Nat) (f : En → Rz (List D)) (k : Nat) : TA := fun σ H Q => ∃ env So F, Sl K cl G env σ So F H ∧ (match f env with
  | .ok d => ∀ v H' F', Grow F H F' H' → (∃ S, Owns K cl F' H' k v d S ∧ S.Nodup ∧ ∀ a ∈ S, F' a = none ∧ (H a = none ∨ ∃ i ∈ mv, a ∈ So i)) → Q v H'
  | .er c => ∀ H', Ex H H' → W c H'
  | .no => False)
end
abbrev SimM (cl : Cl) (W : Nat → Hp → Prop) (X : Cx) (G : List Md) (mv : List Nat) (e : Expr) (f : En → Rz D) (k : Nat) : Prop := PE X e (tM X.K cl W G mv f k)
abbrev SimMs (cl : Cl) (W : Nat → Hp → Prop) (X : Cx) (G : List Md) (mv : List Nat) (e : List Expr) (f : En → Rz (List D)) (k : Nat) : Prop := PA X e (tMs X.K cl W G mv f k)
section
variable {X : Cx} {cl : Cl} {W : Nat → Hp → Prop} {G G1 G' G'' : List Md} {m : Mo} {pos p apos cpos : Pos} {e a b c o elt tg iter : Expr} {k kr i : Nat} {f g fi : En → Rz D} {t : En → Rz Bool} {mv mw : List Nat} {es : List Expr} {fs : En → Rz (List D)}
theorem simM_E (h : SimE cl W X G e f (.N k)) : SimM cl W X G [] e f k := PE.weak h fun σ H Q ⟨env, So, F, s, q⟩ => ⟨env, So, F, s, by
  cases hf : f env with
  | er c => rw [hf] at q; exact q
  | no => rw [hf] at q; exact q
  | ok d =>
    rw [hf] at q
    exact fun v H' F' g ⟨S, o, nd, fr⟩ => q v H' F' g ⟨S, o, nd, fun a ha => ⟨(fr a ha).2, .inl (fr a ha).1⟩⟩⟩
theorem simM_var (h : PE X e (tVar i)) (hG : G[i]? = some (some k)) : SimM cl W X G [i] e (vF i) k := PE.weak h fun σ H Q ⟨env, So, F, s, q⟩ => by
  unfold vF at q
  cases hd : env[i]? with
  | none => rw [hd] at q; exact q.elim
  | some od =>
    cases od with
    | none => rw [hd] at q; exact q.elim
    | some d =>
      rw [hd] at q
      obtain ⟨v, h1, h2⟩ := s.sl i k d hG hd
      exact ⟨v, h1, q v H F (Grow.refl s.ex) ⟨So i, h2, s.nd i, fun a ha => ⟨s.fr i a ha, .inr ⟨i, by simp, ha⟩⟩⟩⟩
theorem simMs_nil : SimMs cl W X G [] [] nilF k := PA.weak pa_nil fun σ H Q ⟨env, So, F, s, q⟩ => by
  exact q [] H F (Grow.refl s.ex) ⟨[], .nil, List.nodup_nil, fun _ z => nomatch z⟩
theorem simMs_cons (ha : SimM cl W X G mv e f k) (hb : SimMs cl W X G mw es fs k) (dis : ∀ i ∈ mv, i ∉ mw := by decide) (hs : starEach (e :: es) X.env = (false, eval e X.env) :: starEach es X.env := by rfl) : SimMs cl W X G (mv ++ mw) (e :: es) (consF f fs) k :=
  PA.weak (pa_cons ha hb hs) fun σ H Q ⟨env, So, F, s, q⟩ => by
    unfold consF at q
    refine ⟨env, So, F, s, ?_⟩
    cases hf : f env with
    | er c => rw [hf] at q; exact q
    | no => rw [hf] at q; exact q
    | ok x =>
      rw [hf] at q
      simp only [Rz.bind_ok] at q
      refine fun v H1 F1 g1 ⟨S, o, nd, fr⟩ => ⟨env, So, F1, s.grow g1, ?_⟩
      cases hg : fs env with
      | er c => rw [hg] at q; exact fun H' e => q H' (g1.h.trans e)
      | no => rw [hg] at q; exact q
      | ok xs =>
        rw [hg] at q
        simp only [Rz.bind_ok] at q
        refine fun vs H2 F2 g2 ⟨T, o', nd', fr'⟩ => q (v :: vs) H2 F2 (g1.trans g2) ?_
        have lv := o.live
        refine ⟨S ++ T, .cons (o.mono g2.f fun a ha => mut_keep g2.h (lv a ha)) o', List.nodup_append.mpr ⟨nd, nd', fun a ha b hb e => ?_⟩, fun a ha => ?_⟩
        · subst e
          rcases (fr' a hb).2 with z | ⟨j, hj, z⟩
          · have := lv a ha
            rw [z] at this; exact this
          · rcases (fr a ha).2 with y | ⟨l, hl, y⟩
            · have := s.lv j a z
              rw [y] at this; exact this
            · by_cases e : l = j
              · subst e; exact dis l hl hj
              · exact s.dj l j a e y z
        · rcases List.mem_append.mp ha with ha | ha
          · refine ⟨?_, (fr a ha).2.imp id fun ⟨j, hj, z⟩ => ⟨j, List.mem_append_left _ hj, z⟩⟩
            exact still g2 (fr a ha).1 (lv a ha)
          · refine ⟨(fr' a ha).1, ?_⟩
            rcases (fr' a ha).2 with z | ⟨j, hj, z⟩
            · exact .inl (Evl.fresh_back g1.h z)
            · exact .inr ⟨j, List.mem_append_right _ hj, z⟩
theorem simM_tup {j : Nat} (h : SimMs cl W X G mv es fs k) : SimM cl W X G mv (.Tuple es j pos) (aF tupO fs) k :=
  PE.weak (pe_tup h) fun σ H Q ⟨env, So, F, s, q⟩ => ⟨env, So, F, s, by
    unfold aF at q
    cases hf : fs env with
    | er c => rw [hf] at q; exact q
    | no => rw [hf] at q; exact q
    | ok ds =>
      rw [hf] at q
      simp only [Rz.bind_ok] at q
      unfold tupO at q
      by_cases c : ds.length ≤ lim
      · rw [if_pos c] at q
        refine fun vs H1 F1 g1 ⟨S, o, nd, fr⟩ => ⟨by rw [(o.reps g1.i).length]; exact lim_le c, fun p hp => ?_⟩
        have g2 := Grow.newF (o := .tup vs) g1.i hp
        refine q (.ref p) _ _ (g1.trans g2) ⟨S, .tup upd_same (o.mono g2.f fun a ha => upd_keep hp (o.live a ha)), nd, fun a ha => ⟨?_, (fr a ha).2⟩⟩
        exact still g2 (fr a ha).1 (o.live a ha)
      · rw [if_neg c] at q; exact q.elim⟩
theorem simS_retM (h : SimM cl W X G mv e f kr) : SimS cl W X G (.Return (some e) pos) (retF f) G' kr := fun B F0 => PS.weak (ps_ret h) fun Dn σ H ⟨env, So, F, s, b, q⟩ => ⟨env, So, F, s, by
  unfold retF at q
  cases hf : f env with
  | er c => rw [hf] at q; exact fun H' e => q H' (b.b.trans e)
  | no => rw [hf] at q; exact q
  | ok d =>
    rw [hf] at q
    refine fun v H' F' g ⟨S, o, nd, fr⟩ => q v H' F' S (b.b.trans g.h) (b.f.trans g.f) g.i (b.grow s g).n o nd fun a ha => ⟨?_, (fr a ha).1⟩
    rcases (fr a ha).2 with z | ⟨j, _, z⟩
    · exact Evl.fresh_back b.b z
    · exact b.o j a z⟩

/-! ### isinstance -/
def tyOf : D → String
  | .non => "NoneType"
  | .lst _ => "list"
  | .fzl _ => "list"
  | .tup _ => "tuple"
  | .int _ => "int"
  | .bl _ => "bool"
  | .str _ => "str"
  | .dK _ => "dict"
  | .dT _ => "dict"
  | .obj _ _ => "object"
def tySub (t T : String) : Bool := t == T || (t == "bool" && T == "int")
def tyB (T : String) (d : D) : Bool := tySub (tyOf d) T
def isiD (T : String) (d : D) : Rz D := match d with
  | .obj _ _ => .no
  | .fzl _ => .no
  | d => .ok (.bl (tyB T d))
theorem Rep.tyX {K : PySem.W.Frag} {H : Hp} {v : V} {d : D} (r : Rep K cl H v d) : (∃ c ds, d = .obj c ds) ∨ (∃ ds, d = .fzl ds) ∨ ∃ t : String, TyX K H v (.type t) ∧ (∀ T, T ∈ ["list", "tuple", "int", "bool", "str", "dict"] → PySem.W.kitOne K (.type t) (.type T) = some (tyB T d)) := by
  cases r with
  | non => exact .inr (.inr ⟨"NoneType", .base .non, fun T h => by
      simp only [List.mem_cons, List.mem_nil_iff, or_false] at h
      rcases h with rfl | rfl | rfl | rfl | rfl | rfl <;> exact kit_ty (show kitB _ _ = some (tySub "NoneType" _) from by decide +kernel)⟩)
  | bl b => exact .inr (.inr ⟨"bool", .base (.bl b), fun T h => by
      simp only [List.mem_cons, List.mem_nil_iff, or_false] at h
      rcases h with rfl | rfl | rfl | rfl | rfl | rfl <;> exact kit_ty (show kitB _ _ = some (tySub "bool" _) from by decide +kernel)⟩)
  | int i => exact .inr (.inr ⟨"int", .base (.int i), fun T h => by
      simp only [List.mem_cons, List.mem_nil_iff, or_false] at h
      rcases h with rfl | rfl | rfl | rfl | rfl | rfl <;> exact kit_ty (show kitB _ _ = some (tySub "int" _) from by decide +kernel)⟩)
  | str x => exact .inr (.inr ⟨"str", .base (.str x), fun T h => by
      simp only [List.mem_cons, List.mem_nil_iff, or_false] at h
      rcases h with rfl | rfl | rfl | rfl | rfl | rfl <;> exact kit_ty (show kitB _ _ = some (tySub "str" _) from by decide +kernel)⟩)
  | lst s r => exact .inr (.inr ⟨"list", .base (.lst s), fun T h => by
      simp only [List.mem_cons, List.mem_nil_iff, or_false] at h
      rcases h with rfl | rfl | rfl | rfl | rfl | rfl <;> exact kit_ty (show kitB _ _ = some (tySub "list" _) from by decide +kernel)⟩)
  | fzl s r => exact .inr (.inl ⟨_, rfl⟩)
  | tup s r => exact .inr (.inr ⟨"tuple", .base (.tup s), fun T h => by
      simp only [List.mem_cons, List.mem_nil_iff, or_false] at h
      rcases h with rfl | rfl | rfl | rfl | rfl | rfl <;> exact kit_ty (show kitB _ _ = some (tySub "tuple" _) from by decide +kernel)⟩)
  | dK s k r => exact .inr (.inr ⟨"dict", .base (.dK s), fun T h => by
      simp only [List.mem_cons, List.mem_nil_iff, or_false] at h
      rcases h with rfl | rfl | rfl | rfl | rfl | rfl <;> exact kit_ty (show kitB _ _ = some (tySub "dict" _) from by decide +kernel)⟩)
  | dT s k r => exact .inr (.inr ⟨"dict", .base (.dT s), fun T h => by
      simp only [List.mem_cons, List.mem_nil_iff, or_false] at h
      rcases h with rfl | rfl | rfl | rfl | rfl | rfl <;> exact kit_ty (show kitB _ _ = some (tySub "dict" _) from by decide +kernel)⟩)
  | obj s k r => exact .inl ⟨_, _, rfl⟩
theorem sim_isi {T : String} {x : Str} {p2 : Pos} (hT : T ∈ ["list", "tuple", "int", "bool", "str", "dict"]) (hg : Gl X "isinstance") (hm : X.mg "isinstance" = none) (ha : SimE cl W X G a f .R) (hg2 : Gl X x) (hm2 : X.mg x = none) (hv2 : bootBuiltins x = some (.type T)) (hn2 : x ≠ "__name__") (hd2 : (x == ("__debug__" : Str)) = false)
    (hs : starEach [a, .Name x p2] X.env = (false, eval a X.env) :: starEach [.Name x p2] X.env := by rfl) (hs2 : starEach [.Name x p2] X.env = (false, eval (.Name x p2) X.env) :: starEach [] X.env := by rfl) (hpl : (backTo pos (starEach [.Name x p2] X.env)).any (·.1) = false := by rfl) :
    SimE cl W X G (.Call (.Name "isinstance" p) [a, .Name x p2] [] pos) (u1 (isiD T) f) m :=
  PE.weak (pe_callB call_isi hg hm (by decide +kernel) (pa_cons ha (pa_cons (pe_bltn (v := .ty T) hg2 hm2 hv2 rfl hn2 hd2) pa_nil (hs := hs2)) (hs := hs)) (he := hs) (hpl := hpl)) fun σ H Q ⟨env, So, F, s, q⟩ => ⟨env, So, F, s, by
    unfold u1 at q
    cases hf : f env with
    | er c => rw [hf] at q; exact q
    | no => rw [hf] at q; exact q
    | ok d =>
      rw [hf] at q
      simp only [Rz.bind_ok] at q
      refine fun v H1 F1 g1 r => ?_
      have r : Rep X.K cl H1 v d := r
      have q1 := q.go g1
      rcases r.tyX with ⟨c, ds, rfl⟩ | ⟨ds, rfl⟩ | ⟨t, ty, hk⟩
      · exact q1.elim
      · exact q1.elim
      · refine ⟨v, .ty T, .type t, .type T, tyB T d, rfl, .ty T, ty, hk T hT, ?_⟩
        cases d <;> first | exact q1.bl g1.i | exact q1.elim⟩
def isi2D (T U : String) (d : D) : Rz D := match d with
  | .obj _ _ => .no
  | .fzl _ => .no
  | d => .ok (.bl (tyB T d || tyB U d))
theorem sim_isi2 {T U : String} {x y : Str} {p2 p3 p4 : Pos} {j : Nat} (hT : T ∈ ["list", "tuple", "int", "bool", "str", "dict"]) (hU : U ∈ ["list", "tuple", "int", "bool", "str", "dict"]) (hg : Gl X "isinstance") (hm : X.mg "isinstance" = none) (ha : SimE cl W X G a f .R)
    (hx : PE X (.Name x p2) (tC (.ty T))) (hy : PE X (.Name y p3) (tC (.ty U)))
    (hs : starEach [a, .Tuple [.Name x p2, .Name y p3] j p4] X.env = (false, eval a X.env) :: starEach [.Tuple [.Name x p2, .Name y p3] j p4] X.env := by rfl) (hs2 : starEach [.Tuple [.Name x p2, .Name y p3] j p4] X.env = (false, eval (.Tuple [.Name x p2, .Name y p3] j p4) X.env) :: starEach [] X.env := by rfl)
    (hs3 : starEach [.Name x p2, .Name y p3] X.env = (false, eval (.Name x p2) X.env) :: starEach [.Name y p3] X.env := by rfl) (hs4 : starEach [.Name y p3] X.env = (false, eval (.Name y p3) X.env) :: starEach [] X.env := by rfl) (hpl : (backTo pos (starEach [.Tuple [.Name x p2, .Name y p3] j p4] X.env)).any (·.1) = false := by rfl) :
    SimE cl W X G (.Call (.Name "isinstance" p) [a, .Tuple [.Name x p2, .Name y p3] j p4] [] pos) (u1 (isi2D T U) f) m :=
  PE.weak (pe_callB call_isiT hg hm (by decide +kernel) (pa_cons ha (pa_cons (pe_tup (pa_cons hx (pa_cons hy pa_nil (hs := hs4)) (hs := hs3))) pa_nil (hs := hs2)) (hs := hs)) (he := hs) (hpl := hpl)) fun σ H Q ⟨env, So, F, s, q⟩ => ⟨env, So, F, s, by
    unfold u1 at q
    cases hf : f env with
    | er c => rw [hf] at q; exact q
    | no => rw [hf] at q; exact q
    | ok d =>
      rw [hf] at q
      simp only [Rz.bind_ok] at q
      refine fun v H1 F1 g1 r => ?_
      have r : Rep X.K cl H1 v d := r
      refine ⟨by show 2 ≤ sizeLine; decide, fun tp hp => ?_⟩
      have g2 := Grow.newF (o := .tup [.ty T, .ty U]) g1.i hp
      have r2 := r.mono g2.h
      have q1 := q.go (g1.trans g2)
      rcases r2.tyX with ⟨c, ds, rfl⟩ | ⟨ds, rfl⟩ | ⟨t, ty, hk⟩
      · exact q1.elim
      · exact q1.elim
      · refine ⟨v, tp, [.ty T, .ty U], .type t, [.type T, .type U], tyB T d || tyB U d, rfl, upd_same, .cons (.ty T) (.cons (.ty U) .nil), ty, ?_, ?_⟩
        · refine kitAny_cons (hk T hT) (fun e => ?_) (fun e => by rw [e]; rfl)
          rw [e, Bool.false_or]
          exact kitAny_cons (hk U hU) (fun e => by rw [e]; exact kitAny_nil) (fun e => e)
        · cases d <;> first | exact q1.bl g2.i | exact q1.elim⟩
/-! ### tuple(list) -/
def tupL (ds : List D) : Rz D := match ds with
  | [.lst xs] => .ok (.tup xs)
  | _ => .no
theorem sim_tupc {x : Expr} (hg : Gl X "tuple") (hm : X.mg "tuple" = none) (ha : SimA cl W X G [x] fs (.N (k + 1))) (he : starEach [x] X.env = (false, eval x X.env) :: starEach [] X.env := by rfl) (hpl : (backTo pos (starEach [] X.env)).any (·.1) = false := by rfl) :
    SimE cl W X G (.Call (.Name "tuple" p) [x] [] pos) (aF tupL fs) (.N k) :=
  PE.weak (pe_callTy call_tuple_of hg hm (by decide +kernel) ha (he := he) (hpl := hpl)) (goA (R := fun Q xs H => ∃ p ys, xs = [.ref p] ∧ ((SqL X.K H p ys ∧ ∀ l, H l = none → Q (.ref l) (upd H l (.tup ys))) ∨ (SqT X.K H p ys ∧ Q (.ref p) H))) fun F0 H0 F H vs ds Q g ⟨S, o, nd, fr⟩ q => by
    rcases ds with _ | ⟨d, _ | ⟨d2, ds⟩⟩
    · exact q.elim
    · cases d <;> first | exact q.elim | skip
      rename_i xs
      cases o with
      | cons a b =>
        cases b
        obtain ⟨ad, ws, S0, rfl, hS, hh, os⟩ := a.lst_inv
        subst hS
        refine ⟨ad, ws, rfl, .inl ⟨SqL.of hh, fun p hp => ?_⟩⟩
        have g2 := Grow.newF (o := .tup ws) g.i hp
        have nd2 : S0.Nodup := (List.nodup_cons.mp (by simpa using nd)).2
        refine q (.ref p) _ _ (g.trans g2) ⟨S0, .tup upd_same (os.mono g2.f fun c hc => upd_keep hp (os.live c hc)), nd2, fun c hc => ?_⟩
        have := fr c (by simp [hc])
        exact ⟨this.1, still g2 this.2 (os.live c hc)⟩
    · cases d <;> exact q.elim)
end
end Pv

set_option Elab.async false
set_option linter.all false
set_option maxRecDepth 100000
set_option maxHeartbeats 1000000
/-! Pv, eleventh part: what changes one step deeper. -/
namespace Pv
open PySem PySem.Spec PyProof.Rows L2

/-- the items of a list, a tuple -/
def kids : D → Option (List D)
  | .lst ds => some ds
  | .tup ds => some ds
  | _ => none
def wkids : D → List D → D
  | .lst _, ds => .lst ds
  | .tup _, ds => .tup ds
  | d, _ => d
/-- the depth of the items -/
def kdep : D → Nat → Option Nat
  | .lst _, k + 1 => some k
  | .tup _, k => some k
  | _, _ => none
section
variable {K : PySem.W.Frag} {cl : Cl} {F F' H H' : Hp}
theorem set_self {α : Type} {l : List α} {j : Nat} {v : α} (h : l[j]? = some v) : l.set j v = l := by
  refine List.ext_getElem? fun i => ?_
  by_cases hi : j = i
  · subst hi
    rw [List.getElem?_set_self (List.getElem?_eq_some_iff.mp h).1, h]
  · rw [List.getElem?_set_ne hi]
theorem Own.child {k k' j : Nat} {v : V} {d d1 : D} {ds : List D} {S : List Addr} (h : Own K cl F H k v d S) (hk : kids d = some ds) (hd : kdep d k = some k') (hj : ds[j]? = some d1) :
    ∃ a vs v1 S1 S' S2, v = .ref a ∧ (H a = some (.lst vs) ∨ F a = some (.tup vs)) ∧ vs.length = ds.length ∧ vs[j]? = some v1 ∧ S = S1 ++ (S' ++ S2) ∧ Own K cl F H k' v1 d1 S' ∧
      ∀ H' d2 S'', (∀ b, b ∈ S1 ∨ b ∈ S2 → H' b = H b) → Own K cl F H' k' v1 d2 S'' → Own K cl F H' k v (wkids d (ds.set j d2)) (S1 ++ (S'' ++ S2)) := by
  cases d with
  | lst xs =>
    cases hk
    cases k with
    | zero => cases hd
    | succ k =>
      cases hd
      obtain ⟨a, vs, S0, rfl, rfl, hh, os⟩ := h.lst_inv
      obtain ⟨v1, S1, Sj, S2, h1, h2, h3, h4⟩ := os.split hj
      refine ⟨a, vs, v1, a :: S1, Sj, S2, rfl, .inl hh, os.length, h1, by rw [h2]; rfl, h3, fun H' d2 S'' e o => ?_⟩
      have z := h4 F H' v1 d2 S'' (Evl.Ex.refl _) (fun b hb => e b (hb.imp (List.mem_cons_of_mem _) id)) o
      rw [set_self h1] at z
      exact .lst ((e a (.inl List.mem_cons_self)).trans hh) z
  | tup xs =>
    cases hk
    have hd : some k = some k' := by cases k <;> exact hd
    cases hd
    obtain ⟨a, vs, rfl, hh, os⟩ := h.tup_inv
    obtain ⟨v1, S1, Sj, S2, h1, h2, h3, h4⟩ := os.split hj
    refine ⟨a, vs, v1, S1, Sj, S2, rfl, .inr hh, os.length, h1, h2, h3, fun H' d2 S'' e o => ?_⟩
    have z := h4 F H' v1 d2 S'' (Evl.Ex.refl _) e o
    rw [set_self h1] at z
    exact .tup hh z
  | _ => cases hk
end
/-- the j-th of the items -/
def at1 (d : D) (x : D) : Option Nat := match kids d, x with
  | some ds, .int z => ixN ds.length z
  | _, _ => none
def get1 (d : D) (j : Nat) : Option D := (kids d).bind fun ds => ds[j]?
def set1 (d : D) (j : Nat) (d2 : D) : D := wkids d (((kids d).getD []).set j d2)
section
variable {X : Cx} {cl : Cl} {W : Nat → Hp → Prop} {G G1 G' G'' : List Md} {m : Mo} {pos p p1 apos cpos : Pos} {e a b c o ix1 ix2 : Expr} {k k' kr i : Nat} {f g f1 f2 : En → Rz D} {t : En → Rz Bool}
/-- x[i1][i2] = e -/
def st2F (i k k' : Nat) (f1 f2 f : En → Rz D) : En → Rz Fl := fun env => (f env).bind fun d => match env[i]? with
  | some (some c) => (f1 env).bind fun x1 => match at1 c x1 with
    | some j1 => match get1 c j1, kdep c k with
      | some (.lst ds), some k2 => (f2 env).bind fun x2 => match x2 with
        | .int z => match ixN ds.length z with
          | some j2 => if k2 = k' + 1 then .ok (.nx (env.set i (some (set1 c j1 (.lst (ds.set j2 d)))))) else .no
          | none => .no
        | _ => .no
      | _, _ => .no
    | none => .no
  | _ => .no
theorem simS_store2 (ho : PE X o (tVar i)) (hG : G[i]? = some (some k)) (h1 : SimE cl W X G ix1 f1 .R) (h2 : SimE cl W X G ix2 f2 .R) (he : SimE cl W X G e f (.N k')) (hpl : PlainIx ix1 := by intro _ _; rfl)
    (ha : ∀ v, assign (.Subscript (.Subscript o ix1 p1) ix2 p) X.env v = (do
      let ov ← holding [v] (eval (.Subscript o ix1 p1) X.env)
      let iv ← holding [v, ov] (eval ix2 X.env)
      standAt p
      holding [v, ov, iv] (setItem ov iv v)
      release [v, ov, iv] []) := by intro _; rfl)
    (hs : swapsWithSole [.Subscript (.Subscript o ix1 p1) ix2 p] e pos.line X.env = pure false := by rfl) (hw : swappedStores [.Subscript (.Subscript o ix1 p1) ix2 p] e X.env = pure none := by rfl) (h3 : (assignEach [.Subscript (.Subscript o ix1 p1) ix2 p] X.env).map (·.2) = [assign (.Subscript (.Subscript o ix1 p1) ix2 p) X.env] := by rfl) :
    SimS cl W X G (.Assign [.Subscript (.Subscript o ix1 p1) ix2 p] e pos) (st2F i k k' f1 f2 f) G kr := fun B F0 => PS.weak (ps_asg he (pg_sub (pe_ix ix_seq ho h1 hpl) h2 set_list ha) hs hw h3) fun Dn σ H ⟨env, So, F, s, bd, q⟩ => ⟨env, So, F, s, by
  unfold st2F at q
  cases hf : f env with
  | er c => rw [hf] at q; exact fun H' e => q H' (bd.b.trans e)
  | no => rw [hf] at q; exact q
  | ok d =>
    rw [hf] at q
    simp only [Rz.bind_ok] at q
    refine fun w H1 F1 g1 oT0 => ?_
    have s1 := s.grow g1
    have b1 := bd.grow s g1
    cases hd : env[i]? with
    | none => rw [hd] at q; exact q.elim
    | some oc =>
      cases oc with
      | none => rw [hd] at q; exact q.elim
      | some c =>
        rw [hd] at q
        simp only at q
        obtain ⟨v, z1, z2⟩ := s1.sl i k _ hG hd
        refine ⟨v, z1, env, So, F1, s1, ?_⟩
        cases hx1 : f1 env with
        | er c => rw [hx1] at q; exact fun H' e => q H' (b1.b.trans e)
        | no => rw [hx1] at q; exact q
        | ok x1 =>
          rw [hx1] at q
          simp only [Rz.bind_ok] at q
          refine fun y1 H2 F2 g2 ry1 => ?_
          have ry1 : Rep X.K cl H2 y1 x1 := ry1
          have s2 := s1.grow g2
          have b2 := b1.grow s1 g2
          cases hj1 : at1 c x1 with
          | none => rw [hj1] at q; exact q.elim
          | some j1 =>
            rw [hj1] at q
            simp only at q
            cases hg1 : get1 c j1 with
            | none => rw [hg1] at q; exact q.elim
            | some c1 =>
              cases hk2 : kdep c k with
              | none => rw [hg1, hk2] at q; cases c1 <;> exact q.elim
              | some k2 =>
                rw [hg1, hk2] at q
                cases c1 <;> first | exact q.elim | skip
                rename_i ds
                simp only at q
                -- the items
                obtain ⟨kd, hkd⟩ : ∃ kd, kids c = some kd := by
                  unfold at1 at hj1
                  cases hh : kids c with
                  | none => rw [hh] at hj1; cases hj1
                  | some kd => exact ⟨kd, rfl⟩
                have hjd : kd[j1]? = some (.lst ds) := by
                  unfold get1 at hg1
                  rw [hkd] at hg1; exact hg1
                have hix : ∃ z, x1 = .int z ∧ ixN kd.length z = some j1 := by
                  unfold at1 at hj1
                  rw [hkd] at hj1
                  cases x1 <;> first | exact ⟨_, rfl, hj1⟩ | cases hj1
                obtain ⟨z, rfl, hz⟩ := hix
                cases ry1
                obtain ⟨v', z1', z2'⟩ := s2.sl i k _ hG hd
                rw [z1] at z1'; cases z1'
                obtain ⟨ad, vs, v1, S1, Sx, S2, rfl, hread, hlen, hv1, hS, ox, rb⟩ := z2'.child hkd hk2 hjd
                have rdx : rIx X.K (.ref ad) (.int z) H2 (fun x H => tE X.K cl W G f2 .R σ H fun i H2 => rSetL x i w H2 fun H3 => Dn.nx σ H3) := by
                  have hat : L2.atI vs z = some v1 := by
                    unfold L2.atI
                    rw [hlen, hz]; exact hv1
                  have fin : tE X.K cl W G f2 .R σ H2 fun i H2 => rSetL v1 i w H2 fun H3 => Dn.nx σ H3 := by
                    refine ⟨env, So, F2, s2, ?_⟩
                    cases hx2 : f2 env with
                    | er c => rw [hx2] at q; exact fun H' e => q H' (b2.b.trans e)
                    | no => rw [hx2] at q; exact q
                    | ok x2 =>
                      rw [hx2] at q
                      simp only [Rz.bind_ok] at q
                      refine fun y2 H3 F3 g3 ry2 => ?_
                      have ry2 : Rep X.K cl H3 y2 x2 := ry2
                      have s3 := s2.grow g3
                      have b3 := b2.grow s2 g3
                      obtain ⟨T, oT, ndT, frT⟩ := oT0.fwd (g2.trans g3)
                      obtain ⟨v', z1', z3'⟩ := s3.sl i k _ hG hd
                      rw [z1] at z1'; cases z1'
                      obtain ⟨ad', vs', v1', S1, Sx, S2, e0, hread', hlen', hv1', hS, ox, rb⟩ := z3'.child hkd hk2 hjd
                      have ead : ad = ad' := V.ref.inj e0
                      subst ead
                      have evs : v1 = v1' := by
                        have r2 := (z2'.rep s2.ex)
                        have r3 : H3 ad = some (.lst vs') ∨ H3 ad = some (.tup vs') := hread'.imp id (fun z => s3.ex _ _ z)
                        have r4 : H3 ad = some (.lst vs) ∨ H3 ad = some (.tup vs) := hread.imp (fun z => g3.h _ _ z) (fun z => g3.h _ _ (s2.ex _ _ z))
                        have : vs = vs' := by
                          rcases r3 with r3 | r3 <;> rcases r4 with r4 | r4 <;> (rw [r3] at r4; first | (cases r4; rfl) | cases r4)
                        subst this
                        rw [hv1] at hv1'; exact Option.some.inj hv1'
                      subst evs
                      cases ry2 with
                      | int z2 =>
                        simp only at q
                        cases hj2 : ixN ds.length z2 with
                        | none => rw [hj2] at q; exact q.elim
                        | some j2 =>
                          rw [hj2] at q
                          simp only at q
                          by_cases hkk : k2 = k' + 1
                          · rw [if_pos hkk] at q
                            subst hkk
                            obtain ⟨bd2, ws, S0, e1, e2, hb, os⟩ := ox.lst_inv
                            subst e1
                            subst e2
                            have jl := ixN_lt hj2
                            have hab : bd2 ∈ So i := by rw [hS]; simp
                            have nd := s3.nd i
                            rw [hS] at nd
                            have lT : ∀ c ∈ T, ∀ j, c ∉ So j := fun c hc j hj => by
                              have := s.lv j c hj
                              rw [(frT c hc).1] at this; exact this
                            obtain ⟨n1, n2, n3⟩ := List.nodup_append.mp nd
                            obtain ⟨m1, m2, m3⟩ := List.nodup_append.mp n2
                            obtain ⟨l1, l2⟩ := List.nodup_cons.mp m1
                            obtain ⟨v0, T1, Tj, T2, e1, e2, _, rb2⟩ := os.split (List.getElem?_eq_getElem jl)
                            have ne : ∀ c, c ∈ S0 ∨ c ∈ S1 ∨ c ∈ S2 ∨ c ∈ T → c ≠ bd2 := fun c hc z => by
                              subst z
                              rcases hc with hc | hc | hc | hc
                              · exact l1 hc
                              · exact n3 c hc c (by simp) rfl
                              · exact m3 c (by simp) c hc rfl
                              · exact lT c hc i hab
                            have keep : ∀ c, c ∈ S0 ∨ c ∈ S1 ∨ c ∈ S2 ∨ c ∈ T → upd H3 bd2 (.lst (ws.set j2 w)) c = H3 c := fun c hc => upd_ne (ne c hc)
                            have on := rb2 F3 (upd H3 bd2 (.lst (ws.set j2 w))) w d T (Evl.Ex.refl _) (fun c hc => keep c (.inl (by rw [e2]; rcases hc with hc | hc <;> simp [hc]))) (oT.mono (Evl.Ex.refl _) fun c hc => keep c (.inr (.inr (.inr hc))))
                            have big := rb (upd H3 bd2 (.lst (ws.set j2 w))) (.lst (ds.set j2 d)) (bd2 :: (T1 ++ (T ++ T2))) (fun c hc => keep c (.inr (hc.imp id fun z => .inl z))) (.lst upd_same on)
                            have eset : wkids c (kd.set j1 (.lst (ds.set j2 d))) = set1 c j1 (.lst (ds.set j2 d)) := by unfold set1; rw [hkd]; rfl
                            rw [eset] at big
                            have sub : ∀ c ∈ S1 ++ (bd2 :: (T1 ++ (T ++ T2)) ++ S2), c ∈ So i ∨ c ∈ T := fun c hc => by
                              rw [hS, e2]
                              simp only [List.mem_append, List.mem_cons] at hc ⊢
                              rcases hc with hc | (hc | hc | hc | hc) | hc <;> simp [hc]
                            have inS : ∀ c, c ∈ S0 → c ∈ So i := fun c hc => by rw [hS]; simp [hc]
                            have ndn : (S1 ++ (bd2 :: (T1 ++ (T ++ T2)) ++ S2)).Nodup := by
                              rw [e2] at l1 l2
                              obtain ⟨a1, a2, a3⟩ := List.nodup_append.mp l2
                              obtain ⟨c1, c2, c3⟩ := List.nodup_append.mp a2
                              have oT1 : ∀ x, x ∈ T1 ∨ x ∈ T2 → x ∈ S0 := fun x hx => by rw [e2]; rcases hx with hx | hx <;> simp [hx]
                              have nin : (bd2 :: (T1 ++ (T ++ T2))).Nodup := by
                                refine List.nodup_cons.mpr ⟨fun z => ?_, List.nodup_append.mpr ⟨a1, List.nodup_append.mpr ⟨ndT, c2, fun x hx y hy e => lT x hx i (by rw [e]; exact inS y (oT1 y (.inr hy)))⟩, fun x hx y hy e => ?_⟩⟩
                                · simp only [List.mem_append] at z
                                  rcases z with z | z | z
                                  · exact l1 (by simp [z])
                                  · exact lT _ z i hab
                                  · exact l1 (by simp [z])
                                · rcases List.mem_append.mp hy with z | z
                                  · exact lT y z i (by rw [← e]; exact inS x (oT1 x (.inl hx)))
                                  · exact a3 x hx y (by simp [z]) e
                              have memS : ∀ x, x ∈ bd2 :: (T1 ++ (T ++ T2)) → x ∈ bd2 :: S0 ∨ x ∈ T := fun x hx => by
                                simp only [List.mem_cons, List.mem_append] at hx
                                rcases hx with hx | hx | hx | hx
                                · exact .inl (by simp [hx])
                                · exact .inl (List.mem_cons_of_mem _ (oT1 x (.inl hx)))
                                · exact .inr hx
                                · exact .inl (List.mem_cons_of_mem _ (oT1 x (.inr hx)))
                              refine List.nodup_append.mpr ⟨n1, List.nodup_append.mpr ⟨nin, m2, fun x hx y hy e => ?_⟩, fun x hx y hy e => ?_⟩
                              · rcases memS x hx with z | z
                                · exact m3 x z y hy e
                                · exact lT x z i (by rw [hS, e]; simp [hy])
                              · rcases List.mem_append.mp hy with z | z
                                · rcases memS y z with z | z
                                  · exact n3 x hx y (List.mem_append_left _ z) e
                                  · exact lT y z i (by rw [hS, ← e]; simp [hx])
                                · exact n3 x hx y (List.mem_append_right _ z) e
                            refine ⟨bd2, ws, z2, j2, rfl, rfl, hb, by rw [os.length]; exact hj2, ?_⟩
                            exact q σ _ _ F3 (s3.mut hG z1 hab big ndn sub fun c hc => ⟨(frT c hc).2, lT c hc⟩) (b3.mut hab sub fun c hc => Evl.fresh_back bd.b (frT c hc).1)
                          · rw [if_neg hkk] at q; exact q.elim
                      | _ => exact q.elim
                  rcases hread with hr | hr
                  · exact .inl ⟨ad, vs, z, v1, rfl, rfl, SqL.of hr, hat, fin⟩
                  · exact .inr (.inl ⟨ad, vs, z, v1, rfl, rfl, SqT.of (s2.ex _ _ hr), hat, fin⟩)
                exact rdx⟩
end
end Pv

set_option Elab.async false
set_option linter.all false
set_option maxRecDepth 100000
set_option maxHeartbeats 1000000
/-! Pv, twelfth part: more statements. -/
namespace Pv
open PySem PySem.Spec PyProof.Rows L2

/-- the most turns of a while -/
@[irreducible] def fuel : Nat := 1000000000
section
variable {X : Cx} {cl : Cl} {W : Nat → Hp → Prop} {G G1 G' G'' : List Md} {m : Mo} {pos p p1 apos cpos spos : Pos} {e a b c o elt tg iter : Expr} {k k' kr i : Nat} {f g f1 f2 fi : En → Rz D} {t : En → Rz Bool} {st : Stmt} {it : En → Rz (List D)} {h : D → En → Rz En} {ifs : List Expr} {fs : En → Rz (List D)}
/-- what is never come to -/
def noF : En → Rz Fl := fun _ => .no
theorem simS_never : SimS cl W X G st noF G' kr := fun B F0 => PS.weak ps_never fun Dn σ H ⟨env, So, F, s, b, q⟩ => q
theorem simS_setLc {scope : Scope} {own : List (Str × Nat)} {ix : List Nat} {y : Str} {py : Pos} (hc : X.calm = true) (hN : X.N.Nodup) (hy : X.N[i]? = some y) (hyl : X.env.scope.names.lookup y = some .local)
    (hsw : swapsWith (.ListComp elt [⟨tg, iter, ifs, 0⟩] scope pos) (some (.Name y py)) spos.line X.env = pure true) (hi : SimIR cl W X G tg iter it) (ok : BlkOk X.N X.env.scope scope own)
    (hg : ∀ (s : Shared) (H : Hp) (C : Addr) (c : List (Str × Addr)) (fp : List Addr), SimG cl (X.blk s H scope (compEnvC scope c C X.env) fp) G 0 tg h G' ix)
    (ht : ∀ (s : Shared) (H : Hp) (C : Addr) (c : List (Str × Addr)) (fp : List Addr), PTs (X.blk s H scope (compEnvC scope c C X.env) fp) ifs (tT X.K cl (fun _ _ => False) G' t))
    (he : ∀ (s : Shared) (H : Hp) (C : Addr) (c : List (Str × Addr)) (fp : List Addr), SimE cl (fun _ _ => False) (X.blk s H scope (compEnvC scope c C X.env) fp) G' elt f (.N k))
    (hix : ∀ i ∈ ix, i ∈ own.map (·.2) := by decide) (hs : ∀ x, foldedSetIterable iter X.env x = pure x := by intro _; rfl) (hcl : clear G (own.map (·.2)) = true := by rfl) (hk : k + 1 < 100 := by decide) :
    SimS cl W X G (.Assign [.Name y py] (.ListComp elt [⟨tg, iter, ifs, 0⟩] scope pos) spos) (setF i (compF it (own.map (·.2)) h t f)) (G.set i (some (k + 1))) kr := fun B F0 =>
  PS.weak (ps_setLc hc hN hy hyl hsw hi ok hg ht he hs) fun Dn σ H q => go_lc hix hcl σ H _ (go_set hk Dn σ H q)
theorem simSs_G {sts : List Stmt} {u : En → Rz Fl} {G2 : List Md} (h : SimSs cl W X G2 sts u G' kr) (e : G = G2 := by rfl) : SimSs cl W X G sts u G' kr := e ▸ h
theorem aE_tup {es r : List Expr} {j : Nat} {env : PySem.Env} : assignEach (.Tuple es j p :: r) env = (false, assign (.Tuple es j p) env) :: assignEach r env := by rfl
theorem simGs_consT {es r : List Expr} {j : Nat} {ix iy : List Nat} {hs : List D → En → Rz En} (h1 : SimG cl X G k (.Tuple es j p) h G' ix) (h2 : SimGs cl X G' k r hs G'' iy) : SimGs cl X G k (.Tuple es j p :: r) (gTc h hs) G'' (ix ++ iy) :=
  simGs_cons h1 h2 (by rw [aE_tup, List.map_cons])
theorem simG_tupT {j j2 : Nat} {x : Expr} {es : List Expr} {hs : List D → En → Rz En} {ix : List Nat} (hc : X.calm = true) (h : SimGs cl X G k [x, .Tuple es j p1] hs G' ix) (h1 : assignEach [x, .Tuple es j p1] X.env = (false, assign x X.env) :: assignEach [.Tuple es j p1] X.env := by rfl) :
    SimG cl X G k (.Tuple [x, .Tuple es j p1] j2 pos) (gTu 2 hs) G' ix := simG_tup hc h (by rw [h1, aE_tup]; rfl) (by rw [h1, aE_tup]; rfl)
theorem simG_tupT0 {j j2 : Nat} {x : Expr} {es : List Expr} {hs : List D → En → Rz En} {ix : List Nat} (hc : X.calm = true) (h : SimGs cl X G k [.Tuple es j p1, x] hs G' ix) (h1 : assignEach [x] X.env = [(false, assign x X.env)] := by rfl) :
    SimG cl X G k (.Tuple [.Tuple es j p1, x] j2 pos) (gTu 2 hs) G' ix := simG_tup hc h (by rw [aE_tup, h1]; rfl) (by rw [aE_tup, h1]; rfl)
end
end Pv

set_option Elab.async false
set_option linter.all false
set_option maxRecDepth 100000
set_option maxHeartbeats 1000000
/-! Pv: a place within an owned value, and what changes there. -/
namespace Pv
open PySem PySem.Spec PyProof.Rows L2

/-- what lies at the end of a path -/
def getP : D → List Nat → Option D
  | d, [] => some d
  | d, j :: p => match kids d with
    | some ds => match ds[j]? with
      | some d1 => getP d1 p
      | none => none
    | none => none
def setP : D → List Nat → D → D
  | _, [], x => x
  | d, j :: p, x => match kids d with
    | some ds => match ds[j]? with
      | some d1 => wkids d (ds.set j (setP d1 p x))
      | none => d
    | none => d
def depP : D → Nat → List Nat → Option Nat
  | _, k, [] => some k
  | d, k, j :: p => match kids d, kdep d k with
    | some ds, some k1 => match ds[j]? with
      | some d1 => depP d1 k1 p
      | none => none
    | _, _ => none
/-- the way to it in a heap -/
def NavP (H : Hp) : V → List Nat → V → Prop
  | v, [], w => v = w
  | v, j :: p, w => ∃ a vs v1, v = .ref a ∧ (H a = some (.lst vs) ∨ H a = some (.tup vs)) ∧ vs[j]? = some v1 ∧ NavP H v1 p w
theorem NavP.mono {H H' : Hp} (e : Ex H H') : ∀ {p : List Nat} {v w : V}, NavP H v p w → NavP H' v p w
  | [], _, _, h => h
  | _ :: _, _, _, ⟨a, vs, v1, h1, h2, h3, h4⟩ => ⟨a, vs, v1, h1, h2.imp (e _ _) (e _ _), h3, NavP.mono e h4⟩
theorem NavP.uni {H : Hp} : ∀ {p : List Nat} {v w w' : V}, NavP H v p w → NavP H v p w' → w = w'
  | [], _, _, _, h, h' => h.symm.trans h'
  | _ :: _, _, _, _, ⟨a, vs, v1, h1, h2, h3, h4⟩, ⟨a', vs', v1', h1', h2', h3', h4'⟩ => by
    have ea := V.ref.inj (h1.symm.trans h1')
    subst ea
    have : vs = vs' := by
      rcases h2 with r3 | r3 <;> rcases h2' with r4 | r4 <;> (rw [r3] at r4; first | (cases r4; rfl) | cases r4)
    subst this
    rw [h3] at h3'; cases h3'
    exact NavP.uni h4 h4'
section
variable {K : PySem.W.Frag} {cl : Cl} {F F' H H' B F0 : Hp} {G : List Md} {env : En} {σ : L2.St} {So : Nat → List Addr}
theorem Own.hole (ex : Ex F H) : ∀ {p : List Nat} {k k1 : Nat} {v : V} {d d1 : D} {S : List Addr}, Own K cl F H k v d S → getP d p = some d1 → depP d k p = some k1 →
    ∃ v1 S1 S' S2, NavP H v p v1 ∧ S = S1 ++ (S' ++ S2) ∧ Own K cl F H k1 v1 d1 S' ∧ ∀ H' d2 S'', (∀ b, b ∈ S1 ∨ b ∈ S2 → H' b = H b) → Own K cl F H' k1 v1 d2 S'' → Own K cl F H' k v (setP d p d2) (S1 ++ (S'' ++ S2))
  | [], k, k1, v, d, d1, S, o, hg, hd => by
    cases hg; cases hd
    exact ⟨v, [], S, [], rfl, by simp, o, fun H' d2 S'' _ o2 => by simpa [setP] using o2⟩
  | j :: p, k, k1, v, d, d1, S, o, hg, hd => by
    unfold getP at hg
    unfold depP at hd
    cases hk : kids d with
    | none => rw [hk] at hg; cases hg
    | some ds =>
      rw [hk] at hg hd
      simp only at hg
      cases hj : ds[j]? with
      | none => rw [hj] at hg; cases hg
      | some dj =>
        rw [hj] at hg
        simp only at hg
        cases hdk : kdep d k with
        | none => rw [hdk] at hd; cases hd
        | some kj =>
          rw [hdk] at hd
          simp only [hj] at hd
          obtain ⟨a, vs, vj, S1, Sx, S2, rfl, hread, hlen, hv1, hS, ox, rb⟩ := o.child hk hdk hj
          obtain ⟨v1, T1, T', T2, hn, hT, o1, rb2⟩ := Own.hole ex ox hg hd
          refine ⟨v1, S1 ++ T1, T', T2 ++ S2, ⟨a, vs, vj, rfl, hread.imp id (ex _ _), hv1, hn⟩, by rw [hS, hT]; simp [List.append_assoc], o1, fun H' d2 S'' hb o2 => ?_⟩
          have z := rb2 H' d2 S'' (fun b hb2 => hb b (hb2.imp (fun z => List.mem_append_right _ z) fun z => List.mem_append_left _ z)) o2
          have z2 := rb H' (setP dj p d2) (T1 ++ (S'' ++ T2)) (fun b hb2 => hb b (hb2.imp (fun z => List.mem_append_left _ z) fun z => List.mem_append_right _ z)) z
          unfold setP
          rw [hk]
          simp only [hj]
          simpa [List.append_assoc] using z2
/-- the list at a place of the slot i changes -/
theorem Sl.place {i k k1 : Nat} {v : V} {d : D} {ds : List D} {p : List Nat} (s : Sl K cl G env σ So F H) (b : Bd B F0 So F H) (hG : G[i]? = some (some k)) (hd : env[i]? = some (some d)) (hv : σ[i]? = some (some v)) (hg : getP d p = some (.lst ds)) (hk : depP d k p = some (k1 + 1)) :
    ∃ ad vs S0, NavP H v p (.ref ad) ∧ H ad = some (.lst vs) ∧ Owns K cl F H k1 vs ds S0 ∧ (ad :: S0).Nodup ∧ (∀ c ∈ ad :: S0, c ∈ So i) ∧
      ∀ (vs' : List V) (ds' : List D) (S' T : List Addr), Owns K cl F H k1 vs' ds' S' → S'.Nodup → (∀ c ∈ S', c ∈ S0 ∨ c ∈ T) → (∀ c ∈ T, F c = none ∧ B c = none ∧ ∀ j, c ∉ So j) →
        ∃ So', Sl K cl G (env.set i (some (setP d p (.lst ds')))) σ So' F (upd H ad (.lst vs')) ∧ Bd B F0 So' F (upd H ad (.lst vs')) ∧ ∀ j c, c ∈ So' j → (j ≠ i ∧ c ∈ So j) ∨ (c ∈ So i ∧ c ∉ S0) ∨ c ∈ S' := by
  obtain ⟨v', hv', o⟩ := s.sl i k d hG hd
  rw [hv] at hv'; cases hv'
  obtain ⟨v1, S1, Sx, S2, hn, hS, o1, rb⟩ := Own.hole s.ex o hg hk
  obtain ⟨ad, vs, S0, rfl, rfl, hh, os⟩ := o1.lst_inv
  have nd := s.nd i
  rw [hS] at nd
  obtain ⟨n1, n2, n3⟩ := List.nodup_append.mp nd
  obtain ⟨m1, m2, m3⟩ := List.nodup_append.mp n2
  obtain ⟨l1, l2⟩ := List.nodup_cons.mp m1
  have hin : ∀ c ∈ ad :: S0, c ∈ So i := fun c hc => by
    rw [hS]; exact List.mem_append_right _ (List.mem_append_left _ hc)
  have ha : ad ∈ So i := hin ad List.mem_cons_self
  refine ⟨ad, vs, S0, hn, hh, os, m1, hin, fun vs' ds' S' T os' nS' sub tf => ?_⟩
  have nad : ad ∉ S' := fun z => by
    rcases sub ad z with z | z
    · exact l1 z
    · exact (tf ad z).2.2 i ha
  have big := rb (upd H ad (.lst vs')) (.lst ds') (ad :: S') (fun c hc => upd_ne fun z => by
    subst z
    rcases hc with hc | hc
    · exact n3 c hc c (by simp) rfl
    · exact m3 c (by simp) c hc rfl) (.lst upd_same (os'.mono (Evl.Ex.refl _) fun c hc => upd_ne fun z => nad (z ▸ hc)))
  have cls : ∀ c, c ∈ ad :: S' → c ∈ ad :: S0 ∨ c ∈ T := fun c hc => by
    rcases List.mem_cons.mp hc with rfl | hc
    · exact .inl List.mem_cons_self
    · exact (sub c hc).imp (List.mem_cons_of_mem _) id
  have sub2 : ∀ c ∈ S1 ++ (ad :: S' ++ S2), c ∈ So i ∨ c ∈ T := fun c hc => by
    rcases List.mem_append.mp hc with hc | hc
    · exact .inl (by rw [hS]; exact List.mem_append_left _ hc)
    · rcases List.mem_append.mp hc with hc | hc
      · exact (cls c hc).imp (hin c) id
      · exact .inl (by rw [hS]; exact List.mem_append_right _ (List.mem_append_right _ hc))
  have ndn : (S1 ++ (ad :: S' ++ S2)).Nodup := by
    refine List.nodup_append.mpr ⟨n1, List.nodup_append.mpr ⟨List.nodup_cons.mpr ⟨nad, nS'⟩, m2, fun x hx y hy e => ?_⟩, fun x hx y hy e => ?_⟩
    · rcases cls x hx with z | z
      · exact m3 x z y hy e
      · exact (tf x z).2.2 i (by rw [hS, e]; simp [hy])
    · rcases List.mem_append.mp hy with z | z
      · rcases cls y z with z | z
        · exact n3 x hx y (List.mem_append_left _ z) e
        · exact (tf y z).2.2 i (by rw [hS, ← e]; simp [hx])
      · exact n3 x hx y (List.mem_append_right _ z) e
  refine ⟨_, s.mut hG hv ha big ndn sub2 fun c hc => ⟨(tf c hc).1, (tf c hc).2.2⟩, b.mut ha sub2 fun c hc => (tf c hc).2.1, fun j c hc => ?_⟩
  by_cases hj : j = i
  · simp only [hj, if_true] at hc
    subst hj
    rcases List.mem_append.mp hc with hc | hc
    · exact .inr (.inl ⟨by rw [hS]; exact List.mem_append_left _ hc, fun z => n3 c hc c (by simp [z]) rfl⟩)
    · rcases List.mem_append.mp hc with hc | hc
      · rcases List.mem_cons.mp hc with rfl | hc
        · exact .inr (.inl ⟨ha, l1⟩)
        · exact .inr (.inr hc)
      · exact .inr (.inl ⟨by rw [hS]; exact List.mem_append_right _ (List.mem_append_right _ hc), fun z => m3 c (by simp [z]) c hc rfl⟩)
  · simp only [hj, if_false] at hc
    exact .inl ⟨hj, hc⟩
end
section
variable {X : Cx} {cl : Cl} {W : Nat → Hp → Prop} {G G1 G' G'' : List Md} {m : Mo} {pos p p1 apos cpos spos : Pos} {e a b c o ix1 : Expr} {es : List Expr} {k k1 kr i : Nat} {f g f1 f2 fi : En → Rz D} {fs : En → Rz (List D)} {pF : En → Rz (List Nat)} {r : V → List V → Hp → VK → Prop} {op : List D → List D → Option (D × List D)} {T id : String} {name : Str}
/-- an expression that is a place of the slot i -/
def tP (K : PySem.W.Frag) (cl : Cl) (W : Nat → Hp → Prop) (G : List Md) (i : Nat) (pF : En → Rz (List Nat)) : TE := fun σ H Q => ∃ env So F, Sl K cl G env σ So F H ∧ (match pF env with
  | .ok p => ∃ d d1 v, env[i]? = some (some d) ∧ σ[i]? = some (some v) ∧ getP d p = some d1 ∧ ∀ H1 F1 v1, Grow F H F1 H1 → NavP H1 v p v1 → Q v1 H1
  | .er c => ∀ H', Ex H H' → W c H'
  | .no => False)
abbrev SimP (cl : Cl) (W : Nat → Hp → Prop) (X : Cx) (G : List Md) (e : Expr) (i : Nat) (pF : En → Rz (List Nat)) : Prop := PE X e (tP X.K cl W G i pF)
/-- a method of a list, by values -/
def MOp (K : PySem.W.Frag) (cl : Cl) (r : V → List V → Hp → VK → Prop) (op : List D → List D → Option (D × List D)) (k : Nat) : Prop :=
  ∀ F H ad vs ds S0 us es T rd ds', Ex F H → H ad = some (.lst vs) → Owns K cl F H k vs ds S0 → Owns K cl F H k us es T → (S0 ++ T).Nodup → op ds es = some (rd, ds') →
    ∃ vs' rv S' Sr, Owns K cl F H k vs' ds' S' ∧ Own K cl F H k rv rd Sr ∧ (S' ++ Sr).Nodup ∧ (∀ c ∈ S' ++ Sr, c ∈ S0 ++ T) ∧ ∀ Q : VK, Q rv (upd H ad (.lst vs')) → r (.ref ad) us H Q
def mV (i k k1 : Nat) (pF : En → Rz (List Nat)) (op : List D → List D → Option (D × List D)) (fs : En → Rz (List D)) : En → Rz (En × D) := fun env => (pF env).bind fun p => match env[i]? with
  | some (some d) => if depP d k p = some (k1 + 1) then match getP d p with
    | some (.lst ds) => (fs env).bind fun es => match op ds es with
      | some r => .ok (env.set i (some (setP d p (.lst r.2))), r.1)
      | none => .no
    | _ => .no
    else .no
  | _ => .no
theorem go_meth {B F0 : Hp} {σ : L2.St} {H : Hp} {Q : VK} (M : MOp X.K cl r op k1) (hG : G[i]? = some (some k)) (h : ∃ env So F, Sl X.K cl G env σ So F H ∧ Bd B F0 So F H ∧ (match mV i k k1 pF op fs env with
    | .ok (env', rd) => ∀ F2 H2 So' rv Sr, Sl X.K cl G env' σ So' F2 H2 → Bd B F0 So' F2 H2 → Own X.K cl F2 H2 k1 rv rd Sr → Sr.Nodup → (∀ c ∈ Sr, F2 c = none ∧ B c = none ∧ ∀ l, c ∉ So' l) → Q rv H2
    | .er c => ∀ H', Ex B H' → W c H'
    | .no => False)) : tBM X.K "list" r (tP X.K cl W G i pF) (tA X.K cl W G fs (.N k1)) σ H Q := by
  obtain ⟨env, So, F, s, bd, q⟩ := h
  unfold mV at q
  refine ⟨env, So, F, s, ?_⟩
  cases hp : pF env with
  | er c => rw [hp] at q; exact fun H' e => q H' (bd.b.trans e)
  | no => rw [hp] at q; exact q
  | ok p =>
    rw [hp] at q
    simp only [Rz.bind_ok] at q
    cases hd : env[i]? with
    | none => rw [hd] at q; exact q.elim
    | some od =>
      cases od with
      | none => rw [hd] at q; exact q.elim
      | some d =>
        rw [hd] at q
        simp only at q
        by_cases hk : depP d k p = some (k1 + 1)
        · rw [if_pos hk] at q
          cases hg : getP d p with
          | none => rw [hg] at q; exact q.elim
          | some dl =>
            rw [hg] at q
            cases dl <;> first | exact q.elim | skip
            rename_i ds
            simp only at q
            obtain ⟨v, hv, _⟩ := s.sl i k d hG hd
            refine ⟨d, _, v, rfl, hv, hg, fun H1 F1 v1 g1 n1 => ?_⟩
            have s1 := s.grow g1
            have b1 := bd.grow s g1
            obtain ⟨ad, vs, S0, n1', hh, _⟩ := s1.place b1 hG hd hv hg hk
            cases n1.uni n1'
            refine ⟨.inl ⟨rfl, vs, SqL.of hh⟩, env, So, F1, s1, ?_⟩
            cases hf : fs env with
            | er c => rw [hf] at q; exact fun H' e => q H' (b1.b.trans e)
            | no => rw [hf] at q; exact q
            | ok es =>
              rw [hf] at q
              simp only [Rz.bind_ok] at q
              refine fun us H2 F2 g2 ⟨T, oT, ndT, frT⟩ => ?_
              have s2 := s1.grow g2
              have b2 := b1.grow s1 g2
              obtain ⟨ad2, vs2, S2, n2, hh2, os, nd0, hin, up⟩ := s2.place b2 hG hd hv hg hk
              cases (n1.mono g2.h).uni n2
              have lT : ∀ c ∈ T, ∀ j, c ∉ So j := fun c hc j hj => by
                have := s1.lv j c hj
                rw [(frT c hc).1] at this; exact this
              have bT : ∀ c ∈ T, B c = none := fun c hc => Evl.fresh_back b1.b (frT c hc).1
              cases ho : op ds es with
              | none => rw [ho] at q; exact q.elim
              | some rr =>
                rw [ho] at q
                obtain ⟨rd, ds'⟩ := rr
                simp only at q
                obtain ⟨m0, nd00⟩ := List.nodup_cons.mp nd0
                obtain ⟨vs', rv, S', Sr, o1, o2, nd, sub, hq⟩ := M F2 H2 ad vs2 ds S2 us es T rd ds' s2.ex hh2 os oT (List.nodup_append.mpr ⟨nd00, ndT, fun x hx y hy e => lT y hy i (by rw [← e]; exact hin x (List.mem_cons_of_mem _ hx))⟩) ho
                obtain ⟨nS', nSr, dSr⟩ := List.nodup_append.mp nd
                obtain ⟨So', s3, b3, cl3⟩ := up vs' ds' S' T o1 nS' (fun c hc => List.mem_append.mp (sub c (List.mem_append_left _ hc))) fun c hc => ⟨(frT c hc).2, bT c hc, lT c hc⟩
                have hr : ∀ c ∈ Sr, (c ∈ S2 ∨ c ∈ T) ∧ c ≠ ad := fun c hc => by
                  have z := List.mem_append.mp (sub c (List.mem_append_right _ hc))
                  refine ⟨z, fun e => ?_⟩
                  subst e
                  rcases z with z | z
                  · exact m0 z
                  · exact lT c z i (hin c List.mem_cons_self)
                refine hq _ (q F2 _ So' rv Sr s3 b3 (o2.mono (Evl.Ex.refl _) fun c hc => upd_ne (hr c hc).2) nSr fun c hc => ⟨?_, ?_, fun l hl => ?_⟩)
                · rcases (hr c hc).1 with z | z
                  · exact s2.fr i c (hin c (List.mem_cons_of_mem _ z))
                  · exact (frT c z).2
                · rcases (hr c hc).1 with z | z
                  · exact b2.o i c (hin c (List.mem_cons_of_mem _ z))
                  · exact bT c z
                · rcases cl3 l c hl with ⟨h1, h2⟩ | ⟨h1, h2⟩ | h1
                  · rcases (hr c hc).1 with z | z
                    · exact s2.dj l i c h1 h2 (hin c (List.mem_cons_of_mem _ z))
                    · exact lT c z l h2
                  · rcases (hr c hc).1 with z | z
                    · exact h2 z
                    · exact lT c z i h1
                  · exact dSr c h1 c hc rfl
        · rw [if_neg hk] at q; exact q.elim
/-- x.m(..) -/
def mF (i k k1 : Nat) (pF : En → Rz (List Nat)) (op : List D → List D → Option (D × List D)) (fs : En → Rz (List D)) : En → Rz Fl := fun env => (mV i k k1 pF op fs env).bind fun r => .ok (.nx r.1)
/-- y = x.m(..) -/
def mSF (j i k k1 : Nat) (pF : En → Rz (List Nat)) (op : List D → List D → Option (D × List D)) (fs : En → Rz (List D)) : En → Rz Fl := fun env => (mV i k k1 pF op fs env).bind fun r => .ok (.nx (r.1.set j (some r.2)))
theorem go_mF {B F0 : Hp} (M : MOp X.K cl r op k1) (hG : G[i]? = some (some k)) : ∀ Dn σ H, tS X.K cl W B F0 G (mF i k k1 pF op fs) G kr Dn σ H → tDrop (tBM X.K "list" r (tP X.K cl W G i pF) (tA X.K cl W G fs (.N k1))) Dn σ H := fun Dn σ H ⟨env, So, F, s, bd, q⟩ => go_meth (B := B) (F0 := F0) M hG ⟨env, So, F, s, bd, by
  unfold mF at q
  cases hm : mV i k k1 pF op fs env with
  | er c => rw [hm] at q; exact q
  | no => rw [hm] at q; exact q
  | ok rr =>
    rw [hm] at q
    exact fun F2 H2 So' rv Sr s2 b2 _ _ _ => q σ H2 So' F2 s2 b2⟩
theorem go_mSF {B F0 : Hp} {j : Nat} (M : MOp X.K cl r op k1) (hG : G[i]? = some (some k)) (hk1 : k1 < 100) : ∀ Dn σ H, tS X.K cl W B F0 G (mSF j i k k1 pF op fs) (G.set j (some k1)) kr Dn σ H → tAsg (tBM X.K "list" r (tP X.K cl W G i pF) (tA X.K cl W G fs (.N k1))) (gName j) Dn σ H := fun Dn σ H ⟨env, So, F, s, bd, q⟩ => go_meth (B := B) (F0 := F0) M hG ⟨env, So, F, s, bd, by
  unfold mSF at q
  cases hm : mV i k k1 pF op fs env with
  | er c => rw [hm] at q; exact q
  | no => rw [hm] at q; exact q
  | ok rr =>
    rw [hm] at q
    obtain ⟨env', rd⟩ := rr
    exact fun F2 H2 So' rv Sr s2 b2 o nd fr => q _ H2 _ F2 (s2.set j o nd (fun a ha l _ => (fr a ha).2.2 l) (fun a ha => (fr a ha).1) hk1) ⟨b2.b, b2.f, b2.n, fun l a ha => by
      by_cases hl : l = j
      · rw [if_pos hl] at ha; exact (fr a ha).2.1
      · rw [if_neg hl] at ha; exact b2.o l a ha⟩⟩
theorem simS_meth (pa : PlainAttrs "list") (slot : Slot "list" name id) (hty : typeOf (.builtin id) = pure (.type "method_descriptor")) (hm : MtR X id r) (M : MOp X.K cl r op k1) (hp : SimP cl W X G o i pF) (hG : G[i]? = some (some k)) (ha : SimA cl W X G (e :: es) fs (.N k1))
    (hbase : attributeBase o name X.env (eval o X.env) = eval o X.env := by rfl)
    (hfew : ((backTo cpos (starEach (e :: es) X.env)).all (fun x => !x.1) && (backToKw cpos (keywordEach [] X.env)).all (fun x => x.1.isSome)
      && decide ((e :: es).length + ([] : List Keyword).length + (if ([] : List Keyword).isEmpty then 0 else 1) < 30)) = true := by rfl)
    (hline : (apos.endLine == cpos.line) = true := by rfl) (hs : starEach (e :: es) X.env = (false, eval e X.env) :: starEach es X.env := by rfl) (hplain : (backTo cpos (starEach es X.env)).any (·.1) = false := by rfl)
    (hsw : swapsWith (.Call (.Attribute o name apos) (e :: es) [] cpos) none pos.line X.env = pure false := by rfl) :
    SimS cl W X G (.Expr (.Call (.Attribute o name apos) (e :: es) [] cpos) pos) (mF i k k1 pF op fs) G kr := fun B F0 =>
  PS.weak (ps_expr (pe_bm pa slot hty hm hp ha hbase hfew hline hs hplain) hsw) (go_mF M hG)
theorem simS_methS {j : Nat} {y : Str} {py : Pos} (pa : PlainAttrs "list") (slot : Slot "list" name id) (hty : typeOf (.builtin id) = pure (.type "method_descriptor")) (hm : MtR X id r) (M : MOp X.K cl r op k1) (hp : SimP cl W X G o i pF) (hG : G[i]? = some (some k)) (ha : SimA cl W X G (e :: es) fs (.N k1))
    (hN : X.N.Nodup) (hi : X.N[j]? = some y) (hx : Loc X.env.scope y) (hf : X.fn y = true ∨ X.env.scope.names.lookup y = some .local)
    (hbase : attributeBase o name X.env (eval o X.env) = eval o X.env := by rfl)
    (hfew : ((backTo cpos (starEach (e :: es) X.env)).all (fun x => !x.1) && (backToKw cpos (keywordEach [] X.env)).all (fun x => x.1.isSome)
      && decide ((e :: es).length + ([] : List Keyword).length + (if ([] : List Keyword).isEmpty then 0 else 1) < 30)) = true := by rfl)
    (hline : (apos.endLine == cpos.line) = true := by rfl) (hs : starEach (e :: es) X.env = (false, eval e X.env) :: starEach es X.env := by rfl) (hplain : (backTo cpos (starEach es X.env)).any (·.1) = false := by rfl)
    (hsw : swapsWith (.Call (.Attribute o name apos) (e :: es) [] cpos) (some (.Name y py)) pos.line X.env = pure false := by rfl) (hk1 : k1 < 100 := by decide) :
    SimS cl W X G (.Assign [.Name y py] (.Call (.Attribute o name apos) (e :: es) [] cpos) pos) (mSF j i k k1 pF op fs) (G.set j (some k1)) kr := fun B F0 =>
  PS.weak (ps_set hN hi hx (pe_bm pa slot hty hm hp ha hbase hfew hline hs hplain) hsw hf) (go_mSF M hG hk1)
theorem tP_mono {σ : L2.St} {H : Hp} {Q Q' : VK} (h : ∀ x H, Q x H → Q' x H) : tP X.K cl W G i pF σ H Q → tP X.K cl W G i pF σ H Q' := fun ⟨env, So, F, s, q⟩ => ⟨env, So, F, s, by
  cases hp : pF env with
  | er c => rw [hp] at q; exact q
  | no => rw [hp] at q; exact q
  | ok p =>
    rw [hp] at q
    obtain ⟨d, d1, v, h1, h2, h3, h4⟩ := q
    exact ⟨d, d1, v, h1, h2, h3, fun H1 F1 v1 g n => h _ _ (h4 H1 F1 v1 g n)⟩⟩
theorem bm0_of {σ : L2.St} {H : Hp} {Q : VK} (h : tBM X.K T r (tP X.K cl W G i pF) (tA X.K cl W G nilF (.N k1)) σ H Q) : tBM0 X.K T r (tP X.K cl W G i pF) σ H Q := tP_mono (fun x H1 ⟨h1, env, So, F, s, q⟩ => ⟨h1, q [] H1 F (Grow.refl s.ex) ⟨[], .nil, List.nodup_nil, fun _ z => nomatch z⟩⟩) h
theorem simS_meth0 (pa : PlainAttrs "list") (slot : Slot "list" name id) (hty : typeOf (.builtin id) = pure (.type "method_descriptor")) (hm : MtR X id r) (M : MOp X.K cl r op k1) (hp : SimP cl W X G o i pF) (hG : G[i]? = some (some k))
    (hbase : attributeBase o name X.env (eval o X.env) = eval o X.env := by rfl) (hline : (apos.endLine == cpos.line) = true := by rfl)
    (hsw : swapsWith (.Call (.Attribute o name apos) [] [] cpos) none pos.line X.env = pure false := by rfl) :
    SimS cl W X G (.Expr (.Call (.Attribute o name apos) [] [] cpos) pos) (mF i k k1 pF op nilF) G kr := fun B F0 =>
  PS.weak (ps_expr (pe_bm0 pa slot hty hm hp hbase hline) hsw) fun Dn σ H h => bm0_of (go_mF M hG Dn σ H h)
theorem simS_meth0S {j : Nat} {y : Str} {py : Pos} (pa : PlainAttrs "list") (slot : Slot "list" name id) (hty : typeOf (.builtin id) = pure (.type "method_descriptor")) (hm : MtR X id r) (M : MOp X.K cl r op k1) (hp : SimP cl W X G o i pF) (hG : G[i]? = some (some k))
    (hN : X.N.Nodup) (hi : X.N[j]? = some y) (hx : Loc X.env.scope y) (hf : X.fn y = true ∨ X.env.scope.names.lookup y = some .local)
    (hbase : attributeBase o name X.env (eval o X.env) = eval o X.env := by rfl) (hline : (apos.endLine == cpos.line) = true := by rfl)
    (hsw : swapsWith (.Call (.Attribute o name apos) [] [] cpos) (some (.Name y py)) pos.line X.env = pure false := by rfl) (hk1 : k1 < 100 := by decide) :
    SimS cl W X G (.Assign [.Name y py] (.Call (.Attribute o name apos) [] [] cpos) pos) (mSF j i k k1 pF op nilF) (G.set j (some k1)) kr := fun B F0 =>
  PS.weak (ps_set hN hi hx (pe_bm0 pa slot hty hm hp hbase hline) hsw hf) fun Dn σ H h => bm0_of (go_mSF M hG hk1 Dn σ H h)
def pV (i : Nat) : En → Rz (List Nat) := fun env => match env[i]? with
  | some (some _) => .ok []
  | _ => .no
def pI (i : Nat) (pF : En → Rz (List Nat)) (f1 : En → Rz D) : En → Rz (List Nat) := fun env => (pF env).bind fun p => match env[i]? with
  | some (some d) => match getP d p with
    | some d1 => (f1 env).bind fun x => match at1 d1 x with
      | some j => match getP d1 [j] with
        | some _ => .ok (p ++ [j])
        | none => .no
      | none => .no
    | none => .no
  | _ => .no
theorem NavP.snoc {H : Hp} {w a : V} {j : Nat} (ad : Addr) (vs : List V) (e1 : a = .ref ad) (e2 : H ad = some (.lst vs) ∨ H ad = some (.tup vs)) (e3 : vs[j]? = some w) : ∀ {p : List Nat} {v : V}, NavP H v p a → NavP H v (p ++ [j]) w
  | [], v, h => ⟨ad, vs, w, (show v = a from h).trans e1, e2, e3, rfl⟩
  | _ :: _, _, ⟨a, vs, v1, h1, h2, h3, h4⟩ => ⟨a, vs, v1, h1, h2, h3, NavP.snoc ad _ e1 e2 e3 h4⟩
theorem getP_snoc {j : Nat} {x : D} : ∀ {p : List Nat} {d d1 : D}, getP d p = some d1 → getP d1 [j] = some x → getP d (p ++ [j]) = some x
  | [], _, _, h, h2 => by cases h; exact h2
  | q :: p, d, d1, h, h2 => by
    unfold getP at h
    rw [List.cons_append]
    unfold getP
    cases hk : kids d with
    | none => rw [hk] at h; cases h
    | some ds =>
      rw [hk] at h
      simp only at h ⊢
      cases hj : ds[q]? with
      | none => rw [hj] at h; cases h
      | some dj =>
        rw [hj] at h
        exact getP_snoc (p := p) h h2
theorem Rep.nav {K : PySem.W.Frag} {H : Hp} : ∀ {p : List Nat} {v : V} {d d1 : D}, Rep K cl H v d → getP d p = some d1 → ∃ v1, NavP H v p v1 ∧ Rep K cl H v1 d1
  | [], v, d, d1, r, h => by cases h; exact ⟨v, rfl, r⟩
  | j :: p, v, d, d1, r, h => by
    unfold getP at h
    cases hk : kids d with
    | none => rw [hk] at h; cases h
    | some ds =>
      rw [hk] at h
      simp only at h
      cases hj : ds[j]? with
      | none => rw [hj] at h; cases h
      | some dj =>
        rw [hj] at h
        cases r with
        | lst s rs =>
          cases hk
          obtain ⟨w, hw, rw'⟩ := rs.get hj
          obtain ⟨v1, n1, r1⟩ := Rep.nav rw' h
          exact ⟨v1, ⟨_, _, w, rfl, .inl s, hw, n1⟩, r1⟩
        | tup s rs =>
          cases hk
          obtain ⟨w, hw, rw'⟩ := rs.get hj
          obtain ⟨v1, n1, r1⟩ := Rep.nav rw' h
          exact ⟨v1, ⟨_, _, w, rfl, .inr s, hw, n1⟩, r1⟩
        | _ => cases hk
theorem simP_var (ho : PE X o (tVar i)) (hG : G[i]? = some (some k)) : SimP cl W X G o i (pV i) := PE.weak ho fun σ H Q ⟨env, So, F, s, q⟩ => by
  unfold pV at q
  cases hd : env[i]? with
  | none => rw [hd] at q; exact q.elim
  | some od =>
    cases od with
    | none => rw [hd] at q; exact q.elim
    | some d =>
      rw [hd] at q
      obtain ⟨d', d1, v, h1, h2, _, h4⟩ := q
      exact ⟨v, h2, h4 H F v (Grow.refl s.ex) rfl⟩
theorem simP_ix (h : SimP cl W X G o i pF) (h1 : SimE cl W X G ix1 f1 .R) (hG : G[i]? = some (some k)) (hpl : PlainIx ix1 := by intro _ _; rfl) : SimP cl W X G (.Subscript o ix1 pos) i (pI i pF f1) := PE.weak (pe_ix ix_seq h h1 hpl) fun σ H Q ⟨env, So, F, s, q⟩ => by
  unfold pI at q
  refine ⟨env, So, F, s, ?_⟩
  cases hp : pF env with
  | er c => rw [hp] at q; exact q
  | no => rw [hp] at q; exact q
  | ok p =>
    rw [hp] at q
    simp only [Rz.bind_ok] at q
    cases hd : env[i]? with
    | none => rw [hd] at q; exact q.elim
    | some od =>
      cases od with
      | none => rw [hd] at q; exact q.elim
      | some d =>
        rw [hd] at q
        simp only at q
        cases hg : getP d p with
        | none => rw [hg] at q; exact q.elim
        | some d1 =>
          rw [hg] at q
          simp only at q
          obtain ⟨v, hv, o⟩ := s.sl i k d hG hd
          refine ⟨d, d1, v, rfl, hv, hg, fun H1 F1 v1 g1 n1 => ⟨env, So, F1, s.grow g1, ?_⟩⟩
          cases hx : f1 env with
          | er c => rw [hx] at q; exact fun H' e => q H' (g1.h.trans e)
          | no => rw [hx] at q; exact q
          | ok x =>
            rw [hx] at q
            simp only [Rz.bind_ok] at q
            cases hj : at1 d1 x with
            | none => rw [hj] at q; exact q.elim
            | some j =>
              rw [hj] at q
              simp only at q
              cases hg2 : getP d1 [j] with
              | none => rw [hg2] at q; exact q.elim
              | some d2 =>
                rw [hg2] at q
                simp only at q
                refine fun y H2 F2 g2 ry => ?_
                have ry : Rep X.K cl H2 y x := ry
                obtain ⟨d', d2', v', e1, e2, e3, fin⟩ := q
                rw [hv] at e2; cases e2
                obtain ⟨kd, hkd, z, rfl, hz⟩ : ∃ kd, kids d1 = some kd ∧ ∃ z, x = .int z ∧ ixN kd.length z = some j := by
                  unfold at1 at hj
                  cases hh : kids d1 with
                  | none => rw [hh] at hj; cases hj
                  | some kd =>
                    rw [hh] at hj
                    cases x <;> first | exact ⟨kd, rfl, _, rfl, hj⟩ | cases hj
                cases ry
                have s2 := (s.grow g1).grow g2
                obtain ⟨v'', hv'', o2⟩ := s2.sl i k d hG hd
                rw [hv] at hv''; cases hv''
                obtain ⟨v1', n1', r1⟩ := (o2.rep s2.ex).nav hg
                cases (n1.mono g2.h).uni n1'
                cases r1 with
                | @lst a0 xs ds0 s' rs =>
                  cases hkd
                  obtain ⟨w, hw, rw'⟩ := rs.get (List.getElem?_eq_getElem (ixN_lt hz))
                  have hav : L2.atI xs z = some w := by unfold L2.atI; rw [rs.length, hz]; exact hw
                  exact .inl ⟨a0, xs, z, w, rfl, rfl, SqL.of s', hav, fin H2 F2 w (g1.trans g2) (NavP.snoc a0 xs rfl (.inl s') hw (n1.mono g2.h))⟩
                | @tup a0 xs ds0 s' rs =>
                  cases hkd
                  obtain ⟨w, hw, rw'⟩ := rs.get (List.getElem?_eq_getElem (ixN_lt hz))
                  have hav : L2.atI xs z = some w := by unfold L2.atI; rw [rs.length, hz]; exact hw
                  exact .inr (.inl ⟨a0, xs, z, w, rfl, rfl, SqT.of s', hav, fin H2 F2 w (g1.trans g2) (NavP.snoc a0 xs rfl (.inr s') hw (n1.mono g2.h))⟩)
                | _ => cases hkd
end
end Pv

set_option Elab.async false
set_option linter.all false
set_option maxRecDepth 100000
set_option maxHeartbeats 1000000
/-! Pv: the methods of a list. -/
namespace Pv
open PySem PySem.Spec PyProof.Rows L2
section
variable {K : PySem.W.Frag} {cl : Cl} {F H : Hp} {k : Nat}
theorem Owns.one_inv {us : List V} {d : D} {T : List Addr} (h : Owns K cl F H k us [d] T) : ∃ u, us = [u] ∧ Own K cl F H k u d T := by
  cases h with
  | cons a b => cases b; exact ⟨_, rfl, by rw [List.append_nil]; exact a⟩
theorem Owns.two_inv {us : List V} {d e : D} {T : List Addr} (h : Owns K cl F H k us [d, e] T) : ∃ u v T1 T2, us = [u, v] ∧ T = T1 ++ T2 ∧ Own K cl F H k u d T1 ∧ Own K cl F H k v e T2 := by
  cases h with
  | cons a b =>
    obtain ⟨v, rfl, o⟩ := b.one_inv
    exact ⟨_, v, _, _, rfl, rfl, a, o⟩
theorem Own.int_inv {v : V} {i : Int} {S : List Addr} (h : Own K cl F H k v (.int i) S) : v = .int i ∧ S = [] := by
  cases h with
  | z r => cases r; exact ⟨rfl, rfl⟩
  | im r _ => cases r; exact ⟨rfl, rfl⟩
theorem Own.non : Own K cl F H k .non .non [] := .im .non rfl
theorem Owns.rev : ∀ {vs : List V} {ds : List D} {S : List Addr}, Owns K cl F H k vs ds S → ∃ S', Owns K cl F H k vs.reverse ds.reverse S' ∧ S'.Perm S
  | _, _, _, .nil => ⟨[], .nil, .refl _⟩
  | _, _, _, .cons (v := v) (d := d) (S := S) (T := T) a b => by
    obtain ⟨T', h1, h2⟩ := Owns.rev b
    refine ⟨T' ++ (S ++ []), ?_, ?_⟩
    · rw [List.reverse_cons, List.reverse_cons]
      exact h1.append (.cons a .nil)
    · rw [List.append_nil]
      exact (List.perm_append_comm).trans (h2.append_left S)
end
section
variable {K : PySem.W.Frag} {cl : Cl} {k : Nat}
def opAppend (ds es : List D) : Option (D × List D) := match es with
  | [d] => if ds.length < lim then some (.non, ds ++ [d]) else none
  | _ => none
theorem m_append : MOp K cl rAppend opAppend k := fun F H ad vs ds S0 us es T rd ds' ex hh os oT nd h => by
  unfold opAppend at h
  split at h
  · rename_i d
    split at h
    · rename_i hl
      cases h
      obtain ⟨u, rfl, o⟩ := oT.one_inv
      refine ⟨vs ++ [u], .non, S0 ++ (T ++ []), [], os.append (.cons o .nil), .non, by simpa using nd, by simp, fun Q q => ⟨ad, vs, u, rfl, rfl, hh, by rw [os.length]; exact lim_lt hl, q⟩⟩
    · cases h
  · cases h
def opInsert (ds es : List D) : Option (D × List D) := match es with
  | [.int i, d] => if ds.length < lim ∧ 0 ≤ i ∧ i.natAbs < 1000000000 then some (.non, ds.take i.toNat ++ [d] ++ ds.drop i.toNat) else none
  | _ => none
theorem m_insert : MOp K cl (fun x vs H Q => ∃ (l : Addr) (xs : List V) (i : Int) (y : V), x = .ref l ∧ vs = [.int i, y] ∧ H l = some (.lst xs) ∧ xs.length < sizeLine ∧ 0 ≤ i ∧ i < 2 ^ 63 ∧
    Q .non (upd H l (.lst (xs.take i.toNat ++ [y] ++ xs.drop i.toNat)))) opInsert k := fun F H ad vs ds S0 us es T rd ds' ex hh os oT nd h => by
  unfold opInsert at h
  split at h
  · rename_i i d
    split at h
    · rename_i hl
      cases h
      obtain ⟨u, w, T1, T2, rfl, rfl, o1, o2⟩ := oT.two_inv
      obtain ⟨rfl, rfl⟩ := o1.int_inv
      obtain ⟨S1, S2, rfl, t1, t2⟩ := os.take i.toNat
      refine ⟨vs.take i.toNat ++ [w] ++ vs.drop i.toNat, .non, (S1 ++ (T2 ++ [])) ++ S2, [], (t1.append (.cons o2 .nil)).append t2, .non, ?_, ?_, fun Q q => ⟨ad, vs, i, w, rfl, rfl, hh, by rw [os.length]; exact lim_lt hl.1, hl.2.1, by omega, q⟩⟩
      · simp only [List.append_nil, List.nil_append] at nd ⊢
        refine (List.Perm.nodup_iff ?_).mp nd
        rw [List.append_assoc, List.append_assoc]
        exact List.Perm.append_left S1 List.perm_append_comm
      · intro c hc
        simp only [List.append_nil, List.nil_append, List.mem_append] at hc ⊢
        rcases hc with (hc | hc) | hc <;> simp [hc]
    · cases h
  · cases h
def opPop (ds es : List D) : Option (D × List D) := match es with
  | [] => match ds[ds.length - 1]? with
    | some d => some (d, ds.dropLast)
    | none => none
  | _ => none
theorem m_pop : MOp K cl rPop opPop k := fun F H ad vs ds S0 us es T rd ds' ex hh os oT nd h => by
  unfold opPop at h
  split at h
  · split at h
    · rename_i d hd
      cases h
      cases oT
      have hne : ds ≠ [] := by rintro rfl; cases hd
      have hds : ds = ds.dropLast ++ [rd] := by
        have h1 := List.dropLast_concat_getLast hne
        rw [List.getLast_eq_getElem] at h1
        have h2 := (List.getElem?_eq_some_iff.mp hd).2
        rw [h2] at h1; exact h1.symm
      rw [hds] at os
      obtain ⟨vs0, v, S1, S2, rfl, rfl, o1, o2⟩ := os.snoc_inv
      rw [← hds] at os
      refine ⟨vs0, v, S1, S2, o1, o2, by simpa using nd, by simp, fun Q q => ⟨ad, vs0 ++ [v], v, rfl, rfl, hh, by simp, by simpa using q⟩⟩
    · cases h
  · cases h
def opPopAt (ds es : List D) : Option (D × List D) := match es with
  | [.int i] => if i.natAbs < 1000000000 then match ixN ds.length i with
    | some j => match ds[j]? with
      | some d => some (d, ds.eraseIdx j)
      | none => none
    | none => none
    else none
  | _ => none
theorem m_popAt : MOp K cl rPopAt opPopAt k := fun F H ad vs ds S0 us es T rd ds' ex hh os oT nd h => by
  unfold opPopAt at h
  split at h
  · rename_i i
    split at h
    · rename_i hi
      split at h
      · rename_i j hj
        split at h
        · rename_i d hd
          cases h
          obtain ⟨u, rfl, o⟩ := oT.one_inv
          obtain ⟨rfl, rfl⟩ := o.int_inv
          obtain ⟨S1, S2, rfl, t1, t2⟩ := os.take j
          have hlt := (List.getElem?_eq_some_iff.mp hd).1
          have hds : ds.drop j = rd :: ds.drop (j + 1) := by
            rw [List.drop_eq_getElem_cons hlt]
            rw [(List.getElem?_eq_some_iff.mp hd).2]
          have hlv : j < vs.length := by rw [os.length]; exact hlt
          rw [hds, List.drop_eq_getElem_cons hlv] at t2
          cases t2 with
          | @cons _ _ _ _ _ Sa Sb a b =>
            refine ⟨vs.eraseIdx j, vs[j], S1 ++ Sb, Sa, by rw [List.eraseIdx_eq_take_drop_succ, List.eraseIdx_eq_take_drop_succ]; exact t1.append b, a, ?_, ?_, fun Q q => ⟨ad, vs, i, j, vs[j], rfl, rfl, hh, by omega, by omega, ?_, List.getElem?_eq_getElem hlv, q⟩⟩
            · simp only [List.append_nil] at nd
              refine (List.Perm.nodup_iff ?_).mp nd
              rw [List.append_assoc]
              exact List.Perm.append_left S1 List.perm_append_comm
            · intro c hc
              simp only [List.append_nil, List.mem_append] at hc ⊢
              rcases hc with (hc | hc) | hc <;> simp [hc]
            · rw [os.length]; exact (ixN_seq hj).1
        · cases h
      · cases h
    · cases h
  · cases h
def opReverse (ds es : List D) : Option (D × List D) := match es with
  | [] => some (.non, ds.reverse)
  | _ => none
theorem m_reverse : MOp K cl rReverse opReverse k := fun F H ad vs ds S0 us es T rd ds' ex hh os oT nd h => by
  unfold opReverse at h
  split at h
  · cases h
    cases oT
    obtain ⟨S', h1, h2⟩ := os.rev
    refine ⟨vs.reverse, .non, S', [], h1, .non, ?_, ?_, fun Q q => ⟨ad, vs, rfl, rfl, hh, q⟩⟩
    · simp only [List.append_nil] at nd ⊢; exact (List.Perm.nodup_iff h2).mpr nd
    · intro c hc
      simp only [List.append_nil] at hc ⊢; exact h2.mem_iff.mp hc
  · cases h
end
end Pv

set_option Elab.async false
set_option linter.all false
set_option maxRecDepth 100000
set_option maxHeartbeats 1000000
/-! Pv: x[i] op= e, by places. -/
namespace Pv
open PySem PySem.Spec PyProof.Rows L2
theorem get_listL {X : Cx} : PGet X (rIxL X.K) := by
  intro pins s σ H o i ov iv Q I ro ri h
  obtain ⟨p, xs, k, z, rfl, rfl, hq, he, q⟩ := h
  cases ro
  obtain ⟨t, rfl⟩ := ri
  obtain ⟨its, r, pl, hz⟩ := I.list hq
  obtain ⟨j, h1, h2, h3, h4, h5⟩ := atI_get he
  obtain ⟨w, ew, rw'⟩ := r.get h2
  have hl := r.length
  have hn := line63
  have fin : EP X pins σ Q w s := ⟨z, H, I, rw', q⟩
  by_cases h0 : 0 ≤ k
  · have hj : k.toNat = j := by
      rw [seqIndex_of h0 h5] at h1
      exact Option.some.inj h1
    exact wpAny_getItem_list pl.isList h0 (by omega) (by rw [hj]; simpa using ew) fin
  · have hj : (k + (its.toArray.size : Int)).toNat = j := by
      rw [seqIndex_neg (by omega) h4] at h1
      rw [List.size_toArray, ← hl]
      exact Option.some.inj h1
    exact wpAny_getItem_list_neg pl.isList (by omega) (by rw [List.size_toArray] <;> omega) (by omega) (by rw [hj]; simpa using ew) fin
section
variable {X : Cx} {cl : Cl} {W : Nat → Hp → Prop} {G G1 G' G'' : List Md} {pos p1 tpos : Pos} {e o ix1 : Expr} {k k1 kr i : Nat} {f fi : En → Rz D} {pF : En → Rz (List Nat)}
/-- P[i] op= e, of a number -/
def asF (op : Int → Int → Int) (i k k1 : Nat) (pF : En → Rz (List Nat)) (fi f : En → Rz D) : En → Rz Fl := fun env => (pF env).bind fun p => match env[i]? with
  | some (some d) => if depP d k p = some (k1 + 1) then match getP d p with
    | some (.lst ds) => (fi env).bind fun x => match x with
      | .int z => match ixN ds.length z with
        | some j => match ds[j]? with
          | some (.int a) => (f env).bind fun y => match y with
            | .int b => .ok (.nx (env.set i (some (setP d p (.lst (ds.set j (.int (op a b))))))))
            | _ => .no
          | _ => .no
        | none => .no
      | _ => .no
    | _ => .no
    else .no
  | _ => .no
theorem go_as {B F0 : Hp} {op : Int → Int → Int} (hG : G[i]? = some (some k)) : ∀ Dn σ H, tS X.K cl W B F0 G (asF op i k k1 pF fi f) G kr Dn σ H → tAugS (tP X.K cl W G i pF) (tE X.K cl W G fi .R) (tE X.K cl W G f .R) (rIxL X.K) (ipI op) rSetL Dn σ H := fun Dn σ H ⟨env, So, F, s, bd, q⟩ => by
  unfold asF at q
  refine ⟨env, So, F, s, ?_⟩
  cases hp : pF env with
  | er c => rw [hp] at q; exact fun H' e => q H' (bd.b.trans e)
  | no => rw [hp] at q; exact q
  | ok p =>
    rw [hp] at q
    simp only [Rz.bind_ok] at q
    cases hd : env[i]? with
    | none => rw [hd] at q; exact q.elim
    | some od =>
      cases od with
      | none => rw [hd] at q; exact q.elim
      | some d =>
        rw [hd] at q
        simp only at q
        by_cases hk : depP d k p = some (k1 + 1)
        · rw [if_pos hk] at q
          cases hg : getP d p with
          | none => rw [hg] at q; exact q.elim
          | some dl =>
            rw [hg] at q
            cases dl <;> first | exact q.elim | skip
            rename_i ds
            simp only at q
            obtain ⟨v, hv, _⟩ := s.sl i k d hG hd
            refine ⟨d, _, v, rfl, hv, hg, fun H1 F1 v1 g1 n1 => ?_⟩
            have s1 := s.grow g1
            have b1 := bd.grow s g1
            refine ⟨env, So, F1, s1, ?_⟩
            cases hx : fi env with
            | er c => rw [hx] at q; exact fun H' e => q H' (b1.b.trans e)
            | no => rw [hx] at q; exact q
            | ok x =>
              rw [hx] at q
              simp only [Rz.bind_ok] at q
              refine fun y H2 F2 g2 ry => ?_
              have ry : Rep X.K cl H2 y x := ry
              have s2 := s1.grow g2
              have b2 := b1.grow s1 g2
              cases ry <;> first | exact q.elim | skip
              rename_i z
              simp only at q
              cases hj : ixN ds.length z with
              | none => rw [hj] at q; exact q.elim
              | some j =>
                rw [hj] at q
                simp only at q
                cases hdj : ds[j]? with
                | none => rw [hdj] at q; exact q.elim
                | some dj =>
                  rw [hdj] at q
                  cases dj <;> first | exact q.elim | skip
                  rename_i a
                  simp only at q
                  obtain ⟨ad, vs, S0, n2, hh, os, _⟩ := s2.place b2 hG hd hv hg hk
                  cases (n1.mono g2.h).uni n2
                  obtain ⟨w, hw, rw'⟩ := (os.reps s2.ex).get hdj
                  cases rw'
                  refine ⟨ad, vs, z, .int a, rfl, rfl, SqL.of hh, by unfold L2.atI; rw [os.length, hj]; exact hw, env, So, F2, s2, ?_⟩
                  cases hf : f env with
                  | er c => rw [hf] at q; exact fun H' e => q H' (b2.b.trans e)
                  | no => rw [hf] at q; exact q
                  | ok y =>
                    rw [hf] at q
                    simp only [Rz.bind_ok] at q
                    refine fun y2 H3 F3 g3 ry => ?_
                    have ry : Rep X.K cl H3 y2 y := ry
                    have s3 := s2.grow g3
                    have b3 := b2.grow s2 g3
                    cases ry <;> first | exact q.elim | skip
                    rename_i b
                    simp only at q
                    obtain ⟨ad3, vs3, S3, n3, hh3, os3, nd3, hin3, up⟩ := s3.place b3 hG hd hv hg hk
                    cases ((n1.mono g2.h).mono g3.h).uni n3
                    obtain ⟨v0, T1, Tj, T2, e1, e2, oj, rb⟩ := os3.split hdj
                    obtain ⟨rfl, rfl⟩ := oj.int_inv
                    have on := rb F3 H3 (.int (op a b)) (.int (op a b)) [] (Evl.Ex.refl _) (fun _ _ => rfl) (.im (.int _) rfl)
                    have e2' : S3 = T1 ++ ([] ++ T2) := e2
                    obtain ⟨So', s4, b4, _⟩ := up _ _ (T1 ++ ([] ++ T2)) [] on (by rw [← e2']; exact (List.nodup_cons.mp nd3).2) (fun c hc => .inl (by rw [e2']; exact hc)) (fun _ z => nomatch z)
                    exact ⟨a, b, rfl, rfl, ad, vs3, z, j, rfl, rfl, hh3, by rw [os3.length]; exact hj, q σ _ So' F3 s4 b4⟩
        · rw [if_neg hk] at q; exact q.elim
theorem simS_asA (hp : SimP cl W X G o i pF) (hG : G[i]? = some (some k)) (hi : SimE cl W X G ix1 fi .R) (he : SimE cl W X G e f .R) (ha : ∀ ov iv new, augStore ix1 ov iv new = (do holding [new, ov, iv] (setItem ov iv new); release [new, ov, iv] []; pure .next) := by intros; rfl) : SimS cl W X G (.AugAssign (.Subscript o ix1 tpos) .Add e pos) (asF (· + ·) i k k1 pF fi f) G kr := fun B F0 =>
  PS.weak (ps_augS hp hi get_listL he ip_add set_list ha) (go_as hG)
theorem simS_asM (hp : SimP cl W X G o i pF) (hG : G[i]? = some (some k)) (hi : SimE cl W X G ix1 fi .R) (he : SimE cl W X G e f .R) (ha : ∀ ov iv new, augStore ix1 ov iv new = (do holding [new, ov, iv] (setItem ov iv new); release [new, ov, iv] []; pure .next) := by intros; rfl) : SimS cl W X G (.AugAssign (.Subscript o ix1 tpos) .Sub e pos) (asF (· - ·) i k k1 pF fi f) G kr := fun B F0 =>
  PS.weak (ps_augS hp hi get_listL he ip_sub set_list ha) (go_as hG)
/-- P[i] = a number, as a target -/
def sgF (i k k1 : Nat) (pF : En → Rz (List Nat)) (fi : En → Rz D) : Int → En → Rz En := fun w env => (pF env).bind fun p => match env[i]? with
  | some (some d) => if depP d k p = some (k1 + 1) then match getP d p with
    | some (.lst ds) => (fi env).bind fun x => match x with
      | .int z => match ixN ds.length z with
        | some j => .ok (env.set i (some (setP d p (.lst (ds.set j (.int w))))))
        | none => .no
      | _ => .no
    | _ => .no
    else .no
  | _ => .no
def tH (K : PySem.W.Frag) (cl : Cl) (W : Nat → Hp → Prop) (B F0 : Hp) (G : List Md) (h : Int → En → Rz En) : TG := fun v σ H Q => ∃ env So F z, v = .int z ∧ Sl K cl G env σ So F H ∧ Bd B F0 So F H ∧ (match h z env with
  | .ok env' => ∀ H' So' F', Sl K cl G env' σ So' F' H' → Bd B F0 So' F' H' → Q σ H'
  | .er c => ∀ H', Ex B H' → W c H'
  | .no => False)
theorem simH_sub {B F0 : Hp} (hp : SimP cl W X G o i pF) (hG : G[i]? = some (some k)) (hi : SimE cl W X G ix1 fi .R)
    (ha : ∀ v, assign (.Subscript o ix1 pos) X.env v = (do
      let ov ← holding [v] (eval o X.env)
      let iv ← holding [v, ov] (eval ix1 X.env)
      standAt pos
      holding [v, ov, iv] (setItem ov iv v)
      release [v, ov, iv] []) := by intro _; rfl) : PG X (.Subscript o ix1 pos) (tH X.K cl W B F0 G (sgF i k k1 pF fi)) := PG.weak (pg_sub hp hi set_list ha) fun v σ H Q ⟨env, So, F, w, ew, s, bd, q⟩ => by
  subst ew
  unfold sgF at q
  refine ⟨env, So, F, s, ?_⟩
  cases hp : pF env with
  | er c => rw [hp] at q; exact fun H' e => q H' (bd.b.trans e)
  | no => rw [hp] at q; exact q
  | ok p =>
    rw [hp] at q
    simp only [Rz.bind_ok] at q
    cases hd : env[i]? with
    | none => rw [hd] at q; exact q.elim
    | some od =>
      cases od with
      | none => rw [hd] at q; exact q.elim
      | some d =>
        rw [hd] at q
        simp only at q
        by_cases hk : depP d k p = some (k1 + 1)
        · rw [if_pos hk] at q
          cases hg : getP d p with
          | none => rw [hg] at q; exact q.elim
          | some dl =>
            rw [hg] at q
            cases dl <;> first | exact q.elim | skip
            rename_i ds
            simp only at q
            obtain ⟨v, hv, _⟩ := s.sl i k d hG hd
            refine ⟨d, _, v, rfl, hv, hg, fun H1 F1 v1 g1 n1 => ?_⟩
            have s1 := s.grow g1
            have b1 := bd.grow s g1
            refine ⟨env, So, F1, s1, ?_⟩
            cases hx : fi env with
            | er c => rw [hx] at q; exact fun H' e => q H' (b1.b.trans e)
            | no => rw [hx] at q; exact q
            | ok x =>
              rw [hx] at q
              simp only [Rz.bind_ok] at q
              refine fun y H2 F2 g2 ry => ?_
              have ry : Rep X.K cl H2 y x := ry
              have s2 := s1.grow g2
              have b2 := b1.grow s1 g2
              cases ry <;> first | exact q.elim | skip
              rename_i z
              simp only at q
              cases hj : ixN ds.length z with
              | none => rw [hj] at q; exact q.elim
              | some j =>
                rw [hj] at q
                simp only at q
                obtain ⟨ad, vs, S0, n2, hh, os, nd0, hin, up⟩ := s2.place b2 hG hd hv hg hk
                cases (n1.mono g2.h).uni n2
                obtain ⟨v0, T1, Tj, T2, e1, e2, oj, rb⟩ := os.split (List.getElem?_eq_getElem (ixN_lt hj))
                have on := rb F2 H2 (.int w) (.int w) [] (Evl.Ex.refl _) (fun _ _ => rfl) (.im (.int _) rfl)
                obtain ⟨m0, nd1⟩ := List.nodup_cons.mp nd0
                rw [e2] at nd1
                obtain ⟨l1, l2, l3⟩ := List.nodup_append.mp nd1
                obtain ⟨l4, l5, l6⟩ := List.nodup_append.mp l2
                obtain ⟨So', s4, b4, _⟩ := up _ _ (T1 ++ ([] ++ T2)) [] on (List.nodup_append.mpr ⟨l1, l5, fun x hx y hy e => l3 x hx y (List.mem_append_right _ hy) e⟩) (fun c hc => .inl (by
                  rw [e2]
                  simp only [List.nil_append, List.mem_append] at hc ⊢
                  exact hc.imp id fun z => .inr z)) (fun _ z => nomatch z)
                exact ⟨ad, vs, z, j, rfl, rfl, hh, by rw [os.length]; exact hj, q _ So' F2 s4 b4⟩
        · rw [if_neg hk] at q; exact q.elim
/-- P[i], Q[j] = two numbers -/
def swF (f : En → Rz D) (g1 g2 : Int → En → Rz En) : En → Rz Fl := fun env => (f env).bind fun d => match d with
  | .tup [.int a, .int b] => (g1 a env).bind fun e1 => (g2 b e1).bind fun e2 => .ok (.nx e2)
  | _ => .no
theorem simS_swap {t1 t2 : Expr} {j : Nat} {g1 g2 : Int → En → Rz En} (hc : X.calm = true) (he : SimE cl W X G e f .R) (h1 : ∀ B F0, PG X t1 (tH X.K cl W B F0 G g1)) (h2 : ∀ B F0, PG X t2 (tH X.K cl W B F0 G g2))
    (hn : (assignEach [t1, t2] X.env).length = 2 := by rfl) (hst : (assignEach [t1, t2] X.env).findIdx? (·.1) = none := by rfl) (hs1 : (assignEach [t1, t2] X.env).map (·.2) = assign t1 X.env :: (assignEach [t2] X.env).map (·.2) := by rfl) (hs2 : (assignEach [t2] X.env).map (·.2) = assign t2 X.env :: (assignEach [] X.env).map (·.2) := by rfl)
    (hs : swapsWithSole [.Tuple [t1, t2] j p1] e pos.line X.env = pure false := by rfl) (hw : swappedStores [.Tuple [t1, t2] j p1] e X.env = pure none := by rfl) :
    SimS cl W X G (.Assign [.Tuple [t1, t2] j p1] e pos) (swF f g1 g2) G kr := fun B F0 => PS.weak (ps_asg he (pg_tup hc (pgs_cons (h1 B F0) (pgs_cons (h2 B F0) pgs_nil hs2) hs1) hn hst) hs hw (by rw [aE_tup]; rfl)) fun Dn σ H ⟨env, So, F, s, bd, q⟩ => ⟨env, So, F, s, by
  unfold swF at q
  cases hf : f env with
  | er c => rw [hf] at q; exact fun H' e => q H' (bd.b.trans e)
  | no => rw [hf] at q; exact q
  | ok d =>
    rw [hf] at q
    simp only [Rz.bind_ok] at q
    split at q
    · rename_i a b
      refine fun v H1 F1 g rv => ?_
      have rv : Rep X.K cl H1 v (.tup [.int a, .int b]) := rv
      cases rv with
      | @tup ad xs ds hh rs =>
        obtain ⟨v1, v2, rfl, r1, r2⟩ : ∃ v1 v2, xs = [v1, v2] ∧ Rep X.K cl H1 v1 (.int a) ∧ Rep X.K cl H1 v2 (.int b) := by
          cases rs with
          | cons r1 rs => cases rs with
            | cons r2 rs => cases rs; exact ⟨_, _, rfl, r1, r2⟩
        cases r1
        cases r2
        refine ⟨ad, _, rfl, SqT.of hh, rfl, .int a, [.int b], rfl, env, So, F1, a, rfl, s.grow g, bd.grow s g, ?_⟩
        cases hg1 : g1 a env with
        | er c => rw [hg1] at q; exact q
        | no => rw [hg1] at q; exact q
        | ok e1 =>
          rw [hg1] at q
          simp only [Rz.bind_ok] at q
          refine fun H2 So2 F2 s2 b2 => ⟨.int b, [], rfl, e1, So2, F2, b, rfl, s2, b2, ?_⟩
          cases hg2 : g2 b e1 with
          | er c => rw [hg2] at q; exact q
          | no => rw [hg2] at q; exact q
          | ok e2 =>
            rw [hg2] at q
            exact fun H3 So3 F3 s3 b3 => ⟨rfl, q σ H3 So3 F3 s3 b3⟩
    · exact q.elim⟩
end
end Pv

set_option Elab.async false
set_option linter.all false
set_option maxRecDepth 100000
set_option maxHeartbeats 1000000
/-! Pv: len(set(xs)), sorted(xs), of ints. -/
namespace L2
open PySem PySem.Spec PyProof.Rows
/-- len(set(xs)), with repeats -/
def tLenSetG (K : PySem.W.Frag) (ta : TE) : TE := fun σ H Q => ta σ H fun x H1 => ∃ (l : Addr) (ns : List Int), x = .ref l ∧ SqL K H1 l (ns.map V.int) ∧ ns.length ≤ 4000 ∧ Q (.int ((firstMet (fun i => ns.getD i 0) ns.length).length : Nat)) H1
theorem pe_lenSetG {X : Cx} {a : Expr} {ta : TE} {p p2 q pos : Pos} (hg : Gl X "len") (hm : X.mg "len" = none) (hg2 : Gl X "set") (hm2 : X.mg "set" = none) (ha : PE X a ta) (hc : X.calm = true)
    (na : starEach [a] X.env = (false, eval a X.env) :: starEach [] X.env := by rfl) : PE X (.Call (.Name "len" p) [.Call (.Name "set" p2) [a] [] q] [] pos) (tLenSetG X.K ta) := by
  refine ⟨fun pins s σ H Q I h => ?_⟩
  refine Call_ (ld_blt I hg hm PySem.boot_len ?_)
  refine PyProof.Rows.callWith_builtin1 (PyProof.Rows.args_cons ?_ rfl) rfl rfl
  refine Call_ (ld_blt I hg2 hm2 PyProof.Rows.boot_set ?_)
  refine PyProof.Rows.callWith_type1 (PyProof.Rows.args_cons (thn (ha.run pins s σ H _ I h) fun v s1 ⟨x, H1, I1, r1, q1⟩ => PyProof.Rows.args_nil ?_) na) na rfl
  obtain ⟨l, ns, rfl, hq, hl, q1⟩ := q1
  cases r1
  obtain ⟨its, r, pl, hz⟩ := I1.list hq
  have hlen : its.toArray.size = ns.length := by rw [List.size_toArray, ← r.length, List.length_map]
  refine call_set_list (I1.ok.hd hc) pl.isList (ns := ns) (by simpa using r.ints) (by rw [hlen]; unfold scanBound; omega) fun h' tk hS hk => ?_
  refine PyProof.Rows.args_nil ?_
  rw [hlen] at hS
  have hle := firstMet_length_le (fun i => ns.getD i 0) ns.length
  obtain ⟨o, es, ep, t, ho, hex, hd, _, _, _, hf, hn⟩ := hS
  have I2 : Inv X pins σ H1 { s1 with heap := h', toks := tk } := I1.kept fun b o e => hk b o (Heap.lt_size e) e
  exact call_len_set ho hex hd hf (by rw [hn] <;> omega) ⟨.int _, H1, I2.tok _, ⟨_, by rw [hn]⟩, q1⟩
end L2
namespace Pv
open PySem PySem.Spec PyProof.Rows L2
section
variable {X : Cx} {cl : Cl} {W : Nat → Hp → Prop} {G : List Md} {m : Mo} {pos p p2 q : Pos} {x : Expr} {f : En → Rz D} {fs : En → Rz (List D)}
def lenSetD (d : D) : Rz D := match d with
  | .lst xs => match ints1 xs with
    | some ns => if ns.length ≤ 4000 then .ok (.int ((firstMet (fun i => ns.getD i 0) ns.length).length : Nat)) else .no
    | none => .no
  | _ => .no
theorem sim_lenSet (hc : X.calm = true) (hg : Gl X "len") (hm : X.mg "len" = none) (hg2 : Gl X "set") (hm2 : X.mg "set" = none) (ha : SimE cl W X G x f .R) (na : starEach [x] X.env = (false, eval x X.env) :: starEach [] X.env := by rfl) :
    SimE cl W X G (.Call (.Name "len" p) [.Call (.Name "set" p2) [x] [] q] [] pos) (u1 lenSetD f) m :=
  PE.weak (pe_lenSetG hg hm hg2 hm2 ha hc na) fun σ H Q ⟨env, So, F, s, q⟩ => by
    unfold u1 at q
    refine ⟨env, So, F, s, ?_⟩
    cases hf : f env with
    | er c => rw [hf] at q; exact q
    | no => rw [hf] at q; exact q
    | ok dx =>
      rw [hf] at q
      simp only [Rz.bind_ok] at q
      refine fun v H1 F1 g1 r1 => ?_
      have r1 : Rep X.K cl H1 v dx := r1
      have q0 := q.go g1
      cases r1 with
      | @lst a xs ds s' rs =>
        have q2 : Res X.K cl W (match ints1 ds with
          | some ns => if ns.length ≤ 4000 then .ok (.int ((firstMet (fun i => ns.getD i 0) ns.length).length : Nat)) else .no
          | none => .no) m F1 H1 Q := q0
        clear q q0
        cases hn : ints1 ds with
        | none => rw [hn] at q2; exact q2.elim
        | some ns =>
          rw [hn] at q2
          have e := ints1_eq hn
          subst e
          have e2 := Reps.ints rs
          subst e2
          obtain ⟨c, q3⟩ := Res.ifp q2
          exact ⟨a, ns, rfl, SqL.of s', c, q3.imR (fun _ => .int _) rfl g1.i⟩
      | _ => exact q0.elim
def srtI (ns : List Int) : List Int := ns.mergeSort fun a b => decide (a ≤ b)
theorem srtI_perm (ns : List Int) : (srtI ns).Perm ns := List.mergeSort_perm ns _
theorem srtI_sorted (ns : List Int) : (srtI ns).Pairwise (· ≤ ·) := by
  have := List.pairwise_mergeSort (le := fun a b : Int => decide (a ≤ b)) (fun a b c h1 h2 => by simp at h1 h2 ⊢; omega) (fun a b => by simp; omega) ns
  exact this.imp fun h => by simpa using h
theorem srtI_uni {ns ns' : List Int} (h1 : ns'.Perm ns) (h2 : ns'.Pairwise (· ≤ ·)) : ns' = srtI ns :=
  List.Perm.eq_of_pairwise (fun a b _ _ h1 h2 => Int.le_antisymm h1 h2) h2 (srtI_sorted ns) (h1.trans (srtI_perm ns).symm)
def sortedO (ds : List D) : Rz D := match ds with
  | [.lst xs] => match ints1 xs with
    | some ns => .ok (.lst ((srtI ns).map .int))
    | none => .no
  | _ => .no
theorem Reps.ofInts {K : PySem.W.Frag} {F : Hp} : ∀ (ns : List Int), Reps K cl F (ns.map V.int) (ns.map .int)
  | [] => .nil
  | n :: ns => .cons (.int n) (Reps.ofInts ns)
theorem sim_sorted (hg : Gl X "sorted") (hm : X.mg "sorted" = none) (ha : SimA cl W X G [x] fs .R) (he : starEach [x] X.env = (false, eval x X.env) :: starEach [] X.env := by rfl) (hpl : (backTo pos (starEach [] X.env)).any (·.1) = false := by rfl) :
    SimE cl W X G (.Call (.Name "sorted" p) [x] [] pos) (aF sortedO fs) (.N 1) :=
  PE.weak (pe_callB cr_sortedI hg hm (by decide +kernel) ha (he := he) (hpl := hpl)) (goA (R := fun Q xs H => rSortedI X.K xs H Q) fun F0 H0 F H vs ds Q g o q => by
    have r : Reps X.K cl H vs ds := o
    rcases ds with _ | ⟨d, _ | ⟨d2, ds⟩⟩
    · exact q.elim
    · obtain ⟨v, rfl, r1⟩ := r.one
      cases r1 with
      | @lst a xs ds s r2 =>
        have q2 : Res X.K cl W (match ints1 ds with | some ns => .ok (.lst ((srtI ns).map .int)) | none => .no) (.N 1) F0 H0 Q := q
        clear q
        cases hn : ints1 ds with
        | none => rw [hn] at q2; exact q2.elim
        | some ns =>
          rw [hn] at q2
          have e := ints1_eq hn
          subst e
          have e2 := Reps.ints r2
          subst e2
          refine ⟨a, ns, rfl, SqL.of s, fun ns' pp h1 h2 hp => ?_⟩
          have e := srtI_uni h1 h2
          subst e
          exact new_lst g (Reps.ofInts (srtI ns)) q2 pp hp
      | _ => exact q.elim
    · cases d <;> exact q.elim)
end
end Pv
namespace Pv
open PySem PySem.Spec PyProof.Rows L2
section
variable {X : Cx} {cl : Cl} {W : Nat → Hp → Prop} {G : List Md} {m : Mo} {pos p p2 q : Pos} {a : Expr} {f : En → Rz D} {fs : En → Rz (List D)}
/-- list(range(n)) -/
def lrgO (ds : List D) : Rz D := match ds with
  | [.int n] => if 0 ≤ n ∧ n.natAbs ≤ 1000000 then .ok (.lst (upto 0 n)) else .no
  | _ => .no
theorem Reps.ofMap {K : PySem.W.Frag} {F : Hp} (g : Nat → Int) : ∀ (l : List Nat), Reps K cl F (l.map fun i => V.int (g i)) (l.map fun i => .int (g i))
  | [] => .nil
  | n :: ns => .cons (.int _) (Reps.ofMap g ns)
theorem sim_listRg1 (hc : X.calm = true) (hg : Gl X "list") (hm : X.mg "list" = none) (hg2 : Gl X "range") (hm2 : X.mg "range" = none) (ha : SimE cl W X G a f .R) (na : starEach [a] X.env = (false, eval a X.env) :: starEach [] X.env := by rfl)
    (na2 : starEach [.Call (.Name "range" p2) [a] [] q] X.env = (false, eval (.Call (.Name "range" p2) [a] [] q) X.env) :: starEach [] X.env := by rfl) :
    SimE cl W X G (.Call (.Name "list" p) [.Call (.Name "range" p2) [a] [] q] [] pos) (aF lrgO (consF f nilF)) (.N 1) :=
  PE.weak (pe_listRg hc hg hm (prg_1 hg2 hm2 ha na) na2) fun σ H Q ⟨env, So, F, s, q⟩ => by
    unfold aF consF nilF at q
    refine ⟨env, So, F, s, ?_⟩
    cases hf : f env with
    | er c => rw [hf] at q; exact q
    | no => rw [hf] at q; exact q
    | ok dx =>
      rw [hf] at q
      simp only [Rz.bind_ok] at q
      refine fun v H1 F1 g1 r1 => ?_
      have r1 : Rep X.K cl H1 v dx := r1
      cases r1 with
      | int n =>
        obtain ⟨c, q2⟩ := Res.ifp (c := 0 ≤ n ∧ n.natAbs ≤ 1000000) q
        exact ⟨n, rfl, RgOk.of_le (by omega) (by omega) (by omega) (by omega), new_lst g1 (Reps.ofMap (fun i => 0 + (i : Int)) _) q2⟩
      | _ => exact q.elim
end
end Pv

set_option Elab.async false
set_option linter.all false
set_option maxRecDepth 100000
set_option maxHeartbeats 1000000
/-! Pv: defs that are handed owned things. -/
namespace Pv
open PySem PySem.Spec PyProof.Rows L2
/-- each arg owned to a depth of its own -/
inductive OwnM (K : PySem.W.Frag) (cl : Cl) (F H : Hp) : List Nat → List V → List D → List (List Addr) → Prop
  | nil : OwnM K cl F H [] [] [] []
  | cons {k : Nat} {ks : List Nat} {v : V} {vs : List V} {d : D} {ds : List D} {S : List Addr} {Ss : List (List Addr)} : Own K cl F H k v d S → OwnM K cl F H ks vs ds Ss → OwnM K cl F H (k :: ks) (v :: vs) (d :: ds) (S :: Ss)
section
variable {K : PySem.W.Frag} {cl : Cl} {F F' H H' : Hp}
theorem OwnM.len : ∀ {ks : List Nat} {vs : List V} {ds : List D} {Ss : List (List Addr)}, OwnM K cl F H ks vs ds Ss → vs.length = ds.length ∧ ks.length = ds.length ∧ Ss.length = ds.length
  | _, _, _, _, .nil => ⟨rfl, rfl, rfl⟩
  | _, _, _, _, .cons _ t => by
    obtain ⟨h1, h2, h3⟩ := t.len
    exact ⟨by simp [h1], by simp [h2], by simp [h3]⟩
theorem OwnM.at : ∀ {ks : List Nat} {vs : List V} {ds : List D} {Ss : List (List Addr)} {i k : Nat} {d : D}, OwnM K cl F H ks vs ds Ss → ks[i]? = some k → ds[i]? = some d → ∃ v S, vs[i]? = some v ∧ Ss[i]? = some S ∧ Own K cl F H k v d S
  | _, _, _, _, _, _, _, .nil, h, _ => by simp at h
  | _, _, _, _, 0, _, _, .cons a _, h1, h2 => by
    simp at h1 h2
    subst h1 h2
    exact ⟨_, _, rfl, rfl, a⟩
  | _, _, _, _, i + 1, _, _, .cons _ t, h1, h2 => by
    obtain ⟨v, S, h3, h4, h5⟩ := t.at (i := i) (by simpa using h1) (by simpa using h2)
    exact ⟨v, S, by simpa using h3, by simpa using h4, h5⟩
theorem OwnM.live : ∀ {ks : List Nat} {vs : List V} {ds : List D} {Ss : List (List Addr)}, OwnM K cl F H ks vs ds Ss → ∀ a ∈ Ss.flatten, Mut (H a)
  | _, _, _, _, .nil, _, h => by simp at h
  | _, _, _, _, .cons a t, c, h => by
    rw [List.flatten_cons, List.mem_append] at h
    exact h.elim (Own.live a c) (t.live c)
end
/-- H with these taken out -/
noncomputable def hide (S : List Addr) (H : Hp) : Hp := fun a => if a ∈ S then none else H a
theorem hide_ex {S : List Addr} {H : Hp} : Ex (hide S H) H := fun a o h => by
  unfold hide at h
  split at h
  · cases h
  · exact h
theorem ex_hide {S : List Addr} {H0 H : Hp} (e : Ex H0 H) (h : ∀ a ∈ S, H0 a = none) : Ex H0 (hide S H) := fun a o z => by
  unfold hide
  split
  · rename_i m
    rw [h a m] at z; cases z
  · exact e a o z
theorem hide_in {S : List Addr} {H : Hp} {a : Addr} (h : a ∈ S) : hide S H a = none := by
  unfold hide; rw [if_pos h]
section
variable (K : PySem.W.Frag) (cl : Cl) (W : Nat → Hp → Prop)
def OutM (ks : List Nat) (vs : List V) (ds : List D) (H F' H' : Hp) : Prop := ∃ Ss, OwnM K cl F' H' ks vs ds Ss ∧ Ss.flatten.Nodup ∧ ∀ a ∈ Ss.flatten, H a = none ∧ F' a = none
def tAM (G : List Md) (f : En → Rz (List D)) (ks : List Nat) : TA := fun σ H Q => ∃ env So F, Sl K cl G env σ So F H ∧ (match f env with
  | .ok ds => ∀ vs H' F', Grow F H F' H' → OutM K cl ks vs ds H F' H' → Q vs H'
  | .er c => ∀ H', Ex H H' → W c H'
  | .no => False)
end
abbrev SimAM (cl : Cl) (W : Nat → Hp → Prop) (X : Cx) (G : List Md) (es : List Expr) (f : En → Rz (List D)) (ks : List Nat) : Prop := PA X es (tAM X.K cl W G f ks)
section
variable {X : Cx} {cl : Cl} {W : Nat → Hp → Prop} {G : List Md} {e : Expr} {es : List Expr} {f : En → Rz D} {fs : En → Rz (List D)} {k : Nat} {ks : List Nat}
theorem simAM_nil : SimAM cl W X G [] nilF [] := PA.weak pa_nil fun σ H Q ⟨env, So, F, s, q⟩ => q [] H F (Grow.refl s.ex) ⟨[], .nil, List.nodup_nil, fun _ z => nomatch z⟩
theorem simAM_cons (ha : SimE cl W X G e f (.N k)) (hb : SimAM cl W X G es fs ks) (hs : starEach (e :: es) X.env = (false, eval e X.env) :: starEach es X.env := by rfl) : SimAM cl W X G (e :: es) (consF f fs) (k :: ks) :=
  PA.weak (pa_cons ha hb hs) fun σ H Q ⟨env, So, F, s, q⟩ => by
    unfold consF at q
    refine ⟨env, So, F, s, ?_⟩
    cases hf : f env with
    | er c => rw [hf] at q; exact q
    | no => rw [hf] at q; exact q
    | ok x =>
      rw [hf] at q
      simp only [Rz.bind_ok] at q
      refine fun v H1 F1 g1 o1 => ⟨env, So, F1, s.grow g1, ?_⟩
      cases hg : fs env with
      | er c => rw [hg] at q; exact fun H' e => q H' (g1.h.trans e)
      | no => rw [hg] at q; exact q
      | ok xs =>
        rw [hg] at q
        simp only [Rz.bind_ok] at q
        refine fun vs H2 F2 g2 ⟨Ts, o', nd', fr'⟩ => q (v :: vs) H2 F2 (g1.trans g2) ?_
        obtain ⟨S, o, nd, fr⟩ := o1
        have lv := o.live
        refine ⟨S :: Ts, .cons (o.mono g2.f fun a ha => mut_keep g2.h (lv a ha)) o', ?_, fun a ha => ?_⟩
        · rw [List.flatten_cons]
          refine List.nodup_append.mpr ⟨nd, nd', fun a ha b hb e => ?_⟩
          subst e
          have z := lv a ha
          rw [(fr' a hb).1] at z
          exact z
        · rw [List.flatten_cons] at ha
          rcases List.mem_append.mp ha with ha | ha
          · refine ⟨(fr a ha).1, ?_⟩
            cases q' : F2 a with
            | none => rfl
            | some u => exact absurd (lv a ha) (g2.n a (fr a ha).2 (by rw [q']; simp))
          · exact ⟨Evl.fresh_back g1.h (fr' a ha).1, (fr' a ha).2⟩
end
theorem OwnM.toCl {K : PySem.W.Frag} {cl cl' : Cl} {F H : Hp} (e : cl.c = cl'.c) : ∀ {ks : List Nat} {vs : List V} {ds : List D} {Ss : List (List Addr)}, OwnM K cl F H ks vs ds Ss → OwnM K cl' F H ks vs ds Ss
  | _, _, _, _, .nil => .nil
  | _, _, _, _, .cons a t => .cons (a.toCl e) (t.toCl e)
/-- a def's promise, its args handed over to these depths -/
def spCG (K : PySem.W.Frag) (cl : Cl) (ks : List Nat) (F : List D → Rz D) (k : Nat) : Sp := fun vs H Q E => vs.length = ks.length ∧ ∃ Fz ds Ss, Ex Fz H ∧ OwnM K cl Fz H ks vs ds Ss ∧ Ss.flatten.Nodup ∧ (∀ a ∈ Ss.flatten, Fz a = none) ∧ (match F ds with
  | .ok r => ∀ v H2 F2, Grow Fz (hide Ss.flatten H) F2 H2 → Out K cl (.N k) v r (hide Ss.flatten H) F2 H2 → Q v H2
  | .er c => ∀ H2, Ex (hide Ss.flatten H) H2 → E (.ref (cl c)) none H2
  | .no => False)
theorem spCG_cl {K : PySem.W.Frag} {cl cl' : Cl} (e : cl.c = cl'.c) {ks : List Nat} {F : List D → Rz D} {k : Nat} : ∀ vs H Q E, spCG K cl ks F k vs H Q E → spCG K cl' ks F k vs H Q E := fun vs H Q E ⟨h1, Fz, ds, Ss, h2, h3, h5, h6, h4⟩ => ⟨h1, Fz, ds, Ss, h2, h3.toCl e, h5, h6, by
  cases hf : F ds with
  | ok r => rw [hf] at h4; exact fun v H2 F2 g ⟨S, o, h⟩ => h4 v H2 F2 g ⟨S, o.toCl e.symm, h⟩
  | er c => rw [hf] at h4; obtain ⟨c1, p1⟩ := cl; obtain ⟨c2, p2⟩ := cl'; cases e; exact h4
  | no => rw [hf] at h4; exact h4⟩
def spC (K : PySem.W.Frag) (c : Nat → Addr) (ks : List Nat) (F : List D → Rz D) (k : Nat) : Sp := spCG K ⟨c, fun _ => .non⟩ ks F k
section
variable {X : Cx} {cl : Cl} {W : Nat → Hp → Prop} {G : List Md} {m : Mo} {pos p : Pos} {e : Expr} {CX : CXT} {k kr : Nat} {ks : List Nat} {fa : Addr} {fd : FuncData} {ps : List Str} {E : XK} {x : Str} {es : List Expr} {fs : En → Rz (List D)} {Fn : List D → Rz D}
theorem sim_callC (Fo : FnOk X.prog X.w X.K X.mg X.base CX k fa fd ps (spC X.K cl.c ks Fn kr)) (hr : Room k X.A) (hg : Gl X x) (hm : X.mg x = some (.ref fa)) (hk : PySem.W.keepIn X.K (.ref fa) = true) (hb : Binds X.K fd ps []) (hx : Passes CX X E)
    (hE : ∀ c H, W c H → E (.ref (cl c)) none H) (ha : SimAM cl W X G (e :: es) fs ks) (hdb : (x == ("__debug__" : Str)) = false := by decide) (he : starEach (e :: es) X.env = (false, eval e X.env) :: starEach es X.env := by rfl) (hpl : (backTo pos (starEach es X.env)).any (·.1) = false := by rfl) :
    SimE cl W X G (.Call (.Name x p) (e :: es) [] pos) (aF (cO ks.length Fn) fs) (.N kr) :=
  PE.weak (pe_call (Fo.imp (spCG_cl (cl := cl) (cl' := ⟨cl.c, fun _ => .non⟩) rfl)) hr hg hm hk hb .nil hx ha hdb he hpl) fun σ H Q ⟨env, So, F, s, q⟩ => by
    unfold aF at q
    refine ⟨env, So, F, s, ?_⟩
    cases hf : fs env with
    | er c => rw [hf] at q; exact q
    | no => rw [hf] at q; exact q
    | ok ds =>
      rw [hf] at q
      simp only [Rz.bind_ok] at q
      refine fun vs H1 F1 g ⟨Ss, o, nd, fr⟩ => ?_
      obtain ⟨l1, l2, l3⟩ := o.len
      rw [List.append_nil]
      obtain ⟨c, q⟩ := Res.ifp q
      refine ⟨by omega, F1, ds, Ss, g.i, o, nd, fun a ha => (fr a ha).2, ?_⟩
      have eh : Ex H (hide Ss.flatten H1) := ex_hide g.h fun a ha => (fr a ha).1
      have gh : Grow F H F1 (hide Ss.flatten H1) := ⟨eh, g.f, ex_hide g.i fun a ha => (fr a ha).2, g.n⟩
      cases hn : Fn ds with
      | ok d => rw [hn] at q; exact fun v H2 F2 g2 o2 => q v H2 F2 (gh.trans g2) (o2.back eh)
      | er c => rw [hn] at q; exact fun H2 e => hE c H2 (q H2 (eh.trans e))
      | no => rw [hn] at q; exact q
end
section
variable {P : Program} {w : World} {K : PySem.W.Frag} {mg : Str → Option Value} {base : Heap} {cl : Cl} {c : Nat → Addr}
theorem flat_at {Ss : List (List Addr)} {i : Nat} {a : Addr} (h : a ∈ Ss.getD i []) : a ∈ Ss.flatten := by
  rw [List.getD_eq_getElem?_getD] at h
  cases hi : Ss[i]? with
  | none => rw [hi] at h; simp at h
  | some S => rw [hi] at h; exact List.mem_flatten.mpr ⟨S, List.mem_of_getElem? hi, h⟩
theorem sl_startC {N : List Str} {ks : List Nat} {vs : List V} {ds : List D} {Ss : List (List Addr)} {F H : Hp} (ex : Ex F H) (o : OwnM K cl F H ks vs ds Ss) (nd : Ss.flatten.Nodup) (fr : ∀ a ∈ Ss.flatten, F a = none) (hpn : ∀ i k, ks[i]? = some k → 100 ≤ k → vs[i]? = some (cl.p i)) :
    Sl K cl (ks.map some ++ List.replicate (N.length - ks.length) (some 0)) (ini N.length ds) (L2.start N vs) (fun i => Ss.getD i []) F H where
  len := by
    obtain ⟨l1, l2, l3⟩ := o.len
    unfold ini L2.start
    rw [List.length_append, List.length_append, List.length_map, List.length_map, List.length_replicate, List.length_replicate, l1]
    exact Nat.le_refl _
  sl := fun i k d h1 h2 => by
    obtain ⟨l1, l2, l3⟩ := o.len
    unfold ini at h2
    by_cases hi : i < ds.length
    · rw [List.getElem?_append_left (by simpa using hi), List.getElem?_map] at h2
      rw [List.getElem?_append_left (by rw [List.length_map]; omega), List.getElem?_map] at h1
      cases hd : ds[i]? with
      | none => rw [hd] at h2; cases h2
      | some d' =>
        rw [hd] at h2
        cases h2
        cases hk : ks[i]? with
        | none => rw [hk] at h1; cases h1
        | some k' =>
          rw [hk] at h1
          cases h1
          obtain ⟨v, S, hv, hS, ov⟩ := o.at hk hd
          refine ⟨v, ?_, ?_⟩
          · unfold L2.start
            rw [List.getElem?_append_left (by rw [List.length_map]; omega), List.getElem?_map, hv]; rfl
          · rw [List.getD_eq_getElem?_getD, hS]; exact ov
    · rw [List.getElem?_append_right (by simpa using hi), List.getElem?_replicate] at h2
      split at h2 <;> cases h2
  nd := fun i => by
    rw [List.getD_eq_getElem?_getD]
    cases hi : Ss[i]? with
    | none => exact List.nodup_nil
    | some S => exact (List.pairwise_flatten.mp nd).1 S (List.mem_of_getElem? hi)
  dj := fun i j a hne h1 h2 => by
    rw [List.getD_eq_getElem?_getD] at h1 h2
    cases hi : Ss[i]? with
    | none => rw [hi] at h1; simp at h1
    | some S =>
      cases hj : Ss[j]? with
      | none => rw [hj] at h2; simp at h2
      | some T =>
        rw [hi] at h1
        rw [hj] at h2
        have h1 : a ∈ S := h1
        have h2 : a ∈ T := h2
        obtain ⟨li, ei⟩ := List.getElem?_eq_some_iff.mp hi
        obtain ⟨lj, ej⟩ := List.getElem?_eq_some_iff.mp hj
        have pw := List.pairwise_iff_getElem.mp (List.pairwise_flatten.mp nd).2
        rcases Nat.lt_or_gt_of_ne hne with z | z
        · have := pw i j li lj z
          rw [ei, ej] at this
          exact this a h1 a h2 rfl
        · have := pw j i lj li z
          rw [ei, ej] at this
          exact this a h2 a h1 rfl
  fr := fun i a h => fr a (flat_at h)
  lv := fun i a h => o.live a (flat_at h)
  ex := ex
  pn := fun i k h1 h2 => by
    by_cases hi : i < ks.length
    · rw [List.getElem?_append_left (by rw [List.length_map]; exact hi), List.getElem?_map] at h1
      cases hk : ks[i]? with
      | none => rw [hk] at h1; cases h1
      | some k' =>
        rw [hk] at h1
        cases h1
        have hv := hpn i k hk h2
        unfold L2.start
        rw [List.getElem?_append_left (by rw [List.length_map]; exact (List.getElem?_eq_some_iff.mp hv).1), List.getElem?_map, hv]; rfl
    · exfalso
      rw [List.getElem?_append_right (by rw [List.length_map]; omega), List.getElem?_replicate] at h1
      split at h1
      · cases h1; omega
      · cases h1
theorem fn_okC {x qual : Str} {st : Stmt} {f : Addr} {fd : FuncData} {k kr : Nat} {u : En → Rz Fl} {G' : List Md} (N ps : List Str) (n : Nat) (ks : List Nat) (G0 : List Md) (Fo : Fun K x qual st f fd) (S : FnScope N ps (defScope st))
    (hb : ∀ (cdv : Value) (A : Around) (outer : List Env) (s : Shared) (H : Hp) (E : XK), Room k (A.deeper (envOfC qual (defScope st) s.heap.objs.size f cdv)) →
      SimSs ⟨c, fun _ => .non⟩ W0 (cxOf CX0 P w K mg base N qual (defScope st) f cdv A outer s H E).nox G0 (defBody st) u G' kr) (hn : N.length = n) (hp : ps.length = ks.length) (hG : G0 = ks.map some ++ List.replicate (n - ks.length) (some 0)) (hks : ∀ k ∈ ks, k < 100 := by decide) :
    FnOk P w K mg base CX0 (k + 1) f fd ps (spC K c ks (fnN n u) kr) := by
  subst hn hG
  exact Fo.ok S (fun vs H Q E h => h.1.trans hp.symm) fun cdv A outer s H vs Q E hr ⟨hl, Fz, ds, Ss, ex, o, nd, fr, q⟩ => ⟨_, hb cdv A outer s H E hr (hide Ss.flatten H) Fz, ini N.length ds, fun i => Ss.getD i [], Fz, sl_startC ex o nd fr (fun i k h1 h2 => absurd (hks k (List.mem_of_getElem? h1)) (by omega)), ⟨hide_ex, Evl.Ex.refl _, fun a h1 h2 => absurd h1 h2, fun i a h => hide_in (flat_at h)⟩, by
    unfold fnN at q
    cases hu : u (ini N.length ds) with
    | er c => rw [hu] at q; exact (show False from q).elim
    | no => rw [hu] at q; exact q
    | ok o =>
      rw [hu] at q
      cases o with
      | nx env' => exact fun σ' H' So' F' s' b' => q .non H' F' ⟨b'.b, b'.f, s'.ex, b'.n⟩ ⟨[], .im .non rfl, List.nodup_nil, fun _ z => nomatch z⟩
      | rt d => exact fun v H' F' S h1 h2 h3 h4 o nd fr => q v H' F' ⟨h1, h2, h3, h4⟩ ⟨S, o, nd, fr⟩⟩
/-- a def that is handed owned things -/
structure DfC (P : Program) (w : World) (K : PySem.W.Frag) (mg : Str → Option Value) (base : Heap) (c : Nat → Addr) (x : Str) (lvl : Nat) (ps : List Str) (ks : List Nat) (Fn : List D → Rz D) (kr : Nat) (f : Addr) (fd : FuncData) : Prop where
  ok : FnOk P w K mg base CX0 lvl f fd ps (spC K c ks Fn kr)
  m : mg x = some (.ref f)
  kp : PySem.W.keepIn K (.ref f) = true
  bi : Binds K fd ps []
end
/-! ### is of truth values -/
section
variable {X : Cx} {cl : Cl} {W : Nat → Hp → Prop} {G : List Md} {m : Mo} {pos : Pos} {a b : Expr} {f g : En → Rz D}
def isbD (x y : D) : Rz D := match x, y with
  | .bl i, .bl j => .ok (.bl (decide (i = j)))
  | _, _ => .no
def nisbD (x y : D) : Rz D := match x, y with
  | .bl i, .bl j => .ok (.bl (!decide (i = j)))
  | _, _ => .no
theorem hop_isb {K : PySem.W.Frag} : ∀ F H x y dx dy Q, Ex F H → Rep K cl H x dx → Rep K cl H y dy → Res K cl W (isbD dx dy) m F H Q → rIsB x y H Q := fun F H x y dx dy Q ex rx ry q => by
  cases rx <;> first | exact q.elim | skip
  cases ry <;> first | exact q.elim | skip
  exact ⟨_, _, rfl, rfl, q.bl ex⟩
theorem hop_nisb {K : PySem.W.Frag} : ∀ F H x y dx dy Q, Ex F H → Rep K cl H x dx → Rep K cl H y dy → Res K cl W (nisbD dx dy) m F H Q → rNotB x y H Q := fun F H x y dx dy Q ex rx ry q => by
  cases rx <;> first | exact q.elim | skip
  cases ry <;> first | exact q.elim | skip
  exact ⟨_, _, rfl, rfl, q.bl ex⟩
theorem sim_isb (ha : SimE cl W X G a f .R) (hb : SimE cl W X G b g .R) : SimE cl W X G (.Compare a [.Is] [b] pos) (b2 isbD f g) m := sim_cmpR op_isBl hop_isb ha hb (nomark _)
theorem sim_nisb (ha : SimE cl W X G a f .R) (hb : SimE cl W X G b g .R) : SimE cl W X G (.Compare a [.IsNot] [b] pos) (b2 nisbD f g) m := sim_cmpR op_notBl hop_nisb ha hb (nomark _)
theorem simT_isb (ha : SimE cl W X G a f .R) (hb : SimE cl W X G b g .R) : SimT cl W X G (.Compare a [.Is] [b] pos) (tF (b2 isbD f g)) := simT_cmpR op_isBl hop_isb ha hb (nomark _)
theorem simT_nisb (ha : SimE cl W X G a f .R) (hb : SimE cl W X G b g .R) : SimT cl W X G (.Compare a [.IsNot] [b] pos) (tF (b2 nisbD f g)) := simT_cmpR op_notBl hop_nisb ha hb (nomark _)
end
end Pv

set_option Elab.async false
set_option linter.all false
set_option maxRecDepth 100000
set_option maxHeartbeats 1000000
/-! Pv: defs that change what they are handed. -/
namespace Pv
open PySem PySem.Spec PyProof.Rows L2
def bm (b : Bool) : Nat := if b = true then 140 else 0
/-- which args are slots of the caller's, to which depth owned -/
abbrev Js := List (Option (Nat × Nat))
def slotsB : Js → List Nat
  | [] => []
  | some (j, _) :: js => j :: slotsB js
  | none :: js => slotsB js
def putB : Js → List D → En → En
  | some (j, _) :: js, x :: xs, e => putB js xs (e.set j (some x))
  | none :: js, _ :: xs, e => putB js xs e
  | _, _, e => e
def putS : Js → List (List Addr) → (Nat → List Addr) → Nat → List Addr
  | some (j, _) :: js, T :: Ts, So => putS js Ts fun i => if i = j then T else So i
  | none :: js, _ :: Ts, So => putS js Ts So
  | _, _, So => So
def gdB : Js → List D → Bool
  | some (_, k) :: js, d :: ds => immK d (min k 40) && gdB js ds
  | none :: js, _ :: ds => gdB js ds
  | [], [] => true
  | _, _ => false
def bsB (js : Js) : List Bool := js.map Option.isSome
def slS (So : Nat → List Addr) : Option (Nat × Nat) → List Addr
  | none => []
  | some (j, _) => So j
def modesB (G : List Md) (js : Js) : Bool := js.all fun o => match o with
  | none => true
  | some (j, k) => decide (G[j]? = some (some k))
theorem modesB_at {G : List Md} {js : Js} (h : modesB G js = true) {j k : Nat} (m : some (j, k) ∈ js) : G[j]? = some (some k) := of_decide_eq_true (List.all_eq_true.mp h _ m)
theorem slots_mem : ∀ {js : Js} {i : Nat}, i ∈ slotsB js → ∃ (t k : Nat), js[t]? = some (some (i, k))
  | [], _, h => nomatch h
  | some (j, k) :: js, i, h => by
    rcases List.mem_cons.mp h with rfl | h
    · exact ⟨0, k, rfl⟩
    · obtain ⟨t, k, h⟩ := slots_mem h; exact ⟨t + 1, k, by simpa using h⟩
  | none :: js, i, h => by
    obtain ⟨t, k, h⟩ := slots_mem (js := js) h; exact ⟨t + 1, k, by simpa using h⟩
theorem mem_slots : ∀ {js : Js} {i k : Nat}, some (i, k) ∈ js → i ∈ slotsB js
  | [], _, _, h => nomatch h
  | some (j, k') :: js, i, k, h => by
    rcases List.mem_cons.mp h with e | h
    · cases e; exact List.mem_cons_self
    · exact List.mem_cons_of_mem _ (mem_slots h)
  | none :: js, i, k, h => by
    rcases List.mem_cons.mp h with e | h
    · cases e
    · exact mem_slots (js := js) h
theorem putB_len : ∀ (js : Js) (xs : List D) (e : En), (putB js xs e).length = e.length
  | [], _, _ => rfl
  | some (j, k) :: js, [], _ => rfl
  | none :: js, [], _ => rfl
  | some (j, k) :: js, x :: xs, e => by rw [putB, putB_len js xs, List.length_set]
  | none :: js, x :: xs, e => by rw [putB, putB_len js xs]
theorem putB_off : ∀ {js : Js} {xs : List D} {e : En} {i : Nat}, i ∉ slotsB js → (putB js xs e)[i]? = e[i]?
  | [], _, _, _, _ => rfl
  | some (j, k) :: js, [], _, _, _ => rfl
  | none :: js, [], _, _, _ => rfl
  | some (j, k) :: js, x :: xs, e, i, h => by
    obtain ⟨h1, h2⟩ := not_or.mp (fun z => h (List.mem_cons.mpr z))
    rw [putB, putB_off h2, List.getElem?_set_ne (Ne.symm h1)]
  | none :: js, x :: xs, e, i, h => by rw [putB, putB_off (js := js) h]
theorem putS_off : ∀ {js : Js} {xs : List (List Addr)} {e : Nat → List Addr} {i : Nat}, i ∉ slotsB js → putS js xs e i = e i
  | [], _, _, _, _ => rfl
  | some (j, k) :: js, [], _, _, _ => rfl
  | none :: js, [], _, _, _ => rfl
  | some (j, k) :: js, x :: xs, e, i, h => by
    obtain ⟨h1, h2⟩ := not_or.mp (fun z => h (List.mem_cons.mpr z))
    rw [putS, putS_off h2, if_neg h1]
  | none :: js, x :: xs, e, i, h => by rw [putS, putS_off (js := js) h]
theorem putB_on : ∀ {js : Js} {xs : List D} {e : En} {t j k : Nat} {x : D}, (slotsB js).Nodup → js[t]? = some (some (j, k)) → xs[t]? = some x → j < e.length → (putB js xs e)[j]? = some (some x)
  | [], _, _, t, _, _, _, _, h, _, _ => by simp at h
  | _ :: _, [], _, t, _, _, _, _, _, h, _ => by simp at h
  | o :: js, y :: xs, e, 0, j, k, x, nd, h1, h2, hl => by
    simp at h1 h2
    subst h1 h2
    obtain ⟨n1, n2⟩ := List.nodup_cons.mp nd
    rw [putB, putB_off n1, List.getElem?_set_self hl]
  | some (j', k') :: js, y :: xs, e, t + 1, j, k, x, nd, h1, h2, hl => by
    obtain ⟨n1, n2⟩ := List.nodup_cons.mp nd
    rw [putB]
    exact putB_on n2 (by simpa using h1) (by simpa using h2) (by rw [List.length_set]; exact hl)
  | none :: js, y :: xs, e, t + 1, j, k, x, nd, h1, h2, hl => by
    rw [putB]
    exact putB_on (js := js) nd (by simpa using h1) (by simpa using h2) hl
theorem putS_on : ∀ {js : Js} {xs : List (List Addr)} {e : Nat → List Addr} {t j k : Nat} {x : List Addr}, (slotsB js).Nodup → js[t]? = some (some (j, k)) → xs[t]? = some x → putS js xs e j = x
  | [], _, _, t, _, _, _, _, h, _ => by simp at h
  | _ :: _, [], _, t, _, _, _, _, _, h => by simp at h
  | o :: js, y :: xs, e, 0, j, k, x, nd, h1, h2 => by
    simp at h1 h2
    subst h1 h2
    obtain ⟨n1, n2⟩ := List.nodup_cons.mp nd
    rw [putS, putS_off n1, if_pos rfl]
  | some (j', k') :: js, y :: xs, e, t + 1, j, k, x, nd, h1, h2 => by
    obtain ⟨n1, n2⟩ := List.nodup_cons.mp nd
    rw [putS]
    exact putS_on n2 (by simpa using h1) (by simpa using h2)
  | none :: js, y :: xs, e, t + 1, j, k, x, nd, h1, h2 => by
    rw [putS]
    exact putS_on (js := js) nd (by simpa using h1) (by simpa using h2)
theorem gdB_len : ∀ {js : Js} {ds : List D}, gdB js ds = true → js.length = ds.length
  | [], [], _ => rfl
  | [], _ :: _, h => by simp [gdB] at h
  | some _ :: _, [], h => by simp [gdB] at h
  | none :: _, [], h => by simp [gdB] at h
  | some (_, _) :: js, _ :: ds, h => by
    rw [gdB, Bool.and_eq_true] at h
    simp [gdB_len h.2]
  | none :: js, _ :: ds, h => by
    rw [gdB] at h
    simp [gdB_len h]
theorem gdB_at : ∀ {js : Js} {ds : List D} {t j k : Nat} {d : D}, gdB js ds = true → js[t]? = some (some (j, k)) → ds[t]? = some d → immK d (min k 40) = true
  | [], _, t, _, _, _, _, h, _ => by simp at h
  | _ :: _, [], t, _, _, _, _, _, h => by simp at h
  | o :: js, y :: xs, 0, j, k, x, g, h1, h2 => by
    simp at h1 h2
    subst h1 h2
    rw [gdB, Bool.and_eq_true] at g
    exact g.1
  | some (j', k') :: js, y :: xs, t + 1, j, k, x, g, h1, h2 => by
    rw [gdB, Bool.and_eq_true] at g
    exact gdB_at g.2 (by simpa using h1) (by simpa using h2)
  | none :: js, y :: xs, t + 1, j, k, x, g, h1, h2 => by
    rw [gdB] at g
    exact gdB_at (js := js) g (by simpa using h1) (by simpa using h2)
inductive ArgB (K : PySem.W.Frag) (cl : Cl) (F : Hp) (σ : L2.St) (env : En) : Js → List V → List D → Prop
  | nil : ArgB K cl F σ env [] [] []
  | z {js : Js} {v : V} {vs : List V} {d : D} {ds : List D} : Rep K cl F v d → ArgB K cl F σ env js vs ds → ArgB K cl F σ env (none :: js) (v :: vs) (d :: ds)
  | b {j k : Nat} {js : Js} {v : V} {vs : List V} {d : D} {ds : List D} : σ[j]? = some (some v) → env[j]? = some (some d) → ArgB K cl F σ env js vs ds → ArgB K cl F σ env (some (j, k) :: js) (v :: vs) (d :: ds)
section
variable {K : PySem.W.Frag} {cl : Cl} {F F' H H' : Hp} {G : List Md} {env : En} {σ : L2.St} {So : Nat → List Addr}
theorem ArgB.mono (e : Ex F F') : ∀ {js : Js} {vs : List V} {ds : List D}, ArgB K cl F σ env js vs ds → ArgB K cl F' σ env js vs ds
  | _, _, _, .nil => .nil
  | _, _, _, .z r t => .z (r.mono e) (t.mono e)
  | _, _, _, .b h1 h2 t => .b h1 h2 (t.mono e)
theorem ArgB.at : ∀ {js : Js} {vs : List V} {ds : List D} {t j k : Nat}, ArgB K cl F σ env js vs ds → js[t]? = some (some (j, k)) → ∃ v, vs[t]? = some v ∧ σ[j]? = some (some v)
  | _, _, _, _, _, _, .nil, h => by simp at h
  | _, _, _, 0, _, _, .z _ _, h => by simp at h
  | _, _, _, t + 1, j, k, .z _ r, h => by
    obtain ⟨v, h1, h2⟩ := r.at (t := t) (j := j) (k := k) (by simpa using h)
    exact ⟨v, by simpa using h1, h2⟩
  | _, _, _, 0, _, _, .b h1 _ _, h => by
    simp at h
    obtain ⟨rfl, rfl⟩ := h
    exact ⟨_, rfl, h1⟩
  | _, _, _, t + 1, j, k, .b _ _ r, h => by
    obtain ⟨v, h1, h2⟩ := r.at (t := t) (j := j) (k := k) (by simpa using h)
    exact ⟨v, by simpa using h1, h2⟩
theorem ArgB.own (s : Sl K cl G env σ So F H) : ∀ {js : Js} {vs : List V} {ds : List D}, ArgB K cl F σ env js vs ds → modesB G js = true → gdB js ds = true → OwnM K cl F H ((bsB js).map bm) vs ds (js.map (slS So))
  | _, _, _, .nil, _, _ => .nil
  | none :: js, _, _, .z r t, hm, hg => by
    rw [gdB] at hg
    exact .cons (.z r) (t.own s (by rw [modesB, List.all_cons, Bool.and_eq_true] at hm; exact hm.2) hg)
  | some (j, k) :: js, _, _, .b h1 h2 t, hm, hg => by
    rw [gdB, Bool.and_eq_true] at hg
    have hG := modesB_at hm List.mem_cons_self
    obtain ⟨v, h3, o⟩ := s.sl j k _ hG h2
    rw [h1] at h3; cases h3
    exact .cons (o.conv hg.1 (by omega) (by show min k 40 ≤ 140; omega)) (t.own s (by rw [modesB, List.all_cons, Bool.and_eq_true] at hm; exact hm.2) hg.2)
theorem slS_mem : ∀ {js : Js} {a : Addr}, a ∈ (js.map (slS So)).flatten → ∃ j, j ∈ slotsB js ∧ a ∈ So j
  | [], _, h => by simp at h
  | o :: js, a, h => by
    rw [List.map_cons, List.flatten_cons, List.mem_append] at h
    rcases h with h | h
    · cases o with
      | none => exact nomatch h
      | some p => obtain ⟨j, k⟩ := p; exact ⟨j, List.mem_cons_self, h⟩
    · obtain ⟨j, h1, h2⟩ := slS_mem h
      refine ⟨j, ?_, h2⟩
      cases o with
      | none => exact h1
      | some p => exact List.mem_cons_of_mem _ h1
theorem slS_nodup (s : Sl K cl G env σ So F H) : ∀ {js : Js}, (slotsB js).Nodup → (js.map (slS So)).flatten.Nodup
  | [], _ => List.nodup_nil
  | none :: js, h => by
    rw [List.map_cons, List.flatten_cons]
    exact slS_nodup s (js := js) h
  | some (j, k) :: js, h => by
    obtain ⟨h1, h2⟩ := List.nodup_cons.mp h
    rw [List.map_cons, List.flatten_cons]
    refine List.nodup_append.mpr ⟨s.nd j, slS_nodup s h2, fun a ha b hb e => ?_⟩
    subst e
    obtain ⟨j', h3, h4⟩ := slS_mem hb
    exact s.dj j j' a (fun z => h1 (z ▸ h3)) ha h4
end
/-! ### the promise -/
def spBG (K : PySem.W.Frag) (cl : Cl) (bs : List Bool) (F : List D → Rz (List D)) : Sp := fun vs H Q E => vs.length = bs.length ∧ ∃ Fz ds Ss, Ex Fz H ∧ OwnM K cl Fz H (bs.map bm) vs ds Ss ∧ Ss.flatten.Nodup ∧ (∀ a ∈ Ss.flatten, Fz a = none) ∧ (match F ds with
  | .ok es => ∀ H2 F2 Ts, Grow Fz (hide Ss.flatten H) F2 H2 → OwnM K cl F2 H2 (bs.map bm) vs es Ts → Ts.flatten.Nodup → (∀ a ∈ Ts.flatten, hide Ss.flatten H a = none ∧ F2 a = none) → Q .non H2
  | .er c => ∀ H2, Ex (hide Ss.flatten H) H2 → E (.ref (cl c)) none H2
  | .no => False)
theorem spBG_cl {K : PySem.W.Frag} {cl cl' : Cl} (e : cl.c = cl'.c) {bs : List Bool} {F : List D → Rz (List D)} : ∀ vs H Q E, spBG K cl bs F vs H Q E → spBG K cl' bs F vs H Q E := fun vs H Q E ⟨h1, Fz, ds, Ss, h2, h3, h5, h6, h4⟩ => ⟨h1, Fz, ds, Ss, h2, h3.toCl e, h5, h6, by
  cases hf : F ds with
  | ok r => rw [hf] at h4; exact fun H2 F2 Ts g o => h4 H2 F2 Ts g (o.toCl e.symm)
  | er c => rw [hf] at h4; obtain ⟨c1, p1⟩ := cl; obtain ⟨c2, p2⟩ := cl'; cases e; exact h4
  | no => rw [hf] at h4; exact h4⟩
def spB (K : PySem.W.Frag) (c : Nat → Addr) (bs : List Bool) (F : List D → Rz (List D)) : Sp := spBG K ⟨c, fun _ => .non⟩ bs F
/-! ### the call -/
def callBF (js : Js) (Fn : List D → Rz (List D)) (fs : En → Rz (List D)) : En → Rz Fl := fun env => (fs env).bind fun ds => if gdB js ds = true then (Fn ds).bind fun es => if gdB js es = true then .ok (.nx (putB js es env)) else .no else .no
def tAB (K : PySem.W.Frag) (cl : Cl) (W : Nat → Hp → Prop) (G : List Md) (js : Js) (f : En → Rz (List D)) : TA := fun σ H Q => ∃ env So F, Sl K cl G env σ So F H ∧ (match f env with
  | .ok ds => ∀ vs H' F', Grow F H F' H' → ArgB K cl F' σ env js vs ds → Q vs H'
  | .er c => ∀ H', Ex H H' → W c H'
  | .no => False)
abbrev SimAB (cl : Cl) (W : Nat → Hp → Prop) (X : Cx) (G : List Md) (es : List Expr) (f : En → Rz (List D)) (js : Js) : Prop := PA X es (tAB X.K cl W G js f)
section
variable {X : Cx} {cl : Cl} {W : Nat → Hp → Prop} {G : List Md} {e : Expr} {es : List Expr} {f : En → Rz D} {fs : En → Rz (List D)} {j k kr : Nat} {js : Js} {pos p pos2 : Pos} {CX : CXT} {fa : Addr} {fd : FuncData} {ps : List Str} {E : XK} {x : Str} {Fn : List D → Rz (List D)}
theorem simAB_nil : SimAB cl W X G [] nilF [] := PA.weak pa_nil fun σ H Q ⟨env, So, F, s, q⟩ => q [] H F (Grow.refl s.ex) .nil
theorem simAB_z (ha : SimE cl W X G e f (.N 0)) (hb : SimAB cl W X G es fs js) (hs : starEach (e :: es) X.env = (false, eval e X.env) :: starEach es X.env := by rfl) : SimAB cl W X G (e :: es) (consF f fs) (none :: js) :=
  PA.weak (pa_cons ha hb hs) fun σ H Q ⟨env, So, F, s, q⟩ => by
    unfold consF at q
    refine ⟨env, So, F, s, ?_⟩
    cases hf : f env with
    | er c => rw [hf] at q; exact q
    | no => rw [hf] at q; exact q
    | ok x =>
      rw [hf] at q
      simp only [Rz.bind_ok] at q
      refine fun v H1 F1 g1 ⟨S, o1, _, _⟩ => ⟨env, So, F1, s.grow g1, ?_⟩
      cases hg : fs env with
      | er c => rw [hg] at q; exact fun H' e => q H' (g1.h.trans e)
      | no => rw [hg] at q; exact q
      | ok xs =>
        rw [hg] at q
        simp only [Rz.bind_ok] at q
        exact fun vs H2 F2 g2 o2 => q (v :: vs) H2 F2 (g1.trans g2) (.z (o1.zero_nil.2.mono g2.f) o2)
theorem simAB_b (ha : PE X e (tVar j)) (hG : G[j]? = some (some k)) (hb : SimAB cl W X G es fs js) (hs : starEach (e :: es) X.env = (false, eval e X.env) :: starEach es X.env := by rfl) : SimAB cl W X G (e :: es) (consF (vF j) fs) (some (j, k) :: js) :=
  PA.weak (pa_cons ha hb hs) fun σ H Q ⟨env, So, F, s, q⟩ => by
    unfold consF vF at q
    cases hd : env[j]? with
    | none => rw [hd] at q; exact q.elim
    | some od =>
      cases od with
      | none => rw [hd] at q; exact q.elim
      | some d =>
        rw [hd] at q
        simp only [Rz.bind_ok] at q
        obtain ⟨v, h1, _⟩ := s.sl j k d hG hd
        refine ⟨v, h1, env, So, F, s, ?_⟩
        cases hg : fs env with
        | er c => rw [hg] at q; exact q
        | no => rw [hg] at q; exact q
        | ok xs =>
          rw [hg] at q
          simp only [Rz.bind_ok] at q
          exact fun vs H2 F2 g2 o2 => q (v :: vs) H2 F2 g2 (.b h1 hd o2)
theorem simS_callB (Fo : FnOk X.prog X.w X.K X.mg X.base CX k fa fd ps (spB X.K cl.c (bsB js) Fn)) (hr : Room k X.A) (hg : Gl X x) (hm : X.mg x = some (.ref fa)) (hk : PySem.W.keepIn X.K (.ref fa) = true) (hb : Binds X.K fd ps []) (hx : Passes CX X E)
    (hE : ∀ c H, W c H → E (.ref (cl c)) none H) (ha : SimAB cl W X G (e :: es) fs js) (hj : modesB G js = true := by rfl) (hn : (slotsB js).Nodup := by decide) (hdb : (x == ("__debug__" : Str)) = false := by decide) (he : starEach (e :: es) X.env = (false, eval e X.env) :: starEach es X.env := by rfl) (hpl : (backTo pos (starEach es X.env)).any (·.1) = false := by rfl)
    (hs : swapsWith (.Call (.Name x p) (e :: es) [] pos) none pos2.line X.env = pure false := by rfl) :
    SimS cl W X G (.Expr (.Call (.Name x p) (e :: es) [] pos) pos2) (callBF js Fn fs) G kr := fun B F0 =>
  PS.weak (ps_expr (pe_call (Fo.imp (spBG_cl (cl := cl) (cl' := ⟨cl.c, fun _ => .non⟩) rfl)) hr hg hm hk hb .nil hx ha hdb he hpl) hs) fun Dn σ H ⟨env, So, F, s, bd, q⟩ => by
    unfold callBF at q
    refine ⟨env, So, F, s, ?_⟩
    cases hf : fs env with
    | er c => rw [hf] at q; exact fun H' e => q H' (bd.b.trans e)
    | no => rw [hf] at q; exact q
    | ok ds =>
      rw [hf] at q
      simp only [Rz.bind_ok] at q
      refine fun vs H1 F1 g ab => ?_
      have s1 := s.grow g
      have b1 := bd.grow s g
      by_cases hgd : gdB js ds = true
      · rw [if_pos hgd] at q
        have om := ab.own s1 hj hgd
        obtain ⟨l1, l2, l3⟩ := om.len
        have nd := slS_nodup s1 hn
        have fr : ∀ a ∈ (js.map (slS So)).flatten, F1 a = none := fun a ha => by
          obtain ⟨j, _, h⟩ := slS_mem ha; exact s1.fr j a h
        have hB : ∀ a ∈ (js.map (slS So)).flatten, B a = none := fun a ha => by
          obtain ⟨j, _, h⟩ := slS_mem ha; exact b1.o j a h
        show spBG X.K cl (bsB js) Fn (vs ++ []) H1 (fun x H1 => Dn.nx σ H1) E
        rw [List.append_nil]
        refine ⟨by rw [l1, ← l2, List.length_map], F1, ds, js.map (slS So), s1.ex, om, nd, fr, ?_⟩
        have bh : Ex B (hide (js.map (slS So)).flatten H1) := ex_hide b1.b hB
        cases hn' : Fn ds with
        | er c => rw [hn'] at q; exact fun H2 e => hE c H2 (q H2 (bh.trans e))
        | no => rw [hn'] at q; exact q
        | ok es =>
          rw [hn'] at q
          simp only [Rz.bind_ok] at q
          refine fun H2 F2 Ts gr o2 nd2 fr2 => ?_
          by_cases hge : gdB js es = true
          · rw [if_pos hge] at q
            have q : ∀ σ' H' So' F', Sl X.K cl G (putB js es env) σ' So' F' H' → Bd B F0 So' F' H' → Dn.nx σ' H' := q
            obtain ⟨m1, m2, m3⟩ := o2.len
            -- what the call leaves alone
            have out : ∀ i, i ∉ slotsB js → ∀ a ∈ So i, a ∉ (js.map (slS So)).flatten := fun i hi a ha z => by
              obtain ⟨j, h1, h2⟩ := slS_mem z
              exact s1.dj i j a (fun z => hi (z ▸ h1)) ha h2
            have same : ∀ i, i ∉ slotsB js → ∀ a ∈ So i, hide (js.map (slS So)).flatten H1 a = H1 a := fun i hi a ha => by
              unfold hide; rw [if_neg (out i hi a ha)]
            have keep : ∀ i, i ∉ slotsB js → ∀ a ∈ So i, H2 a = H1 a := fun i hi a ha => by
              have e1 := same i hi a ha
              rw [mut_keep gr.h (by rw [e1]; exact s1.lv i a ha), e1]
            have free : ∀ i, i ∉ slotsB js → ∀ a ∈ So i, F2 a = none := fun i hi a ha => by
              cases z : F2 a with
              | none => rfl
              | some o => exact absurd (by rw [same i hi a ha]; exact s1.lv i a ha) (gr.n a (s1.fr i a ha) (by rw [z]; simp))
            have at_ : ∀ i, i ∈ slotsB js → ∃ (t k : Nat) (v : V) (d : D) (T : List Addr), js[t]? = some (some (i, k)) ∧ G[i]? = some (some k) ∧ σ[i]? = some (some v) ∧ es[t]? = some d ∧ Ts[t]? = some T ∧ Own X.K cl F2 H2 k v d T ∧ putS js Ts So i = T := fun i hi => by
              obtain ⟨t, k, ht⟩ := slots_mem hi
              have hG := modesB_at hj (List.mem_of_getElem? ht)
              obtain ⟨v, hv, hσ⟩ := ab.at ht
              have hlt := (List.getElem?_eq_some_iff.mp ht).1
              have hle := gdB_len hge
              have hd : es[t]? = some es[t] := List.getElem?_eq_getElem (by omega)
              obtain ⟨v', T, h1, h2, h3⟩ := o2.at (i := t) (k := 140) (d := es[t]) (by
                rw [List.getElem?_map]; unfold bsB; rw [List.getElem?_map, ht]; rfl) hd
              rw [hv] at h1; cases h1
              exact ⟨t, k, v, _, T, ht, hG, hσ, hd, h2, h3.conv (gdB_at hge ht hd) (by omega) (by omega), putS_on hn ht h2⟩
            have nT : ∀ {t : Nat} {T : List Addr}, Ts[t]? = some T → T.Nodup ∧ ∀ a ∈ T, a ∈ Ts.flatten := fun {t T} h => ⟨(List.pairwise_flatten.mp nd2).1 T (List.mem_of_getElem? h), fun a ha => List.mem_flatten.mpr ⟨T, List.mem_of_getElem? h, ha⟩⟩
            refine q σ H2 (putS js Ts So) F2 ⟨by rw [putB_len]; exact s1.len, fun i k d h1 h2 => ?_, fun i => ?_, fun i l a hne h1 h2 => ?_, fun i a ha => ?_, fun i a ha => ?_, gr.i, s1.pn⟩ ⟨bh.trans gr.h, b1.f.trans gr.f, fun a h1 h2 => ?_, fun i a ha => ?_⟩
            · by_cases hi : i ∈ slotsB js
              · obtain ⟨t, k', v, d', T, ht, hG, hσ, hd, hT, o, hp⟩ := at_ i hi
                rw [hG] at h1; cases h1
                have hl : i < env.length := by
                  have := (List.getElem?_eq_some_iff.mp h2).1
                  rw [putB_len] at this; exact this
                rw [putB_on hn ht hd hl] at h2
                cases h2
                exact ⟨v, hσ, by rw [hp]; exact o⟩
              · rw [putB_off hi] at h2
                obtain ⟨v, h3, h4⟩ := s1.sl i k d h1 h2
                exact ⟨v, h3, by rw [putS_off hi]; exact h4.mono gr.f (keep i hi)⟩
            · by_cases hi : i ∈ slotsB js
              · obtain ⟨t, k', v, d', T, ht, hG, hσ, hd, hT, o, hp⟩ := at_ i hi
                rw [hp]; exact (nT hT).1
              · rw [putS_off hi]; exact s1.nd i
            · by_cases hi : i ∈ slotsB js
              · obtain ⟨t, k', v, d', T, ht, hG, hσ, hd, hT, o, hp⟩ := at_ i hi
                rw [hp] at h1
                by_cases hl : l ∈ slotsB js
                · obtain ⟨t2, k2, v2, d2, T2, ht2, hG2, hσ2, hd2, hT2, o', hp2⟩ := at_ l hl
                  rw [hp2] at h2
                  have ne : t ≠ t2 := fun z => by subst z; rw [ht] at ht2; cases ht2; exact hne rfl
                  obtain ⟨l1, e1⟩ := List.getElem?_eq_some_iff.mp hT
                  obtain ⟨l2, e2⟩ := List.getElem?_eq_some_iff.mp hT2
                  have pw := List.pairwise_iff_getElem.mp (List.pairwise_flatten.mp nd2).2
                  rcases Nat.lt_or_gt_of_ne ne with z | z
                  · have := pw t t2 l1 l2 z
                    rw [e1, e2] at this
                    exact this a h1 a h2 rfl
                  · have := pw t2 t l2 l1 z
                    rw [e1, e2] at this
                    exact this a h2 a h1 rfl
                · rw [putS_off hl] at h2
                  have z := (fr2 a ((nT hT).2 a h1)).1
                  rw [same l hl a h2] at z
                  have lv := s1.lv l a h2
                  rw [z] at lv
                  exact lv
              · rw [putS_off hi] at h1
                by_cases hl : l ∈ slotsB js
                · obtain ⟨t2, k2, v2, d2, T2, ht2, hG2, hσ2, hd2, hT2, o', hp2⟩ := at_ l hl
                  rw [hp2] at h2
                  have z := (fr2 a ((nT hT2).2 a h2)).1
                  rw [same i hi a h1] at z
                  have lv := s1.lv i a h1
                  rw [z] at lv
                  exact lv
                · rw [putS_off hl] at h2; exact s1.dj i l a hne h1 h2
            · by_cases hi : i ∈ slotsB js
              · obtain ⟨t, k', v, d', T, ht, hG, hσ, hd, hT, o, hp⟩ := at_ i hi
                rw [hp] at ha; exact (fr2 a ((nT hT).2 a ha)).2
              · rw [putS_off hi] at ha; exact free i hi a ha
            · by_cases hi : i ∈ slotsB js
              · obtain ⟨t, k', v, d', T, ht, hG, hσ, hd, hT, o, hp⟩ := at_ i hi
                rw [hp] at ha; exact o.live a ha
              · rw [putS_off hi] at ha; rw [keep i hi a ha]; exact s1.lv i a ha
            · intro hm
              by_cases hs : a ∈ (js.map (slS So)).flatten
              · rw [hB a hs] at hm; exact hm
              · cases z : F1 a with
                | some o => exact b1.n a h1 (by rw [z]; simp) hm
                | none =>
                  refine gr.n a z h2 ?_
                  unfold hide
                  rw [if_neg hs, mut_keep b1.b hm]; exact hm
            · by_cases hi : i ∈ slotsB js
              · obtain ⟨t, k', v, d', T, ht, hG, hσ, hd, hT, o, hp⟩ := at_ i hi
                rw [hp] at ha
                have z := (fr2 a ((nT hT).2 a ha)).1
                exact Evl.fresh_back bh z
              · rw [putS_off hi] at ha; exact b1.o i a ha
          · rw [if_neg hge] at q; exact q.elim
      · rw [if_neg hgd] at q; exact q.elim
end
end Pv

set_option Elab.async false
set_option linter.all false
set_option maxRecDepth 100000
set_option maxHeartbeats 1000000
/-! Pv: defs that change what they are handed, further: the def itself. -/
namespace Pv
open PySem PySem.Spec PyProof.Rows L2
def newsB : List Bool → List D → En → Rz (List D)
  | [], [], _ => .ok []
  | true :: bs, _ :: ds, some x :: e => (newsB bs ds e).bind fun xs => .ok (x :: xs)
  | false :: bs, d :: ds, _ :: e => (newsB bs ds e).bind fun xs => .ok (d :: xs)
  | _, _, _ => .no
/-- what a def that tells nothing has made of its args -/
def fnB (n : Nat) (bs : List Bool) (u : En → Rz Fl) (ds : List D) : Rz (List D) := match u (ini n ds) with
  | .ok (.nx e) => match newsB bs ds e with
    | .ok es => .ok es
    | _ => .no
  | _ => .no
def tsB (So : Nat → List Addr) : List Bool → Nat → List (List Addr)
  | [], _ => []
  | b :: bs, j => (if b = true then So j else []) :: tsB So bs (j + 1)
def endB : List Bool → List Md → Bool
  | [], _ => true
  | b :: bs, m :: G => (!b || decide (m = some 140)) && endB bs G
  | _ :: _, [] => false
theorem endB_at : ∀ {bs : List Bool} {G : List Md} {i : Nat}, endB bs G = true → bs[i]? = some true → G[i]? = some (some 140)
  | [], _, _, _, h => by simp at h
  | _ :: _, [], _, h, _ => by simp [endB] at h
  | b :: bs, m :: G, 0, h, h2 => by
    simp at h2
    subst h2
    rw [endB, Bool.and_eq_true] at h
    simp at h
    simp [h.1]
  | b :: bs, m :: G, i + 1, h, h2 => by
    rw [endB, Bool.and_eq_true] at h
    have := endB_at (i := i) h.2 (by simpa using h2)
    simpa using this
section
variable {K : PySem.W.Frag} {cl : Cl} {F H : Hp} {So : Nat → List Addr}
theorem news_own : ∀ (bs : List Bool) (ds : List D) (e : En) (es : List D) (vs : List V) (j : Nat), newsB bs ds e = .ok es →
    (∀ (i : Nat) (x : D), bs[i]? = some true → e[i]? = some (some x) → ∃ v, vs[i]? = some v ∧ Own K cl F H 140 v x (So (j + i))) → (∀ (i : Nat) (d : D), bs[i]? = some false → ds[i]? = some d → ∃ v, vs[i]? = some v ∧ Rep K cl F v d) → vs.length = bs.length →
    OwnM K cl F H (bs.map bm) vs es (tsB So bs j)
  | [], [], _, es, vs, j, h, _, _, hl => by
    have h : Rz.ok ([] : List D) = .ok es := h
    cases h
    cases vs with
    | nil => exact .nil
    | cons v vs => simp at hl
  | [], _ :: _, _, es, vs, j, h, _, _, hl => by have h : (Rz.no : Rz (List D)) = .ok es := h; cases h
  | true :: bs, [], e, es, vs, j, h, _, _, hl => by have h : (Rz.no : Rz (List D)) = .ok es := h; cases h
  | false :: bs, [], e, es, vs, j, h, _, _, hl => by have h : (Rz.no : Rz (List D)) = .ok es := h; cases h
  | true :: bs, _ :: ds, [], es, vs, j, h, _, _, hl => by have h : (Rz.no : Rz (List D)) = .ok es := h; cases h
  | true :: bs, _ :: ds, none :: e, es, vs, j, h, _, _, hl => by have h : (Rz.no : Rz (List D)) = .ok es := h; cases h
  | true :: bs, _ :: ds, some x :: e, es, vs, j, h, h1, h2, hl => by
    have h : (newsB bs ds e).bind (fun xs => Rz.ok (x :: xs)) = .ok es := h
    cases hn : newsB bs ds e with
    | er c => rw [hn] at h; cases h
    | no => rw [hn] at h; cases h
    | ok xs =>
      rw [hn] at h
      cases h
      obtain ⟨v, h3, h4⟩ := h1 0 x rfl rfl
      cases vs with
      | nil => simp at h3
      | cons w vs =>
        simp at h3
        subst h3
        refine .cons h4 (news_own bs ds e xs vs (j + 1) hn (fun i y g1 g2 => ?_) (fun i y g1 g2 => ?_) (by simpa using hl))
        · obtain ⟨v, h5, h6⟩ := h1 (i + 1) y (by simpa using g1) (by simpa using g2)
          exact ⟨v, by simpa using h5, by rw [show j + 1 + i = j + (i + 1) by omega]; exact h6⟩
        · obtain ⟨v, h5, h6⟩ := h2 (i + 1) y (by simpa using g1) (by simpa using g2)
          exact ⟨v, by simpa using h5, h6⟩
  | false :: bs, _ :: ds, [], es, vs, j, h, _, _, hl => by have h : (Rz.no : Rz (List D)) = .ok es := h; cases h
  | false :: bs, d :: ds, o :: e, es, vs, j, h, h1, h2, hl => by
    have h : (newsB bs ds e).bind (fun xs => Rz.ok (d :: xs)) = .ok es := by cases o <;> exact h
    cases hn : newsB bs ds e with
    | er c => rw [hn] at h; cases h
    | no => rw [hn] at h; cases h
    | ok xs =>
      rw [hn] at h
      cases h
      obtain ⟨v, h3, h4⟩ := h2 0 d rfl rfl
      cases vs with
      | nil => simp at h3
      | cons w vs =>
        simp at h3
        subst h3
        refine .cons (.z h4) (news_own bs ds e xs vs (j + 1) hn (fun i y g1 g2 => ?_) (fun i y g1 g2 => ?_) (by simpa using hl))
        · obtain ⟨v, h5, h6⟩ := h1 (i + 1) y (by simpa using g1) (by simpa using g2)
          exact ⟨v, by simpa using h5, by rw [show j + 1 + i = j + (i + 1) by omega]; exact h6⟩
        · obtain ⟨v, h5, h6⟩ := h2 (i + 1) y (by simpa using g1) (by simpa using g2)
          exact ⟨v, by simpa using h5, h6⟩
theorem tsB_mem : ∀ {bs : List Bool} {j : Nat} {a : Addr}, a ∈ (tsB So bs j).flatten → ∃ i, j ≤ i ∧ a ∈ So i
  | [], _, _, h => by simp [tsB] at h
  | b :: bs, j, a, h => by
    rw [tsB, List.flatten_cons, List.mem_append] at h
    rcases h with h | h
    · split at h
      · exact ⟨j, Nat.le_refl _, h⟩
      · exact nomatch h
    · obtain ⟨i, h1, h2⟩ := tsB_mem h
      exact ⟨i, by omega, h2⟩
theorem tsB_nodup (nd : ∀ i, (So i).Nodup) (dj : ∀ i j a, i ≠ j → a ∈ So i → a ∉ So j) : ∀ {bs : List Bool} {j : Nat}, (tsB So bs j).flatten.Nodup
  | [], _ => List.nodup_nil
  | b :: bs, j => by
    rw [tsB, List.flatten_cons]
    refine List.nodup_append.mpr ⟨?_, tsB_nodup nd dj, fun a ha b hb e => ?_⟩
    · split
      · exact nd j
      · exact List.nodup_nil
    · subst e
      split at ha
      · obtain ⟨i, h1, h2⟩ := tsB_mem hb
        exact dj j i a (by omega) ha h2
      · exact nomatch ha
end
section
variable {P : Program} {w : World} {K : PySem.W.Frag} {mg : Str → Option Value} {base : Heap} {cl : Cl} {c : Nat → Addr}
theorem fn_okB {x qual : Str} {st : Stmt} {f : Addr} {fd : FuncData} {k kr : Nat} {u : En → Rz Fl} {G' : List Md} (N ps : List Str) (n : Nat) (bs : List Bool) (G0 : List Md) (Fo : Fun K x qual st f fd) (S : FnScope N ps (defScope st))
    (hb : ∀ (q : Nat → V) (cdv : Value) (A : Around) (outer : List Env) (s : Shared) (H : Hp) (E : XK), Room k (A.deeper (envOfC qual (defScope st) s.heap.objs.size f cdv)) →
      SimSs ⟨c, q⟩ W0 (cxOf CX0 P w K mg base N qual (defScope st) f cdv A outer s H E).nox G0 (defBody st) u G' kr) (hn : N.length = n) (hp : ps.length = bs.length) (hG : G0 = (bs.map bm).map some ++ List.replicate (n - (bs.map bm).length) (some 0)) (hG' : endB bs G' = true) :
    FnOk P w K mg base CX0 (k + 1) f fd ps (spB K c bs (fnB n bs u)) := by
  subst hn hG
  exact Fo.ok S (fun vs H Q E h => h.1.trans hp.symm) fun cdv A outer s H vs Q E hr ⟨hl, Fz, ds, Ss, ex, o, nd, fr, q⟩ => ⟨_, hb (fun i => vs.getD i .non) cdv A outer s H E hr (hide Ss.flatten H) Fz, ini N.length ds, fun i => Ss.getD i [], Fz,
    sl_startC ex (OwnM.toCl (K := K) (cl := ⟨c, fun _ => .non⟩) (cl' := ⟨c, fun i => vs.getD i .non⟩) rfl o) nd fr (fun i k h1 h2 => by
      have hi := (List.getElem?_eq_some_iff.mp h1).1
      rw [List.length_map] at hi
      show vs[i]? = some (vs.getD i .non)
      rw [List.getD_eq_getElem?_getD, List.getElem?_eq_getElem (by omega)]; rfl), ⟨hide_ex, Evl.Ex.refl _, fun a h1 h2 => absurd h1 h2, fun i a h => hide_in (flat_at h)⟩, by
    unfold fnB at q
    cases hu : u (ini N.length ds) with
    | er c => rw [hu] at q; exact (show False from q).elim
    | no => rw [hu] at q; exact q
    | ok r =>
      rw [hu] at q
      cases r with
      | rt d => exact (show False from q).elim
      | nx e =>
        simp only at q
        cases hn : newsB bs ds e with
        | er c => rw [hn] at q; exact (show False from q).elim
        | no => rw [hn] at q; exact (show False from q).elim
        | ok es =>
          rw [hn] at q
          refine fun σ' H' So' F' s' b' => q H' F' (tsB So' bs 0) ⟨b'.b, b'.f, s'.ex, b'.n⟩ (OwnM.toCl (K := K) (cl := ⟨c, fun i => vs.getD i .non⟩) (cl' := ⟨c, fun _ => .non⟩) rfl (news_own bs ds e es vs 0 hn (fun i y g1 g2 => ?_) (fun i d g1 g2 => ?_) hl)) (tsB_nodup s'.nd s'.dj) fun a ha => ?_
          · have hG := endB_at hG' g1
            obtain ⟨v, h3, h4⟩ := s'.sl i 140 y hG g2
            have h5 := s'.pn i 140 hG (by omega)
            rw [h3] at h5
            have hi := (List.getElem?_eq_some_iff.mp g1).1
            refine ⟨v, ?_, by rw [Nat.zero_add]; exact h4⟩
            have e5 : v = vs.getD i .non := Option.some.inj (Option.some.inj h5)
            rw [e5, List.getD_eq_getElem?_getD, List.getElem?_eq_getElem (by omega)]; rfl
          · obtain ⟨v, T, h3, h4, h5⟩ := o.at (i := i) (k := 0) (d := d) (by rw [List.getElem?_map, g1]; rfl) g2
            exact ⟨v, h3, Rep.toCl (K := K) (cl := ⟨c, fun _ => .non⟩) (cl' := ⟨c, fun i => vs.getD i .non⟩) rfl ((h5.zero_nil.2).mono b'.f)⟩
          · obtain ⟨i, _, h⟩ := tsB_mem ha
            exact ⟨b'.o i a h, s'.fr i a h⟩⟩
/-- a def that changes what it is handed -/
structure DfB (P : Program) (w : World) (K : PySem.W.Frag) (mg : Str → Option Value) (base : Heap) (c : Nat → Addr) (x : Str) (lvl : Nat) (ps : List Str) (bs : List Bool) (Fn : List D → Rz (List D)) (f : Addr) (fd : FuncData) : Prop where
  ok : FnOk P w K mg base CX0 lvl f fd ps (spB K c bs Fn)
  m : mg x = some (.ref f)
  kp : PySem.W.keepIn K (.ref f) = true
  bi : Binds K fd ps []
end
end Pv

set_option Elab.async false
set_option linter.all false
set_option maxRecDepth 100000
set_option maxHeartbeats 1000000
/-! Pv: a name for a part of what is owned. -/
namespace Pv
open PySem PySem.Spec PyProof.Rows L2
def pin (p : Nat → V) (i : Nat) (v : V) : Nat → V := fun n => if n = i then v else p n
def soS (So : Nat → List Addr) (i : Nat) (S : List Addr) : Nat → List Addr := fun n => if n = i then S else So n
noncomputable def bK (B H : Hp) (KS : List Addr) : Hp := fun a => if a ∈ KS then H a else B a
section
variable {K : PySem.W.Frag} {c : Nat → Addr} {p : Nat → V} {B F0 F F' H H' : Hp} {G : List Md} {env : En} {σ : L2.St} {So : Nat → List Addr} {i j k : Nat} {v : V} {d : D} {S KS : List Addr}
theorem Own.pinC {p' : Nat → V} (h : Own K ⟨c, p⟩ F H k v d S) : Own K ⟨c, p'⟩ F H k v d S := Own.toCl (cl := ⟨c, p⟩) (cl' := ⟨c, p'⟩) rfl h
theorem soS_at : soS So i S i = S := if_pos rfl
theorem soS_ne {n : Nat} (h : n ≠ i) : soS So i S n = So n := if_neg h
theorem pin_at : pin p i v i = v := if_pos rfl
theorem pin_ne {n : Nat} (h : n ≠ i) : pin p i v n = p n := if_neg h
/-- what a slot owns goes elsewhere; its thing stays where it is -/
theorem Sl.hide (s : Sl K ⟨c, p⟩ G env σ So F H) (hv : σ[i]? = some (some v)) : Sl K ⟨c, pin p i v⟩ (G.set i (some 140)) (env.set i none) σ (soS So i []) F H where
  len := by rw [List.length_set]; exact s.len
  sl := fun n k d h1 h2 => by
    by_cases hn : n = i
    · subst hn
      by_cases hl : n < env.length
      · rw [List.getElem?_set_self hl] at h2; cases h2
      · rw [List.getElem?_eq_none (by rw [List.length_set]; omega)] at h2; cases h2
    · rw [List.getElem?_set_ne (Ne.symm hn)] at h1 h2
      obtain ⟨w, h3, h4⟩ := s.sl n k d h1 h2
      exact ⟨w, h3, by rw [soS_ne hn]; exact h4.pinC⟩
  nd := fun n => by
    by_cases hn : n = i
    · subst hn; rw [soS_at]; exact List.nodup_nil
    · rw [soS_ne hn]; exact s.nd n
  dj := fun n l a hne h1 h2 => by
    by_cases hn : n = i
    · subst hn; rw [soS_at] at h1; exact nomatch h1
    · by_cases hl : l = i
      · subst hl; rw [soS_at] at h2; exact nomatch h2
      · rw [soS_ne hn] at h1; rw [soS_ne hl] at h2; exact s.dj n l a hne h1 h2
  fr := fun n a h => by
    by_cases hn : n = i
    · subst hn; rw [soS_at] at h; exact nomatch h
    · rw [soS_ne hn] at h; exact s.fr n a h
  lv := fun n a h => by
    by_cases hn : n = i
    · subst hn; rw [soS_at] at h; exact nomatch h
    · rw [soS_ne hn] at h; exact s.lv n a h
  ex := s.ex
  pn := fun n k h1 h2 => by
    show σ[n]? = some (some (pin p i v n))
    by_cases hn : n = i
    · subst hn; rw [pin_at]; exact hv
    · rw [List.getElem?_set_ne (Ne.symm hn)] at h1
      rw [pin_ne hn]; exact s.pn n k h1 h2
theorem Bd.hide (b : Bd B F0 So F H) : Bd B F0 (soS So i []) F H where
  b := b.b
  f := b.f
  n := b.n
  o := fun n a h => by
    by_cases hn : n = i
    · subst hn; rw [soS_at] at h; exact nomatch h
    · rw [soS_ne hn] at h; exact b.o n a h
/-- a slot gets a thing that is owned: stored there, pinned -/
theorem Sl.lend (s : Sl K ⟨c, p⟩ G env σ So F H) (o : Own K ⟨c, p⟩ F H 140 v d S) (hj : j < env.length) (nd : S.Nodup) (dj : ∀ a ∈ S, ∀ n, n ≠ j → a ∉ So n) (fr : ∀ a ∈ S, F a = none) :
    Sl K ⟨c, pin p j v⟩ (G.set j (some 140)) (env.set j (some d)) (σ.set j (some v)) (soS So j S) F H where
  len := by rw [List.length_set, List.length_set]; exact s.len
  sl := fun n k d h1 h2 => by
    by_cases hn : n = j
    · subst hn
      rw [List.getElem?_set_self hj] at h2
      cases h2
      have hg : n < G.length := by
        have := (List.getElem?_eq_some_iff.mp h1).1
        rw [List.length_set] at this; exact this
      rw [List.getElem?_set_self hg] at h1
      cases h1
      exact ⟨v, List.getElem?_set_self (Nat.lt_of_lt_of_le hj s.len), by rw [soS_at]; exact o.pinC⟩
    · rw [List.getElem?_set_ne (Ne.symm hn)] at h1 h2
      obtain ⟨w, h3, h4⟩ := s.sl n k d h1 h2
      exact ⟨w, by rw [List.getElem?_set_ne (Ne.symm hn)]; exact h3, by rw [soS_ne hn]; exact h4.pinC⟩
  nd := fun n => by
    by_cases hn : n = j
    · subst hn; rw [soS_at]; exact nd
    · rw [soS_ne hn]; exact s.nd n
  dj := fun n l a hne h1 h2 => by
    by_cases hn : n = j
    · subst hn
      rw [soS_at] at h1
      rw [soS_ne (Ne.symm hne)] at h2
      exact dj a h1 l (Ne.symm hne) h2
    · rw [soS_ne hn] at h1
      by_cases hl : l = j
      · subst hl; rw [soS_at] at h2; exact dj a h2 n hn h1
      · rw [soS_ne hl] at h2; exact s.dj n l a hne h1 h2
  fr := fun n a h => by
    by_cases hn : n = j
    · subst hn; rw [soS_at] at h; exact fr a h
    · rw [soS_ne hn] at h; exact s.fr n a h
  lv := fun n a h => by
    by_cases hn : n = j
    · subst hn; rw [soS_at] at h; exact o.live a h
    · rw [soS_ne hn] at h; exact s.lv n a h
  ex := s.ex
  pn := fun n k h1 h2 => by
    show (σ.set j (some v))[n]? = some (some (pin p j v n))
    by_cases hn : n = j
    · subst hn; rw [pin_at]; exact List.getElem?_set_self (Nat.lt_of_lt_of_le hj s.len)
    · rw [List.getElem?_set_ne (Ne.symm hn)] at h1 ⊢
      rw [pin_ne hn]; exact s.pn n k h1 h2
theorem Bd.lend (b : Bd B F0 So F H) (hB : ∀ a ∈ S, B a = none) : Bd B F0 (soS So j S) F H where
  b := b.b
  f := b.f
  n := b.n
  o := fun n a h => by
    by_cases hn : n = j
    · subst hn; rw [soS_at] at h; exact hB a h
    · rw [soS_ne hn] at h; exact b.o n a h
/-- more is to stay -/
theorem Bd.more (b : Bd B F0 So F H) (fr : ∀ a ∈ KS, F a = none) (no : ∀ a ∈ KS, ∀ n, a ∉ So n) : Bd (bK B H KS) F0 So F H where
  b := fun a o h => by
    unfold bK at h
    split at h
    · exact h
    · exact b.b a o h
  f := b.f
  n := fun a h1 h2 => by
    unfold bK
    split
    · rename_i hm; exact absurd (fr a hm) h2
    · exact b.n a h1 h2
  o := fun n a h => by
    unfold bK
    split
    · rename_i hm; exact absurd h (no a hm n)
    · exact b.o n a h
theorem bK_ex (hB : ∀ a ∈ KS, B a = none) : Ex B (bK B H KS) := fun a o h => by
  unfold bK
  split
  · rename_i hm; rw [hB a hm] at h; cases h
  · exact h
theorem bK_none (hB : ∀ a ∈ KS, B a = none) {a : Addr} (h : bK B H KS a = none) : B a = none := by
  unfold bK at h
  split at h
  · rename_i hm; exact hB a hm
  · exact h
theorem bK_mut (hB : ∀ a ∈ KS, B a = none) {a : Addr} (h : ¬ Mut (bK B H KS a)) : ¬ Mut (B a) := by
  unfold bK at h
  split at h
  · rename_i hm; rw [hB a hm]; exact id
  · exact h
/-- back to what was to stay ahead -/
theorem Bd.less (hB : ∀ a ∈ KS, B a = none) (lv : ∀ a ∈ KS, Mut (H a)) (f0 : ∀ a ∈ KS, F0 a = none) (b : Bd (bK B H KS) F0 So F' H') : Bd B F0 So F' H' ∧ ∀ a ∈ KS, H' a = H a ∧ F' a = none ∧ ∀ n, a ∉ So n := by
  have at_ : ∀ a ∈ KS, bK B H KS a = H a := fun a ha => if_pos ha
  refine ⟨⟨(bK_ex hB).trans b.b, b.f, fun a h1 h2 => bK_mut hB (b.n a h1 h2), fun n a h => bK_none hB (b.o n a h)⟩, fun a ha => ⟨?_, ?_, fun n h => ?_⟩⟩
  · have := lv a ha
    cases z : H a with
    | none => rw [z] at this; exact this.elim
    | some o => exact b.b a o (by rw [at_ a ha, z])
  · cases z : F' a with
    | none => rfl
    | some o => exact absurd (by rw [at_ a ha]; exact lv a ha) (b.n a (f0 a ha) (by rw [z]; simp))
  · have := b.o n a h
    rw [at_ a ha] at this
    have l := lv a ha
    rw [this] at l
    exact l
/-- a pinned slot is let go -/
theorem Sl.drop (s : Sl K ⟨c, pin p j v⟩ G env σ So F H) : Sl K ⟨c, p⟩ (G.set j none) env σ (soS So j []) F H where
  len := s.len
  sl := fun n k d h1 h2 => by
    by_cases hn : n = j
    · subst hn
      have hg : n < G.length := by
        have := (List.getElem?_eq_some_iff.mp h1).1
        rw [List.length_set] at this; exact this
      rw [List.getElem?_set_self hg] at h1; cases h1
    · rw [List.getElem?_set_ne (Ne.symm hn)] at h1
      obtain ⟨w, h3, h4⟩ := s.sl n k d h1 h2
      exact ⟨w, h3, by rw [soS_ne hn]; exact h4.pinC⟩
  nd := fun n => by
    by_cases hn : n = j
    · subst hn; rw [soS_at]; exact List.nodup_nil
    · rw [soS_ne hn]; exact s.nd n
  dj := fun n l a hne h1 h2 => by
    by_cases hn : n = j
    · subst hn; rw [soS_at] at h1; exact nomatch h1
    · by_cases hl : l = j
      · subst hl; rw [soS_at] at h2; exact nomatch h2
      · rw [soS_ne hn] at h1; rw [soS_ne hl] at h2; exact s.dj n l a hne h1 h2
  fr := fun n a h => by
    by_cases hn : n = j
    · subst hn; rw [soS_at] at h; exact nomatch h
    · rw [soS_ne hn] at h; exact s.fr n a h
  lv := fun n a h => by
    by_cases hn : n = j
    · subst hn; rw [soS_at] at h; exact nomatch h
    · rw [soS_ne hn] at h; exact s.lv n a h
  ex := s.ex
  pn := fun n k h1 h2 => by
    show σ[n]? = some (some (p n))
    by_cases hn : n = j
    · subst hn
      have hg : n < G.length := by
        have := (List.getElem?_eq_some_iff.mp h1).1
        rw [List.length_set] at this; exact this
      rw [List.getElem?_set_self hg] at h1; cases h1
    · rw [List.getElem?_set_ne (Ne.symm hn)] at h1
      have := s.pn n k h1 h2
      rw [← pin_ne (p := p) (v := v) hn]; exact this
/-- a hidden slot gets its things again -/
theorem Sl.back (s : Sl K ⟨c, pin p i v⟩ G env σ So F H) (hG : G[i]? = some (some 140)) (o : Own K ⟨c, p⟩ F H k v d S) (nd : S.Nodup) (dj : ∀ a ∈ S, ∀ n, n ≠ i → a ∉ So n) (fr : ∀ a ∈ S, F a = none) (hp : 100 ≤ k → p i = v) :
    Sl K ⟨c, p⟩ (G.set i (some k)) (env.set i (some d)) σ (soS So i S) F H where
  len := by rw [List.length_set]; exact s.len
  sl := fun n k' d' h1 h2 => by
    by_cases hn : n = i
    · subst hn
      have hl : n < env.length := by
        have := (List.getElem?_eq_some_iff.mp h2).1
        rw [List.length_set] at this; exact this
      have hg : n < G.length := by
        have := (List.getElem?_eq_some_iff.mp h1).1
        rw [List.length_set] at this; exact this
      rw [List.getElem?_set_self hl] at h2
      rw [List.getElem?_set_self hg] at h1
      cases h1; cases h2
      have := s.pn n 140 hG (by omega)
      rw [show (Cl.p ⟨c, pin p n v⟩ n) = v from pin_at] at this
      exact ⟨v, this, by rw [soS_at]; exact o⟩
    · rw [List.getElem?_set_ne (Ne.symm hn)] at h1 h2
      obtain ⟨w, h3, h4⟩ := s.sl n k' d' h1 h2
      exact ⟨w, h3, by rw [soS_ne hn]; exact h4.pinC⟩
  nd := fun n => by
    by_cases hn : n = i
    · subst hn; rw [soS_at]; exact nd
    · rw [soS_ne hn]; exact s.nd n
  dj := fun n l a hne h1 h2 => by
    by_cases hn : n = i
    · subst hn
      rw [soS_at] at h1
      rw [soS_ne (Ne.symm hne)] at h2
      exact dj a h1 l (Ne.symm hne) h2
    · rw [soS_ne hn] at h1
      by_cases hl : l = i
      · subst hl; rw [soS_at] at h2; exact dj a h2 n hn h1
      · rw [soS_ne hl] at h2; exact s.dj n l a hne h1 h2
  fr := fun n a h => by
    by_cases hn : n = i
    · subst hn; rw [soS_at] at h; exact fr a h
    · rw [soS_ne hn] at h; exact s.fr n a h
  lv := fun n a h => by
    by_cases hn : n = i
    · subst hn; rw [soS_at] at h; exact o.live a h
    · rw [soS_ne hn] at h; exact s.lv n a h
  ex := s.ex
  pn := fun n k' h1 h2 => by
    show σ[n]? = some (some (p n))
    by_cases hn : n = i
    · subst hn
      have hg : n < G.length := by
        have := (List.getElem?_eq_some_iff.mp h1).1
        rw [List.length_set] at this; exact this
      rw [List.getElem?_set_self hg] at h1
      cases h1
      have := s.pn n 140 hG (by omega)
      rw [show (Cl.p ⟨c, pin p n v⟩ n) = v from pin_at] at this
      rw [hp h2]; exact this
    · rw [List.getElem?_set_ne (Ne.symm hn)] at h1
      have := s.pn n k' h1 h2
      rw [← pin_ne (p := p) (v := v) hn]; exact this
end
end Pv

set_option Elab.async false
set_option linter.all false
set_option maxRecDepth 100000
set_option maxHeartbeats 1000000
/-! Pv: a name for a part of what is owned: the statements. -/
namespace Pv
open PySem PySem.Spec PyProof.Rows L2
section
variable {K : PySem.W.Frag} {cl : Cl} {F F' H H' : Hp}
theorem Own.childF {k k' j : Nat} {v : V} {d d1 : D} {ds : List D} {S : List Addr} (h : Own K cl F H k v d S) (hk : kids d = some ds) (hd : kdep d k = some k') (hj : ds[j]? = some d1) :
    ∃ a vs v1 S1 S' S2, v = .ref a ∧ (H a = some (.lst vs) ∨ F a = some (.tup vs)) ∧ vs[j]? = some v1 ∧ S = S1 ++ (S' ++ S2) ∧ Own K cl F H k' v1 d1 S' ∧
      ∀ F' H' d2 S'', Ex F F' → (∀ b, b ∈ S1 ∨ b ∈ S2 → H' b = H b) → Own K cl F' H' k' v1 d2 S'' → Own K cl F' H' k v (wkids d (ds.set j d2)) (S1 ++ (S'' ++ S2)) := by
  cases d with
  | lst xs =>
    cases hk
    cases k with
    | zero => cases hd
    | succ k =>
      cases hd
      obtain ⟨a, vs, S0, rfl, rfl, hh, os⟩ := h.lst_inv
      obtain ⟨v1, S1, Sj, S2, h1, h2, h3, h4⟩ := os.split hj
      refine ⟨a, vs, v1, a :: S1, Sj, S2, rfl, .inl hh, h1, by rw [h2]; rfl, h3, fun F' H' d2 S'' eF e o => ?_⟩
      have z := h4 F' H' v1 d2 S'' eF (fun b hb => e b (hb.imp (List.mem_cons_of_mem _) id)) o
      rw [set_self h1] at z
      exact .lst ((e a (.inl List.mem_cons_self)).trans hh) z
  | tup xs =>
    cases hk
    have hd : some k = some k' := by cases k <;> exact hd
    cases hd
    obtain ⟨a, vs, rfl, hh, os⟩ := h.tup_inv
    obtain ⟨v1, S1, Sj, S2, h1, h2, h3, h4⟩ := os.split hj
    refine ⟨a, vs, v1, S1, Sj, S2, rfl, .inr hh, h1, h2, h3, fun F' H' d2 S'' eF e o => ?_⟩
    have z := h4 F' H' v1 d2 S'' eF e o
    rw [set_self h1] at z
    exact .tup (eF _ _ hh) z
  | _ => cases hk
theorem Own.holeF (ex : Ex F H) : ∀ {p : List Nat} {k k1 : Nat} {v : V} {d d1 : D} {S : List Addr}, Own K cl F H k v d S → getP d p = some d1 → depP d k p = some k1 →
    ∃ v1 S1 S' S2, NavP H v p v1 ∧ S = S1 ++ (S' ++ S2) ∧ Own K cl F H k1 v1 d1 S' ∧ ∀ F' H' d2 S'', Ex F F' → (∀ b, b ∈ S1 ∨ b ∈ S2 → H' b = H b) → Own K cl F' H' k1 v1 d2 S'' → Own K cl F' H' k v (setP d p d2) (S1 ++ (S'' ++ S2))
  | [], k, k1, v, d, d1, S, o, hg, hd => by
    cases hg; cases hd
    exact ⟨v, [], S, [], rfl, by simp, o, fun F' H' d2 S'' _ _ o2 => by simpa [setP] using o2⟩
  | j :: p, k, k1, v, d, d1, S, o, hg, hd => by
    unfold getP at hg
    unfold depP at hd
    cases hk : kids d with
    | none => rw [hk] at hg; cases hg
    | some ds =>
      rw [hk] at hg hd
      simp only at hg
      cases hj : ds[j]? with
      | none => rw [hj] at hg; cases hg
      | some dj =>
        rw [hj] at hg
        simp only at hg
        cases hdk : kdep d k with
        | none => rw [hdk] at hd; cases hd
        | some kj =>
          rw [hdk] at hd
          simp only [hj] at hd
          obtain ⟨a, vs, vj, S1, Sx, S2, rfl, hread, hv1, hS, ox, rb⟩ := o.childF hk hdk hj
          obtain ⟨v1, T1, T', T2, hn, hT, o1, rb2⟩ := Own.holeF ex ox hg hd
          refine ⟨v1, S1 ++ T1, T', T2 ++ S2, ⟨a, vs, vj, rfl, hread.imp id (ex _ _), hv1, hn⟩, by rw [hS, hT]; simp [List.append_assoc], o1, fun F' H' d2 S'' eF hb o2 => ?_⟩
          have z := rb2 F' H' d2 S'' eF (fun b hb2 => hb b (hb2.imp (fun z => List.mem_append_right _ z) fun z => List.mem_append_left _ z)) o2
          have z2 := rb F' H' (setP dj p d2) (T1 ++ (S'' ++ T2)) eF (fun b hb2 => hb b (hb2.imp (fun z => List.mem_append_left _ z) fun z => List.mem_append_right _ z)) z
          unfold setP
          rw [hk]
          simp only [hj]
          simpa [List.append_assoc] using z2
end
section
variable {B F0 F1 H1 F' H' : Hp} {So So' : Nat → List Addr}
theorem Bd.self (b : Bd B F0 So F1 H1) : Bd B F1 So F1 H1 := ⟨b.b, Evl.Ex.refl _, fun a h1 h2 => absurd h1 h2, b.o⟩
theorem Bd.nn (b : Bd B F0 So F1 H1) (h : ∀ a, F1 a = none → F' a ≠ none → ¬ Mut (B a)) : ∀ a, F0 a = none → F' a ≠ none → ¬ Mut (B a) := fun a h1 h2 => by
  cases z : F1 a with
  | none => exact h a z h2
  | some o => exact b.n a h1 (by rw [z]; simp)
theorem Bd.onto (b : Bd B F0 So F1 H1) (b' : Bd B F1 So' F' H') : Bd B F0 So' F' H' := ⟨b'.b, b.f.trans b'.f, b.nn b'.n, b'.o⟩
end
/-- x = P[..]; then what is done by that name; then it is P's again -/
def alF (i j ki k1 : Nat) (pF : En → Rz (List Nat)) (u : En → Rz Fl) : En → Rz Fl := fun env => (pF env).bind fun p => match env[i]? with
  | some (some d) => match getP d p with
    | some d1 => if depP d ki p = some k1 ∧ immK d1 (min k1 40) = true ∧ j < env.length then (u ((env.set i none).set j (some d1))).bind fun o => match o with
      | .nx e => (match e[j]? with
        | some (some d2) => if immK d2 (min k1 40) = true then .ok (.nx (e.set i (some (setP d p d2)))) else .no
        | _ => .no)
      | .rt r => .ok (.rt r)
      else .no
    | none => .no
  | _ => .no
section
variable {X : Cx} {c : Nat → Addr} {q0 : Nat → V} {W : Nat → Hp → Prop} {G G1 G2 : List Md} {pos ppos : Pos} {e : Expr} {ki k1 kr i j : Nat} {pF : En → Rz (List Nat)} {sts : List Stmt} {u : En → Rz Fl} {x : Str}
theorem simSs_al (hN : X.N.Nodup) (hj : X.N[j]? = some x) (hx : Loc X.env.scope x) (hf : X.fn x = true ∨ X.env.scope.names.lookup x = some .local)
    (hp : SimP ⟨c, q0⟩ W X G e i pF) (hG : G[i]? = some (some ki)) (hb : ∀ q, SimSs ⟨c, q⟩ W X ((G.set i (some 140)).set j (some 140)) sts u G2 kr) (hij : i ≠ j) (g1 : G2[i]? = some (some 140)) (g2 : G2[j]? = some (some 140))
    (hs : swapsWith e (some (.Name x ppos)) pos.line X.env = pure false := by rfl) :
    SimSs ⟨c, q0⟩ W X G (.Assign [.Name x ppos] e pos :: sts) (alF i j ki k1 pF u) ((G2.set j none).set i (some ki)) kr := fun B F0 =>
  PSs.weak (pss_cons (ps_set hN hj hx hp hs hf) (⟨fun pins s σ H D I ⟨q, B', F0', h⟩ => (hb q B' F0').run pins s σ H D I h⟩ : PSs X sts fun Dn σ H => ∃ q B' F0', tS X.K ⟨c, q⟩ W B' F0' ((G.set i (some 140)).set j (some 140)) u G2 kr Dn σ H)) fun Dn σ H ⟨env, So, F, s, bd, q⟩ => by
    unfold alF at q
    refine ⟨env, So, F, s, ?_⟩
    cases hp : pF env with
    | er c => rw [hp] at q; exact fun H' e => q H' (bd.b.trans e)
    | no => rw [hp] at q; exact q
    | ok p =>
      rw [hp] at q
      simp only [Rz.bind_ok] at q
      cases hd : env[i]? with
      | none => rw [hd] at q; exact q.elim
      | some od =>
        cases od with
        | none => rw [hd] at q; exact q.elim
        | some d =>
          rw [hd] at q
          simp only at q
          cases hg : getP d p with
          | none => rw [hg] at q; exact q.elim
          | some d1 =>
            rw [hg] at q
            simp only at q
            by_cases hc : depP d ki p = some k1 ∧ immK d1 (min k1 40) = true ∧ j < env.length
            · rw [if_pos hc] at q
              obtain ⟨hk, him, hjl⟩ := hc
              obtain ⟨v, hv, _⟩ := s.sl i ki d hG hd
              refine ⟨d, d1, v, rfl, hv, hg, fun H1 F1 w g n1 => ?_⟩
              have s1 := s.grow g
              have b1 := bd.grow s g
              obtain ⟨v', hv', o⟩ := s1.sl i ki d hG hd
              rw [hv] at hv'; cases hv'
              obtain ⟨v1, S1, S', S2, n2, hS, o1, rb⟩ := Own.holeF s1.ex o hg hk
              cases n1.uni n2
              have nd := s1.nd i
              rw [hS] at nd
              obtain ⟨d1', nd2, d3⟩ := List.nodup_append.mp nd
              obtain ⟨d4, d5, d6⟩ := List.nodup_append.mp nd2
              have inS : ∀ a, a ∈ S1 ++ S2 → a ∈ So i ∧ a ∉ S' := fun a ha => by
                rw [hS]
                rcases List.mem_append.mp ha with ha | ha
                · exact ⟨List.mem_append_left _ ha, fun z => d3 a ha a (List.mem_append_left _ z) rfl⟩
                · exact ⟨List.mem_append_right _ (List.mem_append_right _ ha), fun z => d6 a z a ha rfl⟩
              have inS' : ∀ a ∈ S', a ∈ So i := fun a ha => by rw [hS]; exact List.mem_append_right _ (List.mem_append_left _ ha)
              have sh := s1.hide hv
              have bh : Bd B F1 (soS So i []) F1 H1 := b1.self.hide
              have jl : j < (env.set i none).length := by rw [List.length_set]; exact hjl
              have sl := sh.lend ((o1.conv him (by omega) (by omega : min k1 40 ≤ 140)).pinC) jl d4 (fun a ha n hn => by
                by_cases hni : n = i
                · subst hni; rw [soS_at]; exact fun z => nomatch z
                · rw [soS_ne hni]; exact fun z => s1.dj n i a hni z (inS' a ha)) (fun a ha => s1.fr i a (inS' a ha))
              have hB : ∀ a ∈ S1 ++ S2, B a = none := fun a ha => b1.o i a (inS a ha).1
              have bl := (bh.lend (j := j) (S := S') (fun a ha => b1.o i a (inS' a ha))).more (KS := S1 ++ S2) (fun a ha => s1.fr i a (inS a ha).1) (fun a ha n => by
                by_cases hn : n = j
                · subst hn; rw [soS_at]; exact (inS a ha).2
                · rw [soS_ne hn]
                  by_cases hni : n = i
                  · subst hni; rw [soS_at]; exact fun z => nomatch z
                  · rw [soS_ne hni]; exact fun z => s1.dj n i a hni z (inS a ha).1)
              refine ⟨_, _, F1, _, _, F1, sl, bl, ?_⟩
              cases hu : u ((env.set i none).set j (some d1)) with
              | er c => rw [hu] at q; exact fun H' e => q H' ((bK_ex hB).trans e)
              | no => rw [hu] at q; exact q
              | ok r =>
                rw [hu] at q
                cases r with
                | rt r => exact fun v H' F' S h1 h2 h3 h4 h5 h6 h7 => q v H' F' S ((bK_ex hB).trans h1) (b1.f.trans h2) h3 (b1.nn fun a z1 z2 => bK_mut hB (h4 a z1 z2)) h5.pinC h6 fun a ha => ⟨bK_none hB (h7 a ha).1, (h7 a ha).2⟩
                | nx e =>
                  simp only [Rz.bind_ok] at q
                  refine fun σ' H' So' F' s' b' => ?_
                  cases he : e[j]? with
                  | none => rw [he] at q; exact q.elim
                  | some oe =>
                    cases oe with
                    | none => rw [he] at q; exact q.elim
                    | some d2 =>
                      rw [he] at q
                      simp only at q
                      by_cases hi2 : immK d2 (min k1 40) = true
                      · rw [if_pos hi2] at q
                        obtain ⟨bb, kk⟩ := Bd.less hB (fun a ha => s1.lv i a (inS a ha).1) (fun a ha => s1.fr i a (inS a ha).1) b'
                        obtain ⟨w2, hw2, o2⟩ := s'.sl j 140 d2 g2 he
                        have hpj := s'.pn j 140 g2 (by omega)
                        rw [hw2, show (Cl.p ⟨c, pin (pin q0 i v) j w⟩ j) = w from pin_at] at hpj
                        have ew : w2 = w := Option.some.inj (Option.some.inj hpj)
                        subst ew
                        have oB := rb F' H' d2 (So' j) b'.f (fun a ha => (kk a (List.mem_append.mpr ha)).1) ((o2.conv hi2 (by omega : min k1 40 ≤ 140) (by omega)).pinC)
                        have mem : ∀ a ∈ S1 ++ (So' j ++ S2), a ∈ S1 ++ S2 ∨ a ∈ So' j := fun a ha => by
                          rcases List.mem_append.mp ha with ha | ha
                          · exact .inl (List.mem_append_left _ ha)
                          · rcases List.mem_append.mp ha with ha | ha
                            · exact .inr ha
                            · exact .inl (List.mem_append_right _ ha)
                        refine q σ' H' _ F' (Sl.back (p := q0) (i := i) (v := v) s'.drop (by rw [List.getElem?_set_ne (Ne.symm hij)]; exact g1) oB ?_ (fun a ha n hn => ?_) (fun a ha => ?_) (fun hk => ?_)) (b1.onto ⟨bb.b, bb.f, bb.n, fun n a ha => ?_⟩)
                        · refine List.nodup_append.mpr ⟨d1', List.nodup_append.mpr ⟨s'.nd j, d5, fun a ha b hb e => ?_⟩, fun a ha b hb e => ?_⟩
                          · subst e; exact (kk a (List.mem_append_right _ hb)).2.2 j ha
                          · subst e
                            rcases List.mem_append.mp hb with hb | hb
                            · exact (kk a (List.mem_append_left _ ha)).2.2 j hb
                            · exact d3 a ha a (List.mem_append_right _ hb) rfl
                        · by_cases hnj : n = j
                          · subst hnj; rw [soS_at]; exact fun z => nomatch z
                          · rw [soS_ne hnj]
                            rcases mem a ha with z | z
                            · exact (kk a z).2.2 n
                            · exact s'.dj j n a (Ne.symm hnj) z
                        · rcases mem a ha with z | z
                          · exact (kk a z).2.1
                          · exact s'.fr j a z
                        · have := s1.pn i ki hG hk
                          rw [hv] at this
                          exact (Option.some.inj (Option.some.inj this)).symm
                        · by_cases hn : n = i
                          · subst hn
                            rw [soS_at] at ha
                            rcases mem a ha with z | z
                            · exact hB a z
                            · exact bb.o j a z
                          · rw [soS_ne hn] at ha
                            by_cases hnj : n = j
                            · subst hnj; rw [soS_at] at ha; exact nomatch ha
                            · rw [soS_ne hnj] at ha; exact bb.o n a ha
                      · rw [if_neg hi2] at q; exact q.elim
            · rw [if_neg hc] at q; exact q.elim
end
end Pv

set_option Elab.async false
set_option linter.all false
set_option maxRecDepth 100000
set_option maxHeartbeats 1000000
/-! Pv: a loop that changes what it goes through. -/
namespace Pv
open PySem PySem.Spec PyProof.Rows L2
def faL (j c : Nat) (u : En → Rz Fl) (fin : List D → En → Rz Fl) : List D → List D → En → Rz Fl
  | [], acc, env => fin acc env
  | d :: ds, acc, env => if immK d c = true then (u (env.set j (some d))).bind fun o => match o with
    | .nx e => (match e[j]? with
      | some (some d2) => if immK d2 c = true then faL j c u fin ds (acc ++ [d2]) e else .no
      | _ => .no)
    | .rt r => .ok (.rt r)
    else .no
/-- for x in P: .. -/
def faF (i j k : Nat) (u : En → Rz Fl) : En → Rz Fl := fun env => match env[i]? with
  | some (some d) => match kids d, kdep d k with
    | some ds, some k1 => if j < env.length then faL j (min k1 40) u (fun acc e => .ok (.nx (e.set i (some (wkids d acc))))) ds [] (env.set i none) else .no
    | _, _ => .no
  | _ => .no
section
variable {X : Cx} {c : Nat → Addr} {q0 : Nat → V} {W : Nat → Hp → Prop} {G : List Md} {pos : Pos} {e tg : Expr} {k kr i j : Nat} {body : List Stmt} {u : En → Rz Fl}
def tIA (K : PySem.W.Frag) (i : Nat) : TI := fun σ H R => ∃ a, σ[i]? = some (some (V.ref a)) ∧ (((∃ xs, H a = some (.lst xs)) ∧ R (Itl K a) H) ∨ ((∃ xs, H a = some (.tup xs)) ∧ R (Itt K a) H))
theorem piA (h : PE X e (tVar i)) : PI X tg e (tIA X.K i) := ⟨fun pins s σ H R I ⟨a, hv, h2⟩ => h2.elim
  (fun ⟨⟨xs, hx⟩, r⟩ => (pi_list (tg := tg) h).run pins s σ H R I ⟨_, hv, a, rfl, ⟨xs, SqL.of hx⟩, r⟩)
  (fun ⟨⟨xs, hx⟩, r⟩ => (pi_tup (tg := tg) h).run pins s σ H R I ⟨_, hv, a, rfl, ⟨xs, SqT.of hx⟩, r⟩)⟩
theorem simS_fa (hc : X.calm = true) (hp : PassesOwn (model X.prog X.w) X.A X.env X.xe) (he : PE X e (tVar i)) (hg : PG X tg (gName j)) (hG : G[i]? = some (some k)) (hjG : j < G.length) (hij : i ≠ j)
    (hb : ∀ q, SimSs ⟨c, q⟩ W X ((G.set i (some 140)).set j (some 140)) body u ((G.set i (some 140)).set j (some 140)) kr) (hs : ∀ x, foldedSetIterable e X.env x = pure x := by intro _; rfl) :
    SimS ⟨c, q0⟩ W X G (.For tg e body [] pos) (faF i j k u) (G.set j none) kr := fun B F0 =>
  PS.weak (ps_for hp hc (piA (tg := tg) he) hg (⟨fun pins s σ H D I ⟨q, B', F0', h⟩ => (hb q B' F0').run pins s σ H D I h⟩ : PSs X body fun Dn σ H => ∃ q B' F0', tS X.K ⟨c, q⟩ W B' F0' ((G.set i (some 140)).set j (some 140)) u ((G.set i (some 140)).set j (some 140)) kr Dn σ H) hs) fun Dn σ H ⟨env, So, F, s, bd, q⟩ => by
    unfold faF at q
    cases hd : env[i]? with
    | none => rw [hd] at q; exact q.elim
    | some od =>
      cases od with
      | none => rw [hd] at q; exact q.elim
      | some d =>
        rw [hd] at q
        simp only at q
        cases hkd : kids d with
        | none => rw [hkd] at q; exact q.elim
        | some ds =>
          rw [hkd] at q
          cases hkp : kdep d k with
          | none => rw [hkp] at q; exact q.elim
          | some k1 =>
            rw [hkp] at q
            simp only at q
            by_cases hjl : j < env.length
            · rw [if_pos hjl] at q
              obtain ⟨v, hv, o⟩ := s.sl i k d hG hd
              have G1e : ((G.set i (some 140)).set j none).set j (some 140) = (G.set i (some 140)).set j (some 140) := List.set_set ..
              have g1 : ((G.set i (some 140)).set j (some 140))[i]? = some (some 140) := by
                rw [List.getElem?_set_ne (Ne.symm hij), List.getElem?_set_self (List.getElem?_eq_some_iff.mp hG).1]
              have g2 : ((G.set i (some 140)).set j (some 140))[j]? = some (some 140) := by
                rw [List.getElem?_set_self (by rw [List.length_set]; exact hjG)]
              -- the parent
              obtain ⟨a, PA, vs, S, rfl, hPA, os, hS, par, mk⟩ : ∃ (a : Addr) (PA : List Addr) (vs : List V) (S : List Addr), v = .ref a ∧ (PA = [a] ∧ H a = some (.lst vs) ∨ PA = [] ∧ F a = some (.tup vs)) ∧ Owns X.K ⟨c, q0⟩ F H k1 vs ds S ∧ So i = PA ++ S ∧
                  (PA = [a] ∧ H a = some (.lst vs) ∨ F a = some (.tup vs)) ∧ ∀ F' H' acc T, ((PA = [a] ∧ H' a = some (.lst vs)) ∨ (PA = [] ∧ F' a = some (.tup vs))) → Owns X.K ⟨c, q0⟩ F' H' k1 vs acc T → Own X.K ⟨c, q0⟩ F' H' k (.ref a) (wkids d acc) (PA ++ T) := by
                cases d with
                | lst xs =>
                  cases hkd
                  cases k with
                  | zero => cases hkp
                  | succ k =>
                    cases hkp
                    obtain ⟨a, vs, S0, rfl, hS, hh, os⟩ := o.lst_inv
                    exact ⟨a, [a], vs, S0, rfl, .inl ⟨rfl, hh⟩, os, hS, .inl ⟨rfl, hh⟩, fun F' H' acc T h o => by
                      rcases h with ⟨_, h⟩ | ⟨h, _⟩
                      · exact .lst h o
                      · cases h⟩
                | tup xs =>
                  cases hkd
                  have hkp : some k = some k1 := by cases k <;> exact hkp
                  cases hkp
                  obtain ⟨a, vs, rfl, hh, os⟩ := o.tup_inv
                  exact ⟨a, [], vs, So i, rfl, .inr ⟨rfl, hh⟩, os, rfl, .inr hh, fun F' H' acc T h o => by
                      rcases h with ⟨h, _⟩ | ⟨_, h⟩
                      · cases h
                      · exact .tup h o⟩
                | _ => cases hkd
              have nd := s.nd i
              rw [hS] at nd
              have PAi : ∀ b ∈ PA, b ∈ So i := fun b hb => by rw [hS]; exact List.mem_append_left _ hb
              have Si : ∀ b ∈ S, b ∈ So i := fun b hb => by rw [hS]; exact List.mem_append_right _ hb
              obtain ⟨nPA, nS, dPS⟩ := List.nodup_append.mp nd
              let Gh : List Md := (G.set i (some 140)).set j none
              let Inv : Nat → L2.St → Hp → Prop := fun t σ2 H2 => ∃ (e : En) (So2 : Nat → List Addr) (F2 : Hp) (acc : List D) (S2 : List Addr), Sl X.K ⟨c, pin q0 i (.ref a)⟩ Gh e σ2 So2 F2 H2 ∧ Bd B F0 So2 F2 H2 ∧ Ex F F2 ∧ j < e.length ∧ acc.length = t ∧ t ≤ ds.length ∧
                Owns X.K ⟨c, q0⟩ F2 H2 k1 vs (acc ++ ds.drop t) S2 ∧ (PA ++ S2).Nodup ∧ (∀ b ∈ PA ++ S2, B b = none ∧ F2 b = none ∧ ∀ n, b ∉ So2 n) ∧ (∀ b ∈ PA, H2 b = H b) ∧
                FinS X.K ⟨c, q0⟩ W B F0 (G.set j none) kr (faL j (min k1 40) u (fun acc e => .ok (.nx (e.set i (some (wkids d acc))))) (ds.drop t) acc e) H2 Dn
              have init : Inv 0 σ H := by
                have sh := (s.hide hv)
                refine ⟨env.set i none, soS (soS So i []) j [], F, [], S, ?_, bd.hide.hide, Evl.Ex.refl _, by rw [List.length_set]; exact hjl, rfl, Nat.zero_le _, os, nd, fun b hb => ?_, fun _ _ => rfl, q⟩
                · have z := Sl.drop (p := pin q0 i (.ref a)) (v := pin q0 i (.ref a) j) (j := j) (s := by
                    have e : pin (pin q0 i (.ref a)) j (pin q0 i (.ref a) j) = pin q0 i (.ref a) := by
                      funext n
                      unfold pin
                      by_cases hn : n = j
                      · subst hn; simp
                      · simp [hn]
                    rw [e]; exact sh)
                  exact z
                · have hbi : b ∈ So i := by rw [hS]; exact hb
                  refine ⟨bd.o i b hbi, s.fr i b hbi, fun n => ?_⟩
                  by_cases hn : n = j
                  · subst hn; rw [soS_at]; exact fun z => nomatch z
                  · rw [soS_ne hn]
                    by_cases hni : n = i
                    · subst hni; rw [soS_at]; exact fun z => nomatch z
                    · rw [soS_ne hni]; exact fun z => s.dj n i b hni z hbi
              have parent : ∀ {H2 F2 : Hp}, Ex F F2 → Ex F2 H2 → (∀ b ∈ PA, H2 b = H b) → (PA = [a] ∧ H2 a = some (.lst vs)) ∨ (PA = [] ∧ F2 a = some (.tup vs)) := fun {H2 F2} e1 e2 h => by
                rcases hPA with ⟨z, h2⟩ | ⟨z, h2⟩
                · exact .inl ⟨z, (h a (by rw [z]; exact List.mem_singleton.mpr rfl)).trans h2⟩
                · exact .inr ⟨z, e1 _ _ h2⟩
              -- the end
              have stop : ∀ (t : Nat) (σ2 : L2.St) (H2 : Hp), Inv t σ2 H2 → ds.length ≤ t → Dn.nx σ2 H2 := by
                rintro t σ2 H2 ⟨e, So2, F2, acc, S2, s2, b2, eF, hjl2, hacc, ht, os2, nd2, dis, hPk, q2⟩ hle
                rw [List.drop_eq_nil_of_le hle] at q2 os2
                rw [List.append_nil] at os2
                have q2 : ∀ σ' H' So' F', Sl X.K ⟨c, q0⟩ (G.set j none) (e.set i (some (wkids d acc))) σ' So' F' H' → Bd B F0 So' F' H' → Dn.nx σ' H' := q2
                have oo := mk F2 H2 acc S2 (parent eF s2.ex hPk) os2
                have gi : Gh[i]? = some (some 140) := by
                  show ((G.set i (some 140)).set j none)[i]? = _
                  rw [List.getElem?_set_ne (Ne.symm hij), List.getElem?_set_self (List.getElem?_eq_some_iff.mp hG).1]
                have sb := Sl.back (k := k) s2 gi oo nd2 (fun b hb n _ => (dis b hb).2.2 n) (fun b hb => (dis b hb).2.1) (fun hk => by
                  have := s.pn i k hG hk
                  rw [hv] at this
                  exact (Option.some.inj (Option.some.inj this)).symm)
                have Ge : Gh.set i (some k) = G.set j none := by
                  show ((G.set i (some 140)).set j none).set i (some k) = _
                  rw [List.set_comm _ _ (Ne.symm hij), List.set_set, set_self hG]
                rw [Ge] at sb
                refine q2 σ2 H2 _ F2 sb ⟨b2.b, b2.f, b2.n, fun n b hb => ?_⟩
                by_cases hn : n = i
                · subst hn; rw [soS_at] at hb; exact (dis b hb).1
                · rw [soS_ne hn] at hb; exact b2.o n b hb
              -- a turn
              have turn : ∀ (t : Nat) (σ2 : L2.St) (H2 : Hp) (x : V), Inv t σ2 H2 → vs[t]? = some x → t < ds.length → (fun Dn σ H => ∃ q B' F0', tS X.K ⟨c, q⟩ W B' F0' ((G.set i (some 140)).set j (some 140)) u ((G.set i (some 140)).set j (some 140)) kr Dn σ H) { Dn with nx := fun σ' H' => Inv (t + 1) σ' H', ct := fun σ' H' => Inv (t + 1) σ' H', bk := Dn.nx } (σ2.set j (some x)) H2 := by
                rintro t σ2 H2 x ⟨e, So2, F2, acc, S2, s2, b2, eF, hjl2, hacc, ht, os2, nd2, dis, hPk, q2⟩ hx hlt
                have hdt : ds[t]? = some ds[t] := List.getElem?_eq_getElem hlt
                rw [List.drop_eq_getElem_cons hlt] at q2 os2
                have hat : (acc ++ ds[t] :: ds.drop (t + 1))[t]? = some ds[t] := by
                  rw [List.getElem?_append_right (by omega), hacc, Nat.sub_self]; rfl
                obtain ⟨w, S3, St, S4, hw, hS2, ot, rb⟩ := os2.split hat
                rw [hx] at hw; cases hw
                have q2 : FinS X.K ⟨c, q0⟩ W B F0 (G.set j none) kr (if immK ds[t] (min k1 40) = true then (u (e.set j (some ds[t]))).bind fun o => match o with
                  | .nx e => (match e[j]? with
                    | some (some d2) => if immK d2 (min k1 40) = true then faL j (min k1 40) u (fun acc e => .ok (.nx (e.set i (some (wkids d acc))))) (ds.drop (t + 1)) (acc ++ [d2]) e else .no
                    | _ => .no)
                  | .rt r => .ok (.rt r) else .no) H2 Dn := q2
                by_cases him : immK ds[t] (min k1 40) = true
                · rw [if_pos him] at q2
                  rw [hS2] at nd2 dis
                  obtain ⟨m1, m2, m3⟩ := List.nodup_append.mp nd2
                  obtain ⟨m4, m5, m6⟩ := List.nodup_append.mp m2
                  obtain ⟨m7, m8, m9⟩ := List.nodup_append.mp m5
                  have inT : ∀ b ∈ St, b ∈ PA ++ (S3 ++ (St ++ S4)) := fun b hb => by simp [hb]
                  have inK : ∀ b ∈ PA ++ (S3 ++ S4), b ∈ PA ++ (S3 ++ (St ++ S4)) ∧ b ∉ St := fun b hb => by
                    rcases List.mem_append.mp hb with hb | hb
                    · exact ⟨by simp [hb], fun z => m3 b hb b (by simp [z]) rfl⟩
                    · rcases List.mem_append.mp hb with hb | hb
                      · exact ⟨by simp [hb], fun z => m6 b hb b (by simp [z]) rfl⟩
                      · exact ⟨by simp [hb], fun z => m9 b z b hb rfl⟩
                  have lvK : ∀ b ∈ PA ++ (S3 ++ S4), Mut (H2 b) := fun b hb => by
                    rcases List.mem_append.mp hb with hb | hb
                    · rw [hPk b hb]; exact s.lv i b (PAi b hb)
                    · refine os2.live b ?_
                      rw [hS2]
                      rcases List.mem_append.mp hb with hb | hb <;> simp [hb]
                  have hB : ∀ b ∈ PA ++ (S3 ++ S4), B b = none := fun b hb => (dis b (inK b hb).1).1
                  have sl := s2.lend ((ot.conv him (by omega) (by omega : min k1 40 ≤ 140)).pinC) hjl2 m7 (fun b hb n hn => (dis b (inT b hb)).2.2 n) (fun b hb => (dis b (inT b hb)).2.1)
                  rw [G1e] at sl
                  have bl := (b2.self.lend (j := j) (S := St) (fun b hb => (dis b (inT b hb)).1)).more (KS := PA ++ (S3 ++ S4)) (fun b hb => (dis b (inK b hb).1).2.1) (fun b hb n => by
                    by_cases hn : n = j
                    · rw [hn, soS_at]; exact (inK b hb).2
                    · rw [soS_ne hn]; exact (dis b (inK b hb).1).2.2 n)
                  refine ⟨_, _, F2, e.set j (some ds[t]), _, F2, sl, bl, ?_⟩
                  cases hu : u (e.set j (some ds[t])) with
                  | er c => rw [hu] at q2; exact fun H' e => q2 H' ((bK_ex hB).trans e)
                  | no => rw [hu] at q2; exact q2
                  | ok r =>
                    rw [hu] at q2
                    cases r with
                    | rt r => exact fun v H' F' S h1 h2 h3 h4 h5 h6 h7 => q2 v H' F' S ((bK_ex hB).trans h1) (b2.f.trans h2) h3 (b2.nn fun a z1 z2 => bK_mut hB (h4 a z1 z2)) h5.pinC h6 fun a ha => ⟨bK_none hB (h7 a ha).1, (h7 a ha).2⟩
                    | nx e3 =>
                      simp only [Rz.bind_ok] at q2
                      refine fun σ' H' So' F' s' b' => ?_
                      cases he3 : e3[j]? with
                      | none => rw [he3] at q2; exact q2.elim
                      | some oe =>
                        cases oe with
                        | none => rw [he3] at q2; exact q2.elim
                        | some d2 =>
                          rw [he3] at q2
                          simp only at q2
                          by_cases hi2 : immK d2 (min k1 40) = true
                          · rw [if_pos hi2] at q2
                            obtain ⟨bb, kk⟩ := Bd.less hB lvK (fun b hb => (dis b (inK b hb).1).2.1) b'
                            obtain ⟨w2, hw2, o2⟩ := s'.sl j 140 d2 g2 he3
                            have hpj := s'.pn j 140 g2 (by omega)
                            rw [hw2, show (Cl.p ⟨c, pin (pin q0 i (V.ref a)) j x⟩ j) = x from pin_at] at hpj
                            have ew : w2 = x := Option.some.inj (Option.some.inj hpj)
                            subst ew
                            have oB := rb F' H' w2 d2 (So' j) b'.f (fun b hb => (kk b (by rcases hb with hb | hb <;> simp [hb])).1) ((o2.conv hi2 (by omega : min k1 40 ≤ 140) (by omega)).pinC)
                            rw [set_self hx] at oB
                            have es : (acc ++ ds[t] :: ds.drop (t + 1)).set t d2 = (acc ++ [d2]) ++ ds.drop (t + 1) := by
                              rw [List.set_append_right _ _ (by omega), hacc, Nat.sub_self, List.set_cons_zero, List.append_assoc]; rfl
                            rw [es] at oB
                            have mem : ∀ b ∈ PA ++ (S3 ++ (So' j ++ S4)), b ∈ PA ++ (S3 ++ S4) ∨ b ∈ So' j := fun b hb => by
                              simp only [List.mem_append] at hb ⊢
                              rcases hb with h | h | h | h <;> simp [h]
                            have sd := s'.drop
                            have Gd : ((G.set i (some 140)).set j (some 140)).set j none = Gh := List.set_set ..
                            rw [Gd] at sd
                            refine ⟨e3, _, F', acc ++ [d2], S3 ++ (So' j ++ S4), sd, ?_, eF.trans b'.f, (List.getElem?_eq_some_iff.mp he3).1, by simp [hacc], hlt, oB, ?_, fun b hb => ?_, fun b hb => ?_, q2.ends⟩
                            · have := b2.onto bb
                              exact this.hide
                            · refine List.nodup_append.mpr ⟨m1, List.nodup_append.mpr ⟨m4, List.nodup_append.mpr ⟨s'.nd j, m8, fun x hx y hy e => ?_⟩, fun x hx y hy e => ?_⟩, fun x hx y hy e => ?_⟩
                              · subst e; exact (kk x (by simp [hy])).2.2 j hx
                              · subst e
                                rcases List.mem_append.mp hy with hy | hy
                                · exact (kk x (by simp [hx])).2.2 j hy
                                · exact m6 x hx x (by simp [hy]) rfl
                              · subst e
                                rcases List.mem_append.mp hy with hy | hy
                                · exact m3 x hx x (by simp [hy]) rfl
                                · rcases List.mem_append.mp hy with hy | hy
                                  · exact (kk x (by simp [hx])).2.2 j hy
                                  · exact m3 x hx x (by simp [hy]) rfl
                            · rcases mem b hb with z | z
                              · refine ⟨hB b z, (kk b z).2.1, fun n => ?_⟩
                                by_cases hn : n = j
                                · subst hn; rw [soS_at]; exact fun z => nomatch z
                                · rw [soS_ne hn]; exact (kk b z).2.2 n
                              · refine ⟨bb.o j b z, s'.fr j b z, fun n => ?_⟩
                                by_cases hn : n = j
                                · subst hn; rw [soS_at]; exact fun z => nomatch z
                                · rw [soS_ne hn]; exact s'.dj j n b (Ne.symm hn) z
                            · rw [(kk b (by simp [hb])).1]; exact hPk b hb
                          · rw [if_neg hi2] at q2; exact q2.elim
                · rw [if_neg him] at q2; exact q2.elim
              have hlen : vs.length = ds.length := os.length
              -- put together
              refine ⟨a, hv, ?_⟩
              have loop : ∀ (J : It), (∀ (t : Nat) (σ2 : L2.St) (H2 : Hp), Inv t σ2 H2 → (t < ds.length → J.go t H2 ∧ ∀ x H3, J.yld t H2 x H3 → H3 = H2 ∧ vs[t]? = some x) ∧ (ds.length ≤ t → J.stop t H2)) → ∃ WW : Nat → Nat → L2.St → Hp → Prop, (∃ m, WW 0 m σ H) ∧ ∀ t m σ H, WW t m σ H →
                  (J.stop t H ∧ Dn.nx σ H) ∨ (J.go t H ∧ ∃ N : L2.St → Hp → Prop, (∀ σ' H', N σ' H' → ∃ m', m' < m ∧ WW (t + 1) m' σ' H') ∧ ∀ x H', J.yld t H x H' → gName j x σ H' fun σ2 H2 => (fun Dn σ H => ∃ q B' F0', tS X.K ⟨c, q⟩ W B' F0' ((G.set i (some 140)).set j (some 140)) u ((G.set i (some 140)).set j (some 140)) kr Dn σ H) { Dn with nx := N, ct := N, bk := Dn.nx } σ2 H2) := fun J hJ =>
                ⟨fun t m σ2 H2 => m = ds.length - t ∧ Inv t σ2 H2, ⟨_, rfl, init⟩, fun t m σ2 H2 ⟨hm, I⟩ => by
                  obtain ⟨j1, j2⟩ := hJ t σ2 H2 I
                  by_cases hlt : t < ds.length
                  · obtain ⟨go, yl⟩ := j1 hlt
                    refine .inr ⟨go, Inv (t + 1), fun σ' H' I' => ⟨ds.length - (t + 1), by omega, rfl, I'⟩, fun x H3 y => ?_⟩
                    obtain ⟨rfl, hx⟩ := yl x H3 y
                    exact turn t σ2 _ x I hx hlt
                  · exact .inl ⟨j2 (by omega), stop t σ2 H2 I (by omega)⟩⟩
              rcases hPA with ⟨z, hh⟩ | ⟨z, hh⟩
              · refine .inl ⟨⟨vs, hh⟩, loop _ fun t σ2 H2 ⟨e, So2, F2, acc, S2, s2, b2, eF, hjl2, hacc, ht, os2, nd2, dis, hPk, q2⟩ => ?_⟩
                have hh2 : H2 a = some (.lst vs) := (hPk a (by rw [z]; exact List.mem_singleton.mpr rfl)).trans hh
                refine ⟨fun hlt => ⟨⟨vs, vs[t]'(by omega), SqL.of hh2, List.getElem?_eq_getElem (by omega)⟩, fun x H3 y => ⟨y.1, y.2 vs (SqL.of hh2)⟩⟩, fun hle => ⟨vs, SqL.of hh2, by omega⟩⟩
              · refine .inr ⟨⟨vs, s.ex _ _ hh⟩, loop _ fun t σ2 H2 ⟨e, So2, F2, acc, S2, s2, b2, eF, hjl2, hacc, ht, os2, nd2, dis, hPk, q2⟩ => ?_⟩
                have hh2 : H2 a = some (.tup vs) := s2.ex _ _ (eF _ _ hh)
                refine ⟨fun hlt => ⟨⟨vs, vs[t]'(by omega), SqT.of hh2, List.getElem?_eq_getElem (by omega)⟩, fun x H3 y => ⟨y.1, y.2 vs (SqT.of hh2)⟩⟩, fun hle => ⟨vs, SqT.of hh2, by omega⟩⟩
            · rw [if_neg hjl] at q; exact q.elim
end
end Pv

set_option Elab.async false
set_option linter.all false
set_option maxRecDepth 100000
set_option maxHeartbeats 1000000
/-! Pv: range with a step, index, count, dicts. -/
namespace Pv
open PySem PySem.Spec PyProof.Rows L2
section
variable {X : Cx} {cl : Cl} {W : Nat → Hp → Prop} {G : List Md} {m : Mo} {pos p apos cpos p1 p2 : Pos} {e a b c o tg x : Expr} {f g fi : En → Rz D} {fs : En → Rz (List D)} {i k kr : Nat}
/-! ### range(a, b, c) -/
def rngL (i j c : Int) : List D := (List.range (Builtin.Range.rangeSize i j c).toNat).map fun (n : Nat) => .int (i + (n : Int) * c)
def rng3 (ds : List D) : Rz (List D) := match ds with
  | [.int i, .int j, .int c] => if i.natAbs ≤ 1000000000 ∧ j.natAbs ≤ 1000000000 ∧ c ≠ 0 ∧ c.natAbs ≤ 1000000000 then .ok (rngL i j c) else .no
  | _ => .no
theorem rng_small {i j c : Int} (h1 : i.natAbs ≤ 1000000000) (h2 : j.natAbs ≤ 1000000000) (h3 : c ≠ 0) (h4 : c.natAbs ≤ 1000000000) : RgC i j c (Builtin.Range.rangeSize i j c).toNat := by
  have hs : 0 ≤ Builtin.Range.rangeSize i j c ∧ Builtin.Range.rangeSize i j c ≤ 2000000001 := by
    have := PyProof.Rows.rangeSize_toNat i j c
    have h5 := PyProof.Rows.rangeSize_toNat_le i j c
    omega
  refine ⟨h3, by omega, ?_, by omega⟩
  unfold Builtin.Range.small
  generalize Builtin.Range.rangeSize i j c = z at hs
  simp only [Builtin.Range.rangeFitsLong, Bool.and_eq_true, Bool.or_eq_true, decide_eq_true_eq, beq_iff_eq]
  refine ⟨⟨⟨⟨by omega, by omega⟩, by omega⟩, by omega⟩, ?_⟩
  right
  split <;> (simp only [Bool.and_eq_true, decide_eq_true_eq]; omega)
theorem walk_rngC {K : PySem.W.Frag} {F' : Hp} {lo c : Int} {n : Nat} : Walk K cl (Itc lo c n) ((List.range n).map fun (i : Nat) => .int (lo + (i : Int) * c)) F' F' := fun i H2 F2 _ e1 e2 => by
  refine ⟨fun d hd => ?_, fun hl => by rw [List.length_map, List.length_range] at hl; exact hl⟩
  have hl : i < n := by
    have := (List.getElem?_eq_some_iff.mp hd).1
    simpa using this
  rw [List.getElem?_map, List.getElem?_range hl] at hd
  cases hd
  refine ⟨hl, fun x H3 y => ?_⟩
  obtain ⟨rfl, rfl⟩ := y
  exact ⟨F2, Grow.refl e2, .int _⟩
theorem simI_rng3 (hg : Gl X "range") (hm : X.mg "range" = none) (ha : SimA cl W X G [a, b, c] fs .R) (hs : starEach [a, b, c] X.env = (false, eval a X.env) :: starEach [b, c] X.env := by rfl) (hpl : (backTo pos (starEach [b, c] X.env)).any (·.1) = false := by rfl) : SimI cl W X G tg (.Call (.Name "range" p) [a, b, c] [] pos) (aI rng3 fs) :=
  PI.weak (pi_range3 hg hm ha hs hpl) fun σ H R ⟨env, So, F, s, q⟩ => ⟨env, So, F, s, by
    unfold aI at q
    cases hf : fs env with
    | er c => rw [hf] at q; exact q
    | no => rw [hf] at q; exact q
    | ok ds =>
      rw [hf] at q
      simp only [Rz.bind_ok] at q
      refine fun vs H1 F1 g1 r => ?_
      have r : Reps X.K cl H1 vs ds := r
      by_cases hh : ∃ i j c, ds = [.int i, .int j, .int c]
      · obtain ⟨i, j, c, rfl⟩ := hh
        cases r with
        | cons r1 rr =>
          obtain ⟨v', v'', rfl, r2, r3⟩ := rr.two
          cases r1; cases r2; cases r3
          have q2 : (match (if i.natAbs ≤ 1000000000 ∧ j.natAbs ≤ 1000000000 ∧ c ≠ 0 ∧ c.natAbs ≤ 1000000000 then .ok (rngL i j c) else .no : Rz (List D)) with
            | .ok ds => ∀ J H' F', Grow F H F' H' → Walk X.K cl J ds F' F' → R J H'
            | .er c => ∀ H', Ex H H' → W c H'
            | .no => False) := q
          by_cases hc : i.natAbs ≤ 1000000000 ∧ j.natAbs ≤ 1000000000 ∧ c ≠ 0 ∧ c.natAbs ≤ 1000000000
          · rw [if_pos hc] at q2
            exact ⟨i, j, c, _, rfl, rng_small hc.1 hc.2.1 hc.2.2.1 hc.2.2.2, q2 _ H1 F1 g1 walk_rngC⟩
          · rw [if_neg hc] at q2; exact q2.elim
      · have e : rng3 ds = .no := by
          unfold rng3
          split
          · exact absurd ⟨_, _, _, rfl⟩ hh
          · rfl
        rw [e] at q; exact q.elim⟩
/-! ### x.index(y), x.count(y) -/
/-- a method that only reads, of ints in a list -/
def liF (p : List Int → Int → Rz D) (f g : En → Rz D) : En → Rz D := fun env => (f env).bind fun l => match l with
  | .lst ds => (g env).bind fun x => (match ints1 ds, x with
    | some ns, .int k => p ns k
    | _, _ => .no)
  | _ => .no
def idxI (ns : List Int) (k : Int) : Rz D := if k ∈ ns then .ok (.int (ns.idxOf k : Nat)) else .no
def cntI (ns : List Int) (k : Int) : Rz D := .ok (.int (ns.count k : Nat))
theorem go_li {r : V → List V → Hp → VK → Prop} {q : List Int → Int → Rz D} (hop : ∀ F H l ns k Q, Ex F H → H l = some (.lst (ns.map V.int)) → Res X.K cl W (q ns k) m F H Q → r (.ref l) [.int k] H Q) :
    ∀ σ H Q, tE X.K cl W G (liF q f g) m σ H Q → tBM X.K "list" r (tE X.K cl W G f .R) (tA X.K cl W G (consF g nilF) .R) σ H Q := fun σ H Q ⟨env, So, F, s, h⟩ => by
  unfold liF at h
  refine ⟨env, So, F, s, ?_⟩
  cases hf : f env with
  | er c => rw [hf] at h; exact h
  | no => rw [hf] at h; exact h
  | ok dl =>
    rw [hf] at h
    simp only [Rz.bind_ok] at h
    refine fun v H1 F1 g1 rv => ?_
    have rv : Rep X.K cl H1 v dl := rv
    cases rv with
    | @lst ad vs xs hs rs =>
      refine ⟨.inl ⟨rfl, vs, SqL.of hs⟩, env, So, F1, s.grow g1, ?_⟩
      unfold consF nilF
      cases hg : g env with
      | er c => rw [hg] at h; exact fun H' e => h H' (g1.h.trans e)
      | no => rw [hg] at h; exact h
      | ok dx =>
        rw [hg] at h
        simp only [Rz.bind_ok] at h ⊢
        refine fun ws H2 F2 g2 rw' => ?_
        obtain ⟨w, rfl, rw1⟩ := Reps.one rw'
        cases hi : ints1 xs with
        | none => rw [hi] at h; exact h.elim
        | some ns =>
          rw [hi] at h
          have ex := ints1_eq hi
          subst ex
          have ev := rs.ints
          subst ev
          cases rw1 with
          | int k => exact hop F2 H2 ad ns k Q g2.i (g2.h _ _ hs) (Res.go (g1.trans g2) h)
          | _ => exact h.elim
    | _ => exact h.elim
theorem all_flat (ns : List Int) : (ns.map V.int).all flatV = true := by
  induction ns with
  | nil => rfl
  | cons a ns ih => rw [List.map_cons, List.all_cons, ih]; rfl
theorem sim_index (hg : SimE cl W X G o f .R) (ha : SimE cl W X G e g .R)
    (hbase : attributeBase o "index" X.env (eval o X.env) = eval o X.env := by rfl)
    (hfew : ((backTo pos (starEach [e] X.env)).all (fun x => !x.1) && (backToKw pos (keywordEach [] X.env)).all (fun x => x.1.isSome)
      && decide ([e].length + ([] : List Keyword).length + (if ([] : List Keyword).isEmpty then 0 else 1) < 30)) = true := by rfl)
    (hline : (apos.endLine == pos.line) = true := by rfl) (hs : starEach [e] X.env = (false, eval e X.env) :: starEach [] X.env := by rfl) (hplain : (backTo pos (starEach [] X.env)).any (·.1) = false := by rfl) :
    SimE cl W X G (.Call (.Attribute o "index" apos) [e] [] pos) (liF idxI f g) m :=
  PE.weak (pe_bm PySem.F.plainAttrs_list PySem.F.slot_list_index PySem.F.type_list_index mt_index hg (simA_cons ha simA_nil (hs := hs)) hbase hfew hline hs hplain) (go_li fun F H l ns k Q ex hl q => by
    obtain ⟨hk, q⟩ := Res.ifp q
    have hlt : ns.idxOf k < ns.length := List.idxOf_lt_length_iff.mpr hk
    refine ⟨l, ns.map V.int, .int k, ns.idxOf k, .int k, rfl, rfl, SqL.of hl, rfl, all_flat ns, ?_, beq_self_eq_true k, fun i z hi hz => ?_, q.imR (fun _ => .int _) rfl ex⟩
    · rw [List.getElem?_map, List.getElem?_eq_getElem hlt, List.getElem_idxOf]; rfl
    · rw [List.getElem?_map] at hz
      cases hn : ns[i]? with
      | none => rw [hn] at hz; cases hz
      | some y =>
        rw [hn] at hz
        cases hz
        refine beq_eq_false_iff_ne.mpr fun e => ?_
        subst e
        have := List.not_of_lt_findIdx (p := (· == y)) (xs := ns) (i := i) hi
        obtain ⟨h1, h2⟩ := List.getElem?_eq_some_iff.mp hn
        rw [h2] at this
        simp at this)
theorem sim_count (hg : SimE cl W X G o f .R) (ha : SimE cl W X G e g .R)
    (hbase : attributeBase o "count" X.env (eval o X.env) = eval o X.env := by rfl)
    (hfew : ((backTo pos (starEach [e] X.env)).all (fun x => !x.1) && (backToKw pos (keywordEach [] X.env)).all (fun x => x.1.isSome)
      && decide ([e].length + ([] : List Keyword).length + (if ([] : List Keyword).isEmpty then 0 else 1) < 30)) = true := by rfl)
    (hline : (apos.endLine == pos.line) = true := by rfl) (hs : starEach [e] X.env = (false, eval e X.env) :: starEach [] X.env := by rfl) (hplain : (backTo pos (starEach [] X.env)).any (·.1) = false := by rfl) :
    SimE cl W X G (.Call (.Attribute o "count" apos) [e] [] pos) (liF cntI f g) m :=
  PE.weak (pe_bm PySem.F.plainAttrs_list PySem.F.slot_list_count PySem.F.type_list_count mt_lcount hg (simA_cons ha simA_nil (hs := hs)) hbase hfew hline hs hplain) (go_li fun F H l ns k Q ex hl q =>
    ⟨l, ns, k, rfl, rfl, SqL.of hl, q.imR (fun _ => .int _) rfl ex⟩)
/-! ### dicts of ints and texts -/
def keyD : D → Option Key
  | .int i => some (.inl i)
  | .str x => some (.inr x)
  | _ => none
def valD (kvs : List (Key × D)) (k : Key) : Option D := (kvs.find? fun kv => decide (kv.1 = k)).map (·.2)
def putD (kvs : List (Key × D)) (k : Key) (d : D) : List (Key × D) :=
  if (kvs.any fun kv => decide (kv.1 = k)) = true then kvs.map (fun kv => if kv.1 = k then (kv.1, d) else kv) else kvs ++ [(k, d)]
theorem key_rep {K : PySem.W.Frag} {H : Hp} {v : V} {d : D} {k : Key} (h : Rep K cl H v d) (e : keyD d = some k) : v = kV k := by
  cases h <;> first | (cases e; rfl) | cases e
/-- the keys alike, the values held -/
def DRep (K : PySem.W.Frag) (cl : Cl) (H : Hp) (ks : List (Key × V)) (ds : List (Key × D)) : Prop := ks.map (·.1) = ds.map (·.1) ∧ Reps K cl H (ks.map (·.2)) (ds.map (·.2))
theorem DRep.ind {K : PySem.W.Frag} {H : Hp} : ∀ {ks : List (Key × V)} {ds : List (Key × D)}, DRep K cl H ks ds → (ks = [] ∧ ds = []) ∨ ∃ k v d ks' ds', ks = (k, v) :: ks' ∧ ds = (k, d) :: ds' ∧ Rep K cl H v d ∧ DRep K cl H ks' ds'
  | [], [], _ => .inl ⟨rfl, rfl⟩
  | [], _ :: _, h => by have := h.1; simp at this
  | _ :: _, [], h => by have := h.1; simp at this
  | (k, v) :: ks, (k', d) :: ds, ⟨h1, h2⟩ => by
    rw [List.map_cons, List.map_cons] at h1
    obtain ⟨h3, h4⟩ := List.cons.inj h1
    have h3 : k = k' := h3
    subst h3
    cases h2 with
    | cons r rs => exact .inr ⟨k, v, d, ks, ds, rfl, rfl, r, h4, rs⟩
theorem DRep.val {K : PySem.W.Frag} {H : Hp} {k : Key} : ∀ {ks : List (Key × V)} {ds : List (Key × D)}, DRep K cl H ks ds → (valV ks k = none ∧ valD ds k = none) ∨ ∃ v d, valV ks k = some v ∧ valD ds k = some d ∧ Rep K cl H v d := by
  intro ks
  induction ks with
  | nil =>
    intro ds h
    rcases h.ind with ⟨_, rfl⟩ | ⟨k, v, d, ks', ds', h1, _⟩
    · exact .inl ⟨rfl, rfl⟩
    · cases h1
  | cons p ks ih =>
    intro ds h
    rcases h.ind with ⟨h1, _⟩ | ⟨k', v, d, ks', ds', h1, rfl, r, hr⟩
    · cases h1
    · cases h1
      by_cases e : k' = k
      · subst e
        exact .inr ⟨v, d, valV_pos rfl, by simp [valD], r⟩
      · have z := ih hr
        rw [valV_neg (p := (k', v)) e, show valD ((k', d) :: ds') k = valD ds' k by simp [valD, List.find?_cons, e]]
        exact z
theorem DRep.any {K : PySem.W.Frag} {H : Hp} {k : Key} {ks : List (Key × V)} {ds : List (Key × D)} (h : DRep K cl H ks ds) : (ks.any fun kv => decide (kv.1 = k)) = ds.any fun kv => decide (kv.1 = k) := by
  have e1 : (ks.any fun kv => decide (kv.1 = k)) = (ks.map (·.1)).any fun x => decide (x = k) := by rw [List.any_map]; rfl
  have e2 : (ds.any fun kv => decide (kv.1 = k)) = (ds.map (·.1)).any fun x => decide (x = k) := by rw [List.any_map]; rfl
  rw [e1, e2, h.1]
theorem DRep.len {K : PySem.W.Frag} {H : Hp} {ks : List (Key × V)} {ds : List (Key × D)} (h : DRep K cl H ks ds) : ks.length = ds.length := by
  have := congrArg List.length h.1
  simpa using this
theorem DRep.map {K : PySem.W.Frag} {H : Hp} {k : Key} {v : V} {d : D} (r : Rep K cl H v d) : ∀ {ks : List (Key × V)} {ds : List (Key × D)}, DRep K cl H ks ds → DRep K cl H (ks.map fun kv => if kv.1 = k then (kv.1, v) else kv) (ds.map fun kv => if kv.1 = k then (kv.1, d) else kv) := by
  intro ks
  induction ks with
  | nil =>
    intro ds h
    rcases h.ind with ⟨_, rfl⟩ | ⟨k, v, d, ks', ds', h1, _⟩
    · exact ⟨rfl, .nil⟩
    · cases h1
  | cons p ks ih =>
    intro ds h
    rcases h.ind with ⟨h1, _⟩ | ⟨k', w, e, ks', ds', h1, rfl, r', hr⟩
    · cases h1
    · cases h1
      obtain ⟨z1, z2⟩ := ih hr
      rw [List.map_cons, List.map_cons]
      by_cases e : k' = k
      · simp only [e, if_true]
        exact ⟨by rw [List.map_cons, List.map_cons, z1], .cons r z2⟩
      · simp only [e, if_false]
        exact ⟨by rw [List.map_cons, List.map_cons, z1], .cons r' z2⟩
theorem DRep.put {K : PySem.W.Frag} {H : Hp} {k : Key} {v : V} {d : D} {ks : List (Key × V)} {ds : List (Key × D)} (h : DRep K cl H ks ds) (r : Rep K cl H v d) : DRep K cl H (putK ks k v) (putD ds k d) := by
  unfold putK putD
  rw [h.any]
  split
  · exact h.map r
  · exact ⟨by rw [List.map_append, List.map_append, h.1]; rfl, by rw [List.map_append, List.map_append]; exact h.2.append (.cons r .nil)⟩
/-- {} -/
theorem sim_dnew : SimE cl W X G (.Dict [] [] pos) (cF (.dK [])) (.N (k + 1)) :=
  PE.weak pe_dnewK fun σ H Q ⟨env, So, F, s, q⟩ p hp => q (.ref p) (upd H p (.dK [])) F (Grow.newO s.ex hp) ⟨[p], .dK upd_same rfl .nil, by simp, fun a ha => by
    have : a = p := by simpa using ha
    subst this
    exact ⟨hp, Evl.fresh_back s.ex hp⟩⟩
def dgetD (x y : D) : Rz D := match x, keyD y with
  | .dK kvs, some k => (match valD kvs k with
    | some d => .ok d
    | none => .no)
  | _, _ => .no
def dinD (y x : D) : Rz D := match x, keyD y with
  | .dK kvs, some k => .ok (.bl (valD kvs k).isSome)
  | _, _ => .no
def dninD (y x : D) : Rz D := match x, keyD y with
  | .dK kvs, some k => .ok (.bl (!(valD kvs k).isSome))
  | _, _ => .no
theorem hop_din {K : PySem.W.Frag} {neg : Bool} : ∀ F H y x dy dx Q, Ex F H → Rep K cl H y dy → Rep K cl H x dx → Res K cl W ((if neg = true then dninD else dinD) dy dx) m F H Q → (∃ a o, x = .ref a ∧ DGet H a y o ∧ Q (.bl (if neg = true then !o.isSome else o.isSome)) H) := fun F H y x dy dx Q ex ry rx q => by
  cases hk : keyD dy with
  | none =>
    exfalso
    have : (if neg = true then dninD else dinD) dy dx = .no := by
      cases neg <;> simp only [if_true, if_false, Bool.false_eq_true, dninD, dinD, hk] <;> cases dx <;> rfl
    rw [this] at q; exact q
  | some k =>
    have ev := key_rep ry hk
    subst ev
    cases rx with
    | @dK a ks ds hs h1 h2 =>
      have dr : DRep K cl H ks ds := ⟨h1, h2⟩
      refine ⟨a, valV ks k, rfl, .k hs, ?_⟩
      have e : (valV ks k).isSome = (valD ds k).isSome := by
        rcases dr.val (k := k) with ⟨e1, e2⟩ | ⟨v, d, e1, e2, _⟩ <;> rw [e1, e2] <;> rfl
      rw [e]
      cases neg with
      | true =>
        have q : Res K cl W (dninD dy (.dK ds)) m F H Q := q
        unfold dninD at q
        simp only [hk] at q
        exact q.bl ex
      | false =>
        have q : Res K cl W (dinD dy (.dK ds)) m F H Q := q
        unfold dinD at q
        simp only [hk] at q
        exact q.bl ex
    | _ => exfalso; cases neg <;> exact q
theorem sim_din (hu : X.A.units + 64 < cLine) (ha : SimE cl W X G a f .R) (hb : SimE cl W X G b g .R) (hm : behindInMarks .In b = false := by rfl) : SimE cl W X G (.Compare a [.In] [b] pos) (b2 dinD f g) m :=
  PE.weak (pe_cmp (pc_din (by omega) ha hb) hm) (go2 (r := fun y x H Q => ∃ a o, x = .ref a ∧ DGet H a y o ∧ Q (.bl o.isSome) H) (hop_din (neg := false)))
theorem sim_dnin (hu : X.A.units + 64 < cLine) (ha : SimE cl W X G a f .R) (hb : SimE cl W X G b g .R) (hm : behindInMarks .NotIn b = false := by rfl) : SimE cl W X G (.Compare a [.NotIn] [b] pos) (b2 dninD f g) m :=
  PE.weak (pe_cmp (pc_dnotin (by omega) ha hb) hm) (go2 (r := fun y x H Q => ∃ a o, x = .ref a ∧ DGet H a y o ∧ Q (.bl (!o.isSome)) H) (hop_din (neg := true)))
theorem simT_din (hu : X.A.units + 64 < cLine) (ha : SimE cl W X G a f .R) (hb : SimE cl W X G b g .R) (hm : behindInMarks .In b = false := by rfl) : SimT cl W X G (.Compare a [.In] [b] pos) (tF (b2 dinD f g)) :=
  PT.weak (pt_cmp (pc_din (by omega) ha hb) hm) (goT (go2 (r := fun y x H Q => ∃ a o, x = .ref a ∧ DGet H a y o ∧ Q (.bl o.isSome) H) (hop_din (neg := false))))
theorem simT_dnin (hu : X.A.units + 64 < cLine) (ha : SimE cl W X G a f .R) (hb : SimE cl W X G b g .R) (hm : behindInMarks .NotIn b = false := by rfl) : SimT cl W X G (.Compare a [.NotIn] [b] pos) (tF (b2 dninD f g)) :=
  PT.weak (pt_cmp (pc_dnotin (by omega) ha hb) hm) (goT (go2 (r := fun y x H Q => ∃ a o, x = .ref a ∧ DGet H a y o ∧ Q (.bl (!o.isSome)) H) (hop_din (neg := true))))
theorem hop_dget {K : PySem.W.Frag} : ∀ F H x y dx dy Q, Ex F H → Rep K cl H x dx → Rep K cl H y dy → Res K cl W (dgetD dx dy) .R F H Q → ∃ a v, x = .ref a ∧ DGet H a y (some v) ∧ Q v H := fun F H x y dx dy Q ex rx ry q => by
  unfold dgetD at q
  cases hk : keyD dy with
  | none => rw [hk] at q; cases dx <;> exact q.elim
  | some k =>
    rw [hk] at q
    have ev := key_rep ry hk
    subst ev
    cases rx with
    | @dK a ks ds hs h1 h2 =>
      have dr : DRep K cl H ks ds := ⟨h1, h2⟩
      simp only at q
      rcases dr.val (k := k) with ⟨e1, e2⟩ | ⟨v, d, e1, e2, r⟩
      · rw [e2] at q; exact q.elim
      · rw [e2] at q
        exact ⟨a, v, rfl, e1 ▸ DGet.k hs, q v H F (Grow.refl ex) r⟩
    | _ => exact q.elim
theorem sim_dget (hu : X.A.units + 64 < cLine) (ha : SimE cl W X G a f .R) (hb : SimE cl W X G b g .R) (hs : NoSl b := by intro _ _; rfl) : SimE cl W X G (.Subscript a b pos) (b2 dgetD f g) .R :=
  PE.weak (pe_dget (by omega) ha hb hs) (go2 (r := fun x y H Q => ∃ a v, x = .ref a ∧ DGet H a y (some v) ∧ Q v H) hop_dget)
def dlenO (ds : List D) : Rz D := match ds with
  | [.dK xs] => .ok (.int xs.length)
  | _ => .no
theorem sim_dlen (hg : Gl X "len") (hm : X.mg "len" = none) (ha : SimA cl W X G [x] fs .R)
    (he : starEach [x] X.env = (false, eval x X.env) :: starEach [] X.env := by rfl) (hpl : (backTo pos (starEach [] X.env)).any (·.1) = false := by rfl) : SimE cl W X G (.Call (.Name "len" p) [x] [] pos) (aF dlenO fs) m :=
  PE.weak (pe_callB call_lenD hg hm PySem.boot_len ha (he := he) (hpl := hpl)) (sim_cb fun F H vs ds Q ex r q => by
    rcases ds with _ | ⟨d, _ | ⟨d2, ds⟩⟩
    · exact q.elim
    · obtain ⟨v, rfl, r1⟩ := r.one
      cases r1 with
      | dK s h1 r2 => exact ⟨_, _, rfl, s, by
          have : DRep X.K cl H _ _ := ⟨h1, r2⟩
          rw [this.len]; exact q.imR (fun _ => .int _) rfl ex⟩
      | _ => exact q.elim
    · cases d <;> exact q.elim)
/-- x[fi] = f, x a dict -/
def dputF (i : Nat) (fi f : En → Rz D) : En → Rz Fl := fun env => (f env).bind fun d => match env[i]? with
  | some (some (.dK kvs)) => (fi env).bind fun x => (match keyD x with
    | some k => if kvs.length < lim then .ok (.nx (env.set i (some (.dK (putD kvs k d))))) else .no
    | none => .no)
  | _ => .no
theorem Own.dK_inv {K : PySem.W.Frag} {F H : Hp} {k : Nat} {v : V} {ds : List (Key × D)} {S : List Addr} (h : Own K cl F H (k + 1) v (.dK ds) S) : ∃ a ks, v = .ref a ∧ S = [a] ∧ H a = some (.dK ks) ∧ DRep K cl F ks ds := by
  cases h with
  | im r i => simp [imm] at i
  | dK s e r => exact ⟨_, _, rfl, rfl, s, e, r⟩
theorem simS_dput {ix : Expr} (hu : X.A.units + 64 < cLine) (ho : PE X o (tVar i)) (hG : G[i]? = some (some (k + 1))) (hi : SimE cl W X G ix fi .R) (he : SimE cl W X G e f (.N 0))
    (hs : swapsWith e (some (.Subscript o ix p)) pos.line X.env = pure false := by rfl) :
    SimS cl W X G (.Assign [.Subscript o ix p] e pos) (dputF i fi f) G kr := fun B F0 => PS.weak (ps_dput (by omega) ho hi he hs) fun Dn σ H ⟨env, So, F, s, bd, q⟩ => ⟨env, So, F, s, by
  unfold dputF at q
  cases hf : f env with
  | er c => rw [hf] at q; exact fun H' e => q H' (bd.b.trans e)
  | no => rw [hf] at q; exact q
  | ok d =>
    rw [hf] at q
    simp only [Rz.bind_ok] at q
    refine fun w H1 F1 g1 ⟨T, oT, _, _⟩ => ?_
    have rw0 := oT.zero_nil.2
    have s1 := s.grow g1
    have b1 := bd.grow s g1
    split at q
    · rename_i kvs hd
      obtain ⟨v, h1, h2⟩ := s1.sl i (k + 1) _ hG hd
      refine ⟨v, h1, env, So, F1, s1, ?_⟩
      cases hx : fi env with
      | er c => rw [hx] at q; exact fun H' e => q H' (b1.b.trans e)
      | no => rw [hx] at q; exact q
      | ok x =>
        rw [hx] at q
        simp only [Rz.bind_ok] at q
        refine fun y H2 F2 g2 ry => ?_
        have ry : Rep X.K cl H2 y x := ry
        have s2 := s1.grow g2
        have b2 := b1.grow s1 g2
        obtain ⟨v', h1', h2⟩ := s2.sl i (k + 1) _ hG hd
        rw [h1] at h1'; cases h1'
        obtain ⟨ad, ks, rfl, hS, hh, dr⟩ := h2.dK_inv
        cases hk : keyD x with
        | none => rw [hk] at q; exact q.elim
        | some ky =>
          rw [hk] at q
          simp only at q
          have ev := key_rep ry hk
          subst ev
          by_cases hl : kvs.length < lim
          · rw [if_pos hl] at q
            have ha : ad ∈ So i := by rw [hS]; exact List.mem_cons_self
            have dr2 := dr.put (k := ky) (rw0.mono g2.f)
            refine ⟨ad, _, rfl, DPut.k hh (by rw [dr.len]; exact lim_lt hl), ?_⟩
            exact q σ _ _ F2 (s2.mut (T := []) hG h1 ha (.dK upd_same dr2.1 dr2.2) (by simp) (fun c hc => .inl (by
              have : c = ad := by simpa using hc
              rw [this]; exact ha)) fun c hc => nomatch hc) (b2.mut (T := []) ha (fun c hc => .inl (by
              have : c = ad := by simpa using hc
              rw [this]; exact ha)) fun c hc => nomatch hc)
          · rw [if_neg hl] at q; exact q.elim
    · exact q.elim⟩
end
/-! ### wrappers for what is printed -/
section
variable {X : Cx} {c : Nat → Addr} {q0 : Nat → V} {W : Nat → Hp → Prop} {G G1 G2 G3 : List Md} {pos ppos : Pos} {e tg : Expr} {ki k1 k kr i j : Nat} {pF : En → Rz (List Nat)} {sts body : List Stmt} {u : En → Rz Fl} {x : Str}
theorem simSs_alW (hN : X.N.Nodup) (hj : X.N[j]? = some x) (hx : Loc X.env.scope x) (hf : X.fn x = true ∨ X.env.scope.names.lookup x = some .local)
    (hp : SimP ⟨c, q0⟩ W X G e i pF) (hG : G[i]? = some (some ki)) (hb : ∀ q, SimSs ⟨c, q⟩ W X G1 sts u G2 kr) (hij : i ≠ j) (g1 : G2[i]? = some (some 140)) (g2 : G2[j]? = some (some 140))
    (e1 : (G.set i (some 140)).set j (some 140) = G1 := by rfl) (e3 : (G2.set j none).set i (some ki) = G3 := by rfl)
    (hs : swapsWith e (some (.Name x ppos)) pos.line X.env = pure false := by rfl) :
    SimSs ⟨c, q0⟩ W X G (.Assign [.Name x ppos] e pos :: sts) (alF i j ki k1 pF u) G3 kr := by
  subst e1 e3
  exact simSs_al hN hj hx hf hp hG hb hij g1 g2 hs
theorem simS_faW (hc : X.calm = true) (hp : PassesOwn (model X.prog X.w) X.A X.env X.xe) (he : PE X e (tVar i)) (hg : PG X tg (gName j)) (hG : G[i]? = some (some k)) (hjG : j < G.length) (hij : i ≠ j)
    (hb : ∀ q, SimSs ⟨c, q⟩ W X G1 body u G1 kr) (e1 : (G.set i (some 140)).set j (some 140) = G1 := by rfl) (e3 : G.set j none = G3 := by rfl) (hs : ∀ x, foldedSetIterable e X.env x = pure x := by intro _; rfl) :
    SimS ⟨c, q0⟩ W X G (.For tg e body [] pos) (faF i j k u) G3 kr := by
  subst e1 e3
  exact simS_fa hc hp he hg hG hjG hij hb hs
end
/-- what is handed over is changed, and gone -/
def bcF (k : Nat) (Fn : List D → Rz (List D)) (ds : List D) : Rz D := match ds with
  | [d] => if immK d (min k 40) = true then (Fn [d]).bind fun _ => .ok .non else .no
  | _ => .no
theorem spB_C {K : PySem.W.Frag} {c : Nat → Addr} {k : Nat} {Fn : List D → Rz (List D)} : ∀ vs H Q E, spC K c [k] (bcF k Fn) 0 vs H Q E → spB K c [true] Fn vs H Q E := fun vs H Q E ⟨hl, Fz, ds, Ss, ex, o, nd, fr, q⟩ => by
  cases o with
  | @cons _ _ v _ d _ S _ o1 o2 =>
    cases o2
    unfold bcF at q
    simp only at q
    by_cases hi : immK d (min k 40) = true
    · rw [if_pos hi] at q
      refine ⟨rfl, Fz, [d], [S], ex, .cons (o1.conv hi (by omega) (by show min k 40 ≤ 140; omega)) .nil, nd, fr, ?_⟩
      cases hn : Fn [d] with
      | er c => rw [hn] at q; exact q
      | no => rw [hn] at q; exact q
      | ok es => rw [hn] at q; exact fun H2 F2 Ts g _ _ _ => q .non H2 F2 g ⟨[], .z .non, List.nodup_nil, fun _ z => nomatch z⟩
    · rw [if_neg hi] at q; exact q.elim
theorem sim_callBC {X : Cx} {cl : Cl} {W : Nat → Hp → Prop} {G : List Md} {pos p : Pos} {e : Expr} {CX : CXT} {k k1 : Nat} {fa : Addr} {fd : FuncData} {ps : List Str} {E : XK} {x : Str} {fs : En → Rz (List D)} {Fn : List D → Rz (List D)}
    (Fo : FnOk X.prog X.w X.K X.mg X.base CX k fa fd ps (spB X.K cl.c [true] Fn)) (hr : Room k X.A) (hg : Gl X x) (hm : X.mg x = some (.ref fa)) (hk : PySem.W.keepIn X.K (.ref fa) = true) (hb : Binds X.K fd ps []) (hx : Passes CX X E)
    (hE : ∀ c H, W c H → E (.ref (cl c)) none H) (ha : SimAM cl W X G [e] fs [k1]) (hdb : (x == ("__debug__" : Str)) = false := by decide) (he : starEach [e] X.env = (false, eval e X.env) :: starEach [] X.env := by rfl) (hpl : (backTo pos (starEach [] X.env)).any (·.1) = false := by rfl) :
    SimE cl W X G (.Call (.Name x p) [e] [] pos) (aF (cO 1 (bcF k1 Fn)) fs) (.N 0) := sim_callC (Fo.imp spB_C) hr hg hm hk hb hx hE ha hdb he hpl
theorem fn_ok_no {P : Program} {w : World} {K : PySem.W.Frag} {mg : Str → Option Value} {base : Heap} {c : Nat → Addr} {x qual : Str} {st : Stmt} {f : Addr} {fd : FuncData} {k : Nat} (N ps : List Str) (bs : List Bool) (Fo : Fun K x qual st f fd) (S : FnScope N ps (defScope st)) (hp : ps.length = bs.length)
    (hb : ∀ (cdv : Value) (A : Around) (outer : List Env) (s : Shared) (H : Hp) (E : XK), PSs (cxOf CX0 P w K mg base N qual (defScope st) f cdv A outer s H E).nox (defBody st) fun _ _ _ => False) :
    FnOk P w K mg base CX0 (k + 1) f fd ps (spB K c bs fun _ => .no) :=
  Fo.ok S (fun vs H Q E h => h.1.trans hp.symm) fun cdv A outer s H vs Q E hr ⟨hl, Fz, ds, Ss, ex, o, nd, fr, q⟩ => ⟨_, hb cdv A outer s H E, q.elim⟩
theorem pss_false {X : Cx} {sts : List Stmt} : PSs X sts fun _ _ _ => False := ⟨fun pins s σ H D I q => q.elim⟩
end Pv

set_option Elab.async false
set_option linter.all false
set_option maxRecDepth 100000
set_option maxHeartbeats 1000000
/-! Pv: deeper owning. -/
namespace Pv
open PySem PySem.Spec PyProof.Rows L2
section
variable {X : Cx} {cl : Cl} {W : Nat → Hp → Prop} {G : List Md} {m : Mo} {pos p apos cpos p1 p2 : Pos} {e a b c o tg x : Expr} {f g fi : En → Rz D} {fs : En → Rz (List D)} {i k k1 k2 kr : Nat} {mv : List Nat}
/-- where the lists lie no deeper than k -/
def cvF (k : Nat) (f : En → Rz D) : En → Rz D := fun env => (f env).bind fun d => if immK d k = true then .ok d else .no
theorem sim_conv (k : Nat) (h : SimE cl W X G e f (.N k1)) (h1 : k ≤ k1 := by decide) (hk : k ≤ k2 := by decide) : SimE cl W X G e (cvF k f) (.N k2) := PE.weak h fun σ H Q ⟨env, So, F, s, q⟩ => ⟨env, So, F, s, by
  unfold cvF at q
  cases hf : f env with
  | er c => rw [hf] at q; exact q
  | no => rw [hf] at q; exact q
  | ok d =>
    rw [hf] at q
    obtain ⟨c, q⟩ := Res.ifp q
    exact fun v H' F' g ⟨S, o, h⟩ => q v H' F' g ⟨S, o.conv c h1 hk, h⟩⟩
theorem simM_varK (k : Nat) (h : PE X e (tVar i)) (hG : G[i]? = some (some k1)) (hk1 : k ≤ k1 := by decide) (hk : k ≤ k2 := by decide) : SimM cl W X G [i] e (cvF k (vF i)) k2 := PE.weak h fun σ H Q ⟨env, So, F, s, q⟩ => by
  unfold cvF vF at q
  cases hd : env[i]? with
  | none => rw [hd] at q; exact q.elim
  | some od =>
    cases od with
    | none => rw [hd] at q; exact q.elim
    | some d =>
      rw [hd] at q
      simp only [Rz.bind_ok] at q
      by_cases hi : immK d k = true
      · rw [if_pos hi] at q
        obtain ⟨v, h1, h2⟩ := s.sl i k1 d hG hd
        exact ⟨v, h1, q v H F (Grow.refl s.ex) ⟨So i, h2.conv hi hk1 hk, s.nd i, fun a ha => ⟨s.fr i a ha, .inr ⟨i, by simp, ha⟩⟩⟩⟩
      · rw [if_neg hi] at q; exact q.elim
theorem sim_catK (ha : SimE cl W X G a f (.N (k + 1))) (hb : SimE cl W X G b g (.N (k + 1))) : SimE cl W X G (.BinOp a .Add b pos) (b2 catD f g) (.N (k + 1)) :=
  PE.weak (pe_op op_cat ha hb) fun σ H Q ⟨env, So, F, s, q⟩ => ⟨env, So, F, s, by
    unfold b2 at q
    cases hf : f env with
    | er c => rw [hf] at q; exact q
    | no => rw [hf] at q; exact q
    | ok dx =>
      rw [hf] at q
      simp only [Rz.bind_ok] at q
      refine fun x H1 F1 g1 o1 => ⟨env, So, F1, s.grow g1, ?_⟩
      cases hg : g env with
      | er c => rw [hg] at q; exact fun H' e => q H' (g1.h.trans e)
      | no => rw [hg] at q; exact q
      | ok dy =>
        rw [hg] at q
        simp only [Rz.bind_ok] at q
        refine fun y H2 F2 g2 o2 => ?_
        obtain ⟨S1', o1', nd1', fr1'⟩ := o1
        obtain ⟨S1, oa, nd1, fr1⟩ := Out.fwd (K := X.K) (cl := cl) (m := .N (k + 1)) g2 ⟨S1', o1', nd1', fr1'⟩
        obtain ⟨S2, ob, nd2, fr2⟩ := o2
        have live1 : ∀ c ∈ S1', Mut (H1 c) := o1'.live
        cases dx <;> cases dy <;> first | exact q.elim | skip
        rename_i xs ys
        obtain ⟨c, q⟩ := Res.ifp q
        obtain ⟨la, vs, T1, rfl, hS1, ha1, os1⟩ := (o1'.mono g2.f fun c hc => mut_keep g2.h (live1 c hc)).lst_inv
        obtain ⟨lb, ws, T2, rfl, hS2, hb1, os2⟩ := ob.lst_inv
        have dis : ∀ c ∈ S1', c ∉ S2 := fun c hc z => by
          have := live1 c hc
          rw [(fr2 c z).1] at this; exact this
        have F2n : ∀ c ∈ S1', F2 c = none := fun c hc => still g2 (fr1' c hc).2 (live1 c hc)
        refine ⟨la, lb, vs, ws, rfl, rfl, ha1, hb1, by rw [os1.length, os2.length]; exact lim_le c, fun p hp => ?_⟩
        have g3 := Grow.newO (o := .lst (vs ++ ws)) g2.i hp
        refine q (.ref p) _ _ ((g1.trans g2).trans g3) ⟨p :: (T1 ++ T2), .lst upd_same ((os1.append os2).mono (Evl.Ex.refl _) fun c hc => upd_keep hp (by
          rcases List.mem_append.mp hc with hc | hc
          · exact os1.live c hc
          · exact os2.live c hc)), ?_, fun c hc => ?_⟩
        · rw [hS1] at nd1' dis
          rw [hS2] at nd2 dis
          refine List.nodup_cons.mpr ⟨fun z => ?_, List.nodup_append.mpr ⟨(List.nodup_cons.mp nd1').2, (List.nodup_cons.mp nd2).2, fun a ha b hb e => dis a (List.mem_cons_of_mem _ ha) (by rw [e]; exact List.mem_cons_of_mem _ hb)⟩⟩
          have : Mut (H2 p) := by
            rcases List.mem_append.mp z with z | z
            · exact os1.live p z
            · exact os2.live p z
          rw [hp] at this; exact this
        · rcases List.mem_cons.mp hc with rfl | hc
          · exact ⟨Evl.fresh_back (g1.trans g2).h hp, Evl.fresh_back g2.i hp⟩
          · rcases List.mem_append.mp hc with hc | hc
            · have hm : c ∈ S1' := by rw [hS1]; exact List.mem_cons_of_mem _ hc
              exact ⟨(fr1' c hm).1, F2n c hm⟩
            · have hm : c ∈ S2 := by rw [hS2]; exact List.mem_cons_of_mem _ hc
              exact ⟨Evl.fresh_back g1.h (fr2 c hm).1, (fr2 c hm).2⟩⟩
/-- an item of what is made just here -/
theorem sim_pick (ha : SimE cl W X G a f (.N (k + 1))) (hb : SimE cl W X G b g .R) (hs : PlainIx b := by intro _ _; rfl) : SimE cl W X G (.Subscript a b pos) (b2 ixLD f g) (.N k) :=
  PE.weak (pe_ix ix_seq ha hb hs) fun σ H Q ⟨env, So, F, s, q⟩ => ⟨env, So, F, s, by
    unfold b2 at q
    cases hf : f env with
    | er c => rw [hf] at q; exact q
    | no => rw [hf] at q; exact q
    | ok dx =>
      rw [hf] at q
      simp only [Rz.bind_ok] at q
      refine fun x H1 F1 g1 o1 => ⟨env, So, F1, s.grow g1, ?_⟩
      cases hg : g env with
      | er c => rw [hg] at q; exact fun H' e => q H' (g1.h.trans e)
      | no => rw [hg] at q; exact q
      | ok dy =>
        rw [hg] at q
        simp only [Rz.bind_ok] at q
        refine fun y H2 F2 g2 ry => ?_
        have ry : Rep X.K cl H2 y dy := ry
        obtain ⟨S1, oa, nd1, fr1⟩ := Out.fwd (K := X.K) (cl := cl) (m := .N (k + 1)) g2 o1
        unfold ixLD at q
        cases dx with
        | lst xs =>
          cases dy with
          | int z =>
            cases ry
            simp only at q
            obtain ⟨la, vs, T1, rfl, hS1, ha1, os1⟩ := oa.lst_inv
            cases hz : L2.atI xs z with
            | none => rw [hz] at q; exact q.elim
            | some d =>
              rw [hz] at q
              obtain ⟨v, hv, rv⟩ := (os1.reps g2.i).atI hz
              obtain ⟨j, hj1, hj2⟩ : ∃ j, ixN xs.length z = some j ∧ xs[j]? = some d := by
                unfold L2.atI at hz
                cases hi : ixN xs.length z with
                | none => rw [hi] at hz; cases hz
                | some j => rw [hi] at hz; exact ⟨j, rfl, hz⟩
              obtain ⟨w, T3, T4, T5, h1, h2, h3, _⟩ := os1.split hj2
              have ev : w = v := by
                unfold L2.atI at hv
                rw [os1.length, hj1] at hv
                have hv : vs[j]? = some v := hv
                rw [h1] at hv; cases hv; rfl
              subst ev
              refine .inl ⟨la, vs, z, w, rfl, rfl, SqL.of ha1, hv, q w H2 F2 (g1.trans g2) ⟨T4, h3, ?_, fun c hc => ?_⟩⟩
              · rw [hS1, h2] at nd1
                have := (List.nodup_cons.mp nd1).2
                exact (List.nodup_append.mp (List.nodup_append.mp this).2.1).1
              · exact fr1 c (by rw [hS1, h2]; simp [hc])
          | _ => exact q.elim
        | _ => exact q.elim⟩
end
end Pv

set_option Elab.async false
set_option linter.all false
set_option maxRecDepth 100000
set_option maxHeartbeats 1000000
/-! Pv: appended, and read further by its own name; a loop through what is owned and stays. -/
namespace Pv
open PySem PySem.Spec PyProof.Rows L2
/-- P.append(x), then what is done with x, P out of sight -/
def apF (i j ki kj : Nat) (u : En → Rz Fl) : En → Rz Fl := fun env => match env[i]?, env[j]? with
  | some (some (.lst ds)), some (some d1) => if ds.length < lim ∧ immK d1 (min (min ki kj) 40) = true ∧ j < env.length then (u (env.set i none)).bind fun o => match o with
      | .nx e => (match e[j]? with
        | some (some d2) => if immK d2 (min (min ki kj) 40) = true then .ok (.nx (e.set i (some (.lst (ds ++ [d2]))))) else .no
        | _ => .no)
      | .rt r => .ok (.rt r)
      else .no
  | _, _ => .no
section
variable {X : Cx} {c : Nat → Addr} {q0 : Nat → V} {W : Nat → Hp → Prop} {G G1 G2 G3 : List Md} {pos ppos apos cpos : Pos} {o e : Expr} {ki kj k1 kr i j : Nat} {sts : List Stmt} {u : En → Rz Fl} {x : Str}
theorem simSs_ap (ho : PE X o (tVar i)) (he : PE X e (tVar j)) (hG : G[i]? = some (some (ki + 1))) (hGj : G[j]? = some (some kj)) (hb : ∀ q, SimSs ⟨c, q⟩ W X G1 sts u G2 kr) (hij : i ≠ j) (g1 : G2[i]? = some (some 140)) (g2 : G2[j]? = some (some 140))
    (e1 : (G.set i (some 140)).set j (some 140) = G1 := by rfl) (e3 : (G2.set j none).set i (some (ki + 1)) = G3 := by rfl) (hkj : kj < 100 := by decide)
    (hbase : attributeBase o "append" X.env (eval o X.env) = eval o X.env := by rfl)
    (hfew : ((backTo cpos (starEach [e] X.env)).all (fun x => !x.1) && (backToKw cpos (keywordEach [] X.env)).all (fun x => x.1.isSome)
      && decide ([e].length + ([] : List Keyword).length + (if ([] : List Keyword).isEmpty then 0 else 1) < 30)) = true := by rfl)
    (hline : (apos.endLine == cpos.line) = true := by rfl) (hs : starEach [e] X.env = (false, eval e X.env) :: starEach [] X.env := by rfl) (hplain : (backTo cpos (starEach [] X.env)).any (·.1) = false := by rfl)
    (hsw : swapsWith (.Call (.Attribute o "append" apos) [e] [] cpos) none pos.line X.env = pure false := by rfl) :
    SimSs ⟨c, q0⟩ W X G (.Expr (.Call (.Attribute o "append" apos) [e] [] cpos) pos :: sts) (apF i j ki kj u) G3 kr := by
  subst e1 e3
  exact fun B F0 => PSs.weak (pss_cons (ps_expr (pe_bm PySem.F.plainAttrs_list PySem.F.slot_list_append PySem.F.type_list_append mt_append ho (pa_cons he pa_nil (hs := hs)) hbase hfew hline hs hplain) hsw) (⟨fun pins s σ H D I ⟨q, B', F0', h⟩ => (hb q B' F0').run pins s σ H D I h⟩ : PSs X sts fun Dn σ H => ∃ q B' F0', tS X.K ⟨c, q⟩ W B' F0' ((G.set i (some 140)).set j (some 140)) u G2 kr Dn σ H)) fun Dn σ H ⟨env, So, F, s, bd, q⟩ => by
    unfold apF at q
    cases hd : env[i]? with
    | none => rw [hd] at q; exact q.elim
    | some od =>
      cases od with
      | none => rw [hd] at q; cases z : env[j]? <;> (rw [z] at q; exact q.elim)
      | some d =>
        rw [hd] at q
        cases hdj : env[j]? with
        | none => rw [hdj] at q; cases d <;> exact q.elim
        | some oj =>
          cases oj with
          | none => rw [hdj] at q; cases d <;> exact q.elim
          | some d1 =>
            rw [hdj] at q
            cases d with
            | lst ds =>
              simp only at q
              by_cases hc : ds.length < lim ∧ immK d1 (min (min ki kj) 40) = true ∧ j < env.length
              · rw [if_pos hc] at q
                obtain ⟨hl, him, hjl⟩ := hc
                obtain ⟨v, hv, ov⟩ := s.sl i (ki + 1) _ hG hd
                obtain ⟨w, hw, ow⟩ := s.sl j kj d1 hGj hdj
                obtain ⟨ad, vs, S, rfl, hS, hh, os⟩ := ov.lst_inv
                refine ⟨.ref ad, hv, .inl ⟨rfl, vs, SqL.of hh⟩, w, hw, ?_⟩
                refine ⟨ad, vs, w, rfl, rfl, hh, by rw [os.length]; exact lim_lt hl, ?_⟩
                have ha : ad ∈ So i := by rw [hS]; exact List.mem_cons_self
                have Si : ∀ b ∈ S, b ∈ So i := fun b hb => by rw [hS]; exact List.mem_cons_of_mem _ hb
                have ndi := s.nd i
                rw [hS] at ndi
                obtain ⟨n1, n2⟩ := List.nodup_cons.mp ndi
                -- the heap with one more in the list
                let H1 : Hp := upd H ad (.lst (vs ++ [w]))
                have off : ∀ n, n ≠ i → ∀ b ∈ So n, H1 b = H b := fun n hn b hb => upd_ne fun z => s.dj n i b hn hb (z ▸ ha)
                have sh := s.hide (i := i) hv
                have ex1 : Ex F H1 := Evl.Ex.mut s.ex (s.fr i ad ha)
                -- the slots but i, in the new heap
                have sh1 : Sl X.K ⟨c, pin q0 i (.ref ad)⟩ (G.set i (some 140)) (env.set i none) σ (soS So i []) F H1 := by
                  refine ⟨sh.len, fun n k d h1 h2 => ?_, sh.nd, sh.dj, sh.fr, fun n b hb => ?_, ex1, sh.pn⟩
                  · obtain ⟨v, h3, h4⟩ := sh.sl n k d h1 h2
                    refine ⟨v, h3, h4.mono (Evl.Ex.refl _) fun b hb => ?_⟩
                    by_cases hn : n = i
                    · subst hn; rw [soS_at] at hb; exact nomatch hb
                    · rw [soS_ne hn] at hb; exact off n hn b hb
                  · by_cases hn : n = i
                    · subst hn; rw [soS_at] at hb; exact nomatch hb
                    · have hb2 := hb
                      rw [soS_ne hn] at hb2
                      rw [off n hn b hb2]; exact s.lv n b hb2
                have hwj : (G.set i (some 140))[j]? = some (some kj) := by rw [List.getElem?_set_ne hij]; exact hGj
                have hej : (env.set i none)[j]? = some (some d1) := by rw [List.getElem?_set_ne hij]; exact hdj
                -- j pinned
                have sd : Sl X.K ⟨c, pin q0 i (.ref ad)⟩ ((G.set i (some 140)).set j none) (env.set i none) σ (soS (soS So i []) j []) F H1 := by
                  have e : pin (pin q0 i (.ref ad)) j (pin q0 i (.ref ad) j) = pin q0 i (.ref ad) := by
                    funext n
                    unfold pin
                    by_cases hn : n = j
                    · subst hn; simp
                    · simp [hn]
                  exact Sl.drop (p := pin q0 i (.ref ad)) (v := pin q0 i (.ref ad) j) (j := j) (by rw [e]; exact sh1)
                have ow1 : Own X.K ⟨c, pin q0 i (.ref ad)⟩ F H1 kj w d1 (So j) := (ow.mono (Evl.Ex.refl _) fun b hb => off j (Ne.symm hij) b hb).pinC
                have jl : j < (env.set i none).length := by rw [List.length_set]; exact hjl
                have sl := sd.lend (ow1.conv him (by omega) (by omega : min (min ki kj) 40 ≤ 140)) jl (s.nd j) (fun b hb n hn => by
                  rw [soS_ne hn]
                  by_cases hni : n = i
                  · subst hni; rw [soS_at]; exact fun z => nomatch z
                  · rw [soS_ne hni]; exact fun z => s.dj n j b hn z hb) (fun b hb => s.fr j b hb)
                have eG : ((G.set i (some 140)).set j none).set j (some 140) = (G.set i (some 140)).set j (some 140) := List.set_set ..
                rw [eG] at sl
                have eσ : σ.set j (some w) = σ := set_self hw
                have eE : (env.set i none).set j (some d1) = env.set i none := set_self hej
                rw [eσ, eE] at sl
                -- what stays
                have hB : ∀ b ∈ ad :: S, B b = none := fun b hb => bd.o i b (by rw [hS]; exact hb)
                have lvK : ∀ b ∈ ad :: S, Mut (H1 b) := fun b hb => by
                  rcases List.mem_cons.mp hb with rfl | hb
                  · show Mut (upd H b _ b); rw [upd_same]; trivial
                  · show Mut (upd H ad _ b); rw [upd_ne (fun z => n1 (by rw [← z]; exact hb))]; exact s.lv i b (Si b hb)
                have frK : ∀ b ∈ ad :: S, F b = none := fun b hb => s.fr i b (by rw [hS]; exact hb)
                have b1 : Bd B F0 So F H1 := ⟨Evl.Ex.mut bd.b (bd.o i ad ha), bd.f, bd.n, bd.o⟩
                have bl := ((((b1.self).hide (i := i)).hide (i := j)).lend (j := j) (S := So j) (fun b hb => bd.o j b hb)).more (KS := ad :: S) frK (fun b hb n => by
                  by_cases hn : n = j
                  · rw [hn, soS_at]; exact fun z => s.dj j i b (Ne.symm hij) z (by rw [hS]; exact hb)
                  · rw [soS_ne hn, soS_ne hn]
                    by_cases hni : n = i
                    · rw [hni, soS_at]; exact fun z => nomatch z
                    · rw [soS_ne hni]; exact fun z => s.dj n i b hni z (by rw [hS]; exact hb))
                refine ⟨_, _, F, _, _, F, sl, bl, ?_⟩
                cases hu : u (env.set i none) with
                | er c => rw [hu] at q; exact fun H' e => q H' ((bK_ex hB).trans e)
                | no => rw [hu] at q; exact q
                | ok r =>
                  rw [hu] at q
                  cases r with
                  | rt r => exact fun v H' F' S h1 h2 h3 h4 h5 h6 h7 => q v H' F' S ((bK_ex hB).trans h1) (bd.f.trans h2) h3 (b1.nn fun a z1 z2 => bK_mut hB (h4 a z1 z2)) h5.pinC h6 fun a ha => ⟨bK_none hB (h7 a ha).1, (h7 a ha).2⟩
                  | nx e =>
                    simp only [Rz.bind_ok] at q
                    refine fun σ' H' So' F' s' b' => ?_
                    cases he : e[j]? with
                    | none => rw [he] at q; exact q.elim
                    | some oe =>
                      cases oe with
                      | none => rw [he] at q; exact q.elim
                      | some d2 =>
                        rw [he] at q
                        simp only at q
                        by_cases hi2 : immK d2 (min (min ki kj) 40) = true
                        · rw [if_pos hi2] at q
                          obtain ⟨bb, kk⟩ := Bd.less hB lvK frK b'
                          obtain ⟨w2, hw2, o2⟩ := s'.sl j 140 d2 g2 he
                          have hpj := s'.pn j 140 g2 (by omega)
                          rw [hw2, show (Cl.p ⟨c, pin (pin q0 i (V.ref ad)) j w⟩ j) = w from pin_at] at hpj
                          have ew : w2 = w := Option.some.inj (Option.some.inj hpj)
                          subst ew
                          have o3 : Own X.K ⟨c, q0⟩ F' H' ki w2 d2 (So' j) := (o2.conv hi2 (by omega : min (min ki kj) 40 ≤ 140) (by omega)).pinC
                          have os3 : Owns X.K ⟨c, q0⟩ F' H' ki vs ds S := os.mono b'.f fun b hb => (kk b (List.mem_cons_of_mem _ hb)).1.trans (upd_ne (fun z => n1 (by rw [← z]; exact hb)))
                          have hha : H' ad = some (.lst (vs ++ [w2])) := (kk ad List.mem_cons_self).1.trans upd_same
                          have oo : Own X.K ⟨c, q0⟩ F' H' (ki + 1) (.ref ad) (.lst (ds ++ [d2])) (ad :: (S ++ So' j)) := by
                            have z := os3.append (.cons o3 .nil)
                            rw [List.append_nil] at z
                            exact .lst hha z
                          have mem : ∀ b ∈ ad :: (S ++ So' j), b ∈ ad :: S ∨ b ∈ So' j := fun b hb => by
                            simp only [List.mem_cons, List.mem_append] at hb ⊢
                            rcases hb with h | h | h <;> simp [h]
                          refine q σ' H' _ F' (Sl.back (p := q0) (i := i) (v := .ref ad) s'.drop (by rw [List.getElem?_set_ne (Ne.symm hij)]; exact g1) oo ?_ (fun b hb n hn => ?_) (fun b hb => ?_) (fun hk => ?_)) (b1.onto ⟨bb.b, bb.f, bb.n, fun n b hb => ?_⟩)
                          · refine List.nodup_cons.mpr ⟨fun z => ?_, List.nodup_append.mpr ⟨n2, s'.nd j, fun b hb b2 hb2 e => ?_⟩⟩
                            · rcases List.mem_append.mp z with z | z
                              · exact n1 z
                              · exact (kk ad List.mem_cons_self).2.2 j z
                            · subst e; exact (kk b (List.mem_cons_of_mem _ hb)).2.2 j hb2
                          · by_cases hnj : n = j
                            · subst hnj; rw [soS_at]; exact fun z => nomatch z
                            · rw [soS_ne hnj]
                              rcases mem b hb with z | z
                              · exact (kk b z).2.2 n
                              · exact s'.dj j n b (Ne.symm hnj) z
                          · rcases mem b hb with z | z
                            · exact (kk b z).2.1
                            · exact s'.fr j b z
                          · have := s.pn i (ki + 1) hG hk
                            rw [hv] at this
                            exact (Option.some.inj (Option.some.inj this)).symm
                          · by_cases hn : n = i
                            · subst hn
                              rw [soS_at] at hb
                              rcases mem b hb with z | z
                              · exact hB b z
                              · exact bb.o j b z
                            · rw [soS_ne hn] at hb
                              by_cases hnj : n = j
                              · subst hnj; rw [soS_at] at hb; exact nomatch hb
                              · rw [soS_ne hnj] at hb; exact bb.o n b hb
                        · rw [if_neg hi2] at q; exact q.elim
              · rw [if_neg hc] at q; exact q.elim
            | _ => exact q.elim
/-- ints and the like need no heap -/
def flt : D → Bool
  | .int _ => true
  | .bl _ => true
  | .non => true
  | .str _ => true
  | _ => false
theorem flt_rep {K : PySem.W.Frag} {cl cl' : Cl} {H H' : Hp} {v : V} {d : D} (h : flt d = true) (r : Rep K cl H v d) : Rep K cl' H' v d := by
  cases r <;> first | exact .non | exact .bl _ | exact .int _ | exact .str _ | cases h
/-- for x in P: .., P owned, out of sight; its items plain -/
def frF (i j ki : Nat) (pF : En → Rz (List Nat)) (u : En → Rz Fl) : En → Rz Fl := fun env => (pF env).bind fun p => match env[i]? with
  | some (some d) => match getP d p with
    | some (.lst ds) => if ds.all flt = true ∧ (depP d ki p).isSome = true then (forL (gN j) u ds (env.set i none)).bind fun o => match o with
      | .nx e => .ok (.nx (e.set i (some d)))
      | .rt r => .ok (.rt r)
      else .no
    | _ => .no
  | _ => .no
theorem simS_fr {iter tg : Expr} {pF : En → Rz (List Nat)} {body : List Stmt} (hc : X.calm = true) (hp : PassesOwn (model X.prog X.w) X.A X.env X.xe) (hi : SimP ⟨c, q0⟩ W X G iter i pF) (hg : PG X tg (gName j)) (hG : G[i]? = some (some ki)) (hij : i ≠ j)
    (hb : ∀ q, SimSs ⟨c, q⟩ W X G2 body u G1 kr) (e1 : G.set i (some 140) = G1 := by rfl) (e2 : G1.set j (some 0) = G2 := by rfl) (hs : ∀ x, foldedSetIterable iter X.env x = pure x := by intro _; rfl) :
    SimS ⟨c, q0⟩ W X G (.For tg iter body [] pos) (frF i j ki pF u) G kr := by
  subst e1 e2
  exact fun B F0 => PS.weak (ps_for hp hc (pi_list hi) hg (⟨fun pins s σ H D I ⟨q, B', F0', h⟩ => (hb q B' F0').run pins s σ H D I h⟩ : PSs X body fun Dn σ H => ∃ q B' F0', tS X.K ⟨c, q⟩ W B' F0' ((G.set i (some 140)).set j (some 0)) u (G.set i (some 140)) kr Dn σ H) hs) fun Dn σ H ⟨env, So, F, s, bd, q⟩ => by
    unfold frF at q
    refine ⟨env, So, F, s, ?_⟩
    cases hp : pF env with
    | er c => rw [hp] at q; exact fun H' e => q H' (bd.b.trans e)
    | no => rw [hp] at q; exact q
    | ok p =>
      rw [hp] at q
      simp only [Rz.bind_ok] at q
      cases hd : env[i]? with
      | none => rw [hd] at q; exact q.elim
      | some od =>
        cases od with
        | none => rw [hd] at q; exact q.elim
        | some d =>
          rw [hd] at q
          simp only at q
          cases hgp : getP d p with
          | none => rw [hgp] at q; exact q.elim
          | some d1 =>
            rw [hgp] at q
            cases d1 with
            | lst ds =>
              simp only at q
              by_cases hc : ds.all flt = true ∧ (depP d ki p).isSome = true
              · rw [if_pos hc] at q
                obtain ⟨hfl, hdp⟩ := hc
                obtain ⟨v, hv, _⟩ := s.sl i ki d hG hd
                refine ⟨d, _, v, rfl, hv, hgp, fun H1 F1 v1 g n1 => ?_⟩
                have s1 := s.grow g
                have b1 := bd.grow s g
                obtain ⟨v', hv', o⟩ := s1.sl i ki d hG hd
                rw [hv] at hv'; cases hv'
                cases hk1 : depP d ki p with
                | none => rw [hk1] at hdp; cases hdp
                | some k1 =>
                obtain ⟨w1, S1, S', S2, n2, hS, o1, _⟩ := Own.holeF s1.ex o hgp hk1
                cases n1.uni n2
                obtain ⟨a, xs, rfl, hread, rs⟩ : ∃ a xs, v1 = .ref a ∧ ((a ∈ So i ∧ H1 a = some (.lst xs)) ∨ F1 a = some (.lst xs)) ∧ Reps X.K ⟨c, q0⟩ H1 xs ds := by
                  cases o1 with
                  | z r => cases r with | lst s r => exact ⟨_, _, rfl, .inr s, r.mono s1.ex⟩
                  | im r i => simp [imm] at i
                  | lst s os => exact ⟨_, _, rfl, .inl ⟨by rw [hS]; simp, s⟩, os.reps s1.ex⟩
                have hB : ∀ b ∈ So i, B b = none := fun b hb => b1.o i b hb
                have sh := s1.hide hv
                have bh := (b1.self.hide (i := i)).more (KS := So i) (fun b hb => s1.fr i b hb) (fun b hb n => by
                  by_cases hn : n = i
                  · rw [hn, soS_at]; exact fun z => nomatch z
                  · rw [soS_ne hn]; exact fun z => s1.dj n i b hn z hb)
                have stay : ∀ {So2 : Nat → List Addr} {F2 H2 : Hp}, Bd (bK B H1 (So i)) F1 So2 F2 H2 → Ex F2 H2 → H2 a = some (.lst xs) := fun {So2 F2 H2} b2 e2 => by
                  rcases hread with ⟨ha, h⟩ | h
                  · exact b2.b a _ (by unfold bK; rw [if_pos ha]; exact h)
                  · exact e2 _ _ (b2.f _ _ h)
                have h1a : H1 a = some (.lst xs) := by
                  rcases hread with ⟨ha, h⟩ | h
                  · exact h
                  · exact s1.ex _ _ h
                let Inv : Nat → L2.St → Hp → Prop := fun t σ2 H2 => ∃ (e : En) (So2 : Nat → List Addr) (F2 : Hp), Sl X.K ⟨c, pin q0 i v⟩ (G.set i (some 140)) e σ2 So2 F2 H2 ∧ Bd (bK B H1 (So i)) F1 So2 F2 H2 ∧ t ≤ ds.length ∧
                  FinS X.K ⟨c, q0⟩ W B F0 G kr ((forL (gN j) u (ds.drop t) e).bind fun o => match o with | .nx e => .ok (.nx (e.set i (some d))) | .rt r => .ok (.rt r)) H2 Dn
                have init : Inv 0 σ H1 := ⟨_, _, F1, sh, bh, Nat.zero_le _, q.ends⟩
                have stop : ∀ (t : Nat) (σ2 : L2.St) (H2 : Hp), Inv t σ2 H2 → ds.length ≤ t → Dn.nx σ2 H2 := by
                  rintro t σ2 H2 ⟨e, So2, F2, s2, b2, ht, q2⟩ hle
                  rw [List.drop_eq_nil_of_le hle] at q2
                  have q2 : ∀ σ' H' So' F', Sl X.K ⟨c, q0⟩ G (e.set i (some d)) σ' So' F' H' → Bd B F0 So' F' H' → Dn.nx σ' H' := q2
                  obtain ⟨bb, kk⟩ := Bd.less hB (fun b hb => s1.lv i b hb) (fun b hb => s1.fr i b hb) b2
                  have oo : Own X.K ⟨c, q0⟩ F2 H2 ki v d (So i) := o.mono b2.f fun b hb => (kk b hb).1
                  have gi : (G.set i (some 140))[i]? = some (some 140) := List.getElem?_set_self (List.getElem?_eq_some_iff.mp hG).1
                  have sb := Sl.back (k := ki) s2 gi oo (s1.nd i) (fun b hb n _ => (kk b hb).2.2 n) (fun b hb => (kk b hb).2.1) (fun hk => by
                    have := s1.pn i ki hG hk
                    rw [hv] at this
                    exact (Option.some.inj (Option.some.inj this)).symm)
                  have Ge : (G.set i (some 140)).set i (some ki) = G := by rw [List.set_set, set_self hG]
                  rw [Ge] at sb
                  refine q2 σ2 H2 _ F2 sb (b1.onto ⟨bb.b, bb.f, bb.n, fun n b hb => ?_⟩)
                  by_cases hn : n = i
                  · subst hn; rw [soS_at] at hb; exact hB b hb
                  · rw [soS_ne hn] at hb; exact bb.o n b hb
                have turn : ∀ (t : Nat) (σ2 : L2.St) (H2 : Hp) (x : V), Inv t σ2 H2 → xs[t]? = some x → t < ds.length → (fun Dn σ H => ∃ q B' F0', tS X.K ⟨c, q⟩ W B' F0' ((G.set i (some 140)).set j (some 0)) u (G.set i (some 140)) kr Dn σ H) { Dn with nx := fun σ' H' => Inv (t + 1) σ' H', ct := fun σ' H' => Inv (t + 1) σ' H', bk := Dn.nx } (σ2.set j (some x)) H2 := by
                  rintro t σ2 H2 x ⟨e, So2, F2, s2, b2, ht, q2⟩ hx hlt
                  rw [List.drop_eq_getElem_cons hlt] at q2
                  have q2 : FinS X.K ⟨c, q0⟩ W B F0 G kr (((u (e.set j (some ds[t]))).bind fun o => match o with
                    | .nx e2 => forL (gN j) u (ds.drop (t + 1)) e2
                    | .rt r => .ok (.rt r)).bind fun o => match o with | .nx e => .ok (.nx (e.set i (some d))) | .rt r => .ok (.rt r)) H2 Dn := q2
                  have rx : Rep X.K ⟨c, pin q0 i v⟩ F2 x ds[t] := by
                    obtain ⟨d', hd', r⟩ := rs.getV hx
                    rw [List.getElem?_eq_getElem hlt] at hd'
                    cases hd'
                    exact flt_rep (List.all_eq_true.mp hfl _ (List.getElem_mem hlt)) r
                  have ss := s2.set j (k := 0) (S := []) (.z rx) List.nodup_nil (fun _ z => nomatch z) (fun _ z => nomatch z) (by decide)
                  have bs : Bd (bK B H1 (So i)) F1 (fun l => if l = j then [] else So2 l) F2 H2 := ⟨b2.b, b2.f, b2.n, fun n b hb => by
                    by_cases hn : n = j
                    · rw [if_pos hn] at hb; exact nomatch hb
                    · rw [if_neg hn] at hb; exact b2.o n b hb⟩
                  refine ⟨_, _, F1, e.set j (some ds[t]), _, F2, ss, bs, ?_⟩
                  cases hu : u (e.set j (some ds[t])) with
                  | er c => rw [hu] at q2; exact fun H' e => q2 H' ((bK_ex hB).trans e)
                  | no => rw [hu] at q2; exact q2
                  | ok r =>
                    rw [hu] at q2
                    cases r with
                    | rt r => exact fun v H' F' S h1 h2 h3 h4 h5 h6 h7 => q2 v H' F' S ((bK_ex hB).trans h1) (b1.f.trans h2) h3 (b1.nn fun a z1 z2 => bK_mut hB (h4 a z1 z2)) h5.pinC h6 fun a ha => ⟨bK_none hB (h7 a ha).1, (h7 a ha).2⟩
                    | nx e3 => exact fun σ' H' So' F' s' b' => ⟨e3, So', F', s', b', hlt, q2.ends⟩
                have hlen : xs.length = ds.length := rs.length
                refine ⟨a, rfl, ⟨xs, SqL.of h1a⟩, ?_⟩
                refine ⟨fun t m σ2 H2 => m = ds.length - t ∧ Inv t σ2 H2, ⟨_, rfl, init⟩, fun t m σ2 H2 ⟨hm, I⟩ => ?_⟩
                obtain ⟨e, So2, F2, s2, b2, ht, q2⟩ := I
                have hh2 := stay b2 s2.ex
                by_cases hlt : t < ds.length
                · refine .inr ⟨⟨xs, xs[t]'(by omega), SqL.of hh2, List.getElem?_eq_getElem (by omega)⟩, Inv (t + 1), fun σ' H' I' => ⟨ds.length - (t + 1), by omega, rfl, I'⟩, fun x H3 y => ?_⟩
                  obtain ⟨rfl, y⟩ := y
                  exact turn t σ2 _ x ⟨e, So2, F2, s2, b2, ht, q2⟩ (y xs (SqL.of hh2)) hlt
                · exact .inl ⟨⟨xs, SqL.of hh2, by omega⟩, stop t σ2 H2 ⟨e, So2, F2, s2, b2, ht, q2⟩ (by omega)⟩
              · rw [if_neg hc] at q; exact q.elim
            | _ => exact q.elim
end
end Pv

set_option Elab.async false
set_option linter.all false
set_option maxRecDepth 100000
set_option maxHeartbeats 1000000
/-! Pv: a slot read as if it stood, for one expression. -/
namespace Pv
open PySem PySem.Spec PyProof.Rows L2
section
variable {X : Cx} {cl : Cl} {W : Nat → Hp → Prop} {G G2 : List Md} {e : Expr} {f : En → Rz D}
theorem sim_tmp {i k ki : Nat} (h : SimE cl W X G2 e f (.N k)) (hG : G[i]? = some (some ki) := by rfl) (e2 : G.set i (some 0) = G2 := by rfl) : SimE cl W X G e (cvF k f) (.N k) := PE.weak h fun σ H Q ⟨env, So, F, s, q⟩ => by
  subst e2
  refine ⟨env, _, _, s.frz i ⟨ki, hG⟩, ?_⟩
  unfold cvF at q
  have hfz : Ex F (fzA F H (So i)) := fzA_ex fun a ha => s.fr i a ha
  cases hf : f env with
  | er c => rw [hf] at q; exact q
  | no => rw [hf] at q; exact q
  | ok d =>
    rw [hf] at q
    obtain ⟨c, q⟩ := Res.ifp q
    refine fun v H' F' g ⟨S, o, nd, fr⟩ => q v H' (addT F F') ⟨g.h, addT_ex, addT_in (s.ex.trans g.h) g.i, fun a h1 h2 hm => ?_⟩ ⟨S, o.immF (fun a xs e => addT_tup (hfz.trans g.f) e) c, nd, fun a ha => ⟨(fr a ha).1, ?_⟩⟩
    · obtain ⟨xs, e⟩ := addT_n h1 h2
      have e2 := g.i _ _ e
      rw [mut_keep g.h hm] at e2
      rw [e2] at hm; exact hm
    · cases z : addT F F' a with
      | none => rfl
      | some o =>
        by_cases hF : F a = none
        · obtain ⟨xs, e⟩ := addT_n hF (show addT F F' a ≠ none by rw [z]; simp)
          rw [(fr a ha).2] at e; cases e
        · have := (fr a ha).2
          cases hF2 : F a with
          | none => exact absurd hF2 hF
          | some o2 => rw [(hfz.trans g.f) _ _ hF2] at this; cases this
end
end Pv

set_option Elab.async false
set_option linter.all false
set_option maxRecDepth 100000
/-! Pv, thirteenth part: running, with no heap in sight. -/
namespace Pv
open PySem L2

def wq (o : Rz Fl) (N : En → Prop) (R : D → Prop) : Prop := match o with
  | .ok (.nx e) => N e
  | .ok (.rt d) => R d
  | _ => False
section
variable {u v : En → Rz Fl} {f g : En → Rz D} {t : En → Rz Bool} {e e' : En} {N N' : En → Prop} {R R' : D → Prop} {d x : D} {i : Nat} {b : Bool} {o : Rz Fl}
@[simp] theorem wq_nx : wq (.ok (.nx e)) N R = N e := rfl
@[simp] theorem wq_rt : wq (.ok (.rt d)) N R = R d := rfl
theorem wq_mono (h : wq o N R) (hN : ∀ e, N e → N' e) (hR : ∀ d, R d → R' d) : wq o N' R' := by
  cases o with
  | ok a => cases a with
    | nx e => exact hN e h
    | rt d => exact hR d h
  | er c => exact h
  | no => exact h
theorem wq_seq (h : wq (u e) (fun e1 => wq (v e1) N R) R) : wq (seqF u v e) N R := by
  unfold seqF
  cases hu : u e with
  | er c => rw [hu] at h; exact h
  | no => rw [hu] at h; exact h
  | ok a => rw [hu] at h; cases a <;> exact h
theorem wq_sk (h : N e) : wq (skF e) N R := h
theorem wq_set (hf : f e = .ok d) (h : N (e.set i (some d))) : wq (setF i f e) N R := by
  unfold setF; rw [hf]; exact h
theorem wq_ret (hf : f e = .ok d) (h : R d) : wq (retF f e) N R := by
  unfold retF; rw [hf]; exact h
theorem wq_if (ht : t e = .ok b) (h1 : b = true → wq (u e) N R) (h2 : b = false → wq (v e) N R) : wq (iteF t u v e) N R := by
  unfold iteF; rw [ht]
  cases b with
  | true => exact h1 rfl
  | false => exact h2 rfl
theorem wq_expr (hf : f e = .ok d) (h : N e) : wq (exprF f e) N R := by
  unfold exprF; rw [hf]; exact h
theorem wq_unp {hh : D → En → Rz En} (hf : f e = .ok d) (h1 : hh d e = .ok e') (h : N e') : wq (unpF f hh e) N R := by
  unfold unpF; rw [hf]; simp only [Rz.bind_ok, h1, Rz.bn_ok]; exact h
theorem wq_app {ds : List D} (hi : e[i]? = some (some (.lst ds))) (hf : f e = .ok d) (hl : ds.length < lim) (h : N (e.set i (some (.lst (ds ++ [d]))))) : wq (appF i f e) N R := by
  unfold appF; rw [hi]; simp only [hf, Rz.bind_ok, hl, if_true]; exact h
theorem wq_forL {hh : D → En → Rz En} {ds : List D} (I : Nat → En → Prop) (h0 : I 0 e) (hs : ∀ j d e, ds[j]? = some d → I j e → ∃ e1, hh d e = .ok e1 ∧ wq (u e1) (I (j + 1)) R) (hd : ∀ e, I ds.length e → N e) : wq (forL hh u ds e) N R := by
  have go : ∀ (r : List D) (j : Nat) (e : En), ds.drop j = r → j ≤ ds.length → I j e → wq (forL hh u r e) N R := by
    intro r
    induction r with
    | nil =>
      intro j e hr hj hI
      have hl := congrArg List.length hr
      rw [List.length_drop] at hl
      have : j = ds.length := by simp at hl; omega
      subst this
      exact hd e hI
    | cons d r ih =>
      intro j e hr hj hI
      have hg : ds[j]? = some d := by
        have := congrArg List.head? hr
        rw [List.head?_drop] at this; exact this
      have hlt := (List.getElem?_eq_some_iff.mp hg).1
      obtain ⟨e1, h1, h2⟩ := hs j d e hg hI
      show wq ((hh d e).bn fun e1 => (u e1).bind fun o => match o with | .nx e2 => forL hh u r e2 | .rt q => .ok (.rt q)) N R
      rw [h1]
      simp only [Rz.bn_ok]
      have hr2 : ds.drop (j + 1) = r := by
        rw [List.drop_eq_getElem_cons hlt] at hr
        exact (List.cons.inj hr).2
      cases hu : u e1 with
      | er c => rw [hu] at h2; exact h2
      | no => rw [hu] at h2; exact h2
      | ok a =>
        rw [hu] at h2
        cases a with
        | nx e2 => exact ih (j + 1) e2 hr2 hlt h2
        | rt q => exact h2
  exact go ds 0 e rfl (Nat.zero_le _) h0
theorem wq_for {it : En → Rz (List D)} {hh : D → En → Rz En} {ds : List D} (hit : it e = .ok ds) (I : Nat → En → Prop) (h0 : I 0 e) (hs : ∀ j d e, ds[j]? = some d → I j e → ∃ e1, hh d e = .ok e1 ∧ wq (u e1) (I (j + 1)) R) (hd : ∀ e, I ds.length e → N e) : wq (forF it hh u e) N R := by
  unfold forF; rw [hit]; exact wq_forL I h0 hs hd
/-- a while, by a word and a measure below n -/
theorem wq_wh {n : Nat} (I : En → Prop) (μ : En → Nat) (h0 : I e) (hμ : μ e < n) (hs : ∀ e, I e → ∃ b, t e = .ok b ∧ (b = true → wq (u e) (fun e' => I e' ∧ μ e' < μ e) R) ∧ (b = false → N e)) : wq (whF n t u e) N R := by
  induction n generalizing e with
  | zero => omega
  | succ n ih =>
    obtain ⟨b, hb, h1, h2⟩ := hs e h0
    show wq ((t e).bind fun b => if b = true then (u e).bind fun o => match o with | .nx e2 => whF n t u e2 | .rt r => .ok (.rt r) else .ok (.nx e)) N R
    rw [hb]
    simp only [Rz.bind_ok]
    cases b with
    | false => exact h2 rfl
    | true =>
      have h3 := h1 rfl
      rw [if_pos rfl]
      cases hu : u e with
      | er c => rw [hu] at h3; exact h3
      | no => rw [hu] at h3; exact h3
      | ok a =>
        rw [hu] at h3
        cases a with
        | nx e2 => exact ih h3.1 (by have := h3.2; omega)
        | rt q => exact h3
theorem fn_of_wq {n : Nat} {ds : List D} (h : wq (u (ini n ds)) (fun _ => x = .non) (fun d => d = x)) : fnN n u ds = .ok x := by
  unfold fnN
  cases hu : u (ini n ds) with
  | er c => rw [hu] at h; exact h.elim
  | no => rw [hu] at h; exact h.elim
  | ok a =>
    rw [hu] at h
    cases a with
    | nx e => have h : x = .non := h; rw [h]
    | rt d => have h : d = x := h; rw [h]
theorem fn_exq {n : Nat} {ds : List D} {Q : D → Prop} (h : wq (u (ini n ds)) (fun _ => Q .non) Q) : ∃ x, fnN n u ds = .ok x ∧ Q x := by
  unfold fnN
  cases hu : u (ini n ds) with
  | er c => rw [hu] at h; exact h.elim
  | no => rw [hu] at h; exact h.elim
  | ok a =>
    rw [hu] at h
    cases a with
    | nx e => exact ⟨_, rfl, h⟩
    | rt d => exact ⟨_, rfl, h⟩
theorem comp_ok {tg : D → En → Rz En} {ds : List D} (p : D → Bool) (val : D → D) (h : ∀ d ∈ ds, ∃ e1, tg d e = .ok e1 ∧ t e1 = .ok (p d) ∧ (p d = true → f e1 = .ok (val d))) : compL tg t f e ds = .ok ((ds.filter p).map val) := by
  induction ds with
  | nil => rfl
  | cons d ds ih =>
    obtain ⟨e1, h1, h2, h3⟩ := h d List.mem_cons_self
    have ih := ih fun d hd => h d (List.mem_cons_of_mem _ hd)
    unfold compL
    rw [h1]
    simp only [Rz.bn_ok, h2]
    cases hp : p d with
    | false => rw [if_neg Bool.false_ne_true, ih, List.filter_cons, hp]; rfl
    | true =>
      rw [if_pos rfl, h3 hp, ih, List.filter_cons, hp]; rfl
theorem comp_all {tg : D → En → Rz En} {ds : List D} (val : D → D) (h : ∀ d ∈ ds, ∃ e1, tg d e = .ok e1 ∧ f e1 = .ok (val d)) : compL tg yesF f e ds = .ok (ds.map val) := by
  have := comp_ok (t := yesF) (tg := tg) (e := e) (f := f) (ds := ds) (fun _ => true) val fun d hd => by
    obtain ⟨e1, h1, h2⟩ := h d hd
    exact ⟨e1, h1, rfl, fun _ => h2⟩
  rw [this]
  rw [List.filter_eq_self.mpr (fun _ _ => rfl)]
end
@[simp] theorem eqq_int (i j : Int) : eqq (.int i) (.int j) = (i == j) := by simp [eqq, toP, PyData.eqv]
@[simp] theorem eqq_bl (i j : Bool) : eqq (.bl i) (.bl j) = (i == j) := by simp [eqq, toP, PyData.eqv]
theorem okQs_ints (ns : List Int) (n : Nat) : okQs (ns.map .int) n = true := by
  induction ns with
  | nil => rfl
  | cons a ns ih => rw [List.map_cons, okQs, ih]; rfl
theorem immA_ints (ns : List Int) : immA (ns.map .int) = true := by
  induction ns with
  | nil => rfl
  | cons a ns ih => rw [List.map_cons, immA, ih]; rfl
theorem eqvAll_toPs : ∀ (a b : List D), PyData.eqvAll (toPs a) (toPs b) = (decide (a.length = b.length) && (a.zip b).all fun p => eqq p.1 p.2)
  | [], [] => rfl
  | [], _ :: _ => rfl
  | _ :: _, [] => rfl
  | x :: xs, y :: ys => by
    rw [toPs, toPs, PyData.eqvAll, eqvAll_toPs xs ys]
    simp only [List.length_cons, List.zip_cons_cons, List.all_cons, Nat.add_right_cancel_iff, eqq]
    cases PyData.eqv (toP x) (toP y) <;> cases decide (xs.length = ys.length) <;> rfl
theorem eqq_lst (a b : List D) : eqq (.lst a) (.lst b) = (decide (a.length = b.length) && (a.zip b).all fun p => eqq p.1 p.2) := by
  unfold eqq; rw [toP, toP, PyData.eqv]; exact eqvAll_toPs a b
theorem eqq_tup (a b : List D) : eqq (.tup a) (.tup b) = (decide (a.length = b.length) && (a.zip b).all fun p => eqq p.1 p.2) := by
  unfold eqq; rw [toP, toP, PyData.eqv]; exact eqvAll_toPs a b
theorem eqq_self : ∀ (d : D) (n : Nat), okQ d n = true → eqq d d = true := fun d n h => SeqAt.eqv_refl_plain _ (okQ_plain d n h).1
/-- a list or tuple at a place -/
theorem atI_ok {α : Type} {xs : List α} {k : Int} {j : Nat} {d : α} (hk : k = (j : Int)) (h : xs[j]? = some d) : L2.atI xs k = some d := by
  subst hk; exact L2.atI_nat h
end Pv
namespace Pv
open PySem L2
section
variable {f g : En → Rz D} {fs : En → Rz (List D)} {t u : En → Rz Bool} {e : En} {op : List D → Rz D} {oi : List D → Rz (List D)} {p2 : D → D → Rz D} {p1 : D → Rz D}
@[simp] theorem aF_ap : aF op fs e = (fs e).bind op := rfl
@[simp] theorem aI_ap : aI oi fs e = (fs e).bind oi := rfl
@[simp] theorem consF_ap : consF f fs e = (f e).bind fun x => (fs e).bind fun xs => Rz.ok (x :: xs) := rfl
@[simp] theorem nilF_ap : nilF e = Rz.ok [] := rfl
@[simp] theorem cF_ap {d : D} : cF d e = Rz.ok d := rfl
@[simp] theorem b2_ap : b2 p2 f g e = (f e).bind fun x => (g e).bind fun y => p2 x y := rfl
@[simp] theorem u1_ap : u1 p1 f e = (f e).bind p1 := rfl
@[simp] theorem tF_ap : tF f e = (f e).bind toB := rfl
@[simp] theorem toB_bl {b : Bool} : toB (.bl b) = Rz.ok b := rfl
@[simp] theorem imF_ap : imF f e = (f e).bind fun d => if imm d = true then Rz.ok d else Rz.no := rfl
@[simp] theorem bV_ap : bV t e = (t e).bind fun b => Rz.ok (.bl b) := rfl
@[simp] theorem andF_ap : andF t u e = (t e).bind fun b => if b = true then u e else Rz.ok false := rfl
@[simp] theorem orF_ap : orF t u e = (t e).bind fun b => if b = true then Rz.ok true else u e := rfl
@[simp] theorem notF_ap : notF t e = (t e).bind fun b => Rz.ok (!b) := rfl
@[simp] theorem lOf_ap : lOf f e = (f e).bind fun d => match d with | .lst ds => (Rz.ok ds : Rz (List D)) | _ => Rz.no := rfl
@[simp] theorem yesF_ap : yesF e = Rz.ok true := rfl
@[simp] theorem addI_ap (i j : Int) : addI i j = Rz.ok (.int (i + j)) := rfl
@[simp] theorem subI_ap (i j : Int) : subI i j = Rz.ok (.int (i - j)) := rfl
@[simp] theorem ltI_ap (i j : Int) : ltI i j = Rz.ok (.bl (decide (i < j))) := rfl
@[simp] theorem leI_ap (i j : Int) : leI i j = Rz.ok (.bl (decide (i ≤ j))) := rfl
@[simp] theorem gtI_ap (i j : Int) : gtI i j = Rz.ok (.bl (decide (j < i))) := rfl
@[simp] theorem geI_ap (i j : Int) : geI i j = Rz.ok (.bl (decide (j ≤ i))) := rfl
@[simp] theorem imm_int (i : Int) : imm (.int i) = true := rfl
@[simp] theorem imm_bl (i : Bool) : imm (.bl i) = true := rfl
@[simp] theorem imm_non : imm .non = true := rfl
@[simp] theorem imm_str (x : Str) : imm (.str x) = true := rfl
@[simp] theorem okQ_int (i : Int) (n : Nat) : okQ (.int i) n = true := rfl
@[simp] theorem okQ_bl (i : Bool) (n : Nat) : okQ (.bl i) n = true := rfl
@[simp] theorem okQ_non (n : Nat) : okQ .non n = true := rfl
@[simp] theorem isN_int (i : Int) : isN (.int i) = false := rfl
@[simp] theorem isN_non : isN .non = true := rfl
@[simp] theorem eqD_int (i j : Int) : eqD (.int i) (.int j) = Rz.ok (.bl (i == j)) := by simp [eqD]
@[simp] theorem neD_int (i j : Int) : neD (.int i) (.int j) = Rz.ok (.bl (!(i == j))) := by simp [neD]
@[simp] theorem eqD_bl (i j : Bool) : eqD (.bl i) (.bl j) = Rz.ok (.bl (i == j)) := by simp [eqD]
@[simp] theorem neD_bl (i j : Bool) : neD (.bl i) (.bl j) = Rz.ok (.bl (!(i == j))) := by simp [neD]
@[simp] theorem lenO_lst (xs : List D) : lenO [.lst xs] = Rz.ok (.int xs.length) := rfl
@[simp] theorem lenO_tup (xs : List D) : lenO [.tup xs] = Rz.ok (.int xs.length) := rfl
@[simp] theorem lenO_fzl (xs : List D) : lenO [.fzl xs] = Rz.ok (.int xs.length) := rfl
theorem modI_pos {i j : Int} (h : 0 < j) : modI i j = Rz.ok (.int (i % j)) := by
  unfold modI
  rw [if_pos (by omega), Int.fmod_eq_emod_of_nonneg _ (by omega)]
theorem fdivI_pos {i j : Int} (h : 0 < j) (h2 : j < 1073741824) : fdivI i j = Rz.ok (.int (i / j)) := by
  unfold fdivI
  rw [if_pos (by omega), Int.fdiv_eq_ediv_of_nonneg _ (by omega)]
theorem mulI_l {i j : Int} (h : -18446744073709551616 < i ∧ i < 18446744073709551616) : mulI i j = Rz.ok (.int (i * j)) := by
  unfold mulI; rw [if_pos (.inl (by omega))]
theorem mulI_r {i j : Int} (h : -18446744073709551616 < j ∧ j < 18446744073709551616) : mulI i j = Rz.ok (.int (i * j)) := by
  unfold mulI; rw [if_pos (.inr (by omega))]
theorem ixD_lst {ds : List D} {k : Int} {j : Nat} {d : D} (hk : k = (j : Int)) (h : ds[j]? = some d) : ixD (.lst ds) (.int k) = Rz.ok d := by
  show (match L2.atI ds k with | some d => Rz.ok d | none => Rz.no) = _
  rw [atI_ok hk h]
theorem ixD_tup {ds : List D} {k : Int} {j : Nat} {d : D} (hk : k = (j : Int)) (h : ds[j]? = some d) : ixD (.tup ds) (.int k) = Rz.ok d := by
  show (match L2.atI ds k with | some d => Rz.ok d | none => Rz.no) = _
  rw [atI_ok hk h]
theorem ixD_fzl {ds : List D} {k : Int} {j : Nat} {d : D} (hk : k = (j : Int)) (h : ds[j]? = some d) : ixD (.fzl ds) (.int k) = Rz.ok d := by
  show (match L2.atI ds k with | some d => Rz.ok d | none => Rz.no) = _
  rw [atI_ok hk h]
theorem ixLD_lst {ds : List D} {k : Int} {j : Nat} {d : D} (hk : k = (j : Int)) (h : ds[j]? = some d) : ixLD (.lst ds) (.int k) = Rz.ok d := by
  show (match L2.atI ds k with | some d => Rz.ok d | none => Rz.no) = _
  rw [atI_ok hk h]
end
end Pv
namespace Pv
open PySem L2
section
variable {e : En} {d : D} {b : Option D}
@[simp] theorem vF_0 : vF 0 (some d :: e) = .ok d := rfl
@[simp] theorem gt_0 : ((b :: e : En))[0]? = some b := rfl
@[simp] theorem set_0 {a : Option D} : (a :: e : En).set 0 b = b :: e := rfl
@[simp] theorem vF_1 {a0 : Option D} : vF 1 (a0 :: some d :: e) = .ok d := rfl
@[simp] theorem gt_1 {a0 : Option D} : ((a0 :: b :: e : En))[1]? = some b := rfl
@[simp] theorem set_1 {a0 : Option D} {a : Option D} : (a0 :: a :: e : En).set 1 b = a0 :: b :: e := rfl
@[simp] theorem vF_2 {a0 a1 : Option D} : vF 2 (a0 :: a1 :: some d :: e) = .ok d := rfl
@[simp] theorem gt_2 {a0 a1 : Option D} : ((a0 :: a1 :: b :: e : En))[2]? = some b := rfl
@[simp] theorem set_2 {a0 a1 : Option D} {a : Option D} : (a0 :: a1 :: a :: e : En).set 2 b = a0 :: a1 :: b :: e := rfl
@[simp] theorem vF_3 {a0 a1 a2 : Option D} : vF 3 (a0 :: a1 :: a2 :: some d :: e) = .ok d := rfl
@[simp] theorem gt_3 {a0 a1 a2 : Option D} : ((a0 :: a1 :: a2 :: b :: e : En))[3]? = some b := rfl
@[simp] theorem set_3 {a0 a1 a2 : Option D} {a : Option D} : (a0 :: a1 :: a2 :: a :: e : En).set 3 b = a0 :: a1 :: a2 :: b :: e := rfl
@[simp] theorem vF_4 {a0 a1 a2 a3 : Option D} : vF 4 (a0 :: a1 :: a2 :: a3 :: some d :: e) = .ok d := rfl
@[simp] theorem gt_4 {a0 a1 a2 a3 : Option D} : ((a0 :: a1 :: a2 :: a3 :: b :: e : En))[4]? = some b := rfl
@[simp] theorem set_4 {a0 a1 a2 a3 : Option D} {a : Option D} : (a0 :: a1 :: a2 :: a3 :: a :: e : En).set 4 b = a0 :: a1 :: a2 :: a3 :: b :: e := rfl
@[simp] theorem vF_5 {a0 a1 a2 a3 a4 : Option D} : vF 5 (a0 :: a1 :: a2 :: a3 :: a4 :: some d :: e) = .ok d := rfl
@[simp] theorem gt_5 {a0 a1 a2 a3 a4 : Option D} : ((a0 :: a1 :: a2 :: a3 :: a4 :: b :: e : En))[5]? = some b := rfl
@[simp] theorem set_5 {a0 a1 a2 a3 a4 : Option D} {a : Option D} : (a0 :: a1 :: a2 :: a3 :: a4 :: a :: e : En).set 5 b = a0 :: a1 :: a2 :: a3 :: a4 :: b :: e := rfl
@[simp] theorem vF_6 {a0 a1 a2 a3 a4 a5 : Option D} : vF 6 (a0 :: a1 :: a2 :: a3 :: a4 :: a5 :: some d :: e) = .ok d := rfl
@[simp] theorem gt_6 {a0 a1 a2 a3 a4 a5 : Option D} : ((a0 :: a1 :: a2 :: a3 :: a4 :: a5 :: b :: e : En))[6]? = some b := rfl
@[simp] theorem set_6 {a0 a1 a2 a3 a4 a5 : Option D} {a : Option D} : (a0 :: a1 :: a2 :: a3 :: a4 :: a5 :: a :: e : En).set 6 b = a0 :: a1 :: a2 :: a3 :: a4 :: a5 :: b :: e := rfl
@[simp] theorem vF_7 {a0 a1 a2 a3 a4 a5 a6 : Option D} : vF 7 (a0 :: a1 :: a2 :: a3 :: a4 :: a5 :: a6 :: some d :: e) = .ok d := rfl
@[simp] theorem gt_7 {a0 a1 a2 a3 a4 a5 a6 : Option D} : ((a0 :: a1 :: a2 :: a3 :: a4 :: a5 :: a6 :: b :: e : En))[7]? = some b := rfl
@[simp] theorem set_7 {a0 a1 a2 a3 a4 a5 a6 : Option D} {a : Option D} : (a0 :: a1 :: a2 :: a3 :: a4 :: a5 :: a6 :: a :: e : En).set 7 b = a0 :: a1 :: a2 :: a3 :: a4 :: a5 :: a6 :: b :: e := rfl
@[simp] theorem vF_8 {a0 a1 a2 a3 a4 a5 a6 a7 : Option D} : vF 8 (a0 :: a1 :: a2 :: a3 :: a4 :: a5 :: a6 :: a7 :: some d :: e) = .ok d := rfl
@[simp] theorem gt_8 {a0 a1 a2 a3 a4 a5 a6 a7 : Option D} : ((a0 :: a1 :: a2 :: a3 :: a4 :: a5 :: a6 :: a7 :: b :: e : En))[8]? = some b := rfl
@[simp] theorem set_8 {a0 a1 a2 a3 a4 a5 a6 a7 : Option D} {a : Option D} : (a0 :: a1 :: a2 :: a3 :: a4 :: a5 :: a6 :: a7 :: a :: e : En).set 8 b = a0 :: a1 :: a2 :: a3 :: a4 :: a5 :: a6 :: a7 :: b :: e := rfl
@[simp] theorem vF_9 {a0 a1 a2 a3 a4 a5 a6 a7 a8 : Option D} : vF 9 (a0 :: a1 :: a2 :: a3 :: a4 :: a5 :: a6 :: a7 :: a8 :: some d :: e) = .ok d := rfl
@[simp] theorem gt_9 {a0 a1 a2 a3 a4 a5 a6 a7 a8 : Option D} : ((a0 :: a1 :: a2 :: a3 :: a4 :: a5 :: a6 :: a7 :: a8 :: b :: e : En))[9]? = some b := rfl
@[simp] theorem set_9 {a0 a1 a2 a3 a4 a5 a6 a7 a8 : Option D} {a : Option D} : (a0 :: a1 :: a2 :: a3 :: a4 :: a5 :: a6 :: a7 :: a8 :: a :: e : En).set 9 b = a0 :: a1 :: a2 :: a3 :: a4 :: a5 :: a6 :: a7 :: a8 :: b :: e := rfl
@[simp] theorem vF_10 {a0 a1 a2 a3 a4 a5 a6 a7 a8 a9 : Option D} : vF 10 (a0 :: a1 :: a2 :: a3 :: a4 :: a5 :: a6 :: a7 :: a8 :: a9 :: some d :: e) = .ok d := rfl
@[simp] theorem gt_10 {a0 a1 a2 a3 a4 a5 a6 a7 a8 a9 : Option D} : ((a0 :: a1 :: a2 :: a3 :: a4 :: a5 :: a6 :: a7 :: a8 :: a9 :: b :: e : En))[10]? = some b := rfl
@[simp] theorem set_10 {a0 a1 a2 a3 a4 a5 a6 a7 a8 a9 : Option D} {a : Option D} : (a0 :: a1 :: a2 :: a3 :: a4 :: a5 :: a6 :: a7 :: a8 :: a9 :: a :: e : En).set 10 b = a0 :: a1 :: a2 :: a3 :: a4 :: a5 :: a6 :: a7 :: a8 :: a9 :: b :: e := rfl
@[simp] theorem vF_11 {a0 a1 a2 a3 a4 a5 a6 a7 a8 a9 a10 : Option D} : vF 11 (a0 :: a1 :: a2 :: a3 :: a4 :: a5 :: a6 :: a7 :: a8 :: a9 :: a10 :: some d :: e) = .ok d := rfl
@[simp] theorem gt_11 {a0 a1 a2 a3 a4 a5 a6 a7 a8 a9 a10 : Option D} : ((a0 :: a1 :: a2 :: a3 :: a4 :: a5 :: a6 :: a7 :: a8 :: a9 :: a10 :: b :: e : En))[11]? = some b := rfl
@[simp] theorem set_11 {a0 a1 a2 a3 a4 a5 a6 a7 a8 a9 a10 : Option D} {a : Option D} : (a0 :: a1 :: a2 :: a3 :: a4 :: a5 :: a6 :: a7 :: a8 :: a9 :: a10 :: a :: e : En).set 11 b = a0 :: a1 :: a2 :: a3 :: a4 :: a5 :: a6 :: a7 :: a8 :: a9 :: a10 :: b :: e := rfl
@[simp] theorem vF_12 {a0 a1 a2 a3 a4 a5 a6 a7 a8 a9 a10 a11 : Option D} : vF 12 (a0 :: a1 :: a2 :: a3 :: a4 :: a5 :: a6 :: a7 :: a8 :: a9 :: a10 :: a11 :: some d :: e) = .ok d := rfl
@[simp] theorem gt_12 {a0 a1 a2 a3 a4 a5 a6 a7 a8 a9 a10 a11 : Option D} : ((a0 :: a1 :: a2 :: a3 :: a4 :: a5 :: a6 :: a7 :: a8 :: a9 :: a10 :: a11 :: b :: e : En))[12]? = some b := rfl
@[simp] theorem set_12 {a0 a1 a2 a3 a4 a5 a6 a7 a8 a9 a10 a11 : Option D} {a : Option D} : (a0 :: a1 :: a2 :: a3 :: a4 :: a5 :: a6 :: a7 :: a8 :: a9 :: a10 :: a11 :: a :: e : En).set 12 b = a0 :: a1 :: a2 :: a3 :: a4 :: a5 :: a6 :: a7 :: a8 :: a9 :: a10 :: a11 :: b :: e := rfl
@[simp] theorem vF_13 {a0 a1 a2 a3 a4 a5 a6 a7 a8 a9 a10 a11 a12 : Option D} : vF 13 (a0 :: a1 :: a2 :: a3 :: a4 :: a5 :: a6 :: a7 :: a8 :: a9 :: a10 :: a11 :: a12 :: some d :: e) = .ok d := rfl
@[simp] theorem gt_13 {a0 a1 a2 a3 a4 a5 a6 a7 a8 a9 a10 a11 a12 : Option D} : ((a0 :: a1 :: a2 :: a3 :: a4 :: a5 :: a6 :: a7 :: a8 :: a9 :: a10 :: a11 :: a12 :: b :: e : En))[13]? = some b := rfl
@[simp] theorem set_13 {a0 a1 a2 a3 a4 a5 a6 a7 a8 a9 a10 a11 a12 : Option D} {a : Option D} : (a0 :: a1 :: a2 :: a3 :: a4 :: a5 :: a6 :: a7 :: a8 :: a9 :: a10 :: a11 :: a12 :: a :: e : En).set 13 b = a0 :: a1 :: a2 :: a3 :: a4 :: a5 :: a6 :: a7 :: a8 :: a9 :: a10 :: a11 :: a12 :: b :: e := rfl
@[simp] theorem vF_14 {a0 a1 a2 a3 a4 a5 a6 a7 a8 a9 a10 a11 a12 a13 : Option D} : vF 14 (a0 :: a1 :: a2 :: a3 :: a4 :: a5 :: a6 :: a7 :: a8 :: a9 :: a10 :: a11 :: a12 :: a13 :: some d :: e) = .ok d := rfl
@[simp] theorem gt_14 {a0 a1 a2 a3 a4 a5 a6 a7 a8 a9 a10 a11 a12 a13 : Option D} : ((a0 :: a1 :: a2 :: a3 :: a4 :: a5 :: a6 :: a7 :: a8 :: a9 :: a10 :: a11 :: a12 :: a13 :: b :: e : En))[14]? = some b := rfl
@[simp] theorem set_14 {a0 a1 a2 a3 a4 a5 a6 a7 a8 a9 a10 a11 a12 a13 : Option D} {a : Option D} : (a0 :: a1 :: a2 :: a3 :: a4 :: a5 :: a6 :: a7 :: a8 :: a9 :: a10 :: a11 :: a12 :: a13 :: a :: e : En).set 14 b = a0 :: a1 :: a2 :: a3 :: a4 :: a5 :: a6 :: a7 :: a8 :: a9 :: a10 :: a11 :: a12 :: a13 :: b :: e := rfl
@[simp] theorem vF_15 {a0 a1 a2 a3 a4 a5 a6 a7 a8 a9 a10 a11 a12 a13 a14 : Option D} : vF 15 (a0 :: a1 :: a2 :: a3 :: a4 :: a5 :: a6 :: a7 :: a8 :: a9 :: a10 :: a11 :: a12 :: a13 :: a14 :: some d :: e) = .ok d := rfl
@[simp] theorem gt_15 {a0 a1 a2 a3 a4 a5 a6 a7 a8 a9 a10 a11 a12 a13 a14 : Option D} : ((a0 :: a1 :: a2 :: a3 :: a4 :: a5 :: a6 :: a7 :: a8 :: a9 :: a10 :: a11 :: a12 :: a13 :: a14 :: b :: e : En))[15]? = some b := rfl
@[simp] theorem set_15 {a0 a1 a2 a3 a4 a5 a6 a7 a8 a9 a10 a11 a12 a13 a14 : Option D} {a : Option D} : (a0 :: a1 :: a2 :: a3 :: a4 :: a5 :: a6 :: a7 :: a8 :: a9 :: a10 :: a11 :: a12 :: a13 :: a14 :: a :: e : En).set 15 b = a0 :: a1 :: a2 :: a3 :: a4 :: a5 :: a6 :: a7 :: a8 :: a9 :: a10 :: a11 :: a12 :: a13 :: a14 :: b :: e := rfl
@[simp] theorem vF_16 {a0 a1 a2 a3 a4 a5 a6 a7 a8 a9 a10 a11 a12 a13 a14 a15 : Option D} : vF 16 (a0 :: a1 :: a2 :: a3 :: a4 :: a5 :: a6 :: a7 :: a8 :: a9 :: a10 :: a11 :: a12 :: a13 :: a14 :: a15 :: some d :: e) = .ok d := rfl
@[simp] theorem gt_16 {a0 a1 a2 a3 a4 a5 a6 a7 a8 a9 a10 a11 a12 a13 a14 a15 : Option D} : ((a0 :: a1 :: a2 :: a3 :: a4 :: a5 :: a6 :: a7 :: a8 :: a9 :: a10 :: a11 :: a12 :: a13 :: a14 :: a15 :: b :: e : En))[16]? = some b := rfl
@[simp] theorem set_16 {a0 a1 a2 a3 a4 a5 a6 a7 a8 a9 a10 a11 a12 a13 a14 a15 : Option D} {a : Option D} : (a0 :: a1 :: a2 :: a3 :: a4 :: a5 :: a6 :: a7 :: a8 :: a9 :: a10 :: a11 :: a12 :: a13 :: a14 :: a15 :: a :: e : En).set 16 b = a0 :: a1 :: a2 :: a3 :: a4 :: a5 :: a6 :: a7 :: a8 :: a9 :: a10 :: a11 :: a12 :: a13 :: a14 :: a15 :: b :: e := rfl
@[simp] theorem vF_17 {a0 a1 a2 a3 a4 a5 a6 a7 a8 a9 a10 a11 a12 a13 a14 a15 a16 : Option D} : vF 17 (a0 :: a1 :: a2 :: a3 :: a4 :: a5 :: a6 :: a7 :: a8 :: a9 :: a10 :: a11 :: a12 :: a13 :: a14 :: a15 :: a16 :: some d :: e) = .ok d := rfl
@[simp] theorem gt_17 {a0 a1 a2 a3 a4 a5 a6 a7 a8 a9 a10 a11 a12 a13 a14 a15 a16 : Option D} : ((a0 :: a1 :: a2 :: a3 :: a4 :: a5 :: a6 :: a7 :: a8 :: a9 :: a10 :: a11 :: a12 :: a13 :: a14 :: a15 :: a16 :: b :: e : En))[17]? = some b := rfl
@[simp] theorem set_17 {a0 a1 a2 a3 a4 a5 a6 a7 a8 a9 a10 a11 a12 a13 a14 a15 a16 : Option D} {a : Option D} : (a0 :: a1 :: a2 :: a3 :: a4 :: a5 :: a6 :: a7 :: a8 :: a9 :: a10 :: a11 :: a12 :: a13 :: a14 :: a15 :: a16 :: a :: e : En).set 17 b = a0 :: a1 :: a2 :: a3 :: a4 :: a5 :: a6 :: a7 :: a8 :: a9 :: a10 :: a11 :: a12 :: a13 :: a14 :: a15 :: a16 :: b :: e := rfl
@[simp] theorem vF_18 {a0 a1 a2 a3 a4 a5 a6 a7 a8 a9 a10 a11 a12 a13 a14 a15 a16 a17 : Option D} : vF 18 (a0 :: a1 :: a2 :: a3 :: a4 :: a5 :: a6 :: a7 :: a8 :: a9 :: a10 :: a11 :: a12 :: a13 :: a14 :: a15 :: a16 :: a17 :: some d :: e) = .ok d := rfl
@[simp] theorem gt_18 {a0 a1 a2 a3 a4 a5 a6 a7 a8 a9 a10 a11 a12 a13 a14 a15 a16 a17 : Option D} : ((a0 :: a1 :: a2 :: a3 :: a4 :: a5 :: a6 :: a7 :: a8 :: a9 :: a10 :: a11 :: a12 :: a13 :: a14 :: a15 :: a16 :: a17 :: b :: e : En))[18]? = some b := rfl
@[simp] theorem set_18 {a0 a1 a2 a3 a4 a5 a6 a7 a8 a9 a10 a11 a12 a13 a14 a15 a16 a17 : Option D} {a : Option D} : (a0 :: a1 :: a2 :: a3 :: a4 :: a5 :: a6 :: a7 :: a8 :: a9 :: a10 :: a11 :: a12 :: a13 :: a14 :: a15 :: a16 :: a17 :: a :: e : En).set 18 b = a0 :: a1 :: a2 :: a3 :: a4 :: a5 :: a6 :: a7 :: a8 :: a9 :: a10 :: a11 :: a12 :: a13 :: a14 :: a15 :: a16 :: a17 :: b :: e := rfl
@[simp] theorem vF_19 {a0 a1 a2 a3 a4 a5 a6 a7 a8 a9 a10 a11 a12 a13 a14 a15 a16 a17 a18 : Option D} : vF 19 (a0 :: a1 :: a2 :: a3 :: a4 :: a5 :: a6 :: a7 :: a8 :: a9 :: a10 :: a11 :: a12 :: a13 :: a14 :: a15 :: a16 :: a17 :: a18 :: some d :: e) = .ok d := rfl
@[simp] theorem gt_19 {a0 a1 a2 a3 a4 a5 a6 a7 a8 a9 a10 a11 a12 a13 a14 a15 a16 a17 a18 : Option D} : ((a0 :: a1 :: a2 :: a3 :: a4 :: a5 :: a6 :: a7 :: a8 :: a9 :: a10 :: a11 :: a12 :: a13 :: a14 :: a15 :: a16 :: a17 :: a18 :: b :: e : En))[19]? = some b := rfl
@[simp] theorem set_19 {a0 a1 a2 a3 a4 a5 a6 a7 a8 a9 a10 a11 a12 a13 a14 a15 a16 a17 a18 : Option D} {a : Option D} : (a0 :: a1 :: a2 :: a3 :: a4 :: a5 :: a6 :: a7 :: a8 :: a9 :: a10 :: a11 :: a12 :: a13 :: a14 :: a15 :: a16 :: a17 :: a18 :: a :: e : En).set 19 b = a0 :: a1 :: a2 :: a3 :: a4 :: a5 :: a6 :: a7 :: a8 :: a9 :: a10 :: a11 :: a12 :: a13 :: a14 :: a15 :: a16 :: a17 :: a18 :: b :: e := rfl
@[simp] theorem vF_20 {a0 a1 a2 a3 a4 a5 a6 a7 a8 a9 a10 a11 a12 a13 a14 a15 a16 a17 a18 a19 : Option D} : vF 20 (a0 :: a1 :: a2 :: a3 :: a4 :: a5 :: a6 :: a7 :: a8 :: a9 :: a10 :: a11 :: a12 :: a13 :: a14 :: a15 :: a16 :: a17 :: a18 :: a19 :: some d :: e) = .ok d := rfl
@[simp] theorem gt_20 {a0 a1 a2 a3 a4 a5 a6 a7 a8 a9 a10 a11 a12 a13 a14 a15 a16 a17 a18 a19 : Option D} : ((a0 :: a1 :: a2 :: a3 :: a4 :: a5 :: a6 :: a7 :: a8 :: a9 :: a10 :: a11 :: a12 :: a13 :: a14 :: a15 :: a16 :: a17 :: a18 :: a19 :: b :: e : En))[20]? = some b := rfl
@[simp] theorem set_20 {a0 a1 a2 a3 a4 a5 a6 a7 a8 a9 a10 a11 a12 a13 a14 a15 a16 a17 a18 a19 : Option D} {a : Option D} : (a0 :: a1 :: a2 :: a3 :: a4 :: a5 :: a6 :: a7 :: a8 :: a9 :: a10 :: a11 :: a12 :: a13 :: a14 :: a15 :: a16 :: a17 :: a18 :: a19 :: a :: e : En).set 20 b = a0 :: a1 :: a2 :: a3 :: a4 :: a5 :: a6 :: a7 :: a8 :: a9 :: a10 :: a11 :: a12 :: a13 :: a14 :: a15 :: a16 :: a17 :: a18 :: a19 :: b :: e := rfl
@[simp] theorem vF_21 {a0 a1 a2 a3 a4 a5 a6 a7 a8 a9 a10 a11 a12 a13 a14 a15 a16 a17 a18 a19 a20 : Option D} : vF 21 (a0 :: a1 :: a2 :: a3 :: a4 :: a5 :: a6 :: a7 :: a8 :: a9 :: a10 :: a11 :: a12 :: a13 :: a14 :: a15 :: a16 :: a17 :: a18 :: a19 :: a20 :: some d :: e) = .ok d := rfl
@[simp] theorem gt_21 {a0 a1 a2 a3 a4 a5 a6 a7 a8 a9 a10 a11 a12 a13 a14 a15 a16 a17 a18 a19 a20 : Option D} : ((a0 :: a1 :: a2 :: a3 :: a4 :: a5 :: a6 :: a7 :: a8 :: a9 :: a10 :: a11 :: a12 :: a13 :: a14 :: a15 :: a16 :: a17 :: a18 :: a19 :: a20 :: b :: e : En))[21]? = some b := rfl
@[simp] theorem set_21 {a0 a1 a2 a3 a4 a5 a6 a7 a8 a9 a10 a11 a12 a13 a14 a15 a16 a17 a18 a19 a20 : Option D} {a : Option D} : (a0 :: a1 :: a2 :: a3 :: a4 :: a5 :: a6 :: a7 :: a8 :: a9 :: a10 :: a11 :: a12 :: a13 :: a14 :: a15 :: a16 :: a17 :: a18 :: a19 :: a20 :: a :: e : En).set 21 b = a0 :: a1 :: a2 :: a3 :: a4 :: a5 :: a6 :: a7 :: a8 :: a9 :: a10 :: a11 :: a12 :: a13 :: a14 :: a15 :: a16 :: a17 :: a18 :: a19 :: a20 :: b :: e := rfl
@[simp] theorem vF_22 {a0 a1 a2 a3 a4 a5 a6 a7 a8 a9 a10 a11 a12 a13 a14 a15 a16 a17 a18 a19 a20 a21 : Option D} : vF 22 (a0 :: a1 :: a2 :: a3 :: a4 :: a5 :: a6 :: a7 :: a8 :: a9 :: a10 :: a11 :: a12 :: a13 :: a14 :: a15 :: a16 :: a17 :: a18 :: a19 :: a20 :: a21 :: some d :: e) = .ok d := rfl
@[simp] theorem gt_22 {a0 a1 a2 a3 a4 a5 a6 a7 a8 a9 a10 a11 a12 a13 a14 a15 a16 a17 a18 a19 a20 a21 : Option D} : ((a0 :: a1 :: a2 :: a3 :: a4 :: a5 :: a6 :: a7 :: a8 :: a9 :: a10 :: a11 :: a12 :: a13 :: a14 :: a15 :: a16 :: a17 :: a18 :: a19 :: a20 :: a21 :: b :: e : En))[22]? = some b := rfl
@[simp] theorem set_22 {a0 a1 a2 a3 a4 a5 a6 a7 a8 a9 a10 a11 a12 a13 a14 a15 a16 a17 a18 a19 a20 a21 : Option D} {a : Option D} : (a0 :: a1 :: a2 :: a3 :: a4 :: a5 :: a6 :: a7 :: a8 :: a9 :: a10 :: a11 :: a12 :: a13 :: a14 :: a15 :: a16 :: a17 :: a18 :: a19 :: a20 :: a21 :: a :: e : En).set 22 b = a0 :: a1 :: a2 :: a3 :: a4 :: a5 :: a6 :: a7 :: a8 :: a9 :: a10 :: a11 :: a12 :: a13 :: a14 :: a15 :: a16 :: a17 :: a18 :: a19 :: a20 :: a21 :: b :: e := rfl
@[simp] theorem vF_23 {a0 a1 a2 a3 a4 a5 a6 a7 a8 a9 a10 a11 a12 a13 a14 a15 a16 a17 a18 a19 a20 a21 a22 : Option D} : vF 23 (a0 :: a1 :: a2 :: a3 :: a4 :: a5 :: a6 :: a7 :: a8 :: a9 :: a10 :: a11 :: a12 :: a13 :: a14 :: a15 :: a16 :: a17 :: a18 :: a19 :: a20 :: a21 :: a22 :: some d :: e) = .ok d := rfl
@[simp] theorem gt_23 {a0 a1 a2 a3 a4 a5 a6 a7 a8 a9 a10 a11 a12 a13 a14 a15 a16 a17 a18 a19 a20 a21 a22 : Option D} : ((a0 :: a1 :: a2 :: a3 :: a4 :: a5 :: a6 :: a7 :: a8 :: a9 :: a10 :: a11 :: a12 :: a13 :: a14 :: a15 :: a16 :: a17 :: a18 :: a19 :: a20 :: a21 :: a22 :: b :: e : En))[23]? = some b := rfl
@[simp] theorem set_23 {a0 a1 a2 a3 a4 a5 a6 a7 a8 a9 a10 a11 a12 a13 a14 a15 a16 a17 a18 a19 a20 a21 a22 : Option D} {a : Option D} : (a0 :: a1 :: a2 :: a3 :: a4 :: a5 :: a6 :: a7 :: a8 :: a9 :: a10 :: a11 :: a12 :: a13 :: a14 :: a15 :: a16 :: a17 :: a18 :: a19 :: a20 :: a21 :: a22 :: a :: e : En).set 23 b = a0 :: a1 :: a2 :: a3 :: a4 :: a5 :: a6 :: a7 :: a8 :: a9 :: a10 :: a11 :: a12 :: a13 :: a14 :: a15 :: a16 :: a17 :: a18 :: a19 :: a20 :: a21 :: a22 :: b :: e := rfl
@[simp] theorem vF_24 {a0 a1 a2 a3 a4 a5 a6 a7 a8 a9 a10 a11 a12 a13 a14 a15 a16 a17 a18 a19 a20 a21 a22 a23 : Option D} : vF 24 (a0 :: a1 :: a2 :: a3 :: a4 :: a5 :: a6 :: a7 :: a8 :: a9 :: a10 :: a11 :: a12 :: a13 :: a14 :: a15 :: a16 :: a17 :: a18 :: a19 :: a20 :: a21 :: a22 :: a23 :: some d :: e) = .ok d := rfl
@[simp] theorem gt_24 {a0 a1 a2 a3 a4 a5 a6 a7 a8 a9 a10 a11 a12 a13 a14 a15 a16 a17 a18 a19 a20 a21 a22 a23 : Option D} : ((a0 :: a1 :: a2 :: a3 :: a4 :: a5 :: a6 :: a7 :: a8 :: a9 :: a10 :: a11 :: a12 :: a13 :: a14 :: a15 :: a16 :: a17 :: a18 :: a19 :: a20 :: a21 :: a22 :: a23 :: b :: e : En))[24]? = some b := rfl
@[simp] theorem set_24 {a0 a1 a2 a3 a4 a5 a6 a7 a8 a9 a10 a11 a12 a13 a14 a15 a16 a17 a18 a19 a20 a21 a22 a23 : Option D} {a : Option D} : (a0 :: a1 :: a2 :: a3 :: a4 :: a5 :: a6 :: a7 :: a8 :: a9 :: a10 :: a11 :: a12 :: a13 :: a14 :: a15 :: a16 :: a17 :: a18 :: a19 :: a20 :: a21 :: a22 :: a23 :: a :: e : En).set 24 b = a0 :: a1 :: a2 :: a3 :: a4 :: a5 :: a6 :: a7 :: a8 :: a9 :: a10 :: a11 :: a12 :: a13 :: a14 :: a15 :: a16 :: a17 :: a18 :: a19 :: a20 :: a21 :: a22 :: a23 :: b :: e := rfl
@[simp] theorem vF_25 {a0 a1 a2 a3 a4 a5 a6 a7 a8 a9 a10 a11 a12 a13 a14 a15 a16 a17 a18 a19 a20 a21 a22 a23 a24 : Option D} : vF 25 (a0 :: a1 :: a2 :: a3 :: a4 :: a5 :: a6 :: a7 :: a8 :: a9 :: a10 :: a11 :: a12 :: a13 :: a14 :: a15 :: a16 :: a17 :: a18 :: a19 :: a20 :: a21 :: a22 :: a23 :: a24 :: some d :: e) = .ok d := rfl
@[simp] theorem gt_25 {a0 a1 a2 a3 a4 a5 a6 a7 a8 a9 a10 a11 a12 a13 a14 a15 a16 a17 a18 a19 a20 a21 a22 a23 a24 : Option D} : ((a0 :: a1 :: a2 :: a3 :: a4 :: a5 :: a6 :: a7 :: a8 :: a9 :: a10 :: a11 :: a12 :: a13 :: a14 :: a15 :: a16 :: a17 :: a18 :: a19 :: a20 :: a21 :: a22 :: a23 :: a24 :: b :: e : En))[25]? = some b := rfl
@[simp] theorem set_25 {a0 a1 a2 a3 a4 a5 a6 a7 a8 a9 a10 a11 a12 a13 a14 a15 a16 a17 a18 a19 a20 a21 a22 a23 a24 : Option D} {a : Option D} : (a0 :: a1 :: a2 :: a3 :: a4 :: a5 :: a6 :: a7 :: a8 :: a9 :: a10 :: a11 :: a12 :: a13 :: a14 :: a15 :: a16 :: a17 :: a18 :: a19 :: a20 :: a21 :: a22 :: a23 :: a24 :: a :: e : En).set 25 b = a0 :: a1 :: a2 :: a3 :: a4 :: a5 :: a6 :: a7 :: a8 :: a9 :: a10 :: a11 :: a12 :: a13 :: a14 :: a15 :: a16 :: a17 :: a18 :: a19 :: a20 :: a21 :: a22 :: a23 :: a24 :: b :: e := rfl
end
end Pv
namespace Pv
open PySem L2
section
variable {u v : En → Rz Fl} {f g fi f1 f2 : En → Rz D} {t : En → Rz Bool} {e e' : En} {N N' : En → Prop} {R R' : D → Prop} {d x : D} {i : Nat} {b : Bool} {o : Rz Fl}
theorem ixN_nat {n j : Nat} (h : j < n) : ixN n (j : Int) = some j := by
  unfold ixN
  simp [h]
theorem wq_st {ds : List D} {k : Int} {j : Nat} (hf : f e = .ok d) (hi : e[i]? = some (some (.lst ds))) (hx : fi e = .ok (.int k)) (hk : k = (j : Int)) (hj : j < ds.length) (h : N (e.set i (some (.lst (ds.set j d))))) : wq (stF i fi f e) N R := by
  subst hk
  unfold stF
  simp only [hf, hi, hx, Rz.bind_ok, ixN_nat hj]
  exact h
theorem wq_st2 {k k' : Nat} {c : D} {a z : Int} {j1 j2 : Nat} {ds : List D} (hf : f e = .ok d) (hi : e[i]? = some (some c)) (h1 : f1 e = .ok (.int a)) (ha : at1 c (.int a) = some j1) (hg : get1 c j1 = some (.lst ds)) (hk : kdep c k = some (k' + 1)) (h2 : f2 e = .ok (.int z)) (hz : z = (j2 : Int)) (hj : j2 < ds.length) (h : N (e.set i (some (set1 c j1 (.lst (ds.set j2 d)))))) : wq (st2F i k k' f1 f2 f e) N R := by
  subst hz
  unfold st2F
  simp only [hf, hi, h1, h2, ha, hg, hk, Rz.bind_ok, ixN_nat hj, if_true]
  exact h
theorem comp_FF {α : Type} {it : En → Rz (List D)} {own : List Nat} {tg : D → En → Rz En} {xs : List α} {gg hh : α → D} (p : α → Bool) (hit : it e = .ok (xs.map gg)) (hl : xs.length ≤ lim) (h : ∀ x ∈ xs, ∃ e1, tg (gg x) (ewipe e own) = .ok e1 ∧ t e1 = .ok (p x) ∧ (p x = true → f e1 = .ok (hh x))) : compF it own tg t f e = .ok (.lst ((xs.filter p).map hh)) := by
  unfold compF
  rw [hit]
  simp only [Rz.bind_ok, List.length_map, hl, if_true]
  have : compL tg t f (ewipe e own) (xs.map gg) = .ok ((xs.filter p).map hh) := by
    clear hit hl
    induction xs with
    | nil => rfl
    | cons d ds ih =>
      obtain ⟨e1, h1, h2, h3⟩ := h d List.mem_cons_self
      have ih := ih fun d hd => h d (List.mem_cons_of_mem _ hd)
      rw [List.map_cons]
      unfold compL
      rw [h1]
      simp only [Rz.bn_ok, h2]
      cases hp : p d with
      | false => rw [if_neg Bool.false_ne_true, ih, List.filter_cons, hp]; rfl
      | true => rw [if_pos rfl, h3 hp, ih, List.filter_cons, hp]; rfl
  rw [this]; rfl
theorem comp_F {α : Type} {it : En → Rz (List D)} {own : List Nat} {tg : D → En → Rz En} {xs : List α} {gg hh : α → D} (hit : it e = .ok (xs.map gg)) (hl : xs.length ≤ lim) (h : ∀ x ∈ xs, ∃ e1, tg (gg x) (ewipe e own) = .ok e1 ∧ f e1 = .ok (hh x)) : compF it own tg yesF f e = .ok (.lst (xs.map hh)) := by
  rw [comp_FF (fun _ => true) hit hl fun x hx => by
    obtain ⟨e1, h1, h2⟩ := h x hx
    exact ⟨e1, h1, rfl, fun _ => h2⟩]
  rw [List.filter_eq_self.mpr (fun _ _ => rfl)]
theorem zipL_map {α β : Type} (p : α → D) (q : β → D) (xs : List α) (ys : List β) : zipL (xs.map p) (ys.map q) = (xs.zip ys).map fun z => .tup [p z.1, q z.2] := by
  unfold zipL
  rw [List.zip_map, List.map_map]; rfl
theorem enumL_map {α : Type} (p : α → D) (xs : List α) : enumL (xs.map p) = xs.zipIdx.map fun z => .tup [.int (z.2 : Int), p z.1] := by
  unfold enumL
  rw [List.zipIdx_map, List.map_map]; rfl
theorem bls1_mapf {α : Type} (q : α → Bool) (xs : List α) : bls1 (xs.map fun x => .bl (q x)) = some (xs.map q) := by
  induction xs with
  | nil => rfl
  | cons a xs ih => rw [List.map_cons, bls1, ih]; rfl
theorem allO_map {α : Type} (q : α → Bool) (xs : List α) : allO [.lst (xs.map fun x => .bl (q x))] = .ok (.bl (xs.all q)) := by
  unfold allO
  simp only [bls1_mapf]
  simp only [List.all_map]; rfl
theorem sum_map {α : Type} (q : α → Int) (xs : List α) : onInts (fun ns => .ok (.int ns.sum)) [.lst (xs.map fun x => .int (q x))] = .ok (.int (xs.map q).sum) := by
  have := onInts_map (fun ns => .ok (.int ns.sum)) (xs.map q)
  rw [List.map_map] at this
  exact this
@[simp] theorem gN_ap : gN i d e = .ok (e.set i (some d)) := rfl
@[simp] theorem gTu1_ap {hs : List D → En → Rz En} {a : D} : gTu 1 hs (.tup [a]) e = hs [a] e := rfl
@[simp] theorem gTu2_ap {hs : List D → En → Rz En} {a b : D} : gTu 2 hs (.tup [a, b]) e = hs [a, b] e := rfl
@[simp] theorem gTu3_ap {hs : List D → En → Rz En} {a b c : D} : gTu 3 hs (.tup [a, b, c]) e = hs [a, b, c] e := rfl
@[simp] theorem gTu4_ap {hs : List D → En → Rz En} {a b c d : D} : gTu 4 hs (.tup [a, b, c, d]) e = hs [a, b, c, d] e := rfl
@[simp] theorem zipO_ap {a b : List D} : zipO [.lst a, .lst b] = .ok (zipL a b) := rfl
@[simp] theorem enumO_ap {a : List D} : enumO [.lst a] = .ok (enumL a) := rfl
@[simp] theorem ixD_t0 {a : D} {ds : List D} : ixD (.tup (a :: ds)) (.int 0) = .ok a := ixD_tup (j := 0) rfl rfl
@[simp] theorem ixD_t1 {a b : D} {ds : List D} : ixD (.tup (a :: b :: ds)) (.int 1) = .ok b := ixD_tup (j := 1) rfl rfl
@[simp] theorem ixD_t2 {a b c : D} {ds : List D} : ixD (.tup (a :: b :: c :: ds)) (.int 2) = .ok c := ixD_tup (j := 2) rfl rfl
@[simp] theorem ixD_t3 {a b c d : D} {ds : List D} : ixD (.tup (a :: b :: c :: d :: ds)) (.int 3) = .ok d := ixD_tup (j := 3) rfl rfl
end
@[simp] theorem gTc_ap {h : D → En → Rz En} {hs : List D → En → Rz En} {d : D} {ds : List D} {e : En} : gTc h hs (d :: ds) e = (h d e).bind fun e1 => hs ds e1 := by
  rfl
@[simp] theorem gT0_ap {e : En} : gT0 [] e = .ok e := rfl
/-- a test that each item of a list must pass, a step at a time -/
theorem all_step {α : Type} {xs : List α} {q : α → Bool} {j : Nat} (h : (xs.take j).all q = true) {x : α} (hx : xs[j]? = some x) (hq : q x = true) : (xs.take (j + 1)).all q = true := by
  rw [List.take_add_one, hx]
  simp only [Option.toList_some, List.all_append, h, List.all_cons, hq, List.all_nil, Bool.and_self]
theorem all_stop {α : Type} {xs : List α} {q : α → Bool} {j : Nat} {x : α} (hx : xs[j]? = some x) (hq : q x = false) : xs.all q = false := by
  rw [List.all_eq_false]
  exact ⟨x, List.mem_of_getElem? hx, by rw [hq]; exact Bool.false_ne_true⟩
end Pv
namespace Pv
open PySem L2
section
variable {u v : En → Rz Fl} {f g fi f1 f2 : En → Rz D} {t : En → Rz Bool} {e e' : En} {N N' : En → Prop} {R R' : D → Prop} {d x : D} {i : Nat} {b : Bool} {o : Rz Fl}
theorem wq_seqJ (J : En → Prop) (h1 : wq (u e) J R) (h2 : ∀ e, J e → wq (v e) N R) : wq (seqF u v e) N R := wq_seq (wq_mono h1 h2 fun _ z => z)
theorem wq_aug {op : D → D → Rz D} {y z : D} (hi : e[i]? = some (some x)) (hf : f e = .ok y) (ho : op x y = .ok z) (h : N (e.set i (some z))) : wq (augF op i f e) N R := by
  unfold augF; rw [hi]; simp only [hf, Rz.bind_ok, ho]; exact h
/-- a for over a mapped list, by what is left of it -/
theorem wq_forLR {α : Type} {gg : α → D} {hh : D → En → Rz En} {xs : List α} (I : List α → En → Prop) (h0 : I xs e) (hs : ∀ x rest e, x ∈ xs → I (x :: rest) e → ∃ e1, hh (gg x) e = .ok e1 ∧ wq (u e1) (I rest) R) (hd : ∀ e, I [] e → N e) : wq (forL hh u (xs.map gg) e) N R := by
  have go : ∀ (r : List α) (e : En), (∀ x ∈ r, x ∈ xs) → I r e → wq (forL hh u (r.map gg) e) N R := by
    intro r
    induction r with
    | nil => intro e _ hI; exact hd e hI
    | cons d r ih =>
      intro e hr hI
      obtain ⟨e1, h1, h2⟩ := hs d r e (hr d List.mem_cons_self) hI
      show wq ((hh (gg d) e).bn fun e1 => (u e1).bind fun o => match o with | .nx e2 => forL hh u (r.map gg) e2 | .rt q => .ok (.rt q)) N R
      rw [h1]
      simp only [Rz.bn_ok]
      cases hu : u e1 with
      | er c => rw [hu] at h2; exact h2
      | no => rw [hu] at h2; exact h2
      | ok a =>
        rw [hu] at h2
        cases a with
        | nx e2 => exact ih e2 (fun x hx => hr x (List.mem_cons_of_mem _ hx)) h2
        | rt q => exact h2
  exact go xs e (fun _ h => h) h0
theorem wq_forR {α : Type} {gg : α → D} {it : En → Rz (List D)} {hh : D → En → Rz En} {xs : List α} (hit : it e = .ok (xs.map gg)) (I : List α → En → Prop) (h0 : I xs e) (hs : ∀ x rest e, x ∈ xs → I (x :: rest) e → ∃ e1, hh (gg x) e = .ok e1 ∧ wq (u e1) (I rest) R) (hd : ∀ e, I [] e → N e) : wq (forF it hh u e) N R := by
  unfold forF; rw [hit]; exact wq_forLR I h0 hs hd
@[simp] theorem gTu5_ap {hs : List D → En → Rz En} {a b c d x : D} : gTu 5 hs (.tup [a, b, c, d, x]) e = hs [a, b, c, d, x] e := rfl
@[simp] theorem ixD_t4 {a b c d x : D} {ds : List D} : ixD (.tup (a :: b :: c :: d :: x :: ds)) (.int 4) = .ok x := ixD_tup (j := 4) rfl rfl
@[simp] theorem max2O_ap (i j : Int) : max2O [.int i, .int j] = .ok (.int (if j > i then j else i)) := rfl
@[simp] theorem min2O_ap (i j : Int) : min2O [.int i, .int j] = .ok (.int (if j < i then j else i)) := rfl
@[simp] theorem listO_lst (ds : List D) : listO [.lst ds] = .ok (.lst ds) := rfl
@[simp] theorem listO_tup (ds : List D) : listO [.tup ds] = .ok (.lst ds) := rfl
@[simp] theorem listI_ints (ns : List Int) : listI [.lst (ns.map .int)] = .ok (.lst (ns.map .int)) := by
  simp [listI, immA_ints]
@[simp] theorem intO_bl (b : Bool) : intO [.bl b] = .ok (.int (if b = true then 1 else 0)) := rfl
@[simp] theorem isN_tup (ds : List D) : isN (.tup ds) = false := rfl
@[simp] theorem isN_lst (ds : List D) : isN (.lst ds) = false := rfl
@[simp] theorem isN_bl (b : Bool) : isN (.bl b) = false := rfl
@[simp] theorem isi_int (T : String) (i : Int) : isiD T (.int i) = .ok (.bl (tySub "int" T)) := rfl
@[simp] theorem isi_bl (T : String) (i : Bool) : isiD T (.bl i) = .ok (.bl (tySub "bool" T)) := rfl
@[simp] theorem isi_non (T : String) : isiD T .non = .ok (.bl (tySub "NoneType" T)) := rfl
@[simp] theorem isi_lst (T : String) (i : List D) : isiD T (.lst i) = .ok (.bl (tySub "list" T)) := rfl
@[simp] theorem isi_tup (T : String) (i : List D) : isiD T (.tup i) = .ok (.bl (tySub "tuple" T)) := rfl
end
theorem pick_ex {P : D → Prop} {ds : List D} {k : Int} (h0 : 0 ≤ k) (h : k < ds.length) (hP : ∀ d ∈ ds, P d) : ∃ d, ixD (.lst ds) (.int k) = .ok d ∧ P d := by
  obtain ⟨j, rfl⟩ : ∃ j : Nat, k = (j : Int) := ⟨k.toNat, by omega⟩
  have hj : j < ds.length := by omega
  exact ⟨ds[j], ixD_lst rfl (List.getElem?_eq_getElem hj), hP _ (List.getElem_mem hj)⟩
theorem eqq_ints (xs ys : List Int) : eqq (.lst (xs.map .int)) (.lst (ys.map .int)) = (xs == ys) := by
  rw [eqq_lst]
  induction xs generalizing ys with
  | nil => cases ys <;> rfl
  | cons x xs ih =>
    cases ys with
    | nil => rfl
    | cons y ys =>
      have := ih ys
      simp only [List.map_cons, List.length_cons, Nat.add_right_cancel_iff, List.zip_cons_cons, List.all_cons, eqq_int, List.length_map] at this ⊢
      rw [show ((x :: xs) == (y :: ys)) = ((x == y) && (xs == ys)) from rfl, ← this]
      cases x == y <;> simp
theorem eqD_ints (xs ys : List Int) : eqD (.lst (xs.map .int)) (.lst (ys.map .int)) = .ok (.bl (xs == ys)) := by
  rw [eqD, if_pos ⟨by simp [okQ, okQs_ints], by simp [okQ, okQs_ints]⟩, eqq_ints]
theorem neD_ints (xs ys : List Int) : neD (.lst (xs.map .int)) (.lst (ys.map .int)) = .ok (.bl (!(xs == ys))) := by
  rw [neD, if_pos ⟨by simp [okQ, okQs_ints], by simp [okQ, okQs_ints]⟩, eqq_ints]
theorem okQs_mapf {α : Type} (f : α → D) (xs : List α) (n : Nat) (h : ∀ x, okQ (f x) n = true) : okQs (xs.map f) n = true := by
  induction xs with
  | nil => rfl
  | cons a xs ih => rw [List.map_cons, okQs, ih, h]; rfl
theorem eqD_nil (xs : List D) (h : okQs xs 19 = true) : eqD (.lst xs) (.lst []) = .ok (.bl xs.isEmpty) := by
  rw [eqD, if_pos ⟨by rw [okQ]; exact h, rfl⟩, eqq_lst]
  cases xs <;> rfl
theorem neD_nil (xs : List D) (h : okQs xs 19 = true) : neD (.lst xs) (.lst []) = .ok (.bl (!xs.isEmpty)) := by
  rw [neD, if_pos ⟨by rw [okQ]; exact h, rfl⟩, eqq_lst]
  cases xs <;> rfl
theorem neD_same (d : D) (h : okQ d 20 = true) : neD d d = .ok (.bl false) := by
  rw [neD, if_pos ⟨h, h⟩, eqq_self _ _ h]; rfl
theorem eqD_same (d : D) (h : okQ d 20 = true) : eqD d d = .ok (.bl true) := by
  rw [eqD, if_pos ⟨h, h⟩, eqq_self _ _ h]
end Pv
namespace Pv
open PySem L2
@[irreducible] def wp (o : Rz Fl) (N : En → Prop) (R : D → Prop) : Prop := wq o N R
theorem wp_eq : @wp = @wq := by
  unfold wp; rfl
section
variable {u v : En → Rz Fl} {f g fi f1 f2 : En → Rz D} {t : En → Rz Bool} {e e' : En} {N N' : En → Prop} {R R' : D → Prop} {d x : D} {i : Nat} {b : Bool} {o : Rz Fl}
theorem wp_mono (h : wp o N R) (hN : ∀ e, N e → N' e) (hR : ∀ d, R d → R' d) : wp o N' R' := by rw [wp_eq] at *; exact wq_mono h hN hR
theorem wp_seq (h : wp (u e) (fun e1 => wp (v e1) N R) R) : wp (seqF u v e) N R := by rw [wp_eq] at *; exact wq_seq h
theorem wp_sk (h : N e) : wp (skF e) N R := by rw [wp_eq] at *; exact wq_sk h
theorem wp_set (hf : f e = .ok d) (h : N (e.set i (some d))) : wp (setF i f e) N R := by rw [wp_eq] at *; exact wq_set hf h
theorem wp_ret (hf : f e = .ok d) (h : R d) : wp (retF f e) N R := by rw [wp_eq] at *; exact wq_ret hf h
theorem wp_if (ht : t e = .ok b) (h1 : b = true → wp (u e) N R) (h2 : b = false → wp (v e) N R) : wp (iteF t u v e) N R := by rw [wp_eq] at *; exact wq_if ht h1 h2
theorem wp_expr (hf : f e = .ok d) (h : N e) : wp (exprF f e) N R := by rw [wp_eq] at *; exact wq_expr hf h
theorem wp_unp {hh : D → En → Rz En} (hf : f e = .ok d) (h1 : hh d e = .ok e') (h : N e') : wp (unpF f hh e) N R := by rw [wp_eq] at *; exact wq_unp hf h1 h
theorem wp_app {ds : List D} (hi : e[i]? = some (some (.lst ds))) (hf : f e = .ok d) (hl : ds.length < lim) (h : N (e.set i (some (.lst (ds ++ [d]))))) : wp (appF i f e) N R := by rw [wp_eq] at *; exact wq_app hi hf hl h
theorem wp_forL {hh : D → En → Rz En} {ds : List D} (I : Nat → En → Prop) (h0 : I 0 e) (hs : ∀ j d e, ds[j]? = some d → I j e → ∃ e1, hh d e = .ok e1 ∧ wp (u e1) (I (j + 1)) R) (hd : ∀ e, I ds.length e → N e) : wp (forL hh u ds e) N R := by rw [wp_eq] at *; exact wq_forL I h0 hs hd
theorem wp_for {it : En → Rz (List D)} {hh : D → En → Rz En} {ds : List D} (hit : it e = .ok ds) (I : Nat → En → Prop) (h0 : I 0 e) (hs : ∀ j d e, ds[j]? = some d → I j e → ∃ e1, hh d e = .ok e1 ∧ wp (u e1) (I (j + 1)) R) (hd : ∀ e, I ds.length e → N e) : wp (forF it hh u e) N R := by rw [wp_eq] at *; exact wq_for hit I h0 hs hd
theorem wp_wh {n : Nat} (I : En → Prop) (μ : En → Nat) (h0 : I e) (hμ : μ e < n) (hs : ∀ e, I e → ∃ b, t e = .ok b ∧ (b = true → wp (u e) (fun e' => I e' ∧ μ e' < μ e) R) ∧ (b = false → N e)) : wp (whF n t u e) N R := by rw [wp_eq] at *; exact wq_wh I μ h0 hμ hs
theorem fn_of_wp {n : Nat} {ds : List D} (h : wp (u (ini n ds)) (fun _ => x = .non) (fun d => d = x)) : fnN n u ds = .ok x := by rw [wp_eq] at *; exact fn_of_wq h
theorem fn_ex {n : Nat} {ds : List D} {Q : D → Prop} (h : wp (u (ini n ds)) (fun _ => Q .non) Q) : ∃ x, fnN n u ds = .ok x ∧ Q x := by rw [wp_eq] at *; exact fn_exq h
theorem wp_st {ds : List D} {k : Int} {j : Nat} (hf : f e = .ok d) (hi : e[i]? = some (some (.lst ds))) (hx : fi e = .ok (.int k)) (hk : k = (j : Int)) (hj : j < ds.length) (h : N (e.set i (some (.lst (ds.set j d))))) : wp (stF i fi f e) N R := by rw [wp_eq] at *; exact wq_st hf hi hx hk hj h
theorem wp_st2 {k k' : Nat} {c : D} {a z : Int} {j1 j2 : Nat} {ds : List D} (hf : f e = .ok d) (hi : e[i]? = some (some c)) (h1 : f1 e = .ok (.int a)) (ha : at1 c (.int a) = some j1) (hg : get1 c j1 = some (.lst ds)) (hk : kdep c k = some (k' + 1)) (h2 : f2 e = .ok (.int z)) (hz : z = (j2 : Int)) (hj : j2 < ds.length) (h : N (e.set i (some (set1 c j1 (.lst (ds.set j2 d)))))) : wp (st2F i k k' f1 f2 f e) N R := by rw [wp_eq] at *; exact wq_st2 hf hi h1 ha hg hk h2 hz hj h
theorem wp_seqJ (J : En → Prop) (h1 : wp (u e) J R) (h2 : ∀ e, J e → wp (v e) N R) : wp (seqF u v e) N R := by rw [wp_eq] at *; exact wq_seqJ J h1 h2
theorem wp_aug {op : D → D → Rz D} {y z : D} (hi : e[i]? = some (some x)) (hf : f e = .ok y) (ho : op x y = .ok z) (h : N (e.set i (some z))) : wp (augF op i f e) N R := by rw [wp_eq] at *; exact wq_aug hi hf ho h
theorem wp_forLR {α : Type} {gg : α → D} {hh : D → En → Rz En} {xs : List α} (I : List α → En → Prop) (h0 : I xs e) (hs : ∀ x rest e, x ∈ xs → I (x :: rest) e → ∃ e1, hh (gg x) e = .ok e1 ∧ wp (u e1) (I rest) R) (hd : ∀ e, I [] e → N e) : wp (forL hh u (xs.map gg) e) N R := by rw [wp_eq] at *; exact wq_forLR I h0 hs hd
theorem wp_forR {α : Type} {gg : α → D} {it : En → Rz (List D)} {hh : D → En → Rz En} {xs : List α} (hit : it e = .ok (xs.map gg)) (I : List α → En → Prop) (h0 : I xs e) (hs : ∀ x rest e, x ∈ xs → I (x :: rest) e → ∃ e1, hh (gg x) e = .ok e1 ∧ wp (u e1) (I rest) R) (hd : ∀ e, I [] e → N e) : wp (forF it hh u e) N R := by rw [wp_eq] at *; exact wq_forR hit I h0 hs hd
end
end Pv
namespace Pv
open PySem L2
section
variable {u v : En → Rz Fl} {f g fi f1 f2 : En → Rz D} {t : En → Rz Bool} {e e' : En} {N N' : En → Prop} {R R' : D → Prop} {d x : D} {i k k1 : Nat} {b : Bool} {o : Rz Fl} {pF : En → Rz (List Nat)} {fs : En → Rz (List D)}
theorem wp_m {op : List D → List D → Option (D × List D)} (h : mV i k k1 pF op fs e = .ok (e', d)) (hN : N e') : wp (mF i k k1 pF op fs e) N R := by
  unfold mF; rw [h]; rw [wp_eq]; exact hN
theorem wp_mS {op : List D → List D → Option (D × List D)} {j : Nat} (h : mV i k k1 pF op fs e = .ok (e', d)) (hN : N (e'.set j (some d))) : wp (mSF j i k k1 pF op fs e) N R := by
  unfold mSF; rw [h]; rw [wp_eq]; exact hN
theorem pV_ok (h : e[i]? = some (some d)) : pV i e = .ok [] := by unfold pV; rw [h]
theorem mV_0 {op : List D → List D → Option (D × List D)} {ds ds' es : List D} (hi : e[i]? = some (some (.lst ds))) (hk : k = k1 + 1) (hf : fs e = .ok es) (ho : op ds es = some (d, ds')) : mV i k k1 (pV i) op fs e = .ok (e.set i (some (.lst ds')), d) := by
  unfold mV
  rw [pV_ok hi]
  subst hk
  simp only [Rz.bind_ok, hi, depP, getP, if_true, hf, ho, setP]
theorem wp_as0 {op : Int → Int → Int} {ds : List D} {z a c : Int} {j : Nat} (hi : e[i]? = some (some (.lst ds))) (hk : k = k1 + 1) (hx : fi e = .ok (.int z)) (hz : z = (j : Int)) (hj : ds[j]? = some (.int a)) (hf : f e = .ok (.int c)) (h : N (e.set i (some (.lst (ds.set j (.int (op a c))))))) : wp (asF op i k k1 (pV i) fi f e) N R := by
  subst hz hk
  unfold asF
  rw [pV_ok hi]
  have hl := (List.getElem?_eq_some_iff.mp hj).1
  simp only [Rz.bind_ok, hi, depP, getP, if_true, hx, ixN_nat hl, hj, hf, setP]
  rw [wp_eq]; exact h
theorem sg_0 {ds : List D} {z w : Int} {j : Nat} (hi : e[i]? = some (some (.lst ds))) (hk : k = k1 + 1) (hx : fi e = .ok (.int z)) (hz : z = (j : Int)) (hj : j < ds.length) : sgF i k k1 (pV i) fi w e = .ok (e.set i (some (.lst (ds.set j (.int w))))) := by
  subst hz hk
  unfold sgF
  rw [pV_ok hi]
  simp only [Rz.bind_ok, hi, depP, getP, if_true, hx, ixN_nat hj, setP]
theorem wp_sw {g1 g2 : Int → En → Rz En} {a c : Int} {e1 e2 : En} (hf : f e = .ok (.tup [.int a, .int c])) (h1 : g1 a e = .ok e1) (h2 : g2 c e1 = .ok e2) (h : N e2) : wp (swF f g1 g2 e) N R := by
  unfold swF
  simp only [hf, Rz.bind_ok, h1, h2]
  rw [wp_eq]; exact h
end
end Pv
namespace Pv
open PySem L2
section
variable {u v : En → Rz Fl} {f g fi f1 f2 : En → Rz D} {t : En → Rz Bool} {e e' : En} {N N' : En → Prop} {R R' : D → Prop} {d x : D} {i j k k1 : Nat} {b : Bool} {o : Rz Fl} {pF : En → Rz (List Nat)} {fs : En → Rz (List D)}
theorem wq_callB {js : Js} {Fn : List D → Rz (List D)} {ds es : List D} (hf : fs e = .ok ds) (hg : gdB js ds = true) (hF : Fn ds = .ok es) (hg2 : gdB js es = true) (h : N (putB js es e)) : wq (callBF js Fn fs e) N R := by
  unfold callBF
  simp only [hf, Rz.bind_ok, hg, if_true, hF, hg2]
  exact h
theorem wq_al {p : List Nat} {d1 : D} {ki : Nat} (hp : pF e = .ok p) (hi : e[i]? = some (some d)) (hg : getP d p = some d1) (hk : depP d ki p = some k1) (him : immK d1 (min k1 40) = true) (hj : j < e.length)
    (h : wq (u ((e.set i none).set j (some d1))) (fun e' => ∃ d2, e'[j]? = some (some d2) ∧ immK d2 (min k1 40) = true ∧ N (e'.set i (some (setP d p d2)))) R) : wq (alF i j ki k1 pF u e) N R := by
  unfold alF
  simp only [hp, Rz.bind_ok, hi, hg]
  rw [if_pos ⟨hk, him, hj⟩]
  cases hu : u ((e.set i none).set j (some d1)) with
  | er c => rw [hu] at h; exact h
  | no => rw [hu] at h; exact h
  | ok a =>
    rw [hu] at h
    cases a with
    | rt r => exact h
    | nx e2 =>
      obtain ⟨d2, h1, h2, h3⟩ := h
      simp only [Rz.bind_ok, h1, h2, if_true]
      exact h3
theorem wq_fa {ds : List D} (I : List D → List D → En → Prop) (hi : e[i]? = some (some d)) (hk : kids d = some ds) (hd : kdep d k = some k1) (hj : j < e.length) (h0 : I ds [] (e.set i none))
    (hs : ∀ x rest acc e, I (x :: rest) acc e → immK x (min k1 40) = true ∧ wq (u (e.set j (some x))) (fun e' => ∃ d2, e'[j]? = some (some d2) ∧ immK d2 (min k1 40) = true ∧ I rest (acc ++ [d2]) e') R)
    (hn : ∀ acc e', I [] acc e' → N (e'.set i (some (wkids d acc)))) : wq (faF i j k u e) N R := by
  unfold faF
  simp only [hi, hk, hd, hj, if_true]
  have go : ∀ (r acc : List D) (e : En), I r acc e → wq (faL j (min k1 40) u (fun acc e => .ok (.nx (e.set i (some (wkids d acc))))) r acc e) N R := by
    intro r
    induction r with
    | nil => intro acc e hI; exact hn acc e hI
    | cons x r ih =>
      intro acc e hI
      obtain ⟨h1, h2⟩ := hs x r acc e hI
      unfold faL
      rw [if_pos h1]
      cases hu : u (e.set j (some x)) with
      | er c => rw [hu] at h2; exact h2
      | no => rw [hu] at h2; exact h2
      | ok a =>
        rw [hu] at h2
        cases a with
        | rt r => exact h2
        | nx e2 =>
          obtain ⟨d2, h3, h4, h5⟩ := h2
          simp only [Rz.bind_ok, h3, h4, if_true]
          exact ih _ _ h5
  exact go ds [] _ h0
theorem fnB_exq {n : Nat} {bs : List Bool} {ds : List D} {Q : List D → Prop} (h : wq (u (ini n ds)) (fun e => ∃ es, newsB bs ds e = .ok es ∧ Q es) (fun _ => False)) : ∃ es, fnB n bs u ds = .ok es ∧ Q es := by
  unfold fnB
  cases hu : u (ini n ds) with
  | er c => rw [hu] at h; exact h.elim
  | no => rw [hu] at h; exact h.elim
  | ok a =>
    rw [hu] at h
    cases a with
    | rt d => exact h.elim
    | nx e =>
      obtain ⟨es, h1, h2⟩ := h
      simp only [h1]
      exact ⟨es, rfl, h2⟩
theorem wq_dput {kvs : List (Key × D)} {y : D} {ky : Key} (hf : f e = .ok d) (hi : e[i]? = some (some (.dK kvs))) (hx : fi e = .ok y) (hk : keyD y = some ky) (hl : kvs.length < lim) (h : N (e.set i (some (.dK (putD kvs ky d))))) : wq (dputF i fi f e) N R := by
  unfold dputF
  simp only [hf, Rz.bind_ok, hi, hx, hk, hl, if_true]
  exact h
theorem wp_callB {js : Js} {Fn : List D → Rz (List D)} {ds es : List D} (hf : fs e = .ok ds) (hg : gdB js ds = true) (hF : Fn ds = .ok es) (hg2 : gdB js es = true) (h : N (putB js es e)) : wp (callBF js Fn fs e) N R := by rw [wp_eq]; exact wq_callB hf hg hF hg2 h
theorem wp_al {p : List Nat} {d1 : D} {ki : Nat} (hp : pF e = .ok p) (hi : e[i]? = some (some d)) (hg : getP d p = some d1) (hk : depP d ki p = some k1) (him : immK d1 (min k1 40) = true) (hj : j < e.length)
    (h : wp (u ((e.set i none).set j (some d1))) (fun e' => ∃ d2, e'[j]? = some (some d2) ∧ immK d2 (min k1 40) = true ∧ N (e'.set i (some (setP d p d2)))) R) : wp (alF i j ki k1 pF u e) N R := by rw [wp_eq] at *; exact wq_al hp hi hg hk him hj h
theorem wp_fa {ds : List D} (I : List D → List D → En → Prop) (hi : e[i]? = some (some d)) (hk : kids d = some ds) (hd : kdep d k = some k1) (hj : j < e.length) (h0 : I ds [] (e.set i none))
    (hs : ∀ x rest acc e, I (x :: rest) acc e → immK x (min k1 40) = true ∧ wp (u (e.set j (some x))) (fun e' => ∃ d2, e'[j]? = some (some d2) ∧ immK d2 (min k1 40) = true ∧ I rest (acc ++ [d2]) e') R)
    (hn : ∀ acc e', I [] acc e' → N (e'.set i (some (wkids d acc)))) : wp (faF i j k u e) N R := by rw [wp_eq] at *; exact wq_fa I hi hk hd hj h0 hs hn
theorem fnB_ex {n : Nat} {bs : List Bool} {ds : List D} {Q : List D → Prop} (h : wp (u (ini n ds)) (fun e => ∃ es, newsB bs ds e = .ok es ∧ Q es) (fun _ => False)) : ∃ es, fnB n bs u ds = .ok es ∧ Q es := by rw [wp_eq] at *; exact fnB_exq h
theorem wp_dput {kvs : List (Key × D)} {y : D} {ky : Key} (hf : f e = .ok d) (hi : e[i]? = some (some (.dK kvs))) (hx : fi e = .ok y) (hk : keyD y = some ky) (hl : kvs.length < lim) (h : N (e.set i (some (.dK (putD kvs ky d))))) : wp (dputF i fi f e) N R := by rw [wp_eq]; exact wq_dput hf hi hx hk hl h
end
@[simp] theorem newsB_nil {e : En} : newsB [] [] e = .ok [] := by cases e <;> rfl
@[simp] theorem newsB_t {bs : List Bool} {d x : D} {ds : List D} {e : En} : newsB (true :: bs) (d :: ds) (some x :: e) = (newsB bs ds e).bind fun xs => .ok (x :: xs) := rfl
@[simp] theorem newsB_f {bs : List Bool} {d : D} {o : Option D} {ds : List D} {e : En} : newsB (false :: bs) (d :: ds) (o :: e) = (newsB bs ds e).bind fun xs => .ok (d :: xs) := by cases o <;> rfl
mutual
theorem immK_mono : ∀ (d : D) {k k' : Nat}, immK d k = true → k ≤ k' → immK d k' = true
  | .lst ds, k, k', h, hk => by
    rw [immK, Bool.and_eq_true, decide_eq_true_eq] at h ⊢
    exact ⟨by omega, immKs_mono ds h.2 (by omega)⟩
  | .tup ds, k, k', h, hk => by rw [immK] at h ⊢; exact immKs_mono ds h hk
  | .dK ks, k, k', h, hk => by
    rw [immK, Bool.and_eq_true, decide_eq_true_eq] at h ⊢
    exact ⟨by omega, h.2⟩
  | .dT ks, k, k', h, hk => by
    rw [immK, Bool.and_eq_true, decide_eq_true_eq] at h ⊢
    exact ⟨by omega, h.2⟩
  | .fzl _, _, _, h, _ => by simp [immK] at h
  | .obj _ _, _, _, h, _ => by simp [immK] at h
  | .non, _, _, _, _ => rfl
  | .bl _, _, _, _, _ => rfl
  | .int _, _, _, _, _ => rfl
  | .str _, _, _, _, _ => rfl
theorem immKs_mono : ∀ (ds : List D) {k k' : Nat}, immKs ds k = true → k ≤ k' → immKs ds k' = true
  | [], _, _, _, _ => rfl
  | d :: ds, k, k', h, hk => by
    rw [immKs, Bool.and_eq_true] at h ⊢
    exact ⟨immK_mono d h.1 hk, immKs_mono ds h.2 hk⟩
end
theorem immKs_all : ∀ (ds : List D) {k : Nat}, (∀ d ∈ ds, immK d k = true) → immKs ds k = true
  | [], _, _ => rfl
  | d :: ds, k, h => by rw [immKs, h d List.mem_cons_self, immKs_all ds fun x hx => h x (List.mem_cons_of_mem _ hx)]; rfl
@[simp] theorem immK_int (i : Int) (k : Nat) : immK (.int i) k = true := rfl
@[simp] theorem immK_bl (i : Bool) (k : Nat) : immK (.bl i) k = true := rfl
@[simp] theorem immK_non (k : Nat) : immK .non k = true := rfl
theorem immKs_ints (ns : List Int) (k : Nat) : immKs (ns.map .int) k = true := immKs_all _ fun d hd => by
  obtain ⟨n, _, rfl⟩ := List.mem_map.mp hd; rfl
end Pv

set_option Elab.async false
set_option linter.all false
set_option maxRecDepth 100000
/-! printed by gen.py: what the defs that several laws share are worth -/
namespace Lib
open PySem L2 Pv
def u_turns : En → Rz Fl := (seqF (setF 1 (b2 ixD (vF 0) (cF (.int 1)))) (seqF (retF (compF (aI rng1 (consF (b2 (i2 fdivI) (aF lenO (consF (vF 1) nilF)) (cF (.int 2))) nilF)) [2] (gN 2) yesF (b2 (i2 addI) (b2 ixD (vF 1) (b2 (i2 mulI) (cF (.int 2)) (vF 2))) (b2 ixD (vF 1) (b2 (i2 addI) (b2 (i2 mulI) (cF (.int 2)) (vF 2)) (cF (.int 1))))))) skF))
def F_turns : List D → Rz D := fnN 3 u_turns
def u_keeps : En → Rz Fl := (seqF (unpF (vF 0) (gTu 3 (gTc (gN 2) (gTc (gN 3) (gTc (gN 4) gT0))))) (seqF (forF (aI zipO (consF (vF 3) (consF (aF (cO 1 F_turns) (consF (vF 1) nilF)) nilF))) (gTu 2 (gTc (gN 5) (gTc (gN 6) gT0))) (seqF (Pv.iteF (andF (tF (u1 (fun d => .ok (.bl (!isN d))) (vF 5))) (tF (b2 (i2 gtI) (vF 6) (vF 5)))) (seqF (retF (cF (.bl false))) skF) skF) skF)) (seqF (retF (aF allO (consF (compF (aI zipO (consF (vF 4) (consF (b2 ixD (vF 1) (cF (.int 0))) nilF))) [7, 8] (gTu 2 (gTc (gN 7) (gTc (gN 8) gT0))) yesF (imF (bV (orF (tF (u1 (fun d => .ok (.bl (isN d))) (vF 7))) (tF (b2 eqD (vF 7) (vF 8))))))) nilF))) skF)))
def F_keeps : List D → Rz D := fnN 9 u_keeps
def u_cost : En → Rz Fl := (seqF (retF (aF (onInts fun ns => .ok (.int ns.sum)) (consF (compF (aI zipO (consF (b2 ixD (vF 0) (cF (.int 0))) (consF (aF (cO 1 F_turns) (consF (vF 1) nilF)) nilF))) [2, 3] (gTu 2 (gTc (gN 2) (gTc (gN 3) gT0))) yesF (b2 (i2 mulI) (vF 2) (vF 3))) nilF))) skF)
def F_cost : List D → Rz D := fnN 4 u_cost
def u__law_cell_at : En → Rz Fl := (seqF (Pv.iteF (tF (b2 (i2 ltI) (vF 1) (aF lenO (consF (vF 0) nilF)))) (seqF (retF (b2 ixD (vF 0) (vF 1))) skF) skF) (seqF (retF (cF (.int 0))) skF))
def F__law_cell_at : List D → Rz D := fnN 2 u__law_cell_at
def u__law_mix : En → Rz Fl := (seqF (Pv.iteF (tF (b2 (i2 geI) (vF 0) (b2 (i2 powI) (cF (.int 10)) (cF (.int 18))))) (seqF (forF (aI rng1 (consF (vF 1) nilF)) (gN 2) (seqF (setF 0 (b2 (i2 fdivI) (vF 0) (b2 (i2 powI) (cF (.int 10)) (cF (.int 6))))) skF)) (seqF (retF (b2 (i2 modI) (vF 0) (b2 (i2 powI) (cF (.int 10)) (cF (.int 6))))) skF)) skF) (seqF (setF 3 (b2 (i2 modI) (b2 (i2 mulI) (b2 (i2 addI) (b2 (i2 addI) (b2 (i2 modI) (vF 0) (cF (.int 1000003))) (b2 (i2 mulI) (b2 (i2 mulI) (vF 1) (vF 1)) (cF (.int 7919)))) (vF 1)) (cF (.int 48271))) (cF (.int 2147483629)))) (seqF (setF 3 (b2 (i2 modI) (b2 (i2 mulI) (vF 3) (vF 3)) (cF (.int 2147483587)))) (seqF (retF (b2 (i2 fdivI) (b2 (i2 modI) (b2 (i2 mulI) (vF 3) (b2 (i2 addI) (vF 3) (cF (.int 2)))) (cF (.int 2147483579))) (cF (.int 7)))) skF))))
def F__law_mix : List D → Rz D := fnN 4 u__law_mix
def u__law_digit : En → Rz Fl := (seqF (forF (aI rng1 (consF (vF 2) nilF)) (gN 3) (seqF (setF 0 (b2 (i2 fdivI) (vF 0) (vF 1))) skF)) (seqF (retF (b2 (i2 modI) (vF 0) (vF 1))) skF))
def F__law_digit : List D → Rz D := fnN 4 u__law_digit
def u__law_cost_of : En → Rz Fl := (seqF (setF 2 (b2 ixD (vF 1) (cF (.int 1)))) (seqF (retF (aF (onInts fun ns => .ok (.int ns.sum)) (consF (compF (aI enumO (consF (b2 ixD (vF 0) (cF (.int 0))) nilF)) [3, 4] (gTu 2 (gTc (gN 3) (gTc (gN 4) gT0))) yesF (b2 (i2 mulI) (vF 4) (b2 (i2 addI) (b2 ixD (vF 2) (b2 (i2 mulI) (cF (.int 2)) (vF 3))) (b2 ixD (vF 2) (b2 (i2 addI) (b2 (i2 mulI) (cF (.int 2)) (vF 3)) (cF (.int 1))))))) nilF))) skF))
def F__law_cost_of : List D → Rz D := fnN 5 u__law_cost_of
def u__law_keeps : En → Rz Fl := (seqF (forF (aI enumO (consF (b2 ixD (vF 0) (cF (.int 1))) nilF)) (gTu 2 (gTc (gN 2) (gTc (gN 3) gT0))) (seqF (Pv.iteF (andF (tF (u1 (fun d => .ok (.bl (!isN d))) (vF 3))) (tF (b2 (i2 gtI) (b2 (i2 addI) (b2 ixD (b2 ixD (vF 1) (cF (.int 1))) (b2 (i2 mulI) (cF (.int 2)) (vF 2))) (b2 ixD (b2 ixD (vF 1) (cF (.int 1))) (b2 (i2 addI) (b2 (i2 mulI) (cF (.int 2)) (vF 2)) (cF (.int 1))))) (vF 3)))) (seqF (retF (cF (.bl false))) skF) skF) skF)) (seqF (retF (b2 eqD (compF (aI enumO (consF (b2 ixD (vF 0) (cF (.int 2))) nilF)) [2, 4] (gTu 2 (gTc (gN 2) (gTc (gN 4) gT0))) (andF (tF (u1 (fun d => .ok (.bl (!isN d))) (vF 4))) (tF (b2 neD (vF 4) (b2 ixD (b2 ixD (vF 1) (cF (.int 0))) (vF 2))))) (vF 2)) (aF lstO nilF))) skF))
def F__law_keeps : List D → Rz D := fnN 5 u__law_keeps
def u__law_copy : En → Rz Fl := (seqF (retF (aF tupL (consF (compF (tOf (vF 0)) [1] (gN 1) yesF (aF listO (consF (vF 1) nilF))) nilF))) skF)
def F__law_copy : List D → Rz D := fnN 2 u__law_copy
def u__law_wishes : En → Rz Fl := (seqF (setF 3 (aF lstO nilF)) (seqF (setF 4 (aF lstO nilF)) (seqF (setF 5 (aF lstO nilF)) (seqF (forF (aI rng1 (consF (aF lenO (consF (vF 0) nilF)) nilF)) (gN 6) (seqF (setF 7 (aF (cO 2 F__law_mix) (consF (vF 1) (consF (vF 6) nilF)))) (seqF (appF 3 (b2 ixD (aF lstO (consF (cF (.int 1)) (consF (cF (.int 1)) (consF (b2 (i2 modI) (b2 (i2 fdivI) (vF 7) (cF (.int 4))) (cF (.int 4))) (consF (b2 (i2 modI) (b2 (i2 fdivI) (vF 7) (cF (.int 4))) (cF (.int 1001))) nilF))))) (b2 (i2 modI) (vF 7) (cF (.int 4))))) (seqF (appF 4 (b2 ixD (aF lstO (consF (cF .non) (consF (cF .non) (consF (b2 (i2 modI) (b2 (i2 fdivI) (vF 7) (cF (.int 64))) (cF (.int 3))) (consF (b2 (i2 modI) (b2 (i2 fdivI) (vF 7) (cF (.int 64))) (cF (.int 41))) nilF))))) (b2 (i2 mulI) (b2 (i2 modI) (b2 (i2 fdivI) (vF 7) (cF (.int 16))) (cF (.int 4))) (vF 2)))) (seqF (forF (aI rng1 (consF (cF (.int 2)) nilF)) (gN 8) (seqF (appF 5 (cF .non)) (seqF (Pv.iteF (andF (tF (b2 eqD (vF 2) (cF (.int 1)))) (tF (b2 eqD (aF (cO 3 F__law_digit) (consF (b2 (i2 fdivI) (vF 7) (cF (.int 1024))) (consF (cF (.int 4)) (consF (vF 8) nilF)))) (cF (.int 1))))) (seqF (stF 5 (b2 (i2 addI) (b2 (i2 mulI) (cF (.int 2)) (vF 6)) (vF 8)) (b2 (i2 addI) (cF (.int 1)) (b2 (i2 modI) (aF (cO 3 F__law_digit) (consF (b2 (i2 fdivI) (vF 7) (cF (.int 4096))) (consF (cF (.int 8)) (consF (vF 8) nilF)))) (cF (.int 4))))) skF) skF) skF))) skF))))) (seqF (retF (aF tupO (consF (vF 3) (consF (vF 4) (consF (vF 5) nilF))))) skF)))))
def F__law_wishes : List D → Rz D := fnN 9 u__law_wishes
def u_check_net : En → Rz Fl := (seqF (unpF (vF 0) (gTu 2 (gTc (gN 1) (gTc (gN 2) gT0)))) (seqF (Pv.iteF (orF (tF (b2 eqD (vF 1) (aF lstO nilF))) (tF (b2 neD (aF (onInts fun ns => .ok (.int ns.sum)) (consF (vF 1) nilF)) (cF (.int 0))))) (seqF noF skF) skF) (seqF (forF (lOf (vF 2)) (gTu 5 (gTc (gN 3) (gTc (gN 4) (gTc (gN 5) (gTc (gN 6) (gTc (gN 7) gT0)))))) (seqF (Pv.iteF (orF (tF (b2 (i2 ltI) (aF min2O (consF (vF 3) (consF (vF 4) nilF))) (cF (.int 0)))) (tF (b2 (i2 geI) (aF max2O (consF (vF 3) (consF (vF 4) nilF))) (aF lenO (consF (vF 1) nilF))))) (seqF noF skF) skF) (seqF (Pv.iteF (andF (tF (u1 (fun d => .ok (.bl (!isN d))) (vF 6))) (tF (b2 (i2 ltI) (vF 6) (vF 5)))) (seqF noF skF) skF) skF))) skF)))
def F_check_net : List D → Rz D := fnN 8 u_check_net
def u__law_is_going : En → Rz Fl := (seqF (unpF (vF 0) (gTu 2 (gTc (gN 2) (gTc (gN 3) gT0)))) (seqF (Pv.iteF (tF (b2 neD (aF lenO (consF (vF 1) nilF)) (aF lenO (consF (vF 3) nilF)))) (seqF (retF (cF (.bl false))) skF) skF) (seqF (setF 4 (aF listO (consF (vF 2) nilF))) (seqF (forF (aI zipO (consF (vF 3) (consF (vF 1) nilF))) (gTu 2 (gTc (gTu 5 (gTc (gN 5) (gTc (gN 6) (gTc (gN 7) (gTc (gN 8) (gTc (gN 9) gT0)))))) (gTc (gN 10) gT0))) (seqF (Pv.iteF (orF (tF (b2 (i2 ltI) (vF 10) (vF 7))) (andF (tF (u1 (fun d => .ok (.bl (!isN d))) (vF 8))) (tF (b2 (i2 gtI) (vF 10) (vF 8))))) (seqF (retF (cF (.bl false))) skF) skF) (seqF (stF 4 (vF 5) (b2 (i2 subI) (b2 ixD (vF 4) (vF 5)) (vF 10))) (seqF (stF 4 (vF 6) (b2 (i2 addI) (b2 ixD (vF 4) (vF 6)) (vF 10))) skF)))) (seqF (retF (b2 eqD (vF 4) (compF (lOf (vF 2)) [11] (gN 11) yesF (cF (.int 0))))) skF)))))
def F__law_is_going : List D → Rz D := fnN 12 u__law_is_going
def u__law_cost : En → Rz Fl := (seqF (retF (aF (onInts fun ns => .ok (.int ns.sum)) (consF (compF (aI zipO (consF (b2 ixD (vF 0) (cF (.int 1))) (consF (vF 1) nilF))) [2, 3] (gTu 2 (gTc (gN 2) (gTc (gN 3) gT0))) yesF (b2 (i2 mulI) (b2 ixD (vF 2) (cF (.int 4))) (vF 3))) nilF))) skF)
def F__law_cost : List D → Rz D := fnN 4 u__law_cost
def u__law_bound : En → Rz Fl := (seqF (setF 2 (aF (onInts fun ns => .ok (.int ns.sum)) (consF (compF (aI zipO (consF (b2 ixD (vF 0) (cF (.int 0))) (consF (vF 1) nilF))) [3, 4] (gTu 2 (gTc (gN 3) (gTc (gN 4) gT0))) yesF (b2 (i2 mulI) (vF 3) (vF 4))) nilF))) (seqF (forF (lOf (b2 ixD (vF 0) (cF (.int 1)))) (gTu 5 (gTc (gN 5) (gTc (gN 6) (gTc (gN 7) (gTc (gN 8) (gTc (gN 9) gT0)))))) (seqF (setF 9 (b2 (i2 addI) (b2 (i2 subI) (vF 9) (b2 ixD (vF 1) (vF 5))) (b2 ixD (vF 1) (vF 6)))) (seqF (Pv.iteF (tF (b2 (i2 gtI) (vF 9) (cF (.int 0)))) (seqF (setF 2 (b2 (i2 addI) (vF 2) (b2 (i2 mulI) (vF 9) (vF 7)))) skF) skF) (seqF (Pv.iteF (andF (tF (b2 (i2 ltI) (vF 9) (cF (.int 0)))) (tF (u1 (fun d => .ok (.bl (isN d))) (vF 8)))) (seqF (retF (cF .non)) skF) skF) (seqF (Pv.iteF (tF (b2 (i2 ltI) (vF 9) (cF (.int 0)))) (seqF (setF 2 (b2 (i2 addI) (vF 2) (b2 (i2 mulI) (vF 9) (vF 8)))) skF) skF) skF))))) (seqF (retF (vF 2)) skF)))
def F__law_bound : List D → Rz D := fnN 10 u__law_bound
def u__law_copy_v2 : En → Rz Fl := (seqF (retF (aF tupO (consF (aF listO (consF (b2 ixD (vF 0) (cF (.int 0))) nilF)) (consF (aF listO (consF (b2 ixD (vF 0) (cF (.int 1))) nilF)) nilF)))) skF)
def F__law_copy_v2 : List D → Rz D := fnN 1 u__law_copy_v2
def u__law_way : En → Rz Fl := (seqF (setF 4 (aF (cO 2 F__law_mix) (consF (vF 0) (consF (vF 1) nilF)))) (seqF (setF 5 (b2 (i2 subI) (b2 (i2 modI) (b2 (i2 fdivI) (vF 4) (cF (.int 64))) (b2 (i2 addI) (b2 (i2 mulI) (cF (.int 2)) (vF 3)) (cF (.int 1)))) (vF 3))) (seqF (setF 6 (b2 ixD (aF lstO (consF (b2 (i2 addI) (vF 5) (b2 (i2 modI) (b2 (i2 fdivI) (vF 4) (cF (.int 1024))) (b2 (i2 addI) (vF 3) (cF (.int 2))))) (consF (cF .non) (consF (b2 (i2 addI) (vF 5) (b2 (i2 modI) (b2 (i2 fdivI) (vF 4) (cF (.int 1024))) (cF (.int 2)))) (consF (vF 5) nilF))))) (b2 (i2 modI) (b2 (i2 fdivI) (vF 4) (cF (.int 16))) (cF (.int 4))))) (seqF (setF 7 (b2 (i2 subI) (b2 (i2 modI) (aF (cO 2 F__law_mix) (consF (vF 0) (consF (b2 (i2 addI) (vF 1) (cF (.int 1))) nilF))) (b2 (i2 addI) (b2 (i2 mulI) (cF (.int 2)) (vF 3)) (cF (.int 1)))) (b2 (i2 mulI) (vF 3) (b2 (i2 modI) (b2 (i2 fdivI) (vF 4) (cF (.int 8))) (cF (.int 2)))))) (seqF (retF (aF tupO (consF (b2 (i2 modI) (vF 4) (vF 2)) (consF (b2 (i2 modI) (b2 (i2 fdivI) (aF (cO 2 F__law_mix) (consF (vF 0) (consF (b2 (i2 addI) (vF 1) (cF (.int 1))) nilF))) (cF (.int 64))) (vF 2)) (consF (vF 5) (consF (vF 6) (consF (vF 7) nilF))))))) skF)))))
def F__law_way : List D → Rz D := fnN 8 u__law_way
def u__law_net : En → Rz Fl := (seqF (setF 5 (aF (cO 2 F__law_cell_at) (consF (vF 0) (consF (vF 1) nilF)))) (seqF (setF 6 (b2 (i2 addI) (cF (.int 1)) (b2 (i2 modI) (aF (cO 2 F__law_mix) (consF (vF 5) (consF (cF (.int 0)) nilF))) (vF 2)))) (seqF (setF 7 (aF lstO nilF)) (seqF (forF (aI rng1 (consF (b2 (i2 modI) (aF (cO 2 F__law_mix) (consF (vF 5) (consF (cF (.int 1)) nilF))) (b2 (i2 addI) (vF 3) (cF (.int 1)))) nilF)) (gN 8) (seqF (appF 7 (aF (cO 4 F__law_way) (consF (aF (cO 2 F__law_cell_at) (consF (vF 0) (consF (b2 (i2 addI) (b2 (i2 addI) (vF 1) (cF (.int 1))) (b2 (i2 modI) (vF 8) (cF (.int 6)))) nilF))) (consF (b2 (i2 addI) (cF (.int 2)) (b2 (i2 mulI) (cF (.int 2)) (b2 (i2 fdivI) (vF 8) (cF (.int 6))))) (consF (vF 6) (consF (vF 4) nilF)))))) skF)) (seqF (setF 9 (compF (aI rng1 (consF (vF 6) nilF)) [10] (gN 10) yesF (cF (.int 0)))) (seqF (setF 11 (aF lstO nilF)) (seqF (forF (aI enumO (consF (vF 7) nilF)) (gTu 2 (gTc (gN 8) (gTc (gTu 5 (gTc (gN 12) (gTc (gN 13) (gTc (gN 14) (gTc (gN 15) (gTc (gN 16) gT0)))))) gT0))) (seqF (setF 17 (b2 (i2 modI) (b2 (i2 fdivI) (aF (cO 2 F__law_mix) (consF (vF 5) (consF (b2 (i2 addI) (cF (.int 2)) (b2 (i2 modI) (vF 8) (cF (.int 20)))) nilF))) (cF (.int 8))) (b2 (i2 addI) (vF 4) (cF (.int 1))))) (seqF (setF 18 (b2 (i2 addI) (vF 14) (vF 17))) (seqF (Pv.iteF (tF (u1 (fun d => .ok (.bl (!isN d))) (vF 15))) (seqF (setF 18 (aF min2O (consF (vF 18) (consF (vF 15) nilF)))) skF) skF) (seqF (appF 11 (vF 18)) (seqF (stF 9 (vF 12) (b2 (i2 addI) (b2 ixD (vF 9) (vF 12)) (vF 18))) (seqF (stF 9 (vF 13) (b2 (i2 subI) (b2 ixD (vF 9) (vF 13)) (vF 18))) skF))))))) (seqF (setF 19 (aF (cO 2 F__law_mix) (consF (vF 5) (consF (cF (.int 25)) nilF)))) (seqF (Pv.iteF (tF (b2 eqD (b2 (i2 modI) (vF 19) (cF (.int 3))) (cF (.int 1)))) (seqF (stF 9 (b2 (i2 modI) (b2 (i2 fdivI) (vF 19) (cF (.int 3))) (vF 6)) (b2 (i2 addI) (b2 (i2 addI) (b2 ixD (vF 9) (b2 (i2 modI) (b2 (i2 fdivI) (vF 19) (cF (.int 3))) (vF 6))) (cF (.int 1))) (b2 (i2 modI) (b2 (i2 fdivI) (vF 19) (cF (.int 64))) (cF (.int 3))))) (seqF (stF 9 (b2 (i2 modI) (b2 (i2 fdivI) (vF 19) (cF (.int 8))) (vF 6)) (b2 (i2 subI) (b2 (i2 subI) (b2 ixD (vF 9) (b2 (i2 modI) (b2 (i2 fdivI) (vF 19) (cF (.int 8))) (vF 6))) (cF (.int 1))) (b2 (i2 modI) (b2 (i2 fdivI) (vF 19) (cF (.int 64))) (cF (.int 3))))) skF)) skF) (seqF (retF (aF tupO (consF (aF tupO (consF (vF 9) (consF (vF 7) nilF))) (consF (vF 11) (consF (b2 neD (b2 (i2 modI) (vF 19) (cF (.int 3))) (cF (.int 1))) nilF))))) skF))))))))))
def F__law_net : List D → Rz D := fnN 20 u__law_net
def u_bound : En → Rz Fl := (seqF (exprF (aF (cO 1 F_check_net) (consF (vF 0) nilF))) (seqF (setF 2 (aF (onInts fun ns => .ok (.int ns.sum)) (consF (compF (aI zipO (consF (vF 1) (consF (b2 ixD (vF 0) (cF (.int 0))) nilF))) [3, 4] (gTu 2 (gTc (gN 3) (gTc (gN 4) gT0))) yesF (b2 (i2 mulI) (vF 3) (vF 4))) nilF))) (seqF (forF (lOf (b2 ixD (vF 0) (cF (.int 1)))) (gTu 5 (gTc (gN 5) (gTc (gN 6) (gTc (gN 7) (gTc (gN 8) (gTc (gN 9) gT0)))))) (seqF (setF 10 (b2 (i2 addI) (b2 (i2 subI) (vF 9) (b2 ixD (vF 1) (vF 5))) (b2 ixD (vF 1) (vF 6)))) (seqF (Pv.iteF (andF (tF (b2 (i2 ltI) (vF 10) (cF (.int 0)))) (tF (u1 (fun d => .ok (.bl (isN d))) (vF 8)))) (seqF (retF (cF .non)) skF) skF) (seqF (augF (i2 addI) 2 (b2 (i2 mulI) (vF 10) (Pv.iteF (tF (b2 (i2 geI) (vF 10) (cF (.int 0)))) (vF 7) (vF 8)))) skF)))) (seqF (retF (vF 2)) skF))))
def F_bound : List D → Rz D := fnN 11 u_bound
def u_left_over : En → Rz Fl := (seqF (setF 2 (aF listO (consF (b2 ixD (vF 0) (cF (.int 0))) nilF))) (seqF (forF (aI zipO (consF (b2 ixD (vF 0) (cF (.int 1))) (consF (vF 1) nilF))) (gTu 2 (gTc (gN 3) (gTc (gN 4) gT0))) (seqF (asF (· - ·) 2 1 0 (pV 2) (b2 ixD (vF 3) (cF (.int 0))) (vF 4)) (seqF (asF (· + ·) 2 1 0 (pV 2) (b2 ixD (vF 3) (cF (.int 1))) (vF 4)) skF))) (seqF (retF (vF 2)) skF)))
def F_left_over : List D → Rz D := fnN 5 u_left_over
def u_is_within : En → Rz Fl := (seqF (retF (imF (bV (andF (tF (b2 (i2 geI) (vF 1) (b2 ixD (vF 0) (cF (.int 2))))) (tF (bV (orF (tF (u1 (fun d => .ok (.bl (isN d))) (b2 ixD (vF 0) (cF (.int 3))))) (tF (b2 (i2 leI) (vF 1) (b2 ixD (vF 0) (cF (.int 3)))))))))))) skF)
def F_is_within : List D → Rz D := fnN 2 u_is_within
def u__law_bent : En → Rz Fl := (seqF (setF 2 (aF listO (consF (vF 0) nilF))) (seqF (setF 3 (b2 (i2 modI) (vF 1) (cF (.int 8)))) (seqF (Pv.iteF (tF (b2 neD (vF 2) (aF lstO nilF))) (seqF (setF 4 (b2 (i2 modI) (b2 (i2 fdivI) (vF 1) (cF (.int 8))) (aF lenO (consF (vF 2) nilF)))) (seqF (setF 5 (b2 (i2 modI) (b2 (i2 fdivI) (vF 1) (cF (.int 128))) (aF lenO (consF (vF 2) nilF)))) (seqF (Pv.iteF (tF (b2 (i2 ltI) (vF 3) (cF (.int 2)))) (seqF (stF 2 (vF 4) (b2 (i2 subI) (b2 (i2 addI) (b2 ixD (vF 2) (vF 4)) (cF (.int 1))) (b2 (i2 mulI) (cF (.int 2)) (vF 3)))) skF) skF) (seqF (Pv.iteF (tF (b2 eqD (vF 3) (cF (.int 2)))) (seqF (swF (aF tupO (consF (b2 ixLD (vF 2) (vF 5)) (consF (b2 ixLD (vF 2) (vF 4)) nilF))) (sgF 2 1 0 (pV 2) (vF 4)) (sgF 2 1 0 (pV 2) (vF 5))) skF) skF) (seqF (Pv.iteF (tF (b2 eqD (vF 3) (cF (.int 3)))) (seqF (stF 2 (vF 4) (b2 (i2 addI) (b2 ixD (vF 2) (vF 4)) (cF (.int 1)))) (seqF (stF 2 (vF 5) (b2 (i2 subI) (b2 ixD (vF 2) (vF 5)) (cF (.int 1)))) skF)) skF) (seqF (Pv.iteF (tF (b2 eqD (vF 3) (cF (.int 4)))) (seqF (stF 2 (vF 4) (b2 (i2 addI) (b2 ixD (vF 2) (vF 4)) (cF (.int 1)))) (seqF (stF 2 (vF 5) (b2 (i2 addI) (b2 ixD (vF 2) (vF 5)) (cF (.int 1)))) skF)) skF) (seqF (Pv.iteF (tF (b2 eqD (vF 3) (cF (.int 5)))) (seqF (mF 2 1 0 (pV 2) opPopAt (consF (vF 4) nilF)) skF) skF) (seqF (Pv.iteF (tF (b2 eqD (vF 3) (cF (.int 6)))) (seqF (stF 2 (vF 4) (b2 ixD (aF lstO (consF (b2 (i2 powI) (cF (.int 10)) (cF (.int 39))) (consF (b2 (i2 subI) (cF (.int 0)) (b2 (i2 powI) (cF (.int 10)) (cF (.int 39)))) nilF))) (b2 (i2 modI) (b2 (i2 fdivI) (vF 1) (cF (.int 128))) (cF (.int 2))))) skF) skF) skF)))))))) skF) (seqF (Pv.iteF (tF (b2 eqD (vF 3) (cF (.int 7)))) (seqF (appF 2 (b2 (i2 modI) (b2 (i2 fdivI) (vF 1) (cF (.int 8))) (cF (.int 3)))) skF) skF) (seqF (retF (vF 2)) skF)))))
def F__law_bent : List D → Rz D := fnN 6 u__law_bent
def u_is_going : En → Rz Fl := (seqF (exprF (aF (cO 1 F_check_net) (consF (vF 0) nilF))) (seqF (Pv.iteF (tF (b2 neD (aF lenO (consF (vF 1) nilF)) (aF lenO (consF (b2 ixD (vF 0) (cF (.int 1))) nilF)))) (seqF (retF (cF (.bl false))) skF) skF) (seqF (Pv.iteF (notF (tF (aF allO (consF (compF (aI zipO (consF (b2 ixD (vF 0) (cF (.int 1))) (consF (vF 1) nilF))) [2, 3] (gTu 2 (gTc (gN 2) (gTc (gN 3) gT0))) yesF (aF (cO 2 F_is_within) (consF (vF 2) (consF (vF 3) nilF)))) nilF)))) (seqF (retF (cF (.bl false))) skF) skF) (seqF (retF (aF allO (consF (compF (lOf (aF (cO 2 F_left_over) (consF (vF 0) (consF (vF 1) nilF)))) [4] (gN 4) yesF (b2 eqD (vF 4) (cF (.int 0)))) nilF))) skF))))
def F_is_going : List D → Rz D := fnN 5 u_is_going
def u_cost_of : En → Rz Fl := (seqF (exprF (aF (cO 1 F_check_net) (consF (vF 0) nilF))) (seqF (retF (aF (onInts fun ns => .ok (.int ns.sum)) (consF (compF (aI zipO (consF (b2 ixD (vF 0) (cF (.int 1))) (consF (vF 1) nilF))) [2, 3] (gTu 2 (gTc (gN 2) (gTc (gN 3) gT0))) yesF (b2 (i2 mulI) (b2 ixD (vF 2) (cF (.int 4))) (vF 3))) nilF))) skF))
def F_cost_of : List D → Rz D := fnN 4 u_cost_of
def u__law_turned : En → Rz Fl := (seqF (setF 2 (aF lstO nilF)) (seqF (forF (aI rng1 (consF (vF 1) nilF)) (gN 3) (seqF (mF 2 2 1 (pV 2) opInsert (consF (b2 (i2 modI) (vF 0) (b2 (i2 addI) (vF 3) (cF (.int 1)))) (consF (imF (vF 3)) nilF))) (seqF (setF 0 (b2 (i2 fdivI) (vF 0) (b2 (i2 addI) (vF 3) (cF (.int 1))))) skF))) (seqF (retF (vF 2)) skF)))
def F__law_turned : List D → Rz D := fnN 4 u__law_turned
def u__law_is_lot : En → Rz Fl := (seqF (unpF (vF 0) (gTu 2 (gTc (gN 2) (gTc (gN 3) gT0)))) (seqF (Pv.iteF (orF (tF (b2 eqD (vF 1) (aF lstO nilF))) (tF (b2 neD (aF sortedO (consF (vF 1) nilF)) (compF (aI rng1 (consF (aF lenO (consF (vF 2) nilF)) nilF)) [4] (gN 4) (tF (b2 inD (vF 4) (vF 1))) (vF 4))))) (seqF (retF (cF (.bl false))) skF) skF) (seqF (setF 5 (aF (onInts fun ns => .ok (.int ns.sum)) (consF (compF (lOf (vF 1)) [4] (gN 4) yesF (b2 ixD (vF 2) (vF 4))) nilF))) (seqF (forF (lOf (vF 3)) (gTu 5 (gTc (gN 6) (gTc (gN 7) (gTc (gN 8) (gTc (gN 9) (gTc (gN 10) gT0)))))) (seqF (Pv.iteF (andF (tF (b2 inD (vF 6) (vF 1))) (tF (b2 ninD (vF 7) (vF 1)))) (seqF (Pv.iteF (tF (u1 (fun d => .ok (.bl (isN d))) (vF 9))) (seqF (retF (cF (.bl false))) skF) skF) (seqF (setF 5 (b2 (i2 subI) (vF 5) (vF 9))) skF)) skF) (seqF (Pv.iteF (andF (tF (b2 inD (vF 7) (vF 1))) (tF (b2 ninD (vF 6) (vF 1)))) (seqF (setF 5 (b2 (i2 addI) (vF 5) (vF 8))) skF) skF) skF))) (seqF (retF (b2 (i2 gtI) (vF 5) (cF (.int 0)))) skF)))))
def F__law_is_lot : List D → Rz D := fnN 11 u__law_is_lot
def u__law_is_round : En → Rz Fl := (seqF (setF 2 (b2 ixD (vF 0) (cF (.int 1)))) (seqF (Pv.iteF (orF (tF (b2 eqD (vF 1) (aF lstO nilF))) (tF (b2 neD (aF sortedO (consF (vF 1) nilF)) (compF (aI rng1 (consF (aF lenO (consF (vF 2) nilF)) nilF)) [3] (gN 3) (tF (b2 inD (vF 3) (vF 1))) (vF 3))))) (seqF (retF (cF (.bl false))) skF) skF) (seqF (forF (aI rng1 (consF (aF lenO (consF (vF 1) nilF)) nilF)) (gN 3) (seqF (Pv.iteF (orF (tF (u1 (fun d => .ok (.bl (!isN d))) (b2 ixD (b2 ixD (vF 2) (b2 ixD (vF 1) (vF 3))) (cF (.int 3))))) (tF (b2 neD (b2 ixD (b2 ixD (vF 2) (b2 ixD (vF 1) (b2 (i2 subI) (vF 3) (cF (.int 1))))) (cF (.int 1))) (b2 ixD (b2 ixD (vF 2) (b2 ixD (vF 1) (vF 3))) (cF (.int 0)))))) (seqF (retF (cF (.bl false))) skF) skF) skF)) (seqF (retF (b2 (i2 ltI) (aF (onInts fun ns => .ok (.int ns.sum)) (consF (compF (lOf (vF 1)) [3] (gN 3) yesF (b2 ixD (b2 ixD (vF 2) (vF 3)) (cF (.int 4)))) nilF)) (cF (.int 0)))) skF))))
def F__law_is_round : List D → Rz D := fnN 4 u__law_is_round
def u_is_lot : En → Rz Fl := (seqF (exprF (aF (cO 1 F_check_net) (consF (vF 0) nilF))) (seqF (unpF (vF 0) (gTu 2 (gTc (gN 2) (gTc (gN 3) gT0)))) (seqF (Pv.iteF (orF (tF (b2 eqD (vF 1) (aF lstO nilF))) (orF (tF (b2 neD (u1 lenSetD (vF 1)) (aF lenO (consF (vF 1) nilF)))) (orF (tF (b2 (i2 ltI) (aF (onInts minI) (consF (vF 1) nilF)) (cF (.int 0)))) (tF (b2 (i2 geI) (aF (onInts maxI) (consF (vF 1) nilF)) (aF lenO (consF (vF 2) nilF))))))) (seqF (retF (cF (.bl false))) skF) skF) (seqF (setF 4 (aF (onInts fun ns => .ok (.int ns.sum)) (consF (compF (lOf (vF 1)) [5] (gN 5) yesF (b2 ixD (vF 2) (vF 5))) nilF))) (seqF (forF (lOf (vF 3)) (gTu 5 (gTc (gN 6) (gTc (gN 7) (gTc (gN 8) (gTc (gN 9) (gTc (gN 10) gT0)))))) (seqF (Pv.iteF (andF (tF (b2 inD (vF 6) (vF 1))) (tF (b2 ninD (vF 7) (vF 1)))) (seqF (Pv.iteF (tF (u1 (fun d => .ok (.bl (isN d))) (vF 9))) (seqF (retF (cF (.bl false))) skF) skF) (seqF (augF (i2 subI) 4 (vF 9)) skF)) skF) (seqF (Pv.iteF (andF (tF (b2 inD (vF 7) (vF 1))) (tF (b2 ninD (vF 6) (vF 1)))) (seqF (augF (i2 addI) 4 (vF 8)) skF) skF) skF))) (seqF (retF (b2 (i2 gtI) (vF 4) (cF (.int 0)))) skF))))))
def F_is_lot : List D → Rz D := fnN 11 u_is_lot
def u__law_some : En → Rz Fl := (seqF (setF 2 (compF (aI rng1 (consF (vF 0) nilF)) [3] (gN 3) (tF (b2 eqD (aF (cO 3 F__law_digit) (consF (vF 1) (consF (cF (.int 2)) (consF (vF 3) nilF)))) (cF (.int 1)))) (vF 3))) (seqF (setF 2 (compF (lOf (aF (cO 2 F__law_turned) (consF (b2 (i2 fdivI) (vF 1) (cF (.int 64))) (consF (aF lenO (consF (vF 2) nilF)) nilF)))) [4] (gN 4) yesF (b2 ixLD (vF 2) (vF 4)))) (seqF (setF 5 (b2 (i2 modI) (b2 (i2 fdivI) (vF 1) (cF (.int 4096))) (cF (.int 8)))) (seqF (Pv.iteF (tF (b2 eqD (vF 5) (cF (.int 1)))) (seqF (setF 2 (b2 catI (vF 2) (sl3 slI (vF 2) (fun _ => .ok none) (oiF (cF (.int 1)))))) skF) skF) (seqF (Pv.iteF (tF (b2 eqD (vF 5) (cF (.int 2)))) (seqF (appF 2 (vF 0)) skF) skF) (seqF (Pv.iteF (tF (b2 eqD (vF 5) (cF (.int 3)))) (seqF (appF 2 (b2 (i2 subI) (cF (.int 0)) (cF (.int 1)))) skF) skF) (seqF (Pv.iteF (tF (b2 eqD (vF 5) (cF (.int 4)))) (seqF (setF 2 (aF lrgO (consF (vF 0) nilF))) skF) skF) (seqF (Pv.iteF (tF (b2 eqD (vF 5) (cF (.int 5)))) (seqF (setF 2 (aF lstO nilF)) skF) skF) (seqF (retF (vF 2)) skF)))))))))
def F__law_some : List D → Rz D := fnN 6 u__law_some
def u_is_round : En → Rz Fl := (seqF (exprF (aF (cO 1 F_check_net) (consF (vF 0) nilF))) (seqF (setF 2 (b2 ixD (vF 0) (cF (.int 1)))) (seqF (Pv.iteF (orF (tF (b2 eqD (vF 1) (aF lstO nilF))) (orF (tF (b2 neD (u1 lenSetD (vF 1)) (aF lenO (consF (vF 1) nilF)))) (orF (tF (b2 (i2 ltI) (aF (onInts minI) (consF (vF 1) nilF)) (cF (.int 0)))) (tF (b2 (i2 geI) (aF (onInts maxI) (consF (vF 1) nilF)) (aF lenO (consF (vF 2) nilF))))))) (seqF (retF (cF (.bl false))) skF) skF) (seqF (setF 3 (compF (lOf (vF 1)) [4] (gN 4) yesF (b2 ixD (vF 2) (vF 4)))) (seqF (forF (aI enumO (consF (vF 3) nilF)) (gTu 2 (gTc (gN 5) (gTc (gN 6) gT0))) (seqF (Pv.iteF (orF (tF (u1 (fun d => .ok (.bl (!isN d))) (b2 ixD (vF 6) (cF (.int 3))))) (tF (b2 neD (b2 ixD (b2 ixD (vF 3) (b2 (i2 subI) (vF 5) (cF (.int 1)))) (cF (.int 1))) (b2 ixD (vF 6) (cF (.int 0)))))) (seqF (retF (cF (.bl false))) skF) skF) skF)) (seqF (retF (b2 (i2 ltI) (aF (onInts fun ns => .ok (.int ns.sum)) (consF (compF (lOf (vF 3)) [6] (gN 6) yesF (b2 ixD (vF 6) (cF (.int 4)))) nilF)) (cF (.int 0)))) skF))))))
def F_is_round : List D → Rz D := fnN 7 u_is_round
def u_other_end : En → Rz Fl := (seqF (retF (b2 (i2 subI) (b2 (i2 addI) (vF 0) (cF (.int 1))) (b2 (i2 mulI) (cF (.int 2)) (b2 (i2 modI) (vF 0) (cF (.int 2)))))) skF)
def F_other_end : List D → Rz D := fnN 1 u_other_end
def u__law_whole : En → Rz Fl := (seqF (Pv.iteF (notF (tF (u1 (isiD "list") (vF 0)))) (seqF (retF (cF (.bl false))) skF) skF) (seqF (forF (lOf (vF 0)) (gN 1) (seqF (Pv.iteF (orF (notF (tF (u1 (isiD "int") (vF 1)))) (tF (u1 (isiD "bool") (vF 1)))) (seqF (retF (cF (.bl false))) skF) skF) skF)) (seqF (retF (cF (.bl true))) skF)))
def F__law_whole : List D → Rz D := fnN 2 u__law_whole
def u_shortened : En → Rz Fl := (seqF (unpF (vF 0) (gTu 2 (gTc (gN 1) (gTc (gN 2) gT0)))) (seqF (setF 3 (compF (aI enumO (consF (vF 2) nilF)) [4, 5] (gTu 2 (gTc (gN 4) (gTc (gN 5) gT0))) yesF (b2 (i2 subI) (vF 5) (aF min2O (consF (vF 5) (consF (b2 ixD (vF 2) (aF (cO 1 F_other_end) (consF (vF 4) nilF))) nilF)))))) (seqF (retF (aF tupO (consF (aF listO (consF (vF 1) nilF)) (consF (vF 3) nilF)))) skF)))
def F_shortened : List D → Rz D := fnN 6 u_shortened
def uR__law_spoil (F__law_spoil : List D → Rz (List D)) : En → Rz Fl := (seqF (Pv.iteF (tF (u1 (isi2D "list" "tuple") (vF 0))) (seqF (faF 0 1 140 (seqF (callBF [some (1, 140)] F__law_spoil (consF (vF 1) nilF)) skF)) skF) skF) (seqF (Pv.iteF (tF (u1 (isiD "list") (vF 0))) (seqF (appF 0 (cF .non)) skF) skF) skF))
def FR__law_spoil : Nat → List D → Rz (List D)
  | 0 => fun _ => .no
  | m + 1 => fnB 2 [true] (uR__law_spoil (FR__law_spoil m))
def F__law_spoil : List D → Rz (List D) := FR__law_spoil 8
def u_place_of : En → Rz Fl := (seqF (retF (b2 ixD (b2 ixD (vF 0) (b2 (i2 fdivI) (vF 1) (cF (.int 2)))) (b2 (i2 modI) (vF 1) (cF (.int 2))))) skF)
def F_place_of : List D → Rz D := fnN 2 u_place_of
def u__law_other : En → Rz Fl := (seqF (retF (b2 (i2 subI) (b2 (i2 addI) (vF 0) (cF (.int 1))) (b2 (i2 mulI) (cF (.int 2)) (b2 (i2 modI) (vF 0) (cF (.int 2)))))) skF)
def F__law_other : List D → Rz D := fnN 1 u__law_other
def u__law_place : En → Rz Fl := (seqF (retF (b2 ixD (b2 ixD (vF 0) (b2 (i2 fdivI) (vF 1) (cF (.int 2)))) (b2 (i2 modI) (vF 1) (cF (.int 2))))) skF)
def F__law_place : List D → Rz D := fnN 2 u__law_place
def u__law_same : En → Rz Fl := (seqF (Pv.iteF (orF (notF (tF (u1 (isiD "list") (vF 0)))) (tF (b2 neD (aF lenO (consF (vF 0) nilF)) (aF lenO (consF (vF 1) nilF))))) (seqF (retF (cF (.bl false))) skF) skF) (seqF (forF (aI zipO (consF (vF 0) (consF (vF 1) nilF))) (gTu 2 (gTc (gN 2) (gTc (gN 3) gT0))) (seqF (Pv.iteF (orF (notF (tF (u1 (isiD "list") (vF 2)))) (orF (tF (b2 neD (vF 2) (vF 3))) (tF (b2 neD (compF (lOf (vF 2)) [4] (gN 4) (tF (u1 (isiD "bool") (vF 4))) (vF 4)) (aF lstO nilF))))) (seqF (retF (cF (.bl false))) skF) skF) skF)) (seqF (retF (cF (.bl true))) skF)))
def F__law_same : List D → Rz D := fnN 5 u__law_same
def u__law_is : En → Rz Fl := (seqF (retF (imF (bV (andF (tF (u1 (isiD "int") (vF 0))) (andF (tF (bV (notF (tF (u1 (isiD "bool") (vF 0)))))) (tF (b2 eqD (vF 0) (vF 1)))))))) skF)
def F__law_is : List D → Rz D := fnN 2 u__law_is
def u_behind : En → Rz Fl := (seqF (setF 2 (aF (cO 1 F_other_end) (consF (vF 1) nilF))) (seqF (setF 3 (b2 ixD (b2 ixD (vF 0) (cF (.int 2))) (aF (cO 2 F_place_of) (consF (b2 ixD (vF 0) (cF (.int 1))) (consF (vF 2) nilF))))) (seqF (retF (b2 ixD (vF 3) (b2 (i2 subI) (liF idxI (vF 3) (vF 2)) (cF (.int 1))))) skF)))
def F_behind : List D → Rz D := fnN 4 u_behind
def u__law_behind : En → Rz Fl := (seqF (setF 3 (b2 ixD (vF 1) (aF (cO 2 F__law_place) (consF (vF 0) (consF (aF (cO 1 F__law_other) (consF (vF 2) nilF)) nilF))))) (seqF (retF (b2 ixD (vF 3) (b2 (i2 subI) (liF idxI (vF 3) (aF (cO 1 F__law_other) (consF (vF 2) nilF))) (cF (.int 1))))) skF))
def F__law_behind : List D → Rz D := fnN 4 u__law_behind
def u__law_row : En → Rz Fl := (seqF (setF 1 (compF (aI rng1 (consF (b2 (i2 subI) (vF 0) (cF (.int 1))) nilF)) [2] (gN 2) yesF (aF tupO (consF (vF 2) (consF (b2 (i2 addI) (vF 2) (cF (.int 1))) nilF))))) (seqF (setF 3 (b2 catD (b2 catD (aF lstO (consF (aF lstO (consF (cF (.int 0)) nilF)) nilF)) (compF (aI rng2 (consF (cF (.int 1)) (consF (b2 (i2 subI) (vF 0) (cF (.int 1))) nilF))) [2] (gN 2) yesF (aF lstO (consF (b2 (i2 subI) (b2 (i2 mulI) (cF (.int 2)) (vF 2)) (cF (.int 1))) (consF (b2 (i2 mulI) (cF (.int 2)) (vF 2)) nilF))))) (aF lstO (consF (aF lstO (consF (b2 (i2 subI) (b2 (i2 mulI) (cF (.int 2)) (vF 0)) (cF (.int 3))) nilF)) nilF)))) (seqF (retF (aF tupO (consF (imF (vF 0)) (consF (cvF 1 (vF 1)) (consF (vF 3) nilF))))) skF)))
def F__law_row : List D → Rz D := fnN 4 u__law_row
def u__law_renamed : En → Rz Fl := (seqF (setF 3 (aF (cO 2 F__law_turned) (consF (aF (cO 2 F__law_mix) (consF (vF 2) (consF (cF (.int 0)) nilF))) (consF (aF lenO (consF (vF 1) nilF)) nilF)))) (seqF (setF 4 (aF (cO 2 F__law_turned) (consF (aF (cO 2 F__law_mix) (consF (vF 2) (consF (cF (.int 1)) nilF))) (consF (aF lenO (consF (vF 0) nilF)) nilF)))) (seqF (setF 5 (aF lstO nilF)) (seqF (setF 6 (compF (lOf (vF 0)) [7] (gN 7) yesF (aF tupO (consF (cF (.int 0)) (consF (cF (.int 0)) nilF))))) (seqF (forF (aI enumO (consF (vF 0) nilF)) (gTu 2 (gTc (gN 8) (gTc (gTu 2 (gTc (gN 9) (gTc (gN 10) gT0))) gT0))) (seqF (setF 11 (aF (cO 3 F__law_digit) (consF (aF (cO 2 F__law_mix) (consF (vF 2) (consF (cF (.int 2)) nilF))) (consF (cF (.int 2)) (consF (vF 8) nilF))))) (seqF (stF 6 (b2 ixD (vF 4) (vF 8)) (b2 ixLD (aF lstO (consF (aF tupO (consF (imF (b2 ixD (vF 3) (vF 9))) (consF (imF (b2 ixD (vF 3) (vF 10))) nilF))) (consF (aF tupO (consF (imF (b2 ixD (vF 3) (vF 10))) (consF (imF (b2 ixD (vF 3) (vF 9))) nilF))) nilF))) (vF 11))) (seqF (setF 5 (b2 catD (vF 5) (aF lstO (consF (b2 (i2 addI) (b2 (i2 mulI) (cF (.int 2)) (b2 ixD (vF 4) (vF 8))) (vF 11)) (consF (b2 (i2 subI) (b2 (i2 addI) (b2 (i2 mulI) (cF (.int 2)) (b2 ixD (vF 4) (vF 8))) (cF (.int 1))) (vF 11)) nilF))))) skF)))) (seqF (setF 12 (compF (lOf (vF 1)) [13] (gN 13) yesF (aF lstO nilF))) (seqF (forF (aI enumO (consF (vF 1) nilF)) (gTu 2 (gTc (gN 14) (gTc (gN 13) gT0))) (seqF (setF 15 (b2 (i2 modI) (aF (cO 3 F__law_digit) (consF (aF (cO 2 F__law_mix) (consF (vF 2) (consF (cF (.int 3)) nilF))) (consF (cF (.int 4)) (consF (vF 14) nilF)))) (aF lenO (consF (vF 13) nilF)))) (seqF (stF 12 (b2 ixD (vF 3) (vF 14)) (compF (lOf (b2 catD (sl3 slD (vF 13) (oiF (vF 15)) (fun _ => .ok none)) (sl3 slD (vF 13) (fun _ => .ok none) (oiF (vF 15))))) [16] (gN 16) yesF (b2 ixD (vF 5) (vF 16)))) skF))) (seqF (retF (aF tupO (consF (aF lenO (consF (vF 1) nilF)) (consF (vF 6) (consF (vF 12) nilF))))) skF))))))))
def F__law_renamed : List D → Rz D := fnN 17 u__law_renamed
def u__law_exchanged : En → Rz Fl := (seqF (forF (aI rng1 (consF (b2 (i2 mulI) (b2 (i2 modI) (vF 1) (cF (.int 2))) (b2 (i2 addI) (cF (.int 1)) (b2 (i2 modI) (aF (cO 2 F__law_mix) (consF (vF 1) (consF (cF (.int 0)) nilF))) (cF (.int 3))))) nilF)) (gN 2) (alF 0 3 140 139 (pI 0 (pV 0) (b2 (i2 modI) (aF (cO 2 F__law_mix) (consF (vF 1) (consF (b2 (i2 addI) (cF (.int 1)) (b2 (i2 mulI) (cF (.int 3)) (vF 2))) nilF))) (aF lenO (consF (vF 0) nilF)))) (seqF (setF 4 (b2 (i2 modI) (aF (cO 2 F__law_mix) (consF (vF 1) (consF (b2 (i2 addI) (cF (.int 2)) (b2 (i2 mulI) (cF (.int 3)) (vF 2))) nilF))) (aF lenO (consF (vF 3) nilF)))) (seqF (setF 5 (b2 (i2 modI) (aF (cO 2 F__law_mix) (consF (vF 1) (consF (b2 (i2 addI) (cF (.int 3)) (b2 (i2 mulI) (cF (.int 3)) (vF 2))) nilF))) (aF lenO (consF (vF 3) nilF)))) (seqF (swF (aF tupO (consF (imF (b2 ixD (vF 3) (vF 5))) (consF (imF (b2 ixD (vF 3) (vF 4))) nilF))) (sgF 3 140 139 (pV 3) (vF 4)) (sgF 3 140 139 (pV 3) (vF 5))) skF))))) skF)
def F__law_exchanged : List D → Rz (List D) := fnB 6 [true, false] u__law_exchanged
def u_land_from : En → Rz Fl := (seqF (setF 2 (aF lstO (consF (vF 1) nilF))) (seqF (setF 3 (aF (cO 2 F_behind) (consF (vF 0) (consF (vF 1) nilF)))) (seqF (whF fuel (tF (b2 neD (vF 3) (vF 1))) (seqF (appF 2 (vF 3)) (seqF (setF 3 (aF (cO 2 F_behind) (consF (vF 0) (consF (vF 3) nilF)))) skF))) (seqF (retF (vF 2)) skF))))
def F_land_from : List D → Rz D := fnN 4 u_land_from
def u__law_lands : En → Rz Fl := (seqF (setF 2 (aF lstO nilF)) (seqF (setF 3 (aF lrgO (consF (b2 (i2 mulI) (cF (.int 2)) (aF lenO (consF (vF 0) nilF))) nilF))) (seqF (whF fuel (tF (b2 neD (vF 3) (aF lstO nilF))) (seqF (setF 4 (aF lstO (consF (b2 ixD (vF 3) (cF (.int 0))) nilF))) (seqF (setF 5 (aF (cO 3 F__law_behind) (consF (vF 0) (consF (vF 1) (consF (b2 ixD (vF 3) (cF (.int 0))) nilF))))) (seqF (whF fuel (tF (b2 neD (vF 5) (b2 ixD (vF 4) (cF (.int 0))))) (seqF (appF 4 (vF 5)) (seqF (setF 5 (aF (cO 3 F__law_behind) (consF (vF 0) (consF (vF 1) (consF (vF 5) nilF))))) skF))) (apF 2 4 1 1 (seqF (setF 3 (compF (lOf (vF 3)) [6] (gN 6) (tF (b2 ninD (vF 6) (vF 4))) (vF 6))) skF)))))) (seqF (retF (vF 2)) skF))))
def F__law_lands : List D → Rz D := fnN 7 u__law_lands
def u_lands : En → Rz Fl := (seqF (setF 1 (aF lstO nilF)) (seqF (setF 2 (cF (.dK []))) (seqF (forF (aI rng1 (consF (b2 (i2 mulI) (cF (.int 2)) (aF lenO (consF (b2 ixD (vF 0) (cF (.int 1))) nilF))) nilF)) (gN 3) (seqF (Pv.iteF (tF (b2 dninD (vF 3) (vF 2))) (seqF (appF 1 (aF (cO 2 F_land_from) (consF (vF 0) (consF (vF 3) nilF)))) (seqF (frF 1 4 2 (pI 1 (pV 1) (u1 negD (cF (.int 1)))) (seqF (dputF 2 (vF 4) (cF (.bl true))) skF)) skF)) skF) skF)) (seqF (retF (vF 1)) skF))))
def F_lands : List D → Rz D := fnN 5 u_lands
def u__law_step : En → Rz Fl := (seqF (setF 4 (aF (cI 2 2 F__law_lands) (consF (vF 0) (consF (vF 1) nilF)))) (seqF (setF 5 (b2 ixD (vF 4) (b2 (i2 modI) (vF 2) (aF lenO (consF (vF 4) nilF))))) (seqF (setF 6 (aF (cO 1 F__law_other) (consF (b2 ixD (vF 5) (b2 (i2 modI) (b2 (i2 fdivI) (vF 2) (cF (.int 8))) (aF lenO (consF (vF 5) nilF)))) nilF))) (seqF (setF 7 (aF (cO 1 F__law_other) (consF (b2 ixD (vF 5) (b2 (i2 modI) (b2 (i2 fdivI) (vF 2) (cF (.int 128))) (aF lenO (consF (vF 5) nilF)))) nilF))) (seqF (setF 8 (aF (cI 2 0 F__law_place) (consF (vF 0) (consF (vF 6) nilF)))) (seqF (setF 9 (aF (cI 2 0 F__law_place) (consF (vF 0) (consF (vF 7) nilF)))) (seqF (setF 10 (b2 (i2 mulI) (cF (.int 2)) (aF lenO (consF (vF 0) nilF)))) (seqF (Pv.iteF (andF (tF (b2 eqD (b2 (i2 modI) (b2 (i2 fdivI) (vF 2) (cF (.int 2048))) (cF (.int 3))) (cF (.int 0)))) (andF (tF (b2 (i2 ltI) (aF lenO (consF (vF 1) nilF)) (vF 3))) (tF (b2 (i2 ltI) (aF lenO (consF (b2 ixD (vF 1) (vF 8)) nilF)) (cF (.int 4)))))) (seqF (mF 1 140 138 (pI 1 (pV 1) (vF 8)) opInsert (consF (liF idxI (b2 ixD (vF 1) (vF 8)) (vF 6)) (consF (imF (vF 10)) nilF))) (seqF (appF 0 (aF tupO (consF (imF (vF 8)) (consF (aF lenO (consF (vF 1) nilF)) nilF)))) (seqF (appF 1 (aF lstO (consF (b2 (i2 addI) (vF 10) (cF (.int 1))) nilF))) skF))) (seqF (Pv.iteF (andF (tF (b2 (i2 ltI) (aF lenO (consF (b2 ixD (vF 1) (vF 8)) nilF)) (b2 (i2 subI) (cF (.int 4)) (aF intO (consF (b2 eqD (vF 8) (vF 9)) nilF))))) (tF (b2 (i2 ltI) (aF lenO (consF (b2 ixD (vF 1) (vF 9)) nilF)) (b2 (i2 subI) (cF (.int 4)) (aF intO (consF (b2 eqD (vF 8) (vF 9)) nilF)))))) (seqF (mF 1 140 138 (pI 1 (pV 1) (vF 8)) opInsert (consF (liF idxI (b2 ixD (vF 1) (vF 8)) (vF 6)) (consF (imF (vF 10)) nilF))) (seqF (mF 1 140 138 (pI 1 (pV 1) (vF 9)) opInsert (consF (liF idxI (b2 ixD (vF 1) (vF 9)) (vF 7)) (consF (b2 (i2 addI) (vF 10) (cF (.int 1))) nilF))) (seqF (appF 0 (aF tupO (consF (imF (vF 8)) (consF (imF (vF 9)) nilF)))) skF))) skF) skF)) skF))))))))
def F__law_step : List D → Rz (List D) := fnB 11 [true, true, false, false] u__law_step
def u_lands_by_ends : En → Rz Fl := (seqF (setF 1 (compF (aI rng1 (consF (b2 (i2 mulI) (cF (.int 2)) (aF lenO (consF (b2 ixD (vF 0) (cF (.int 1))) nilF))) nilF)) [2] (gN 2) yesF (cF (.int 0)))) (seqF (forF (aI enumO (consF (aF (cO 1 F_lands) (consF (vF 0) nilF)) nilF)) (gTu 2 (gTc (gN 3) (gTc (gN 4) gT0))) (seqF (forF (lOf (vF 4)) (gN 2) (seqF (stF 1 (vF 2) (imF (vF 3))) skF)) skF)) (seqF (retF (vF 1)) skF)))
def F_lands_by_ends : List D → Rz D := fnN 5 u_lands_by_ends
def u__law_map : En → Rz Fl := (seqF (setF 3 (aF (cO 2 F__law_cell_at) (consF (vF 0) (consF (cF (.int 0)) nilF)))) (seqF (setF 4 (aF lstO (consF (aF tupO (consF (cF (.int 0)) (consF (cF (.int 1)) nilF))) nilF))) (seqF (setF 5 (aF lstO (consF (aF lstO (consF (cF (.int 0)) nilF)) (consF (aF lstO (consF (cF (.int 1)) nilF)) nilF)))) (seqF (Pv.iteF (tF (b2 eqD (b2 (i2 modI) (aF (cO 2 F__law_mix) (consF (vF 3) (consF (cF (.int 0)) nilF))) (cF (.int 4))) (cF (.int 1)))) (seqF (setF 4 (aF lstO (consF (aF tupO (consF (cF (.int 0)) (consF (cF (.int 0)) nilF))) nilF))) (seqF (setF 5 (aF lstO (consF (aF lstO (consF (cF (.int 0)) (consF (cF (.int 1)) nilF))) nilF))) skF)) skF) (seqF (forF (aI rng1 (consF (b2 (i2 modI) (aF (cO 2 F__law_mix) (consF (vF 3) (consF (cF (.int 1)) nilF))) (b2 (i2 addI) (vF 1) (cF (.int 1)))) nilF)) (gN 6) (seqF (callBF [some (4, 1), some (5, 2), none, none] F__law_step (consF (vF 4) (consF (vF 5) (consF (aF (cO 2 F__law_mix) (consF (aF (cO 2 F__law_cell_at) (consF (vF 0) (consF (b2 (i2 addI) (cF (.int 2)) (b2 (i2 modI) (vF 6) (cF (.int 6)))) nilF))) (consF (b2 (i2 addI) (cF (.int 4)) (vF 6)) nilF))) (consF (vF 2) nilF))))) skF)) (seqF (retF (aF (cI 3 2 F__law_renamed) (consF (vF 4) (consF (vF 5) (consF (aF (cO 2 F__law_cell_at) (consF (vF 0) (consF (cF (.int 1)) nilF))) nilF))))) skF))))))
def F__law_map : List D → Rz D := fnN 7 u__law_map
def u_land_of : En → Rz Fl := (seqF (retF (b2 ixD (aF (cO 1 F_lands_by_ends) (consF (vF 0) nilF)) (vF 1))) skF)
def F_land_of : List D → Rz D := fnN 2 u_land_of
def u__law_ring : En → Rz Fl := (seqF (setF 1 (aF lstO nilF)) (seqF (setF 2 (aF lstO nilF)) (seqF (forF (aI rng1 (consF (vF 0) nilF)) (gN 3) (seqF (setF 1 (b2 catI (vF 1) (aF lstO (consF (aF tupO (consF (vF 3) (consF (b2 (i2 modI) (b2 (i2 addI) (vF 3) (cF (.int 1))) (vF 0)) nilF))) (consF (aF tupO (consF (vF 3) (consF (b2 (i2 modI) (b2 (i2 addI) (vF 3) (cF (.int 1))) (vF 0)) nilF))) nilF))))) (seqF (setF 4 (b2 (i2 mulI) (cF (.int 4)) (b2 (i2 modI) (b2 (i2 subI) (b2 (i2 addI) (vF 3) (vF 0)) (cF (.int 1))) (vF 0)))) (seqF (appF 2 (aF lstO (consF (b2 (i2 mulI) (cF (.int 4)) (vF 3)) (consF (b2 (i2 addI) (b2 (i2 mulI) (cF (.int 4)) (vF 3)) (cF (.int 2))) (consF (b2 (i2 addI) (vF 4) (cF (.int 1))) (consF (b2 (i2 addI) (vF 4) (cF (.int 3))) nilF)))))) skF)))) (seqF (retF (aF tupO (consF (imF (vF 0)) (consF (cvF 1 (vF 1)) (consF (vF 2) nilF))))) skF))))
def F__law_ring : List D → Rz D := fnN 5 u__law_ring
def u__law_copied : En → Rz Fl := (seqF (retF (aF tupO (consF (b2 ixD (vF 0) (cF (.int 0))) (consF (aF listO (consF (b2 ixD (vF 0) (cF (.int 1))) nilF)) (consF (compF (lOf (b2 ixD (vF 0) (cF (.int 2)))) [1] (gN 1) yesF (aF listO (consF (vF 1) nilF))) nilF))))) skF)
def F__law_copied : List D → Rz D := fnN 2 u__law_copied
def u__law_net_of : En → Rz Fl := (seqF (unpF (vF 0) (gTu 3 (gTc (gN 3) (gTc (gN 4) (gTc (gN 5) gT0))))) (seqF (setF 6 (aF (cO 2 F__law_lands) (consF (vF 4) (consF (vF 5) nilF)))) (seqF (setF 7 (cF (.dK []))) (seqF (forF (aI enumO (consF (vF 6) nilF)) (gTu 2 (gTc (gN 8) (gTc (gN 9) gT0))) (seqF (forF (lOf (vF 9)) (gN 10) (seqF (dputF 7 (vF 10) (b2 (i2 addI) (vF 3) (vF 8))) skF)) skF)) (seqF (setF 11 (b2 catD (compF (aI rng1 (consF (vF 3) nilF)) [12] (gN 12) yesF (cF (.int 4))) (compF (lOf (vF 6)) [9] (gN 9) yesF (b2 (i2 subI) (cF (.int 4)) (b2 (i2 mulI) (cF (.int 2)) (aF lenO (consF (vF 9) nilF))))))) (seqF (stF 11 (b2 (i2 addI) (vF 3) (vF 1)) (b2 (i2 subI) (b2 ixD (vF 11) (b2 (i2 addI) (vF 3) (vF 1))) (cF (.int 8)))) (seqF (setF 13 (aF lstO nilF)) (seqF (forF (aI rng1 (consF (b2 (i2 mulI) (cF (.int 2)) (aF lenO (consF (vF 4) nilF))) nilF)) (gN 10) (seqF (setF 14 (b2 ixD (b2 ixD (vF 2) (cF (.int 2))) (vF 10))) (seqF (setF 15 (b2 ixD (aF lstO (consF (vF 14) (consF (cF (.int 1)) nilF))) (aF intO (consF (u1 (fun d => .ok (.bl (isN d))) (vF 14)) nilF)))) (seqF (setF 16 (b2 ixD (aF lstO (consF (vF 14) (consF (cF (.int 4)) nilF))) (aF intO (consF (u1 (fun d => .ok (.bl (isN d))) (vF 14)) nilF)))) (seqF (appF 13 (aF tupO (consF (imF (aF (cO 2 F__law_place) (consF (vF 4) (consF (aF (cO 1 F__law_other) (consF (vF 10) nilF)) nilF)))) (consF (imF (b2 dgetD (vF 7) (vF 10))) (consF (imF (vF 15)) (consF (imF (vF 16)) (consF (cF (.int 0)) nilF))))))) skF))))) (seqF (forF (aI rng1 (consF (b2 (i2 mulI) (cF (.int 2)) (aF lenO (consF (vF 4) nilF))) nilF)) (gN 10) (seqF (appF 13 (aF tupO (consF (imF (b2 dgetD (vF 7) (vF 10))) (consF (imF (b2 dgetD (vF 7) (aF (cO 1 F__law_other) (consF (vF 10) nilF)))) (consF (cF (.int 0)) (consF (imF (b2 ixD (b2 ixD (vF 2) (cF (.int 1))) (b2 (i2 fdivI) (vF 10) (cF (.int 2))))) (consF (imF (b2 ixD (b2 ixD (vF 2) (cF (.int 0))) (b2 (i2 fdivI) (vF 10) (cF (.int 2))))) nilF))))))) skF)) (seqF (retF (aF tupO (consF (vF 11) (consF (vF 13) nilF)))) skF))))))))))
def F__law_net_of : List D → Rz D := fnN 17 u__law_net_of
def u_net_of : En → Rz Fl := (seqF (unpF (vF 0) (gTu 3 (gTc (gN 3) (gTc (gN 4) (gTc (gN 5) gT0))))) (seqF (unpF (vF 2) (gTu 3 (gTc (gN 6) (gTc (gN 7) (gTc (gN 8) gT0))))) (seqF (setF 9 (aF (cO 1 F_lands_by_ends) (consF (vF 0) nilF))) (seqF (setF 10 (compF (aI rng1 (consF (vF 3) nilF)) [11] (gN 11) yesF (cF (.int 4)))) (seqF (forF (aI enumO (consF (aF (cO 1 F_lands) (consF (vF 0) nilF)) nilF)) (gTu 2 (gTc (gN 12) (gTc (gN 13) gT0))) (seqF (appF 10 (b2 (i2 subI) (b2 (i2 subI) (cF (.int 4)) (b2 (i2 mulI) (cF (.int 2)) (aF lenO (consF (vF 13) nilF)))) (b2 (i2 mulI) (cF (.int 8)) (aF intO (consF (b2 eqD (vF 12) (vF 1)) nilF))))) skF)) (seqF (setF 14 (aF lstO nilF)) (seqF (forF (aI enumO (consF (vF 8) nilF)) (gTu 2 (gTc (gN 15) (gTc (gN 16) gT0))) (seqF (unpF (Pv.iteF (tF (u1 (fun d => .ok (.bl (isN d))) (vF 16))) (aF tupO (consF (cF (.int 1)) (consF (cF (.int 4)) nilF))) (aF tupO (consF (vF 16) (consF (vF 16) nilF)))) (gTu 2 (gTc (gN 17) (gTc (gN 18) gT0)))) (seqF (appF 14 (aF tupO (consF (imF (aF (cO 2 F_place_of) (consF (vF 4) (consF (aF (cO 1 F_other_end) (consF (vF 15) nilF)) nilF)))) (consF (b2 (i2 addI) (vF 3) (b2 ixD (vF 9) (vF 15))) (consF (imF (vF 17)) (consF (imF (vF 18)) (consF (cF (.int 0)) nilF))))))) skF))) (seqF (forF (aI rng1 (consF (b2 (i2 mulI) (cF (.int 2)) (aF lenO (consF (vF 4) nilF))) nilF)) (gN 15) (seqF (appF 14 (aF tupO (consF (b2 (i2 addI) (vF 3) (b2 ixD (vF 9) (vF 15))) (consF (b2 (i2 addI) (vF 3) (b2 ixD (vF 9) (aF (cO 1 F_other_end) (consF (vF 15) nilF)))) (consF (cF (.int 0)) (consF (imF (b2 ixD (vF 7) (b2 (i2 fdivI) (vF 15) (cF (.int 2))))) (consF (imF (b2 ixD (vF 6) (b2 (i2 fdivI) (vF 15) (cF (.int 2))))) nilF))))))) skF)) (seqF (retF (aF tupO (consF (vF 10) (consF (vF 14) nilF)))) skF)))))))))
def F_net_of : List D → Rz D := fnN 19 u_net_of
def u_is_flat : En → Rz Fl := (seqF (retF (b2 eqD (b2 (i2 addI) (b2 ixD (vF 0) (cF (.int 0))) (aF lenO (consF (aF (cO 1 F_lands) (consF (vF 0) nilF)) nilF))) (b2 (i2 addI) (aF lenO (consF (b2 ixD (vF 0) (cF (.int 1))) nilF)) (cF (.int 2))))) skF)
def F_is_flat : List D → Rz D := fnN 1 u_is_flat
end Lib

set_option Elab.async false
set_option linter.all false
set_option maxRecDepth 100000
/-! What the shared defs tell, in plain Lean. -/
namespace Lib
open PySem L2 Pv

theorem cell_at (ns : List Int) (k : Int) (hk : 0 ≤ k) : F__law_cell_at [.fzl (ns.map .int), .int k] = .ok (.int (ns.getD k.toNat 0)) := by
  refine fn_of_wp ?_
  refine wp_seq (wp_if (b := decide (k < (ns.length : Int))) (by simp [ini]) (fun h => ?_) fun h => ?_)
  · have h := of_decide_eq_true h
    obtain ⟨j, rfl⟩ : ∃ j : Nat, k = (j : Int) := ⟨k.toNat, by omega⟩
    have hj : j < ns.length := by omega
    refine wp_seq (wp_ret (d := .int ns[j]) ?_ ?_)
    · simp [ini]
      exact ixD_fzl rfl (by rw [List.getElem?_map, List.getElem?_eq_getElem hj]; rfl)
    · simp [List.getD_eq_getElem?_getD, hj]
  · refine wp_sk ?_
    have h := of_decide_eq_false h
    refine wp_seq (wp_ret (d := .int 0) rfl ?_)
    obtain ⟨j, rfl⟩ : ∃ j : Nat, k = (j : Int) := ⟨k.toNat, by omega⟩
    have hj : ¬ j < ns.length := by omega
    simp [List.getD_eq_getElem?_getD, hj]
theorem fn_int {n : Nat} {u : En → Rz Fl} {ds : List D} {Q : Int → Prop} (h : wp (u (ini n ds)) (fun _ => False) fun d => ∃ v, d = .int v ∧ Q v) : ∃ v, fnN n u ds = .ok (.int v) ∧ Q v := by
  obtain ⟨x, h1, v, rfl, h2⟩ := fn_ex (Q := fun d => ∃ v, d = .int v ∧ Q v) (wp_mono h (fun _ z => z.elim) fun _ z => z)
  exact ⟨v, h1, h2⟩
@[simp] theorem pow18 : powI 10 18 = .ok (.int 1000000000000000000) := rfl
@[simp] theorem pow6 : powI 10 6 = .ok (.int 1000000) := rfl
theorem rng1_ok {n : Int} (h : n ≤ 1000000000) (h0 : 0 ≤ n) : rng1 [.int n] = .ok (upto 0 n) := by
  unfold rng1; simp only; rw [if_pos (by omega)]
theorem upto_get {n : Int} {j : Nat} {d : D} (h : (upto 0 n)[j]? = some d) : d = .int (j : Int) ∧ (j : Int) < n := by
  unfold upto at h
  rw [List.getElem?_map] at h
  cases hj : (List.range (n - 0).toNat)[j]? with
  | none => rw [hj] at h; cases h
  | some i =>
    obtain ⟨h1, h2⟩ := List.getElem?_eq_some_iff.mp hj
    rw [List.getElem_range] at h2
    rw [List.length_range] at h1
    subst h2
    rw [hj] at h
    cases h
    exact ⟨by show D.int (0 + (j : Int)) = _; rw [Int.zero_add], by omega⟩
@[simp] theorem upto_len {n : Int} : (upto 0 n).length = n.toNat := by unfold upto; simp
theorem mix_ex (s k : Int) (hk : 0 ≤ k) (hk2 : k ≤ 1000000) : ∃ v, F__law_mix [.int s, .int k] = .ok (.int v) ∧ 0 ≤ v := by
  refine fn_int ?_
  refine wp_seq (wp_if (b := decide (1000000000000000000 ≤ s)) (by simp [ini]) (fun h => ?_) fun h => ?_)
  · refine wp_seq (wp_for (ds := upto 0 k) (by simp [ini, rng1_ok (n := k) (by omega) hk]) (fun _ e => ∃ s o, e = [some (.int s), some (.int k), o, none]) ⟨s, none, rfl⟩ ?_ ?_)
    · rintro j d _ hd ⟨s, o, rfl⟩
      refine ⟨_, rfl, wp_seq (wp_set (d := .int (s / 1000000)) (by simp [fdivI_pos]) (wp_sk ⟨_, _, rfl⟩))⟩
    · rintro _ ⟨s, o, rfl⟩
      exact wp_seq (wp_ret (d := .int (s % 1000000)) (by simp [modI_pos]) ⟨_, rfl, by omega⟩)
  · refine wp_sk (wp_seq (wp_set (d := .int (((s % 1000003 + k * k * 7919 + k) * 48271) % 2147483629)) ?_ ?_))
    · simp (disch := omega) [ini, modI_pos, mulI_l, mulI_r]
    · generalize hx : (s % 1000003 + k * k * 7919 + k) * 48271 % 2147483629 = x
      refine wp_seq (wp_set (d := .int (x * x % 2147483587)) ?_ ?_)
      · simp (disch := omega) [ini, modI_pos, mulI_l]
      · generalize hy : x * x % 2147483587 = y
        refine wp_seq (wp_ret (d := .int (y * (y + 2) % 2147483579 / 7)) ?_ ⟨_, rfl, by omega⟩)
        simp (disch := omega) [ini, modI_pos, mulI_l, fdivI_pos]
theorem digit_ex (n b k : Int) (hn : 0 ≤ n) (hb : 0 < b) (hb2 : b < 1073741824) (hk : 0 ≤ k) (hk2 : k ≤ 1000000) : ∃ v, F__law_digit [.int n, .int b, .int k] = .ok (.int v) ∧ 0 ≤ v := by
  refine fn_int ?_
  refine wp_seq (wp_for (ds := upto 0 k) (by simp [ini, rng1_ok (n := k) (by omega) hk]) (fun _ e => ∃ n o, e = [some (.int n), some (.int b), some (.int k), o]) ⟨n, none, rfl⟩ ?_ ?_)
  · rintro j d _ hd ⟨s, o, rfl⟩
    refine ⟨_, rfl, wp_seq (wp_set (d := .int (s / b)) (by simp (disch := omega) [fdivI_pos]) (wp_sk ⟨_, _, rfl⟩))⟩
  · rintro _ ⟨s, o, rfl⟩
    exact wp_seq (wp_ret (d := .int (s % b)) (by simp (disch := omega) [modI_pos]) ⟨_, rfl, Int.emod_nonneg _ (by omega)⟩)
/-- a number or none -/
def nD : Option Int → D
  | none => .non
  | some i => .int i
@[simp] theorem imm_nD (o : Option Int) : imm (nD o) = true := by cases o <;> rfl
@[simp] theorem isN_nD (o : Option Int) : isN (nD o) = o.isNone := by cases o <;> rfl
@[simp] theorem okQ_nD (o : Option Int) (n : Nat) : okQ (nD o) n = true := by cases o <;> rfl
theorem okQs_nD (os : List (Option Int)) (n : Nat) : okQs (os.map nD) n = true := by
  induction os with
  | nil => rfl
  | cons a os ih => rw [List.map_cons, okQs, ih, okQ_nD]; rfl
@[simp] theorem lstO_4 (a b c d : D) : lstO [a, b, c, d] = .ok (.lst [a, b, c, d]) := rfl
@[simp] theorem lstO_0 : lstO [] = .ok (.lst []) := rfl
@[simp] theorem tupO_3 (a b c : D) : tupO [a, b, c] = .ok (.tup [a, b, c]) := rfl
@[simp] theorem tupO_2 (a b : D) : tupO [a, b] = .ok (.tup [a, b]) := rfl
@[simp] theorem cO_ap1 (F : List D → Rz D) (a : D) : cO 1 F [a] = F [a] := rfl
@[simp] theorem cO_ap2 (F : List D → Rz D) (a b : D) : cO 2 F [a, b] = F [a, b] := rfl
@[simp] theorem cO_ap3 (F : List D → Rz D) (a b c : D) : cO 3 F [a, b, c] = F [a, b, c] := rfl
/-- wishes: weights, bars and sets for n ties -/
def wD (ws : List Int) (bs ss : List (Option Int)) : D := .tup [.lst (ws.map .int), .lst (bs.map nD), .lst (ss.map nD)]
theorem wishes_ex (ts : List D) (s b : Int) (hb : b = 0 ∨ b = 1) (hl : ts.length < 10000) : ∃ ws bs ss, F__law_wishes [.lst ts, .int s, .int b] = .ok (wD ws bs ss) ∧ ws.length = ts.length ∧ bs.length = ts.length ∧ ss.length = 2 * ts.length ∧ ∀ w ∈ ws, 0 ≤ w ∧ w ≤ 1000 := by
  have := fn_ex (u := u__law_wishes) (n := 9) (ds := [.lst ts, .int s, .int b]) (Q := fun d => ∃ ws bs ss, d = wD ws bs ss ∧ ws.length = ts.length ∧ bs.length = ts.length ∧ ss.length = 2 * ts.length ∧ ∀ w ∈ ws, 0 ≤ w ∧ w ≤ 1000) ?_
  · obtain ⟨x, h1, ws, bs, ss, rfl, h⟩ := this
    exact ⟨ws, bs, ss, h1, h⟩
  refine wp_seq (wp_set (d := .lst []) (by simp) (wp_seq (wp_set (d := .lst []) (by simp) (wp_seq (wp_set (d := .lst []) (by simp) ?_)))))
  refine wp_seq (wp_for (ds := upto 0 (ts.length : Int)) (by simp [ini, rng1_ok (n := (ts.length : Int)) (by omega) (by omega)]) (fun j e => ∃ ws bs ss o1 o2 o3, e = [some (.lst ts), some (.int s), some (.int b), some (.lst (ws.map .int)), some (.lst (bs.map nD)), some (.lst (ss.map nD)), o1, o2, o3] ∧ ws.length = j ∧ bs.length = j ∧ ss.length = 2 * j ∧ ∀ w ∈ ws, 0 ≤ w ∧ w ≤ 1000) ⟨[], [], [], none, none, none, rfl, rfl, rfl, rfl, by simp⟩ ?_ ?_)
  · rintro j d _ hd ⟨ws, bs, ss, o1, o2, o3, rfl, hw, hbs, hss, hwb⟩
    obtain ⟨rfl, hj⟩ := upto_get hd
    refine ⟨_, rfl, ?_⟩
    obtain ⟨v, hv, hv0⟩ := mix_ex s j (by omega) (by omega)
    refine wp_seq (wp_set (d := .int v) (by simp [hv]) ?_)
    obtain ⟨w, hw1, ⟨w, rfl, hwv⟩⟩ := pick_ex (P := fun d => ∃ i : Int, d = .int i ∧ 0 ≤ i ∧ i ≤ 1000) (ds := [.int 1, .int 1, .int (v / 4 % 4), .int (v / 4 % 1001)]) (k := v % 4) (by omega) (by simp; omega) (by simp; omega)
    refine wp_seq (wp_app (d := .int w) (by simp; rfl) (by simp [fdivI_pos, modI_pos, hw1]) (by simp [lim]; omega) ?_)
    obtain ⟨c, hc1, ⟨c, rfl⟩⟩ := pick_ex (P := fun d => ∃ o : Option Int, d = nD o) (ds := [.non, .non, .int (v / 64 % 3), .int (v / 64 % 41)]) (k := v / 16 % 4 * b) (by rcases hb with rfl | rfl <;> omega) (by rcases hb with rfl | rfl <;> simp <;> omega) (by simp; exact ⟨⟨none, rfl⟩, ⟨some _, rfl⟩, ⟨some _, rfl⟩⟩)
    refine wp_seq (wp_app (d := nD c) (by simp; rfl) (by simp (disch := omega) [fdivI_pos, modI_pos, mulI_l, hc1]) (by simp [lim]; omega) ?_)
    simp only [set_0, set_1, set_2, set_3, set_4, set_5, set_6, set_7, set_8]
    refine wp_seq (wp_for (ds := upto 0 2) (by simp [rng1_ok (n := 2) (by omega) (by omega)]) (fun i e => ∃ ss o3, e = [some (.lst ts), some (.int s), some (.int b), some (.lst (ws.map .int ++ [.int w])), some (.lst (bs.map nD ++ [nD c])), some (.lst (ss.map nD)), some (.int j), some (.int v), o3] ∧ ss.length = 2 * j + i) ⟨ss, o3, rfl, by omega⟩ ?_ ?_)
    · rintro i d _ hd ⟨ss, o3, rfl, hss⟩
      obtain ⟨rfl, hi⟩ := upto_get hd
      refine ⟨_, rfl, ?_⟩
      refine wp_seq (wp_app (d := .non) (by simp; rfl) (by simp) (by simp [lim]; omega) ?_)
      obtain ⟨x, hx, hx0⟩ := digit_ex (v / 1024) 4 i (by omega) (by omega) (by omega) (by omega) (by omega)
      refine wp_seq (wp_if (b := b == 1 && x == 1) ?_ (fun h => ?_) fun h => ?_)
      · rcases hb with rfl | rfl <;> simp [fdivI_pos, hx]
      · obtain ⟨y, hy, hy0⟩ := digit_ex (v / 4096) 8 i (by omega) (by omega) (by omega) (by omega) (by omega)
        refine wp_seq (wp_st (ds := ss.map nD ++ [.non]) (d := .int (1 + y % 4)) (k := 2 * j + i) (j := ss.length) (by simp [fdivI_pos, modI_pos, hy]) (by simp) (by simp (disch := omega) [mulI_l]) (by omega) (by simp) (wp_sk (wp_sk ?_)))
        refine ⟨ss ++ [some (1 + y % 4)], some (.int i), ?_, by simp; omega⟩
        simp [nD]
      · refine wp_sk (wp_sk ⟨ss ++ [none], some (.int i), ?_, by simp; omega⟩)
        simp [nD]
    · rintro _ ⟨ss, o3, rfl, hss⟩
      simp at hss
      exact wp_sk ⟨ws ++ [w], bs ++ [c], ss, _, _, _, by simp; exact ⟨rfl, rfl, rfl⟩, by simp; omega, by simp; omega, by omega, fun x hx => (List.mem_append.mp hx).elim (hwb x) fun h => (List.mem_singleton.mp h) ▸ hwv⟩
  · rintro _ ⟨ws, bs, ss, o1, o2, o3, rfl, hw, hbs, hss, hwb⟩
    simp at hw hbs hss
    refine wp_seq (wp_ret (d := wD ws bs ss) (by simp [wD]) ⟨ws, bs, ss, rfl, hw, hbs, hss, hwb⟩)
end Lib

set_option Elab.async false
set_option linter.all false
set_option maxRecDepth 100000
namespace Lib
open PySem L2 Pv
/-- a shape: corners and lefts -/
def sD (cs ls : List Int) : D := .tup [.lst (cs.map .int), .lst (ls.map .int)]
def turnsV (ls : List Int) : List Int := (List.range (ls.length / 2)).map fun k => ls.getD (2 * k) 0 + ls.getD (2 * k + 1) 0
theorem ixD_ints {ns : List Int} {k : Int} {j : Nat} (hk : k = (j : Int)) (h : j < ns.length) : ixD (.lst (ns.map .int)) (.int k) = .ok (.int (ns.getD j 0)) := by
  refine ixD_lst hk ?_
  rw [List.getElem?_map, List.getElem?_eq_getElem h, List.getD_eq_getElem?_getD, List.getElem?_eq_getElem h]; rfl
theorem ixD_nDs {ns : List (Option Int)} {k : Int} {j : Nat} (hk : k = (j : Int)) (h : j < ns.length) : ixD (.lst (ns.map nD)) (.int k) = .ok (nD (ns.getD j none)) := by
  refine ixD_lst hk ?_
  rw [List.getElem?_map, List.getElem?_eq_getElem h, List.getD_eq_getElem?_getD, List.getElem?_eq_getElem h]; rfl
theorem upto_nat (n : Nat) : upto 0 (n : Int) = (List.range n).map fun (i : Nat) => .int (i : Int) := by
  unfold upto; simp
theorem turns_eq (cs ls : List Int) (h : ls.length ≤ 100000) : F_turns [sD cs ls] = .ok (.lst ((turnsV ls).map .int)) := by
  refine fn_of_wp ?_
  refine wp_seq (wp_set (d := .lst (ls.map .int)) (by simp [ini, sD]) (wp_seq (wp_ret ?_ rfl)))
  rw [turnsV, List.map_map]
  refine comp_F (gg := fun (i : Nat) => .int (i : Int)) (xs := List.range (ls.length / 2)) ?_ (by simp [lim]; omega) fun k hk => ?_
  · have h1 : fdivI (ls.length : Int) 2 = .ok (.int ((ls.length / 2 : Nat) : Int)) := by rw [fdivI_pos (by omega) (by omega)]; rfl
    generalize hm : ls.length / 2 = m at h1 ⊢
    simp [ini, h1, rng1_ok (n := (m : Int)) (by omega) (by omega), upto_nat]
  · have hk := List.mem_range.mp hk
    refine ⟨_, rfl, ?_⟩
    have h1 := ixD_ints (ns := ls) (k := 2 * (k : Int)) (j := 2 * k) (by omega) (by omega)
    have h2 := ixD_ints (ns := ls) (k := 2 * (k : Int) + 1) (j := 2 * k + 1) (by omega) (by omega)
    have h3 : mulI 2 (k : Int) = .ok (.int (2 * k)) := mulI_l (by omega)
    simp [ini, ewipe, h1, h2, h3]
@[simp] theorem turnsV_len (ls : List Int) : (turnsV ls).length = ls.length / 2 := by simp [turnsV]
theorem dlt (a b : Int) : decide (a < b) = !decide (b ≤ a) := by by_cases h : a < b <;> simp [h] <;> omega
def okB (p : Option Int × Int) : Bool := match p.1 with
  | none => true
  | some b => decide (p.2 ≤ b)
def okS (p : Option Int × Int) : Bool := match p.1 with
  | none => true
  | some s => s == p.2
def keepsV (bs ss : List (Option Int)) (cs ls : List Int) : Bool := (bs.zip (turnsV ls)).all okB && (ss.zip cs).all okS
theorem keeps_eq (ws : List Int) (bs ss : List (Option Int)) (cs ls : List Int) (h : ls.length ≤ 100000) (hs : ss.length ≤ 100000) : F_keeps [wD ws bs ss, sD cs ls] = .ok (.bl (keepsV bs ss cs ls)) := by
  refine fn_of_wp ?_
  refine wp_seq (wp_unp (d := wD ws bs ss) (by simp [ini]) (by simp [wD, ini]; rfl) ?_)
  refine wp_seq (wp_for (ds := (bs.zip (turnsV ls)).map fun z => .tup [nD z.1, .int z.2]) (by simp [turns_eq cs ls h, zipL_map]) (fun j e => (∃ o1 o2 o3 o4, e = [some (wD ws bs ss), some (sD cs ls), some (.lst (ws.map .int)), some (.lst (bs.map nD)), some (.lst (ss.map nD)), o1, o2, o3, o4]) ∧ ((bs.zip (turnsV ls)).take j).all okB = true) ⟨⟨_, _, _, _, rfl⟩, rfl⟩ ?_ ?_)
  · rintro j d _ hd ⟨⟨o1, o2, o3, o4, rfl⟩, ha⟩
    rw [List.getElem?_map] at hd
    cases hp : (bs.zip (turnsV ls))[j]? with
    | none => rw [hp] at hd; cases hd
    | some p =>
      rw [hp] at hd
      cases hd
      obtain ⟨b, m⟩ := p
      refine ⟨_, by simp; rfl, ?_⟩
      refine wp_seq (wp_if (b := !(okB (b, m))) (by cases b <;> simp [okB, nD, dlt]) (fun hb => ?_) fun hb => ?_)
      · refine wp_seq (wp_ret (d := .bl false) rfl ?_)
        have hb : okB (b, m) = false := by simpa using hb
        rw [keepsV, all_stop hp hb, Bool.false_and]
      · have hb : okB (b, m) = true := by simpa using hb
        exact wp_sk (wp_sk ⟨⟨_, _, _, _, rfl⟩, all_step ha hp hb⟩)
  · rintro _ ⟨⟨o1, o2, o3, o4, rfl⟩, ha⟩
    rw [List.length_map, List.take_length] at ha
    refine wp_seq (wp_ret ?_ rfl)
    rw [keepsV, ha, Bool.true_and]
    have := comp_F (e := [some (wD ws bs ss), some (sD cs ls), some (.lst (ws.map .int)), some (.lst (bs.map nD)), some (.lst (ss.map nD)), o1, o2, o3, o4]) (it := (aI zipO (consF (vF 4) (consF (b2 ixD (vF 1) (cF (.int 0))) nilF)))) (own := [7, 8]) (tg := (gTu 2 (gTc (gN 7) (gTc (gN 8) gT0)))) (f := (imF (bV (orF (tF (u1 (fun d => .ok (.bl (isN d))) (vF 7))) (tF (b2 eqD (vF 7) (vF 8))))))) (xs := ss.zip cs) (gg := fun z => .tup [nD z.1, .int z.2]) (hh := fun z => .bl (okS z)) (by simp [sD, zipL_map]) (by simp [lim]; omega) (fun x hx => by
      obtain ⟨s, c⟩ := x
      refine ⟨_, by simp [ewipe]; rfl, ?_⟩
      cases s <;> simp [okS, nD])
    simp only [aF_ap, consF_ap, this, nilF_ap, Rz.bind_ok, allO_map]
def costV (ws ls : List Int) : Int := ((ws.zip (turnsV ls)).map fun z => z.1 * z.2).sum
theorem cost_eq (ws : List Int) (bs ss : List (Option Int)) (cs ls : List Int) (h : ls.length ≤ 100000) (hw : ∀ w ∈ ws, 0 ≤ w ∧ w ≤ 1000) : F_cost [wD ws bs ss, sD cs ls] = .ok (.int (costV ws ls)) := by
  refine fn_of_wp ?_
  refine wp_seq (wp_ret ?_ rfl)
  have := comp_F (e := ini 4 [wD ws bs ss, sD cs ls]) (it := (aI zipO (consF (b2 ixD (vF 0) (cF (.int 0))) (consF (aF (cO 1 F_turns) (consF (vF 1) nilF)) nilF)))) (own := [2, 3]) (tg := (gTu 2 (gTc (gN 2) (gTc (gN 3) gT0)))) (f := (b2 (i2 mulI) (vF 2) (vF 3))) (xs := ws.zip (turnsV ls)) (gg := fun z => .tup [.int z.1, .int z.2]) (hh := fun z => .int (z.1 * z.2)) (by simp [ini, wD, zipL_map, turns_eq cs ls h]) (by simp [lim]; omega) (fun x hx => by
    obtain ⟨w, c⟩ := x
    have := hw w (List.of_mem_zip hx).1
    refine ⟨_, by simp [ewipe, ini]; rfl, ?_⟩
    simp (disch := omega) [mulI_l])
  simp only [aF_ap, consF_ap, this, nilF_ap, Rz.bind_ok, sum_map]
  rfl
end Lib

set_option Elab.async false
set_option linter.all false
set_option maxRecDepth 100000
namespace Lib
open PySem L2 Pv
theorem turnsV_getD (ls : List Int) (k : Nat) (h : k < ls.length / 2) : (turnsV ls).getD k 0 = ls.getD (2 * k) 0 + ls.getD (2 * k + 1) 0 := by
  simp [turnsV, List.getD_eq_getElem?_getD, h]
theorem copy_eq (ws : List Int) (bs ss : List (Option Int)) : F__law_copy [wD ws bs ss] = .ok (wD ws bs ss) := by
  refine fn_of_wp ?_
  refine wp_seq (wp_ret ?_ rfl)
  have := comp_F (e := ini 2 [wD ws bs ss]) (it := (tOf (vF 0))) (own := [1]) (tg := gN 1) (f := (aF listO (consF (vF 1) nilF))) (xs := [D.lst (ws.map .int), .lst (bs.map nD), .lst (ss.map nD)]) (gg := id) (hh := id) (by simp [tOf, ini, wD]) (by simp [lim]) (fun x hx => by
    refine ⟨_, rfl, ?_⟩
    simp at hx
    rcases hx with rfl | rfl | rfl <;> simp [ewipe, ini, listO])
  simp only [aF_ap, consF_ap, this, nilF_ap, Rz.bind_ok]
  rfl
theorem zip_get {α β : Type} {xs : List α} {ys : List β} {j : Nat} {a : α} {b : β} (h1 : xs[j]? = some a) (h2 : ys[j]? = some b) : (xs.zip ys)[j]? = some (a, b) := by
  rw [List.getElem?_zip_eq_some]; exact ⟨h1, h2⟩
theorem zipIdx_map_eq {α β : Type} (f : α × Nat → β) (xs : List α) (ys : List β) (hl : xs.length = ys.length) (h : ∀ (k : Nat) (x : α), xs[k]? = some x → ys[k]? = some (f (x, k))) : xs.zipIdx.map f = ys := by
  refine List.ext_getElem? fun i => ?_
  rw [List.getElem?_map, List.getElem?_zipIdx]
  cases hx : xs[i]? with
  | none =>
    have := List.getElem?_eq_none_iff.mp hx
    rw [List.getElem?_eq_none_iff.mpr (by omega)]; rfl
  | some x => rw [h i x hx]; simp
theorem lawcost_eq (ws : List Int) (bs ss : List (Option Int)) (cs ls : List Int) (h : ls.length = 2 * ws.length) (h2 : ls.length ≤ 100000) (hw : ∀ w ∈ ws, 0 ≤ w ∧ w ≤ 1000) : F__law_cost_of [wD ws bs ss, sD cs ls] = .ok (.int (costV ws ls)) := by
  refine fn_of_wp ?_
  refine wp_seq (wp_set (d := .lst (ls.map .int)) (by simp [ini, sD]) (wp_seq (wp_ret ?_ rfl)))
  have := comp_F (e := (ini 5 [wD ws bs ss, sD cs ls]).set 2 (some (.lst (ls.map .int)))) (it := (aI enumO (consF (b2 ixD (vF 0) (cF (.int 0))) nilF))) (own := [3, 4]) (tg := (gTu 2 (gTc (gN 3) (gTc (gN 4) gT0)))) (f := (b2 (i2 mulI) (vF 4) (b2 (i2 addI) (b2 ixD (vF 2) (b2 (i2 mulI) (cF (.int 2)) (vF 3))) (b2 ixD (vF 2) (b2 (i2 addI) (b2 (i2 mulI) (cF (.int 2)) (vF 3)) (cF (.int 1))))))) (xs := ws.zipIdx) (gg := fun z => .tup [.int (z.2 : Int), .int z.1]) (hh := fun z => .int (z.1 * (ls.getD (2 * z.2) 0 + ls.getD (2 * z.2 + 1) 0))) (by simp [ini, wD, enumL_map]) (by simp [lim]; omega) (fun x hx => by
    obtain ⟨w, k⟩ := x
    have hk := List.mem_zipIdx hx
    have hw := hw w (by rw [hk.2.2]; exact List.getElem_mem _)
    have h1 := ixD_ints (ns := ls) (k := 2 * (k : Int)) (j := 2 * k) (by omega) (by omega)
    have h2 := ixD_ints (ns := ls) (k := 2 * (k : Int) + 1) (j := 2 * k + 1) (by omega) (by omega)
    have h3 : mulI 2 (k : Int) = .ok (.int (2 * k)) := mulI_l (by omega)
    have h4 : ∀ i, mulI w i = .ok (.int (w * i)) := fun i => mulI_l (by omega)
    refine ⟨_, by simp [ewipe, ini]; rfl, ?_⟩
    simp only [b2_ap, vF_4, vF_3, vF_2, cF_ap, Rz.bind_ok, i2_int, h1, h2, h3, h4, addI_ap])
  simp only [aF_ap, consF_ap, this, nilF_ap, Rz.bind_ok, sum_map]
  rw [costV, zipIdx_map_eq (fun (x : Int × Nat) => x.1 * (ls.getD (2 * x.2) 0 + ls.getD (2 * x.2 + 1) 0)) ws ((ws.zip (turnsV ls)).map fun z => z.1 * z.2) (by simp; omega) fun k x hk => ?_]
  have hlt := (List.getElem?_eq_some_iff.mp hk).1
  rw [List.getElem?_map, zip_get (b := (turnsV ls).getD k 0) hk (by rw [List.getD_eq_getElem?_getD, List.getElem?_eq_getElem (by simp; omega)]; rfl)]
  rw [turnsV_getD ls k (by omega)]; rfl
theorem lawkeeps_eq (ws : List Int) (bs ss : List (Option Int)) (cs ls : List Int) (h : ls.length = 2 * bs.length) (h2 : ls.length ≤ 100000) (hs : ss.length = cs.length) (hs2 : cs.length ≤ 100000) : F__law_keeps [wD ws bs ss, sD cs ls] = .ok (.bl (keepsV bs ss cs ls)) := by
  refine fn_of_wp ?_
  refine wp_seq (wp_for (ds := bs.zipIdx.map fun z => .tup [.int (z.2 : Int), nD z.1]) (by simp [ini, wD, enumL_map]) (fun j e => (∃ o2 o3 o4, e = [some (wD ws bs ss), some (sD cs ls), o2, o3, o4]) ∧ ((bs.zip (turnsV ls)).take j).all okB = true) ⟨⟨_, _, _, rfl⟩, rfl⟩ ?_ ?_)
  · rintro j d _ hd ⟨⟨o2, o3, o4, rfl⟩, ha⟩
    rw [List.getElem?_map, List.getElem?_zipIdx] at hd
    cases hp : bs[j]? with
    | none => rw [hp] at hd; cases hd
    | some b =>
      rw [hp] at hd
      simp at hd
      subst hd
      have hj := (List.getElem?_eq_some_iff.mp hp).1
      have hz : (bs.zip (turnsV ls))[j]? = some (b, (turnsV ls).getD j 0) := zip_get hp (by rw [List.getD_eq_getElem?_getD, List.getElem?_eq_getElem (by simp; omega)]; rfl)
      rw [turnsV_getD ls j (by omega)] at hz
      refine ⟨_, by simp; rfl, ?_⟩
      have h1 := ixD_ints (ns := ls) (k := 2 * (j : Int)) (j := 2 * j) (by omega) (by omega)
      have h2 := ixD_ints (ns := ls) (k := 2 * (j : Int) + 1) (j := 2 * j + 1) (by omega) (by omega)
      have h3 : mulI 2 (j : Int) = .ok (.int (2 * j)) := mulI_l (by omega)
      refine wp_seq (wp_if (b := !(okB (b, ls.getD (2 * j) 0 + ls.getD (2 * j + 1) 0))) ?_ (fun hb => ?_) fun hb => ?_)
      · cases b <;> simp only [okB, nD, dlt, sD, andF_ap, tF_ap, u1_ap, b2_ap, vF_1, vF_2, vF_3, cF_ap, Rz.bind_ok, i2_int, isN_non, isN_int, toB_bl, Bool.not_true, Bool.not_false, if_true, if_false, ixD_t1, h1, h2, h3, addI_ap, gtI_ap]
        rfl
      · refine wp_seq (wp_ret (d := .bl false) rfl ?_)
        rw [keepsV, all_stop hz (by simpa using hb), Bool.false_and]
      · exact wp_sk (wp_sk ⟨⟨_, _, _, rfl⟩, all_step ha hz (by simpa using hb)⟩)
  · rintro _ ⟨⟨o2, o3, o4, rfl⟩, ha⟩
    rw [List.length_map, List.length_zipIdx] at ha
    rw [List.take_of_length_le (by simp; omega)] at ha
    refine wp_seq (wp_ret ?_ rfl)
    rw [keepsV, ha, Bool.true_and]
    have := comp_FF (e := [some (wD ws bs ss), some (sD cs ls), o2, o3, o4]) (it := (aI enumO (consF (b2 ixD (vF 0) (cF (.int 2))) nilF))) (own := [2, 4]) (tg := (gTu 2 (gTc (gN 2) (gTc (gN 4) gT0)))) (t := (andF (tF (u1 (fun d => .ok (.bl (!isN d))) (vF 4))) (tF (b2 neD (vF 4) (b2 ixD (b2 ixD (vF 1) (cF (.int 0))) (vF 2)))))) (f := vF 2) (xs := ss.zipIdx) (gg := fun z => .tup [.int (z.2 : Int), nD z.1]) (hh := fun z => .int (z.2 : Int)) (fun z => !okS (z.1, cs.getD z.2 0)) (by simp [wD, enumL_map]) (by simp [lim]; omega) (fun x hx => by
      obtain ⟨s, k⟩ := x
      have hk := List.mem_zipIdx hx
      have h1 := ixD_ints (ns := cs) (k := (k : Int)) (j := k) rfl (by omega)
      refine ⟨_, by simp [ewipe]; rfl, ?_, fun _ => rfl⟩
      cases s
      · rfl
      · simp only [okS, nD, sD, andF_ap, tF_ap, u1_ap, b2_ap, vF_1, vF_2, vF_4, cF_ap, Rz.bind_ok, i2_int, isN_non, isN_int, toB_bl, Bool.not_true, Bool.not_false, if_true, if_false, ixD_t0, h1, neD_int])
    simp only [b2_ap, this, aF_ap, nilF_ap, Rz.bind_ok, lstO_0]
    have hq : okQ (D.lst ((ss.zipIdx.filter fun z => !okS (z.1, cs.getD z.2 0)).map fun z => D.int (z.2 : Int))) 20 = true := okQs_mapf _ _ _ fun _ => rfl
    rw [eqD, if_pos ⟨hq, rfl⟩, eqq_lst]
    · have : ss.zipIdx.map (fun z => okS (z.1, cs.getD z.2 0)) = (ss.zip cs).map okS := by
        refine zipIdx_map_eq _ _ _ (by simp; omega) fun k x hk => ?_
        have hlt := (List.getElem?_eq_some_iff.mp hk).1
        rw [List.getElem?_map, zip_get (b := cs.getD k 0) hk (by rw [List.getD_eq_getElem?_getD, List.getElem?_eq_getElem (by omega)]; rfl)]; rfl
      have h3 : (ss.zip cs).all okS = ss.zipIdx.all fun z => okS (z.1, cs.getD z.2 0) := by
        have := congrArg (fun l => l.all id) this
        simp only [List.all_map] at this
        exact this.symm
      rw [h3]
      cases hall : ss.zipIdx.all fun z => okS (z.1, cs.getD z.2 0) with
      | true =>
        have : ss.zipIdx.filter (fun z => !okS (z.1, cs.getD z.2 0)) = [] := by
          rw [List.filter_eq_nil_iff]
          intro z hz
          have := List.all_eq_true.mp hall z hz
          simp only [this]; decide
        rw [this]; rfl
      | false =>
        obtain ⟨z, hz, hz2⟩ := List.all_eq_false.mp hall
        have : z ∈ ss.zipIdx.filter (fun z => !okS (z.1, cs.getD z.2 0)) := by
          rw [List.mem_filter]; exact ⟨hz, by simpa using hz2⟩
        have : (ss.zipIdx.filter (fun z => !okS (z.1, cs.getD z.2 0))).length ≠ 0 := by
          intro h
          rw [List.length_eq_zero_iff] at h
          rw [h] at this; cases this
        rw [List.length_map, decide_eq_false (by simpa using this), Bool.false_and]
end Lib

set_option Elab.async false
set_option linter.all false
set_option maxRecDepth 100000
/-! Nets: what the laws' makers of nets tell, and their lookers at goings. -/
namespace Lib
open PySem L2 Pv
structure Wy where
  a : Nat
  b : Nat
  low : Int
  high : Option Int
  each : Int
def wyD (w : Wy) : D := .tup [.int (w.a : Int), .int (w.b : Int), .int w.low, nD w.high, .int w.each]
def netD (needs : List Int) (ways : List Wy) : D := .tup [.lst (needs.map .int), .lst (ways.map wyD)]
theorem okQ_wyD (w : Wy) : okQ (wyD w) 18 = true := by simp [wyD, okQ, okQs]
theorem okQ_netD (needs : List Int) (ways : List Wy) : okQ (netD needs ways) 20 = true := by
  simp only [netD, okQ, okQs, okQs_ints, okQs_mapf wyD ways 18 okQ_wyD]; decide
/-- a way between n knots, of middling numbers -/
structure WyOk (n : Nat) (w : Wy) : Prop where
  ha : w.a < n
  hb : w.b < n
  low : -1000000 ≤ w.low ∧ w.low ≤ 1000000
  high : ∀ h, w.high = some h → w.low ≤ h ∧ h ≤ 10000000
  each : -10000000 ≤ w.each ∧ w.each ≤ 10000000
structure NetOk (n : Nat) (needs : List Int) (ways : List Wy) : Prop where
  pos : 0 < n
  len : needs.length = n
  bd : ∀ x ∈ needs, -1000000000000 ≤ x ∧ x ≤ 1000000000000
  sum : needs.sum = 0
  each : ∀ w ∈ ways, WyOk n w
  many : ways.length ≤ 1000
/-- added at a place -/
def addAt (l : List Int) (i : Nat) (x : Int) : List Int := l.set i (l.getD i 0 + x)
@[simp] theorem addAt_len (l : List Int) (i : Nat) (x : Int) : (addAt l i x).length = l.length := by simp [addAt]
theorem sum_set : ∀ (l : List Int) (i : Nat) (x : Int), i < l.length → (l.set i (l.getD i 0 + x)).sum = l.sum + x
  | a :: l, 0, x, _ => by simp; omega
  | a :: l, i + 1, x, h => by
    have := sum_set l i x (by simpa using h)
    simp only [List.getD_eq_getElem?_getD] at this ⊢
    simp only [List.set_cons_succ, List.sum_cons, List.getElem?_cons_succ, this]; omega
theorem addAt_sum {l : List Int} {i : Nat} {x : Int} (h : i < l.length) : (addAt l i x).sum = l.sum + x := sum_set l i x h
theorem addAt_bd {l : List Int} {i : Nat} {x B C : Int} (h : i < l.length) (hb : ∀ y ∈ l, -B ≤ y ∧ y ≤ B) (hx : -C ≤ x ∧ x ≤ C) : ∀ y ∈ addAt l i x, -(B + C) ≤ y ∧ y ≤ B + C := fun y hy => by
  rcases List.mem_or_eq_of_mem_set hy with h1 | h1
  · have := hb y h1; omega
  · have := hb (l.getD i 0) (by rw [List.getD_eq_getElem?_getD, List.getElem?_eq_getElem h]; exact List.getElem_mem h)
    omega
theorem way_ex (c p n s : Int) (hp : 0 ≤ p ∧ p ≤ 900000) (hn : 0 < n ∧ n ≤ 10000) (hs : 0 ≤ s ∧ s ≤ 1000) : ∃ w, F__law_way [.int c, .int p, .int n, .int s] = .ok (wyD w) ∧ WyOk n.toNat w ∧ -s ≤ w.low ∧ w.low ≤ s := by
  have := fn_ex (u := u__law_way) (n := 8) (ds := [.int c, .int p, .int n, .int s]) (Q := fun d => ∃ w, d = wyD w ∧ WyOk n.toNat w ∧ -s ≤ w.low ∧ w.low ≤ s) ?_
  · obtain ⟨x, h1, w, rfl, h⟩ := this; exact ⟨w, h1, h⟩
  rw [show ini 8 [.int c, .int p, .int n, .int s] = [some (.int c), some (.int p), some (.int n), some (.int s), none, none, none, none] from rfl]
  obtain ⟨v, hv, hv0⟩ := mix_ex c p (by omega) (by omega)
  obtain ⟨z, hz, hz0⟩ := mix_ex c (p + 1) (by omega) (by omega)
  refine wp_seq (wp_set (d := .int v) (by simp [hv]) ?_)
  simp only [set_4]
  have h64 : 0 ≤ v / 64 := by omega
  have hm1 := Int.emod_nonneg (v / 64) (b := 2 * s + 1) (by omega)
  have hm2 := Int.emod_lt_of_pos (v / 64) (b := 2 * s + 1) (by omega)
  refine wp_seq (wp_set (d := .int (v / 64 % (2 * s + 1) - s)) (by simp (disch := omega) [mulI_l, fdivI_pos, modI_pos]) ?_)
  simp only [set_5]
  generalize hl : v / 64 % (2 * s + 1) - s = low at *
  have hq1 := Int.emod_nonneg (v / 1024) (b := s + 2) (by omega)
  have hq2 := Int.emod_lt_of_pos (v / 1024) (b := s + 2) (by omega)
  obtain ⟨w, hw1, ⟨h, rfl, hh⟩⟩ := pick_ex (P := fun d => ∃ o : Option Int, d = nD o ∧ ∀ h, o = some h → low ≤ h ∧ h ≤ 10000000) (ds := [.int (low + v / 1024 % (s + 2)), .non, .int (low + v / 1024 % 2), .int low]) (k := v / 16 % 4) (by omega) (by simp; omega) (by
    simp only [List.mem_cons, List.mem_nil_iff, or_false]
    rintro d (rfl | rfl | rfl | rfl)
    · exact ⟨some _, rfl, fun h e => by cases e; omega⟩
    · exact ⟨none, rfl, fun h e => by cases e⟩
    · exact ⟨some _, rfl, fun h e => by cases e; omega⟩
    · exact ⟨some _, rfl, fun h e => by cases e; omega⟩)
  refine wp_seq (wp_set (d := nD h) (by simp (disch := omega) [fdivI_pos, modI_pos, hw1]) ?_)
  simp only [set_6]
  have hr1 := Int.emod_nonneg z (b := 2 * s + 1) (by omega)
  have hr2 := Int.emod_lt_of_pos z (b := 2 * s + 1) (by omega)
  have hs2 : s * (v / 8 % 2) = 0 ∨ s * (v / 8 % 2) = s := by
    rcases Int.emod_two_eq (v / 8) with h | h <;> rw [h] <;> simp
  refine wp_seq (wp_set (d := .int (z % (2 * s + 1) - s * (v / 8 % 2))) (by simp (disch := omega) [mulI_l, fdivI_pos, modI_pos, hz]) ?_)
  simp only [set_7]
  have ha1 := Int.emod_nonneg v (b := n) (by omega)
  have ha2 := Int.emod_lt_of_pos v (b := n) (by omega)
  have hb1 := Int.emod_nonneg (z / 64) (b := n) (by omega)
  have hb2 := Int.emod_lt_of_pos (z / 64) (b := n) (by omega)
  refine wp_seq (wp_ret (d := wyD ⟨(v % n).toNat, (z / 64 % n).toNat, low, h, z % (2 * s + 1) - s * (v / 8 % 2)⟩) ?_ ⟨_, rfl, ⟨by simp; omega, by simp; omega, by simp; omega, hh, by simp; omega⟩, by simp; omega, by simp; omega⟩)
  simp (disch := omega) [fdivI_pos, modI_pos, hz, wyD, tupO, lim, Int.toNat_of_nonneg ha1, Int.toNat_of_nonneg hb1]
theorem set_ints (l : List Int) (i : Nat) (x : Int) : (l.map D.int).set i (.int x) = (l.set i x).map .int := by simp [List.map_set]
theorem net_ex (ns : List Int) (f m wm s : Int) (hf : 0 ≤ f ∧ f ≤ 1000) (hm : 1 ≤ m ∧ m ≤ 1000) (hwm : 0 ≤ wm ∧ wm ≤ 999) (hs : 0 ≤ s ∧ s ≤ 1000) : ∃ (needs : List Int) (ways : List Wy) (going : List Int) (sure : Bool), F__law_net [.fzl (ns.map .int), .int f, .int m, .int wm, .int s] = .ok (.tup [netD needs ways, .lst (going.map .int), .bl sure]) ∧ NetOk needs.length needs ways ∧ needs.length ≤ m ∧ ways.length ≤ wm ∧ going.length = ways.length ∧ (∀ x ∈ going, -10000 ≤ x ∧ x ≤ 10000) := by
  have := fn_ex (u := u__law_net) (n := 20) (ds := [.fzl (ns.map .int), .int f, .int m, .int wm, .int s]) (Q := fun d => ∃ (needs : List Int) (ways : List Wy) (going : List Int) (sure : Bool), d = .tup [netD needs ways, .lst (going.map .int), .bl sure] ∧ NetOk needs.length needs ways ∧ needs.length ≤ m ∧ ways.length ≤ wm ∧ going.length = ways.length ∧ (∀ x ∈ going, -10000 ≤ x ∧ x ≤ 10000)) ?_
  · obtain ⟨x, h1, needs, ways, going, sure, rfl, h⟩ := this; exact ⟨needs, ways, going, sure, h1, h⟩
  rw [show ini 20 [.fzl (ns.map .int), .int f, .int m, .int wm, .int s] = [some (.fzl (ns.map .int)), some (.int f), some (.int m), some (.int wm), some (.int s), none, none, none, none, none, none, none, none, none, none, none, none, none, none, none] from rfl]
  refine wp_seq (wp_set (d := .int (ns.getD f.toNat 0)) (by simp [cell_at ns f hf.1]) ?_)
  simp only [set_5]
  generalize hc : ns.getD f.toNat 0 = c
  obtain ⟨v, hv, hv0⟩ := mix_ex c 0 (by omega) (by omega)
  have h1 := Int.emod_nonneg v (b := m) (by omega)
  have h2 := Int.emod_lt_of_pos v (b := m) (by omega)
  obtain ⟨n, hn, hn1, hn2⟩ : ∃ n : Nat, 1 + v % m = (n : Int) ∧ 0 < n ∧ (n : Int) ≤ m := ⟨(1 + v % m).toNat, by omega, by omega, by omega⟩
  refine wp_seq (wp_set (d := .int n) (by simp (disch := omega) [hv, modI_pos, hn]) ?_)
  simp only [set_6]
  refine wp_seq (wp_set (d := .lst []) (by simp) ?_)
  simp only [set_7]
  obtain ⟨v1, hv1, hv10⟩ := mix_ex c 1 (by omega) (by omega)
  have h3 := Int.emod_nonneg v1 (b := wm + 1) (by omega)
  have h4 := Int.emod_lt_of_pos v1 (b := wm + 1) (by omega)
  obtain ⟨q, hq, hq2⟩ : ∃ q : Nat, v1 % (wm + 1) = (q : Int) ∧ (q : Int) ≤ wm := ⟨(v1 % (wm + 1)).toNat, by omega, by omega⟩
  refine wp_seq (wp_for (ds := upto 0 (q : Int)) (by simp (disch := omega) [hv1, modI_pos, hq, rng1_ok]) (fun j e => ∃ (ways : List Wy) (o8 : Option D), e = [some (.fzl (ns.map .int)), some (.int f), some (.int m), some (.int wm), some (.int s), some (.int c), some (.int n), some (.lst (ways.map wyD)), o8, none, none, none, none, none, none, none, none, none, none, none] ∧ ways.length = j ∧ ∀ w ∈ ways, WyOk n w ∧ -s ≤ w.low ∧ w.low ≤ s) ⟨[], _, rfl, rfl, by simp⟩ ?_ ?_)
  · rintro j d _ hd ⟨ways, o8, rfl, hl, hw⟩
    obtain ⟨rfl, hj⟩ := upto_get hd
    refine ⟨_, rfl, ?_⟩
    simp only [set_8]
    obtain ⟨w, hw1, hw2, hw3, hw4⟩ := way_ex (ns.getD (f + 1 + (j : Int) % 6).toNat 0) (2 + 2 * ((j : Int) / 6)) n s (by omega) (by omega) hs
    rw [Int.toNat_natCast] at hw2
    refine wp_seq (wp_app (d := wyD w) (by simp; rfl) ?_ (by simp [lim]; omega) (wp_sk ⟨ways ++ [w], _, by simp; rfl, by simp [hl], fun x hx => (List.mem_append.mp hx).elim (hw x) fun h => (List.mem_singleton.mp h) ▸ ⟨hw2, hw3, hw4⟩⟩))
    have hc4 : ∀ (F : List D → Rz D) (a b c d : D), cO 4 F [a, b, c, d] = F [a, b, c, d] := fun _ _ _ _ _ => rfl
    simp (disch := omega) [cell_at ns (f + 1 + (j : Int) % 6) (by omega), modI_pos, fdivI_pos, mulI_l, hc4]
    rw [List.getD_eq_getElem?_getD] at hw1
    exact hw1
  rintro _ ⟨ways, o8, rfl, hl, hw⟩
  rw [upto_len] at hl
  have hl : ways.length = q := by omega
  refine wp_seq (wp_set (d := .lst ((List.replicate n 0).map .int)) ?_ ?_)
  · have : (List.replicate n (0 : Int)).map D.int = (List.range n).map fun _ => D.int 0 := by
      rw [List.map_replicate, List.map_const', List.length_range]
    rw [this]
    exact comp_F (gg := fun (i : Nat) => .int (i : Int)) (by simp (disch := omega) [rng1_ok, upto_nat]) (by simp [lim]; omega) fun x hx => ⟨_, rfl, rfl⟩
  simp only [set_9]
  refine wp_seq (wp_set (d := .lst []) (by simp) ?_)
  simp only [set_11]
  refine wp_seq (wp_forR (xs := ways.zipIdx) (gg := fun z => .tup [.int (z.2 : Int), wyD z.1]) (by simp [enumL_map]) (fun rest e => ∃ (l g : List Int) (o8 o10 o12 o13 o14 o15 o16 o17 o18 : Option D), e = [some (.fzl (ns.map .int)), some (.int f), some (.int m), some (.int wm), some (.int s), some (.int c), some (.int n), some (.lst (ways.map wyD)), o8, some (.lst (l.map .int)), o10, some (.lst (g.map .int)), o12, o13, o14, o15, o16, o17, o18, none] ∧ l.length = n ∧ g.length + rest.length = ways.length ∧ l.sum = 0 ∧ (∀ x ∈ g, -10000 ≤ x ∧ x ≤ 10000) ∧ ∀ x ∈ l, -(20000 * (g.length : Int)) ≤ x ∧ x ≤ 20000 * (g.length : Int)) ⟨List.replicate n 0, [], _, _, _, _, _, _, _, _, _, rfl, by simp, by simp, by simp, by simp, by simp⟩ ?_ ?_)
  · rintro ⟨w, k⟩ rest _ hx ⟨l, g, o8, o10, o12, o13, o14, o15, o16, o17, o18, rfl, hl1, hl2, hsum, hg, hb⟩
    have hk := List.mem_zipIdx hx
    obtain ⟨hw1, hw2, hw3⟩ := hw w (by rw [hk.2.2]; exact List.getElem_mem _)
    refine ⟨_, by simp [wyD]; rfl, ?_⟩
    obtain ⟨y, hy, hy0⟩ := mix_ex c (2 + (k : Int) % 20) (by omega) (by omega)
    have h5 := Int.emod_nonneg (y / 8) (b := s + 1) (by omega)
    have h6 := Int.emod_lt_of_pos (y / 8) (b := s + 1) (by omega)
    refine wp_seq (wp_set (d := .int (y / 8 % (s + 1))) (by simp (disch := omega) [modI_pos, fdivI_pos, hy]) ?_)
    simp only [set_17]
    generalize y / 8 % (s + 1) = more at *
    refine wp_seq (wp_set (d := .int (w.low + more)) (by simp) ?_)
    simp only [set_18]
    refine wp_seqJ (fun e => ∃ num : Int, e = [some (.fzl (ns.map .int)), some (.int f), some (.int m), some (.int wm), some (.int s), some (.int c), some (.int n), some (.lst (ways.map wyD)), some (.int k), some (.lst (l.map .int)), o10, some (.lst (g.map .int)), some (.int w.a), some (.int w.b), some (.int w.low), some (nD w.high), some (.int w.each), some (.int more), some (.int num), none] ∧ -10000 ≤ num ∧ num ≤ 10000) (wp_if (b := !w.high.isNone) (by simp) (fun h => ?_) fun h => ?_) ?_
    · cases hh : w.high with
      | none => rw [hh] at h; cases h
      | some hi =>
        have := hw1.high hi hh
        refine wp_seq (wp_set (d := .int (if hi < w.low + more then hi else w.low + more)) (by simp [nD]) (wp_sk ⟨_, rfl, ?_⟩))
        split <;> omega
    · exact wp_sk ⟨_, rfl, by omega, by omega⟩
    rintro _ ⟨num, rfl, hn1, hn2⟩
    refine wp_seq (wp_app (d := .int num) rfl (by simp) (by simp [lim]; have := hk; simp at hl2; omega) ?_)
    simp only [set_11]
    have ha := hw1.ha
    have hb' := hw1.hb
    refine wp_seq (wp_st (ds := l.map .int) (j := w.a) (d := .int (l.getD w.a 0 + num)) ?_ rfl (by simp) rfl (by simp; omega) ?_)
    · simp only [b2_ap, vF_9, vF_12, vF_18, Rz.bind_ok, ixD_ints (ns := l) (k := (w.a : Int)) (j := w.a) rfl (by omega), i2_int, addI_ap]
    rw [set_ints]
    simp only [set_9]
    refine wp_seq (wp_st (ds := (addAt l w.a num).map .int) (j := w.b) (d := .int ((addAt l w.a num).getD w.b 0 - num)) ?_ rfl (by simp) rfl (by simp; omega) ?_)
    · simp only [b2_ap, vF_9, vF_13, vF_18, Rz.bind_ok]
      rw [show l.set w.a (l.getD w.a 0 + num) = addAt l w.a num from rfl, ixD_ints (ns := addAt l w.a num) (k := (w.b : Int)) (j := w.b) rfl (by simp; omega)]
      simp only [Rz.bind_ok, i2_int, subI_ap]
    rw [set_ints]
    have hset : (addAt l w.a num).set w.b ((addAt l w.a num).getD w.b 0 - num) = addAt (addAt l w.a num) w.b (-num) := rfl
    rw [hset]
    have hb2 := addAt_bd (C := 10000) (i := w.a) (x := num) (by omega) hb ⟨hn1, hn2⟩
    have hb3 := addAt_bd (C := 10000) (i := w.b) (x := -num) (by simp; omega) hb2 (by omega)
    refine wp_sk ⟨addAt (addAt l w.a num) w.b (-num), g ++ [num], _, _, _, _, _, _, _, _, _, by simp; exact ⟨rfl, rfl, rfl, rfl, rfl, rfl, rfl, rfl, rfl⟩, by simp [hl1], by simp at hl2 ⊢; omega, by rw [addAt_sum (by simp; omega), addAt_sum (by omega), hsum]; omega, fun x hx => (List.mem_append.mp hx).elim (hg x) fun h => (List.mem_singleton.mp h) ▸ ⟨hn1, hn2⟩, fun x hx => ?_⟩
    have := hb3 x hx
    rw [List.length_append, List.length_singleton]
    omega
  rintro _ ⟨l, g, o8, o10, o12, o13, o14, o15, o16, o17, o18, rfl, hl1, hl2, hsum, hg, hb⟩
  simp at hl2
  obtain ⟨y, hy, hy0⟩ := mix_ex c 25 (by omega) (by omega)
  refine wp_seq (wp_set (d := .int y) (by simp [hy]) ?_)
  simp only [set_19]
  refine wp_seqJ (fun e => ∃ l2 : List Int, e = [some (.fzl (ns.map .int)), some (.int f), some (.int m), some (.int wm), some (.int s), some (.int c), some (.int n), some (.lst (ways.map wyD)), o8, some (.lst (l2.map .int)), o10, some (.lst (g.map .int)), o12, o13, o14, o15, o16, o17, o18, some (.int y)] ∧ l2.length = n ∧ l2.sum = 0 ∧ ∀ x ∈ l2, -1000000000000 ≤ x ∧ x ≤ 1000000000000) (wp_if (b := y % 3 == 1) (by simp [modI_pos]) (fun _ => ?_) fun _ => wp_sk ⟨l, rfl, hl1, hsum, fun x hx => by have := hb x hx; omega⟩) ?_
  · obtain ⟨i, hi, hi2⟩ : ∃ i : Nat, y / 3 % (n : Int) = (i : Int) ∧ i < n := by
      have h1 := Int.emod_nonneg (y / 3) (b := (n : Int)) (by omega)
      have h2 := Int.emod_lt_of_pos (y / 3) (b := (n : Int)) (by omega)
      exact ⟨(y / 3 % (n : Int)).toNat, by omega, by omega⟩
    obtain ⟨j, hj, hj2⟩ : ∃ i : Nat, y / 8 % (n : Int) = (i : Int) ∧ i < n := by
      have h1 := Int.emod_nonneg (y / 8) (b := (n : Int)) (by omega)
      have h2 := Int.emod_lt_of_pos (y / 8) (b := (n : Int)) (by omega)
      exact ⟨(y / 8 % (n : Int)).toNat, by omega, by omega⟩
    have h7 := modI_pos (i := y / 3) (j := n) (by omega)
    have h8 := modI_pos (i := y / 8) (j := n) (by omega)
    rw [hi] at h7
    rw [hj] at h8
    refine wp_seq (wp_st (ds := l.map .int) (j := i) (d := .int (l.getD i 0 + (1 + y / 64 % 3))) ?_ rfl (by simp (disch := omega) [fdivI_pos, h7]) rfl (by simp; omega) ?_)
    · simp only [b2_ap, vF_9, vF_19, vF_6, cF_ap, Rz.bind_ok, i2_int, fdivI_pos (i := y) (j := 3) (by omega) (by omega), fdivI_pos (i := y) (j := 64) (by omega) (by omega), h7, modI_pos (i := y / 64) (j := 3) (by omega), ixD_ints (ns := l) (k := (i : Int)) (j := i) rfl (by omega), addI_ap, Int.add_assoc]
    rw [set_ints]
    simp only [set_9]
    refine wp_seq (wp_st (ds := (addAt l i (1 + y / 64 % 3)).map .int) (j := j) (d := .int ((addAt l i (1 + y / 64 % 3)).getD j 0 + -(1 + y / 64 % 3))) ?_ rfl (by simp (disch := omega) [fdivI_pos, h8]) rfl (by simp; omega) ?_)
    · rw [show l.set i (l.getD i 0 + (1 + y / 64 % 3)) = addAt l i (1 + y / 64 % 3) from rfl]
      simp only [b2_ap, vF_9, vF_19, vF_6, cF_ap, Rz.bind_ok, i2_int, fdivI_pos (i := y) (j := 8) (by omega) (by omega), fdivI_pos (i := y) (j := 64) (by omega) (by omega), h8, modI_pos (i := y / 64) (j := 3) (by omega), ixD_ints (ns := addAt l i (1 + y / 64 % 3)) (k := (j : Int)) (j := j) rfl (by simp; omega), subI_ap]
      congr 2; omega
    rw [set_ints]
    rw [show (addAt l i (1 + y / 64 % 3)).set j ((addAt l i (1 + y / 64 % 3)).getD j 0 + -(1 + y / 64 % 3)) = addAt (addAt l i (1 + y / 64 % 3)) j (-(1 + y / 64 % 3)) from rfl]
    have hb2 := addAt_bd (C := 10000) (i := i) (x := 1 + y / 64 % 3) (by omega) hb (by omega)
    have hb3 := addAt_bd (C := 10000) (i := j) (x := -(1 + y / 64 % 3)) (by simp; omega) hb2 (by omega)
    refine wp_sk ⟨_, rfl, by simp [hl1], by rw [addAt_sum (by simp; omega), addAt_sum (by omega), hsum]; omega, fun x hx => ?_⟩
    have := hb3 x hx
    omega
  rintro _ ⟨l2, rfl, hl1, hsum, hb⟩
  refine wp_seq (wp_ret (d := .tup [netD l2 ways, .lst (g.map .int), .bl (!(y % 3 == 1))]) ?_ ⟨l2, ways, g, _, rfl, ⟨by omega, rfl, hb, hsum, fun w hwm => hl1 ▸ (hw w hwm).1, by omega⟩, by omega, by omega, by omega, hg⟩)
  simp (disch := omega) [modI_pos, netD]
theorem netD_0 (needs : List Int) (ways : List Wy) : ixD (netD needs ways) (.int 0) = .ok (.lst (needs.map .int)) := ixD_t0
theorem netD_1 (needs : List Int) (ways : List Wy) : ixD (netD needs ways) (.int 1) = .ok (.lst (ways.map wyD)) := ixD_t1
theorem copy2_eq (needs : List Int) (ways : List Wy) : F__law_copy_v2 [netD needs ways] = .ok (netD needs ways) := by
  refine fn_of_wp ?_
  refine wp_seq (wp_ret ?_ rfl)
  simp [ini, netD]
theorem check_eq {needs : List Int} {ways : List Wy} (h : NetOk needs.length needs ways) : F_check_net [netD needs ways] = .ok .non := by
  refine fn_of_wp ?_
  rw [show ini 8 [netD needs ways] = [some (netD needs ways), none, none, none, none, none, none, none] from rfl]
  refine wp_seq (wp_unp (d := netD needs ways) (by simp) (by simp [netD]; rfl) ?_)
  have hp := h.pos
  have he : (needs.map D.int).isEmpty = false := by cases needs with
    | nil => simp at hp
    | cons a b => rfl
  refine wp_seq (wp_if (b := false) ?_ (fun h => nomatch h) fun _ => wp_sk ?_)
  · simp [eqD_nil _ (okQs_ints needs 19), h.sum]
    rintro rfl; simp at hp
  refine wp_seq (wp_forR (xs := ways) (gg := wyD) (by simp [lOf]) (fun _ e => ∃ o3 o4 o5 o6 o7, e = [some (netD needs ways), some (.lst (needs.map .int)), some (.lst (ways.map wyD)), o3, o4, o5, o6, o7]) ⟨_, _, _, _, _, rfl⟩ ?_ ?_)
  · rintro w rest _ hw ⟨o3, o4, o5, o6, o7, rfl⟩
    obtain ⟨ha, hb, hl, hh, _⟩ := h.each w hw
    refine ⟨_, by simp [wyD]; rfl, ?_⟩
    refine wp_seq (wp_if (b := false) ?_ (fun h => nomatch h) fun _ => wp_sk ?_)
    · simp
      rw [if_neg (by split <;> omega), decide_eq_false (by split <;> omega)]
    refine wp_seq (wp_if (b := false) ?_ (fun h => nomatch h) fun _ => wp_sk (wp_sk ⟨_, _, _, _, _, rfl⟩))
    cases hx : w.high with
    | none => simp [nD]
    | some y =>
      have := hh y hx
      simp [nD]; omega
  · rintro _ ⟨o3, o4, o5, o6, o7, rfl⟩
    exact wp_sk rfl
/-- within its bounds -/
def inB (z : Wy × Int) : Bool := decide (z.1.low ≤ z.2) && (match z.1.high with
  | none => true
  | some h => decide (z.2 ≤ h))
def goRec : List (Wy × Int) → List Int → Bool
  | [], l => l == List.replicate l.length 0
  | z :: r, l => inB z && goRec r (addAt (addAt l z.1.a (-z.2)) z.1.b z.2)
def goingV (needs : List Int) (ways : List Wy) (going : List Int) : Bool := decide (going.length = ways.length) && goRec (ways.zip going) needs
theorem lawgoing_eq {needs : List Int} {ways : List Wy} (going : List Int) (h : NetOk needs.length needs ways) (hn : needs.length ≤ 100000) : F__law_is_going [netD needs ways, .lst (going.map .int)] = .ok (.bl (goingV needs ways going)) := by
  refine fn_of_wp ?_
  rw [show ini 12 [netD needs ways, .lst (going.map .int)] = [some (netD needs ways), some (.lst (going.map .int)), none, none, none, none, none, none, none, none, none, none] from rfl]
  refine wp_seq (wp_unp (d := netD needs ways) (by simp) (by simp [netD]; rfl) ?_)
  refine wp_seq (wp_if (b := !decide (going.length = ways.length)) ?_ (fun h => ?_) fun hl => wp_sk ?_)
  · simp
    by_cases h : going.length = ways.length <;> simp [h] <;> omega
  · refine wp_seq (wp_ret (d := .bl false) rfl ?_)
    have h : decide (going.length = ways.length) = false := by simpa using h
    rw [goingV, h, Bool.false_and]
  have hl : decide (going.length = ways.length) = true := by simpa using hl
  rw [goingV, hl, Bool.true_and]
  refine wp_seq (wp_set (d := .lst (needs.map .int)) (by simp) ?_)
  simp only [set_4]
  refine wp_seq (wp_forR (xs := ways.zip going) (gg := fun z => .tup [wyD z.1, .int z.2]) (by simp [zipL_map]) (fun rest e => ∃ (l : List Int) (o5 o6 o7 o8 o9 o10 : Option D), e = [some (netD needs ways), some (.lst (going.map .int)), some (.lst (needs.map .int)), some (.lst (ways.map wyD)), some (.lst (l.map .int)), o5, o6, o7, o8, o9, o10, none] ∧ l.length = needs.length ∧ goRec rest l = goRec (ways.zip going) needs) ⟨needs, _, _, _, _, _, _, rfl, rfl, rfl⟩ ?_ ?_)
  · rintro ⟨w, g⟩ rest _ hw ⟨l, o5, o6, o7, o8, o9, o10, rfl, hll, hr⟩
    obtain ⟨ha, hb, hl, hh, _⟩ := h.each w (List.of_mem_zip hw).1
    refine ⟨_, by simp [wyD]; rfl, ?_⟩
    refine wp_seq (wp_if (b := !inB (w, g)) ?_ (fun hb => ?_) fun hb2 => wp_sk ?_)
    · cases hx : w.high with
      | none => simp [nD, inB, hx, dlt]; by_cases h : w.low ≤ g <;> simp [h]
      | some y => simp [nD, inB, hx, dlt]; by_cases h : w.low ≤ g <;> simp [h] <;> (intro; omega)
    · have hb : inB (w, g) = false := by simpa using hb
      refine wp_seq (wp_ret (d := .bl false) rfl ?_)
      rw [← hr, goRec, hb, Bool.false_and]
    have hb2 : inB (w, g) = true := by simpa using hb2
    rw [goRec, hb2, Bool.true_and] at hr
    refine wp_seq (wp_st (ds := l.map .int) (j := w.a) (d := .int (l.getD w.a 0 + -g)) ?_ rfl (by simp) rfl (by simp; omega) ?_)
    · simp only [b2_ap, vF_4, vF_5, vF_10, Rz.bind_ok, ixD_ints (ns := l) (k := (w.a : Int)) (j := w.a) rfl (by omega), i2_int, subI_ap]; rfl
    rw [set_ints]
    simp only [set_4]
    refine wp_seq (wp_st (ds := (addAt l w.a (-g)).map .int) (j := w.b) (d := .int ((addAt l w.a (-g)).getD w.b 0 + g)) ?_ rfl (by simp) rfl (by simp; omega) ?_)
    · rw [show l.set w.a (l.getD w.a 0 + -g) = addAt l w.a (-g) from rfl]
      simp only [b2_ap, vF_4, vF_6, vF_10, Rz.bind_ok]
      rw [ixD_ints (ns := addAt l w.a (-g)) (k := (w.b : Int)) (j := w.b) rfl (by simp; omega)]
      simp only [Rz.bind_ok, i2_int, addI_ap]
    rw [set_ints]
    exact wp_sk ⟨addAt (addAt l w.a (-g)) w.b g, _, _, _, _, _, _, rfl, by simp [hll], hr⟩
  · rintro _ ⟨l, o5, o6, o7, o8, o9, o10, rfl, hll, hr⟩
    rw [goRec] at hr
    refine wp_seq (wp_ret ?_ rfl)
    rw [← hr]
    have := comp_F (e := [some (netD needs ways), some (.lst (going.map .int)), some (.lst (needs.map .int)), some (.lst (ways.map wyD)), some (.lst (l.map .int)), o5, o6, o7, o8, o9, o10, none]) (it := lOf (vF 2)) (own := [11]) (tg := gN 11) (f := cF (.int 0)) (xs := needs) (gg := .int) (hh := fun _ => .int 0) (by simp) (by simp [lim]; omega) (fun x hx => ⟨_, rfl, rfl⟩)
    simp only [b2_ap, vF_4, Rz.bind_ok, this]
    have h2 : needs.map (fun _ => D.int 0) = (List.replicate l.length (0 : Int)).map D.int := by
      rw [List.map_replicate, hll, List.map_const']
    rw [h2, eqD_ints]
def costG (ways : List Wy) (going : List Int) : Int := ((ways.zip going).map fun z => z.1.each * z.2).sum
theorem lawcost2_eq {needs : List Int} {ways : List Wy} (going : List Int) (h : NetOk needs.length needs ways) : F__law_cost [netD needs ways, .lst (going.map .int)] = .ok (.int (costG ways going)) := by
  refine fn_of_wp ?_
  refine wp_seq (wp_ret ?_ rfl)
  have hm := h.many
  have := comp_F (e := ini 4 [netD needs ways, .lst (going.map .int)]) (it := (aI zipO (consF (b2 ixD (vF 0) (cF (.int 1))) (consF (vF 1) nilF)))) (own := [2, 3]) (tg := (gTu 2 (gTc (gN 2) (gTc (gN 3) gT0)))) (f := (b2 (i2 mulI) (b2 ixD (vF 2) (cF (.int 4))) (vF 3))) (xs := ways.zip going) (gg := fun z => .tup [wyD z.1, .int z.2]) (hh := fun z => .int (z.1.each * z.2)) (by simp [ini, netD, zipL_map]) (by simp [lim]; omega) (fun x hx => by
    obtain ⟨w, g⟩ := x
    have := (h.each w (List.of_mem_zip hx).1).each
    refine ⟨_, by simp [ewipe, ini]; rfl, ?_⟩
    simp (disch := omega) [wyD, mulI_l])
  simp only [aF_ap, consF_ap, this, nilF_ap, Rz.bind_ok, sum_map]
  rfl
def dotV (xs ys : List Int) : Int := ((xs.zip ys).map fun z => z.1 * z.2).sum
def leftP (ps : List Int) (w : Wy) : Int := w.each - ps.getD w.a 0 + ps.getD w.b 0
def bnd (ps : List Int) : List Wy → Int → Option Int
  | [], t => some t
  | w :: r, t => if leftP ps w < 0 then (match w.high with
    | none => none
    | some h => bnd ps r (t + leftP ps w * h)) else bnd ps r (t + leftP ps w * w.low)
def bndV (needs : List Int) (ways : List Wy) (ps : List Int) : Option Int := bnd ps ways (dotV needs ps)
theorem lawbound_eq {needs : List Int} {ways : List Wy} (ps : List Int) (h : NetOk needs.length needs ways) (hp : ps.length = needs.length) (hn : needs.length ≤ 100000) : F__law_bound [netD needs ways, .lst (ps.map .int)] = .ok (nD (bndV needs ways ps)) := by
  refine fn_of_wp ?_
  rw [show ini 10 [netD needs ways, .lst (ps.map .int)] = [some (netD needs ways), some (.lst (ps.map .int)), none, none, none, none, none, none, none, none] from rfl]
  refine wp_seq (wp_set (d := .int (dotV needs ps)) ?_ ?_)
  · have := comp_F (e := [some (netD needs ways), some (.lst (ps.map .int)), none, none, none, none, none, none, none, none]) (it := (aI zipO (consF (b2 ixD (vF 0) (cF (.int 0))) (consF (vF 1) nilF)))) (own := [3, 4]) (tg := (gTu 2 (gTc (gN 3) (gTc (gN 4) gT0)))) (f := (b2 (i2 mulI) (vF 3) (vF 4))) (xs := needs.zip ps) (gg := fun z => .tup [.int z.1, .int z.2]) (hh := fun z => .int (z.1 * z.2)) (by simp [netD, zipL_map]) (by simp [lim]; omega) (fun x hx => by
      obtain ⟨w, g⟩ := x
      have := h.bd w (List.of_mem_zip hx).1
      refine ⟨_, by simp [ewipe]; rfl, ?_⟩
      simp (disch := omega) [mulI_l])
    simp only [aF_ap, consF_ap, this, nilF_ap, Rz.bind_ok, sum_map]
    rfl
  simp only [set_2]
  refine wp_seq (wp_forR (xs := ways) (gg := wyD) (by simp [lOf, netD]) (fun rest e => ∃ (t : Int) (o5 o6 o7 o8 o9 : Option D), e = [some (netD needs ways), some (.lst (ps.map .int)), some (.int t), none, none, o5, o6, o7, o8, o9] ∧ bnd ps rest t = bndV needs ways ps) ⟨_, _, _, _, _, _, rfl, rfl⟩ ?_ ?_)
  · rintro w rest _ hw ⟨t, o5, o6, o7, o8, o9, rfl, hr⟩
    obtain ⟨ha, hb, hl, hh, _⟩ := h.each w hw
    refine ⟨_, by simp [wyD]; rfl, ?_⟩
    refine wp_seq (wp_set (d := .int (leftP ps w)) ?_ ?_)
    · simp only [b2_ap, vF_1, vF_5, vF_6, vF_9, Rz.bind_ok, ixD_ints (ns := ps) (k := (w.a : Int)) (j := w.a) rfl (by omega), ixD_ints (ns := ps) (k := (w.b : Int)) (j := w.b) rfl (by omega), i2_int, subI_ap, addI_ap, leftP]
    simp only [set_9]
    rw [bnd] at hr
    generalize leftP ps w = l at *
    refine wp_seq (wp_if (b := decide (0 < l)) (by simp) (fun h => ?_) fun h => wp_sk ?_)
    · have h := of_decide_eq_true h
      rw [if_neg (by omega)] at hr
      refine wp_seq (wp_set (d := .int (t + l * w.low)) (by simp (disch := omega) [mulI_r]) (wp_sk ?_))
      simp only [set_2]
      refine wp_seq (wp_if (b := false) ?_ (fun h => nomatch h) fun _ => wp_sk ?_)
      · have : ¬ l < 0 := by omega
        simp [this]
      refine wp_seq (wp_if (b := false) ?_ (fun h => nomatch h) fun _ => wp_sk (wp_sk ⟨_, _, _, _, _, _, rfl, hr⟩))
      simp; omega
    · have h := of_decide_eq_false h
      by_cases hl0 : l < 0
      · rw [if_pos hl0] at hr
        cases hx : w.high with
        | none =>
          rw [hx] at hr
          refine wp_seq (wp_if (b := true) (by simp [hl0, nD]) (fun _ => ?_) fun h => nomatch h)
          refine wp_seq (wp_ret rfl ?_)
          rw [← hr]; rfl
        | some y =>
          rw [hx] at hr
          have := hh y hx
          refine wp_seq (wp_if (b := false) (by simp [nD]) (fun h => nomatch h) fun _ => wp_sk ?_)
          refine wp_seq (wp_if (b := true) (by simp [hl0]) (fun _ => ?_) fun h => nomatch h)
          exact wp_seq (wp_set (d := .int (t + l * y)) (by simp (disch := omega) [mulI_r, nD]) (wp_sk (wp_sk ⟨_, _, _, _, _, _, rfl, hr⟩)))
      · rw [if_neg hl0] at hr
        have : l = 0 := by omega
        subst this
        refine wp_seq (wp_if (b := false) (by simp) (fun h => nomatch h) fun _ => wp_sk ?_)
        refine wp_seq (wp_if (b := false) (by simp) (fun h => nomatch h) fun _ => wp_sk (wp_sk ⟨_, _, _, _, _, _, rfl, ?_⟩))
        rw [← hr]; simp
  · rintro _ ⟨t, o5, o6, o7, o8, o9, rfl, hr⟩
    refine wp_seq (wp_ret rfl ?_)
    rw [← hr]; rfl
theorem dotV_comm (xs ys : List Int) : dotV xs ys = dotV ys xs := by
  unfold dotV
  induction xs generalizing ys with
  | nil => cases ys <;> rfl
  | cons x xs ih => cases ys with
    | nil => rfl
    | cons y ys => simp only [List.zip_cons_cons, List.map_cons, List.sum_cons, ih ys, Int.mul_comm x y]
theorem bound_eq {needs : List Int} {ways : List Wy} (ps : List Int) (h : NetOk needs.length needs ways) (hp : ps.length = needs.length) (hn : needs.length ≤ 100000) : F_bound [netD needs ways, .lst (ps.map .int)] = .ok (nD (bndV needs ways ps)) := by
  refine fn_of_wp ?_
  rw [show ini 11 [netD needs ways, .lst (ps.map .int)] = [some (netD needs ways), some (.lst (ps.map .int)), none, none, none, none, none, none, none, none, none] from rfl]
  refine wp_seq (wp_expr (d := .non) (by simp [check_eq h]) ?_)
  refine wp_seq (wp_set (d := .int (dotV needs ps)) ?_ ?_)
  · have := comp_F (e := [some (netD needs ways), some (.lst (ps.map .int)), none, none, none, none, none, none, none, none, none]) (it := (aI zipO (consF (vF 1) (consF (b2 ixD (vF 0) (cF (.int 0))) nilF)))) (own := [3, 4]) (tg := (gTu 2 (gTc (gN 3) (gTc (gN 4) gT0)))) (f := (b2 (i2 mulI) (vF 3) (vF 4))) (xs := ps.zip needs) (gg := fun z => .tup [.int z.1, .int z.2]) (hh := fun z => .int (z.1 * z.2)) (by simp [netD, zipL_map]) (by simp [lim]; omega) (fun x hx => by
      obtain ⟨w, g⟩ := x
      have := h.bd g (List.of_mem_zip hx).2
      refine ⟨_, by simp [ewipe]; rfl, ?_⟩
      simp (disch := omega) [mulI_r])
    simp only [aF_ap, consF_ap, this, nilF_ap, Rz.bind_ok, sum_map]
    rw [dotV_comm]; rfl
  simp only [set_2]
  refine wp_seq (wp_forR (xs := ways) (gg := wyD) (by simp [lOf, netD]) (fun rest e => ∃ (t : Int) (o5 o6 o7 o8 o9 o10 : Option D), e = [some (netD needs ways), some (.lst (ps.map .int)), some (.int t), none, none, o5, o6, o7, o8, o9, o10] ∧ bnd ps rest t = bndV needs ways ps) ⟨_, _, _, _, _, _, _, rfl, rfl⟩ ?_ ?_)
  · rintro w rest _ hw ⟨t, o5, o6, o7, o8, o9, o10, rfl, hr⟩
    obtain ⟨ha, hb, hl, hh, _⟩ := h.each w hw
    refine ⟨_, by simp [wyD]; rfl, ?_⟩
    refine wp_seq (wp_set (d := .int (leftP ps w)) ?_ ?_)
    · simp only [b2_ap, vF_1, vF_5, vF_6, vF_9, Rz.bind_ok, ixD_ints (ns := ps) (k := (w.a : Int)) (j := w.a) rfl (by omega), ixD_ints (ns := ps) (k := (w.b : Int)) (j := w.b) rfl (by omega), i2_int, subI_ap, addI_ap, leftP]
    simp only [set_10]
    rw [bnd] at hr
    generalize leftP ps w = l at *
    by_cases hl0 : l < 0
    · have hg : ¬ 0 ≤ l := by omega
      rw [if_pos hl0] at hr
      cases hx : w.high with
      | none =>
        rw [hx] at hr
        refine wp_seq (wp_if (b := true) (by simp [hl0, nD]) (fun _ => ?_) fun h => nomatch h)
        refine wp_seq (wp_ret rfl ?_)
        rw [← hr]; rfl
      | some y =>
        rw [hx] at hr
        have := hh y hx
        refine wp_seq (wp_if (b := false) (by simp [nD]) (fun h => nomatch h) fun _ => wp_sk ?_)
        exact wp_seq (wp_aug (z := .int (t + l * y)) rfl (by simp (disch := omega) [Pv.iteF, hg, mulI_r, nD]; rfl) rfl (wp_sk ⟨_, _, _, _, _, _, _, rfl, hr⟩))
    · have hg : 0 ≤ l := by omega
      rw [if_neg hl0] at hr
      refine wp_seq (wp_if (b := false) (by simp [hl0]) (fun h => nomatch h) fun _ => wp_sk ?_)
      exact wp_seq (wp_aug (z := .int (t + l * w.low)) rfl (by simp (disch := omega) [Pv.iteF, hg, mulI_r, nD]; rfl) rfl (wp_sk ⟨_, _, _, _, _, _, _, rfl, hr⟩))
  · rintro _ ⟨t, o5, o6, o7, o8, o9, o10, rfl, hr⟩
    refine wp_seq (wp_ret rfl ?_)
    rw [← hr]; rfl
/-- the prices bound the costs -/
theorem dot_set : ∀ (l ps : List Int) (i : Nat) (x : Int), i < l.length → i < ps.length → dotV (l.set i (l.getD i 0 + x)) ps = dotV l ps + x * ps.getD i 0
  | a :: l, p :: ps, 0, x, _, _ => by simp [dotV, Int.add_mul]; omega
  | a :: l, p :: ps, i + 1, x, h, h2 => by
    have := dot_set l ps i x (by simpa using h) (by simpa using h2)
    simp only [dotV, List.getD_eq_getElem?_getD] at this ⊢
    simp only [List.set_cons_succ, List.zip_cons_cons, List.map_cons, List.sum_cons, List.getElem?_cons_succ, this]; omega
theorem dot_addAt {l ps : List Int} {i : Nat} {x : Int} (h : i < l.length) (h2 : ps.length = l.length) : dotV (addAt l i x) ps = dotV l ps + x * ps.getD i 0 := dot_set l ps i x h (by omega)
theorem dot_zero (n : Nat) (ps : List Int) : dotV (List.replicate n 0) ps = 0 := by
  induction n generalizing ps with
  | zero => rfl
  | succ n ih => cases ps with
    | nil => rfl
    | cons p ps => have := ih ps; simp only [dotV] at this ⊢; simp [List.replicate_succ, this]
theorem duality (ps : List Int) : ∀ (z : List (Wy × Int)) (l : List Int) (t b : Int), (∀ x ∈ z, WyOk l.length x.1) → ps.length = l.length → goRec z l = true → bnd ps (z.map (·.1)) t = some b → b ≤ t - dotV l ps + (z.map fun z => z.1.each * z.2).sum
  | [], l, t, b, _, _, hg, hb => by
    rw [goRec] at hg
    have := eq_of_beq hg
    rw [this, dot_zero]
    cases hb; simp
  | (w, g) :: z, l, t, b, hw, hp, hg, hb => by
    obtain ⟨ha, hb', hl, hh, _⟩ := hw (w, g) List.mem_cons_self
    simp only at ha hb'
    rw [goRec, Bool.and_eq_true] at hg
    obtain ⟨hg1, hg2⟩ := hg
    have ih := duality ps z (addAt (addAt l w.a (-g)) w.b g)
    have hd : dotV (addAt (addAt l w.a (-g)) w.b g) ps = dotV l ps - g * ps.getD w.a 0 + g * ps.getD w.b 0 := by
      rw [dot_addAt (by simp; omega) (by simp; omega), dot_addAt (by omega) hp, Int.neg_mul]; omega
    have hw' : ∀ x ∈ z, WyOk (addAt (addAt l w.a (-g)) w.b g).length x.1 := fun x hx => by
      rw [addAt_len, addAt_len]; exact hw x (List.mem_cons_of_mem _ hx)
    simp only [inB, Bool.and_eq_true, decide_eq_true_eq] at hg1
    simp only [List.map_cons, List.sum_cons, bnd] at hb ⊢
    by_cases h0 : leftP ps w < 0
    · rw [if_pos h0] at hb
      cases hx : w.high with
      | none => rw [hx] at hb; cases hb
      | some y =>
        rw [hx] at hb hg1
        have hgy : g ≤ y := by simpa using hg1.2
        have := ih _ b hw' (by simp; omega) hg2 hb
        rw [hd] at this
        have h1 : leftP ps w * y ≤ leftP ps w * g := Int.mul_le_mul_of_nonpos_left (by omega) hgy
        have h2 : leftP ps w * g = w.each * g - ps.getD w.a 0 * g + ps.getD w.b 0 * g := by rw [leftP, Int.add_mul, Int.sub_mul]
        rw [Int.mul_comm g, Int.mul_comm g] at this
        omega
    · rw [if_neg h0] at hb
      have := ih _ b hw' (by simp; omega) hg2 hb
      rw [hd] at this
      have h1 : leftP ps w * w.low ≤ leftP ps w * g := Int.mul_le_mul_of_nonneg_left hg1.1 (by omega)
      have h2 : leftP ps w * g = w.each * g - ps.getD w.a 0 * g + ps.getD w.b 0 * g := by rw [leftP, Int.add_mul, Int.sub_mul]
      rw [Int.mul_comm g, Int.mul_comm g] at this
      omega
theorem bound_le {needs : List Int} {ways : List Wy} {ps going : List Int} {b : Int} (h : NetOk needs.length needs ways) (hp : ps.length = needs.length) (hg : goingV needs ways going = true) (hb : bndV needs ways ps = some b) : b ≤ costG ways going := by
  rw [goingV, Bool.and_eq_true, decide_eq_true_eq] at hg
  have := duality ps (ways.zip going) needs (dotV needs ps) b (fun x hx => h.each x.1 (List.of_mem_zip (a := x.1) (b := x.2) hx).1) hp hg.2 (by
    rw [List.map_fst_zip (by omega)]; exact hb)
  rw [costG]; omega
end Lib

set_option Elab.async false
set_option linter.all false
set_option maxRecDepth 100000
/-! Nets: the program's lookers at goings. -/
namespace Lib
open PySem L2 Pv
def leftV : List (Wy × Int) → List Int → List Int
  | [], l => l
  | z :: r, l => leftV r (addAt (addAt l z.1.a (-z.2)) z.1.b z.2)
theorem leftV_len : ∀ (z : List (Wy × Int)) (l : List Int), (leftV z l).length = l.length
  | [], _ => rfl
  | z :: r, l => by rw [leftV, leftV_len r]; simp
theorem getD_get {l : List Int} {i : Nat} (h : i < l.length) : (l.map D.int)[i]? = some (.int (l.getD i 0)) := by
  rw [List.getElem?_map, List.getElem?_eq_getElem h, List.getD_eq_getElem?_getD, List.getElem?_eq_getElem h]; rfl
theorem left_eq {needs : List Int} {ways : List Wy} (going : List Int) (h : NetOk needs.length needs ways) : F_left_over [netD needs ways, .lst (going.map .int)] = .ok (.lst ((leftV (ways.zip going) needs).map .int)) := by
  refine fn_of_wp ?_
  rw [show ini 5 [netD needs ways, .lst (going.map .int)] = [some (netD needs ways), some (.lst (going.map .int)), none, none, none] from rfl]
  refine wp_seq (wp_set (d := .lst (needs.map .int)) (by simp [netD_0]) ?_)
  simp only [set_2]
  refine wp_seq (wp_forR (xs := ways.zip going) (gg := fun z => .tup [wyD z.1, .int z.2]) (by simp [netD_1, zipL_map]) (fun rest e => ∃ (l : List Int) (o3 o4 : Option D), e = [some (netD needs ways), some (.lst (going.map .int)), some (.lst (l.map .int)), o3, o4] ∧ l.length = needs.length ∧ leftV rest l = leftV (ways.zip going) needs) ⟨needs, _, _, rfl, rfl, rfl⟩ ?_ ?_)
  · rintro ⟨w, g⟩ rest _ hw ⟨l, o3, o4, rfl, hll, hr⟩
    obtain ⟨ha, hb, _, _, _⟩ := h.each w (List.of_mem_zip hw).1
    refine ⟨_, by simp; rfl, ?_⟩
    refine wp_seq (wp_as0 (ds := l.map .int) (j := w.a) (z := w.a) (a := l.getD w.a 0) (c := g) rfl rfl (by simp [wyD]) rfl (getD_get (by omega)) (by simp) ?_)
    simp only [set_2]
    rw [set_ints]
    rw [show l.set w.a (l.getD w.a 0 - g) = addAt l w.a (-g) from rfl]
    refine wp_seq (wp_as0 (ds := (addAt l w.a (-g)).map .int) (j := w.b) (z := w.b) (a := (addAt l w.a (-g)).getD w.b 0) (c := g) rfl rfl (by simp [wyD]) rfl (getD_get (by simp; omega)) (by simp) ?_)
    simp only [set_2]
    rw [set_ints]
    exact wp_sk ⟨addAt (addAt l w.a (-g)) w.b g, _, _, rfl, by simp [hll], hr⟩
  · rintro _ ⟨l, o3, o4, rfl, hll, hr⟩
    refine wp_seq (wp_ret rfl ?_)
    rw [← hr]; rfl
theorem within_eq (w : Wy) (g : Int) : F_is_within [wyD w, .int g] = .ok (.bl (inB (w, g))) := by
  refine fn_of_wp ?_
  refine wp_seq (wp_ret ?_ rfl)
  cases hx : w.high with
  | none => simp [ini, wyD, hx, nD, inB]; by_cases h : w.low ≤ g <;> simp [h]
  | some y => simp [ini, wyD, hx, nD, inB]; by_cases h : w.low ≤ g <;> simp [h]
theorem goRec_eq : ∀ (z : List (Wy × Int)) (l : List Int), goRec z l = (z.all inB && (leftV z l).all fun x => x == 0)
  | [], l => by
    rw [goRec, leftV]
    simp only [List.all_nil, Bool.true_and]
    induction l with
    | nil => rfl
    | cons a l ih => rw [List.all_cons, ← ih, List.length_cons, List.replicate_succ]; rfl
  | z :: r, l => by rw [goRec, leftV, goRec_eq r, List.all_cons, Bool.and_assoc]
theorem isgoing_eq {needs : List Int} {ways : List Wy} (going : List Int) (h : NetOk needs.length needs ways) (hn : needs.length ≤ 100000) : F_is_going [netD needs ways, .lst (going.map .int)] = .ok (.bl (goingV needs ways going)) := by
  refine fn_of_wp ?_
  rw [show ini 5 [netD needs ways, .lst (going.map .int)] = [some (netD needs ways), some (.lst (going.map .int)), none, none, none] from rfl]
  have hm := h.many
  refine wp_seq (wp_expr (d := .non) (by simp [check_eq h]) ?_)
  refine wp_seq (wp_if (b := !decide (going.length = ways.length)) ?_ (fun h => ?_) fun hl => wp_sk ?_)
  · simp [netD_1]
    by_cases h : going.length = ways.length <;> simp [h] <;> omega
  · refine wp_seq (wp_ret (d := .bl false) rfl ?_)
    have h : decide (going.length = ways.length) = false := by simpa using h
    rw [goingV, h, Bool.false_and]
  have hl : decide (going.length = ways.length) = true := by simpa using hl
  rw [goingV, hl, Bool.true_and, goRec_eq]
  have h1 := comp_F (e := [some (netD needs ways), some (.lst (going.map .int)), none, none, none]) (it := (aI zipO (consF (b2 ixD (vF 0) (cF (.int 1))) (consF (vF 1) nilF)))) (own := [2, 3]) (tg := (gTu 2 (gTc (gN 2) (gTc (gN 3) gT0)))) (f := (aF (cO 2 F_is_within) (consF (vF 2) (consF (vF 3) nilF)))) (xs := ways.zip going) (gg := fun z => .tup [wyD z.1, .int z.2]) (hh := fun z => .bl (inB z)) (by simp [netD_1, zipL_map]) (by simp [lim]; omega) (fun x hx => by
    obtain ⟨w, g⟩ := x
    refine ⟨_, by simp [ewipe]; rfl, ?_⟩
    simp [within_eq])
  refine wp_seq (wp_if (b := !((ways.zip going).all inB)) ?_ (fun h => ?_) fun h2 => wp_sk ?_)
  · simp only [notF_ap, tF_ap, aF_ap, consF_ap, nilF_ap, h1, Rz.bind_ok, allO_map, toB_bl]
  · refine wp_seq (wp_ret (d := .bl false) rfl ?_)
    have h : (ways.zip going).all inB = false := by simpa only [Bool.not_eq_true'] using h
    rw [h, Bool.false_and]
  have h2 : (ways.zip going).all inB = true := by simpa only [Bool.not_eq_false'] using h2
  rw [h2, Bool.true_and]
  refine wp_seq (wp_ret ?_ rfl)
  have h3 := comp_F (e := [some (netD needs ways), some (.lst (going.map .int)), none, none, none]) (it := (lOf (aF (cO 2 F_left_over) (consF (vF 0) (consF (vF 1) nilF))))) (own := [4]) (tg := gN 4) (f := (b2 eqD (vF 4) (cF (.int 0)))) (xs := leftV (ways.zip going) needs) (gg := .int) (hh := fun x => .bl (x == 0)) (by simp [left_eq going h]) (by rw [leftV_len]; simp [lim]; omega) (fun x hx => ⟨_, rfl, by simp [ewipe]⟩)
  simp only [aF_ap, consF_ap, nilF_ap, h3, Rz.bind_ok, allO_map]
theorem costof_eq {needs : List Int} {ways : List Wy} (going : List Int) (h : NetOk needs.length needs ways) : F_cost_of [netD needs ways, .lst (going.map .int)] = .ok (.int (costG ways going)) := by
  refine fn_of_wp ?_
  rw [show ini 4 [netD needs ways, .lst (going.map .int)] = [some (netD needs ways), some (.lst (going.map .int)), none, none] from rfl]
  refine wp_seq (wp_expr (d := .non) (by simp [check_eq h]) ?_)
  refine wp_seq (wp_ret ?_ rfl)
  have hm := h.many
  have := comp_F (e := [some (netD needs ways), some (.lst (going.map .int)), none, none]) (it := (aI zipO (consF (b2 ixD (vF 0) (cF (.int 1))) (consF (vF 1) nilF)))) (own := [2, 3]) (tg := (gTu 2 (gTc (gN 2) (gTc (gN 3) gT0)))) (f := (b2 (i2 mulI) (b2 ixD (vF 2) (cF (.int 4))) (vF 3))) (xs := ways.zip going) (gg := fun z => .tup [wyD z.1, .int z.2]) (hh := fun z => .int (z.1.each * z.2)) (by simp [netD_1, zipL_map]) (by simp [lim]; omega) (fun x hx => by
    obtain ⟨w, g⟩ := x
    have := (h.each w (List.of_mem_zip hx).1).each
    refine ⟨_, by simp [ewipe]; rfl, ?_⟩
    simp (disch := omega) [wyD, mulI_l])
  simp only [aF_ap, consF_ap, this, nilF_ap, Rz.bind_ok, sum_map]
  rfl
end Lib

set_option Elab.async false
set_option linter.all false
set_option maxRecDepth 100000
/-! Lots of knots. -/
namespace Lib
open PySem L2 Pv
theorem inD_ints (x : Int) (ns : List Int) : inD (.int x) (.lst (ns.map .int)) = .ok (.bl (ns.contains x)) := by
  unfold inD
  simp only
  rw [if_pos ⟨rfl, okQs_ints ns 20⟩]
  congr 2
  rw [List.any_map, List.contains_eq_any_beq]
  congr 1
  funext y
  simp only [Function.comp, eqq_int]
  rw [Bool.eq_iff_iff]; simp; exact eq_comm
theorem ninD_ints (x : Int) (ns : List Int) : ninD (.int x) (.lst (ns.map .int)) = .ok (.bl (!ns.contains x)) := by
  unfold ninD
  simp only
  rw [if_pos ⟨rfl, okQs_ints ns 20⟩]
  congr 3
  rw [List.any_map, List.contains_eq_any_beq]
  congr 1
  funext y
  simp only [Function.comp, eqq_int]
  rw [Bool.eq_iff_iff]; simp; exact eq_comm
/-- what a lot lacks, way by way -/
def lotRec (lot : List Int) : List Wy → Int → Bool
  | [], m => decide (0 < m)
  | w :: r, m => if lot.contains (w.a : Int) && !lot.contains (w.b : Int) then (match w.high with
      | none => false
      | some h => lotRec lot r (m - h)) else if lot.contains (w.b : Int) && !lot.contains (w.a : Int) then lotRec lot r (m + w.low) else lotRec lot r m
def lotOk (n : Nat) (lot : List Int) : Bool := !lot.isEmpty && decide (lot.Nodup) && lot.all fun x => decide (0 ≤ x ∧ x < n)
def lotV (needs : List Int) (ways : List Wy) (lot : List Int) : Bool := lotOk needs.length lot && lotRec lot ways ((lot.map fun x => needs.getD x.toNat 0).sum)
/-- 1 in the lot, 0 beside it -/
def indV (n : Nat) (lot : List Int) : List Int := (List.range n).map fun (i : Nat) => if lot.contains (i : Int) then 1 else 0
theorem indV_get {n : Nat} {lot : List Int} {i : Nat} (h : i < n) : (indV n lot).getD i 0 = if lot.contains (i : Int) then 1 else 0 := by
  simp [indV, List.getD_eq_getElem?_getD, h]
theorem lot_dual (lot : List Int) (n : Nat) : ∀ (z : List (Wy × Int)) (l : List Int) (m : Int), (∀ x ∈ z, WyOk n x.1) → l.length = n → goRec z l = true → lotRec lot (z.map (·.1)) m = true → dotV l (indV n lot) < m
  | [], l, m, _, hl, hg, hb => by
    rw [goRec] at hg
    have := eq_of_beq hg
    rw [this, dot_zero]
    simpa [lotRec] using hb
  | (w, g) :: z, l, m, hw, hl, hg, hb => by
    obtain ⟨ha, hb', hlw, hh, _⟩ := hw (w, g) List.mem_cons_self
    simp only at ha hb'
    rw [goRec, Bool.and_eq_true] at hg
    obtain ⟨hg1, hg2⟩ := hg
    have hil : (indV n lot).length = n := by simp [indV]
    have hd : dotV (addAt (addAt l w.a (-g)) w.b g) (indV n lot) = dotV l (indV n lot) - g * (indV n lot).getD w.a 0 + g * (indV n lot).getD w.b 0 := by
      rw [dot_addAt (by simp; omega) (by simp; omega), dot_addAt (by omega) (by omega), Int.neg_mul]; omega
    rw [indV_get ha, indV_get hb'] at hd
    have ih := fun m => lot_dual lot n z (addAt (addAt l w.a (-g)) w.b g) m (fun x hx => hw x (List.mem_cons_of_mem _ hx)) (by simp [hl]) hg2
    simp only [inB, Bool.and_eq_true, decide_eq_true_eq] at hg1
    rw [List.map_cons, lotRec] at hb
    cases h1 : lot.contains (w.a : Int) <;> cases h2 : lot.contains (w.b : Int) <;> simp only [h1, h2, Bool.and_true, Bool.and_false, Bool.not_true, Bool.not_false, Bool.false_and, Bool.true_and, if_true, if_false, Bool.false_eq_true] at hb hd
    · have := ih m hb; omega
    · have := ih _ hb; omega
    · cases hx : w.high with
      | none => rw [hx] at hb; cases hb
      | some y =>
        rw [hx] at hb hg1
        have hgy : g ≤ y := by simpa using hg1.2
        have := ih _ hb; omega
    · have := ih m hb; omega
theorem indV_cons {n : Nat} {x : Nat} {r : List Int} (hx : x < n) (hn : (x : Int) ∉ r) : addAt (indV n r) x 1 = indV n ((x : Int) :: r) := by
  unfold addAt
  rw [indV_get hx]
  have h0 : r.contains (x : Int) = false := by simpa using hn
  rw [h0]
  refine List.ext_getElem? fun i => ?_
  by_cases hi : i < n
  · by_cases hix : x = i
    · subst hix
      rw [List.getElem?_set_self (by simp [indV, hi])]
      simp [indV, hi]
    · rw [List.getElem?_set_ne hix]
      simp only [indV, List.getElem?_map, List.getElem?_range hi, Option.map_some]
      have : ((i : Int) == (x : Int)) = false := by
        cases h : (i : Int) == (x : Int) with
        | false => rfl
        | true => exact absurd (Int.ofNat.inj (eq_of_beq h)).symm hix
      simp only [List.contains_cons, this, Bool.false_or]
  · rw [List.getElem?_eq_none_iff.mpr (by simp [indV]; omega), List.getElem?_eq_none_iff.mpr (by simp [indV]; omega)]
theorem lot_sum (needs : List Int) : ∀ (lot : List Int), lot.Nodup → (∀ x ∈ lot, 0 ≤ x ∧ x < needs.length) → dotV needs (indV needs.length lot) = (lot.map fun x => needs.getD x.toNat 0).sum
  | [], _, _ => by
    rw [dotV_comm]
    have : indV needs.length [] = List.replicate needs.length 0 := by simp [indV, List.map_const']
    rw [this, dot_zero]; rfl
  | x :: r, hn, hr => by
    obtain ⟨h1, h2⟩ := List.nodup_cons.mp hn
    have hx := hr x List.mem_cons_self
    obtain ⟨i, rfl⟩ : ∃ i : Nat, x = (i : Int) := ⟨x.toNat, by omega⟩
    have ih := lot_sum needs r h2 fun y hy => hr y (List.mem_cons_of_mem _ hy)
    rw [← indV_cons (by omega) h1, dotV_comm, dot_addAt (by simp [indV]; omega) (by simp [indV]), dotV_comm, ih]
    simp only [List.map_cons, List.sum_cons, Int.toNat_natCast]; omega
/-- sorted(lot) = the knots of the lot, just where it is one -/
theorem srt_filter (n : Nat) (lot : List Int) : (srtI lot == ((List.range n).filter fun (i : Nat) => lot.contains (i : Int)).map fun (i : Nat) => (i : Int)) = (decide lot.Nodup && lot.all fun x => decide (0 ≤ x ∧ x < n)) := by
  generalize hk : ((List.range n).filter fun (i : Nat) => lot.contains (i : Int)).map (fun (i : Nat) => (i : Int)) = ks
  have hks : ks.Pairwise (· < ·) := by
    rw [← hk]
    refine List.Pairwise.map _ (fun a b (h : a < b) => by omega) ?_
    exact List.Pairwise.filter _ List.pairwise_lt_range
  have hmem : ∀ x, x ∈ ks ↔ x ∈ lot ∧ 0 ≤ x ∧ x < n := fun x => by
    rw [← hk]
    simp only [List.mem_map, List.mem_filter, List.mem_range, List.contains_iff_mem]
    constructor
    · rintro ⟨i, ⟨h1, h2⟩, rfl⟩; exact ⟨h2, by omega, by omega⟩
    · rintro ⟨h1, h2, h3⟩; exact ⟨x.toNat, ⟨by omega, by rw [Int.toNat_of_nonneg h2]; exact h1⟩, Int.toNat_of_nonneg h2⟩
  have hnd : ks.Nodup := hks.imp fun h => by omega
  rw [Bool.eq_iff_iff, beq_iff_eq, Bool.and_eq_true, decide_eq_true_eq, List.all_eq_true]
  constructor
  · intro h
    have p := srtI_perm lot
    rw [h] at p
    exact ⟨p.nodup_iff.mp hnd, fun x hx => decide_eq_true ((hmem x).mp (p.mem_iff.mpr hx)).2⟩
  · rintro ⟨h1, h2⟩
    refine (srtI_uni ?_ (hks.imp fun h => by omega)).symm
    refine (List.perm_ext_iff_of_nodup hnd h1).mpr fun x => ?_
    rw [hmem]
    exact ⟨fun h => h.1, fun h => ⟨h, of_decide_eq_true (h2 x h)⟩⟩
theorem firstMet_le (ns : List Int) : ∀ i, i ≤ ns.length → ((PyProof.Rows.firstMet (fun i => ns.getD i 0) i).length = i ↔ (ns.take i).Nodup) ∧ ∀ x, x ∈ PyProof.Rows.firstMet (fun i => ns.getD i 0) i ↔ x ∈ ns.take i
  | 0, _ => by simp [PyProof.Rows.firstMet_zero]
  | i + 1, hi => by
    obtain ⟨h1, h2⟩ := firstMet_le ns i (by omega)
    have hl := PyProof.Rows.firstMet_length_le (fun i => ns.getD i 0) i
    have e1 : ns.getD i 0 = ns[i] := by rw [List.getD_eq_getElem?_getD, List.getElem?_eq_getElem (by omega)]; rfl
    have e2 : ns.take (i + 1) = ns.take i ++ [ns[i]] := by
      rw [List.take_add_one, List.getElem?_eq_getElem (by omega)]; rfl
    rw [PyProof.Rows.firstMet_succ, e2]
    unfold PyProof.Rows.step_dedup
    by_cases hb : (PyProof.Rows.firstMet (fun i => ns.getD i 0) i).any (· == ns.getD i 0) = true
    · rw [if_pos hb]
      obtain ⟨y, hy, ey⟩ := List.any_eq_true.mp hb
      have ey : y = ns[i] := (eq_of_beq ey).trans e1
      subst ey
      have hm := (h2 _).mp hy
      refine ⟨⟨fun h => by omega, fun h => ?_⟩, fun x => ?_⟩
      · rw [List.nodup_append] at h
        exact absurd rfl (h.2.2 _ hm _ (by simp))
      · rw [h2, List.mem_append, List.mem_singleton]
        exact ⟨.inl, fun h => h.elim id fun h => h ▸ hm⟩
    · rw [if_neg hb]
      have hnm : ns[i] ∉ ns.take i := fun z => hb (List.any_eq_true.mpr ⟨ns[i], (h2 _).mpr z, by rw [e1]; exact beq_self_eq_true _⟩)
      refine ⟨?_, fun x => ?_⟩
      · rw [List.length_append, List.length_singleton, Nat.add_right_cancel_iff, h1, List.nodup_append]
        exact ⟨fun h => ⟨h, by simp, fun x hx y hy e => hnm (by rw [List.mem_singleton] at hy; rw [← hy, ← e]; exact hx)⟩, fun h => h.1⟩
      · rw [List.mem_append, List.mem_append, h2, e1]
theorem lenSet_eq (ns : List Int) (h : ns.length ≤ 4000) : ∃ m : Nat, lenSetD (.lst (ns.map .int)) = .ok (.int m) ∧ (m = ns.length ↔ ns.Nodup) := by
  refine ⟨(PyProof.Rows.firstMet (fun i => ns.getD i 0) ns.length).length, ?_, ?_⟩
  · unfold lenSetD
    simp only [ints1_map, h, if_true]
  · have := (firstMet_le ns ns.length (Nat.le_refl _)).1
    rw [List.take_length] at this
    exact this
theorem foldmin_iff (ns : List Int) (n k : Int) : (ns.foldl min n < k) ↔ ∃ x ∈ n :: ns, x < k := by
  induction ns generalizing n with
  | nil => simp
  | cons a ns ih =>
    rw [List.foldl_cons, ih]
    simp only [List.mem_cons, exists_eq_or_imp]
    constructor
    · rintro (h | h)
      · by_cases h2 : n < k
        · exact .inl h2
        · exact .inr (.inl (by omega))
      · exact .inr (.inr h)
    · rintro (h | h | h)
      · exact .inl (by omega)
      · exact .inl (by omega)
      · exact .inr h
theorem foldmax_iff (ns : List Int) (n k : Int) : (k ≤ ns.foldl max n) ↔ ∃ x ∈ n :: ns, k ≤ x := by
  induction ns generalizing n with
  | nil => simp
  | cons a ns ih =>
    rw [List.foldl_cons, ih]
    simp only [List.mem_cons, exists_eq_or_imp]
    constructor
    · rintro (h | h)
      · by_cases h2 : k ≤ n
        · exact .inl h2
        · exact .inr (.inl (by omega))
      · exact .inr (.inr h)
    · rintro (h | h | h)
      · exact .inl (by omega)
      · exact .inl (by omega)
      · exact .inr h
/-- the sum over a lot -/
theorem lotsum_ok {e : En} {own : List Nat} {i t : Nat} (needs lot : List Int) (hl : lot.length ≤ lim) (hr : ∀ x ∈ lot, 0 ≤ x ∧ x < needs.length) (it : En → Rz (List D)) (hit : it e = .ok (lot.map .int)) (h : ∀ x : Int, ∃ e1, gN t (.int x) (ewipe e own) = .ok e1 ∧ vF i e1 = .ok (.lst (needs.map .int)) ∧ vF t e1 = .ok (.int x)) :
    aF (onInts fun ns => .ok (.int ns.sum)) (consF (compF it own (gN t) yesF (b2 ixD (vF i) (vF t))) nilF) e = .ok (.int (lot.map fun x => needs.getD x.toNat 0).sum) := by
  have := comp_F (e := e) (it := it) (own := own) (tg := gN t) (f := b2 ixD (vF i) (vF t)) (xs := lot) (gg := .int) (hh := fun x => .int (needs.getD x.toNat 0)) hit hl (fun x hx => by
    obtain ⟨e1, h1, h2, h3⟩ := h x
    refine ⟨e1, h1, ?_⟩
    have := hr x hx
    simp only [b2_ap, h2, h3, Rz.bind_ok]
    exact ixD_ints (by omega) (by omega))
  simp only [aF_ap, consF_ap, this, nilF_ap, Rz.bind_ok, sum_map]
theorem lawlot_eq {needs : List Int} {ways : List Wy} (lot : List Int) (h : NetOk needs.length needs ways) (hn : needs.length ≤ 100000) (hl : lot.length ≤ 1000) : F__law_is_lot [netD needs ways, .lst (lot.map .int)] = .ok (.bl (lotV needs ways lot)) := by
  refine fn_of_wp ?_
  rw [show ini 11 [netD needs ways, .lst (lot.map .int)] = [some (netD needs ways), some (.lst (lot.map .int)), none, none, none, none, none, none, none, none, none] from rfl]
  refine wp_seq (wp_unp (d := netD needs ways) (e' := [some (netD needs ways), some (.lst (lot.map .int)), some (.lst (needs.map .int)), some (.lst (ways.map wyD)), none, none, none, none, none, none, none]) (by simp) rfl ?_)
  have hc := comp_FF (e := [some (netD needs ways), some (.lst (lot.map .int)), some (.lst (needs.map .int)), some (.lst (ways.map wyD)), none, none, none, none, none, none, none]) (it := (aI rng1 (consF (aF lenO (consF (vF 2) nilF)) nilF))) (own := [4]) (tg := gN 4) (t := (tF (b2 inD (vF 4) (vF 1)))) (f := vF 4) (xs := List.range needs.length) (gg := fun (i : Nat) => .int (i : Int)) (hh := fun (i : Nat) => .int (i : Int)) (fun (i : Nat) => lot.contains (i : Int)) (by simp (disch := omega) [rng1_ok, upto_nat]) (by simp [lim]; omega) (fun x hx => ⟨_, rfl, by simp only [ewipe, set_4, tF_ap, b2_ap, vF_4, vF_1, Rz.bind_ok, inD_ints, toB_bl], fun _ => rfl⟩)
  have hmap : ((List.range needs.length).filter fun (i : Nat) => lot.contains (i : Int)).map (fun (i : Nat) => D.int (i : Int)) = (((List.range needs.length).filter fun (i : Nat) => lot.contains (i : Int)).map fun (i : Nat) => (i : Int)).map D.int := by rw [List.map_map]; rfl
  rw [hmap] at hc
  have hs : sortedO [.lst (lot.map .int)] = .ok (.lst ((srtI lot).map .int)) := by
    unfold sortedO; simp only [ints1_map]
  refine wp_seq (wp_if (b := !lotOk needs.length lot) ?_ (fun h => ?_) fun h1 => wp_sk ?_)
  · simp only [orF_ap, tF_ap, b2_ap, vF_1, aF_ap, consF_ap, nilF_ap, Rz.bind_ok, lstO_0, eqD_nil _ (okQs_ints lot 19), toB_bl, hs, hc, neD_ints, srt_filter]
    unfold lotOk
    cases lot <;> simp
  · refine wp_seq (wp_ret (d := .bl false) rfl ?_)
    have h : lotOk needs.length lot = false := by simpa using h
    rw [lotV, h, Bool.false_and]
  have h1 : lotOk needs.length lot = true := by simpa using h1
  rw [lotV, h1, Bool.true_and]
  have hr : ∀ x ∈ lot, 0 ≤ x ∧ x < needs.length := fun x hx => by
    unfold lotOk at h1
    rw [Bool.and_eq_true, List.all_eq_true] at h1
    exact of_decide_eq_true (h1.2 x hx)
  refine wp_seq (wp_set (lotsum_ok needs lot (by simp [lim]; omega) hr (lOf (vF 1)) (by simp) fun x => ⟨_, rfl, rfl, rfl⟩) ?_)
  simp only [set_5]
  generalize hm : (lot.map fun x => needs.getD x.toNat 0).sum = m0
  refine wp_seq (wp_forR (xs := ways) (gg := wyD) (by simp) (fun rest e => ∃ (m : Int) (o6 o7 o8 o9 o10 : Option D), e = [some (netD needs ways), some (.lst (lot.map .int)), some (.lst (needs.map .int)), some (.lst (ways.map wyD)), none, some (.int m), o6, o7, o8, o9, o10] ∧ lotRec lot rest m = lotRec lot ways m0) ⟨_, _, _, _, _, _, rfl, rfl⟩ ?_ ?_)
  · rintro w rest _ hw ⟨m, o6, o7, o8, o9, o10, rfl, hr⟩
    refine ⟨_, by simp [wyD]; rfl, ?_⟩
    rw [lotRec] at hr
    cases h1 : lot.contains (w.a : Int) <;> cases h2 : lot.contains (w.b : Int) <;> simp only [h1, h2, Bool.and_true, Bool.and_false, Bool.not_true, Bool.not_false, Bool.false_and, Bool.true_and, if_true, if_false, Bool.false_eq_true] at hr
    · refine wp_seq (wp_if (b := false) (by simp only [set_4, set_5, andF_ap, tF_ap, b2_ap, vF_1, vF_6, vF_7, Rz.bind_ok, inD_ints, ninD_ints, h1, h2, toB_bl, if_true, if_false, Bool.false_eq_true, Bool.not_true, Bool.not_false]) (fun h => nomatch h) fun _ => wp_sk ?_)
      exact wp_seq (wp_if (b := false) (by simp only [set_4, set_5, andF_ap, tF_ap, b2_ap, vF_1, vF_6, vF_7, Rz.bind_ok, inD_ints, ninD_ints, h1, h2, toB_bl, if_true, if_false, Bool.false_eq_true, Bool.not_true, Bool.not_false]) (fun h => nomatch h) fun _ => wp_sk (wp_sk ⟨_, _, _, _, _, _, rfl, hr⟩))
    · refine wp_seq (wp_if (b := false) (by simp only [set_4, set_5, andF_ap, tF_ap, b2_ap, vF_1, vF_6, vF_7, Rz.bind_ok, inD_ints, ninD_ints, h1, h2, toB_bl, if_true, if_false, Bool.false_eq_true, Bool.not_true, Bool.not_false]) (fun h => nomatch h) fun _ => wp_sk ?_)
      exact wp_seq (wp_if (b := true) (by simp only [set_4, set_5, andF_ap, tF_ap, b2_ap, vF_1, vF_6, vF_7, Rz.bind_ok, inD_ints, ninD_ints, h1, h2, toB_bl, if_true, if_false, Bool.false_eq_true, Bool.not_true, Bool.not_false]) (fun _ => wp_seq (wp_set (d := .int (m + w.low)) (by simp) (wp_sk (wp_sk ⟨_, _, _, _, _, _, rfl, hr⟩)))) fun h => nomatch h)
    · refine wp_seq (wp_if (b := true) (by simp only [set_4, set_5, andF_ap, tF_ap, b2_ap, vF_1, vF_6, vF_7, Rz.bind_ok, inD_ints, ninD_ints, h1, h2, toB_bl, if_true, if_false, Bool.false_eq_true, Bool.not_true, Bool.not_false]) (fun _ => ?_) fun h => nomatch h)
      cases hx : w.high with
      | none =>
        rw [hx] at hr
        refine wp_seq (wp_if (b := true) (by simp [nD]) (fun _ => wp_seq (wp_ret rfl ?_)) fun h => nomatch h)
        rw [← hr]
      | some y =>
        rw [hx] at hr
        refine wp_seq (wp_if (b := false) (by simp [nD]) (fun h => nomatch h) fun _ => wp_sk ?_)
        refine wp_seq (wp_set (d := .int (m - y)) (by simp [nD]) (wp_sk ?_))
        exact wp_seq (wp_if (b := false) (by simp only [set_4, set_5, andF_ap, tF_ap, b2_ap, vF_1, vF_6, vF_7, Rz.bind_ok, inD_ints, ninD_ints, h1, h2, toB_bl, if_true, if_false, Bool.false_eq_true, Bool.not_true, Bool.not_false]) (fun h => nomatch h) fun _ => wp_sk (wp_sk ⟨_, _, _, _, _, _, rfl, hr⟩))
    · refine wp_seq (wp_if (b := false) (by simp only [set_4, set_5, andF_ap, tF_ap, b2_ap, vF_1, vF_6, vF_7, Rz.bind_ok, inD_ints, ninD_ints, h1, h2, toB_bl, if_true, if_false, Bool.false_eq_true, Bool.not_true, Bool.not_false]) (fun h => nomatch h) fun _ => wp_sk ?_)
      exact wp_seq (wp_if (b := false) (by simp only [set_4, set_5, andF_ap, tF_ap, b2_ap, vF_1, vF_6, vF_7, Rz.bind_ok, inD_ints, ninD_ints, h1, h2, toB_bl, if_true, if_false, Bool.false_eq_true, Bool.not_true, Bool.not_false]) (fun h => nomatch h) fun _ => wp_sk (wp_sk ⟨_, _, _, _, _, _, rfl, hr⟩))
  · rintro _ ⟨m, o6, o7, o8, o9, o10, rfl, hr⟩
    refine wp_seq (wp_ret (d := .bl (lotRec lot ways m0)) ?_ rfl)
    rw [← hr, lotRec]; simp
theorem islot_eq {needs : List Int} {ways : List Wy} (lot : List Int) (h : NetOk needs.length needs ways) (hn : needs.length ≤ 100000) (hl : lot.length ≤ 1000) : F_is_lot [netD needs ways, .lst (lot.map .int)] = .ok (.bl (lotV needs ways lot)) := by
  refine fn_of_wp ?_
  rw [show ini 11 [netD needs ways, .lst (lot.map .int)] = [some (netD needs ways), some (.lst (lot.map .int)), none, none, none, none, none, none, none, none, none] from rfl]
  refine wp_seq (wp_expr (d := .non) (by simp [check_eq h]) ?_)
  refine wp_seq (wp_unp (d := netD needs ways) (e' := [some (netD needs ways), some (.lst (lot.map .int)), some (.lst (needs.map .int)), some (.lst (ways.map wyD)), none, none, none, none, none, none, none]) (by simp) rfl ?_)
  refine wp_seq (wp_if (b := !lotOk needs.length lot) ?_ (fun h => ?_) fun h1 => wp_sk ?_)
  · obtain ⟨s, hs, hs2⟩ := lenSet_eq lot (by omega)
    cases lot with
    | nil => rfl
    | cons a r =>
      have hmin : onInts minI [.lst ((a :: r).map .int)] = .ok (.int (r.foldl min a)) := onInts_map _ _
      have hmax : onInts maxI [.lst ((a :: r).map .int)] = .ok (.int (r.foldl max a)) := onInts_map _ _
      simp only [orF_ap, tF_ap, u1_ap, b2_ap, vF_1, vF_2, cF_ap, aF_ap, consF_ap, nilF_ap, Rz.bind_ok, lstO_0, eqD_nil _ (okQs_ints (a :: r) 19), toB_bl, hs, lenO_lst, neD_int, hmin, hmax, i2_int, ltI_ap, geI_ap, List.length_map]
      have e0 : ((a :: r).map D.int).isEmpty = false := rfl
      rw [e0]
      simp only [Bool.false_eq_true, if_false]
      unfold lotOk
      have ee : (a :: r).isEmpty = false := rfl
      rw [ee]
      by_cases hnd : (a :: r).Nodup
      · have := hs2.mpr hnd
        subst this
        simp only [hnd, decide_true, Bool.not_false, Bool.true_and, beq_self_eq_true, Bool.not_true, Bool.false_eq_true, if_false]
        by_cases h1 : r.foldl min a < 0
        · rw [if_pos (decide_eq_true h1)]
          obtain ⟨x, hx, hx2⟩ := (foldmin_iff r a 0).mp h1
          rw [List.all_eq_false.mpr ⟨x, hx, by simp; omega⟩]; rfl
        · rw [if_neg (by simpa using h1)]
          by_cases h2 : (needs.length : Int) ≤ r.foldl max a
          · obtain ⟨x, hx, hx2⟩ := (foldmax_iff r a _).mp h2
            rw [decide_eq_true h2, List.all_eq_false.mpr ⟨x, hx, by simp; omega⟩]; rfl
          · have hall : ((a :: r).all fun x => decide (0 ≤ x ∧ x < (needs.length : Int))) = true := List.all_eq_true.mpr fun x hx => decide_eq_true (by
              have h3 : ¬ x < 0 := fun z => h1 ((foldmin_iff r a 0).mpr ⟨x, hx, z⟩)
              have h4 : ¬ (needs.length : Int) ≤ x := fun z => h2 ((foldmax_iff r a _).mpr ⟨x, hx, z⟩)
              omega)
            rw [decide_eq_false h2, hall]
            try rfl
      · have hne : ¬ (s : Int) = ((a :: r).length : Int) := fun e => hnd (hs2.mp (by omega))
        have : ((s : Int) == ((a :: r).length : Int)) = false := by simpa using hne
        rw [this]
        simp only [hnd, decide_false, Bool.not_false, if_true, Bool.false_and, Bool.and_false]
  · refine wp_seq (wp_ret (d := .bl false) rfl ?_)
    have h : lotOk needs.length lot = false := by simpa using h
    rw [lotV, h, Bool.false_and]
  have h1 : lotOk needs.length lot = true := by simpa using h1
  rw [lotV, h1, Bool.true_and]
  have hr : ∀ x ∈ lot, 0 ≤ x ∧ x < needs.length := fun x hx => by
    unfold lotOk at h1
    rw [Bool.and_eq_true, List.all_eq_true] at h1
    exact of_decide_eq_true (h1.2 x hx)
  refine wp_seq (wp_set (lotsum_ok needs lot (by simp [lim]; omega) hr (lOf (vF 1)) (by simp) fun x => ⟨_, rfl, rfl, rfl⟩) ?_)
  simp only [set_4]
  generalize hm : (lot.map fun x => needs.getD x.toNat 0).sum = m0
  refine wp_seq (wp_forR (xs := ways) (gg := wyD) (by simp) (fun rest e => ∃ (m : Int) (o6 o7 o8 o9 o10 : Option D), e = [some (netD needs ways), some (.lst (lot.map .int)), some (.lst (needs.map .int)), some (.lst (ways.map wyD)), some (.int m), none, o6, o7, o8, o9, o10] ∧ lotRec lot rest m = lotRec lot ways m0) ⟨_, _, _, _, _, _, rfl, rfl⟩ ?_ ?_)
  · rintro w rest _ hw ⟨m, o6, o7, o8, o9, o10, rfl, hr⟩
    refine ⟨_, by simp [wyD]; rfl, ?_⟩
    rw [lotRec] at hr
    cases h1 : lot.contains (w.a : Int) <;> cases h2 : lot.contains (w.b : Int) <;> simp only [h1, h2, Bool.and_true, Bool.and_false, Bool.not_true, Bool.not_false, Bool.false_and, Bool.true_and, if_true, if_false, Bool.false_eq_true] at hr
    · refine wp_seq (wp_if (b := false) (by simp only [set_4, set_5, andF_ap, tF_ap, b2_ap, vF_1, vF_6, vF_7, Rz.bind_ok, inD_ints, ninD_ints, h1, h2, toB_bl, if_true, if_false, Bool.false_eq_true, Bool.not_true, Bool.not_false]) (fun h => nomatch h) fun _ => wp_sk ?_)
      exact wp_seq (wp_if (b := false) (by simp only [set_4, set_5, andF_ap, tF_ap, b2_ap, vF_1, vF_6, vF_7, Rz.bind_ok, inD_ints, ninD_ints, h1, h2, toB_bl, if_true, if_false, Bool.false_eq_true, Bool.not_true, Bool.not_false]) (fun h => nomatch h) fun _ => wp_sk (wp_sk ⟨_, _, _, _, _, _, rfl, hr⟩))
    · refine wp_seq (wp_if (b := false) (by simp only [set_4, set_5, andF_ap, tF_ap, b2_ap, vF_1, vF_6, vF_7, Rz.bind_ok, inD_ints, ninD_ints, h1, h2, toB_bl, if_true, if_false, Bool.false_eq_true, Bool.not_true, Bool.not_false]) (fun h => nomatch h) fun _ => wp_sk ?_)
      exact wp_seq (wp_if (b := true) (by simp only [set_4, set_5, andF_ap, tF_ap, b2_ap, vF_1, vF_6, vF_7, Rz.bind_ok, inD_ints, ninD_ints, h1, h2, toB_bl, if_true, if_false, Bool.false_eq_true, Bool.not_true, Bool.not_false]) (fun _ => wp_seq (wp_aug (z := .int (m + w.low)) rfl (by simp; rfl) rfl (wp_sk (wp_sk ⟨_, _, _, _, _, _, rfl, hr⟩)))) fun h => nomatch h)
    · refine wp_seq (wp_if (b := true) (by simp only [set_4, set_5, andF_ap, tF_ap, b2_ap, vF_1, vF_6, vF_7, Rz.bind_ok, inD_ints, ninD_ints, h1, h2, toB_bl, if_true, if_false, Bool.false_eq_true, Bool.not_true, Bool.not_false]) (fun _ => ?_) fun h => nomatch h)
      cases hx : w.high with
      | none =>
        rw [hx] at hr
        refine wp_seq (wp_if (b := true) (by simp [nD]) (fun _ => wp_seq (wp_ret rfl ?_)) fun h => nomatch h)
        rw [← hr]
      | some y =>
        rw [hx] at hr
        refine wp_seq (wp_if (b := false) (by simp [nD]) (fun h => nomatch h) fun _ => wp_sk ?_)
        refine wp_seq (wp_aug (z := .int (m - y)) rfl (by simp [nD]; rfl) rfl (wp_sk ?_))
        exact wp_seq (wp_if (b := false) (by simp only [set_4, set_5, andF_ap, tF_ap, b2_ap, vF_1, vF_6, vF_7, Rz.bind_ok, inD_ints, ninD_ints, h1, h2, toB_bl, if_true, if_false, Bool.false_eq_true, Bool.not_true, Bool.not_false]) (fun h => nomatch h) fun _ => wp_sk (wp_sk ⟨_, _, _, _, _, _, rfl, hr⟩))
    · refine wp_seq (wp_if (b := false) (by simp only [set_4, set_5, andF_ap, tF_ap, b2_ap, vF_1, vF_6, vF_7, Rz.bind_ok, inD_ints, ninD_ints, h1, h2, toB_bl, if_true, if_false, Bool.false_eq_true, Bool.not_true, Bool.not_false]) (fun h => nomatch h) fun _ => wp_sk ?_)
      exact wp_seq (wp_if (b := false) (by simp only [set_4, set_5, andF_ap, tF_ap, b2_ap, vF_1, vF_6, vF_7, Rz.bind_ok, inD_ints, ninD_ints, h1, h2, toB_bl, if_true, if_false, Bool.false_eq_true, Bool.not_true, Bool.not_false]) (fun h => nomatch h) fun _ => wp_sk (wp_sk ⟨_, _, _, _, _, _, rfl, hr⟩))
  · rintro _ ⟨m, o6, o7, o8, o9, o10, rfl, hr⟩
    refine wp_seq (wp_ret (d := .bl (lotRec lot ways m0)) ?_ rfl)
    rw [← hr, lotRec]; simp
/-- a lot shuts out each going -/
theorem lot_shuts {needs : List Int} {ways : List Wy} {lot going : List Int} (h : NetOk needs.length needs ways) (hv : lotV needs ways lot = true) (hg : goingV needs ways going = true) : False := by
  rw [lotV, Bool.and_eq_true] at hv
  rw [goingV, Bool.and_eq_true, decide_eq_true_eq] at hg
  obtain ⟨h1, h2⟩ := hv
  unfold lotOk at h1
  simp only [Bool.and_eq_true, decide_eq_true_eq, List.all_eq_true] at h1
  have := lot_dual lot needs.length (ways.zip going) needs _ (fun x hx => h.each x.1 (List.of_mem_zip (a := x.1) (b := x.2) hx).1) rfl hg.2 (by rw [List.map_fst_zip (by omega)]; exact h2)
  rw [lot_sum needs lot h1.1.2 h1.2] at this
  omega
end Lib

set_option Elab.async false
set_option linter.all false
set_option maxRecDepth 100000
/-! Rounds of ways. -/
namespace Lib
open PySem L2 Pv
def wy0 : Wy := ⟨0, 0, 0, none, 0⟩
def wa (ways : List Wy) (x : Int) : Wy := ways.getD x.toNat wy0
def prevI (n k : Nat) : Nat := if k = 0 then n - 1 else k - 1
def roundAt (ways : List Wy) (nums : List Int) (k : Nat) : Bool := (wa ways (nums.getD k 0)).high.isNone && (((wa ways (nums.getD (prevI nums.length k) 0)).b : Int) == ((wa ways (nums.getD k 0)).a : Int))
def roundV (ways : List Wy) (nums : List Int) : Bool := lotOk ways.length nums && ((List.range nums.length).all (roundAt ways nums) && decide ((nums.map fun x => (wa ways x).each).sum < 0))
theorem ixD_ways {ways : List Wy} {x : Int} (h : 0 ≤ x ∧ x < ways.length) : ixD (.lst (ways.map wyD)) (.int x) = .ok (wyD (wa ways x)) := by
  refine ixD_lst (j := x.toNat) (by omega) ?_
  rw [List.getElem?_map, List.getElem?_eq_getElem (by omega), wa, List.getD_eq_getElem?_getD, List.getElem?_eq_getElem (by omega)]; rfl
theorem ixD_prev {α : Type} (f : α → D) (x0 : α) (xs : List α) (k : Nat) (h : k < xs.length) : ixD (.lst (xs.map f)) (.int ((k : Int) - 1)) = .ok (f (xs.getD (prevI xs.length k) x0)) := by
  have hp : prevI xs.length k < xs.length := by unfold prevI; split <;> omega
  have hg : (xs.map f)[prevI xs.length k]? = some (f (xs.getD (prevI xs.length k) x0)) := by
    rw [List.getElem?_map, List.getElem?_eq_getElem hp, List.getD_eq_getElem?_getD, List.getElem?_eq_getElem hp]; rfl
  have hi : ixN (xs.map f).length ((k : Int) - 1) = some (prevI xs.length k) := by
    rw [List.length_map]
    unfold ixN prevI
    by_cases hk : k = 0
    · subst hk
      simp
      try omega
    · rw [if_pos (by omega), if_pos (by omega), if_neg hk]; congr 1; omega
  show (match L2.atI (xs.map f) ((k : Int) - 1) with | some d => Rz.ok d | none => Rz.no) = _
  unfold L2.atI
  rw [hi]
  simp only [Option.bind_some, hg]
theorem lotOk_mem {n : Nat} {lot : List Int} (h : lotOk n lot = true) : ∀ x ∈ lot, 0 ≤ x ∧ x < n := fun x hx => by
  unfold lotOk at h
  rw [Bool.and_eq_true, List.all_eq_true] at h
  exact of_decide_eq_true (h.2 x hx)
theorem range_all {q : Nat → Bool} {j : Nat} (h : (List.range j).all q = true) (hq : q j = true) : (List.range (j + 1)).all q = true := by
  rw [List.range_succ, List.all_append, h]; simp [hq]
theorem range_stop {q : Nat → Bool} {n j : Nat} (hj : j < n) (hq : q j = false) : (List.range n).all q = false := by
  rw [List.all_eq_false]
  exact ⟨j, List.mem_range.mpr hj, by rw [hq]; exact Bool.false_ne_true⟩
theorem roundtest {ways : List Wy} {nums : List Int} {k : Nat} : (if (!(wa ways (nums.getD k 0)).high.isNone) = true then (Rz.ok true : Rz Bool) else (Rz.ok (D.bl (!(((wa ways (nums.getD (prevI nums.length k) 0)).b : Int) == ((wa ways (nums.getD k 0)).a : Int))))).bind toB) = .ok (!roundAt ways nums k) := by
  unfold roundAt
  cases (wa ways (nums.getD k 0)).high.isNone <;> rfl
theorem lawround_eq {needs : List Int} {ways : List Wy} (nums : List Int) (h : NetOk needs.length needs ways) (hl : nums.length ≤ 1000) : F__law_is_round [netD needs ways, .lst (nums.map .int)] = .ok (.bl (roundV ways nums)) := by
  have hm := h.many
  refine fn_of_wp ?_
  rw [show ini 4 [netD needs ways, .lst (nums.map .int)] = [some (netD needs ways), some (.lst (nums.map .int)), none, none] from rfl]
  refine wp_seq (wp_set (d := .lst (ways.map wyD)) (by simp [netD_1]) ?_)
  simp only [set_2]
  have hc := comp_FF (e := [some (netD needs ways), some (.lst (nums.map .int)), some (.lst (ways.map wyD)), none]) (it := (aI rng1 (consF (aF lenO (consF (vF 2) nilF)) nilF))) (own := [3]) (tg := gN 3) (t := (tF (b2 inD (vF 3) (vF 1)))) (f := vF 3) (xs := List.range ways.length) (gg := fun (i : Nat) => .int (i : Int)) (hh := fun (i : Nat) => .int (i : Int)) (fun (i : Nat) => nums.contains (i : Int)) (by simp (disch := omega) [rng1_ok, upto_nat]) (by simp [lim]; omega) (fun x hx => ⟨_, rfl, by simp only [ewipe, set_3, tF_ap, b2_ap, vF_3, vF_1, Rz.bind_ok, inD_ints, toB_bl], fun _ => rfl⟩)
  have hmap : ((List.range ways.length).filter fun (i : Nat) => nums.contains (i : Int)).map (fun (i : Nat) => D.int (i : Int)) = (((List.range ways.length).filter fun (i : Nat) => nums.contains (i : Int)).map fun (i : Nat) => (i : Int)).map D.int := by rw [List.map_map]; rfl
  rw [hmap] at hc
  have hs : sortedO [.lst (nums.map .int)] = .ok (.lst ((srtI nums).map .int)) := by
    unfold sortedO; simp only [ints1_map]
  refine wp_seq (wp_if (b := !lotOk ways.length nums) ?_ (fun h => ?_) fun h1 => wp_sk ?_)
  · simp only [orF_ap, tF_ap, b2_ap, vF_1, aF_ap, consF_ap, nilF_ap, Rz.bind_ok, lstO_0, eqD_nil _ (okQs_ints nums 19), toB_bl, hs, hc, neD_ints, srt_filter]
    unfold lotOk
    cases nums <;> simp
  · refine wp_seq (wp_ret (d := .bl false) rfl ?_)
    have h : lotOk ways.length nums = false := by simpa using h
    rw [roundV, h, Bool.false_and]
  have h1 : lotOk ways.length nums = true := by simpa using h1
  have hr := lotOk_mem h1
  rw [roundV, h1, Bool.true_and]
  have hgr : ∀ k, k < nums.length → 0 ≤ nums.getD k 0 ∧ nums.getD k 0 < ways.length := fun k hk => by
    refine hr _ ?_
    rw [List.getD_eq_getElem?_getD, List.getElem?_eq_getElem hk]; exact List.getElem_mem hk
  refine wp_seq (wp_for (ds := upto 0 (nums.length : Int)) (by simp (disch := omega) [rng1_ok]) (fun j e => ∃ (o : Option D), e = [some (netD needs ways), some (.lst (nums.map .int)), some (.lst (ways.map wyD)), o] ∧ (List.range j).all (roundAt ways nums) = true) ⟨_, rfl, rfl⟩ ?_ ?_)
  · rintro j d _ hd ⟨o, rfl, hj⟩
    obtain ⟨rfl, hjl⟩ := upto_get hd
    refine ⟨_, rfl, ?_⟩
    simp only [set_3]
    have hjl : j < nums.length := by omega
    have hp : prevI nums.length j < nums.length := by unfold prevI; split <;> omega
    have e1 := ixD_ints (ns := nums) (k := (j : Int)) (j := j) rfl hjl
    have e2 := ixD_prev D.int 0 nums j hjl
    have e3 := ixD_ways (hgr j hjl)
    have e4 := ixD_ways (hgr _ hp)
    refine wp_seq (wp_if (b := !roundAt ways nums j) ?_ (fun hb => ?_) fun hb => wp_sk (wp_sk ⟨_, rfl, range_all hj (by simpa using hb)⟩))
    · simp only [orF_ap, tF_ap, u1_ap, b2_ap, vF_1, vF_2, vF_3, cF_ap, Rz.bind_ok, i2_int, subI_ap, e1, e2, e3, e4, wyD, ixD_t0, ixD_t1, ixD_t3, isN_nD, toB_bl, neD_int]
      exact roundtest
    · refine wp_seq (wp_ret (d := .bl false) rfl ?_)
      rw [range_stop hjl (by simpa using hb), Bool.false_and]
  · rintro _ ⟨o, rfl, hj⟩
    rw [upto_len, Int.toNat_natCast] at hj
    rw [hj, Bool.true_and]
    refine wp_seq (wp_ret ?_ rfl)
    have := comp_F (e := [some (netD needs ways), some (.lst (nums.map .int)), some (.lst (ways.map wyD)), o]) (it := lOf (vF 1)) (own := [3]) (tg := gN 3) (f := (b2 ixD (b2 ixD (vF 2) (vF 3)) (cF (.int 4)))) (xs := nums) (gg := .int) (hh := fun x => .int (wa ways x).each) (by simp) (by simp [lim]; omega) (fun x hx => ⟨_, rfl, by
      have e3 := ixD_ways (hr x hx)
      simp only [ewipe, set_3, b2_ap, vF_2, vF_3, cF_ap, Rz.bind_ok, e3, wyD, ixD_t4]⟩)
    simp only [b2_ap, aF_ap, consF_ap, this, nilF_ap, Rz.bind_ok, sum_map, cF_ap, i2_int, ltI_ap]
theorem isround_eq {needs : List Int} {ways : List Wy} (nums : List Int) (h : NetOk needs.length needs ways) (hl : nums.length ≤ 1000) : F_is_round [netD needs ways, .lst (nums.map .int)] = .ok (.bl (roundV ways nums)) := by
  have hm := h.many
  refine fn_of_wp ?_
  rw [show ini 7 [netD needs ways, .lst (nums.map .int)] = [some (netD needs ways), some (.lst (nums.map .int)), none, none, none, none, none] from rfl]
  refine wp_seq (wp_expr (d := .non) (by simp [check_eq h]) ?_)
  refine wp_seq (wp_set (d := .lst (ways.map wyD)) (by simp [netD_1]) ?_)
  simp only [set_2]
  refine wp_seq (wp_if (b := !lotOk ways.length nums) ?_ (fun h => ?_) fun h1 => wp_sk ?_)
  · obtain ⟨s, hs, hs2⟩ := lenSet_eq nums (by omega)
    cases nums with
    | nil => rfl
    | cons a r =>
      have hmin : onInts minI [.lst ((a :: r).map .int)] = .ok (.int (r.foldl min a)) := onInts_map _ _
      have hmax : onInts maxI [.lst ((a :: r).map .int)] = .ok (.int (r.foldl max a)) := onInts_map _ _
      simp only [orF_ap, tF_ap, u1_ap, b2_ap, vF_1, vF_2, cF_ap, aF_ap, consF_ap, nilF_ap, Rz.bind_ok, lstO_0, eqD_nil _ (okQs_ints (a :: r) 19), toB_bl, hs, lenO_lst, neD_int, hmin, hmax, i2_int, ltI_ap, geI_ap, List.length_map]
      have e0 : ((a :: r).map D.int).isEmpty = false := rfl
      rw [e0]
      simp only [Bool.false_eq_true, if_false]
      unfold lotOk
      have ee : (a :: r).isEmpty = false := rfl
      rw [ee]
      by_cases hnd : (a :: r).Nodup
      · have := hs2.mpr hnd
        subst this
        simp only [hnd, decide_true, Bool.not_false, Bool.true_and, beq_self_eq_true, Bool.not_true, Bool.false_eq_true, if_false]
        by_cases h1 : r.foldl min a < 0
        · rw [if_pos (decide_eq_true h1)]
          obtain ⟨x, hx, hx2⟩ := (foldmin_iff r a 0).mp h1
          rw [List.all_eq_false.mpr ⟨x, hx, by simp; omega⟩]; rfl
        · rw [if_neg (by simpa using h1)]
          by_cases h2 : (ways.length : Int) ≤ r.foldl max a
          · obtain ⟨x, hx, hx2⟩ := (foldmax_iff r a _).mp h2
            rw [decide_eq_true h2, List.all_eq_false.mpr ⟨x, hx, by simp; omega⟩]; rfl
          · have hall : ((a :: r).all fun x => decide (0 ≤ x ∧ x < (ways.length : Int))) = true := List.all_eq_true.mpr fun x hx => decide_eq_true (by
              have h3 : ¬ x < 0 := fun z => h1 ((foldmin_iff r a 0).mpr ⟨x, hx, z⟩)
              have h4 : ¬ (ways.length : Int) ≤ x := fun z => h2 ((foldmax_iff r a _).mpr ⟨x, hx, z⟩)
              omega)
            rw [decide_eq_false h2, hall]
            try rfl
      · have hne : ¬ (s : Int) = ((a :: r).length : Int) := fun e => hnd (hs2.mp (by omega))
        have : ((s : Int) == ((a :: r).length : Int)) = false := by simpa using hne
        rw [this]
        simp only [hnd, decide_false, Bool.not_false, if_true, Bool.false_and, Bool.and_false]
  · refine wp_seq (wp_ret (d := .bl false) rfl ?_)
    have h : lotOk ways.length nums = false := by simpa using h
    rw [roundV, h, Bool.false_and]
  have h1 : lotOk ways.length nums = true := by simpa using h1
  have hr := lotOk_mem h1
  rw [roundV, h1, Bool.true_and]
  have hgr : ∀ k, k < nums.length → 0 ≤ nums.getD k 0 ∧ nums.getD k 0 < ways.length := fun k hk => by
    refine hr _ ?_
    rw [List.getD_eq_getElem?_getD, List.getElem?_eq_getElem hk]; exact List.getElem_mem hk
  have hsome := comp_F (e := [some (netD needs ways), some (.lst (nums.map .int)), some (.lst (ways.map wyD)), none, none, none, none]) (it := lOf (vF 1)) (own := [4]) (tg := gN 4) (f := (b2 ixD (vF 2) (vF 4))) (xs := nums) (gg := .int) (hh := fun x => wyD (wa ways x)) (by simp) (by simp [lim]; omega) (fun x hx => ⟨_, rfl, by
      have e3 := ixD_ways (hr x hx)
      simp only [ewipe, set_4, b2_ap, vF_2, vF_4, Rz.bind_ok, e3]⟩)
  refine wp_seq (wp_set hsome ?_)
  simp only [set_3]
  refine wp_seq (wp_for (ds := enumL (nums.map fun x => wyD (wa ways x))) (by simp) (fun j e => ∃ (o5 o6 : Option D), e = [some (netD needs ways), some (.lst (nums.map .int)), some (.lst (ways.map wyD)), some (.lst (nums.map fun x => wyD (wa ways x))), none, o5, o6] ∧ (List.range j).all (roundAt ways nums) = true) ⟨_, _, rfl, rfl⟩ ?_ ?_)
  · rintro j d _ hd ⟨o5, o6, rfl, hj⟩
    obtain ⟨hjl, rfl⟩ : j < nums.length ∧ d = .tup [.int (j : Int), wyD (wa ways (nums.getD j 0))] := by
      rw [enumL_map, List.getElem?_map, List.getElem?_zipIdx] at hd
      cases hg : nums[j]? with
      | none => rw [hg] at hd; cases hd
      | some x =>
        rw [hg] at hd
        have hlt := (List.getElem?_eq_some_iff.mp hg).1
        refine ⟨hlt, ?_⟩
        rw [List.getD_eq_getElem?_getD, hg]
        simp at hd
        rw [← hd]; rfl
    refine ⟨_, by simp; rfl, ?_⟩
    have hp : prevI nums.length j < nums.length := by unfold prevI; split <;> omega
    have e2 := ixD_prev (fun x => wyD (wa ways x)) 0 nums j hjl
    refine wp_seq (wp_if (b := !roundAt ways nums j) ?_ (fun hb => ?_) fun hb => wp_sk (wp_sk ⟨_, _, rfl, range_all hj (by simpa using hb)⟩))
    · simp only [orF_ap, tF_ap, u1_ap, b2_ap, vF_3, vF_5, vF_6, cF_ap, Rz.bind_ok, i2_int, subI_ap, e2]
      simp only [wyD, ixD_t0, ixD_t1, ixD_t3, isN_nD, toB_bl, neD_int, Rz.bind_ok]
      exact roundtest
    · refine wp_seq (wp_ret (d := .bl false) rfl ?_)
      rw [range_stop hjl (by simpa using hb), Bool.false_and]
  · rintro _ ⟨o5, o6, rfl, hj⟩
    have hle : (enumL (nums.map fun x => wyD (wa ways x))).length = nums.length := by simp [enumL_map]
    rw [hle] at hj
    rw [hj, Bool.true_and]
    refine wp_seq (wp_ret ?_ rfl)
    have := comp_F (e := [some (netD needs ways), some (.lst (nums.map .int)), some (.lst (ways.map wyD)), some (.lst (nums.map fun x => wyD (wa ways x))), none, o5, o6]) (it := lOf (vF 3)) (own := [6]) (tg := gN 6) (f := (b2 ixD (vF 6) (cF (.int 4)))) (xs := nums) (gg := fun x => wyD (wa ways x)) (hh := fun x => .int (wa ways x).each) (by simp) (by simp [lim]; omega) (fun x hx => ⟨_, rfl, by
      simp only [ewipe, set_6, b2_ap, vF_6, cF_ap, Rz.bind_ok, wyD, ixD_t4]⟩)
    simp only [b2_ap, aF_ap, consF_ap, this, nilF_ap, Rz.bind_ok, sum_map, cF_ap, i2_int, ltI_ap]
end Lib

set_option Elab.async false
set_option linter.all false
set_option maxRecDepth 100000
/-! Going round: what comes back, without a program. -/
namespace Lib
open PySem L2 Pv
def it (f : Nat → Nat) : Nat → Nat → Nat
  | 0, x => x
  | n + 1, x => it f n (f x)
theorem it_succ (f : Nat → Nat) : ∀ (n x : Nat), it f (n + 1) x = f (it f n x)
  | 0, _ => rfl
  | n + 1, x => by rw [it, it_succ f n (f x)]; rfl
theorem it_add (f : Nat → Nat) : ∀ (m n x : Nat), it f (m + n) x = it f n (it f m x)
  | 0, n, x => by rw [Nat.zero_add]; rfl
  | m + 1, n, x => by rw [show m + 1 + n = (m + n) + 1 by omega, it, it_add f m n (f x)]; rfl
theorem nodup_le : ∀ (N : Nat) (l : List Nat), l.Nodup → (∀ x ∈ l, x < N) → l.length ≤ N
  | 0, [], _, _ => Nat.le_refl _
  | 0, a :: l, _, h => absurd (h a List.mem_cons_self) (Nat.not_lt_zero a)
  | N + 1, l, nd, h => by
    by_cases hm : N ∈ l
    · have h1 := nodup_le N (l.erase N) (nd.erase N) fun x hx => by
        have := (nd.mem_erase_iff).mp hx
        have := h x this.2
        omega
      rw [List.length_erase_of_mem hm] at h1
      omega
    · have h1 := nodup_le N l nd fun x hx => by
        have h2 := h x hx
        have : x ≠ N := fun e => hm (e ▸ hx)
        omega
      omega
/-- f goes from the numbers below N to such, no two to one -/
structure Inj (f : Nat → Nat) (N : Nat) : Prop where
  lt : ∀ x, x < N → f x < N
  inj : ∀ x y, x < N → y < N → f x = f y → x = y
section
variable {f : Nat → Nat} {N : Nat} (h : Inj f N)
include h
theorem Inj.it_lt {x : Nat} (hx : x < N) : ∀ n, it f n x < N
  | 0 => hx
  | n + 1 => by rw [it_succ]; exact h.lt _ (Inj.it_lt hx n)
theorem Inj.peel {x y : Nat} (hx : x < N) (hy : y < N) : ∀ n, it f n x = it f n y → x = y
  | 0, e => e
  | n + 1, e => Inj.peel hx hy n (h.inj _ _ (h.it_lt hx n) (h.it_lt hy n) (by rw [it_succ, it_succ] at e; exact e))
theorem Inj.back {x : Nat} (hx : x < N) : ∃ m, 1 ≤ m ∧ m ≤ N ∧ it f m x = x := by
  have hnot : ¬ ((List.range (N + 1)).map fun i => it f i x).Nodup := fun nd => by
    have := nodup_le N _ nd fun y hy => by
      obtain ⟨i, _, rfl⟩ := List.mem_map.mp hy
      exact h.it_lt hx i
    simp at this
    omega
  have : ∃ i j, i < j ∧ j ≤ N ∧ it f i x = it f j x := by
    refine Classical.byContradiction fun hc => hnot ?_
    refine List.pairwise_map.mpr (List.Pairwise.imp_of_mem ?_ (List.pairwise_lt_range (n := N + 1)))
    intro a b _ hb hab e
    exact hc ⟨a, b, hab, by have := List.mem_range.mp hb; omega, e⟩
  obtain ⟨i, j, hij, hj, e⟩ := this
  refine ⟨j - i, by omega, by omega, ?_⟩
  have e2 : it f i (it f (j - i) x) = it f i x := by
    rw [← it_add, show j - i + i = j by omega]; exact e.symm
  exact h.peel (h.it_lt hx _) hx i e2
end
/-- from y on, till x is come to -/
def run (f : Nat → Nat) (x : Nat) : Nat → Nat → List Nat
  | 0, _ => []
  | n + 1, y => if y = x then [] else y :: run f x n (f y)
def hits (f : Nat → Nat) (x n y : Nat) : Prop := ∃ k, k ≤ n ∧ it f k y = x
def land (f : Nat → Nat) (N x : Nat) : List Nat := x :: run f x N (f x)
theorem run_len (f : Nat → Nat) (x : Nat) : ∀ n y, (run f x n y).length ≤ n
  | 0, _ => Nat.le_refl _
  | n + 1, y => by
    unfold run
    split
    · simp
    · have := run_len f x n (f y)
      simp; omega
theorem run_fuel (f : Nat → Nat) (x : Nat) : ∀ n n' y, hits f x n y → n ≤ n' → run f x n' y = run f x n y
  | 0, n', y, ⟨k, hk, e⟩, _ => by
    have : k = 0 := by omega
    subst this
    have e : y = x := e
    cases n' with
    | zero => rfl
    | succ n' => unfold run; rw [if_pos e]
  | n + 1, n', y, ⟨k, hk, e⟩, hn => by
    obtain ⟨n', rfl⟩ : ∃ m, n' = m + 1 := ⟨n' - 1, by omega⟩
    unfold run
    by_cases hy : y = x
    · rw [if_pos hy, if_pos hy]
    · rw [if_neg hy, if_neg hy]
      cases k with
      | zero => exact absurd e hy
      | succ k => rw [run_fuel f x n n' (f y) ⟨k, by omega, e⟩ (by omega)]
theorem run_step {f : Nat → Nat} {x N y : Nat} (h : hits f x N y) (hy : y ≠ x) : run f x N y = y :: run f x N (f y) ∧ hits f x N (f y) := by
  obtain ⟨k, hk, e⟩ := h
  cases k with
  | zero => exact absurd e hy
  | succ k =>
    have e : it f k (f y) = x := e
    obtain ⟨n, rfl⟩ : ∃ n, N = n + 1 := ⟨N - 1, by omega⟩
    refine ⟨?_, k, by omega, e⟩
    have := run_fuel f x n (n + 1) (f y) ⟨k, by omega, e⟩ (by omega)
    rw [this]
    show (if y = x then [] else y :: run f x n (f y)) = _
    rw [if_neg hy]
theorem run_it {f : Nat → Nat} {x : Nat} : ∀ {n y z : Nat}, z ∈ run f x n y → ∃ i, z = it f i y
  | 0, _, _, h => nomatch h
  | n + 1, y, z, h => by
    unfold run at h
    split at h
    · exact nomatch h
    · rcases List.mem_cons.mp h with rfl | h
      · exact ⟨0, rfl⟩
      · obtain ⟨i, e⟩ := run_it h; exact ⟨i + 1, e⟩
theorem run_next {f : Nat → Nat} {x : Nat} : ∀ {n y z : Nat}, hits f x n y → z ∈ run f x n y → f z = x ∨ f z ∈ run f x n y
  | 0, _, _, _, h => nomatch h
  | n + 1, y, z, hh, h => by
    by_cases hy : y = x
    · unfold run at h; rw [if_pos hy] at h; exact nomatch h
    · obtain ⟨h1, h2⟩ := run_step hh hy
      obtain ⟨k, hk, e⟩ := hh
      cases k with
      | zero => exact absurd e hy
      | succ k =>
        have hn : hits f x n (f y) := ⟨k, by omega, e⟩
        have e2 : run f x (n + 1) y = y :: run f x n (f y) := by
          show (if y = x then [] else y :: run f x n (f y)) = _
          rw [if_neg hy]
        rw [e2] at h ⊢
        rcases List.mem_cons.mp h with rfl | h
        · by_cases hf : f z = x
          · exact .inl hf
          · refine .inr (List.mem_cons_of_mem _ ?_)
            rw [(run_step hn hf).1]; exact List.mem_cons_self
        · exact (run_next hn h).imp id (List.mem_cons_of_mem _)
section
variable {f : Nat → Nat} {N : Nat} (h : Inj f N)
include h
theorem Inj.hits {x : Nat} (hx : x < N) : hits f x N (f x) := by
  obtain ⟨m, h1, h2, e⟩ := h.back hx
  exact ⟨m - 1, by omega, by rw [show m = (m - 1) + 1 by omega] at e; exact e⟩
theorem Inj.mem_land {x z : Nat} (hx : x < N) : z ∈ land f N x ↔ ∃ i, z = it f i x := by
  constructor
  · intro hz
    rcases List.mem_cons.mp hz with rfl | hz
    · exact ⟨0, rfl⟩
    · obtain ⟨i, e⟩ := run_it hz; exact ⟨i + 1, e⟩
  · rintro ⟨i, rfl⟩
    induction i with
    | zero => exact List.mem_cons_self
    | succ i ih =>
      rw [it_succ]
      rcases List.mem_cons.mp ih with e | ih
      · rw [e]
        by_cases hf : f x = x
        · rw [hf]; exact List.mem_cons_self
        · refine List.mem_cons_of_mem _ ?_
          rw [(run_step (h.hits hx) hf).1]; exact List.mem_cons_self
      · rcases run_next (h.hits hx) ih with e | e
        · rw [e]; exact List.mem_cons_self
        · exact List.mem_cons_of_mem _ e
theorem Inj.land_lt {x z : Nat} (hx : x < N) (hz : z ∈ land f N x) : z < N := by
  obtain ⟨i, rfl⟩ := (h.mem_land hx).mp hz
  exact h.it_lt hx i
theorem Inj.land_next {x z : Nat} (hx : x < N) (hz : z < N) : f z ∈ land f N x ↔ z ∈ land f N x := by
  rw [h.mem_land hx, h.mem_land hx]
  constructor
  · rintro ⟨i, e⟩
    cases i with
    | zero =>
      obtain ⟨m, h1, h2, e2⟩ := h.back hx
      refine ⟨m - 1, h.inj _ _ hz (h.it_lt hx _) ?_⟩
      rw [← it_succ f, show m - 1 + 1 = m by omega, e2]; exact e
    | succ i => exact ⟨i, h.inj _ _ hz (h.it_lt hx _) (by rw [← it_succ f]; exact e)⟩
  · rintro ⟨i, rfl⟩; exact ⟨i + 1, by rw [it_succ]⟩
end
def stepL (f : Nat → Nat) (N : Nat) (acc : List (List Nat)) (x : Nat) : List (List Nat) := if x ∈ acc.flatten then acc else acc ++ [land f N x]
def landsUp (f : Nat → Nat) (N j : Nat) : List (List Nat) := (List.range j).foldl (stepL f N) []
theorem landsUp_succ (f : Nat → Nat) (N j : Nat) : landsUp f N (j + 1) = stepL f N (landsUp f N j) j := by
  unfold landsUp; rw [List.range_succ, List.foldl_append]; rfl
theorem landsUp_len (f : Nat → Nat) (N : Nat) : ∀ j, (landsUp f N j).length ≤ j
  | 0 => Nat.le_refl _
  | j + 1 => by
    rw [landsUp_succ]
    have := landsUp_len f N j
    unfold stepL
    split
    · omega
    · simp; omega
def landsV (f : Nat → Nat) (N : Nat) : List (List Nat) := landsUp f N N
theorem land_flat {f : Nat → Nat} {N j x : Nat} (h : x ∈ (landsUp f N j).flatten) : x ∈ (landsUp f N (j + 1)).flatten := by
  rw [landsUp_succ]
  unfold stepL
  split
  · exact h
  · rw [List.flatten_append, List.mem_append]; exact .inl h
theorem flat_upto {f : Nat → Nat} {N : Nat} : ∀ {j x : Nat}, x < j → x ∈ (landsUp f N j).flatten
  | j + 1, x, hx => by
    by_cases e : x = j
    · subst e
      rw [landsUp_succ]
      unfold stepL
      split
      · assumption
      · rw [List.flatten_append, List.mem_append]
        exact .inr (by simp [land])
    · exact land_flat (flat_upto (by omega))
/-- what is met already changes nothing -/
theorem landsUp_skip {f : Nat → Nat} {N j : Nat} : ∀ (k : Nat), (∀ x, j ≤ x → x < j + k → x ∈ (landsUp f N j).flatten) → landsUp f N (j + k) = landsUp f N j
  | 0, _ => rfl
  | k + 1, h => by
    have ih := landsUp_skip k fun x h1 h2 => h x h1 (by omega)
    rw [show j + (k + 1) = (j + k) + 1 by omega, landsUp_succ, ih]
    unfold stepL
    rw [if_pos (h (j + k) (by omega) (by omega))]
section
variable {f : Nat → Nat} {N : Nat} (h : Inj f N)
include h
theorem Inj.ups : ∀ {j : Nat}, j ≤ N → (∀ l ∈ landsUp f N j, ∃ x, x < N ∧ l = land f N x) ∧ (landsUp f N j).Pairwise fun a b => ∀ z ∈ a, z ∉ b
  | 0, _ => ⟨(fun _ z => nomatch z), List.Pairwise.nil⟩
  | j + 1, hj => by
    obtain ⟨h1, h2⟩ := Inj.ups (j := j) (by omega)
    rw [landsUp_succ]
    unfold stepL
    split
    · exact ⟨h1, h2⟩
    · rename_i hn
      refine ⟨fun l hl => ?_, List.pairwise_append.mpr ⟨h2, by simp, fun a ha b hb z hz hzb => ?_⟩⟩
      · rcases List.mem_append.mp hl with hl | hl
        · exact h1 l hl
        · exact ⟨j, by omega, by simpa using hl⟩
      · have eb : b = land f N j := by simpa using hb
        subst eb
        obtain ⟨x, hx, rfl⟩ := h1 a ha
        obtain ⟨i, rfl⟩ := (h.mem_land (by omega)).mp hzb
        have back : ∀ i, it f i j ∈ land f N x → j ∈ land f N x := by
          intro i
          induction i with
          | zero => exact id
          | succ i ih => exact fun z => ih ((h.land_next hx (h.it_lt (by omega) i)).mp (by rw [← it_succ f]; exact z))
        exact hn (List.mem_flatten.mpr ⟨_, ha, back i hz⟩)
theorem Inj.flat_lt {j x : Nat} (hj : j ≤ N) (hx : x ∈ (landsUp f N j).flatten) : x < N := by
  obtain ⟨l, hl, hx⟩ := List.mem_flatten.mp hx
  obtain ⟨y, hy, rfl⟩ := (h.ups hj).1 l hl
  exact h.land_lt hy hx
end
end Lib

set_option Elab.async false
set_option linter.all false
set_option maxRecDepth 100000
/-! Maps: what stands behind an end; lands. -/
namespace Lib
open PySem L2 Pv
abbrev Ties := List (Nat × Nat)
abbrev Orders := List (List Nat)
def tieD (t : Nat × Nat) : D := .tup [.int (t.1 : Int), .int (t.2 : Int)]
def natsD (l : List Nat) : D := .lst (l.map fun (e : Nat) => .int (e : Int))
def tiesD (ts : Ties) : D := .lst (ts.map tieD)
def ordersD (os : Orders) : D := .lst (os.map natsD)
def webD (n : Nat) (ts : Ties) (os : Orders) : D := .tup [.int (n : Int), tiesD ts, ordersD os]
def oth (i : Nat) : Nat := if i % 2 = 0 then i + 1 else i - 1
theorem oth_oth (i : Nat) : oth (oth i) = i := by
  unfold oth
  by_cases h : i % 2 = 0
  · rw [if_pos h, if_neg (by omega)]; omega
  · rw [if_neg h, if_pos (by omega)]; omega
theorem oth_lt {i n : Nat} (h : i < 2 * n) : oth i < 2 * n := by unfold oth; split <;> omega
def pl (ts : Ties) (e : Nat) : Nat := if e % 2 = 0 then (ts.getD (e / 2) (0, 0)).1 else (ts.getD (e / 2) (0, 0)).2
def ord (os : Orders) (p : Nat) : List Nat := os.getD p []
/-- each end stands once, in the order of its place -/
structure MapOk (ts : Ties) (os : Orders) : Prop where
  pos : 0 < ts.length
  place : ∀ e, e < 2 * ts.length → pl ts e < os.length
  mem : ∀ e, e < 2 * ts.length → e ∈ ord os (pl ts e)
  at_ : ∀ p, p < os.length → ∀ e ∈ ord os p, e < 2 * ts.length ∧ pl ts e = p
  nd : ∀ p, p < os.length → (ord os p).Nodup
  ne : ∀ p, p < os.length → ord os p ≠ []
  many : ts.length ≤ 450
def beh (ts : Ties) (os : Orders) (e : Nat) : Nat := (ord os (pl ts (oth e))).getD (prevI (ord os (pl ts (oth e))).length ((ord os (pl ts (oth e))).idxOf (oth e))) 0
theorem prevI_lt {n k : Nat} (h : k < n) : prevI n k < n := by unfold prevI; split <;> omega
theorem prevI_inj {n k k' : Nat} (h : k < n) (h' : k' < n) (e : prevI n k = prevI n k') : k = k' := by
  unfold prevI at e
  split at e <;> split at e <;> omega
theorem getD_memN {l : List Nat} {i : Nat} (h : i < l.length) : l.getD i 0 ∈ l := by
  rw [List.getD_eq_getElem?_getD, List.getElem?_eq_getElem h]; exact List.getElem_mem h
theorem nd_getD {l : List Nat} (nd : l.Nodup) {i j : Nat} (hi : i < l.length) (hj : j < l.length) (e : l.getD i 0 = l.getD j 0) : i = j := by
  rw [List.getD_eq_getElem?_getD, List.getD_eq_getElem?_getD, List.getElem?_eq_getElem hi, List.getElem?_eq_getElem hj] at e
  have e : l[i] = l[j] := e
  rcases Nat.lt_trichotomy i j with z | z | z
  · exact absurd e (List.pairwise_iff_getElem.mp nd i j hi hj z)
  · exact z
  · exact absurd e.symm (List.pairwise_iff_getElem.mp nd j i hj hi z)
theorem idxOf_getD {l : List Nat} {x : Nat} (h : x ∈ l) : l.getD (l.idxOf x) 0 = x := by
  have hl := List.idxOf_lt_length_iff.mpr h
  rw [List.getD_eq_getElem?_getD, List.getElem?_eq_getElem hl, List.getElem_idxOf]; rfl
section
variable {ts : Ties} {os : Orders} (h : MapOk ts os)
include h
theorem MapOk.beh_mem {e : Nat} (he : e < 2 * ts.length) : beh ts os e ∈ ord os (pl ts (oth e)) := by
  have hm := h.mem _ (oth_lt he)
  exact getD_memN (prevI_lt (List.idxOf_lt_length_iff.mpr hm))
theorem MapOk.beh_lt {e : Nat} (he : e < 2 * ts.length) : beh ts os e < 2 * ts.length ∧ pl ts (beh ts os e) = pl ts (oth e) :=
  h.at_ _ (h.place _ (oth_lt he)) _ (h.beh_mem he)
theorem MapOk.inj : Inj (beh ts os) (2 * ts.length) where
  lt := fun x hx => (h.beh_lt hx).1
  inj := fun x y hx hy e => by
    have p1 := (h.beh_lt hx).2
    have p2 := (h.beh_lt hy).2
    rw [e, p2] at p1
    have hmx := h.mem _ (oth_lt hx)
    have hmy := h.mem _ (oth_lt hy)
    have nd := h.nd _ (h.place _ (oth_lt hx))
    unfold beh at e
    rw [p1] at e hmy
    have e1 := nd_getD nd (prevI_lt (List.idxOf_lt_length_iff.mpr hmx)) (prevI_lt (List.idxOf_lt_length_iff.mpr hmy)) e
    have e2 := prevI_inj (List.idxOf_lt_length_iff.mpr hmx) (List.idxOf_lt_length_iff.mpr hmy) e1
    have e3 : oth x = oth y := by rw [← idxOf_getD hmx, ← idxOf_getD hmy, e2]
    rw [← oth_oth x, ← oth_oth y, e3]
end
/-! ### the program's and the laws' words -/
theorem oth_int (i : Nat) : (i : Int) + 1 - 2 * ((i : Int) % 2) = (oth i : Int) := by unfold oth; split <;> omega
theorem other_eq (i : Nat) : F_other_end [.int (i : Int)] = .ok (.int (oth i : Int)) := by
  refine fn_of_wp ?_
  refine wp_seq (wp_ret (d := .int ((i : Int) + 1 - 2 * ((i : Int) % 2))) ?_ (by rw [oth_int]))
  simp [ini, modI_pos, mulI_l]
theorem lawother_eq (i : Nat) : F__law_other [.int (i : Int)] = .ok (.int (oth i : Int)) := by
  refine fn_of_wp ?_
  refine wp_seq (wp_ret (d := .int ((i : Int) + 1 - 2 * ((i : Int) % 2))) ?_ (by rw [oth_int]))
  simp [ini, modI_pos, mulI_l]
theorem ixD_ties {ts : Ties} {i : Int} {k : Nat} (hi : i = (k : Int)) (h : k < ts.length) : ixD (tiesD ts) (.int i) = .ok (tieD (ts.getD k (0, 0))) := by
  unfold tiesD
  refine ixD_lst hi ?_
  rw [List.getElem?_map, List.getElem?_eq_getElem h, List.getD_eq_getElem?_getD, List.getElem?_eq_getElem h]; rfl
theorem ixD_orders {os : Orders} {i : Int} {k : Nat} (hi : i = (k : Int)) (h : k < os.length) : ixD (ordersD os) (.int i) = .ok (natsD (ord os k)) := by
  unfold ordersD
  refine ixD_lst hi ?_
  rw [List.getElem?_map, List.getElem?_eq_getElem h, ord, List.getD_eq_getElem?_getD, List.getElem?_eq_getElem h]; rfl
theorem ixD_nats {l : List Nat} {i : Int} {k : Nat} (hi : i = (k : Int)) (h : k < l.length) : ixD (natsD l) (.int i) = .ok (.int (l.getD k 0 : Nat)) := by
  unfold natsD
  refine ixD_lst hi ?_
  rw [List.getElem?_map, List.getElem?_eq_getElem h, List.getD_eq_getElem?_getD, List.getElem?_eq_getElem h]; rfl
theorem tie_pick {ts : Ties} {e : Nat} : ixD (tieD (ts.getD (e / 2) (0, 0))) (.int ((e : Int) % 2)) = .ok (.int (pl ts e : Int)) := by
  unfold pl tieD
  rcases (by omega : e % 2 = 0 ∨ e % 2 = 1) with h | h
  · rw [show (e : Int) % 2 = 0 by omega, if_pos h]; exact ixD_t0
  · rw [show (e : Int) % 2 = 1 by omega, if_neg (by omega)]; exact ixD_t1
theorem place_eq {ts : Ties} {e : Nat} (h : e < 2 * ts.length) : F_place_of [tiesD ts, .int (e : Int)] = .ok (.int (pl ts e : Int)) := by
  refine fn_of_wp ?_
  refine wp_seq (wp_ret ?_ rfl)
  have e1 := ixD_ties (ts := ts) (i := (e : Int) / 2) (k := e / 2) (by omega) (by omega)
  simp only [b2_ap, ini, List.map_cons, List.map_nil, List.cons_append, vF_0, vF_1, cF_ap, Rz.bind_ok, i2_int, fdivI_pos (i := (e : Int)) (j := 2) (by omega) (by omega), modI_pos (i := (e : Int)) (j := 2) (by omega), e1, tie_pick]
theorem lawplace_eq {ts : Ties} {e : Nat} (h : e < 2 * ts.length) : F__law_place [tiesD ts, .int (e : Int)] = .ok (.int (pl ts e : Int)) := by
  refine fn_of_wp ?_
  refine wp_seq (wp_ret ?_ rfl)
  have e1 := ixD_ties (ts := ts) (i := (e : Int) / 2) (k := e / 2) (by omega) (by omega)
  simp only [b2_ap, ini, List.map_cons, List.map_nil, List.cons_append, vF_0, vF_1, cF_ap, Rz.bind_ok, i2_int, fdivI_pos (i := (e : Int)) (j := 2) (by omega) (by omega), modI_pos (i := (e : Int)) (j := 2) (by omega), e1, tie_pick]
theorem natsD_ints (l : List Nat) : natsD l = .lst ((l.map fun (e : Nat) => (e : Int)).map .int) := by unfold natsD; rw [List.map_map]; rfl
theorem idx_nats (l : List Nat) (x : Nat) : (l.map fun (e : Nat) => (e : Int)).idxOf (x : Int) = l.idxOf x := by
  induction l with
  | nil => rfl
  | cons a l ih =>
    rw [List.map_cons, List.idxOf_cons, List.idxOf_cons, ih]
    have : ((a : Int) == (x : Int)) = (a == x) := by
      rw [Bool.eq_iff_iff]; simp
      omega
    rw [this]
/-- f[g.index(x) - 1] -/
theorem idx_prev {l : List Nat} {x : Nat} {f g : En → Rz D} {e : En} (hf : f e = .ok (natsD l)) (hg : g e = .ok (.int (x : Int))) (hx : x ∈ l) : b2 ixD f (b2 (i2 subI) (liF idxI f g) (cF (.int 1))) e = .ok (.int (l.getD (prevI l.length (l.idxOf x)) 0 : Nat)) := by
  have hl := List.idxOf_lt_length_iff.mpr hx
  have h1 : liF idxI f g e = .ok (.int (l.idxOf x : Nat)) := by
    unfold liF
    rw [hf, natsD_ints]
    simp only [Rz.bind_ok, hg, ints1_map]
    unfold idxI
    rw [if_pos (List.mem_map.mpr ⟨x, hx, rfl⟩), idx_nats]
  have h2 := ixD_prev (fun (e : Nat) => D.int (e : Int)) 0 l (l.idxOf x) hl
  simp only [b2_ap, hf, h1, cF_ap, Rz.bind_ok, i2_int, subI_ap]
  exact h2
theorem cO1 (F : List D → Rz D) (a : D) : cO 1 F [a] = F [a] := rfl
theorem webD_0 (n : Nat) (ts : Ties) (os : Orders) : ixD (webD n ts os) (.int 0) = .ok (.int (n : Int)) := ixD_t0
theorem webD_1 (n : Nat) (ts : Ties) (os : Orders) : ixD (webD n ts os) (.int 1) = .ok (tiesD ts) := ixD_t1
theorem webD_2 (n : Nat) (ts : Ties) (os : Orders) : ixD (webD n ts os) (.int 2) = .ok (ordersD os) := ixD_t2
section
variable {ts : Ties} {os : Orders} (h : MapOk ts os)
include h
theorem behind_eq {n e : Nat} (he : e < 2 * ts.length) : F_behind [webD n ts os, .int (e : Int)] = .ok (.int (beh ts os e : Int)) := by
  refine fn_of_wp ?_
  rw [show ini 4 [webD n ts os, .int (e : Int)] = [some (webD n ts os), some (.int (e : Int)), none, none] from rfl]
  refine wp_seq (wp_set (d := .int (oth e : Int)) ?_ ?_)
  · simp only [aF_ap, consF_ap, nilF_ap, vF_1, Rz.bind_ok, cO1, other_eq]
  simp only [set_2]
  refine wp_seq (wp_set (d := natsD (ord os (pl ts (oth e)))) ?_ ?_)
  · simp only [b2_ap, aF_ap, consF_ap, nilF_ap, vF_0, vF_2, cF_ap, Rz.bind_ok, cO_ap2, webD_1, webD_2, place_eq (oth_lt he)]
    exact ixD_orders rfl (h.place _ (oth_lt he))
  simp only [set_3]
  exact wp_seq (wp_ret (idx_prev (l := ord os (pl ts (oth e))) (x := oth e) rfl rfl (h.mem _ (oth_lt he))) rfl)
theorem lawbehind_eq {e : Nat} (he : e < 2 * ts.length) : F__law_behind [tiesD ts, ordersD os, .int (e : Int)] = .ok (.int (beh ts os e : Int)) := by
  refine fn_of_wp ?_
  rw [show ini 4 [tiesD ts, ordersD os, .int (e : Int)] = [some (tiesD ts), some (ordersD os), some (.int (e : Int)), none] from rfl]
  refine wp_seq (wp_set (d := natsD (ord os (pl ts (oth e)))) ?_ ?_)
  · simp only [b2_ap, aF_ap, consF_ap, nilF_ap, vF_0, vF_1, vF_2, cF_ap, Rz.bind_ok, cO_ap2, cO1, lawother_eq, lawplace_eq (oth_lt he)]
    exact ixD_orders rfl (h.place _ (oth_lt he))
  simp only [set_3]
  refine wp_seq (wp_ret (idx_prev (l := ord os (pl ts (oth e))) (x := oth e) rfl ?_ (h.mem _ (oth_lt he))) rfl)
  simp only [aF_ap, consF_ap, nilF_ap, vF_2, Rz.bind_ok, cO1, lawother_eq]
end
end Lib

set_option Elab.async false
set_option linter.all false
set_option maxRecDepth 100000
/-! Maps: lands, as the program and the laws reckon them. -/
namespace Lib
open PySem L2 Pv
def rowsD (rs : List (List Nat)) : D := .lst (rs.map natsD)
abbrev lnd (ts : Ties) (os : Orders) (x : Nat) : List Nat := land (beh ts os) (2 * ts.length) x
abbrev lns (ts : Ties) (os : Orders) : List (List Nat) := landsV (beh ts os) (2 * ts.length)
theorem natsD_nil : natsD [] = .lst [] := rfl
theorem fuel_lt {n : Nat} (h : n ≤ 100000000) : n < fuel := by unfold fuel; omega
theorem neD_nat (a b : Nat) : neD (.int (a : Int)) (.int (b : Int)) = .ok (.bl (!(a == b))) := by
  rw [neD_int]
  congr 3
  rw [Bool.eq_iff_iff]; simp
  omega
section
variable {ts : Ties} {os : Orders} (h : MapOk ts os)
include h
theorem landfrom_eq {n x : Nat} (hx : x < 2 * ts.length) : F_land_from [webD n ts os, .int (x : Int)] = .ok (natsD (lnd ts os x)) := by
  have hm := h.many
  have hI := h.inj
  refine fn_of_wp ?_
  rw [show ini 4 [webD n ts os, .int (x : Int)] = [some (webD n ts os), some (.int (x : Int)), none, none] from rfl]
  refine wp_seq (wp_set (d := natsD [x]) (by simp only [aF_ap, consF_ap, nilF_ap, vF_1, Rz.bind_ok]; rfl) ?_)
  simp only [set_2]
  refine wp_seq (wp_set (d := .int (beh ts os x : Int)) (by simp only [aF_ap, consF_ap, nilF_ap, vF_0, vF_1, Rz.bind_ok, cO_ap2, behind_eq h hx]) ?_)
  simp only [set_3]
  let f := beh ts os
  let N := 2 * ts.length
  refine wp_seq (wp_wh (fun e => ∃ (told : List Nat) (y : Nat), e = [some (webD n ts os), some (.int (x : Int)), some (natsD told), some (.int (y : Int))] ∧ y < N ∧ hits f x N y ∧ told ++ run f x N y = lnd ts os x)
    (fun e => match (e[3]? : Option (Option D)) with | some (some (D.int y)) => (run f x N y.toNat).length | _ => 0) ⟨[x], f x, rfl, hI.lt x hx, hI.hits hx, rfl⟩ ?_ ?_)
  · have := run_len f x N (f x)
    show (run f x N ((f x : Int)).toNat).length < fuel
    rw [Int.toNat_natCast]
    exact fuel_lt (by omega)
  · rintro _ ⟨told, y, rfl, hy, hh, ht⟩
    refine ⟨!(y == x), by simp only [tF_ap, b2_ap, vF_3, vF_1, Rz.bind_ok, neD_nat, toB_bl], fun hb => ?_, fun hb => ?_⟩
    · have hne : y ≠ x := by simpa using hb
      obtain ⟨r1, r2⟩ := run_step hh hne
      have hlen : told.length ≤ N + 1 := by
        have e := congrArg List.length ht
        have := run_len f x N (f x)
        rw [List.length_append] at e
        have e2 : (lnd ts os x).length = (run f x N (f x)).length + 1 := rfl
        omega
      refine wp_seq (wp_app (ds := told.map fun (e : Nat) => .int (e : Int)) (d := .int (y : Int)) rfl (by simp) (by simp [lim]; omega) ?_)
      simp only [set_2]
      refine wp_seq (wp_set (d := .int (f y : Int)) (by simp only [aF_ap, consF_ap, nilF_ap, vF_0, vF_3, Rz.bind_ok, cO_ap2, behind_eq h hy]; rfl) (wp_sk ?_))
      simp only [set_3]
      refine ⟨⟨told ++ [y], f y, by unfold natsD; rw [List.map_append]; rfl, hI.lt y hy, r2, by rw [← ht, r1, List.append_assoc]; rfl⟩, ?_⟩
      show (run f x N ((f y : Int)).toNat).length < (run f x N ((y : Int)).toNat).length
      rw [Int.toNat_natCast, Int.toNat_natCast, r1]
      simp
    · have he : y = x := by simpa using hb
      subst he
      refine wp_seq (wp_ret (d := natsD told) rfl ?_)
      rw [← ht]
      have : run f y N y = [] := by
        cases hN : N with
        | zero => rfl
        | succ m => unfold run; rw [if_pos rfl]
      rw [this, List.append_nil]
end
/-! ### dicts of met ends -/
def keysOf (kvs : List (Key × D)) : List Key := kvs.map (·.1)
theorem valD_some (kvs : List (Key × D)) (k : Key) : (valD kvs k).isSome = true ↔ k ∈ keysOf kvs := by
  unfold valD keysOf
  rw [Option.isSome_map, List.find?_isSome, List.mem_map]
  constructor
  · rintro ⟨p, hp, e⟩; exact ⟨p, hp, of_decide_eq_true e⟩
  · rintro ⟨p, hp, e⟩; exact ⟨p, hp, decide_eq_true e⟩
theorem putD_keys (kvs : List (Key × D)) (k j : Key) (d : D) : j ∈ keysOf (putD kvs k d) ↔ j = k ∨ j ∈ keysOf kvs := by
  unfold putD
  split
  · rename_i hany
    have : keysOf (kvs.map fun kv => if kv.1 = k then (kv.1, d) else kv) = keysOf kvs := by
      unfold keysOf
      rw [List.map_map]
      refine List.map_congr_left fun p _ => ?_
      simp only [Function.comp]
      split <;> rfl
    rw [this]
    refine ⟨.inr, fun z => z.elim (fun e => ?_) id⟩
    obtain ⟨p, hp, e2⟩ := List.any_eq_true.mp hany
    rw [e]
    exact List.mem_map.mpr ⟨p, hp, of_decide_eq_true e2⟩
  · unfold keysOf
    rw [List.map_append, List.mem_append]
    simp only [List.map_cons, List.map_nil, List.mem_singleton]
    exact or_comm
theorem putD_len (kvs : List (Key × D)) (k : Key) (d : D) : (putD kvs k d).length ≤ kvs.length + 1 := by
  unfold putD
  split
  · rw [List.length_map]; omega
  · rw [List.length_append, List.length_singleton]; exact Nat.le_refl _
theorem dnin_eq (x : Nat) (kvs : List (Key × D)) : dninD (.int (x : Int)) (.dK kvs) = .ok (.bl (!(valD kvs (.inl (x : Int))).isSome)) := rfl
theorem din_eq (x : Nat) (kvs : List (Key × D)) : dinD (.int (x : Int)) (.dK kvs) = .ok (.bl (valD kvs (.inl (x : Int))).isSome) := rfl
theorem flt_nats (l : List Nat) : (l.map fun (e : Nat) => D.int (e : Int)).all flt = true := by
  rw [List.all_map]; exact List.all_eq_true.mpr fun _ _ => rfl
/-- a loop through plain things that are owned -/
theorem wp_fr {u : En → Rz Fl} {e : En} {N : En → Prop} {R : D → Prop} {i j ki k1 : Nat} {pF : En → Rz (List Nat)} {p : List Nat} {d : D} {ds : List D} (hp : pF e = .ok p) (hi : e[i]? = some (some d)) (hg : getP d p = some (.lst ds)) (hf : ds.all flt = true) (hk : depP d ki p = some k1)
    (h : wp (forL (gN j) u ds (e.set i none)) (fun e' => N (e'.set i (some d))) R) : wp (frF i j ki pF u e) N R := by
  rw [wp_eq] at *
  unfold frF
  simp only [hp, Rz.bind_ok, hi, hg, hf, hk, Option.isSome_some, and_self, if_true]
  cases hu : forL (gN j) u ds (e.set i none) with
  | er c => rw [hu] at h; exact h
  | no => rw [hu] at h; exact h
  | ok a =>
    rw [hu] at h
    cases a with
    | rt r => exact h
    | nx e2 => exact h
theorem last_pi {e : En} {rs : List (List Nat)} {r : List Nat} (i : Nat) (hi : e[i]? = some (some (rowsD (rs ++ [r])))) : pI i (pV i) (u1 negD (cF (.int 1))) e = .ok [rs.length] ∧ getP (rowsD (rs ++ [r])) [rs.length] = some (natsD r) ∧ depP (rowsD (rs ++ [r])) 2 [rs.length] = some 1 := by
  have hg : (List.map natsD (rs ++ [r]))[rs.length]? = some (natsD r) := by
    rw [List.getElem?_map, List.getElem?_append_right (Nat.le_refl _), Nat.sub_self]; rfl
  have hgp : getP (rowsD (rs ++ [r])) [rs.length] = some (natsD r) := by
    unfold rowsD getP kids
    simp only [hg]
    rfl
  refine ⟨?_, hgp, ?_⟩
  · unfold pI
    rw [pV_ok hi]
    simp only [Rz.bind_ok, hi]
    have h0 : getP (rowsD (rs ++ [r])) [] = some (rowsD (rs ++ [r])) := rfl
    rw [h0]
    have h1 : (u1 negD (cF (.int 1))) e = .ok (.int (-1)) := rfl
    simp only [h1, Rz.bind_ok]
    have h2 : at1 (rowsD (rs ++ [r])) (.int (-1)) = some rs.length := by
      unfold at1 rowsD kids
      simp only [List.length_map, List.length_append, List.length_singleton]
      unfold ixN
      rw [if_neg (by omega), if_pos (by omega)]
      congr 1; omega
    simp only [h2, hgp, List.nil_append]
  · unfold depP rowsD kids kdep
    simp only [hg]
    rfl
section
variable {ts : Ties} {os : Orders} (h : MapOk ts os)
include h
theorem lands_eq {n : Nat} : F_lands [webD n ts os] = .ok (rowsD (lns ts os)) := by
  have hm := h.many
  have hI := h.inj
  let f := beh ts os
  let N := 2 * ts.length
  refine fn_of_wp ?_
  rw [show ini 5 [webD n ts os] = [some (webD n ts os), none, none, none, none] from rfl]
  refine wp_seq (wp_set (d := rowsD []) rfl ?_)
  simp only [set_1]
  refine wp_seq (wp_set (d := .dK []) rfl ?_)
  simp only [set_2]
  have hlenT : lenO [tiesD ts] = .ok (.int (ts.length : Int)) := by unfold tiesD; rw [lenO_lst, List.length_map]
  refine wp_seq (wp_for (ds := upto 0 (N : Int)) ?_ (fun j e => ∃ (kvs : List (Key × D)) (o3 o4 : Option D), e = [some (webD n ts os), some (rowsD (landsUp f N j)), some (.dK kvs), o3, o4] ∧ (∀ k : Nat, (.inl (k : Int) : Key) ∈ keysOf kvs ↔ k ∈ (landsUp f N j).flatten) ∧ kvs.length ≤ j * (N + 1)) ⟨[], _, _, rfl, by simp [keysOf, landsUp], by simp⟩ ?_ ?_)
  · simp only [aI_ap, consF_ap, nilF_ap, b2_ap, aF_ap, cF_ap, vF_0, Rz.bind_ok, webD_1, hlenT, i2_int, mulI_l (i := 2) (j := (ts.length : Int)) (by omega)]
    have : (2 : Int) * (ts.length : Int) = (N : Int) := by show _ = ((2 * ts.length : Nat) : Int); omega
    rw [this]
    exact rng1_ok (by omega) (by omega)
  · rintro j d _ hd ⟨kvs, o3, o4, rfl, hk, hl⟩
    obtain ⟨rfl, hj⟩ := upto_get hd
    have hj : j < N := by omega
    refine ⟨_, rfl, ?_⟩
    simp only [set_3]
    have hstep := landsUp_succ f N j
    refine wp_seq (wp_if (b := !decide (j ∈ (landsUp f N j).flatten)) ?_ (fun hb => ?_) fun hb => wp_sk (wp_sk ?_))
    · simp only [tF_ap, b2_ap, vF_3, vF_2, Rz.bind_ok, dnin_eq, toB_bl]
      congr 2
      rw [Bool.eq_iff_iff, valD_some, hk, decide_eq_true_eq]
    · have hnm : j ∉ (landsUp f N j).flatten := by simpa using hb
      have hst : landsUp f N (j + 1) = landsUp f N j ++ [lnd ts os j] := by
        rw [hstep]; unfold stepL; rw [if_neg hnm]
      have hln := landsUp_len f N j
      refine wp_seq (wp_app (ds := (landsUp f N j).map natsD) (d := natsD (lnd ts os j)) rfl (by simp only [aF_ap, consF_ap, nilF_ap, vF_0, vF_3, Rz.bind_ok, cO_ap2, landfrom_eq h hj]) (by simp [lim]; omega) ?_)
      simp only [set_1]
      have hrow : D.lst ((landsUp f N j).map natsD ++ [natsD (lnd ts os j)]) = rowsD (landsUp f N (j + 1)) := by
        rw [hst]; unfold rowsD; rw [List.map_append]; rfl
      rw [hrow]
      have hll : (lnd ts os j).length ≤ N + 1 := by
        have := run_len f j N (f j)
        show (run f j N (f j)).length + 1 ≤ N + 1
        omega
      rw [hst]
      have hb2 : j * (N + 1) + (N + 1) = (j + 1) * (N + 1) := by rw [Nat.succ_mul]
      have hbig : (j + 1) * (N + 1) ≤ 900 * 901 := Nat.mul_le_mul (by omega) (by omega)
      obtain ⟨p1, p2, p3⟩ := last_pi (e := [some (webD n ts os), some (rowsD (landsUp f N j ++ [lnd ts os j])), some (.dK kvs), some (.int (j : Int)), o4]) (rs := landsUp f N j) (r := lnd ts os j) 1 rfl
      refine wp_seq (wp_fr p1 rfl p2 (flt_nats _) p3 ?_)
      show wp (forL (gN 4) _ _ [some (webD n ts os), none, some (.dK kvs), some (.int (j : Int)), o4]) _ _
      refine wp_forL (fun t e => ∃ (kvs2 : List (Key × D)) (o4 : Option D), e = [some (webD n ts os), none, some (.dK kvs2), some (.int (j : Int)), o4] ∧ (∀ k : Nat, (.inl (k : Int) : Key) ∈ keysOf kvs2 ↔ k ∈ (landsUp f N j).flatten ∨ k ∈ (lnd ts os j).take t) ∧ kvs2.length ≤ j * (N + 1) + t) ⟨kvs, _, rfl, fun k => by simp [hk], by omega⟩ ?_ ?_
      · rintro t d _ hd ⟨kvs2, o4, rfl, hk2, hl2⟩
        rw [List.getElem?_map] at hd
        cases hx : (lnd ts os j)[t]? with
        | none => rw [hx] at hd; cases hd
        | some x =>
          rw [hx] at hd
          cases hd
          have htl := (List.getElem?_eq_some_iff.mp hx).1
          refine ⟨_, rfl, ?_⟩
          simp only [set_4]
          refine wp_seq (wp_dput (d := .bl true) (y := .int (x : Int)) (ky := .inl (x : Int)) rfl rfl rfl rfl (by unfold lim; omega) (wp_sk ?_))
          simp only [set_2]
          refine ⟨_, _, rfl, fun k => ?_, ?_⟩
          · rw [putD_keys, hk2, List.take_add_one, hx]
            simp only [Option.toList_some, List.mem_append, List.mem_singleton]
            have : ((.inl (k : Int) : Key) = .inl (x : Int)) ↔ k = x := by
              constructor
              · intro e; have := Sum.inl.inj e; omega
              · rintro rfl; rfl
            rw [this]
            constructor
            · rintro (z | z | z)
              · exact .inr (.inr z)
              · exact .inl z
              · exact .inr (.inl z)
            · rintro (z | z | z)
              · exact .inr (.inl z)
              · exact .inr (.inr z)
              · exact .inl z
          · have := putD_len kvs2 (.inl (x : Int)) (.bl true)
            omega
      · rintro _ ⟨kvs2, o4, rfl, hk2, hl2⟩
        rw [List.length_map] at hk2 hl2
        rw [List.take_length] at hk2
        refine wp_sk (wp_sk ⟨kvs2, some (.int (j : Int)), o4, rfl, fun k => ?_, by omega⟩)
        rw [hk2, List.flatten_append, List.mem_append]
        simp
    · have hm2 : j ∈ (landsUp f N j).flatten := by simpa using hb
      have hst : landsUp f N (j + 1) = landsUp f N j := by
        rw [hstep]; unfold stepL; rw [if_pos hm2]
      rw [hst]
      have hb2 : j * (N + 1) + (N + 1) = (j + 1) * (N + 1) := by rw [Nat.succ_mul]
      exact ⟨kvs, _, _, rfl, hk, by omega⟩
  · rintro _ ⟨kvs, o3, o4, rfl, hk, hl⟩
    rw [upto_len, Int.toNat_natCast]
    exact wp_seq (wp_ret rfl rfl)
end
end Lib

set_option Elab.async false
set_option linter.all false
set_option maxRecDepth 100000
/-! Maps: lands, as the laws reckon them; the land of an end. -/
namespace Lib
open PySem L2 Pv
theorem wp_ap {u : En → Rz Fl} {e : En} {N : En → Prop} {R : D → Prop} {i j ki kj : Nat} {ds : List D} {d1 : D} (hi : e[i]? = some (some (.lst ds))) (hj : e[j]? = some (some d1)) (hl : ds.length < lim) (him : immK d1 (min (min ki kj) 40) = true) (hjl : j < e.length)
    (h : wp (u (e.set i none)) (fun e' => ∃ d2, e'[j]? = some (some d2) ∧ immK d2 (min (min ki kj) 40) = true ∧ N (e'.set i (some (.lst (ds ++ [d2]))))) R) : wp (apF i j ki kj u e) N R := by
  rw [wp_eq] at *
  unfold apF
  rw [hi, hj]
  simp only [hl, him, hjl, and_self, if_true]
  cases hu : u (e.set i none) with
  | er c => rw [hu] at h; exact h
  | no => rw [hu] at h; exact h
  | ok a =>
    rw [hu] at h
    cases a with
    | rt r => exact h
    | nx e2 =>
      obtain ⟨d2, h1, h2, h3⟩ := h
      simp only [Rz.bind_ok, h1, h2, if_true]
      exact h3
theorem contains_nats (l : List Nat) (x : Nat) : (l.map fun (e : Nat) => (e : Int)).contains (x : Int) = decide (x ∈ l) := by
  rw [Bool.eq_iff_iff, List.contains_iff_mem, decide_eq_true_eq, List.mem_map]
  constructor
  · rintro ⟨y, hy, e⟩
    have : y = x := by omega
    subst this; exact hy
  · intro h; exact ⟨x, h, rfl⟩
theorem nin_nats (x : Nat) (l : List Nat) : ninD (.int (x : Int)) (natsD l) = .ok (.bl (!decide (x ∈ l))) := by
  rw [natsD_ints, ninD_ints, contains_nats]
theorem in_nats (x : Nat) (l : List Nat) : inD (.int (x : Int)) (natsD l) = .ok (.bl (decide (x ∈ l))) := by
  rw [natsD_ints, inD_ints, contains_nats]
theorem okQs_nats (l : List Nat) (n : Nat) : okQs (l.map fun (e : Nat) => D.int (e : Int)) n = true := okQs_mapf _ _ _ fun _ => rfl
theorem neN_nil (l : List Nat) : neD (natsD l) (.lst []) = .ok (.bl (!l.isEmpty)) := by
  have := neD_nil (l.map fun (e : Nat) => D.int (e : Int)) (okQs_nats l 19)
  rw [show natsD l = .lst (l.map fun (e : Nat) => D.int (e : Int)) from rfl, this]
  cases l <;> rfl
theorem immK_nats (l : List Nat) (k : Nat) : immK (natsD l) (k + 1) = true := by
  unfold natsD
  rw [immK, immKs_all _ fun d hd => by obtain ⟨n, _, rfl⟩ := List.mem_map.mp hd; rfl]
  simp
/-- filter of a range: what stands ahead is less -/
theorem range_head {p : Nat → Bool} {N x : Nat} {r : List Nat} (h : (List.range N).filter p = x :: r) : x < N ∧ p x = true ∧ ∀ y, y < x → p y = false := by
  have hm : x ∈ (List.range N).filter p := by rw [h]; exact List.mem_cons_self
  obtain ⟨h1, h2⟩ := List.mem_filter.mp hm
  have h1 := List.mem_range.mp h1
  refine ⟨h1, h2, fun y hy => ?_⟩
  cases hp : p y with
  | false => rfl
  | true =>
    exfalso
    have hy2 : y ∈ (List.range N).filter p := List.mem_filter.mpr ⟨List.mem_range.mpr (by omega), hp⟩
    have hs : ((List.range N).filter p).Pairwise (· < ·) := List.Pairwise.filter _ List.pairwise_lt_range
    rw [h] at hs hy2
    rcases List.mem_cons.mp hy2 with e | hy2
    · omega
    · have := (List.pairwise_cons.mp hs).1 y hy2
      omega
section
variable {ts : Ties} {os : Orders} (h : MapOk ts os)
include h
theorem lawlands_eq : F__law_lands [tiesD ts, ordersD os] = .ok (rowsD (lns ts os)) := by
  have hm := h.many
  have hI := h.inj
  let f := beh ts os
  let N := 2 * ts.length
  refine fn_of_wp ?_
  rw [show ini 7 [tiesD ts, ordersD os] = [some (tiesD ts), some (ordersD os), none, none, none, none, none] from rfl]
  refine wp_seq (wp_set (d := rowsD []) rfl ?_)
  simp only [set_2]
  have hlenT : lenO [tiesD ts] = .ok (.int (ts.length : Int)) := by unfold tiesD; rw [lenO_lst, List.length_map]
  have hN : (2 : Int) * (ts.length : Int) = (N : Int) := by show _ = ((2 * ts.length : Nat) : Int); omega
  refine wp_seq (wp_set (d := natsD (List.range N)) ?_ ?_)
  · simp only [aF_ap, consF_ap, nilF_ap, b2_ap, cF_ap, vF_0, Rz.bind_ok, hlenT, i2_int, mulI_l (i := 2) (j := (ts.length : Int)) (by omega), hN]
    unfold lrgO
    simp only
    rw [if_pos ⟨by omega, by omega⟩, upto_nat]; rfl
  simp only [set_3]
  let left : Nat → List Nat := fun j => (List.range N).filter fun x => !decide (x ∈ (landsUp f N j).flatten)
  refine wp_seq (wp_wh (fun e => ∃ (j : Nat) (o4 o5 : Option D), e = [some (tiesD ts), some (ordersD os), some (rowsD (landsUp f N j)), some (natsD (left j)), o4, o5, none] ∧ j ≤ N)
    (fun e => match (e[3]? : Option (Option D)) with | some (some (D.lst l)) => l.length | _ => 0) ⟨0, none, none, ?_, Nat.zero_le _⟩ ?_ ?_)
  · have : left 0 = List.range N := by
      show (List.range N).filter (fun x => !decide (x ∈ (landsUp f N 0).flatten)) = _
      exact List.filter_eq_self.mpr fun x _ => by simp [landsUp]
    rw [this]; rfl
  · show ((List.range N).map fun (e : Nat) => D.int (e : Int)).length < fuel
    rw [List.length_map, List.length_range]
    exact fuel_lt (by omega)
  rintro _ ⟨j, o4, o5, rfl, hjN⟩
  refine ⟨!(left j).isEmpty, by simp only [tF_ap, b2_ap, aF_ap, nilF_ap, vF_3, Rz.bind_ok, lstO_0, neN_nil, toB_bl], fun hb => ?_, fun hb => ?_⟩
  · cases hleft : left j with
    | nil => rw [hleft] at hb; cases hb
    | cons x r =>
      obtain ⟨hx, hxn, hlt⟩ := range_head hleft
      have hxf : x ∉ (landsUp f N j).flatten := by simpa using hxn
      have hjx : j ≤ x := by
        refine Nat.le_of_not_lt fun z => hxf (flat_upto z)
      have hup : landsUp f N x = landsUp f N j := by
        have := landsUp_skip (f := f) (N := N) (j := j) (x - j) fun y h1 h2 => by
          have := hlt y (by omega)
          simpa using this
        rw [show j + (x - j) = x by omega] at this; exact this
      have hup2 : landsUp f N (x + 1) = landsUp f N j ++ [lnd ts os x] := by
        rw [landsUp_succ, hup]; unfold stepL; rw [if_neg hxf]
      have e0 : ixD (natsD (x :: r)) (.int 0) = .ok (.int (x : Int)) := ixD_nats (k := 0) rfl (by simp)
      refine wp_seq (wp_set (d := natsD [x]) (by simp only [aF_ap, consF_ap, nilF_ap, b2_ap, cF_ap, vF_3, Rz.bind_ok, e0]; rfl) ?_)
      simp only [set_4]
      refine wp_seq (wp_set (d := .int (f x : Int)) (by simp only [aF_ap, consF_ap, nilF_ap, b2_ap, cF_ap, vF_0, vF_1, vF_3, Rz.bind_ok, e0, cO_ap3, lawbehind_eq h hx]; rfl) ?_)
      simp only [set_5]
      have hlnl : (lnd ts os x).length ≤ N + 1 := by
        have := run_len f x N (f x)
        show (run f x N (f x)).length + 1 ≤ N + 1
        omega
      refine wp_seq (wp_wh (fun e => ∃ (told : List Nat) (y : Nat), e = [some (tiesD ts), some (ordersD os), some (rowsD (landsUp f N j)), some (natsD (x :: r)), some (natsD told), some (.int (y : Int)), none] ∧ y < N ∧ hits f x N y ∧ told ++ run f x N y = lnd ts os x ∧ told.getD 0 0 = x ∧ 0 < told.length)
        (fun e => match (e[5]? : Option (Option D)) with | some (some (D.int y)) => (run f x N y.toNat).length | _ => 0) ⟨[x], f x, rfl, hI.lt x hx, hI.hits hx, rfl, rfl, by simp⟩ ?_ ?_)
      · have := run_len f x N (f x)
        show (run f x N ((f x : Int)).toNat).length < fuel
        rw [Int.toNat_natCast]
        exact fuel_lt (by omega)
      rintro _ ⟨told, y, rfl, hy, hh, ht, h0, hpos⟩
      have e1 : ixD (natsD told) (.int 0) = .ok (.int (x : Int)) := by
        have := ixD_nats (l := told) (i := 0) (k := 0) rfl hpos
        rw [h0] at this; exact this
      have hlen : told.length ≤ N + 1 := by
        have e := congrArg List.length ht
        rw [List.length_append] at e
        omega
      refine ⟨!(y == x), by simp only [tF_ap, b2_ap, vF_4, vF_5, cF_ap, Rz.bind_ok, e1, neD_nat, toB_bl], fun hb => ?_, fun hb => ?_⟩
      · have hne : y ≠ x := by simpa using hb
        obtain ⟨r1, r2⟩ := run_step hh hne
        refine wp_seq (wp_app (ds := told.map fun (e : Nat) => .int (e : Int)) (d := .int (y : Int)) rfl (by simp) (by simp [lim]; omega) ?_)
        simp only [set_4]
        refine wp_seq (wp_set (d := .int (f y : Int)) (by simp only [aF_ap, consF_ap, nilF_ap, vF_0, vF_1, vF_5, Rz.bind_ok, cO_ap3, lawbehind_eq h hy]; rfl) (wp_sk ?_))
        simp only [set_5]
        refine ⟨⟨told ++ [y], f y, by unfold natsD; rw [List.map_append]; rfl, hI.lt y hy, r2, by rw [← ht, r1, List.append_assoc]; rfl, ?_, by simp⟩, ?_⟩
        · rw [List.getD_eq_getElem?_getD, List.getElem?_append_left hpos, ← List.getD_eq_getElem?_getD]; exact h0
        · show (run f x N ((f y : Int)).toNat).length < (run f x N ((y : Int)).toNat).length
          rw [Int.toNat_natCast, Int.toNat_natCast, r1]
          simp
      · have he : y = x := by simpa using hb
        subst he
        have hrun : run f y N y = [] := by
          cases hN : N with
          | zero => rfl
          | succ m => unfold run; rw [if_pos rfl]
        rw [hrun, List.append_nil] at ht
        rw [ht]
        have hul := landsUp_len f N j
        refine wp_ap (ds := (landsUp f N j).map natsD) (d1 := natsD (lnd ts os y)) rfl rfl (by simp [lim]; omega) (immK_nats _ 0) (by simp) ?_
        show wp (seqF _ _ [some (tiesD ts), some (ordersD os), none, some (natsD (y :: r)), some (natsD (lnd ts os y)), some (.int (y : Int)), none]) _ _
        have hc := comp_FF (e := [some (tiesD ts), some (ordersD os), none, some (natsD (y :: r)), some (natsD (lnd ts os y)), some (.int (y : Int)), none]) (it := lOf (vF 3)) (own := [6]) (tg := gN 6) (t := (tF (b2 ninD (vF 6) (vF 4)))) (f := vF 6) (xs := y :: r) (gg := fun (e : Nat) => .int (e : Int)) (hh := fun (e : Nat) => .int (e : Int)) (fun z => !decide (z ∈ lnd ts os y)) (by simp [natsD]) (by
            rw [← hleft]
            have h9 : (left j).length ≤ N := by
              have := List.length_filter_le (fun x => !decide (x ∈ (landsUp f N j).flatten)) (List.range N)
              rw [List.length_range] at this
              exact this
            unfold lim; omega) (fun z hz => ⟨_, rfl, by simp only [ewipe, set_6, tF_ap, b2_ap, vF_6, vF_4, Rz.bind_ok, nin_nats, toB_bl], fun _ => rfl⟩)
        refine wp_seq (wp_set hc (wp_sk ?_))
        simp only [set_3]
        refine ⟨natsD (lnd ts os y), rfl, immK_nats _ 0, ?_, ?_⟩
        · refine ⟨y + 1, some (natsD (lnd ts os y)), some (.int (y : Int)), ?_, by omega⟩
          have e1 : D.lst ((landsUp f N j).map natsD ++ [natsD (lnd ts os y)]) = rowsD (landsUp f N (y + 1)) := by
            rw [hup2]; unfold rowsD; rw [List.map_append]; rfl
          have e2 : (y :: r).filter (fun z => !decide (z ∈ lnd ts os y)) = left (y + 1) := by
            rw [← hleft]
            show ((List.range N).filter _).filter _ = (List.range N).filter fun x => !decide (x ∈ (landsUp f N (y + 1)).flatten)
            rw [List.filter_filter]
            refine List.filter_congr fun z _ => ?_
            rw [hup2, List.flatten_append]
            simp only [List.flatten_cons, List.flatten_nil, List.append_nil, List.mem_append]
            by_cases z1 : z ∈ lnd ts os y <;> by_cases z2 : z ∈ (landsUp f N j).flatten <;> simp [z1, z2]
          rw [e1, e2]; rfl
        · show (((y :: r).filter fun z => !decide (z ∈ lnd ts os y)).map fun (e : Nat) => D.int (e : Int)).length < ((y :: r).map fun (e : Nat) => D.int (e : Int)).length
          rw [List.length_map, List.length_map, List.filter_cons]
          have : (!decide (y ∈ lnd ts os y)) = false := by simp [land]
          rw [this]
          have := List.length_filter_le (fun z => !decide (z ∈ lnd ts os y)) r
          simp; omega
  · refine wp_seq (wp_ret (d := rowsD (landsUp f N j)) rfl ?_)
    have hnil : left j = [] := by
      cases hl : left j with
      | nil => rfl
      | cons a r => rw [hl] at hb; cases hb
    have := landsUp_skip (f := f) (N := N) (j := j) (N - j) fun y h1 h2 => by
      refine Classical.byContradiction fun hn => ?_
      have : y ∈ left j := List.mem_filter.mpr ⟨List.mem_range.mpr (by omega), by simpa using hn⟩
      rw [hnil] at this; exact nomatch this
    rw [show j + (N - j) = N by omega] at this
    show rowsD (landsUp f N j) = rowsD (landsUp f N N)
    rw [this]
end
end Lib

set_option Elab.async false
set_option linter.all false
set_option maxRecDepth 100000
/-! Maps: the number of an end's land. -/
namespace Lib
open PySem L2 Pv
def landNo (L : List (List Nat)) (e : Nat) : Nat := L.findIdx fun r => decide (e ∈ r)
/-- the ends below N, each in just one row -/
structure Split (L : List (List Nat)) (N : Nat) : Prop where
  dis : L.Pairwise fun a b => ∀ z ∈ a, z ∉ b
  all : ∀ e, e < N → e ∈ L.flatten
  lt : ∀ r ∈ L, ∀ e ∈ r, e < N
theorem Split.no {L : List (List Nat)} {N e : Nat} (h : Split L N) (he : e < N) : landNo L e < L.length ∧ e ∈ L.getD (landNo L e) [] := by
  obtain ⟨r, hr, her⟩ := List.mem_flatten.mp (h.all e he)
  have hl : landNo L e < L.length := List.findIdx_lt_length_of_exists ⟨r, hr, by simpa using her⟩
  refine ⟨hl, ?_⟩
  have := List.findIdx_getElem (w := hl)
  rw [List.getD_eq_getElem?_getD, List.getElem?_eq_getElem hl]
  exact of_decide_eq_true this
theorem Split.uniq {L : List (List Nat)} {N e i : Nat} (h : Split L N) (hi : i < L.length) (he : e ∈ L.getD i []) : i = landNo L e := by
  have hen : e < N := h.lt _ (by rw [List.getD_eq_getElem?_getD, List.getElem?_eq_getElem hi]; exact List.getElem_mem hi) e he
  obtain ⟨h1, h2⟩ := h.no hen
  rw [List.getD_eq_getElem?_getD, List.getElem?_eq_getElem hi] at he
  rw [List.getD_eq_getElem?_getD, List.getElem?_eq_getElem h1] at h2
  have pw := List.pairwise_iff_getElem.mp h.dis
  rcases Nat.lt_trichotomy i (landNo L e) with z | z | z
  · exact absurd h2 (pw _ _ hi h1 z e he)
  · exact z
  · exact absurd he (pw _ _ h1 hi z e h2)
section
variable {ts : Ties} {os : Orders} (h : MapOk ts os)
include h
theorem lns_split : Split (lns ts os) (2 * ts.length) where
  dis := (h.inj.ups (Nat.le_refl _)).2
  all := fun e he => flat_upto he
  lt := fun r hr e he => h.inj.flat_lt (Nat.le_refl _) (List.mem_flatten.mpr ⟨r, hr, he⟩)
theorem lns_len : (lns ts os).length ≤ 2 * ts.length := landsUp_len _ _ _
theorem lns_row {r : List Nat} (hr : r ∈ lns ts os) : r.length ≤ 2 * ts.length + 1 := by
  obtain ⟨x, hx, rfl⟩ := (h.inj.ups (Nat.le_refl _)).1 r hr
  have := run_len (beh ts os) x (2 * ts.length) (beh ts os x)
  show (run _ _ _ _).length + 1 ≤ _
  omega
end
theorem set_nats (l : List Nat) (i x : Nat) : (l.map fun (e : Nat) => D.int (e : Int)).set i (.int (x : Int)) = (l.set i x).map fun (e : Nat) => .int (e : Int) := by simp [List.map_set]
theorem enum_get {L : List (List Nat)} {j : Nat} {d : D} (h : (enumL (L.map natsD))[j]? = some d) : j < L.length ∧ d = .tup [.int (j : Int), natsD (L.getD j [])] := by
  rw [enumL_map, List.getElem?_map, List.getElem?_zipIdx] at h
  cases hg : L[j]? with
  | none => rw [hg] at h; cases h
  | some x =>
    rw [hg] at h
    refine ⟨(List.getElem?_eq_some_iff.mp hg).1, ?_⟩
    rw [List.getD_eq_getElem?_getD, hg]
    simp at h
    exact h.symm
section
variable {ts : Ties} {os : Orders} (h : MapOk ts os)
include h
theorem byends_eq {n : Nat} : F_lands_by_ends [webD n ts os] = .ok (natsD ((List.range (2 * ts.length)).map (landNo (lns ts os)))) := by
  have hm := h.many
  have hS := lns_split h
  let N := 2 * ts.length
  let L := lns ts os
  have hLl := lns_len h
  refine fn_of_wp ?_
  rw [show ini 5 [webD n ts os] = [some (webD n ts os), none, none, none, none] from rfl]
  have hlenT : lenO [tiesD ts] = .ok (.int (ts.length : Int)) := by unfold tiesD; rw [lenO_lst, List.length_map]
  have hN : (2 : Int) * (ts.length : Int) = (N : Int) := by show _ = ((2 * ts.length : Nat) : Int); omega
  have hc := comp_F (e := [some (webD n ts os), none, none, none, none]) (it := (aI rng1 (consF (b2 (i2 mulI) (cF (.int 2)) (aF lenO (consF (b2 ixD (vF 0) (cF (.int 1))) nilF))) nilF))) (own := [2]) (tg := gN 2) (f := cF (.int 0)) (xs := List.range N) (gg := fun (i : Nat) => .int (i : Int)) (hh := fun _ => .int ((0 : Nat) : Int)) (by
    simp only [aI_ap, consF_ap, nilF_ap, b2_ap, aF_ap, cF_ap, vF_0, Rz.bind_ok, webD_1, hlenT, i2_int, mulI_l (i := 2) (j := (ts.length : Int)) (by omega), hN]
    rw [rng1_ok (by omega) (by omega), upto_nat]) (by rw [List.length_range]; unfold lim; omega) (fun x hx => ⟨_, rfl, rfl⟩)
  refine wp_seq (wp_set hc ?_)
  simp only [set_1]
  -- what stands there when the first j rows are told
  let val : Nat → Nat → Nat → Nat := fun j t e => if landNo L e < j then landNo L e else if e ∈ (L.getD j []).take t then j else 0
  refine wp_seq (wp_for (ds := enumL (L.map natsD)) (by simp only [aI_ap, aF_ap, consF_ap, nilF_ap, vF_0, Rz.bind_ok, cO1, lands_eq h]; rfl) (fun j e => ∃ (o2 o3 o4 : Option D), e = [some (webD n ts os), some (natsD ((List.range N).map (val j 0))), o2, o3, o4]) ⟨none, none, none, ?_⟩ ?_ ?_)
  · have : (List.range N).map (val 0 0) = (List.range N).map fun _ => 0 := List.map_congr_left fun e _ => by simp [val]
    rw [this]
    unfold natsD
    rw [List.map_map]; rfl
  · rintro j d _ hd ⟨o2, o3, o4, rfl⟩
    obtain ⟨hj, rfl⟩ := enum_get hd
    refine ⟨_, by simp; rfl, ?_⟩
    refine wp_seq (wp_for (ds := (L.getD j []).map fun (e : Nat) => .int (e : Int)) (by simp [natsD]) (fun t e => ∃ (o2 : Option D), e = [some (webD n ts os), some (natsD ((List.range N).map (val j t))), o2, some (.int (j : Int)), some (natsD (L.getD j []))]) ⟨_, rfl⟩ ?_ ?_)
    · rintro t d _ hd ⟨o2, rfl⟩
      rw [List.getElem?_map] at hd
      cases hx : (L.getD j [])[t]? with
      | none => rw [hx] at hd; cases hd
      | some x =>
        rw [hx] at hd
        cases hd
        refine ⟨_, rfl, ?_⟩
        simp only [set_2]
        have hxm := List.mem_of_getElem? hx
        have hxn : j = landNo L x := hS.uniq hj hxm
        have hxN : x < N := hS.lt (L.getD j []) (by rw [List.getD_eq_getElem?_getD, List.getElem?_eq_getElem hj]; exact List.getElem_mem hj) x hxm
        refine wp_seq (wp_st (ds := ((List.range N).map (val j t)).map fun (e : Nat) => .int (e : Int)) (d := .int (j : Int)) (k := (x : Int)) (j := x) (by simp) rfl (by simp) rfl (by simp; omega) (wp_sk ?_))
        simp only [set_1]
        refine ⟨some (.int (x : Int)), ?_⟩
        rw [set_nats]
        have : ((List.range N).map (val j t)).set x j = (List.range N).map (val j (t + 1)) := by
          refine List.ext_getElem? fun i => ?_
          by_cases hi : i < N
          · by_cases hix : x = i
            · subst hix
              rw [List.getElem?_set_self (by simp; omega), List.getElem?_map, List.getElem?_range hi]
              have e1 : val j (t + 1) x = j := by
                show (if landNo L x < j then landNo L x else if x ∈ (L.getD j []).take (t + 1) then j else 0) = j
                rw [if_neg (by omega), if_pos]
                rw [List.take_add_one, hx]; simp
              rw [Option.map_some, e1]
            · rw [List.getElem?_set_ne hix, List.getElem?_map, List.getElem?_map, List.getElem?_range hi]
              have e1 : val j (t + 1) i = val j t i := by
                show (if landNo L i < j then landNo L i else if i ∈ (L.getD j []).take (t + 1) then j else 0) = (if landNo L i < j then landNo L i else if i ∈ (L.getD j []).take t then j else 0)
                have : i ∈ (L.getD j []).take (t + 1) ↔ i ∈ (L.getD j []).take t := by
                  rw [List.take_add_one, hx]
                  simp only [Option.toList_some, List.mem_append, List.mem_singleton]
                  exact ⟨fun z => z.elim id fun z => absurd z.symm hix, .inl⟩
                simp only [this]
              rw [Option.map_some, Option.map_some, e1]
          · rw [List.getElem?_eq_none (by simp; omega), List.getElem?_eq_none (by simp; omega)]
        rw [this]; rfl
    · rintro _ ⟨o2, rfl⟩
      rw [List.length_map]
      refine wp_sk ⟨o2, some (.int (j : Int)), some (natsD (L.getD j [])), ?_⟩
      have : (List.range N).map (val j (L.getD j []).length) = (List.range N).map (val (j + 1) 0) := List.map_congr_left fun e he => by
        have he := List.mem_range.mp he
        show (if landNo L e < j then landNo L e else if e ∈ (L.getD j []).take (L.getD j []).length then j else 0) = (if landNo L e < j + 1 then landNo L e else if e ∈ (L.getD (j + 1) []).take 0 then j + 1 else 0)
        rw [List.take_length, List.take_zero]
        by_cases h1 : landNo L e < j
        · rw [if_pos h1, if_pos (by omega)]
        · rw [if_neg h1]
          by_cases h2 : e ∈ L.getD j []
          · have h5 : j = landNo L e := hS.uniq hj h2
            rw [if_pos h2, ← h5, if_pos (by omega)]
          · rw [if_neg h2, if_neg]
            · simp
            · intro h3
              have h4 : landNo L e = j := by omega
              exact h2 (h4 ▸ (hS.no he).2)
      rw [this]
  · rintro _ ⟨o2, o3, o4, rfl⟩
    refine wp_seq (wp_ret rfl ?_)
    have hl : (enumL (L.map natsD)).length = L.length := by rw [enumL_map]; simp
    rw [hl]
    congr 1
    refine List.map_congr_left fun e he => ?_
    have he := List.mem_range.mp he
    show (if landNo L e < L.length then landNo L e else _) = landNo L e
    rw [if_pos (hS.no he).1]
theorem landof_eq {n e : Nat} (he : e < 2 * ts.length) : F_land_of [webD n ts os, .int (e : Int)] = .ok (.int (landNo (lns ts os) e : Int)) := by
  refine fn_of_wp ?_
  refine wp_seq (wp_ret ?_ rfl)
  have h1 := ixD_nats (l := (List.range (2 * ts.length)).map (landNo (lns ts os))) (i := (e : Int)) (k := e) rfl (by simpa using he)
  rw [List.getD_eq_getElem?_getD, List.getElem?_map, List.getElem?_range he] at h1
  simp only [b2_ap, aF_ap, consF_ap, nilF_ap, ini, List.map_cons, List.map_nil, List.cons_append, vF_0, vF_1, Rz.bind_ok, cO1, byends_eq h]
  exact h1
end
theorem okQ_nats (l : List Nat) (n : Nat) : okQ (natsD l) (n + 1) = true := by unfold natsD; rw [okQ]; exact okQs_nats l _
theorem same_rows (L : List (List Nat)) (hl : ∀ r ∈ L, r.length ≤ 100000) : F__law_same [rowsD L, rowsD L] = .ok (.bl true) := by
  refine fn_of_wp ?_
  rw [show ini 5 [rowsD L, rowsD L] = [some (rowsD L), some (rowsD L), none, none, none] from rfl]
  refine wp_seq (wp_if (b := false) ?_ (fun h => nomatch h) fun _ => wp_sk ?_)
  · simp [rowsD, tySub]
  refine wp_seq (wp_forR (xs := L) (gg := fun r => .tup [natsD r, natsD r]) ?_ (fun _ e => ∃ (o2 o3 : Option D), e = [some (rowsD L), some (rowsD L), o2, o3, none]) ⟨_, _, rfl⟩ ?_ ?_)
  · simp only [aI_ap, consF_ap, nilF_ap, vF_0, vF_1, Rz.bind_ok]
    show zipO [.lst (L.map natsD), .lst (L.map natsD)] = _
    rw [zipO_ap, zipL_map]
    congr 1
    induction L with
    | nil => rfl
    | cons a L ih => rw [List.zip_cons_cons, List.map_cons, List.map_cons, ih fun r hr => hl r (List.mem_cons_of_mem _ hr)]
  · rintro r rest _ hr ⟨o2, o3, rfl⟩
    refine ⟨_, by simp; rfl, ?_⟩
    have hlr := hl r hr
    have hc := comp_FF (e := [some (rowsD L), some (rowsD L), some (natsD r), some (natsD r), none]) (it := lOf (vF 2)) (own := [4]) (tg := gN 4) (t := (tF (u1 (isiD "bool") (vF 4)))) (f := vF 4) (xs := r) (gg := fun (e : Nat) => .int (e : Int)) (hh := fun (e : Nat) => .int (e : Int)) (fun _ => false) (by simp [natsD]) (by unfold lim; omega) (fun z hz => ⟨_, rfl, by simp [ewipe, tySub], fun z => nomatch z⟩)
    rw [List.filter_eq_nil_iff.mpr (by simp)] at hc
    have hne : neD (natsD r) (natsD r) = .ok (.bl false) := neD_same _ (okQ_nats r 19)
    have hn0 : neD (.lst []) (.lst []) = .ok (.bl false) := neD_same _ rfl
    have hty : isiD "list" (natsD r) = .ok (.bl true) := rfl
    refine wp_seq (wp_if (b := false) ?_ (fun h => nomatch h) fun _ => wp_sk (wp_sk ⟨_, _, rfl⟩))
    simp only [orF_ap, notF_ap, tF_ap, u1_ap, b2_ap, aF_ap, nilF_ap, vF_2, vF_3, Rz.bind_ok, hty, hne, hc, lstO_0, List.map_nil, hn0, toB_bl, Bool.not_true, Bool.false_eq_true, if_false]
  · rintro _ ⟨o2, o3, rfl⟩
    exact wp_seq (wp_ret rfl rfl)
theorem lawis_nat (a : Nat) : F__law_is [.int (a : Int), .int (a : Int)] = .ok (.bl true) := by
  refine fn_of_wp ?_
  refine wp_seq (wp_ret (d := .bl true) ?_ rfl)
  simp [ini, tySub]
end Lib

set_option Elab.async false
set_option linter.all false
set_option maxRecDepth 100000
/-! Maps grown: a tie more. -/
namespace Lib
open PySem L2 Pv
theorem mid_perm (l : List Nat) (i x : Nat) : (l.take i ++ [x] ++ l.drop i).Perm (x :: l) := by
  have h : (l.take i ++ [x] ++ l.drop i).Perm (x :: (l.take i ++ l.drop i)) := by
    rw [List.append_assoc]; exact List.perm_middle
  rw [List.take_append_drop] at h
  exact h
theorem digit_lt (n b k : Int) (hn : 0 ≤ n) (hb : 0 < b) (hb2 : b < 1073741824) (hk : 0 ≤ k) (hk2 : k ≤ 1000000) : ∃ v, F__law_digit [.int n, .int b, .int k] = .ok (.int v) ∧ 0 ≤ v ∧ v < b := by
  refine fn_int ?_
  rw [show ini 4 [.int n, .int b, .int k] = [some (.int n), some (.int b), some (.int k), none] from rfl]
  refine wp_seq (wp_for (ds := upto 0 k) (by simp [rng1_ok (n := k) (by omega) hk]) (fun _ e => ∃ (s : Int) (o : Option D), e = [some (.int s), some (.int b), some (.int k), o] ∧ 0 ≤ s) ⟨n, none, rfl, hn⟩ ?_ ?_)
  · rintro j d _ hd ⟨s, o, rfl, hs⟩
    exact ⟨_, rfl, wp_seq (wp_set (d := .int (s / b)) (by simp [fdivI_pos hb hb2]) (wp_sk ⟨_, _, rfl, Int.ediv_nonneg hs (by omega)⟩))⟩
  · rintro _ ⟨s, o, rfl, hs⟩
    exact wp_seq (wp_ret (d := .int (s % b)) (by simp [modI_pos hb]) ⟨_, rfl, Int.emod_nonneg _ (by omega), Int.emod_lt_of_pos _ hb⟩)
theorem turned_perm (v : Int) (n : Nat) (hv : 0 ≤ v) (hn : n ≤ 1000) : ∃ P : List Nat, F__law_turned [.int v, .int n] = .ok (natsD P) ∧ P.Perm (List.range n) := by
  have := fn_ex (u := u__law_turned) (n := 4) (ds := [.int v, .int n]) (Q := fun d => ∃ P : List Nat, d = natsD P ∧ P.Perm (List.range n)) ?_
  · obtain ⟨x, h1, ts, rfl, h⟩ := this; exact ⟨ts, h1, h⟩
  rw [show ini 4 [.int v, .int n] = [some (.int v), some (.int n), none, none] from rfl]
  refine wp_seq (wp_set (d := .lst []) (by simp) ?_)
  simp only [set_2]
  refine wp_seq (wp_for (ds := upto 0 (n : Int)) (by simp (disch := omega) [rng1_ok]) (fun j e => ∃ (v : Int) (ts : List Nat) (o3 : Option D), e = [some (.int v), some (.int n), some (.lst (ts.map fun (i : Nat) => .int (i : Int))), o3] ∧ 0 ≤ v ∧ ts.Perm (List.range j)) ⟨v, [], _, rfl, hv, .refl _⟩ ?_ ?_)
  · rintro j d _ hd ⟨v, ts, o3, rfl, hv, hp⟩
    obtain ⟨rfl, hj⟩ := upto_get hd
    have hl : ts.length = j := by rw [hp.length_eq, List.length_range]
    refine ⟨_, rfl, ?_⟩
    simp only [set_3]
    have h1 := Int.emod_nonneg v (b := (j : Int) + 1) (by omega)
    have h2 := Int.emod_lt_of_pos v (b := (j : Int) + 1) (by omega)
    have h3 : 0 ≤ v / ((j : Int) + 1) := Int.ediv_nonneg hv (by omega)
    refine wp_seq (wp_m (mV_0 (ds := ts.map fun (i : Nat) => .int (i : Int)) (es := [.int (v % ((j : Int) + 1)), .int j]) (d := .non) (ds' := (ts.take (v % ((j : Int) + 1)).toNat ++ [j] ++ ts.drop (v % ((j : Int) + 1)).toNat).map fun (i : Nat) => .int (i : Int)) rfl rfl ?_ ?_) ?_)
    · simp (disch := omega) [modI_pos]
    · unfold opInsert
      simp only [List.length_map]
      rw [if_pos ⟨by unfold lim; omega, h1, by omega⟩]
      simp only [List.map_append, List.map_take, List.map_drop, List.map_cons, List.map_nil]
    · simp only [set_2]
      refine wp_seq (wp_set (d := .int (v / ((j : Int) + 1))) (by simp (disch := omega) [fdivI_pos]) (wp_sk ⟨_, _, _, rfl, h3, ?_⟩))
      rw [List.range_succ]
      refine (mid_perm ts _ j).trans ?_
      exact (List.Perm.cons j hp).trans (List.perm_append_singleton j _).symm
  · rintro _ ⟨v, ts, o3, rfl, hv, hp⟩
    rw [upto_len, Int.toNat_natCast] at hp
    exact wp_seq (wp_ret rfl ⟨ts, rfl, hp⟩)
/-! ### a map with its first E ends -/
structure MapW (ts : Ties) (os : Orders) (E : Nat) : Prop where
  le : E ≤ 2 * ts.length
  place : ∀ e, e < E → pl ts e < os.length
  mem : ∀ e, e < E → e ∈ ord os (pl ts e)
  at_ : ∀ p, p < os.length → ∀ e ∈ ord os p, e < E ∧ pl ts e = p
  nd : ∀ p, p < os.length → (ord os p).Nodup
  ne : ∀ p, p < os.length → ord os p ≠ []
theorem MapOk.w {ts : Ties} {os : Orders} (h : MapOk ts os) : MapW ts os (2 * ts.length) := ⟨Nat.le_refl _, h.place, h.mem, h.at_, h.nd, h.ne⟩
theorem MapW.ok {ts : Ties} {os : Orders} (h : MapW ts os (2 * ts.length)) (h0 : 0 < ts.length) (h1 : ts.length ≤ 450) : MapOk ts os := ⟨h0, h.place, h.mem, h.at_, h.nd, h.ne, h1⟩
theorem pl_snoc {ts : Ties} {t : Nat × Nat} {e : Nat} (h : e < 2 * ts.length) : pl (ts ++ [t]) e = pl ts e := by
  unfold pl
  rw [List.getD_eq_getElem?_getD, List.getElem?_append_left (by omega), ← List.getD_eq_getElem?_getD]
theorem pl_last {ts : Ties} {t : Nat × Nat} : pl (ts ++ [t]) (2 * ts.length) = t.1 ∧ pl (ts ++ [t]) (2 * ts.length + 1) = t.2 := by
  have h : ∀ e, e / 2 = ts.length → (ts ++ [t]).getD (e / 2) (0, 0) = t := fun e he => by
    rw [he, List.getD_eq_getElem?_getD, List.getElem?_append_right (Nat.le_refl _), Nat.sub_self]; rfl
  unfold pl
  refine ⟨?_, ?_⟩
  · rw [if_pos (by omega), h _ (by omega)]
  · rw [if_neg (by omega), h _ (by omega)]
theorem MapW.tie {ts : Ties} {os : Orders} {E : Nat} (h : MapW ts os E) (t : Nat × Nat) : MapW (ts ++ [t]) os E := by
  have hp : ∀ e, e < E → pl (ts ++ [t]) e = pl ts e := fun e he => pl_snoc (Nat.lt_of_lt_of_le he h.le)
  refine ⟨by have := h.le; simp; omega, fun e he => by rw [hp e he]; exact h.place e he, fun e he => by rw [hp e he]; exact h.mem e he, fun p hpl e he => ?_, h.nd, h.ne⟩
  obtain ⟨h1, h2⟩ := h.at_ p hpl e he
  exact ⟨h1, by rw [hp e h1]; exact h2⟩
def insA (l : List Nat) (i x : Nat) : List Nat := l.take i ++ [x] ++ l.drop i
theorem insA_mem {l : List Nat} {i x y : Nat} : y ∈ insA l i x ↔ y = x ∨ y ∈ l := by
  unfold insA
  have : (y ∈ l.take i ∨ y ∈ l.drop i) ↔ y ∈ l := by rw [← List.mem_append, List.take_append_drop]
  rw [List.mem_append, List.mem_append, List.mem_singleton, ← this]
  constructor
  · rintro ((h | h) | h)
    · exact .inr (.inl h)
    · exact .inl h
    · exact .inr (.inr h)
  · rintro (h | h | h)
    · exact .inl (.inr h)
    · exact .inl (.inl h)
    · exact .inr h
theorem insA_len {l : List Nat} {i x : Nat} : (insA l i x).length = l.length + 1 := by
  unfold insA
  rw [List.length_append, List.length_append, List.length_singleton, List.length_take, List.length_drop]
  omega
theorem insA_perm {l : List Nat} {i x : Nat} : (insA l i x).Perm (x :: l) := mid_perm l i x
theorem insA_nd {l : List Nat} {i x : Nat} (h : l.Nodup) (hx : x ∉ l) : (insA l i x).Nodup := insA_perm.nodup_iff.mpr (List.nodup_cons.mpr ⟨hx, h⟩)
theorem ord_set {os : Orders} {a p : Nat} {l : List Nat} (ha : a < os.length) : ord (os.set a l) p = if p = a then l else ord os p := by
  unfold ord
  rw [List.getD_eq_getElem?_getD, List.getD_eq_getElem?_getD]
  by_cases h : p = a
  · subst h; rw [if_pos rfl, List.getElem?_set_self ha]; rfl
  · rw [if_neg h, List.getElem?_set_ne (Ne.symm h)]
theorem MapW.ins {ts : Ties} {os : Orders} {E : Nat} (h : MapW ts os E) (hE : E < 2 * ts.length) (hp : pl ts E < os.length) (i : Nat) : MapW ts (os.set (pl ts E) (insA (ord os (pl ts E)) i E)) (E + 1) := by
  have hn : E ∉ ord os (pl ts E) := fun z => by have := (h.at_ _ hp _ z).1; omega
  refine ⟨hE, fun e he => ?_, fun e he => ?_, fun p hpl e he => ?_, fun p hpl => ?_, fun p hpl => ?_⟩
  · rw [List.length_set]
    by_cases z : e = E
    · subst z; exact hp
    · exact h.place e (by omega)
  · rw [ord_set hp]
    by_cases z : e = E
    · subst z; rw [if_pos rfl, insA_mem]; exact .inl rfl
    · have := h.mem e (by omega)
      split
      · rename_i e2; rw [insA_mem]; exact .inr (e2 ▸ this)
      · exact this
  · rw [List.length_set] at hpl
    rw [ord_set hp] at he
    split at he
    · rename_i e2
      subst e2
      rcases insA_mem.mp he with rfl | he
      · exact ⟨by omega, rfl⟩
      · obtain ⟨h1, h2⟩ := h.at_ _ hp _ he; exact ⟨by omega, h2⟩
    · obtain ⟨h1, h2⟩ := h.at_ _ hpl _ he; exact ⟨by omega, h2⟩
  · rw [List.length_set] at hpl
    rw [ord_set hp]
    split
    · exact insA_nd (h.nd _ hp) hn
    · exact h.nd p hpl
  · rw [List.length_set] at hpl
    rw [ord_set hp]
    split
    · intro z
      have := congrArg List.length z
      rw [insA_len] at this
      simp at this
    · exact h.ne p hpl
theorem ord_snoc {os : Orders} {l : List Nat} {p : Nat} : ord (os ++ [l]) p = if p = os.length then l else ord os p := by
  unfold ord
  rw [List.getD_eq_getElem?_getD, List.getD_eq_getElem?_getD]
  by_cases h : p = os.length
  · subst h; rw [if_pos rfl, List.getElem?_append_right (Nat.le_refl _), Nat.sub_self]; rfl
  · rw [if_neg h]
    by_cases h2 : p < os.length
    · rw [List.getElem?_append_left h2]
    · rw [List.getElem?_eq_none (by simp; omega), List.getElem?_eq_none (by omega)]
theorem MapW.new {ts : Ties} {os : Orders} {E : Nat} (h : MapW ts os E) (hE : E < 2 * ts.length) (hp : pl ts E = os.length) : MapW ts (os ++ [[E]]) (E + 1) := by
  refine ⟨hE, fun e he => ?_, fun e he => ?_, fun p hpl e he => ?_, fun p hpl => ?_, fun p hpl => ?_⟩
  · simp only [List.length_append, List.length_singleton]
    by_cases z : e = E
    · subst z; omega
    · have := h.place e (by omega); omega
  · rw [ord_snoc]
    by_cases z : e = E
    · subst z; rw [if_pos hp]; simp
    · have h1 := h.place e (by omega)
      rw [if_neg (by omega)]; exact h.mem e (by omega)
  · rw [ord_snoc] at he
    split at he
    · have : e = E := by simpa using he
      subst this
      exact ⟨by omega, by omega⟩
    · simp only [List.length_append, List.length_singleton] at hpl
      obtain ⟨h1, h2⟩ := h.at_ p (by omega) e he
      exact ⟨by omega, h2⟩
  · rw [ord_snoc]
    split
    · simp
    · simp only [List.length_append, List.length_singleton] at hpl
      exact h.nd p (by omega)
  · rw [ord_snoc]
    split
    · simp
    · simp only [List.length_append, List.length_singleton] at hpl
      exact h.ne p (by omega)
end Lib

set_option Elab.async false
set_option linter.all false
set_option maxRecDepth 100000
/-! Going round: how many rounds there are, when a tie more is put in. -/
namespace Lib
open PySem L2 Pv
theorem Inj.sym {f : Nat → Nat} {N : Nat} (h : Inj f N) {x : Nat} (hx : x < N) : ∀ i, ∃ n, it f n (it f i x) = x
  | 0 => ⟨0, rfl⟩
  | i + 1 => by
    obtain ⟨n, e⟩ := Inj.sym h hx i
    obtain ⟨m, h1, _, e2⟩ := h.back (h.it_lt hx i)
    refine ⟨m - 1 + n, ?_⟩
    rw [it_succ, it_add]
    have : it f (m - 1) (f (it f i x)) = it f i x := by
      have e3 := e2
      rw [show m = m - 1 + 1 by omega] at e3
      exact e3
    rw [this, e]
/-- L tells the rounds of f below N -/
structure Orb (f : Nat → Nat) (N : Nat) (L : List (List Nat)) : Prop where
  ne : ∀ r ∈ L, r ≠ []
  dis : L.Pairwise fun a b => ∀ z ∈ a, z ∉ b
  all : ∀ e, e < N → ∃ r ∈ L, e ∈ r
  lt : ∀ r ∈ L, ∀ e ∈ r, e < N
  cl : ∀ r ∈ L, ∀ e ∈ r, f e ∈ r
  cn : ∀ r ∈ L, ∀ a ∈ r, ∀ b ∈ r, ∃ n, it f n a = b
section
variable {f : Nat → Nat} {N : Nat} {L L' : List (List Nat)}
theorem Orb.split (o : Orb f N L) : Split L N := ⟨o.dis, fun e he => List.mem_flatten.mpr (o.all e he), o.lt⟩
theorem Orb.cl_it (o : Orb f N L) {r : List Nat} (hr : r ∈ L) {a : Nat} (ha : a ∈ r) : ∀ n, it f n a ∈ r
  | 0 => ha
  | n + 1 => by rw [it_succ]; exact o.cl r hr _ (Orb.cl_it o hr ha n)
theorem mem_getD {L : List (List Nat)} {i : Nat} (h : i < L.length) : L.getD i [] ∈ L := by
  rw [List.getD_eq_getElem?_getD, List.getElem?_eq_getElem h]; exact List.getElem_mem h
theorem Orb.one (o : Orb f N L) {r s : List Nat} (hr : r ∈ L) (hs : s ∈ L) {z : Nat} (h1 : z ∈ r) (h2 : z ∈ s) : r = s := by
  obtain ⟨i, hi, rfl⟩ := List.mem_iff_getElem.mp hr
  obtain ⟨j, hj, rfl⟩ := List.mem_iff_getElem.mp hs
  have pw := List.pairwise_iff_getElem.mp o.dis
  rcases Nat.lt_trichotomy i j with z1 | z1 | z1
  · exact absurd h2 (pw _ _ hi hj z1 z h1)
  · subst z1; rfl
  · exact absurd h1 (pw _ _ hj hi z1 z h2)
theorem Orb.len_le (o : Orb f N L) (o' : Orb f N L') : L.length ≤ L'.length := by
  let rep : Nat → Nat := fun i => (L.getD i []).getD 0 0
  have hrep : ∀ i, i < L.length → rep i ∈ L.getD i [] := fun i hi => getD_memN (List.length_pos_iff.mpr (o.ne _ (mem_getD hi)))
  have hlt : ∀ i, i < L.length → rep i < N := fun i hi => o.lt _ (mem_getD hi) _ (hrep i hi)
  have hnd : ((List.range L.length).map fun i => landNo L' (rep i)).Nodup := by
    refine List.pairwise_map.mpr (List.Pairwise.imp_of_mem ?_ (List.pairwise_lt_range (n := L.length)))
    intro a b ha hb hab e
    have ha := List.mem_range.mp ha
    have hb := List.mem_range.mp hb
    obtain ⟨a1, a2⟩ := o'.split.no (hlt a ha)
    obtain ⟨b1, b2⟩ := o'.split.no (hlt b hb)
    rw [e] at a2
    obtain ⟨n, hn⟩ := o'.cn _ (mem_getD b1) _ a2 _ b2
    have h1 : rep b ∈ L.getD a [] := hn ▸ o.cl_it (mem_getD ha) (hrep a ha) n
    have h2 := o.split.uniq ha h1
    have h3 := o.split.uniq hb (hrep b hb)
    omega
  have := nodup_le L'.length _ hnd fun x hx => by
    obtain ⟨i, hi, rfl⟩ := List.mem_map.mp hx
    exact (o'.split.no (hlt i (List.mem_range.mp hi))).1
  simpa using this
theorem Orb.len (o : Orb f N L) (o' : Orb f N L') : L.length = L'.length := Nat.le_antisymm (o.len_le o') (o'.len_le o)
theorem Inj.orb (h : Inj f N) : Orb f N (landsV f N) where
  ne := fun r hr => by
    obtain ⟨x, _, rfl⟩ := (h.ups (Nat.le_refl _)).1 r hr
    simp [land]
  dis := (h.ups (Nat.le_refl _)).2
  all := fun e he => List.mem_flatten.mp (flat_upto he)
  lt := fun r hr e he => h.flat_lt (Nat.le_refl _) (List.mem_flatten.mpr ⟨r, hr, he⟩)
  cl := fun r hr e he => by
    obtain ⟨x, hx, rfl⟩ := (h.ups (Nat.le_refl _)).1 r hr
    exact (h.land_next hx (h.land_lt hx he)).mpr he
  cn := fun r hr a ha b hb => by
    obtain ⟨x, hx, rfl⟩ := (h.ups (Nat.le_refl _)).1 r hr
    obtain ⟨i, rfl⟩ := (h.mem_land hx).mp ha
    obtain ⟨j, rfl⟩ := (h.mem_land hx).mp hb
    obtain ⟨n, e⟩ := h.sym hx i
    exact ⟨n + j, by rw [it_add, e]⟩
/-- what f' does in some steps -/
theorem it_sim {f' : Nat → Nat} (h : ∀ a, a < N → f a < N ∧ ∃ n, it f' n a = f a) : ∀ (k : Nat) {a : Nat}, a < N → ∃ n, it f' n a = it f k a
  | 0, a, _ => ⟨0, rfl⟩
  | k + 1, a, ha => by
    obtain ⟨h1, n, e⟩ := h a ha
    obtain ⟨m, e2⟩ := it_sim h k h1
    exact ⟨n + m, by rw [it_add, e, e2]; rfl⟩
/-- two ends more in one round -/
theorem Orb.pend (h : Inj f N) (o : Orb f N L) {f' : Nat → Nat} {x : Nat} (hx : x < N) (h1 : f' x = N) (h2 : f' N = N + 1) (h3 : f' (N + 1) = f x) (h4 : ∀ e, e < N → e ≠ x → f' e = f e) : ∃ L', Orb f' (N + 2) L' ∧ L'.length = L.length := by
  have sim : ∀ a, a < N → f a < N ∧ ∃ n, it f' n a = f a := fun a ha => ⟨h.lt a ha, by
    by_cases e : a = x
    · subst e
      refine ⟨3, ?_⟩
      show f' (f' (f' a)) = _
      rw [h1, h2, h3]
    · exact ⟨1, h4 a ha e⟩⟩
  have cn' : ∀ r ∈ L, ∀ a ∈ r, ∀ b ∈ r, ∃ n, it f' n a = b := fun r hr a ha b hb => by
    obtain ⟨k, rfl⟩ := o.cn r hr a ha b hb
    exact it_sim sim k (o.lt r hr a ha)
  let g : List Nat → List Nat := fun r => if x ∈ r then N :: (N + 1) :: r else r
  have gm : ∀ r, ∀ z, z ∈ g r ↔ z ∈ r ∨ (x ∈ r ∧ (z = N ∨ z = N + 1)) := fun r z => by
    show z ∈ (if x ∈ r then N :: (N + 1) :: r else r) ↔ _
    split
    · rename_i hxr; simp [hxr]; constructor <;> (intro z; rcases z with z | z | z <;> simp [z])
    · rename_i hxr; simp [hxr]
  refine ⟨L.map g, ⟨fun r hr => ?_, ?_, fun e he => ?_, fun r hr e he => ?_, fun r hr e he => ?_, fun r hr a ha b hb => ?_⟩, List.length_map _⟩
  · obtain ⟨s, hs, rfl⟩ := List.mem_map.mp hr
    show (if x ∈ s then N :: (N + 1) :: s else s) ≠ []
    split
    · simp
    · exact o.ne s hs
  · refine List.pairwise_map.mpr (o.dis.imp_of_mem fun {a b} ha hb hab z hz hzb => ?_)
    rw [gm] at hz hzb
    rcases hz with hz | ⟨xa, hz⟩
    · rcases hzb with hzb | ⟨xb, hzb⟩
      · exact hab z hz hzb
      · have := o.lt a ha z hz; omega
    · rcases hzb with hzb | ⟨xb, hzb⟩
      · have := o.lt b hb z hzb; omega
      · exact hab x xa xb
  · by_cases e1 : e < N
    · obtain ⟨r, hr, her⟩ := o.all e e1
      exact ⟨g r, List.mem_map.mpr ⟨r, hr, rfl⟩, (gm r e).mpr (.inl her)⟩
    · obtain ⟨r, hr, her⟩ := o.all x hx
      exact ⟨g r, List.mem_map.mpr ⟨r, hr, rfl⟩, (gm r e).mpr (.inr ⟨her, by omega⟩)⟩
  · obtain ⟨s, hs, rfl⟩ := List.mem_map.mp hr
    rw [gm] at he
    rcases he with he | ⟨_, he⟩
    · have := o.lt s hs e he; omega
    · omega
  · obtain ⟨s, hs, rfl⟩ := List.mem_map.mp hr
    rw [gm] at he ⊢
    rcases he with he | ⟨xs, rfl | rfl⟩
    · by_cases e1 : e = x
      · subst e1; exact .inr ⟨he, .inl h1⟩
      · rw [h4 e (o.lt s hs e he) e1]; exact .inl (o.cl s hs e he)
    · exact .inr ⟨xs, .inr h2⟩
    · rw [h3]; exact .inl (o.cl s hs x xs)
  · obtain ⟨s, hs, rfl⟩ := List.mem_map.mp hr
    rw [gm] at ha hb
    by_cases xs : x ∈ s
    · -- to x, from x
      have tox : ∃ n, it f' n a = x := by
        rcases ha with ha | ⟨_, rfl | rfl⟩
        · exact cn' s hs a ha x xs
        · obtain ⟨n, e⟩ := cn' s hs (f x) (o.cl s hs x xs) x xs
          refine ⟨2 + n, ?_⟩
          rw [it_add]
          show it f' n (f' (f' a)) = x
          rw [h2, h3, e]
        · obtain ⟨n, e⟩ := cn' s hs (f x) (o.cl s hs x xs) x xs
          refine ⟨1 + n, ?_⟩
          rw [it_add]
          show it f' n (f' (N + 1)) = x
          rw [h3, e]
      have fromx : ∃ n, it f' n x = b := by
        rcases hb with hb | ⟨_, rfl | rfl⟩
        · exact cn' s hs x xs b hb
        · exact ⟨1, h1⟩
        · exact ⟨2, by show f' (f' x) = _; rw [h1, h2]⟩
      obtain ⟨n, e⟩ := tox
      obtain ⟨m, e2⟩ := fromx
      exact ⟨n + m, by rw [it_add, e, e2]⟩
    · rcases ha with ha | ⟨z, _⟩
      · rcases hb with hb | ⟨z, _⟩
        · exact cn' s hs a ha b hb
        · exact absurd z xs
      · exact absurd z xs
/-- an end in a round of its own, the other one in a round that was -/
theorem Orb.loop (h : Inj f N) (o : Orb f N L) {f' : Nat → Nat} {x : Nat} (hx : x < N) (h1 : f' x = N + 1) (h2 : f' N = N) (h3 : f' (N + 1) = f x) (h4 : ∀ e, e < N → e ≠ x → f' e = f e) : ∃ L', Orb f' (N + 2) L' ∧ L'.length = L.length + 1 := by
  have sim : ∀ a, a < N → f a < N ∧ ∃ n, it f' n a = f a := fun a ha => ⟨h.lt a ha, by
    by_cases e : a = x
    · subst e
      refine ⟨2, ?_⟩
      show f' (f' a) = _
      rw [h1, h3]
    · exact ⟨1, h4 a ha e⟩⟩
  have cn' : ∀ r ∈ L, ∀ a ∈ r, ∀ b ∈ r, ∃ n, it f' n a = b := fun r hr a ha b hb => by
    obtain ⟨k, rfl⟩ := o.cn r hr a ha b hb
    exact it_sim sim k (o.lt r hr a ha)
  let g : List Nat → List Nat := fun r => if x ∈ r then (N + 1) :: r else r
  have gm : ∀ r, ∀ z, z ∈ g r ↔ z ∈ r ∨ (x ∈ r ∧ z = N + 1) := fun r z => by
    show z ∈ (if x ∈ r then (N + 1) :: r else r) ↔ _
    split
    · rename_i hxr; simp [hxr]; exact or_comm
    · rename_i hxr; simp [hxr]
  refine ⟨[N] :: L.map g, ⟨fun r hr => ?_, ?_, fun e he => ?_, fun r hr e he => ?_, fun r hr e he => ?_, fun r hr a ha b hb => ?_⟩, by simp⟩
  · rcases List.mem_cons.mp hr with rfl | hr
    · simp
    · obtain ⟨s, hs, rfl⟩ := List.mem_map.mp hr
      show (if x ∈ s then (N + 1) :: s else s) ≠ []
      split
      · simp
      · exact o.ne s hs
  · refine List.pairwise_cons.mpr ⟨fun b hb z hz hzb => ?_, ?_⟩
    · have hz : z = N := by simpa using hz
      obtain ⟨s, hs, rfl⟩ := List.mem_map.mp hb
      rw [gm] at hzb
      rcases hzb with hzb | ⟨_, hzb⟩
      · have := o.lt s hs z hzb; omega
      · omega
    · refine List.pairwise_map.mpr (o.dis.imp_of_mem fun {a b} ha hb hab z hz hzb => ?_)
      rw [gm] at hz hzb
      rcases hz with hz | ⟨xa, hz⟩
      · rcases hzb with hzb | ⟨xb, hzb⟩
        · exact hab z hz hzb
        · have := o.lt a ha z hz; omega
      · rcases hzb with hzb | ⟨xb, hzb⟩
        · have := o.lt b hb z hzb; omega
        · exact hab x xa xb
  · by_cases e1 : e < N
    · obtain ⟨r, hr, her⟩ := o.all e e1
      exact ⟨g r, List.mem_cons_of_mem _ (List.mem_map.mpr ⟨r, hr, rfl⟩), (gm r e).mpr (.inl her)⟩
    · by_cases e2 : e = N
      · exact ⟨[N], List.mem_cons_self, by simp [e2]⟩
      · obtain ⟨r, hr, her⟩ := o.all x hx
        exact ⟨g r, List.mem_cons_of_mem _ (List.mem_map.mpr ⟨r, hr, rfl⟩), (gm r e).mpr (.inr ⟨her, by omega⟩)⟩
  · rcases List.mem_cons.mp hr with rfl | hr
    · have : e = N := by simpa using he
      omega
    · obtain ⟨s, hs, rfl⟩ := List.mem_map.mp hr
      rw [gm] at he
      rcases he with he | ⟨_, he⟩
      · have := o.lt s hs e he; omega
      · omega
  · rcases List.mem_cons.mp hr with rfl | hr
    · have : e = N := by simpa using he
      subst this; rw [h2]; simp
    · obtain ⟨s, hs, rfl⟩ := List.mem_map.mp hr
      rw [gm] at he ⊢
      rcases he with he | ⟨xs, rfl⟩
      · by_cases e1 : e = x
        · subst e1; exact .inr ⟨he, h1⟩
        · rw [h4 e (o.lt s hs e he) e1]; exact .inl (o.cl s hs e he)
      · rw [h3]; exact .inl (o.cl s hs x xs)
  · rcases List.mem_cons.mp hr with rfl | hr
    · have ha : a = N := by simpa using ha
      have hb : b = N := by simpa using hb
      exact ⟨0, by rw [ha, hb]; rfl⟩
    · obtain ⟨s, hs, rfl⟩ := List.mem_map.mp hr
      rw [gm] at ha hb
      by_cases xs : x ∈ s
      · have tox : ∃ n, it f' n a = x := by
          rcases ha with ha | ⟨_, rfl⟩
          · exact cn' s hs a ha x xs
          · obtain ⟨n, e⟩ := cn' s hs (f x) (o.cl s hs x xs) x xs
            refine ⟨1 + n, ?_⟩
            rw [it_add]
            show it f' n (f' (N + 1)) = x
            rw [h3, e]
        have fromx : ∃ n, it f' n x = b := by
          rcases hb with hb | ⟨_, rfl⟩
          · exact cn' s hs x xs b hb
          · exact ⟨1, h1⟩
        obtain ⟨n, e⟩ := tox
        obtain ⟨m, e2⟩ := fromx
        exact ⟨n + m, by rw [it_add, e, e2]⟩
      · rcases ha with ha | ⟨z, _⟩
        · rcases hb with hb | ⟨z, _⟩
          · exact cn' s hs a ha b hb
          · exact absurd z xs
        · exact absurd z xs
/-! ### a round cut in two -/
/-- from x on to y, y come to first after k steps -/
structure Way (f : Nat → Nat) (x y k : Nat) : Prop where
  pos : 1 ≤ k
  to : it f k x = y
  first : ∀ i, 1 ≤ i → i < k → it f i x ≠ y
theorem Way.ex {x y : Nat} (hxy : x ≠ y) (h : ∃ n, it f n x = y) : ∃ k, Way f x y k := by
  have key : ∀ n, it f n x = y → ∃ k, Way f x y k := by
    intro n
    induction n using Nat.strongRecOn with
    | _ n ih =>
      intro e
      by_cases hc : ∃ i, 1 ≤ i ∧ i < n ∧ it f i x = y
      · obtain ⟨i, _, h2, h3⟩ := hc; exact ih i h2 h3
      · refine ⟨n, ?_, e, fun i h1 h2 h3 => hc ⟨i, h1, h2, h3⟩⟩
        cases n with
        | zero => exact absurd e hxy
        | succ n => omega
  obtain ⟨n, e⟩ := h
  exact key n e
def wayL (f : Nat → Nat) (x k : Nat) : List Nat := (List.range k).map fun i => it f (i + 1) x
theorem wayL_mem {x k z : Nat} : z ∈ wayL f x k ↔ ∃ i, 1 ≤ i ∧ i ≤ k ∧ z = it f i x := by
  unfold wayL
  rw [List.mem_map]
  constructor
  · rintro ⟨i, hi, rfl⟩; exact ⟨i + 1, by omega, by have := List.mem_range.mp hi; omega, rfl⟩
  · rintro ⟨i, h1, h2, rfl⟩; exact ⟨i - 1, List.mem_range.mpr (by omega), by rw [show i - 1 + 1 = i by omega]⟩
theorem Way.notx {x y k i : Nat} (w : Way f x y k) (h1 : 1 ≤ i) (h2 : i < k) : it f i x ≠ x := fun e => by
  refine w.first (k - i) (by omega) (by omega) ?_
  have := w.to
  rw [show k = i + (k - i) by omega, it_add, e] at this
  exact this
/-- the round of p, x's way and p again -/
theorem Way.row {f' : Nat → Nat} {x y k p : Nat} (h : Inj f N) (hx : x < N) (w : Way f x y k) (h1 : f' p = f x) (h2 : f' y = p) (h4 : ∀ e, e < N → e ≠ x → e ≠ y → f' e = f e) (hxy : x ≠ y) :
    (∀ e ∈ p :: wayL f x k, f' e ∈ p :: wayL f x k) ∧ ∀ a ∈ p :: wayL f x k, ∀ b ∈ p :: wayL f x k, ∃ n, it f' n a = b := by
  have stp : ∀ i, 1 ≤ i → i < k → f' (it f i x) = it f (i + 1) x := fun i hi hk => by
    rw [h4 _ (h.it_lt hx i) (w.notx hi hk) (w.first i hi hk), it_succ]
  have fromp : ∀ i, i < k → it f' (i + 1) p = it f (i + 1) x := fun i => by
    induction i with
    | zero => exact fun _ => h1
    | succ i ih => exact fun hi => by rw [it_succ, ih (by omega), stp (i + 1) (by omega) hi]
  have topp : ∀ j, j < k → it f' (j + 1) (it f (k - j) x) = p := fun j => by
    induction j with
    | zero => exact fun _ => by show f' (it f (k - 0) x) = p; rw [Nat.sub_zero, w.to, h2]
    | succ j ih =>
        intro hj
        show it f' (j + 1) (f' (it f (k - (j + 1)) x)) = p
        rw [stp _ (by omega) (by omega), show k - (j + 1) + 1 = k - j by omega]
        exact ih (by omega)
  refine ⟨fun e he => ?_, fun a ha b hb => ?_⟩
  · rcases List.mem_cons.mp he with rfl | he
    · rw [h1]; exact List.mem_cons_of_mem _ (wayL_mem.mpr ⟨1, Nat.le_refl _, w.pos, rfl⟩)
    · obtain ⟨i, i1, i2, rfl⟩ := wayL_mem.mp he
      by_cases e1 : i = k
      · rw [e1, w.to, h2]; exact List.mem_cons_self
      · rw [stp i i1 (by omega)]; exact List.mem_cons_of_mem _ (wayL_mem.mpr ⟨i + 1, by omega, by omega, rfl⟩)
  · have t : ∃ n, it f' n a = p := by
      rcases List.mem_cons.mp ha with rfl | ha
      · exact ⟨0, rfl⟩
      · obtain ⟨i, i1, i2, rfl⟩ := wayL_mem.mp ha
        have := topp (k - i) (by omega)
        rw [show k - (k - i) = i by omega] at this
        exact ⟨_, this⟩
    have u : ∃ n, it f' n p = b := by
      rcases List.mem_cons.mp hb with rfl | hb
      · exact ⟨0, rfl⟩
      · obtain ⟨i, i1, i2, rfl⟩ := wayL_mem.mp hb
        have := fromp (i - 1) (by omega)
        rw [show i - 1 + 1 = i by omega] at this
        exact ⟨_, this⟩
    obtain ⟨n, e⟩ := t
    obtain ⟨m, e2⟩ := u
    exact ⟨n + m, by rw [it_add, e, e2]⟩
theorem Way.apart {x y k k2 i j : Nat} (h : Inj f N) (hx : x < N) (hy : y < N) (w : Way f x y k) (w2 : Way f y x k2) (hxy : x ≠ y) (i1 : 1 ≤ i) (i2 : i ≤ k) (j1 : 1 ≤ j) (j2 : j ≤ k2) : it f i x ≠ it f j y := fun e => by
  rcases Nat.lt_trichotomy i j with z | z | z
  · rw [show j = (j - i) + i by omega, it_add] at e
    have := h.peel hx (h.it_lt hy (j - i)) i e
    exact w2.first (j - i) (by omega) (by omega) this.symm
  · subst z
    exact hxy (h.peel hx hy i e)
  · rw [show i = (i - j) + j by omega, it_add] at e
    have := h.peel (h.it_lt hx (i - j)) hy j e
    exact w.first (i - j) (by omega) (by omega) this
theorem Way.both {x y k k2 : Nat} (w : Way f x y k) (w2 : Way f y x k2) : ∀ n, it f n x ∈ wayL f x k ∨ it f n x ∈ wayL f y k2
  | 0 => .inr (wayL_mem.mpr ⟨k2, w2.pos, Nat.le_refl _, w2.to.symm⟩)
  | n + 1 => by
    rw [it_succ]
    rcases Way.both w w2 n with z | z
    · obtain ⟨i, i1, i2, e⟩ := wayL_mem.mp z
      by_cases e1 : i = k
      · rw [e1, w.to] at e
        rw [e]
        exact .inr (wayL_mem.mpr ⟨1, Nat.le_refl _, w2.pos, rfl⟩)
      · rw [e, ← it_succ f]
        exact .inl (wayL_mem.mpr ⟨i + 1, by omega, by omega, rfl⟩)
    · obtain ⟨i, i1, i2, e⟩ := wayL_mem.mp z
      by_cases e1 : i = k2
      · rw [e1, w2.to] at e
        rw [e]
        exact .inl (wayL_mem.mpr ⟨1, Nat.le_refl _, w.pos, rfl⟩)
      · rw [e, ← it_succ f]
        exact .inr (wayL_mem.mpr ⟨i + 1, by omega, by omega, rfl⟩)
theorem Orb.cut (h : Inj f N) (o : Orb f N L) {f' : Nat → Nat} {x y : Nat} (hx : x < N) (hy : y < N) (hxy : x ≠ y) (hc : ∃ r ∈ L, x ∈ r ∧ y ∈ r) (h1 : f' x = N) (h2 : f' (N + 1) = f x) (h3 : f' y = N + 1) (h3' : f' N = f y) (h4 : ∀ e, e < N → e ≠ x → e ≠ y → f' e = f e) : ∃ L', Orb f' (N + 2) L' ∧ L'.length = L.length + 1 := by
  obtain ⟨r0, hr0, x0, y0⟩ := hc
  obtain ⟨k, w⟩ := Way.ex hxy (o.cn r0 hr0 x x0 y y0)
  obtain ⟨k2, w2⟩ := Way.ex (Ne.symm hxy) (o.cn r0 hr0 y y0 x x0)
  obtain ⟨cA, nA⟩ := w.row (p := N + 1) h hx h2 h3 h4 hxy
  obtain ⟨cB, nB⟩ := w2.row (p := N) h hy h3' h1 (fun e he e1 e2 => h4 e he e2 e1) (Ne.symm hxy)
  have ltA : ∀ z ∈ wayL f x k, z < N ∧ z ∈ r0 := fun z hz => by
    obtain ⟨i, _, _, rfl⟩ := wayL_mem.mp hz
    exact ⟨h.it_lt hx i, o.cl_it hr0 x0 i⟩
  have ltB : ∀ z ∈ wayL f y k2, z < N ∧ z ∈ r0 := fun z hz => by
    obtain ⟨i, _, _, rfl⟩ := wayL_mem.mp hz
    exact ⟨h.it_lt hy i, o.cl_it hr0 y0 i⟩
  have oth0 : ∀ r ∈ L, x ∉ r → ∀ z ∈ r, z ∉ r0 := fun r hr hxr z hz hz0 => by
    have := o.one hr hr0 hz hz0
    rw [this] at hxr; exact hxr x0
  let g : List Nat → List Nat := fun r => if x ∈ r then N :: wayL f y k2 else r
  have gx : ∀ r, x ∈ r → g r = N :: wayL f y k2 := fun r hr => if_pos hr
  have gn : ∀ r, x ∉ r → g r = r := fun r hr => if_neg hr
  have A_g : ∀ r ∈ L, ∀ z ∈ (N + 1) :: wayL f x k, z ∉ g r := fun r hr z hz hzr => by
    by_cases hxr : x ∈ r
    · rw [gx r hxr] at hzr
      rcases List.mem_cons.mp hz with rfl | hz
      · rcases List.mem_cons.mp hzr with e | hzr
        · omega
        · have := (ltB _ hzr).1; omega
      · rcases List.mem_cons.mp hzr with e | hzr
        · have := (ltA _ hz).1; omega
        · obtain ⟨i, i1, i2, e⟩ := wayL_mem.mp hz
          obtain ⟨j, j1, j2, e2⟩ := wayL_mem.mp hzr
          exact Way.apart h hx hy w w2 hxy i1 i2 j1 j2 (e.symm.trans e2)
    · rw [gn r hxr] at hzr
      rcases List.mem_cons.mp hz with rfl | hz
      · have := o.lt r hr _ hzr; omega
      · exact oth0 r hr hxr z hzr (ltA z hz).2
  refine ⟨((N + 1) :: wayL f x k) :: L.map g, ⟨fun r hr => ?_, ?_, fun e he => ?_, fun r hr e he => ?_, fun r hr e he => ?_, fun r hr a ha b hb => ?_⟩, by simp⟩
  · rcases List.mem_cons.mp hr with rfl | hr
    · simp
    · obtain ⟨s, hs, rfl⟩ := List.mem_map.mp hr
      by_cases hxs : x ∈ s
      · rw [gx s hxs]; simp
      · rw [gn s hxs]; exact o.ne s hs
  · refine List.pairwise_cons.mpr ⟨fun b hb z hz hzb => ?_, ?_⟩
    · obtain ⟨s, hs, rfl⟩ := List.mem_map.mp hb
      exact A_g s hs z hz hzb
    · refine List.pairwise_map.mpr (o.dis.imp_of_mem fun {a b} ha hb hab z hz hzb => ?_)
      by_cases xa : x ∈ a
      · have xb : x ∉ b := hab x xa
        rw [gx a xa] at hz
        rw [gn b xb] at hzb
        rcases List.mem_cons.mp hz with rfl | hz
        · have := o.lt b hb _ hzb; omega
        · exact oth0 b hb xb z hzb (ltB z hz).2
      · rw [gn a xa] at hz
        by_cases xb : x ∈ b
        · rw [gx b xb] at hzb
          rcases List.mem_cons.mp hzb with rfl | hzb
          · have := o.lt a ha _ hz; omega
          · exact oth0 a ha xa z hz (ltB z hzb).2
        · rw [gn b xb] at hzb
          exact hab z hz hzb
  · by_cases e1 : e < N
    · obtain ⟨r, hr, her⟩ := o.all e e1
      by_cases hxr : x ∈ r
      · obtain ⟨n, rfl⟩ := o.cn r hr x hxr e her
        rcases w.both w2 n with z | z
        · exact ⟨_, List.mem_cons_self, List.mem_cons_of_mem _ z⟩
        · exact ⟨g r, List.mem_cons_of_mem _ (List.mem_map.mpr ⟨r, hr, rfl⟩), by rw [gx r hxr]; exact List.mem_cons_of_mem _ z⟩
      · exact ⟨g r, List.mem_cons_of_mem _ (List.mem_map.mpr ⟨r, hr, rfl⟩), by rw [gn r hxr]; exact her⟩
    · by_cases e2 : e = N
      · exact ⟨g r0, List.mem_cons_of_mem _ (List.mem_map.mpr ⟨r0, hr0, rfl⟩), by rw [gx r0 x0, e2]; exact List.mem_cons_self⟩
      · exact ⟨_, List.mem_cons_self, by rw [show e = N + 1 by omega]; exact List.mem_cons_self⟩
  · rcases List.mem_cons.mp hr with rfl | hr
    · rcases List.mem_cons.mp he with rfl | he
      · omega
      · have := (ltA e he).1; omega
    · obtain ⟨s, hs, rfl⟩ := List.mem_map.mp hr
      by_cases hxs : x ∈ s
      · rw [gx s hxs] at he
        rcases List.mem_cons.mp he with rfl | he
        · omega
        · have := (ltB e he).1; omega
      · rw [gn s hxs] at he
        have := o.lt s hs e he; omega
  · rcases List.mem_cons.mp hr with rfl | hr
    · exact cA e he
    · obtain ⟨s, hs, rfl⟩ := List.mem_map.mp hr
      by_cases hxs : x ∈ s
      · rw [gx s hxs] at he ⊢
        exact cB e he
      · rw [gn s hxs] at he ⊢
        rw [h4 e (o.lt s hs e he) (fun z => hxs (z ▸ he)) (fun z => oth0 s hs hxs e he (z ▸ y0))]
        exact o.cl s hs e he
  · rcases List.mem_cons.mp hr with rfl | hr
    · exact nA a ha b hb
    · obtain ⟨s, hs, rfl⟩ := List.mem_map.mp hr
      by_cases hxs : x ∈ s
      · rw [gx s hxs] at ha hb
        exact nB a ha b hb
      · rw [gn s hxs] at ha hb
        obtain ⟨n, rfl⟩ := o.cn s hs a ha b hb
        refine ⟨n, ?_⟩
        have : ∀ n a, a ∈ s → it f' n a = it f n a := by
          intro n
          induction n with
          | zero => exact fun _ _ => rfl
          | succ n ih =>
              intro a ha
              show it f' n (f' a) = it f n (f a)
              rw [h4 a (o.lt s hs a ha) (fun z => hxs (z ▸ ha)) (fun z => oth0 s hs hxs a ha (z ▸ y0))]
              exact ih (f a) (o.cl s hs a ha)
        exact this n a ha
/-- other names -/
theorem Orb.name (o : Orb f N L) {f' g : Nat → Nat} (g1 : ∀ x, x < N → g x < N) (g2 : ∀ x y, x < N → y < N → g x = g y → x = y) (g3 : ∀ y, y < N → ∃ x, x < N ∧ g x = y) (hf : ∀ x, x < N → f' (g x) = g (f x)) : Orb f' N (L.map (·.map g)) where
  ne := fun r hr => by
    obtain ⟨s, hs, rfl⟩ := List.mem_map.mp hr
    exact fun z => o.ne s hs (List.map_eq_nil_iff.mp z)
  dis := List.pairwise_map.mpr (o.dis.imp_of_mem fun {a b} ha hb hab z hz hzb => by
    obtain ⟨x, hx, rfl⟩ := List.mem_map.mp hz
    obtain ⟨y, hy, e⟩ := List.mem_map.mp hzb
    have := g2 y x (o.lt b hb y hy) (o.lt a ha x hx) e
    exact hab x hx (this ▸ hy))
  all := fun e he => by
    obtain ⟨x, hx, rfl⟩ := g3 e he
    obtain ⟨r, hr, hxr⟩ := o.all x hx
    exact ⟨r.map g, List.mem_map.mpr ⟨r, hr, rfl⟩, List.mem_map.mpr ⟨x, hxr, rfl⟩⟩
  lt := fun r hr e he => by
    obtain ⟨s, hs, rfl⟩ := List.mem_map.mp hr
    obtain ⟨x, hx, rfl⟩ := List.mem_map.mp he
    exact g1 x (o.lt s hs x hx)
  cl := fun r hr e he => by
    obtain ⟨s, hs, rfl⟩ := List.mem_map.mp hr
    obtain ⟨x, hx, rfl⟩ := List.mem_map.mp he
    rw [hf x (o.lt s hs x hx)]
    exact List.mem_map.mpr ⟨f x, o.cl s hs x hx, rfl⟩
  cn := fun r hr a ha b hb => by
    obtain ⟨s, hs, rfl⟩ := List.mem_map.mp hr
    obtain ⟨x, hx, rfl⟩ := List.mem_map.mp ha
    obtain ⟨y, hy, rfl⟩ := List.mem_map.mp hb
    obtain ⟨n, rfl⟩ := o.cn s hs x hx y hy
    refine ⟨n, ?_⟩
    have : ∀ n x, x ∈ s → it f' n (g x) = g (it f n x) := by
      intro n
      induction n with
      | zero => exact fun _ _ => rfl
      | succ n ih =>
          intro x hx
          show it f' n (f' (g x)) = g (it f n (f x))
          rw [hf x (o.lt s hs x hx)]
          exact ih (f x) (o.cl s hs x hx)
    exact this n x hx
end
end Lib

set_option Elab.async false
set_option linter.all false
set_option maxRecDepth 100000
/-! The end ahead of an end in its order; flat maps. -/
namespace Lib
open PySem L2 Pv
def prv (l : List Nat) (e : Nat) : Nat := l.getD (prevI l.length (l.idxOf e)) 0
theorem beh_prv (ts : Ties) (os : Orders) (e : Nat) : beh ts os e = prv (ord os (pl ts (oth e))) (oth e) := rfl
def Prev (l : List Nat) (e p : Nat) : Prop := (∃ A B, l = A ++ p :: e :: B) ∨ ∃ B, l = e :: B ∧ l.getLast? = some p
theorem prev_prv {l : List Nat} {e p : Nat} (nd : l.Nodup) (h : Prev l e p) : prv l e = p := by
  rcases h with ⟨A, B, rfl⟩ | ⟨B, rfl, hp⟩
  · have hA : e ∉ A := fun z => (List.nodup_append.mp nd).2.2 e z e (by simp) rfl
    have hp : p ≠ e := fun z => by
      have := (List.nodup_append.mp nd).2.1
      rw [z] at this
      exact (List.nodup_cons.mp this).1 List.mem_cons_self
    have hi : (A ++ p :: e :: B).idxOf e = A.length + 1 := by
      rw [List.idxOf_append, if_neg hA, List.idxOf_cons, List.idxOf_cons]
      rw [show (p == e) = false by simpa using hp]
      simp; omega
    unfold prv prevI
    rw [hi, if_neg (by omega), Nat.add_sub_cancel, List.getD_eq_getElem?_getD, List.getElem?_append_right (Nat.le_refl _), Nat.sub_self]; rfl
  · have hi : (e :: B).idxOf e = 0 := by simp
    unfold prv prevI
    rw [hi, if_pos rfl, List.getD_eq_getElem?_getD, ← List.getLast?_eq_getElem?, hp]; rfl
theorem lastq (X C : List Nat) (z : Nat) : (X ++ C.concat z).getLast? = some z := by rw [List.concat_eq_append, ← List.append_assoc, List.getLast?_concat]
theorem prev_ex {l : List Nat} {e : Nat} (h : e ∈ l) : ∃ p, Prev l e p := by
  obtain ⟨A, B, rfl⟩ := List.append_of_mem h
  rcases List.eq_nil_or_concat A with rfl | ⟨A', q, rfl⟩
  · exact ⟨(e :: B).getLast (by simp), .inr ⟨B, rfl, List.getLast?_eq_some_getLast _⟩⟩
  · exact ⟨q, .inl ⟨A', B, by simp⟩⟩
theorem prv_map {l : List Nat} {g : Nat → Nat} {e : Nat} (nd : l.Nodup) (nd' : (l.map g).Nodup) (h : e ∈ l) : prv (l.map g) (g e) = g (prv l e) := by
  obtain ⟨p, hp⟩ := prev_ex h
  rw [prev_prv nd hp]
  refine prev_prv nd' ?_
  rcases hp with ⟨A, B, rfl⟩ | ⟨B, rfl, hp⟩
  · exact .inl ⟨A.map g, B.map g, by simp⟩
  · refine .inr ⟨B.map g, rfl, ?_⟩
    rw [List.getLast?_map, hp]; rfl
theorem prv_rotX {X Y : List Nat} {e : Nat} (nd : (X ++ Y).Nodup) (h : e ∈ X) : prv (Y ++ X) e = prv (X ++ Y) e := by
  have nd2 : (Y ++ X).Nodup := List.perm_append_comm.nodup_iff.mp nd
  obtain ⟨A, B, rfl⟩ := List.append_of_mem h
  rcases List.eq_nil_or_concat A with rfl | ⟨A', q, rfl⟩
  · rcases List.eq_nil_or_concat Y with rfl | ⟨Y', z, rfl⟩
    · rw [List.append_nil, List.nil_append]
    · have h1 : Prev (([] ++ e :: B) ++ Y'.concat z) e z := .inr ⟨B ++ Y'.concat z, rfl, by rw [List.concat_eq_append, ← List.append_assoc, List.getLast?_concat]⟩
      have h2 : Prev (Y'.concat z ++ ([] ++ e :: B)) e z := .inl ⟨Y', B, by simp⟩
      rw [prev_prv nd h1, prev_prv nd2 h2]
  · have h1 : Prev ((A'.concat q ++ e :: B) ++ Y) e q := .inl ⟨A', B ++ Y, by simp⟩
    have h2 : Prev (Y ++ (A'.concat q ++ e :: B)) e q := .inl ⟨Y ++ A', B, by simp⟩
    rw [prev_prv nd h1, prev_prv nd2 h2]
theorem prv_rot {l : List Nat} {e : Nat} (nd : l.Nodup) (h : e ∈ l) (a : Nat) : prv (l.drop a ++ l.take a) e = prv l e := by
  have h0 : l.take a ++ l.drop a = l := List.take_append_drop a l
  rw [← h0] at nd h
  rcases List.mem_append.mp h with h | h
  · have := prv_rotX nd h
    rw [h0] at this; exact this
  · have := prv_rotX (List.perm_append_comm.nodup_iff.mp nd) h
    rw [h0] at this; exact this.symm
theorem prv_ins {l : List Nat} {o E : Nat} (nd : l.Nodup) (ho : o ∈ l) (hE : E ∉ l) : prv (insA l (l.idxOf o) E) o = E ∧ prv (insA l (l.idxOf o) E) E = prv l o ∧ ∀ e ∈ l, e ≠ o → prv (insA l (l.idxOf o) E) e = prv l e := by
  have nd' := insA_nd (i := l.idxOf o) nd hE
  obtain ⟨A, B, hl, hoA⟩ := List.eq_append_cons_of_mem ho
  have hi : l.idxOf o = A.length := by rw [hl, List.idxOf_append, if_neg hoA]; simp
  have hins : insA l (l.idxOf o) E = A ++ E :: o :: B := by
    unfold insA
    rw [hi, hl]; simp
  rw [hins] at nd' ⊢
  subst hl
  refine ⟨prev_prv nd' (.inl ⟨A, B, rfl⟩), ?_, fun e he hne => ?_⟩
  · rcases List.eq_nil_or_concat A with rfl | ⟨A', q, rfl⟩
    · obtain ⟨C, z, hz⟩ : ∃ (C : List Nat) (z : Nat), o :: B = C.concat z := (List.eq_nil_or_concat (o :: B)).resolve_left (by simp)
      have h1 : Prev ([] ++ o :: B) o z := .inr ⟨B, rfl, by rw [hz]; simp⟩
      have h2 : Prev ([] ++ E :: o :: B) E z := .inr ⟨o :: B, rfl, by rw [hz]; exact lastq [E] C z⟩
      rw [prev_prv nd h1, prev_prv nd' h2]
    · have h1 : Prev (A'.concat q ++ o :: B) o q := .inl ⟨A', B, by simp⟩
      have h2 : Prev (A'.concat q ++ E :: o :: B) E q := .inl ⟨A', o :: B, by simp⟩
      rw [prev_prv nd h1, prev_prv nd' h2]
  · have he2 : e ∈ A ∨ e ∈ B := by
      rcases List.mem_append.mp he with z | z
      · exact .inl z
      · exact .inr ((List.mem_cons.mp z).resolve_left hne)
    rcases he2 with he2 | he2
    · obtain ⟨A1, A2, rfl⟩ := List.append_of_mem he2
      rcases List.eq_nil_or_concat A1 with rfl | ⟨A1', q, rfl⟩
      · obtain ⟨C, z, hz⟩ : ∃ (C : List Nat) (z : Nat), o :: B = C.concat z := (List.eq_nil_or_concat (o :: B)).resolve_left (by simp)
        have h1 : Prev (([] ++ e :: A2) ++ o :: B) e z := .inr ⟨A2 ++ o :: B, rfl, by rw [hz]; exact lastq (e :: A2) C z⟩
        have h2 : Prev (([] ++ e :: A2) ++ E :: o :: B) e z := .inr ⟨A2 ++ E :: o :: B, rfl, by rw [hz, List.append_cons]; exact lastq (e :: A2 ++ [E]) C z⟩
        rw [prev_prv nd h1, prev_prv nd' h2]
      · have h1 : Prev ((A1'.concat q ++ e :: A2) ++ o :: B) e q := .inl ⟨A1', A2 ++ o :: B, by simp⟩
        have h2 : Prev ((A1'.concat q ++ e :: A2) ++ E :: o :: B) e q := .inl ⟨A1', A2 ++ E :: o :: B, by simp⟩
        rw [prev_prv nd h1, prev_prv nd' h2]
    · obtain ⟨B1, B2, rfl⟩ := List.append_of_mem he2
      rcases List.eq_nil_or_concat B1 with rfl | ⟨B1', q, rfl⟩
      · have h1 : Prev (A ++ o :: ([] ++ e :: B2)) e o := .inl ⟨A, B2, by simp⟩
        have h2 : Prev (A ++ E :: o :: ([] ++ e :: B2)) e o := .inl ⟨A ++ [E], B2, by simp⟩
        rw [prev_prv nd h1, prev_prv nd' h2]
      · have h1 : Prev (A ++ o :: (B1'.concat q ++ e :: B2)) e q := .inl ⟨A ++ o :: B1', B2, by simp⟩
        have h2 : Prev (A ++ E :: o :: (B1'.concat q ++ e :: B2)) e q := .inl ⟨A ++ E :: o :: B1', B2, by simp⟩
        rw [prev_prv nd h1, prev_prv nd' h2]
def Flat (ts : Ties) (os : Orders) : Prop := os.length + (lns ts os).length = ts.length + 2
theorem oth_inj {x y : Nat} (h : oth x = oth y) : x = y := by rw [← oth_oth x, h, oth_oth]
section
variable {ts : Ties} {os : Orders} (h : MapOk ts os)
include h
theorem MapOk.orb : Orb (beh ts os) (2 * ts.length) (lns ts os) := h.inj.orb
/-- a place tied to a corner -/
theorem pend_lands {x : Nat} (hx : x < 2 * ts.length) (hok : MapOk (ts ++ [(pl ts (oth x), os.length)]) (os.set (pl ts (oth x)) (insA (ord os (pl ts (oth x))) ((ord os (pl ts (oth x))).idxOf (oth x)) (2 * ts.length)) ++ [[2 * ts.length + 1]])) :
    (lns (ts ++ [(pl ts (oth x), os.length)]) (os.set (pl ts (oth x)) (insA (ord os (pl ts (oth x))) ((ord os (pl ts (oth x))).idxOf (oth x)) (2 * ts.length)) ++ [[2 * ts.length + 1]])).length = (lns ts os).length := by
  have ho := oth_lt hx
  have ha := h.place _ ho
  have ma := h.mem _ ho
  have nda := h.nd _ ha
  generalize hone : oth x = one at *
  generalize hea : pl ts one = a at *
  have nE : 2 * ts.length ∉ ord os a := fun z => by have := (h.at_ a ha _ z).1; omega
  obtain ⟨i1, i2, i3⟩ := prv_ins nda ma nE
  obtain ⟨p1, p2⟩ := pl_last (ts := ts) (t := (a, os.length))
  generalize insA (ord os a) ((ord os a).idxOf one) (2 * ts.length) = l' at *
  have hlen : 2 * (ts ++ [(a, os.length)]).length = 2 * ts.length + 2 := by simp; omega
  have o2 := hok.orb
  rw [hlen] at o2
  have oN : oth (2 * ts.length) = 2 * ts.length + 1 := by unfold oth; rw [if_pos (by omega)]
  have oN1 : oth (2 * ts.length + 1) = 2 * ts.length := by unfold oth; rw [if_neg (by omega)]; omega
  have ordp : ∀ p, p < os.length → ord (os.set a l' ++ [[2 * ts.length + 1]]) p = if p = a then l' else ord os p := fun p hp => by
    rw [ord_snoc, List.length_set, if_neg (by omega), ord_set ha]
  have ordn : ord (os.set a l' ++ [[2 * ts.length + 1]]) os.length = [2 * ts.length + 1] := by rw [ord_snoc, List.length_set, if_pos rfl]
  obtain ⟨L', hL, hLl⟩ := Orb.pend h.inj h.orb (f' := beh (ts ++ [(a, os.length)]) (os.set a l' ++ [[2 * ts.length + 1]])) hx
    (by rw [beh_prv, hone, pl_snoc ho, hea, ordp a ha, if_pos rfl]; exact i1)
    (by rw [beh_prv, oN, p2, ordn]; exact prev_prv (by simp) (.inr ⟨[], rfl, rfl⟩))
    (by rw [beh_prv, oN1, p1, ordp a ha, if_pos rfl, i2, beh_prv, hone, hea])
    (fun e he hne => by
      have hoe := oth_lt he
      have hpe := h.place _ hoe
      rw [beh_prv, beh_prv, pl_snoc hoe, ordp _ hpe]
      split
      · rename_i z
        have := h.mem _ hoe
        rw [z] at this
        rw [i3 _ this (fun z2 => hne (oth_inj (z2.trans hone.symm))), z]
      · rfl)
  rw [o2.len hL, hLl]
/-- a tie put in -/
theorem tie_lands {x y : Nat} (hx : x < 2 * ts.length) (hy : y < 2 * ts.length) (hr : ∃ r ∈ lns ts os, x ∈ r ∧ y ∈ r) {os1 : Orders} (hos1 : os.set (pl ts (oth x)) (insA (ord os (pl ts (oth x))) ((ord os (pl ts (oth x))).idxOf (oth x)) (2 * ts.length)) = os1)
    (hok : MapOk (ts ++ [(pl ts (oth x), pl ts (oth y))]) (os1.set (pl ts (oth y)) (insA (ord os1 (pl ts (oth y))) ((ord os1 (pl ts (oth y))).idxOf (oth y)) (2 * ts.length + 1)))) :
    (lns (ts ++ [(pl ts (oth x), pl ts (oth y))]) (os1.set (pl ts (oth y)) (insA (ord os1 (pl ts (oth y))) ((ord os1 (pl ts (oth y))).idxOf (oth y)) (2 * ts.length + 1)))).length = (lns ts os).length + 1 := by
  have hox := oth_lt hx
  have hoy := oth_lt hy
  have ha := h.place _ hox
  have ma := h.mem _ hox
  have nda := h.nd _ ha
  have hb := h.place _ hoy
  have mb := h.mem _ hoy
  generalize hone : oth x = one at *
  generalize htwo : oth y = two at *
  generalize hea : pl ts one = a at *
  generalize heb : pl ts two = b at *
  have nE : ∀ p, p < os.length → ∀ z ∈ ord os p, z < 2 * ts.length := fun p hp z hz => (h.at_ p hp z hz).1
  obtain ⟨i1, i2, i3⟩ := prv_ins nda ma (fun z => by have := nE a ha _ z; omega : 2 * ts.length ∉ ord os a)
  have l1m : ∀ z, z ∈ insA (ord os a) ((ord os a).idxOf one) (2 * ts.length) ↔ z = 2 * ts.length ∨ z ∈ ord os a := fun z => insA_mem
  have l1n := insA_nd (i := (ord os a).idxOf one) nda (fun z => by have := nE a ha _ z; omega : 2 * ts.length ∉ ord os a)
  generalize insA (ord os a) ((ord os a).idxOf one) (2 * ts.length) = l1 at *
  have h1l : os1.length = os.length := by rw [← hos1, List.length_set]
  have o1 : ∀ p, ord os1 p = if p = a then l1 else ord os p := fun p => by rw [← hos1, ord_set ha]
  have mb1 : two ∈ ord os1 b := by
    rw [o1]
    split
    · rename_i e; rw [l1m]; exact .inr (e ▸ mb)
    · exact mb
  have ndb1 : (ord os1 b).Nodup := by
    rw [o1]
    split
    · exact l1n
    · exact h.nd b hb
  have nE1 : 2 * ts.length + 1 ∉ ord os1 b := fun z => by
    rw [o1] at z
    split at z
    · rcases (l1m _).mp z with z | z
      · omega
      · have := nE a ha _ z; omega
    · have := nE b hb _ z; omega
  obtain ⟨j1, j2, j3⟩ := prv_ins ndb1 mb1 nE1
  generalize insA (ord os1 b) ((ord os1 b).idxOf two) (2 * ts.length + 1) = l2 at *
  have o2 : ∀ p, ord (os1.set b l2) p = if p = b then l2 else ord os1 p := fun p => ord_set (by omega)
  obtain ⟨p1, p2⟩ := pl_last (ts := ts) (t := (a, b))
  have hlen : 2 * (ts ++ [(a, b)]).length = 2 * ts.length + 2 := by simp; omega
  have orb2 := hok.orb
  rw [hlen] at orb2
  have oN : oth (2 * ts.length) = 2 * ts.length + 1 := by unfold oth; rw [if_pos (by omega)]
  have oN1 : oth (2 * ts.length + 1) = 2 * ts.length := by unfold oth; rw [if_neg (by omega)]; omega
  -- what stands ahead of an old end
  have old : ∀ e, e < 2 * ts.length → e ≠ y → beh (ts ++ [(a, b)]) (os1.set b l2) e = if e = x then 2 * ts.length else beh ts os e := fun e he hne => by
    have hoe := oth_lt he
    have hm := h.mem _ hoe
    have hn2 : oth e ≠ two := fun z => hne (oth_inj (z.trans htwo.symm))
    have s1 : prv (ord os1 (pl ts (oth e))) (oth e) = if e = x then 2 * ts.length else beh ts os e := by
      rw [o1]
      by_cases e1 : e = x
      · subst e1
        rw [if_pos rfl, hone, hea, if_pos rfl]; exact i1
      · have hn1 : oth e ≠ one := fun z => e1 (oth_inj (z.trans hone.symm))
        rw [if_neg e1, beh_prv]
        split
        · rename_i z
          rw [z] at hm ⊢
          exact i3 _ hm hn1
        · rfl
    rw [beh_prv, pl_snoc hoe, o2, ← s1]
    split
    · rename_i z
      have hm1 : oth e ∈ ord os1 b := by
        rw [o1]
        split
        · rename_i z2; rw [l1m]; exact .inr (z2 ▸ z ▸ hm)
        · exact z ▸ hm
      rw [j3 _ hm1 hn2, z]
    · rfl
  have fy : beh (ts ++ [(a, b)]) (os1.set b l2) y = 2 * ts.length + 1 := by
    rw [beh_prv, htwo, pl_snoc hoy, heb, o2, if_pos rfl]; exact j1
  have fN1 : beh (ts ++ [(a, b)]) (os1.set b l2) (2 * ts.length + 1) = beh ts os x := by
    rw [beh_prv, oN1, p1, o2]
    have s1 : prv l1 (2 * ts.length) = beh ts os x := by rw [i2, beh_prv, hone, hea]
    split
    · rename_i z
      have hm1 : 2 * ts.length ∈ ord os1 b := by rw [o1, ← z, if_pos rfl, l1m]; exact .inl rfl
      rw [j3 _ hm1 (by omega), o1, ← z, if_pos rfl, s1]
    · rw [o1, if_pos rfl, s1]
  have fN : beh (ts ++ [(a, b)]) (os1.set b l2) (2 * ts.length) = if y = x then 2 * ts.length else beh ts os y := by
    rw [beh_prv, oN, p2, o2, if_pos rfl, j2, o1]
    by_cases e1 : y = x
    · subst e1
      have : one = two := hone.symm.trans htwo
      subst this
      rw [if_pos rfl, if_pos (heb.symm.trans hea)]; exact i1
    · have hn1 : two ≠ one := fun z => e1 (oth_inj (htwo.trans (z.trans hone.symm)))
      rw [if_neg e1, beh_prv, htwo, heb]
      split
      · rename_i z
        rw [z] at mb ⊢
        exact i3 _ mb hn1
      · rfl
  by_cases hxy : x = y
  · subst hxy
    rw [if_pos rfl] at fN
    obtain ⟨L', hL, hLl⟩ := Orb.loop h.inj h.orb hx fy fN fN1 (fun e he hne => by rw [old e he hne, if_neg hne])
    rw [orb2.len hL, hLl]
  · rw [if_neg (Ne.symm hxy)] at fN
    obtain ⟨L', hL, hLl⟩ := Orb.cut h.inj h.orb hx hy hxy hr (by rw [old x hx hxy, if_pos rfl]) fN1 fy fN (fun e he hne hne2 => by rw [old e he hne2, if_neg hne])
    rw [orb2.len hL, hLl]
end
end Lib

set_option Elab.async false
set_option linter.all false
set_option maxRecDepth 100000
/-! Maps grown: the laws' step. -/
namespace Lib
open PySem L2 Pv
theorem immK_tieD (t : Nat × Nat) (k : Nat) : immK (tieD t) k = true := rfl
theorem immK_ties (ts : Ties) (k : Nat) : immK (tiesD ts) (k + 1) = true := by
  unfold tiesD
  rw [immK, immKs_all _ fun d hd => by obtain ⟨t, _, rfl⟩ := List.mem_map.mp hd; exact immK_tieD t _]
  simp
theorem immK_rows (L : List (List Nat)) (k : Nat) : immK (rowsD L) (k + 2) = true := by
  unfold rowsD
  rw [immK, immKs_all _ fun d hd => by obtain ⟨t, _, rfl⟩ := List.mem_map.mp hd; exact immK_nats t _]
  simp
theorem immK_orders (os : Orders) (k : Nat) : immK (ordersD os) (k + 2) = true := immK_rows os k
theorem set_orders (os : Orders) (a : Nat) (l : List Nat) : (os.map natsD).set a (natsD l) = (os.set a l).map natsD := by simp [List.map_set]
theorem pI_ord {os : Orders} {a i : Nat} {f : En → Rz D} {e : En} (k : Nat) (he : e[i]? = some (some (ordersD os))) (hf : f e = .ok (.int (a : Int))) (ha : a < os.length) : pI i (pV i) f e = .ok [a] ∧ getP (ordersD os) [a] = some (natsD (ord os a)) ∧ depP (ordersD os) (k + 1) [a] = some k := by
  have hg : (os.map natsD)[a]? = some (natsD (ord os a)) := by
    rw [List.getElem?_map, List.getElem?_eq_getElem ha, ord, List.getD_eq_getElem?_getD, List.getElem?_eq_getElem ha]; rfl
  have hgp : getP (ordersD os) [a] = some (natsD (ord os a)) := by
    unfold ordersD getP kids
    simp only [hg]
    rfl
  refine ⟨?_, hgp, ?_⟩
  · unfold pI
    rw [pV_ok he]
    simp only [Rz.bind_ok, he]
    have h0 : getP (ordersD os) [] = some (ordersD os) := rfl
    rw [h0]
    simp only [hf, Rz.bind_ok]
    have h2 : at1 (ordersD os) (.int (a : Int)) = some a := by
      unfold at1 ordersD kids
      simp only [List.length_map]
      exact ixN_nat ha
    simp only [h2, hgp, List.nil_append]
  · unfold depP ordersD kids kdep
    simp only [hg]
    rfl
theorem setP_ord (os : Orders) (a : Nat) (l : List Nat) (ha : a < os.length) : setP (ordersD os) [a] (natsD l) = ordersD (os.set a l) := by
  have hg : (os.map natsD)[a]? = some (natsD (ord os a)) := by
    rw [List.getElem?_map, List.getElem?_eq_getElem ha, ord, List.getD_eq_getElem?_getD, List.getElem?_eq_getElem ha]; rfl
  unfold ordersD
  unfold setP
  simp only [kids, hg]
  show D.lst ((os.map natsD).set a (natsD l)) = _
  rw [set_orders]
theorem mV_ord {op : List D → List D → Option (D × List D)} {os : Orders} {a i k k1 : Nat} {f : En → Rz D} {fs : En → Rz (List D)} {e : En} {es : List D} {d : D} {l' : List Nat} (he : e[i]? = some (some (ordersD os))) (hf : f e = .ok (.int (a : Int))) (ha : a < os.length) (hk : k = k1 + 2)
    (hfs : fs e = .ok es) (hop : op ((ord os a).map fun (e : Nat) => .int (e : Int)) es = some (d, l'.map fun (e : Nat) => .int (e : Int))) : mV i k k1 (pI i (pV i) f) op fs e = .ok (e.set i (some (ordersD (os.set a l'))), d) := by
  subst hk
  obtain ⟨h1, h2, h3⟩ := pI_ord (k1 + 1) he hf ha
  unfold mV
  rw [h1]
  simp only [Rz.bind_ok, he]
  rw [if_pos h3, h2]
  unfold natsD
  simp only [hfs, Rz.bind_ok, hop]
  have := setP_ord os a l' ha
  unfold natsD at this
  rw [this]
theorem len_nats (l : List Nat) : lenO [natsD l] = .ok (.int (l.length : Int)) := by unfold natsD; rw [lenO_lst, List.length_map]
theorem len_rows (l : List (List Nat)) : lenO [rowsD l] = .ok (.int (l.length : Int)) := by unfold rowsD; rw [lenO_lst, List.length_map]
theorem len_orders (l : Orders) : lenO [ordersD l] = .ok (.int (l.length : Int)) := by unfold ordersD; rw [lenO_lst, List.length_map]
theorem len_ties (l : Ties) : lenO [tiesD l] = .ok (.int (l.length : Int)) := by unfold tiesD; rw [lenO_lst, List.length_map]
theorem ixD_rows {os : List (List Nat)} {i : Int} {k : Nat} (hi : i = (k : Int)) (h : k < os.length) : ixD (rowsD os) (.int i) = .ok (natsD (os.getD k [])) := ixD_orders (os := os) hi h
theorem cI_ok {n k : Nat} {F : List D → Rz D} {ds : List D} {r : D} (hl : ds.length = n) (h : F ds = .ok r) (hi : immK r k = true) : cI n k F ds = .ok r := by
  unfold cI
  rw [if_pos hl, h]
  simp only [Rz.bind_ok, hi, if_true]
theorem idx_eq {l : List Nat} {x : Nat} {f g : En → Rz D} {e : En} (hf : f e = .ok (natsD l)) (hg : g e = .ok (.int (x : Int))) (hx : x ∈ l) : liF idxI f g e = .ok (.int (l.idxOf x : Nat)) := by
  unfold liF
  rw [hf, natsD_ints]
  simp only [Rz.bind_ok, hg, ints1_map]
  unfold idxI
  rw [if_pos (List.mem_map.mpr ⟨x, hx, rfl⟩), idx_nats]
theorem opIns (l : List Nat) (i x : Nat) (hl : l.length < 1000) (hi : i < 100000) : opInsert (l.map fun (e : Nat) => .int (e : Int)) [.int (i : Int), .int (x : Int)] = some (.non, (insA l i x).map fun (e : Nat) => .int (e : Int)) := by
  unfold opInsert insA
  simp only [List.length_map]
  rw [if_pos ⟨by unfold lim; omega, by omega, by omega⟩, Int.toNat_natCast]
  simp only [List.map_append, List.map_take, List.map_drop, List.map_cons, List.map_nil]
/-- no place has more than four ends -/
def Four (os : Orders) : Prop := ∀ p, p < os.length → (ord os p).length ≤ 4
theorem step_ex {ts : Ties} {os : Orders} (h : MapOk ts os) (h4 : Four os) (v most : Int) (hv : 0 ≤ v) (hT : ts.length < 450) (hn : os.length ≤ 1000) : ∃ ts' os', F__law_step [tiesD ts, ordersD os, .int v, .int most] = .ok [tiesD ts', ordersD os', .int v, .int most] ∧ MapOk ts' os' ∧ Four os' ∧ ts'.length ≤ ts.length + 1 ∧ os'.length ≤ os.length + 1 ∧ (Flat ts os → Flat ts' os') ∧ (os'.length = os.length ∧ ts.length ≤ ts'.length ∨ os'.length = os.length + 1 ∧ ts'.length = ts.length + 1) := by
  have hm := h.many
  have hS := lns_split h
  let N := 2 * ts.length
  let L := lns ts os
  have hpos := h.pos
  have := fnB_ex (n := 11) (bs := [true, true, false, false]) (u := u__law_step) (ds := [tiesD ts, ordersD os, .int v, .int most]) (Q := fun es => ∃ ts' os', es = [tiesD ts', ordersD os', .int v, .int most] ∧ MapOk ts' os' ∧ Four os' ∧ ts'.length ≤ ts.length + 1 ∧ os'.length ≤ os.length + 1 ∧ (Flat ts os → Flat ts' os') ∧ (os'.length = os.length ∧ ts.length ≤ ts'.length ∨ os'.length = os.length + 1 ∧ ts'.length = ts.length + 1)) ?_
  · obtain ⟨es, h1, ts', os', rfl, h2⟩ := this; exact ⟨ts', os', h1, h2⟩
  rw [show ini 11 [tiesD ts, ordersD os, .int v, .int most] = [some (tiesD ts), some (ordersD os), some (.int v), some (.int most), none, none, none, none, none, none, none] from rfl]
  refine wp_seq (wp_set (d := rowsD L) (by simp only [aF_ap, consF_ap, nilF_ap, vF_0, vF_1, Rz.bind_ok, cI_ok (n := 2) (k := 2) rfl (lawlands_eq h) (immK_rows _ 0)]; rfl) ?_)
  simp only [set_4]
  have hLp : 0 < L.length := by
    have := (hS.no (e := 0) (by omega)).1
    show 0 < (lns ts os).length
    omega
  have q0 := Int.emod_nonneg v (b := (L.length : Int)) (by omega)
  have q1 := Int.emod_lt_of_pos v (b := (L.length : Int)) (by omega)
  obtain ⟨r, hr⟩ : ∃ r : Nat, v % (L.length : Int) = (r : Int) := ⟨(v % (L.length : Int)).toNat, by omega⟩
  have hrl : r < L.length := by omega
  have hrm : L.getD r [] ∈ L := by rw [List.getD_eq_getElem?_getD, List.getElem?_eq_getElem hrl]; exact List.getElem_mem hrl
  generalize hrow : L.getD r [] = row at hrm
  have hrp : 0 < row.length := by
    obtain ⟨x, _, hx⟩ := (h.inj.ups (Nat.le_refl _)).1 row hrm
    rw [hx]; simp [land]
  have hrlt : ∀ e ∈ row, e < N := hS.lt row hrm
  refine wp_seq (wp_set (d := natsD row) ?_ ?_)
  · simp only [b2_ap, aF_ap, consF_ap, nilF_ap, vF_2, vF_4, Rz.bind_ok, len_rows, i2_int, modI_pos (i := v) (j := (L.length : Int)) (by omega), hr]
    rw [ixD_rows (k := r) rfl hrl, hrow]
  simp only [set_5]
  have pick : ∀ c : Int, 0 < c → c < 1073741824 → ∃ x, x < N ∧ x ∈ row ∧ b2 ixD (vF 5) (b2 (i2 modI) (b2 (i2 fdivI) (vF 2) (cF (.int c))) (aF lenO (consF (vF 5) nilF))) [some (tiesD ts), some (ordersD os), some (.int v), some (.int most), some (rowsD L), some (natsD row), none, none, none, none, none] = .ok (.int (x : Int)) := fun c hc hc2 => by
    have z0 := Int.emod_nonneg (v / c) (b := (row.length : Int)) (by omega)
    have z1 := Int.emod_lt_of_pos (v / c) (b := (row.length : Int)) (by omega)
    refine ⟨row.getD (v / c % (row.length : Int)).toNat 0, hrlt _ (getD_memN (by omega)), getD_memN (by omega), ?_⟩
    simp only [b2_ap, aF_ap, consF_ap, nilF_ap, vF_2, vF_5, cF_ap, Rz.bind_ok, len_nats, i2_int, fdivI_pos (i := v) hc hc2, modI_pos (i := v / c) (j := (row.length : Int)) (by omega)]
    exact ixD_nats (by omega) (by omega)
  obtain ⟨x, hx, hxr, ex⟩ := pick 8 (by omega) (by omega)
  obtain ⟨y, hy, hyr, ey⟩ := pick 128 (by omega) (by omega)
  refine wp_seq (wp_set (d := .int (oth x : Int)) ?_ ?_)
  · simp only [aF_ap, consF_ap, nilF_ap, ex, Rz.bind_ok, cO1, lawother_eq]
  simp only [set_6]
  have ey2 : b2 ixD (vF 5) (b2 (i2 modI) (b2 (i2 fdivI) (vF 2) (cF (.int 128))) (aF lenO (consF (vF 5) nilF))) [some (tiesD ts), some (ordersD os), some (.int v), some (.int most), some (rowsD L), some (natsD row), some (.int (oth x : Int)), none, none, none, none] = .ok (.int (y : Int)) := ey
  refine wp_seq (wp_set (d := .int (oth y : Int)) ?_ ?_)
  · simp only [aF_ap, consF_ap, nilF_ap, ey2, Rz.bind_ok, cO1, lawother_eq]
  simp only [set_7]
  have hox : oth x < N := oth_lt hx
  have hoy : oth y < N := oth_lt hy
  generalize hone : oth x = one at hox ⊢
  generalize htwo : oth y = two at hoy ⊢
  refine wp_seq (wp_set (d := .int (pl ts one : Int)) ?_ ?_)
  · simp only [aF_ap, consF_ap, nilF_ap, vF_0, vF_6, Rz.bind_ok, cI_ok (n := 2) (k := 0) rfl (lawplace_eq hox) rfl]
  simp only [set_8]
  refine wp_seq (wp_set (d := .int (pl ts two : Int)) ?_ ?_)
  · simp only [aF_ap, consF_ap, nilF_ap, vF_0, vF_7, Rz.bind_ok, cI_ok (n := 2) (k := 0) rfl (lawplace_eq hoy) rfl]
  simp only [set_9]
  have hN : (2 : Int) * (ts.length : Int) = (N : Int) := by show _ = ((2 * ts.length : Nat) : Int); omega
  refine wp_seq (wp_set (d := .int (N : Int)) ?_ ?_)
  · simp only [b2_ap, aF_ap, consF_ap, nilF_ap, vF_0, cF_ap, Rz.bind_ok, len_ties, i2_int, mulI_l (i := 2) (j := (ts.length : Int)) (by omega), hN]
  simp only [set_10]
  have ha := h.place _ hox
  have hb := h.place _ hoy
  have ma := h.mem _ hox
  have mb := h.mem _ hoy
  have l4a := h4 _ ha
  have l4b := h4 _ hb
  generalize hea : pl ts one = a at ha ma l4a
  generalize heb : pl ts two = b at hb mb l4b
  have xa : ixD (ordersD os) (.int (a : Int)) = .ok (natsD (ord os a)) := ixD_orders rfl ha
  have xb : ixD (ordersD os) (.int (b : Int)) = .ok (natsD (ord os b)) := ixD_orders rfl hb
  have ia := List.idxOf_lt_length_iff.mpr ma
  have ib := List.idxOf_lt_length_iff.mpr mb
  have nE : ∀ p, p < os.length → N ∉ ord os p := fun p hp z => by have := (h.at_ p hp _ z).1; omega
  -- the new map, a place more
  refine wp_seq (wp_if (b := (v / 2048 % 3 == 0) && (decide ((os.length : Int) < most) && decide (((ord os a).length : Int) < 4))) ?_ (fun hc => ?_) fun hc => ?_)
  · simp only [andF_ap, tF_ap, b2_ap, aF_ap, consF_ap, nilF_ap, vF_1, vF_2, vF_3, vF_8, cF_ap, Rz.bind_ok, i2_int, fdivI_pos (i := v) (j := 2048) (by omega) (by omega), modI_pos (i := v / 2048) (j := 3) (by omega), eqD_int, ltI_ap, toB_bl, len_orders, len_nats, xa]
    cases (v / 2048 % 3 == 0) <;> cases decide ((os.length : Int) < most) <;> rfl
  · rw [Bool.and_eq_true, Bool.and_eq_true, decide_eq_true_eq, decide_eq_true_eq] at hc
    have hla : (ord os a).length < 4 := by omega
    refine wp_seq (wp_m (mV_ord (os := os) (a := a) (es := [.int ((ord os a).idxOf one : Nat), .int (N : Int)]) (d := .non) (l' := insA (ord os a) ((ord os a).idxOf one) N) rfl rfl ha rfl ?_ (opIns _ _ _ (by omega) (by omega))) ?_)
    · have := idx_eq (f := b2 ixD (vF 1) (vF 8)) (g := vF 6) (e := [some (tiesD ts), some (ordersD os), some (.int v), some (.int most), some (rowsD L), some (natsD row), some (.int (one : Int)), some (.int (two : Int)), some (.int (a : Int)), some (.int (b : Int)), some (.int (N : Int))]) (l := ord os a) (x := one) (by simp only [b2_ap, vF_1, vF_8, Rz.bind_ok, xa]) rfl ma
      simp only [consF_ap, nilF_ap, this, imF_ap, vF_10, Rz.bind_ok, imm_int, if_true]
    simp only [set_1]
    have hlo : lenO [ordersD (os.set a (insA (ord os a) ((ord os a).idxOf one) N))] = .ok (.int (os.length : Int)) := by rw [len_orders, List.length_set]
    refine wp_seq (wp_app (ds := ts.map tieD) (d := tieD (a, os.length)) rfl ?_ (by simp [lim]; omega) ?_)
    · have ht2 : ∀ a b : D, tupO [a, b] = .ok (.tup [a, b]) := fun _ _ => rfl
      simp only [aF_ap, consF_ap, nilF_ap, imF_ap, vF_1, vF_8, Rz.bind_ok, imm_int, if_true, hlo, ht2]; rfl
    simp only [set_0]
    refine wp_seq (wp_app (ds := (os.set a (insA (ord os a) ((ord os a).idxOf one) N)).map natsD) (d := natsD [N + 1]) rfl ?_ (by simp [lim]; omega) (wp_sk (wp_sk ?_)))
    · simp only [aF_ap, consF_ap, nilF_ap, b2_ap, vF_10, cF_ap, Rz.bind_ok, i2_int, addI_ap]; rfl
    simp only [set_1]
    have hok2 : MapOk (ts ++ [(a, os.length)]) (os.set a (insA (ord os a) ((ord os a).idxOf one) N) ++ [[N + 1]]) := by
      obtain ⟨p1, p2⟩ := pl_last (ts := ts) (t := (a, os.length))
      have w1 := (h.w.tie (a, os.length)).ins (E := N) (by simp; omega) (by rw [p1]; exact ha) ((ord os a).idxOf one)
      rw [p1] at w1
      have w2 := w1.new (by simp; omega) (by rw [p2, List.length_set])
      exact (show MapW _ _ (2 * (ts ++ [(a, os.length)]).length) by simpa [Nat.mul_add] using w2).ok (by simp) (by simp; omega)
    refine ⟨_, rfl, ts ++ [(a, os.length)], os.set a (insA (ord os a) ((ord os a).idxOf one) N) ++ [[N + 1]], ?_, hok2, ?_, by simp, by simp, fun hF => ?_, .inr (by simp)⟩
    · unfold tiesD ordersD; rw [List.map_append, List.map_append]; rfl
    · intro p hp
      simp only [List.length_append, List.length_singleton, List.length_set] at hp
      rw [ord_snoc, ord_set ha]
      split
      · simp
      · split
        · rw [insA_len]; omega
        · rename_i z1 _; rw [List.length_set] at z1; exact h4 p (by omega)
    · have hp := pend_lands h hx (by rw [hone, hea]; exact hok2)
      rw [hone, hea] at hp
      have hF : os.length + (lns ts os).length = ts.length + 2 := hF
      show (os.set a (insA (ord os a) ((ord os a).idxOf one) N) ++ [[N + 1]]).length + (lns (ts ++ [(a, os.length)]) (os.set a (insA (ord os a) ((ord os a).idxOf one) N) ++ [[N + 1]])).length = (ts ++ [(a, os.length)]).length + 2
      rw [show (lns (ts ++ [(a, os.length)]) (os.set a (insA (ord os a) ((ord os a).idxOf one) N) ++ [[N + 1]])).length = (lns ts os).length from hp]
      simp; omega
  · -- a tie more, or none
    have eab : eqD (.int (a : Int)) (.int (b : Int)) = .ok (.bl (a == b)) := by
      rw [eqD_int]
      congr 2
      rw [Bool.eq_iff_iff]; simp
      omega
    refine wp_seq (wp_if (b := decide (((ord os a).length : Int) < 4 - (if (a == b) = true then 1 else 0)) && decide (((ord os b).length : Int) < 4 - (if (a == b) = true then 1 else 0))) ?_ (fun hc2 => ?_) fun _ => wp_sk (wp_sk (wp_sk ⟨_, rfl, ts, os, rfl, h, h4, by omega, by omega, id, .inl ⟨rfl, Nat.le_refl _⟩⟩)))
    · simp only [andF_ap, tF_ap, b2_ap, aF_ap, consF_ap, nilF_ap, vF_1, vF_8, vF_9, cF_ap, Rz.bind_ok, i2_int, subI_ap, ltI_ap, toB_bl, len_nats, xa, xb, eab, intO_bl]
      cases decide (((ord os a).length : Int) < 4 - (if (a == b) = true then 1 else 0)) <;> rfl
    · rw [Bool.and_eq_true, decide_eq_true_eq, decide_eq_true_eq] at hc2
      have hla : (ord os a).length < 4 := by have := hc2.1; split at this <;> omega
      have hlb : (ord os b).length < 4 := by have := hc2.2; split at this <;> omega
      have hlab : a = b → (ord os a).length < 3 := fun e => by
        have := hc2.1
        rw [if_pos (by simp [e])] at this
        omega
      refine wp_seq (wp_m (mV_ord (os := os) (a := a) (es := [.int ((ord os a).idxOf one : Nat), .int (N : Int)]) (d := .non) (l' := insA (ord os a) ((ord os a).idxOf one) N) rfl rfl ha rfl ?_ (opIns _ _ _ (by omega) (by omega))) ?_)
      · have := idx_eq (f := b2 ixD (vF 1) (vF 8)) (g := vF 6) (e := [some (tiesD ts), some (ordersD os), some (.int v), some (.int most), some (rowsD L), some (natsD row), some (.int (one : Int)), some (.int (two : Int)), some (.int (a : Int)), some (.int (b : Int)), some (.int (N : Int))]) (l := ord os a) (x := one) (by simp only [b2_ap, vF_1, vF_8, Rz.bind_ok, xa]) rfl ma
        simp only [consF_ap, nilF_ap, this, imF_ap, vF_10, Rz.bind_ok, imm_int, if_true]
      simp only [set_1]
      obtain ⟨os1, hos1⟩ : ∃ os1, os.set a (insA (ord os a) ((ord os a).idxOf one) N) = os1 := ⟨_, rfl⟩
      rw [hos1]
      have h1l : os1.length = os.length := by rw [← hos1, List.length_set]
      have h1b : ord os1 b = if b = a then insA (ord os a) ((ord os a).idxOf one) N else ord os b := by rw [← hos1, ord_set ha]
      have mb1 : two ∈ ord os1 b := by
        rw [h1b]
        split
        · rename_i e; rw [insA_mem]; exact .inr (e ▸ mb)
        · exact mb
      have hl1 : (ord os1 b).length < 4 := by
        rw [h1b]
        split
        · rename_i e; rw [insA_len]; have := hlab e.symm; omega
        · exact hlb
      have ib1 := List.idxOf_lt_length_iff.mpr mb1
      have xb1 : ixD (ordersD os1) (.int (b : Int)) = .ok (natsD (ord os1 b)) := ixD_orders rfl (by omega)
      refine wp_seq (wp_m (mV_ord (os := os1) (a := b) (es := [.int ((ord os1 b).idxOf two : Nat), .int ((N + 1 : Nat) : Int)]) (d := .non) (l' := insA (ord os1 b) ((ord os1 b).idxOf two) (N + 1)) rfl rfl (by omega) rfl ?_ (opIns _ _ _ (by omega) (by omega))) ?_)
      · have := idx_eq (f := b2 ixD (vF 1) (vF 9)) (g := vF 7) (e := [some (tiesD ts), some (ordersD os1), some (.int v), some (.int most), some (rowsD L), some (natsD row), some (.int (one : Int)), some (.int (two : Int)), some (.int (a : Int)), some (.int (b : Int)), some (.int (N : Int))]) (l := ord os1 b) (x := two) (by simp only [b2_ap, vF_1, vF_9, Rz.bind_ok, xb1]) rfl mb1
        simp only [consF_ap, nilF_ap, this, b2_ap, cF_ap, vF_10, Rz.bind_ok, i2_int, addI_ap]; rfl
      simp only [set_1]
      refine wp_seq (wp_app (ds := ts.map tieD) (d := tieD (a, b)) rfl ?_ (by simp [lim]; omega) (wp_sk (wp_sk (wp_sk ?_))))
      · have ht2 : ∀ a b : D, tupO [a, b] = .ok (.tup [a, b]) := fun _ _ => rfl
        simp only [aF_ap, consF_ap, nilF_ap, imF_ap, vF_8, vF_9, Rz.bind_ok, imm_int, if_true, ht2]; rfl
      simp only [set_0]
      have hok2 : MapOk (ts ++ [(a, b)]) (os1.set b (insA (ord os1 b) ((ord os1 b).idxOf two) (N + 1))) := by
        obtain ⟨p1, p2⟩ := pl_last (ts := ts) (t := (a, b))
        have w1 := (h.w.tie (a, b)).ins (E := N) (by simp; omega) (by rw [p1]; exact ha) ((ord os a).idxOf one)
        rw [p1, hos1] at w1
        have w2 := w1.ins (E := N + 1) (by simp; omega) (by rw [p2]; omega) ((ord os1 b).idxOf two)
        rw [p2] at w2
        exact (show MapW _ _ (2 * (ts ++ [(a, b)]).length) by simpa [Nat.mul_add] using w2).ok (by simp) (by simp; omega)
      refine ⟨_, rfl, ts ++ [(a, b)], os1.set b (insA (ord os1 b) ((ord os1 b).idxOf two) (N + 1)), ?_, hok2, ?_, by simp, by simp [h1l], fun hF => ?_, .inl (by simp [h1l])⟩
      · unfold tiesD; rw [List.map_append]; rfl
      · intro p hp
        rw [List.length_set] at hp
        rw [ord_set (by omega)]
        split
        · rw [insA_len]; omega
        · rename_i z
          rw [← hos1, ord_set ha]
          split
          · rw [insA_len]; omega
          · exact h4 p (by omega)
      · have hp := tie_lands h hx hy ⟨row, hrm, hxr, hyr⟩ (os1 := os1) (by rw [hone, hea]; exact hos1) (by rw [hone, hea, htwo, heb]; exact hok2)
        rw [hone, hea, htwo, heb] at hp
        have hF : os.length + (lns ts os).length = ts.length + 2 := hF
        show (os1.set b (insA (ord os1 b) ((ord os1 b).idxOf two) (N + 1))).length + (lns (ts ++ [(a, b)]) (os1.set b (insA (ord os1 b) ((ord os1 b).idxOf two) (N + 1)))).length = (ts ++ [(a, b)]).length + 2
        rw [show (lns (ts ++ [(a, b)]) (os1.set b (insA (ord os1 b) ((ord os1 b).idxOf two) (N + 1)))).length = (lns ts os).length + 1 from hp]
        simp; omega
end Lib

set_option Elab.async false
set_option linter.all false
set_option maxRecDepth 100000
/-! Maps: other names for places, ties. -/
namespace Lib
open PySem L2 Pv
/-- a row of the numbers below n, in some order -/
structure Prm (P : List Nat) (n : Nat) : Prop where
  p : P.Perm (List.range n)
theorem Prm.len {P : List Nat} {n : Nat} (h : Prm P n) : P.length = n := by rw [h.p.length_eq, List.length_range]
theorem Prm.lt {P : List Nat} {n i : Nat} (h : Prm P n) (hi : i < n) : P.getD i 0 < n := by
  have := h.p.mem_iff.mp (getD_memN (l := P) (i := i) (by rw [h.len]; exact hi))
  exact List.mem_range.mp this
theorem Prm.inj {P : List Nat} {n i j : Nat} (h : Prm P n) (hi : i < n) (hj : j < n) (e : P.getD i 0 = P.getD j 0) : i = j :=
  nd_getD (h.p.nodup_iff.mpr List.nodup_range) (by rw [h.len]; exact hi) (by rw [h.len]; exact hj) e
theorem Prm.sur {P : List Nat} {n y : Nat} (h : Prm P n) (hy : y < n) : ∃ i, i < n ∧ P.getD i 0 = y := by
  have hm : y ∈ P := h.p.mem_iff.mpr (List.mem_range.mpr hy)
  exact ⟨P.idxOf y, by rw [← h.len]; exact List.idxOf_lt_length_iff.mpr hm, idxOf_getD hm⟩
def rt (ts : Ties) (P : List Nat) (fl : Nat → Nat) (k : Nat) : Nat × Nat :=
  if fl k = 0 then (P.getD (ts.getD k (0, 0)).1 0, P.getD (ts.getD k (0, 0)).2 0) else (P.getD (ts.getD k (0, 0)).2 0, P.getD (ts.getD k (0, 0)).1 0)
def nm (Q : List Nat) (fl : Nat → Nat) (e : Nat) : Nat := if e % 2 = 0 then 2 * Q.getD (e / 2) 0 + fl (e / 2) else 2 * Q.getD (e / 2) 0 + 1 - fl (e / 2)
section
variable {ts tl : Ties} {os ol : Orders} {P Q : List Nat} {fl : Nat → Nat}
theorem nm_half (hf : ∀ k, k < ts.length → fl k < 2) {e : Nat} (he : e < 2 * ts.length) : nm Q fl e / 2 = Q.getD (e / 2) 0 := by
  have := hf (e / 2) (by omega)
  unfold nm; split <;> omega
theorem nm_lt (hQ : Prm Q ts.length) (hf : ∀ k, k < ts.length → fl k < 2) {e : Nat} (he : e < 2 * ts.length) : nm Q fl e < 2 * ts.length := by
  have h1 := nm_half (Q := Q) hf he
  have h2 := hQ.lt (i := e / 2) (by omega)
  omega
theorem nm_inj (hQ : Prm Q ts.length) (hf : ∀ k, k < ts.length → fl k < 2) {e e' : Nat} (he : e < 2 * ts.length) (he' : e' < 2 * ts.length) (h : nm Q fl e = nm Q fl e') : e = e' := by
  have h1 := nm_half (Q := Q) hf he
  have h2 := nm_half (Q := Q) hf he'
  rw [h, h2] at h1
  have h3 := hQ.inj (by omega) (by omega) h1
  have h4 := hf (e / 2) (by omega)
  unfold nm at h
  rw [← h3] at h4
  rw [← h3] at h
  split at h <;> split at h <;> omega
theorem nm_sur (hQ : Prm Q ts.length) (hf : ∀ k, k < ts.length → fl k < 2) {y : Nat} (hy : y < 2 * ts.length) : ∃ e, e < 2 * ts.length ∧ nm Q fl e = y := by
  obtain ⟨k, hk, e⟩ := hQ.sur (y := y / 2) (by omega)
  have h4 := hf k hk
  by_cases z : y % 2 = fl k
  · refine ⟨2 * k, by omega, ?_⟩
    unfold nm
    rw [if_pos (by omega), show 2 * k / 2 = k by omega, e]; omega
  · refine ⟨2 * k + 1, by omega, ?_⟩
    unfold nm
    rw [if_neg (by omega), show (2 * k + 1) / 2 = k by omega, e]; omega
theorem pl_nm (hf : ∀ k, k < ts.length → fl k < 2) (htl : ∀ k, k < ts.length → tl.getD (Q.getD k 0) (0, 0) = rt ts P fl k) {e : Nat} (he : e < 2 * ts.length) : pl tl (nm Q fl e) = P.getD (pl ts e) 0 := by
  have h1 := nm_half (Q := Q) hf he
  have h2 := htl (e / 2) (by omega)
  have h4 := hf (e / 2) (by omega)
  have hm : nm Q fl e % 2 = (e + fl (e / 2)) % 2 := by unfold nm; split <;> omega
  unfold pl
  rw [h1, h2, hm]
  unfold rt
  rcases (by omega : fl (e / 2) = 0 ∨ fl (e / 2) = 1) with z | z <;> rcases (by omega : e % 2 = 0 ∨ e % 2 = 1) with w | w
  · rw [z, if_pos (by omega), if_pos rfl, if_pos w]
  · rw [z, if_neg (by omega), if_pos rfl, if_neg (by omega)]
  · rw [z, if_neg (by omega), if_neg (by omega), if_pos w]
  · rw [z, if_pos (by omega), if_neg (by omega), if_neg (by omega)]
theorem ren_ok (h : MapOk ts os) (h4 : Four os) (hP : Prm P os.length) (hQ : Prm Q ts.length) (hf : ∀ k, k < ts.length → fl k < 2) (hl : tl.length = ts.length) (htl : ∀ k, k < ts.length → tl.getD (Q.getD k 0) (0, 0) = rt ts P fl k)
    (hol : ol.length = os.length) (ho : ∀ p, p < os.length → ∃ r : List Nat, r.Perm (ord os p) ∧ ord ol (P.getD p 0) = r.map (nm Q fl)) : MapOk tl ol ∧ Four ol := by
  have key : ∀ p, p < os.length → ∀ e', e' ∈ ord ol (P.getD p 0) ↔ ∃ e, e ∈ ord os p ∧ nm Q fl e = e' := fun p hp e' => by
    obtain ⟨r, h1, h2⟩ := ho p hp
    rw [h2, List.mem_map]
    exact ⟨fun ⟨e, he, h3⟩ => ⟨e, h1.mem_iff.mp he, h3⟩, fun ⟨e, he, h3⟩ => ⟨e, h1.mem_iff.mpr he, h3⟩⟩
  refine ⟨⟨by rw [hl]; exact h.pos, fun e' he' => ?_, fun e' he' => ?_, fun p' hp' e' he' => ?_, fun p' hp' => ?_, fun p' hp' => ?_, by rw [hl]; exact h.many⟩, fun p' hp' => ?_⟩
  · rw [hl] at he'
    obtain ⟨e, he, rfl⟩ := nm_sur hQ hf he'
    rw [pl_nm hf htl he, hol]
    exact hP.lt (h.place e he)
  · rw [hl] at he'
    obtain ⟨e, he, rfl⟩ := nm_sur hQ hf he'
    rw [pl_nm hf htl he, key _ (h.place e he)]
    exact ⟨e, h.mem e he, rfl⟩
  · rw [hol] at hp'
    obtain ⟨p, hp, rfl⟩ := hP.sur hp'
    obtain ⟨e, he, rfl⟩ := (key p hp e').mp he'
    obtain ⟨h1, h2⟩ := h.at_ p hp e he
    refine ⟨by rw [hl]; exact nm_lt hQ hf h1, ?_⟩
    rw [pl_nm hf htl h1, h2]
  · rw [hol] at hp'
    obtain ⟨p, hp, rfl⟩ := hP.sur hp'
    obtain ⟨r, h1, h2⟩ := ho p hp
    rw [h2]
    have hnd : r.Nodup := h1.nodup_iff.mpr (h.nd p hp)
    refine List.pairwise_map.mpr (hnd.imp_of_mem fun {a b} ha hb hab e => hab ?_)
    have ha := (h.at_ p hp a (h1.mem_iff.mp ha)).1
    have hb := (h.at_ p hp b (h1.mem_iff.mp hb)).1
    exact nm_inj hQ hf ha hb e
  · rw [hol] at hp'
    obtain ⟨p, hp, rfl⟩ := hP.sur hp'
    obtain ⟨r, h1, h2⟩ := ho p hp
    rw [h2]
    intro z
    have h3 := h.ne p hp
    have h5 := h1.length_eq
    have h6 := congrArg List.length z
    rw [List.length_map, h5] at h6
    exact h3 (List.eq_nil_of_length_eq_zero h6)
  · rw [hol] at hp'
    obtain ⟨p, hp, rfl⟩ := hP.sur hp'
    obtain ⟨r, h1, h2⟩ := ho p hp
    rw [h2, List.length_map, h1.length_eq]
    exact h4 p hp
theorem nm_oth (hf : ∀ k, k < ts.length → fl k < 2) {x : Nat} (hx : x < 2 * ts.length) : nm Q fl (oth x) = oth (nm Q fl x) := by
  have h1 := hf (x / 2) (by omega)
  rcases (by omega : x % 2 = 0 ∨ x % 2 = 1) with z | z
  · have e1 : oth x = x + 1 := by unfold oth; rw [if_pos z]
    rw [e1]
    unfold nm
    rw [if_neg (by omega), if_pos z, show (x + 1) / 2 = x / 2 by omega]
    unfold oth
    split <;> omega
  · have e1 : oth x = x - 1 := by unfold oth; rw [if_neg (by omega)]
    rw [e1]
    unfold nm
    rw [if_pos (by omega), if_neg (by omega), show (x - 1) / 2 = x / 2 by omega]
    unfold oth
    split <;> omega
theorem ren_lands (h : MapOk ts os) (hok : MapOk tl ol) (hQ : Prm Q ts.length) (hP : Prm P os.length) (hf : ∀ k, k < ts.length → fl k < 2) (hl : tl.length = ts.length) (htl : ∀ k, k < ts.length → tl.getD (Q.getD k 0) (0, 0) = rt ts P fl k)
    (hol : ol.length = os.length) (ho : ∀ p, p < os.length → ∃ a : Nat, ord ol (P.getD p 0) = ((ord os p).drop a ++ (ord os p).take a).map (nm Q fl)) : (lns tl ol).length = (lns ts os).length ∧ ∀ x, x < 2 * ts.length → beh tl ol (nm Q fl x) = nm Q fl (beh ts os x) := by
  have key : ∀ x, x < 2 * ts.length → beh tl ol (nm Q fl x) = nm Q fl (beh ts os x) := fun x hx => by
    have hox := oth_lt hx
    have hp := h.place _ hox
    obtain ⟨a, ha⟩ := ho _ hp
    have hm := h.mem _ hox
    have hnd := h.nd _ hp
    have hrot : ((ord os (pl ts (oth x))).drop a ++ (ord os (pl ts (oth x))).take a).Perm (ord os (pl ts (oth x))) := by
      refine List.perm_append_comm.trans ?_
      rw [List.take_append_drop]
    have hnd' := hok.nd (P.getD (pl ts (oth x)) 0) (by rw [hol]; exact hP.lt hp)
    rw [ha] at hnd'
    rw [beh_prv, ← nm_oth hf hx, pl_nm hf htl hox, ha, prv_map (hrot.nodup_iff.mpr hnd) hnd' (hrot.mem_iff.mpr hm), prv_rot hnd hm, beh_prv]
  have o1 := Orb.name h.orb (f' := beh tl ol) (g := nm Q fl) (fun x hx => nm_lt hQ hf hx) (fun x y hx hy e => nm_inj hQ hf hx hy e) (fun y hy => nm_sur hQ hf hy) key
  have o2 := hok.orb
  rw [hl] at o2
  refine ⟨?_, key⟩
  rw [o2.len o1, List.length_map]
end
theorem cut_lo (l : List Nat) (i : Nat) (hi : i ≤ l.length) : cutL l (some (i : Int)) none = l.drop i := by
  unfold cutL
  rw [HT.sIx_nat, HT.sIx_none, Nat.min_eq_left hi, ← List.length_drop, List.take_length]
theorem cut_hi (l : List Nat) (i : Nat) (hi : i ≤ l.length) : cutL l none (some (i : Int)) = l.take i := by
  unfold cutL
  rw [HT.sIx_nat, HT.sIx_none, Nat.min_eq_left hi]
  simp
theorem cut_nats (l : List Nat) (lo hi : Option Int) : cutL (l.map fun (e : Nat) => D.int (e : Int)) lo hi = (cutL l lo hi).map fun (e : Nat) => .int (e : Int) := by
  unfold cutL; rw [List.length_map, List.map_take, List.map_drop]
theorem ties_get {ts : Ties} {j : Nat} {d : D} (h : (enumL (ts.map tieD))[j]? = some d) : j < ts.length ∧ d = .tup [.int (j : Int), tieD (ts.getD j (0, 0))] := by
  rw [enumL_map, List.getElem?_map, List.getElem?_zipIdx] at h
  cases hg : ts[j]? with
  | none => rw [hg] at h; cases h
  | some x =>
    rw [hg] at h
    refine ⟨(List.getElem?_eq_some_iff.mp hg).1, ?_⟩
    rw [List.getD_eq_getElem?_getD, hg]
    simp at h
    exact h.symm
theorem set_ties (ts : Ties) (q : Nat) (t : Nat × Nat) : (ts.map tieD).set q (tieD t) = (ts.set q t).map tieD := by simp [List.map_set]
theorem pl_two {ts : Ties} {k : Nat} : pl ts (2 * k) = (ts.getD k (0, 0)).1 ∧ pl ts (2 * k + 1) = (ts.getD k (0, 0)).2 := by
  unfold pl
  rw [if_pos (by omega), if_neg (by omega), show 2 * k / 2 = k by omega, show (2 * k + 1) / 2 = k by omega]
  exact ⟨rfl, rfl⟩
theorem getD_setN {α : Type} (l : List α) (i j : Nat) (x y : α) (hi : i < l.length) : (l.set i x).getD j y = if j = i then x else l.getD j y := by
  rw [List.getD_eq_getElem?_getD, List.getD_eq_getElem?_getD]
  by_cases h : j = i
  · subst h; rw [if_pos rfl, List.getElem?_set_self hi]; rfl
  · rw [if_neg h, List.getElem?_set_ne (Ne.symm h)]
theorem renamed_ex {ts : Ties} {os : Orders} (h : MapOk ts os) (h4 : Four os) (c : Int) (hn : os.length ≤ 1000) : ∃ tl ol, F__law_renamed [tiesD ts, ordersD os, .int c] = .ok (webD ol.length tl ol) ∧ MapOk tl ol ∧ Four ol ∧ tl.length = ts.length ∧ ol.length = os.length ∧ (Flat ts os → Flat tl ol) := by
  have hm := h.many
  have := fn_ex (u := u__law_renamed) (n := 17) (ds := [tiesD ts, ordersD os, .int c]) (Q := fun d => ∃ tl ol, d = webD ol.length tl ol ∧ MapOk tl ol ∧ Four ol ∧ tl.length = ts.length ∧ ol.length = os.length ∧ (Flat ts os → Flat tl ol)) ?_
  · obtain ⟨x, h1, tl, ol, rfl, h2⟩ := this; exact ⟨tl, ol, h1, h2⟩
  rw [show ini 17 [tiesD ts, ordersD os, .int c] = [some (tiesD ts), some (ordersD os), some (.int c), none, none, none, none, none, none, none, none, none, none, none, none, none, none] from rfl]
  obtain ⟨m0, hm0, hm00⟩ := mix_ex c 0 (by omega) (by omega)
  obtain ⟨m1, hm1, hm10⟩ := mix_ex c 1 (by omega) (by omega)
  obtain ⟨m2, hm2, hm20⟩ := mix_ex c 2 (by omega) (by omega)
  obtain ⟨m3, hm3, hm30⟩ := mix_ex c 3 (by omega) (by omega)
  obtain ⟨P, hPe, hPp⟩ := turned_perm m0 os.length hm00 hn
  obtain ⟨Q, hQe, hQp⟩ := turned_perm m1 ts.length hm10 (by omega)
  have hP : Prm P os.length := ⟨hPp⟩
  have hQ : Prm Q ts.length := ⟨hQp⟩
  obtain ⟨fl, hfl⟩ : ∃ fl : Nat → Nat, ∀ k : Nat, k ≤ 1000 → F__law_digit [.int m2, .int 2, .int (k : Int)] = .ok (.int (fl k : Int)) ∧ fl k < 2 := by
    refine Classical.axiomOfChoice (r := fun (k : Nat) (w : Nat) => k ≤ 1000 → F__law_digit [.int m2, .int 2, .int (k : Int)] = .ok (.int (w : Int)) ∧ w < 2) fun k => ?_
    by_cases hk : k ≤ 1000
    · obtain ⟨w, hw, h0, h1⟩ := digit_lt m2 2 k hm20 (by omega) (by omega) (by omega) (by omega)
      obtain ⟨w', rfl⟩ : ∃ w' : Nat, w = (w' : Int) := ⟨w.toNat, by omega⟩
      exact ⟨w', fun _ => ⟨hw, by omega⟩⟩
    · exact ⟨0, fun h => (hk h).elim⟩
  have hf : ∀ k, k < ts.length → fl k < 2 := fun k hk => (hfl k (by omega)).2
  refine wp_seq (wp_set (d := natsD P) (by simp only [aF_ap, consF_ap, nilF_ap, vF_1, vF_2, cF_ap, Rz.bind_ok, cO_ap2, hm0, len_orders, hPe]) ?_)
  simp only [set_3]
  refine wp_seq (wp_set (d := natsD Q) (by simp only [aF_ap, consF_ap, nilF_ap, vF_0, vF_2, cF_ap, Rz.bind_ok, cO_ap2, hm1, len_ties, hQe]) ?_)
  simp only [set_4]
  refine wp_seq (wp_set (d := natsD []) rfl ?_)
  simp only [set_5]
  have ht2 : ∀ a b : D, tupO [a, b] = .ok (.tup [a, b]) := fun _ _ => rfl
  have hc1 := comp_F (e := [some (tiesD ts), some (ordersD os), some (.int c), some (natsD P), some (natsD Q), some (natsD []), none, none, none, none, none, none, none, none, none, none, none]) (it := (lOf (vF 0))) (own := [7]) (tg := gN 7) (f := (aF tupO (consF (cF (.int 0)) (consF (cF (.int 0)) nilF)))) (xs := ts) (gg := tieD) (hh := fun _ => tieD (0, 0)) (by simp [tiesD]) (by unfold lim; omega) (fun x hx => ⟨_, rfl, rfl⟩)
  refine wp_seq (wp_set (d := tiesD (ts.map fun _ => (0, 0))) (by rw [hc1]; unfold tiesD; rw [List.map_map]; rfl) ?_)
  simp only [set_6]
  -- the ties
  refine wp_seq (wp_for (ds := enumL (ts.map tieD)) (by simp [tiesD]) (fun j e => ∃ (tl : Ties) (o8 o9 o10 o11 : Option D), e = [some (tiesD ts), some (ordersD os), some (.int c), some (natsD P), some (natsD Q), some (natsD ((List.range (2 * j)).map (nm Q fl))), some (tiesD tl), none, o8, o9, o10, o11, none, none, none, none, none] ∧ tl.length = ts.length ∧ ∀ k, k < j → tl.getD (Q.getD k 0) (0, 0) = rt ts P fl k) ⟨_, none, none, none, none, rfl, by simp, fun k hk => by omega⟩ ?_ ?_)
  · rintro j d _ hd ⟨tl, o8, o9, o10, o11, rfl, hl, htl⟩
    obtain ⟨hj, rfl⟩ := ties_get hd
    obtain ⟨ta, tb, hte⟩ : ∃ ta tb, ts.getD j (0, 0) = (ta, tb) := ⟨(ts.getD j (0, 0)).1, (ts.getD j (0, 0)).2, rfl⟩
    refine ⟨_, by rw [hte]; simp [tieD]; rfl, ?_⟩
    obtain ⟨hd1, hd2⟩ := hfl j (by omega)
    refine wp_seq (wp_set (d := .int (fl j : Int)) (by simp only [aF_ap, consF_ap, nilF_ap, vF_2, vF_8, cF_ap, Rz.bind_ok, cO_ap2, cO_ap3, hm2, hd1]) ?_)
    simp only [set_11]
    obtain ⟨pa, pb⟩ := pl_two (ts := ts) (k := j)
    have ha := h.place (2 * j) (by omega)
    have hb := h.place (2 * j + 1) (by omega)
    rw [pa, hte] at ha
    rw [pb, hte] at hb
    have xa : ixD (natsD P) (.int (ta : Int)) = .ok (.int (P.getD ta 0 : Int)) := ixD_nats rfl (by rw [hP.len]; exact ha)
    have xb : ixD (natsD P) (.int (tb : Int)) = .ok (.int (P.getD tb 0 : Int)) := ixD_nats rfl (by rw [hP.len]; exact hb)
    have xq : ixD (natsD Q) (.int (j : Int)) = .ok (.int (Q.getD j 0 : Int)) := ixD_nats rfl (by rw [hQ.len]; exact hj)
    have hqj := hQ.lt hj
    refine wp_seq (wp_st (ds := tl.map tieD) (d := tieD (rt ts P fl j)) (k := (Q.getD j 0 : Int)) (j := Q.getD j 0) ?_ rfl (by simp only [b2_ap, vF_4, vF_8, Rz.bind_ok, xq]) rfl (by rw [List.length_map]; omega) ?_)
    · have hl2 : ∀ a b : D, lstO [a, b] = .ok (.lst [a, b]) := fun _ _ => rfl
      simp only [b2_ap, aF_ap, consF_ap, nilF_ap, imF_ap, vF_3, vF_9, vF_10, vF_11, Rz.bind_ok, xa, xb, imm_int, if_true, ht2, hl2]
      unfold rt
      rw [hte]
      rcases (by omega : fl j = 0 ∨ fl j = 1) with z | z
      · rw [z, if_pos rfl]
        rfl
      · rw [z, if_neg (by omega)]
        rfl
    simp only [set_6]
    rw [set_ties]
    have e1 : nm Q fl (2 * j) = 2 * Q.getD j 0 + fl j := by unfold nm; rw [if_pos (by omega), show 2 * j / 2 = j by omega]
    have e2 : nm Q fl (2 * j + 1) = 2 * Q.getD j 0 + 1 - fl j := by unfold nm; rw [if_neg (by omega), show (2 * j + 1) / 2 = j by omega]
    refine wp_seq (wp_set (d := natsD ((List.range (2 * (j + 1))).map (nm Q fl))) ?_ (wp_sk ⟨tl.set (Q.getD j 0) (rt ts P fl j), _, _, _, _, rfl, by simp [hl], fun k hk => ?_⟩))
    · have hl2 : ∀ a b : D, lstO [a, b] = .ok (.lst [a, b]) := fun _ _ => rfl
      simp only [b2_ap, aF_ap, consF_ap, nilF_ap, cF_ap, vF_4, vF_5, vF_8, vF_11, Rz.bind_ok, i2_int, addI_ap, subI_ap, xq, mulI_l (i := 2) (j := (Q.getD j 0 : Int)) (by omega), hl2]
      unfold natsD catD
      simp only [List.length_map, List.length_range]
      rw [if_pos (by simp [lim]; omega)]
      rw [show 2 * (j + 1) = 2 * j + 1 + 1 by omega, List.range_succ, List.range_succ]
      simp only [List.map_append, List.map_cons, List.map_nil, List.append_assoc]
      rw [e1, e2]
      congr 3
      simp only [List.cons_append, List.nil_append]
      congr 2
      · congr 1
        simp; omega
    · rw [getD_setN _ _ _ _ _ (by omega)]
      split
      · rename_i e
        have := hQ.inj (by omega) hj e
        rw [this]
      · rename_i e
        exact htl k (by
          have : k ≠ j := fun z => e (by rw [z])
          omega)
  rintro _ ⟨tl, o8, o9, o10, o11, rfl, hl, htl⟩
  have hle : (enumL (ts.map tieD)).length = ts.length := by rw [enumL_map]; simp
  rw [hle] at htl ⊢
  -- the orders
  have hc2 := comp_F (e := [some (tiesD ts), some (ordersD os), some (.int c), some (natsD P), some (natsD Q), some (natsD ((List.range (2 * ts.length)).map (nm Q fl))), some (tiesD tl), none, o8, o9, o10, o11, none, none, none, none, none]) (it := (lOf (vF 1))) (own := [13]) (tg := gN 13) (f := (aF lstO nilF)) (xs := os) (gg := natsD) (hh := fun _ => natsD []) (by simp [ordersD]) (by unfold lim; omega) (fun x hx => ⟨_, rfl, rfl⟩)
  refine wp_seq (wp_set (d := ordersD (os.map fun _ => [])) (by rw [hc2]; unfold ordersD; rw [List.map_map]; rfl) ?_)
  simp only [set_12]
  let names := (List.range (2 * ts.length)).map (nm Q fl)
  refine wp_seq (wp_for (ds := enumL (os.map natsD)) (by simp [ordersD]) (fun j e => ∃ (ol : Orders) (o13 o14 o15 : Option D), e = [some (tiesD ts), some (ordersD os), some (.int c), some (natsD P), some (natsD Q), some (natsD names), some (tiesD tl), none, o8, o9, o10, o11, some (ordersD ol), o13, o14, o15, none] ∧ ol.length = os.length ∧ ∀ p, p < j → ∃ a : Nat, ord ol (P.getD p 0) = ((ord os p).drop a ++ (ord os p).take a).map (nm Q fl)) ⟨_, none, none, none, rfl, by simp, fun k hk => by omega⟩ ?_ ?_)
  · rintro j d _ hd ⟨ol, o13, o14, o15, rfl, hol, ho⟩
    obtain ⟨hj, rfl⟩ := enum_get hd
    have hrow : os.getD j [] = ord os j := rfl
    rw [hrow] at *
    refine ⟨_, by simp; rfl, ?_⟩
    have hlen : 0 < (ord os j).length := List.length_pos_iff.mpr (h.ne j hj)
    obtain ⟨w, hw, hw0, hw1⟩ := digit_lt m3 4 j hm30 (by omega) (by omega) (by omega) (by omega)
    have q0 := Int.emod_nonneg w (b := ((ord os j).length : Int)) (by omega)
    have q1 := Int.emod_lt_of_pos w (b := ((ord os j).length : Int)) (by omega)
    obtain ⟨a, haw⟩ : ∃ a : Nat, w % ((ord os j).length : Int) = (a : Int) := ⟨(w % ((ord os j).length : Int)).toNat, by omega⟩
    refine wp_seq (wp_set (d := .int (a : Int)) (by simp only [b2_ap, aF_ap, consF_ap, nilF_ap, vF_2, vF_13, vF_14, cF_ap, Rz.bind_ok, cO_ap2, cO_ap3, hm3, hw, len_nats, i2_int, modI_pos (i := w) (j := ((ord os j).length : Int)) (by omega), haw]) ?_)
    simp only [set_15]
    have xp : ixD (natsD P) (.int (j : Int)) = .ok (.int (P.getD j 0 : Int)) := ixD_nats rfl (by rw [hP.len]; exact hj)
    have hpj := hP.lt hj
    have hrot : ((ord os j).drop a ++ (ord os j).take a).Perm (ord os j) := by
      refine List.perm_append_comm.trans ?_
      rw [List.take_append_drop]
    have hc3 := comp_F (e := [some (tiesD ts), some (ordersD os), some (.int c), some (natsD P), some (natsD Q), some (natsD names), some (tiesD tl), none, o8, o9, o10, o11, some (ordersD ol), some (natsD (ord os j)), some (.int (j : Int)), some (.int (a : Int)), none]) (it := (lOf (b2 catD (sl3 slD (vF 13) (oiF (vF 15)) (fun _ => .ok none)) (sl3 slD (vF 13) (fun _ => .ok none) (oiF (vF 15)))))) (own := [16]) (tg := gN 16) (f := (b2 ixD (vF 5) (vF 16))) (xs := (ord os j).drop a ++ (ord os j).take a) (gg := fun (e : Nat) => .int (e : Int)) (hh := fun e => .int (nm Q fl e : Int)) (by
      have ho : oiF (vF 15) [some (tiesD ts), some (ordersD os), some (.int c), some (natsD P), some (natsD Q), some (natsD names), some (tiesD tl), none, o8, o9, o10, o11, some (ordersD ol), some (natsD (ord os j)), some (.int (j : Int)), some (.int (a : Int)), none] = .ok (some (a : Int)) := rfl
      have l1 := hrot.length_eq
      unfold sl3
      simp only [lOf_ap, b2_ap, vF_13, Rz.bind_ok, ho]
      unfold natsD slD
      simp only [Rz.bind_ok, cut_nats, cut_lo (ord os j) a (by omega), cut_hi (ord os j) a (by omega)]
      unfold catD
      simp only [List.length_map]
      rw [if_pos (by have := h4 j hj; rw [List.length_append] at l1; unfold lim; omega), List.map_append]
      rfl) (by rw [hrot.length_eq]; have := h4 j hj; unfold lim; omega) (fun x hx => ⟨_, rfl, by
        have hx1 := (h.at_ j hj x (hrot.mem_iff.mp hx)).1
        have e1 := ixD_nats (l := names) (i := (x : Int)) (k := x) rfl (by simpa [names] using hx1)
        have e2 : names.getD x 0 = nm Q fl x := by
          show ((List.range (2 * ts.length)).map (nm Q fl)).getD x 0 = _
          rw [List.getD_eq_getElem?_getD, List.getElem?_map, List.getElem?_range hx1]; rfl
        rw [e2] at e1
        simp only [ewipe, set_16, b2_ap, vF_5, vF_16, Rz.bind_ok, e1]⟩)
    refine wp_seq (wp_st (ds := ol.map natsD) (d := natsD (((ord os j).drop a ++ (ord os j).take a).map (nm Q fl))) (k := (P.getD j 0 : Int)) (j := P.getD j 0) (by rw [hc3]; unfold natsD; rw [List.map_map]; rfl) rfl (by simp only [b2_ap, vF_3, vF_14, Rz.bind_ok, xp]) rfl (by rw [List.length_map]; omega) (wp_sk ?_))
    simp only [set_12]
    rw [set_orders]
    refine ⟨ol.set (P.getD j 0) _, some (natsD (ord os j)), some (.int (j : Int)), some (.int (a : Int)), rfl, by simp [hol], fun p hp => ?_⟩
    rw [ord_set (by omega)]
    by_cases e : P.getD p 0 = P.getD j 0
    · have := hP.inj (by omega) hj e
      rw [if_pos e, this]
      exact ⟨_, rfl⟩
    · rw [if_neg e]
      exact ho p (by
        have : p ≠ j := fun z => e (by rw [z])
        omega)
  rintro _ ⟨ol, o13, o14, o15, rfl, hol, ho⟩
  have hle2 : (enumL (os.map natsD)).length = os.length := by rw [enumL_map]; simp
  rw [hle2] at ho
  obtain ⟨k1, k2⟩ := ren_ok h h4 hP hQ hf hl htl hol fun p hp => by
    obtain ⟨a, ha⟩ := ho p hp
    exact ⟨_, List.perm_append_comm.trans (by rw [List.take_append_drop]), ha⟩
  have k3 := (ren_lands h k1 hQ hP hf hl htl hol ho).1
  refine wp_seq (wp_ret ?_ ⟨tl, ol, rfl, k1, k2, hl, hol, fun hF => by unfold Flat at *; omega⟩)
  simp only [aF_ap, consF_ap, nilF_ap, vF_1, vF_6, vF_12, Rz.bind_ok, len_orders, ← hol]
  rfl
end Lib

set_option Elab.async false
set_option linter.all false
set_option maxRecDepth 100000
/-! Maps: the laws' makers of maps. -/
namespace Lib
open PySem L2 Pv
theorem immK_web (n : Nat) (ts : Ties) (os : Orders) : immK (webD n ts os) 2 = true := by
  unfold webD
  rw [immK, immKs, immKs, immKs, immKs, immK_ties ts 1, immK_orders os 0]; rfl
theorem map0 : MapOk [(0, 1)] [[0], [1]] := ⟨by decide, by decide, by decide, by decide, by decide, by decide, by decide⟩
theorem map1 : MapOk [(0, 0)] [[0, 1]] := ⟨by decide, by decide, by decide, by decide, by decide, by decide, by decide⟩
theorem map_ex (ns : List Int) (steps most : Int) (hs : 0 ≤ steps ∧ steps ≤ 400) : ∃ ts os, F__law_map [.fzl (ns.map .int), .int steps, .int most] = .ok (webD os.length ts os) ∧ MapOk ts os ∧ Four os ∧ (ts.length : Int) ≤ steps + 1 ∧ (os.length : Int) ≤ steps + 2 ∧ Flat ts os := by
  have := fn_ex (u := u__law_map) (n := 7) (ds := [.fzl (ns.map .int), .int steps, .int most]) (Q := fun d => ∃ ts os, d = webD os.length ts os ∧ MapOk ts os ∧ Four os ∧ (ts.length : Int) ≤ steps + 1 ∧ (os.length : Int) ≤ steps + 2 ∧ Flat ts os) ?_
  · obtain ⟨x, h1, ts, os, rfl, h2⟩ := this; exact ⟨ts, os, h1, h2⟩
  rw [show ini 7 [.fzl (ns.map .int), .int steps, .int most] = [some (.fzl (ns.map .int)), some (.int steps), some (.int most), none, none, none, none] from rfl]
  have hcell := cell_at ns 0 (by omega)
  have hcell1 := cell_at ns 1 (by omega)
  generalize ns.getD (0 : Int).toNat 0 = c0 at hcell
  generalize ns.getD (1 : Int).toNat 0 = c1 at hcell1
  refine wp_seq (wp_set (d := .int c0) (by simp only [aF_ap, consF_ap, nilF_ap, vF_0, cF_ap, Rz.bind_ok, cO_ap2, hcell]) ?_)
  simp only [set_3]
  refine wp_seq (wp_set (d := tiesD [(0, 1)]) rfl ?_)
  simp only [set_4]
  refine wp_seq (wp_set (d := ordersD [[0], [1]]) rfl ?_)
  simp only [set_5]
  obtain ⟨m0, hm0, hm00⟩ := mix_ex c0 0 (by omega) (by omega)
  obtain ⟨m1, hm1, hm10⟩ := mix_ex c0 1 (by omega) (by omega)
  refine wp_seqJ (fun e => ∃ ts os, e = [some (.fzl (ns.map .int)), some (.int steps), some (.int most), some (.int c0), some (tiesD ts), some (ordersD os), none] ∧ MapOk ts os ∧ Four os ∧ ts.length = 1 ∧ os.length ≤ 2 ∧ Flat ts os) (wp_if (b := m0 % 4 == 1) (by simp only [tF_ap, b2_ap, aF_ap, consF_ap, nilF_ap, vF_3, cF_ap, Rz.bind_ok, cO_ap2, hm0, i2_int, modI_pos (i := m0) (j := 4) (by omega), eqD_int, toB_bl]) (fun _ => ?_) fun _ => ?_) ?_
  · refine wp_seq (wp_set (d := tiesD [(0, 0)]) rfl ?_)
    simp only [set_4]
    refine wp_seq (wp_set (d := ordersD [[0, 1]]) rfl (wp_sk ?_))
    simp only [set_5]
    exact ⟨_, _, rfl, map1, (by unfold Four; decide), rfl, by decide, by unfold Flat; decide⟩
  · exact wp_sk ⟨_, _, rfl, map0, (by unfold Four; decide), rfl, by decide, by unfold Flat; decide⟩
  rintro _ ⟨ts, os, rfl, hok, h4, hl, hol, hF⟩
  have q0 := Int.emod_nonneg m1 (b := steps + 1) (by omega)
  have q1 := Int.emod_lt_of_pos m1 (b := steps + 1) (by omega)
  refine wp_seq (wp_for (ds := upto 0 (m1 % (steps + 1))) (by simp only [aI_ap, aF_ap, b2_ap, consF_ap, nilF_ap, vF_1, vF_3, cF_ap, Rz.bind_ok, cO_ap2, hm1, i2_int, addI_ap, modI_pos (i := m1) (j := steps + 1) (by omega)]; exact rng1_ok (by omega) (by omega)) (fun j e => ∃ ts os o6, e = [some (.fzl (ns.map .int)), some (.int steps), some (.int most), some (.int c0), some (tiesD ts), some (ordersD os), o6] ∧ MapOk ts os ∧ Four os ∧ ts.length ≤ 1 + j ∧ os.length ≤ 2 + j ∧ Flat ts os) ⟨ts, os, _, rfl, hok, h4, by omega, by omega, hF⟩ ?_ ?_)
  · rintro j d _ hd ⟨ts, os, o6, rfl, hok, h4, hl, hol, hF⟩
    obtain ⟨rfl, hj⟩ := upto_get hd
    refine ⟨_, rfl, ?_⟩
    simp only [set_6]
    have hcj := cell_at ns (2 + (j : Int) % 6) (by omega)
    obtain ⟨v, hv, hv0⟩ := mix_ex (ns.getD (2 + (j : Int) % 6).toNat 0) (4 + (j : Int)) (by omega) (by omega)
    obtain ⟨ts', os', hstep, hok', h4', hl', hol', hF', _⟩ := step_ex hok h4 v most hv0 (by omega) (by omega)
    refine wp_seq (wp_callB (ds := [tiesD ts, ordersD os, .int v, .int most]) (es := [tiesD ts', ordersD os', .int v, .int most]) ?_ ?_ hstep ?_ (wp_sk ?_))
    · simp only [consF_ap, nilF_ap, aF_ap, b2_ap, vF_0, vF_2, vF_4, vF_5, vF_6, cF_ap, Rz.bind_ok, cO_ap2, i2_int, addI_ap, modI_pos (i := (j : Int)) (j := 6) (by omega), hcj, hv]
    · show (immK (tiesD ts) (min 1 40) && (immK (ordersD os) (min 2 40) && true)) = true
      rw [show min 1 40 = 0 + 1 from rfl, show min 2 40 = 0 + 2 from rfl, immK_ties, immK_orders]; rfl
    · show (immK (tiesD ts') (min 1 40) && (immK (ordersD os') (min 2 40) && true)) = true
      rw [show min 1 40 = 0 + 1 from rfl, show min 2 40 = 0 + 2 from rfl, immK_ties, immK_orders]; rfl
    · exact ⟨ts', os', some (.int (j : Int)), rfl, hok', h4', by omega, by omega, hF' hF⟩
  rintro _ ⟨ts, os, o6, rfl, hok, h4, hl, hol, hF⟩
  rw [upto_len] at hl hol
  obtain ⟨tl, ol, hr, hok2, h42, hl2, hol2, hF2⟩ := renamed_ex hok h4 c1 (by omega)
  refine wp_seq (wp_ret ?_ ⟨tl, ol, rfl, hok2, h42, by omega, by omega, hF2 hF⟩)
  simp only [aF_ap, consF_ap, nilF_ap, vF_0, vF_4, vF_5, cF_ap, Rz.bind_ok, cO_ap2, hcell1, cI_ok (n := 3) (k := 2) rfl hr (immK_web _ _ _)]
/-! ### two ends exchanged -/
def swp (l : List Nat) (i j : Nat) : List Nat := (l.set i (l.getD j 0)).set j (l.getD i 0)
theorem swp_perm {l : List Nat} {i j : Nat} (hi : i < l.length) (hj : j < l.length) : (swp l i j).Perm l := by
  unfold swp
  rw [List.getD_eq_getElem?_getD, List.getD_eq_getElem?_getD, List.getElem?_eq_getElem hi, List.getElem?_eq_getElem hj]
  exact List.set_set_perm hi hj
theorem MapOk.perm {ts : Ties} {os : Orders} (h : MapOk ts os) {a : Nat} {l : List Nat} (ha : a < os.length) (hp : l.Perm (ord os a)) : MapOk ts (os.set a l) where
  pos := h.pos
  place := fun e he => by rw [List.length_set]; exact h.place e he
  mem := fun e he => by
    rw [ord_set ha]
    split
    · rename_i z; exact hp.mem_iff.mpr (z ▸ h.mem e he)
    · exact h.mem e he
  at_ := fun p hpl e he => by
    rw [List.length_set] at hpl
    rw [ord_set ha] at he
    split at he
    · rename_i z; subst z; exact h.at_ p hpl e (hp.mem_iff.mp he)
    · exact h.at_ p hpl e he
  nd := fun p hpl => by
    rw [List.length_set] at hpl
    rw [ord_set ha]
    split
    · exact hp.nodup_iff.mpr (h.nd a ha)
    · exact h.nd p hpl
  ne := fun p hpl => by
    rw [List.length_set] at hpl
    rw [ord_set ha]
    split
    · intro z
      have h5 := hp.length_eq
      rw [z] at h5
      exact h.ne a ha (List.eq_nil_of_length_eq_zero h5.symm)
    · exact h.ne p hpl
  many := h.many
theorem four_perm {os : Orders} (h : Four os) {a : Nat} {l : List Nat} (ha : a < os.length) (hp : l.Perm (ord os a)) : Four (os.set a l) := fun p hpl => by
  rw [List.length_set] at hpl
  rw [ord_set ha]
  split
  · rw [hp.length_eq]; exact h a ha
  · exact h p hpl
theorem exchanged_ex {ts : Ties} {os : Orders} (h : MapOk ts os) (h4 : Four os) (c : Int) : ∃ os', F__law_exchanged [ordersD os, .int c] = .ok [ordersD os', .int c] ∧ MapOk ts os' ∧ Four os' ∧ os'.length = os.length := by
  have := fnB_ex (n := 6) (bs := [true, false]) (u := u__law_exchanged) (ds := [ordersD os, .int c]) (Q := fun es => ∃ os', es = [ordersD os', .int c] ∧ MapOk ts os' ∧ Four os' ∧ os'.length = os.length) ?_
  · obtain ⟨es, h1, os', rfl, h2⟩ := this; exact ⟨os', h1, h2⟩
  rw [show ini 6 [ordersD os, .int c] = [some (ordersD os), some (.int c), none, none, none, none] from rfl]
  obtain ⟨m0, hm0, hm00⟩ := mix_ex c 0 (by omega) (by omega)
  have hpos : 0 < os.length := by
    have := h.place 0 (by have := h.pos; omega)
    omega
  have q0 := Int.emod_nonneg c (b := 2) (by omega)
  have q1 := Int.emod_lt_of_pos c (b := 2) (by omega)
  have q2 := Int.emod_nonneg m0 (b := 3) (by omega)
  have q3 := Int.emod_lt_of_pos m0 (b := 3) (by omega)
  obtain ⟨K, hK, hK0, hK3⟩ : ∃ K : Int, c % 2 * (1 + m0 % 3) = K ∧ 0 ≤ K ∧ K ≤ 3 := by
    rcases (by omega : c % 2 = 0 ∨ c % 2 = 1) with z | z <;> rw [z] <;> exact ⟨_, rfl, by omega, by omega⟩
  refine wp_seq (wp_for (ds := upto 0 K) ?_ (fun j e => ∃ os' o2 o3 o4 o5, e = [some (ordersD os'), some (.int c), o2, o3, o4, o5] ∧ MapOk ts os' ∧ Four os' ∧ os'.length = os.length) ⟨os, _, _, _, _, rfl, h, h4, rfl⟩ ?_ ?_)
  · simp only [aI_ap, aF_ap, b2_ap, consF_ap, nilF_ap, vF_1, cF_ap, Rz.bind_ok, cO_ap2, hm0, i2_int, addI_ap, modI_pos (i := m0) (j := 3) (by omega), modI_pos (i := c) (j := 2) (by omega), mulI_l (i := c % 2) (j := 1 + m0 % 3) (by omega), hK]
    exact rng1_ok (by omega) (by omega)
  · rintro j d _ hd ⟨os', o2, o3, o4, o5, rfl, hok, h4', hl⟩
    obtain ⟨rfl, hj⟩ := upto_get hd
    refine ⟨_, rfl, ?_⟩
    simp only [set_2]
    obtain ⟨v1, hv1, hv10⟩ := mix_ex c (1 + 3 * (j : Int)) (by omega) (by omega)
    obtain ⟨v2, hv2, hv20⟩ := mix_ex c (2 + 3 * (j : Int)) (by omega) (by omega)
    obtain ⟨v3, hv3, hv30⟩ := mix_ex c (3 + 3 * (j : Int)) (by omega) (by omega)
    have h3j : mulI 3 (j : Int) = .ok (.int (3 * (j : Int))) := mulI_l (by omega)
    have r0 := Int.emod_nonneg v1 (b := (os'.length : Int)) (by omega)
    have r1 := Int.emod_lt_of_pos v1 (b := (os'.length : Int)) (by omega)
    obtain ⟨a, ha⟩ : ∃ a : Nat, v1 % (os'.length : Int) = (a : Int) := ⟨(v1 % (os'.length : Int)).toNat, by omega⟩
    have hal : a < os'.length := by omega
    have hlen : 0 < (ord os' a).length := List.length_pos_iff.mpr (hok.ne a hal)
    have s0 := Int.emod_nonneg v2 (b := ((ord os' a).length : Int)) (by omega)
    have s1 := Int.emod_lt_of_pos v2 (b := ((ord os' a).length : Int)) (by omega)
    have s2 := Int.emod_nonneg v3 (b := ((ord os' a).length : Int)) (by omega)
    have s3 := Int.emod_lt_of_pos v3 (b := ((ord os' a).length : Int)) (by omega)
    obtain ⟨x, hx⟩ : ∃ x : Nat, v2 % ((ord os' a).length : Int) = (x : Int) := ⟨(v2 % ((ord os' a).length : Int)).toNat, by omega⟩
    obtain ⟨y, hy⟩ : ∃ y : Nat, v3 % ((ord os' a).length : Int) = (y : Int) := ⟨(v3 % ((ord os' a).length : Int)).toNat, by omega⟩
    have hxl : x < (ord os' a).length := by omega
    have hyl : y < (ord os' a).length := by omega
    obtain ⟨p1, p2, p3⟩ := pI_ord (os := os') (a := a) (i := 0) (f := (b2 (i2 modI) (aF (cO 2 F__law_mix) (consF (vF 1) (consF (b2 (i2 addI) (cF (.int 1)) (b2 (i2 mulI) (cF (.int 3)) (vF 2))) nilF))) (aF lenO (consF (vF 0) nilF)))) (e := [some (ordersD os'), some (.int c), some (.int (j : Int)), o3, o4, o5]) 139 rfl (by
      simp only [b2_ap, aF_ap, consF_ap, nilF_ap, vF_0, vF_1, vF_2, cF_ap, Rz.bind_ok, i2_int, addI_ap, h3j, cO_ap2, hv1, len_orders, modI_pos (i := v1) (j := (os'.length : Int)) (by omega), ha]) hal
    refine wp_al p1 rfl p2 p3 (immK_nats _ 39) (by simp) ?_
    show wp (seqF _ _ [none, some (.int c), some (.int (j : Int)), some (natsD (ord os' a)), o4, o5]) _ _
    refine wp_seq (wp_set (d := .int (x : Int)) ?_ ?_)
    · simp only [b2_ap, aF_ap, consF_ap, nilF_ap, vF_1, vF_2, vF_3, cF_ap, Rz.bind_ok, i2_int, addI_ap, h3j, cO_ap2, hv2, len_nats, modI_pos (i := v2) (j := ((ord os' a).length : Int)) (by omega), hx]
    simp only [set_4]
    refine wp_seq (wp_set (d := .int (y : Int)) ?_ ?_)
    · simp only [b2_ap, aF_ap, consF_ap, nilF_ap, vF_1, vF_2, vF_3, cF_ap, Rz.bind_ok, i2_int, addI_ap, h3j, cO_ap2, hv3, len_nats, modI_pos (i := v3) (j := ((ord os' a).length : Int)) (by omega), hy]
    simp only [set_5]
    have xx : ixD (natsD (ord os' a)) (.int (x : Int)) = .ok (.int ((ord os' a).getD x 0 : Int)) := ixD_nats rfl hxl
    have xy : ixD (natsD (ord os' a)) (.int (y : Int)) = .ok (.int ((ord os' a).getD y 0 : Int)) := ixD_nats rfl hyl
    have ht2 : ∀ a b : D, tupO [a, b] = .ok (.tup [a, b]) := fun _ _ => rfl
    refine wp_seq (wp_sw (a := ((ord os' a).getD y 0 : Int)) (c := ((ord os' a).getD x 0 : Int)) ?_ (sg_0 (ds := (ord os' a).map fun (e : Nat) => .int (e : Int)) (j := x) (z := (x : Int)) rfl rfl rfl rfl (by simp; omega)) (sg_0 (ds := ((ord os' a).set x ((ord os' a).getD y 0)).map fun (e : Nat) => .int (e : Int)) (j := y) (z := (y : Int)) (by simp only [set_3, gt_3]; rw [set_nats]) rfl rfl rfl (by simp; omega)) (wp_sk ?_))
    · simp only [aF_ap, consF_ap, nilF_ap, imF_ap, b2_ap, vF_3, vF_4, vF_5, Rz.bind_ok, xx, xy, imm_int, if_true, ht2]
    simp only [set_3]
    rw [set_nats]
    have hpm := swp_perm hxl hyl
    refine ⟨natsD (swp (ord os' a) x y), rfl, immK_nats _ 39, ?_⟩
    rw [setP_ord _ _ _ hal]
    exact ⟨os'.set a (swp (ord os' a) x y), some (.int (j : Int)), some (natsD (swp (ord os' a) x y)), some (.int (x : Int)), some (.int (y : Int)), rfl, hok.perm hal hpm, four_perm h4' hal hpm, by rw [List.length_set]; exact hl⟩
  · rintro _ ⟨os', o2, o3, o4, o5, rfl, hok, h4', hl⟩
    exact wp_sk ⟨_, rfl, os', rfl, hok, h4', hl⟩
end Lib

set_option Elab.async false
set_option linter.all false
set_option maxRecDepth 100000
namespace Lw
open PySem L2 Pv

abbrev u_place_of : En → Rz Fl := Lib.u_place_of
abbrev F_place_of : List D → Rz D := Lib.F_place_of
abbrev u_other_end : En → Rz Fl := Lib.u_other_end
abbrev F_other_end : List D → Rz D := Lib.F_other_end
abbrev u_behind : En → Rz Fl := Lib.u_behind
abbrev F_behind : List D → Rz D := Lib.F_behind
abbrev u_land_from : En → Rz Fl := Lib.u_land_from
abbrev F_land_from : List D → Rz D := Lib.F_land_from
abbrev u_lands : En → Rz Fl := Lib.u_lands
abbrev F_lands : List D → Rz D := Lib.F_lands
abbrev u_lands_by_ends : En → Rz Fl := Lib.u_lands_by_ends
abbrev F_lands_by_ends : List D → Rz D := Lib.F_lands_by_ends
abbrev u_land_of : En → Rz Fl := Lib.u_land_of
abbrev F_land_of : List D → Rz D := Lib.F_land_of
abbrev u_is_flat : En → Rz Fl := Lib.u_is_flat
abbrev F_is_flat : List D → Rz D := Lib.F_is_flat
abbrev u__law_cell_at : En → Rz Fl := Lib.u__law_cell_at
abbrev F__law_cell_at : List D → Rz D := Lib.F__law_cell_at
abbrev u__law_mix : En → Rz Fl := Lib.u__law_mix
abbrev F__law_mix : List D → Rz D := Lib.F__law_mix
abbrev u__law_digit : En → Rz Fl := Lib.u__law_digit
abbrev F__law_digit : List D → Rz D := Lib.F__law_digit
abbrev u__law_other : En → Rz Fl := Lib.u__law_other
abbrev F__law_other : List D → Rz D := Lib.F__law_other
abbrev u__law_place : En → Rz Fl := Lib.u__law_place
abbrev F__law_place : List D → Rz D := Lib.F__law_place
abbrev u__law_behind : En → Rz Fl := Lib.u__law_behind
abbrev F__law_behind : List D → Rz D := Lib.F__law_behind
abbrev u__law_lands : En → Rz Fl := Lib.u__law_lands
abbrev F__law_lands : List D → Rz D := Lib.F__law_lands
abbrev u__law_step : En → Rz Fl := Lib.u__law_step
abbrev F__law_step : List D → Rz (List D) := Lib.F__law_step
def u__law_holds : En → Rz Fl := (seqF (setF 2 (aF (cO 1 F_lands) (consF (vF 0) nilF))) (seqF (Pv.iteF (orF (tF (b2 neD (aF lenO (consF (vF 2) nilF)) (vF 1))) (tF (b2 nisbD (aF (cO 1 F_is_flat) (consF (vF 0) nilF)) (cF (.bl true))))) (seqF (retF (cF (.bl false))) skF) skF) (seqF (setF 3 (aF lstO nilF)) (seqF (forF (lOf (vF 2)) (gN 4) (seqF (setF 3 (b2 catD (vF 3) (vF 4))) skF)) (seqF (Pv.iteF (tF (b2 neD (aF sortedO (consF (vF 3) nilF)) (aF lrgO (consF (b2 (i2 mulI) (cF (.int 2)) (aF lenO (consF (b2 ixD (vF 0) (cF (.int 1))) nilF))) nilF)))) (seqF (retF (cF (.bl false))) skF) skF) (seqF (forF (aI enumO (consF (vF 2) nilF)) (gTu 2 (gTc (gN 5) (gTc (gN 4) gT0))) (seqF (forF (aI enumO (consF (vF 4) nilF)) (gTu 2 (gTc (gN 6) (gTc (gN 7) gT0))) (seqF (Pv.iteF (orF (tF (b2 neD (aF (cO 2 F_behind) (consF (vF 0) (consF (vF 7) nilF))) (b2 ixD (vF 4) (b2 (i2 modI) (b2 (i2 addI) (vF 6) (cF (.int 1))) (aF lenO (consF (vF 4) nilF)))))) (tF (b2 neD (aF (cO 2 F_land_of) (consF (vF 0) (consF (vF 7) nilF))) (vF 5)))) (seqF (retF (cF (.bl false))) skF) skF) skF)) skF)) (seqF (forF (lOf (b2 ixD (vF 0) (cF (.int 2)))) (gN 8) (seqF (Pv.iteF (andF (tF (b2 eqD (aF lenO (consF (vF 8) nilF)) (cF (.int 1)))) (tF (b2 neD (aF (cO 2 F_land_of) (consF (vF 0) (consF (b2 ixD (vF 8) (cF (.int 0))) nilF))) (aF (cO 2 F_land_of) (consF (vF 0) (consF (aF (cO 1 F__law_other) (consF (b2 ixD (vF 8) (cF (.int 0))) nilF)) nilF)))))) (seqF (retF (cF (.bl false))) skF) skF) skF)) (seqF (retF (cF (.bl true))) skF))))))))
def F__law_holds : List D → Rz D := fnN 9 u__law_holds
def u_law : En → Rz Fl := (seqF (setF 1 (aF (cO 2 F__law_cell_at) (consF (vF 0) (consF (cF (.int 0)) nilF)))) (seqF (setF 2 (aF lstO (consF (aF tupO (consF (cF (.int 0)) (consF (cF (.int 1)) nilF))) nilF))) (seqF (setF 3 (aF lstO (consF (aF lstO (consF (cF (.int 0)) nilF)) (consF (aF lstO (consF (cF (.int 1)) nilF)) nilF)))) (seqF (Pv.iteF (tF (b2 eqD (b2 (i2 modI) (aF (cO 2 F__law_mix) (consF (vF 1) (consF (cF (.int 0)) nilF))) (cF (.int 3))) (cF (.int 1)))) (seqF (setF 2 (aF lstO (consF (aF tupO (consF (cF (.int 0)) (consF (cF (.int 0)) nilF))) nilF))) (seqF (setF 3 (aF lstO (consF (aF lstO (consF (cF (.int 0)) (consF (cF (.int 1)) nilF))) nilF))) skF)) skF) (seqF (setF 4 (b2 (i2 addI) (cF (.int 1)) (aF intO (consF (b2 eqD (aF lenO (consF (vF 3) nilF)) (cF (.int 1))) nilF)))) (seqF (forF (aI rng1 (consF (b2 (i2 modI) (aF (cO 2 F__law_mix) (consF (vF 1) (consF (cF (.int 1)) nilF))) (cF (.int 13))) nilF)) (gN 5) (seqF (Pv.iteF (notF (tF (aF (cO 2 F__law_holds) (consF (aF tupO (consF (aF lenO (consF (vF 3) nilF)) (consF (aF listI (consF (vF 2) nilF)) (consF (cvF 2 (compF (lOf (vF 3)) [6] (gN 6) yesF (aF listO (consF (vF 6) nilF)))) nilF)))) (consF (vF 4) nilF))))) (seqF (retF (cF (.bl false))) skF) skF) (seqF (setF 7 (aF lenO (consF (vF 3) nilF))) (seqF (setF 8 (aF lenO (consF (vF 2) nilF))) (seqF (callBF [some (2, 1), some (3, 2), none, none] F__law_step (consF (vF 2) (consF (vF 3) (consF (aF (cO 2 F__law_mix) (consF (aF (cO 2 F__law_cell_at) (consF (vF 0) (consF (b2 (i2 addI) (cF (.int 1)) (b2 (i2 modI) (vF 5) (cF (.int 6)))) nilF))) (consF (vF 5) nilF))) (consF (cF (.int 10)) nilF))))) (seqF (setF 4 (b2 (i2 addI) (vF 4) (b2 (i2 mulI) (b2 (i2 subI) (aF lenO (consF (vF 2) nilF)) (vF 8)) (aF intO (consF (b2 eqD (aF lenO (consF (vF 3) nilF)) (vF 7)) nilF))))) skF)))))) (seqF (retF (aF (cO 2 F__law_holds) (consF (aF tupO (consF (aF lenO (consF (vF 3) nilF)) (consF (vF 2) (consF (vF 3) nilF)))) (consF (vF 4) nilF)))) skF)))))))
def F_law : List D → Rz D := fnN 9 u_law
end Lw

set_option Elab.async false
set_option linter.all false
set_option maxRecDepth 100000
set_option maxHeartbeats 4000000
namespace Lw
open PySem PySem.Spec PyProof.Rows L2 Pv
def topS (i : Nat) : Stmt := PySem.Challenge.pw_fewbends_k04_whole_steps_of_maps.main.body.getD i (.Pass ⟨0, 0, 0, 0⟩)
abbrev s_place_of : Stmt := topS 1
theorem sc_place_of : FnScope ["ties", "end"] ["ties", "end"] (defScope s_place_of) := ⟨rfl, rfl, rfl, by decide +kernel, rfl, by decide +kernel, by decide +kernel⟩
theorem ok_place_of {P : Program} {w : World} {K : PySem.W.Frag} {mg : Str → Option Value} {base : Heap} {cl : Nat → Addr} {f : Addr} {fd : FuncData} (Fo : Fun K "place_of" "place_of" s_place_of f fd) (bl : Bl mg)  : FnOk P w K mg base CX0 1 f fd ["ties", "end"] (spF K cl 2 F_place_of 0) :=
  have sc := sc_place_of
  fn_ok (u := u_place_of) (G' := []) (k := 0) ["ties", "end"] ["ties", "end"] 2 2 [some 0, some 0] Fo sc (fun cdv A outer s H E hr => (simSs_cons (simS_ret (G' := []) (sim_ixN (sim_ixN (sim_varPF (pv 0) rfl) (sim_fdiv (sim_varP (k := 0) (pv 1) rfl) sim_int)) (sim_mod (sim_varP (k := 0) (pv 1) rfl) sim_int))) simSs_nil)) rfl rfl rfl
abbrev s_other_end : Stmt := topS 2
theorem sc_other_end : FnScope ["end"] ["end"] (defScope s_other_end) := ⟨rfl, rfl, rfl, by decide +kernel, rfl, by decide +kernel, by decide +kernel⟩
theorem ok_other_end {P : Program} {w : World} {K : PySem.W.Frag} {mg : Str → Option Value} {base : Heap} {cl : Nat → Addr} {f : Addr} {fd : FuncData} (Fo : Fun K "other_end" "other_end" s_other_end f fd) (bl : Bl mg)  : FnOk P w K mg base CX0 1 f fd ["end"] (spF K cl 1 F_other_end 0) :=
  have sc := sc_other_end
  fn_ok (u := u_other_end) (G' := []) (k := 0) ["end"] ["end"] 1 1 [some 0] Fo sc (fun cdv A outer s H E hr => (simSs_cons (simS_ret (G' := []) (sim_sub (sim_add (sim_varP (k := 0) (pv 0) rfl) sim_int) (sim_mul sim_int (sim_mod (sim_varP (k := 0) (pv 0) rfl) sim_int)))) simSs_nil)) rfl rfl rfl
abbrev s_behind : Stmt := topS 3
theorem sc_behind : FnScope ["web", "end", "other", "order"] ["web", "end"] (defScope s_behind) := ⟨rfl, rfl, rfl, by decide +kernel, rfl, by decide +kernel, by decide +kernel⟩
theorem ok_behind {P : Program} {w : World} {K : PySem.W.Frag} {mg : Str → Option Value} {base : Heap} {cl : Nat → Addr} {f : Addr} {fd : FuncData} (Fo : Fun K "behind" "behind" s_behind f fd) (bl : Bl mg) {f_other_end : Addr} {fd_other_end : FuncData} (d_other_end : Df P w K mg base cl "other_end" 1 ["end"] 1 F_other_end 0 f_other_end fd_other_end) {f_place_of : Addr} {fd_place_of : FuncData} (d_place_of : Df P w K mg base cl "place_of" 1 ["ties", "end"] 2 F_place_of 0 f_place_of fd_place_of) : FnOk P w K mg base CX0 2 f fd ["web", "end"] (spF K cl 2 F_behind 0) :=
  have sc := sc_behind
  fn_ok (u := u_behind) (G' := []) (k := 1) ["web", "end", "other", "order"] ["web", "end"] 4 2 [some 0, some 0, some 0, some 0] Fo sc (fun cdv A outer s H E hr => (simSs_cons (simS_set (i := 2) (k := 0) sc.nd rfl (Or.inl rfl) (sim_callF d_other_end.ok (hr.mono (by decide)) (by rfl) d_other_end.m d_other_end.kp d_other_end.bi pass0 (fun _ _ h => (show False from h).elim) (simA_cons (sim_varPF (pv 1) rfl) simA_nil)) (by rfl) (.inl rfl)) (simSs_cons (simS_set (i := 3) (k := 0) sc.nd rfl (Or.inl rfl) (sim_ixN (sim_ixN (sim_varPF (pv 0) rfl) sim_int) (sim_R (k := 0) (sim_callF d_place_of.ok (hr.mono (by decide)) (by rfl) d_place_of.m d_place_of.kp d_place_of.bi pass0 (fun _ _ h => (show False from h).elim) (simA_cons (sim_ixN (sim_varPF (pv 0) rfl) sim_int) (simA_cons (sim_varPF (pv 2) rfl) simA_nil))))) (by rfl) (.inl rfl)) (simSs_cons (simS_ret (G' := []) (sim_ixN (sim_varPF (pv 3) rfl) (sim_sub (sim_index (sim_varP (k := 0) (pv 3) rfl) (sim_varP (k := 0) (pv 2) rfl)) sim_int))) simSs_nil)))) rfl rfl rfl
abbrev s_land_from : Stmt := topS 4
theorem sc_land_from : FnScope ["web", "first", "told", "here"] ["web", "first"] (defScope s_land_from) := ⟨rfl, rfl, rfl, by decide +kernel, rfl, by decide +kernel, by decide +kernel⟩
theorem ok_land_from {P : Program} {w : World} {K : PySem.W.Frag} {mg : Str → Option Value} {base : Heap} {cl : Nat → Addr} {f : Addr} {fd : FuncData} (Fo : Fun K "land_from" "land_from" s_land_from f fd) (bl : Bl mg) {f_behind : Addr} {fd_behind : FuncData} (d_behind : Df P w K mg base cl "behind" 2 ["web", "end"] 2 F_behind 0 f_behind fd_behind) : FnOk P w K mg base CX0 3 f fd ["web", "first"] (spF K cl 2 F_land_from 1) :=
  have sc := sc_land_from
  fn_ok (u := u_land_from) (G' := []) (k := 2) ["web", "first", "told", "here"] ["web", "first"] 4 2 [some 0, some 0, some 0, some 0] Fo sc (fun cdv A outer s H E hr => (simSs_cons (simS_set (i := 2) (k := 1) sc.nd rfl (Or.inl rfl) (sim_lst (simA_cons (sim_varPF (pv 1) rfl) simA_nil)) (by rfl) (.inl rfl)) (simSs_G (G2 := [some 0, some 0, some 1, some 0]) (simSs_cons (simS_set (i := 3) (k := 0) sc.nd rfl (Or.inl rfl) (sim_callF d_behind.ok (hr.mono (by decide)) (by rfl) d_behind.m d_behind.kp d_behind.bi pass0 (fun _ _ h => (show False from h).elim) (simA_cons (sim_varPF (pv 0) rfl) (simA_cons (sim_varPF (pv 1) rfl) simA_nil))) (by rfl) (.inl rfl)) (simSs_cons (simS_while fuel PassesOwn.never (simT_ne hr.units (sim_varP (k := 0) (pv 3) rfl) (sim_varP (k := 0) (pv 1) rfl)) (simSs_cons (simS_append (k := 0) (pv 2) rfl (sim_varPF (pv 3) rfl)) (simSs_cons (simS_set (i := 3) (k := 0) sc.nd rfl (Or.inl rfl) (sim_callF d_behind.ok (hr.mono (by decide)) (by rfl) d_behind.m d_behind.kp d_behind.bi pass0 (fun _ _ h => (show False from h).elim) (simA_cons (sim_varPF (pv 0) rfl) (simA_cons (sim_varPF (pv 3) rfl) simA_nil))) (by rfl) (.inl rfl)) simSs_nil))) (simSs_cons (simS_retM (G' := []) (simM_var (pv 2) rfl)) simSs_nil)))))) rfl rfl rfl
abbrev s_lands : Stmt := topS 5
theorem sc_lands : FnScope ["web", "told", "met", "first", "end"] ["web"] (defScope s_lands) := ⟨rfl, rfl, rfl, by decide +kernel, rfl, by decide +kernel, by decide +kernel⟩
theorem ok_lands {P : Program} {w : World} {K : PySem.W.Frag} {mg : Str → Option Value} {base : Heap} {cl : Nat → Addr} {f : Addr} {fd : FuncData} (Fo : Fun K "lands" "lands" s_lands f fd) (bl : Bl mg) {f_land_from : Addr} {fd_land_from : FuncData} (d_land_from : Df P w K mg base cl "land_from" 3 ["web", "first"] 2 F_land_from 1 f_land_from fd_land_from) : FnOk P w K mg base CX0 4 f fd ["web"] (spF K cl 1 F_lands 2) :=
  have sc := sc_lands
  fn_ok (u := u_lands) (G' := []) (k := 3) ["web", "told", "met", "first", "end"] ["web"] 5 1 [some 0, some 0, some 0, some 0, some 0] Fo sc (fun cdv A outer s H E hr => (simSs_cons (simS_set (i := 1) (k := 2) sc.nd rfl (Or.inl rfl) (sim_lst simA_nil) (by rfl) (.inl rfl)) (simSs_G (G2 := [some 0, some 2, some 0, some 0, some 0]) (simSs_cons (simS_set (i := 2) (k := 1) sc.nd rfl (Or.inl rfl) (sim_dnew (k := 0)) (by rfl) (.inl rfl)) (simSs_G (G2 := [some 0, some 2, some 1, some 0, some 0]) (simSs_cons (simS_for rfl PassesOwn.never (simI_rng1 (by rfl) bl.range (simA_cons (sim_mul sim_int (sim_len (by rfl) bl.len (simA_cons (sim_ix (sim_varP (k := 0) (pv 0) rfl) sim_int) simA_nil))) simA_nil)) (simG_name (k := 0) (pg_name (i := 3) sc.nd rfl (Or.inl rfl))) (simSs_G (G2 := [some 0, some 2, some 1, some 0, some 0]) (simSs_cons (simS_if (simT_dnin hr.units (sim_varP (k := 0) (pv 3) rfl) (sim_varP (k := 1) (pv 2) rfl)) (simSs_cons (simS_append (k := 1) (pv 1) rfl (sim_callF d_land_from.ok (hr.mono (by decide)) (by rfl) d_land_from.m d_land_from.kp d_land_from.bi pass0 (fun _ _ h => (show False from h).elim) (simA_cons (sim_varPF (pv 0) rfl) (simA_cons (sim_varPF (pv 3) rfl) simA_nil)))) (simSs_cons (simS_fr (i := 1) (ki := 2) (G1 := [some 0, some 140, some 1, some 0, some 0]) (G2 := [some 0, some 140, some 1, some 0, some 0]) rfl PassesOwn.never (simP_ix (k := 2) (simP_var (k := 2) (pv 1) rfl) (sim_neg sim_int) rfl) (pg_name (i := 4) sc.nd rfl (Or.inl rfl)) rfl (by decide) (fun q => (simSs_cons (simS_dput (k := 0) hr.units (pv 2) rfl (sim_varP (k := 0) (pv 4) rfl) sim_bl) simSs_nil))) simSs_nil)) simSs_nil) simSs_nil))) (simSs_cons (simS_retM (G' := []) (simM_var (pv 1) rfl)) simSs_nil))))))) rfl rfl rfl
abbrev s_lands_by_ends : Stmt := topS 6
theorem sc_lands_by_ends : FnScope ["web", "told", "end", "number", "land"] ["web"] (defScope s_lands_by_ends) := ⟨rfl, rfl, rfl, by decide +kernel, rfl, by decide +kernel, by decide +kernel⟩
theorem ok_lands_by_ends {P : Program} {w : World} {K : PySem.W.Frag} {mg : Str → Option Value} {base : Heap} {cl : Nat → Addr} {f : Addr} {fd : FuncData} (Fo : Fun K "lands_by_ends" "lands_by_ends" s_lands_by_ends f fd) (bl : Bl mg) {f_lands : Addr} {fd_lands : FuncData} (d_lands : Df P w K mg base cl "lands" 4 ["web"] 1 F_lands 2 f_lands fd_lands) : FnOk P w K mg base CX0 5 f fd ["web"] (spF K cl 1 F_lands_by_ends 2) :=
  have sc := sc_lands_by_ends
  fn_ok (u := u_lands_by_ends) (G' := []) (k := 4) ["web", "told", "end", "number", "land"] ["web"] 5 1 [some 0, some 0, some 0, some 0, some 0] Fo sc (fun cdv A outer s H E hr => (simSs_cons (simS_setLc (i := 1) (k := 1) (own := [("end", 2)]) rfl sc.nd rfl rfl (sw_true rfl rfl rfl (by decide +kernel)) (simIR_of (simI_rng1 (by rfl) bl.range (simA_cons (sim_mul sim_int (sim_len (by rfl) bl.len (simA_cons (sim_ix (sim_varP (k := 0) (pv 0) rfl) sim_int) simA_nil))) simA_nil))) (blkOk_by (N := ["web", "told", "end", "number", "land"]) (sc := defScope s_lands_by_ends) (by decide +kernel)) (fun _ _ _ _ _ => (simG_name (k := 0) (pg_name (i := 2) sc.nd rfl (Or.inl rfl)))) (fun _ _ _ _ _ => simPT_nil) (fun _ _ _ _ _ => sim_int)) (simSs_G (G2 := [some 0, some 2, some 0, some 0, some 0]) (simSs_cons (simS_for rfl PassesOwn.never (simI_enum (by rfl) bl.enumerate (simA_cons (sim_F (k := 2) (sim_callF d_lands.ok (hr.mono (by decide)) (by rfl) d_lands.m d_lands.kp d_lands.bi pass0 (fun _ _ h => (show False from h).elim) (simA_cons (sim_varPF (pv 0) rfl) simA_nil))) simA_nil)) (simG_tup rfl (simGs_cons (simG_name (k := 0) (pg_name (i := 3) sc.nd rfl (Or.inl rfl))) (simGs_cons (simG_name (k := 0) (pg_name (i := 4) sc.nd rfl (Or.inl rfl))) simGs_nil))) (simSs_G (G2 := [some 0, some 2, some 0, some 0, some 0]) (simSs_cons (simS_for rfl PassesOwn.never (simI_list (sim_varPF (pv 4) rfl)) (simG_name (k := 0) (pg_name (i := 2) sc.nd rfl (Or.inl rfl))) (simSs_G (G2 := [some 0, some 2, some 0, some 0, some 0]) (simSs_cons (simS_store (k := 1) (pv 1) rfl (sim_varP (k := 0) (pv 2) rfl) (sim_im (sim_varP (k := 0) (pv 3) rfl))) simSs_nil))) simSs_nil))) (simSs_cons (simS_retM (G' := []) (simM_var (pv 1) rfl)) simSs_nil))))) rfl rfl rfl
abbrev s_land_of : Stmt := topS 7
theorem sc_land_of : FnScope ["web", "end"] ["web", "end"] (defScope s_land_of) := ⟨rfl, rfl, rfl, by decide +kernel, rfl, by decide +kernel, by decide +kernel⟩
theorem ok_land_of {P : Program} {w : World} {K : PySem.W.Frag} {mg : Str → Option Value} {base : Heap} {cl : Nat → Addr} {f : Addr} {fd : FuncData} (Fo : Fun K "land_of" "land_of" s_land_of f fd) (bl : Bl mg) {f_lands_by_ends : Addr} {fd_lands_by_ends : FuncData} (d_lands_by_ends : Df P w K mg base cl "lands_by_ends" 5 ["web"] 1 F_lands_by_ends 2 f_lands_by_ends fd_lands_by_ends) : FnOk P w K mg base CX0 6 f fd ["web", "end"] (spF K cl 2 F_land_of 0) :=
  have sc := sc_land_of
  fn_ok (u := u_land_of) (G' := []) (k := 5) ["web", "end"] ["web", "end"] 2 2 [some 0, some 0] Fo sc (fun cdv A outer s H E hr => (simSs_cons (simS_ret (G' := []) (sim_ixN (sim_F (k := 2) (sim_callF d_lands_by_ends.ok (hr.mono (by decide)) (by rfl) d_lands_by_ends.m d_lands_by_ends.kp d_lands_by_ends.bi pass0 (fun _ _ h => (show False from h).elim) (simA_cons (sim_varPF (pv 0) rfl) simA_nil))) (sim_varP (k := 0) (pv 1) rfl))) simSs_nil)) rfl rfl rfl
abbrev s_is_flat : Stmt := topS 8
theorem sc_is_flat : FnScope ["web"] ["web"] (defScope s_is_flat) := ⟨rfl, rfl, rfl, by decide +kernel, rfl, by decide +kernel, by decide +kernel⟩
theorem ok_is_flat {P : Program} {w : World} {K : PySem.W.Frag} {mg : Str → Option Value} {base : Heap} {cl : Nat → Addr} {f : Addr} {fd : FuncData} (Fo : Fun K "is_flat" "is_flat" s_is_flat f fd) (bl : Bl mg) {f_lands : Addr} {fd_lands : FuncData} (d_lands : Df P w K mg base cl "lands" 4 ["web"] 1 F_lands 2 f_lands fd_lands) : FnOk P w K mg base CX0 5 f fd ["web"] (spF K cl 1 F_is_flat 0) :=
  have sc := sc_is_flat
  fn_ok (u := u_is_flat) (G' := []) (k := 4) ["web"] ["web"] 1 1 [some 0] Fo sc (fun cdv A outer s H E hr => (simSs_cons (simS_ret (G' := []) (sim_eq hr.units (sim_add (sim_ix (sim_varP (k := 0) (pv 0) rfl) sim_int) (sim_len (by rfl) bl.len (simA_cons (sim_R (k := 2) (sim_callF d_lands.ok (hr.mono (by decide)) (by rfl) d_lands.m d_lands.kp d_lands.bi pass0 (fun _ _ h => (show False from h).elim) (simA_cons (sim_varPF (pv 0) rfl) simA_nil))) simA_nil))) (sim_add (sim_len (by rfl) bl.len (simA_cons (sim_ix (sim_varP (k := 0) (pv 0) rfl) sim_int) simA_nil)) sim_int))) simSs_nil)) rfl rfl rfl
abbrev s__law_cell_at : Stmt := topS 10
theorem sc__law_cell_at : FnScope ["_law_script", "_law_k"] ["_law_script", "_law_k"] (defScope s__law_cell_at) := ⟨rfl, rfl, rfl, by decide +kernel, rfl, by decide +kernel, by decide +kernel⟩
theorem ok__law_cell_at {P : Program} {w : World} {K : PySem.W.Frag} {mg : Str → Option Value} {base : Heap} {cl : Nat → Addr} {f : Addr} {fd : FuncData} (Fo : Fun K "_law_cell_at" "_law_cell_at" s__law_cell_at f fd) (bl : Bl mg)  : FnOk P w K mg base CX0 1 f fd ["_law_script", "_law_k"] (spF K cl 2 F__law_cell_at 0) :=
  have sc := sc__law_cell_at
  fn_ok (u := u__law_cell_at) (G' := []) (k := 0) ["_law_script", "_law_k"] ["_law_script", "_law_k"] 2 2 [some 0, some 0] Fo sc (fun cdv A outer s H E hr => (simSs_cons (simS_if (simT_lt (sim_varP (k := 0) (pv 1) rfl) (sim_len (by rfl) bl.len (simA_cons (sim_varP (k := 0) (pv 0) rfl) simA_nil))) (simSs_cons (simS_ret (G' := [some 0, some 0]) (sim_ixN (sim_varPF (pv 0) rfl) (sim_varP (k := 0) (pv 1) rfl))) simSs_nil) simSs_nil) (simSs_cons (simS_ret (G' := []) sim_int) simSs_nil))) rfl rfl rfl
abbrev s__law_mix : Stmt := topS 11
theorem sc__law_mix : FnScope ["_law_cell", "_law_k", "_law_turn", "_law_number"] ["_law_cell", "_law_k"] (defScope s__law_mix) := ⟨rfl, rfl, rfl, by decide +kernel, rfl, by decide +kernel, by decide +kernel⟩
theorem ok__law_mix {P : Program} {w : World} {K : PySem.W.Frag} {mg : Str → Option Value} {base : Heap} {cl : Nat → Addr} {f : Addr} {fd : FuncData} (Fo : Fun K "_law_mix" "_law_mix" s__law_mix f fd) (bl : Bl mg)  : FnOk P w K mg base CX0 1 f fd ["_law_cell", "_law_k"] (spF K cl 2 F__law_mix 0) :=
  have sc := sc__law_mix
  fn_ok (u := u__law_mix) (G' := []) (k := 0) ["_law_cell", "_law_k", "_law_turn", "_law_number"] ["_law_cell", "_law_k"] 4 2 [some 0, some 0, some 0, some 0] Fo sc (fun cdv A outer s H E hr => (simSs_cons (simS_if (simT_ge (sim_varP (k := 0) (pv 0) rfl) (sim_pow sim_int sim_int)) (simSs_cons (simS_for rfl PassesOwn.never (simI_rng1 (by rfl) bl.range (simA_cons (sim_varP (k := 0) (pv 1) rfl) simA_nil)) (simG_name (k := 0) (pg_name (i := 2) sc.nd rfl (Or.inl rfl))) (simSs_G (G2 := [some 0, some 0, some 0, some 0]) (simSs_cons (simS_set (i := 0) (k := 0) sc.nd rfl (Or.inl rfl) (sim_fdiv (sim_varP (k := 0) (pv 0) rfl) (sim_pow sim_int sim_int)) (by rfl) (.inl rfl)) simSs_nil))) (simSs_cons (simS_ret (G' := [some 0, some 0, some 0, some 0]) (sim_mod (sim_varP (k := 0) (pv 0) rfl) (sim_pow sim_int sim_int))) simSs_nil)) simSs_nil) (simSs_cons (simS_set (i := 3) (k := 0) sc.nd rfl (Or.inl rfl) (sim_mod (sim_mul (sim_add (sim_add (sim_mod (sim_varP (k := 0) (pv 0) rfl) sim_int) (sim_mul (sim_mul (sim_varP (k := 0) (pv 1) rfl) (sim_varP (k := 0) (pv 1) rfl)) sim_int)) (sim_varP (k := 0) (pv 1) rfl)) sim_int) sim_int) (by rfl) (.inl rfl)) (simSs_cons (simS_set (i := 3) (k := 0) sc.nd rfl (Or.inl rfl) (sim_mod (sim_mul (sim_varP (k := 0) (pv 3) rfl) (sim_varP (k := 0) (pv 3) rfl)) sim_int) (by rfl) (.inl rfl)) (simSs_cons (simS_ret (G' := []) (sim_fdiv (sim_mod (sim_mul (sim_varP (k := 0) (pv 3) rfl) (sim_add (sim_varP (k := 0) (pv 3) rfl) sim_int)) sim_int) sim_int)) simSs_nil))))) rfl rfl rfl
abbrev s__law_digit : Stmt := topS 12
theorem sc__law_digit : FnScope ["_law_number", "_law_by", "_law_k", "_law_turn"] ["_law_number", "_law_by", "_law_k"] (defScope s__law_digit) := ⟨rfl, rfl, rfl, by decide +kernel, rfl, by decide +kernel, by decide +kernel⟩
theorem ok__law_digit {P : Program} {w : World} {K : PySem.W.Frag} {mg : Str → Option Value} {base : Heap} {cl : Nat → Addr} {f : Addr} {fd : FuncData} (Fo : Fun K "_law_digit" "_law_digit" s__law_digit f fd) (bl : Bl mg)  : FnOk P w K mg base CX0 1 f fd ["_law_number", "_law_by", "_law_k"] (spF K cl 3 F__law_digit 0) :=
  have sc := sc__law_digit
  fn_ok (u := u__law_digit) (G' := []) (k := 0) ["_law_number", "_law_by", "_law_k", "_law_turn"] ["_law_number", "_law_by", "_law_k"] 4 3 [some 0, some 0, some 0, some 0] Fo sc (fun cdv A outer s H E hr => (simSs_cons (simS_for rfl PassesOwn.never (simI_rng1 (by rfl) bl.range (simA_cons (sim_varP (k := 0) (pv 2) rfl) simA_nil)) (simG_name (k := 0) (pg_name (i := 3) sc.nd rfl (Or.inl rfl))) (simSs_G (G2 := [some 0, some 0, some 0, some 0]) (simSs_cons (simS_set (i := 0) (k := 0) sc.nd rfl (Or.inl rfl) (sim_fdiv (sim_varP (k := 0) (pv 0) rfl) (sim_varP (k := 0) (pv 1) rfl)) (by rfl) (.inl rfl)) simSs_nil))) (simSs_cons (simS_ret (G' := []) (sim_mod (sim_varP (k := 0) (pv 0) rfl) (sim_varP (k := 0) (pv 1) rfl))) simSs_nil))) rfl rfl rfl
abbrev s__law_other : Stmt := topS 13
theorem sc__law_other : FnScope ["_law_end"] ["_law_end"] (defScope s__law_other) := ⟨rfl, rfl, rfl, by decide +kernel, rfl, by decide +kernel, by decide +kernel⟩
theorem ok__law_other {P : Program} {w : World} {K : PySem.W.Frag} {mg : Str → Option Value} {base : Heap} {cl : Nat → Addr} {f : Addr} {fd : FuncData} (Fo : Fun K "_law_other" "_law_other" s__law_other f fd) (bl : Bl mg)  : FnOk P w K mg base CX0 1 f fd ["_law_end"] (spF K cl 1 F__law_other 0) :=
  have sc := sc__law_other
  fn_ok (u := u__law_other) (G' := []) (k := 0) ["_law_end"] ["_law_end"] 1 1 [some 0] Fo sc (fun cdv A outer s H E hr => (simSs_cons (simS_ret (G' := []) (sim_sub (sim_add (sim_varP (k := 0) (pv 0) rfl) sim_int) (sim_mul sim_int (sim_mod (sim_varP (k := 0) (pv 0) rfl) sim_int)))) simSs_nil)) rfl rfl rfl
abbrev s__law_place : Stmt := topS 14
theorem sc__law_place : FnScope ["_law_ties", "_law_end"] ["_law_ties", "_law_end"] (defScope s__law_place) := ⟨rfl, rfl, rfl, by decide +kernel, rfl, by decide +kernel, by decide +kernel⟩
theorem ok__law_place {P : Program} {w : World} {K : PySem.W.Frag} {mg : Str → Option Value} {base : Heap} {cl : Nat → Addr} {f : Addr} {fd : FuncData} (Fo : Fun K "_law_place" "_law_place" s__law_place f fd) (bl : Bl mg)  : FnOk P w K mg base CX0 1 f fd ["_law_ties", "_law_end"] (spF K cl 2 F__law_place 0) :=
  have sc := sc__law_place
  fn_ok (u := u__law_place) (G' := []) (k := 0) ["_law_ties", "_law_end"] ["_law_ties", "_law_end"] 2 2 [some 0, some 0] Fo sc (fun cdv A outer s H E hr => (simSs_cons (simS_ret (G' := []) (sim_ixN (sim_ixN (sim_varPF (pv 0) rfl) (sim_fdiv (sim_varP (k := 0) (pv 1) rfl) sim_int)) (sim_mod (sim_varP (k := 0) (pv 1) rfl) sim_int))) simSs_nil)) rfl rfl rfl
abbrev s__law_behind : Stmt := topS 15
theorem sc__law_behind : FnScope ["_law_ties", "_law_orders", "_law_end", "_law_order"] ["_law_ties", "_law_orders", "_law_end"] (defScope s__law_behind) := ⟨rfl, rfl, rfl, by decide +kernel, rfl, by decide +kernel, by decide +kernel⟩
theorem ok__law_behind {P : Program} {w : World} {K : PySem.W.Frag} {mg : Str → Option Value} {base : Heap} {cl : Nat → Addr} {f : Addr} {fd : FuncData} (Fo : Fun K "_law_behind" "_law_behind" s__law_behind f fd) (bl : Bl mg) {f__law_other : Addr} {fd__law_other : FuncData} (d__law_other : Df P w K mg base cl "_law_other" 1 ["_law_end"] 1 F__law_other 0 f__law_other fd__law_other) {f__law_place : Addr} {fd__law_place : FuncData} (d__law_place : Df P w K mg base cl "_law_place" 1 ["_law_ties", "_law_end"] 2 F__law_place 0 f__law_place fd__law_place) : FnOk P w K mg base CX0 2 f fd ["_law_ties", "_law_orders", "_law_end"] (spF K cl 3 F__law_behind 0) :=
  have sc := sc__law_behind
  fn_ok (u := u__law_behind) (G' := []) (k := 1) ["_law_ties", "_law_orders", "_law_end", "_law_order"] ["_law_ties", "_law_orders", "_law_end"] 4 3 [some 0, some 0, some 0, some 0] Fo sc (fun cdv A outer s H E hr => (simSs_cons (simS_set (i := 3) (k := 0) sc.nd rfl (Or.inl rfl) (sim_ixN (sim_varPF (pv 1) rfl) (sim_R (k := 0) (sim_callF d__law_place.ok (hr.mono (by decide)) (by rfl) d__law_place.m d__law_place.kp d__law_place.bi pass0 (fun _ _ h => (show False from h).elim) (simA_cons (sim_varPF (pv 0) rfl) (simA_cons (sim_callF d__law_other.ok (hr.mono (by decide)) (by rfl) d__law_other.m d__law_other.kp d__law_other.bi pass0 (fun _ _ h => (show False from h).elim) (simA_cons (sim_varPF (pv 2) rfl) simA_nil)) simA_nil))))) (by rfl) (.inl rfl)) (simSs_cons (simS_ret (G' := []) (sim_ixN (sim_varPF (pv 3) rfl) (sim_sub (sim_index (sim_varP (k := 0) (pv 3) rfl) (sim_R (k := 0) (sim_callF d__law_other.ok (hr.mono (by decide)) (by rfl) d__law_other.m d__law_other.kp d__law_other.bi pass0 (fun _ _ h => (show False from h).elim) (simA_cons (sim_varPF (pv 2) rfl) simA_nil)))) sim_int))) simSs_nil))) rfl rfl rfl
abbrev s__law_lands : Stmt := topS 16
theorem sc__law_lands : FnScope ["_law_ties", "_law_orders", "_law_told", "_law_left", "_law_land", "_law_here", "_law_end"] ["_law_ties", "_law_orders"] (defScope s__law_lands) := ⟨rfl, rfl, rfl, by decide +kernel, rfl, by decide +kernel, by decide +kernel⟩
theorem ok__law_lands {P : Program} {w : World} {K : PySem.W.Frag} {mg : Str → Option Value} {base : Heap} {cl : Nat → Addr} {f : Addr} {fd : FuncData} (Fo : Fun K "_law_lands" "_law_lands" s__law_lands f fd) (bl : Bl mg) {f__law_behind : Addr} {fd__law_behind : FuncData} (d__law_behind : Df P w K mg base cl "_law_behind" 2 ["_law_ties", "_law_orders", "_law_end"] 3 F__law_behind 0 f__law_behind fd__law_behind) : FnOk P w K mg base CX0 3 f fd ["_law_ties", "_law_orders"] (spF K cl 2 F__law_lands 2) :=
  have sc := sc__law_lands
  fn_ok (u := u__law_lands) (G' := []) (k := 2) ["_law_ties", "_law_orders", "_law_told", "_law_left", "_law_land", "_law_here", "_law_end"] ["_law_ties", "_law_orders"] 7 2 [some 0, some 0, some 0, some 0, some 0, some 0, some 0] Fo sc (fun cdv A outer s H E hr => (simSs_cons (simS_set (i := 2) (k := 2) sc.nd rfl (Or.inl rfl) (sim_lst simA_nil) (by rfl) (.inl rfl)) (simSs_G (G2 := [some 0, some 0, some 2, some 0, some 0, some 0, some 0]) (simSs_cons (simS_set (i := 3) (k := 0) sc.nd rfl (Or.inl rfl) (sim_F (k := 1) (sim_listRg1 rfl (by rfl) bl.list (by rfl) bl.range (sim_mul sim_int (sim_len (by rfl) bl.len (simA_cons (sim_varP (k := 0) (pv 0) rfl) simA_nil))))) (by rfl) (.inl rfl)) (simSs_fgt 4 (simSs_G (G2 := [some 0, some 0, some 2, some 0, none, some 0, some 0]) (simSs_cons (simS_while fuel PassesOwn.never (simT_ne hr.units (sim_varP (k := 0) (pv 3) rfl) (sim_R (k := 1) (sim_lst simA_nil))) (simSs_cons (simS_set (i := 4) (k := 1) sc.nd rfl (Or.inr rfl) (sim_lst (simA_cons (sim_ixN (sim_varPF (pv 3) rfl) sim_int) simA_nil)) (by rfl) (.inl rfl)) (simSs_G (G2 := [some 0, some 0, some 2, some 0, some 1, some 0, some 0]) (simSs_cons (simS_set (i := 5) (k := 0) sc.nd rfl (Or.inl rfl) (sim_callF d__law_behind.ok (hr.mono (by decide)) (by rfl) d__law_behind.m d__law_behind.kp d__law_behind.bi pass0 (fun _ _ h => (show False from h).elim) (simA_cons (sim_varPF (pv 0) rfl) (simA_cons (sim_varPF (pv 1) rfl) (simA_cons (sim_ixN (sim_varPF (pv 3) rfl) sim_int) simA_nil)))) (by rfl) (.inl rfl)) (simSs_cons (simS_while fuel PassesOwn.never (simT_ne hr.units (sim_varP (k := 0) (pv 5) rfl) (sim_ix (sim_varP (k := 1) (pv 4) rfl) sim_int)) (simSs_cons (simS_append (k := 0) (pv 4) rfl (sim_varPF (pv 5) rfl)) (simSs_cons (simS_set (i := 5) (k := 0) sc.nd rfl (Or.inl rfl) (sim_callF d__law_behind.ok (hr.mono (by decide)) (by rfl) d__law_behind.m d__law_behind.kp d__law_behind.bi pass0 (fun _ _ h => (show False from h).elim) (simA_cons (sim_varPF (pv 0) rfl) (simA_cons (sim_varPF (pv 1) rfl) (simA_cons (sim_varPF (pv 5) rfl) simA_nil)))) (by rfl) (.inl rfl)) simSs_nil))) (simSs_ap (i := 2) (j := 4) (ki := 1) (kj := 1) (G1 := [some 0, some 0, some 140, some 0, some 140, some 0, some 0]) (G2 := [some 0, some 0, some 140, some 0, some 140, some 0, some 0]) (G3 := [some 0, some 0, some 2, some 0, none, some 0, some 0]) (pv 2) (pv 4) rfl rfl (fun q => (simSs_cons (simS_setLc (i := 3) (k := 0) (own := [("_law_end", 6)]) rfl sc.nd rfl rfl (sw_true rfl rfl rfl (by decide +kernel)) (simIR_of (simI_list (sim_varPF (pv 3) rfl))) (blkOk_by (N := ["_law_ties", "_law_orders", "_law_told", "_law_left", "_law_land", "_law_here", "_law_end"]) (sc := defScope s__law_lands) (by decide +kernel)) (fun _ _ _ _ _ => (simG_name (k := 0) (pg_name (i := 6) sc.nd rfl (Or.inl rfl)))) (fun _ _ _ _ _ => (simPT_one (simT_nin hr.units (sim_varP (k := 0) (pv 6) rfl) (sim_varP (k := 140) (pv 4) rfl)))) (fun _ _ _ _ _ => (sim_varPF (pv 6) rfl))) (simSs_G (G2 := [some 0, some 0, some 140, some 1, some 140, some 0, some 0]) (simSs_frz 3 simSs_nil ⟨1, rfl⟩)))) (by decide) rfl rfl)))))) (simSs_cons (simS_retM (G' := []) (simM_var (pv 2) rfl)) simSs_nil)))))))) rfl rfl rfl
abbrev s__law_step : Stmt := topS 17
theorem sc__law_step : FnScope ["_law_ties", "_law_orders", "_law_pick", "_law_most", "_law_some", "_law_land", "_law_one", "_law_other_here", "_law_a", "_law_b", "_law_end"] ["_law_ties", "_law_orders", "_law_pick", "_law_most"] (defScope s__law_step) := ⟨rfl, rfl, rfl, by decide +kernel, rfl, by decide +kernel, by decide +kernel⟩
theorem ok__law_step {P : Program} {w : World} {K : PySem.W.Frag} {mg : Str → Option Value} {base : Heap} {cl : Nat → Addr} {f : Addr} {fd : FuncData} (Fo : Fun K "_law_step" "_law_step" s__law_step f fd) (bl : Bl mg) {f__law_lands : Addr} {fd__law_lands : FuncData} (d__law_lands : Df P w K mg base cl "_law_lands" 3 ["_law_ties", "_law_orders"] 2 F__law_lands 2 f__law_lands fd__law_lands) {f__law_other : Addr} {fd__law_other : FuncData} (d__law_other : Df P w K mg base cl "_law_other" 1 ["_law_end"] 1 F__law_other 0 f__law_other fd__law_other) {f__law_place : Addr} {fd__law_place : FuncData} (d__law_place : Df P w K mg base cl "_law_place" 1 ["_law_ties", "_law_end"] 2 F__law_place 0 f__law_place fd__law_place) : FnOk P w K mg base CX0 4 f fd ["_law_ties", "_law_orders", "_law_pick", "_law_most"] (spB K cl [true, true, false, false] F__law_step) :=
  have sc := sc__law_step
  fn_okB (kr := 0) (u := u__law_step) (G' := [some 140, some 140, some 0, some 0, some 0, some 0, some 0, some 0, some 0, some 0, some 0]) (k := 3) ["_law_ties", "_law_orders", "_law_pick", "_law_most", "_law_some", "_law_land", "_law_one", "_law_other_here", "_law_a", "_law_b", "_law_end"] ["_law_ties", "_law_orders", "_law_pick", "_law_most"] 11 [true, true, false, false] [some 140, some 140, some 0, some 0, some 0, some 0, some 0, some 0, some 0, some 0, some 0] Fo sc (fun q cdv A outer s H E hr => (simSs_cons (simS_set (i := 4) (k := 0) sc.nd rfl (Or.inl rfl) (sim_F (k := 2) (sim_callR d__law_lands.ok (hr.mono (by decide)) (by rfl) d__law_lands.m d__law_lands.kp d__law_lands.bi pass0 (fun _ _ h => (show False from h).elim) (simA_cons (sim_varP (k := 140) (pv 0) rfl) (simA_cons (sim_varP (k := 140) (pv 1) rfl) simA_nil)))) (by rfl) (.inl rfl)) (simSs_cons (simS_set (i := 5) (k := 0) sc.nd rfl (Or.inl rfl) (sim_ixN (sim_varPF (pv 4) rfl) (sim_mod (sim_varP (k := 0) (pv 2) rfl) (sim_len (by rfl) bl.len (simA_cons (sim_varP (k := 0) (pv 4) rfl) simA_nil)))) (by rfl) (.inl rfl)) (simSs_cons (simS_set (i := 6) (k := 0) sc.nd rfl (Or.inl rfl) (sim_callF d__law_other.ok (hr.mono (by decide)) (by rfl) d__law_other.m d__law_other.kp d__law_other.bi pass0 (fun _ _ h => (show False from h).elim) (simA_cons (sim_ixN (sim_varPF (pv 5) rfl) (sim_mod (sim_fdiv (sim_varP (k := 0) (pv 2) rfl) sim_int) (sim_len (by rfl) bl.len (simA_cons (sim_varP (k := 0) (pv 5) rfl) simA_nil)))) simA_nil)) (by rfl) (.inl rfl)) (simSs_cons (simS_set (i := 7) (k := 0) sc.nd rfl (Or.inl rfl) (sim_callF d__law_other.ok (hr.mono (by decide)) (by rfl) d__law_other.m d__law_other.kp d__law_other.bi pass0 (fun _ _ h => (show False from h).elim) (simA_cons (sim_ixN (sim_varPF (pv 5) rfl) (sim_mod (sim_fdiv (sim_varP (k := 0) (pv 2) rfl) sim_int) (sim_len (by rfl) bl.len (simA_cons (sim_varP (k := 0) (pv 5) rfl) simA_nil)))) simA_nil)) (by rfl) (.inl rfl)) (simSs_cons (simS_set (i := 8) (k := 0) sc.nd rfl (Or.inl rfl) (sim_callR d__law_place.ok (hr.mono (by decide)) (by rfl) d__law_place.m d__law_place.kp d__law_place.bi pass0 (fun _ _ h => (show False from h).elim) (simA_cons (sim_varP (k := 140) (pv 0) rfl) (simA_cons (sim_varP (k := 0) (pv 6) rfl) simA_nil))) (by rfl) (.inl rfl)) (simSs_cons (simS_set (i := 9) (k := 0) sc.nd rfl (Or.inl rfl) (sim_callR d__law_place.ok (hr.mono (by decide)) (by rfl) d__law_place.m d__law_place.kp d__law_place.bi pass0 (fun _ _ h => (show False from h).elim) (simA_cons (sim_varP (k := 140) (pv 0) rfl) (simA_cons (sim_varP (k := 0) (pv 7) rfl) simA_nil))) (by rfl) (.inl rfl)) (simSs_cons (simS_set (i := 10) (k := 0) sc.nd rfl (Or.inl rfl) (sim_mul sim_int (sim_len (by rfl) bl.len (simA_cons (sim_varP (k := 140) (pv 0) rfl) simA_nil))) (by rfl) (.inl rfl)) (simSs_cons (simS_if (simT_W (simW_and (simT_eq hr.units (sim_mod (sim_fdiv (sim_varP (k := 0) (pv 2) rfl) sim_int) sim_int) sim_int) (simW_and (simT_lt (sim_len (by rfl) bl.len (simA_cons (sim_varP (k := 140) (pv 1) rfl) simA_nil)) (sim_varP (k := 0) (pv 3) rfl)) (simW_and1 (simT_lt (sim_len (by rfl) bl.len (simA_cons (sim_ix (sim_varP (k := 140) (pv 1) rfl) (sim_varP (k := 0) (pv 8) rfl)) simA_nil)) sim_int))))) (simSs_cons (simS_meth (i := 1) (k := 140) (k1 := 138) PySem.F.plainAttrs_list PySem.F.slot_list_insert PySem.F.type_list_insert mt_insert m_insert (simP_ix (k := 140) (simP_var (k := 140) (pv 1) rfl) (sim_varP (k := 0) (pv 8) rfl) rfl) rfl (simA_cons (sim_index (sim_ix (sim_varP (k := 140) (pv 1) rfl) (sim_varP (k := 0) (pv 8) rfl)) (sim_varP (k := 0) (pv 6) rfl)) (simA_cons (sim_im (sim_varP (k := 0) (pv 10) rfl)) simA_nil))) (simSs_cons (simS_append (k := 139) (pv 0) rfl (sim_tup (simA_cons (sim_im (sim_varP (k := 0) (pv 8) rfl)) (simA_cons (sim_len (by rfl) bl.len (simA_cons (sim_varP (k := 140) (pv 1) rfl) simA_nil)) simA_nil)))) (simSs_cons (simS_append (k := 139) (pv 1) rfl (sim_lst (simA_cons (sim_add (sim_varP (k := 0) (pv 10) rfl) sim_int) simA_nil))) simSs_nil))) (simSs_cons (simS_if (simT_W (simW_and (simT_lt (sim_len (by rfl) bl.len (simA_cons (sim_ix (sim_varP (k := 140) (pv 1) rfl) (sim_varP (k := 0) (pv 8) rfl)) simA_nil)) (sim_sub sim_int (sim_intc (by rfl) bl.int (simA_cons (sim_eq hr.units (sim_varP (k := 0) (pv 8) rfl) (sim_varP (k := 0) (pv 9) rfl)) simA_nil)))) (simW_and1 (simT_lt (sim_len (by rfl) bl.len (simA_cons (sim_ix (sim_varP (k := 140) (pv 1) rfl) (sim_varP (k := 0) (pv 9) rfl)) simA_nil)) (sim_sub sim_int (sim_intc (by rfl) bl.int (simA_cons (sim_eq hr.units (sim_varP (k := 0) (pv 8) rfl) (sim_varP (k := 0) (pv 9) rfl)) simA_nil))))))) (simSs_cons (simS_meth (i := 1) (k := 140) (k1 := 138) PySem.F.plainAttrs_list PySem.F.slot_list_insert PySem.F.type_list_insert mt_insert m_insert (simP_ix (k := 140) (simP_var (k := 140) (pv 1) rfl) (sim_varP (k := 0) (pv 8) rfl) rfl) rfl (simA_cons (sim_index (sim_ix (sim_varP (k := 140) (pv 1) rfl) (sim_varP (k := 0) (pv 8) rfl)) (sim_varP (k := 0) (pv 6) rfl)) (simA_cons (sim_im (sim_varP (k := 0) (pv 10) rfl)) simA_nil))) (simSs_cons (simS_meth (i := 1) (k := 140) (k1 := 138) PySem.F.plainAttrs_list PySem.F.slot_list_insert PySem.F.type_list_insert mt_insert m_insert (simP_ix (k := 140) (simP_var (k := 140) (pv 1) rfl) (sim_varP (k := 0) (pv 9) rfl) rfl) rfl (simA_cons (sim_index (sim_ix (sim_varP (k := 140) (pv 1) rfl) (sim_varP (k := 0) (pv 9) rfl)) (sim_varP (k := 0) (pv 7) rfl)) (simA_cons (sim_add (sim_varP (k := 0) (pv 10) rfl) sim_int) simA_nil))) (simSs_cons (simS_append (k := 139) (pv 0) rfl (sim_tup (simA_cons (sim_im (sim_varP (k := 0) (pv 8) rfl)) (simA_cons (sim_im (sim_varP (k := 0) (pv 9) rfl)) simA_nil)))) simSs_nil))) simSs_nil) simSs_nil)) simSs_nil))))))))) rfl rfl rfl rfl
abbrev s__law_holds : Stmt := topS 18
theorem sc__law_holds : FnScope ["_law_web", "_law_many", "_law_found", "_law_ends", "_law_land", "_law_number", "_law_k", "_law_end", "_law_order"] ["_law_web", "_law_many"] (defScope s__law_holds) := ⟨rfl, rfl, rfl, by decide +kernel, rfl, by decide +kernel, by decide +kernel⟩
theorem ok__law_holds {P : Program} {w : World} {K : PySem.W.Frag} {mg : Str → Option Value} {base : Heap} {cl : Nat → Addr} {f : Addr} {fd : FuncData} (Fo : Fun K "_law_holds" "_law_holds" s__law_holds f fd) (bl : Bl mg) {f__law_other : Addr} {fd__law_other : FuncData} (d__law_other : Df P w K mg base cl "_law_other" 1 ["_law_end"] 1 F__law_other 0 f__law_other fd__law_other) {f_behind : Addr} {fd_behind : FuncData} (d_behind : Df P w K mg base cl "behind" 2 ["web", "end"] 2 F_behind 0 f_behind fd_behind) {f_is_flat : Addr} {fd_is_flat : FuncData} (d_is_flat : Df P w K mg base cl "is_flat" 5 ["web"] 1 F_is_flat 0 f_is_flat fd_is_flat) {f_land_of : Addr} {fd_land_of : FuncData} (d_land_of : Df P w K mg base cl "land_of" 6 ["web", "end"] 2 F_land_of 0 f_land_of fd_land_of) {f_lands : Addr} {fd_lands : FuncData} (d_lands : Df P w K mg base cl "lands" 4 ["web"] 1 F_lands 2 f_lands fd_lands) : FnOk P w K mg base CX0 7 f fd ["_law_web", "_law_many"] (spF K cl 2 F__law_holds 0) :=
  have sc := sc__law_holds
  fn_ok (u := u__law_holds) (G' := []) (k := 6) ["_law_web", "_law_many", "_law_found", "_law_ends", "_law_land", "_law_number", "_law_k", "_law_end", "_law_order"] ["_law_web", "_law_many"] 9 2 [some 0, some 0, some 0, some 0, some 0, some 0, some 0, some 0, some 0] Fo sc (fun cdv A outer s H E hr => (simSs_cons (simS_set (i := 2) (k := 0) sc.nd rfl (Or.inl rfl) (sim_F (k := 2) (sim_callF d_lands.ok (hr.mono (by decide)) (by rfl) d_lands.m d_lands.kp d_lands.bi pass0 (fun _ _ h => (show False from h).elim) (simA_cons (sim_varPF (pv 0) rfl) simA_nil))) (by rfl) (.inl rfl)) (simSs_cons (simS_if (simT_W (simW_or (simT_ne hr.units (sim_len (by rfl) bl.len (simA_cons (sim_varP (k := 0) (pv 2) rfl) simA_nil)) (sim_varP (k := 0) (pv 1) rfl)) (simW_or1 (simT_nisb (sim_R (k := 0) (sim_callF d_is_flat.ok (hr.mono (by decide)) (by rfl) d_is_flat.m d_is_flat.kp d_is_flat.bi pass0 (fun _ _ h => (show False from h).elim) (simA_cons (sim_varPF (pv 0) rfl) simA_nil))) sim_bl)))) (simSs_cons (simS_ret (G' := [some 0, some 0, some 0, some 0, some 0, some 0, some 0, some 0, some 0]) sim_bl) simSs_nil) simSs_nil) (simSs_cons (simS_set (i := 3) (k := 0) sc.nd rfl (Or.inl rfl) (sim_F (k := 1) (sim_lst simA_nil)) (by rfl) (.inl rfl)) (simSs_cons (simS_for rfl PassesOwn.never (simI_list (sim_varPF (pv 2) rfl)) (simG_name (k := 0) (pg_name (i := 4) sc.nd rfl (Or.inl rfl))) (simSs_G (G2 := [some 0, some 0, some 0, some 0, some 0, some 0, some 0, some 0, some 0]) (simSs_cons (simS_set (i := 3) (k := 0) sc.nd rfl (Or.inl rfl) (sim_F (k := 1) (sim_cat (sim_varPF (pv 3) rfl) (sim_varPF (pv 4) rfl))) (by rfl) (.inl rfl)) simSs_nil))) (simSs_cons (simS_if (simT_ne hr.units (sim_R (k := 1) (sim_sorted (by rfl) bl.sorted (simA_cons (sim_varP (k := 0) (pv 3) rfl) simA_nil))) (sim_R (k := 1) (sim_listRg1 rfl (by rfl) bl.list (by rfl) bl.range (sim_mul sim_int (sim_len (by rfl) bl.len (simA_cons (sim_ix (sim_varP (k := 0) (pv 0) rfl) sim_int) simA_nil)))))) (simSs_cons (simS_ret (G' := [some 0, some 0, some 0, some 0, some 0, some 0, some 0, some 0, some 0]) sim_bl) simSs_nil) simSs_nil) (simSs_cons (simS_for rfl PassesOwn.never (simI_enum (by rfl) bl.enumerate (simA_cons (sim_varPF (pv 2) rfl) simA_nil)) (simG_tup rfl (simGs_cons (simG_name (k := 0) (pg_name (i := 5) sc.nd rfl (Or.inl rfl))) (simGs_cons (simG_name (k := 0) (pg_name (i := 4) sc.nd rfl (Or.inl rfl))) simGs_nil))) (simSs_G (G2 := [some 0, some 0, some 0, some 0, some 0, some 0, some 0, some 0, some 0]) (simSs_cons (simS_for rfl PassesOwn.never (simI_enum (by rfl) bl.enumerate (simA_cons (sim_varPF (pv 4) rfl) simA_nil)) (simG_tup rfl (simGs_cons (simG_name (k := 0) (pg_name (i := 6) sc.nd rfl (Or.inl rfl))) (simGs_cons (simG_name (k := 0) (pg_name (i := 7) sc.nd rfl (Or.inl rfl))) simGs_nil))) (simSs_G (G2 := [some 0, some 0, some 0, some 0, some 0, some 0, some 0, some 0, some 0]) (simSs_cons (simS_if (simT_W (simW_or (simT_ne hr.units (sim_R (k := 0) (sim_callF d_behind.ok (hr.mono (by decide)) (by rfl) d_behind.m d_behind.kp d_behind.bi pass0 (fun _ _ h => (show False from h).elim) (simA_cons (sim_varPF (pv 0) rfl) (simA_cons (sim_varPF (pv 7) rfl) simA_nil)))) (sim_ix (sim_varP (k := 0) (pv 4) rfl) (sim_mod (sim_add (sim_varP (k := 0) (pv 6) rfl) sim_int) (sim_len (by rfl) bl.len (simA_cons (sim_varP (k := 0) (pv 4) rfl) simA_nil))))) (simW_or1 (simT_ne hr.units (sim_R (k := 0) (sim_callF d_land_of.ok (hr.mono (by decide)) (by rfl) d_land_of.m d_land_of.kp d_land_of.bi pass0 (fun _ _ h => (show False from h).elim) (simA_cons (sim_varPF (pv 0) rfl) (simA_cons (sim_varPF (pv 7) rfl) simA_nil)))) (sim_varP (k := 0) (pv 5) rfl))))) (simSs_cons (simS_ret (G' := [some 0, some 0, some 0, some 0, some 0, some 0, some 0, some 0, some 0]) sim_bl) simSs_nil) simSs_nil) simSs_nil))) simSs_nil))) (simSs_cons (simS_for rfl PassesOwn.never (simI_list (sim_ixN (sim_varPF (pv 0) rfl) sim_int)) (simG_name (k := 0) (pg_name (i := 8) sc.nd rfl (Or.inl rfl))) (simSs_G (G2 := [some 0, some 0, some 0, some 0, some 0, some 0, some 0, some 0, some 0]) (simSs_cons (simS_if (simT_W (simW_and (simT_eq hr.units (sim_len (by rfl) bl.len (simA_cons (sim_varP (k := 0) (pv 8) rfl) simA_nil)) sim_int) (simW_and1 (simT_ne hr.units (sim_R (k := 0) (sim_callF d_land_of.ok (hr.mono (by decide)) (by rfl) d_land_of.m d_land_of.kp d_land_of.bi pass0 (fun _ _ h => (show False from h).elim) (simA_cons (sim_varPF (pv 0) rfl) (simA_cons (sim_ixN (sim_varPF (pv 8) rfl) sim_int) simA_nil)))) (sim_R (k := 0) (sim_callF d_land_of.ok (hr.mono (by decide)) (by rfl) d_land_of.m d_land_of.kp d_land_of.bi pass0 (fun _ _ h => (show False from h).elim) (simA_cons (sim_varPF (pv 0) rfl) (simA_cons (sim_callF d__law_other.ok (hr.mono (by decide)) (by rfl) d__law_other.m d__law_other.kp d__law_other.bi pass0 (fun _ _ h => (show False from h).elim) (simA_cons (sim_ixN (sim_varPF (pv 8) rfl) sim_int) simA_nil)) simA_nil)))))))) (simSs_cons (simS_ret (G' := [some 0, some 0, some 0, some 0, some 0, some 0, some 0, some 0, some 0]) sim_bl) simSs_nil) simSs_nil) simSs_nil))) (simSs_cons (simS_ret (G' := []) sim_bl) simSs_nil))))))))) rfl rfl rfl
abbrev s_law : Stmt := topS 19
theorem sc_law : FnScope ["_law_script", "_law_cell", "_law_ties", "_law_orders", "_law_many", "_law_k", "_law_order", "_law_places", "_law_before"] ["_law_script"] (defScope s_law) := ⟨rfl, rfl, rfl, by decide +kernel, rfl, by decide +kernel, by decide +kernel⟩
theorem ok_law {P : Program} {w : World} {K : PySem.W.Frag} {mg : Str → Option Value} {base : Heap} {cl : Nat → Addr} {f : Addr} {fd : FuncData} (Fo : Fun K "law" "law" s_law f fd) (bl : Bl mg) {f__law_cell_at : Addr} {fd__law_cell_at : FuncData} (d__law_cell_at : Df P w K mg base cl "_law_cell_at" 1 ["_law_script", "_law_k"] 2 F__law_cell_at 0 f__law_cell_at fd__law_cell_at) {f__law_holds : Addr} {fd__law_holds : FuncData} (d__law_holds : Df P w K mg base cl "_law_holds" 7 ["_law_web", "_law_many"] 2 F__law_holds 0 f__law_holds fd__law_holds) {f__law_mix : Addr} {fd__law_mix : FuncData} (d__law_mix : Df P w K mg base cl "_law_mix" 1 ["_law_cell", "_law_k"] 2 F__law_mix 0 f__law_mix fd__law_mix) {f__law_step : Addr} {fd__law_step : FuncData} (d__law_step : DfB P w K mg base cl "_law_step" 4 ["_law_ties", "_law_orders", "_law_pick", "_law_most"] [true, true, false, false] F__law_step f__law_step fd__law_step) : FnOk P w K mg base CX0 8 f fd ["_law_script"] (spF K cl 1 F_law 0) :=
  have sc := sc_law
  fn_ok (u := u_law) (G' := []) (k := 7) ["_law_script", "_law_cell", "_law_ties", "_law_orders", "_law_many", "_law_k", "_law_order", "_law_places", "_law_before"] ["_law_script"] 9 1 [some 0, some 0, some 0, some 0, some 0, some 0, some 0, some 0, some 0] Fo sc (fun cdv A outer s H E hr => (simSs_cons (simS_set (i := 1) (k := 0) sc.nd rfl (Or.inl rfl) (sim_callF d__law_cell_at.ok (hr.mono (by decide)) (by rfl) d__law_cell_at.m d__law_cell_at.kp d__law_cell_at.bi pass0 (fun _ _ h => (show False from h).elim) (simA_cons (sim_varPF (pv 0) rfl) (simA_cons sim_int simA_nil))) (by rfl) (.inl rfl)) (simSs_cons (simS_set (i := 2) (k := 1) sc.nd rfl (Or.inl rfl) (sim_lst (simA_cons (sim_tup (simA_cons sim_int (simA_cons sim_int simA_nil))) simA_nil)) (by rfl) (.inl rfl)) (simSs_G (G2 := [some 0, some 0, some 1, some 0, some 0, some 0, some 0, some 0, some 0]) (simSs_cons (simS_set (i := 3) (k := 2) sc.nd rfl (Or.inl rfl) (sim_lst (simA_cons (sim_lst (simA_cons sim_int simA_nil)) (simA_cons (sim_lst (simA_cons sim_int simA_nil)) simA_nil))) (by rfl) (.inl rfl)) (simSs_G (G2 := [some 0, some 0, some 1, some 2, some 0, some 0, some 0, some 0, some 0]) (simSs_cons (simS_if (simT_eq hr.units (sim_mod (sim_R (k := 0) (sim_callF d__law_mix.ok (hr.mono (by decide)) (by rfl) d__law_mix.m d__law_mix.kp d__law_mix.bi pass0 (fun _ _ h => (show False from h).elim) (simA_cons (sim_varPF (pv 1) rfl) (simA_cons sim_int simA_nil)))) sim_int) sim_int) (simSs_cons (simS_set (i := 2) (k := 1) sc.nd rfl (Or.inl rfl) (sim_lst (simA_cons (sim_tup (simA_cons sim_int (simA_cons sim_int simA_nil))) simA_nil)) (by rfl) (.inl rfl)) (simSs_cons (simS_set (i := 3) (k := 2) sc.nd rfl (Or.inl rfl) (sim_lst (simA_cons (sim_lst (simA_cons sim_int (simA_cons sim_int simA_nil))) simA_nil)) (by rfl) (.inl rfl)) simSs_nil)) simSs_nil) (simSs_cons (simS_set (i := 4) (k := 0) sc.nd rfl (Or.inl rfl) (sim_add sim_int (sim_intc (by rfl) bl.int (simA_cons (sim_eq hr.units (sim_len (by rfl) bl.len (simA_cons (sim_varP (k := 2) (pv 3) rfl) simA_nil)) sim_int) simA_nil))) (by rfl) (.inl rfl)) (simSs_cons (simS_for rfl PassesOwn.never (simI_rng1 (by rfl) bl.range (simA_cons (sim_mod (sim_R (k := 0) (sim_callF d__law_mix.ok (hr.mono (by decide)) (by rfl) d__law_mix.m d__law_mix.kp d__law_mix.bi pass0 (fun _ _ h => (show False from h).elim) (simA_cons (sim_varPF (pv 1) rfl) (simA_cons sim_int simA_nil)))) sim_int) simA_nil)) (simG_name (k := 0) (pg_name (i := 5) sc.nd rfl (Or.inl rfl))) (simSs_G (G2 := [some 0, some 0, some 1, some 2, some 0, some 0, some 0, some 0, some 0]) (simSs_cons (simS_if (simT_not (simT_val (sim_R (k := 0) (sim_callF d__law_holds.ok (hr.mono (by decide)) (by rfl) d__law_holds.m d__law_holds.kp d__law_holds.bi pass0 (fun _ _ h => (show False from h).elim) (simA_cons (sim_tup (simA_cons (sim_len (by rfl) bl.len (simA_cons (sim_varP (k := 2) (pv 3) rfl) simA_nil)) (simA_cons (sim_F (k := 1) (sim_listR (by rfl) bl.list (simA_cons (sim_varP (k := 1) (pv 2) rfl) simA_nil))) (simA_cons (sim_F (k := 2) (sim_tmp (i := 3) (k := 2) (ki := 2) (G2 := [some 0, some 0, some 1, some 0, some 0, some 0, some 0, some 0, some 0]) (sim_lc (own := [("_law_order", 6)]) rfl sc.nd (simI_list (sim_varPF (pv 3) rfl)) (blkOk_by (N := ["_law_script", "_law_cell", "_law_ties", "_law_orders", "_law_many", "_law_k", "_law_order", "_law_places", "_law_before"]) (sc := defScope s_law) (by decide +kernel)) (fun _ _ _ _ _ => (simG_name (k := 0) (pg_name (i := 6) sc.nd rfl (Or.inl rfl)))) (fun _ _ _ _ _ => simPT_nil) (fun _ _ _ _ _ => (sim_list (by rfl) bl.list (simA_cons (sim_varPF (pv 6) rfl) simA_nil)))))) simA_nil)))) (simA_cons (sim_varPF (pv 4) rfl) simA_nil)))))) (simSs_cons (simS_ret (G' := [some 0, some 0, some 1, some 2, some 0, some 0, some 0, some 0, some 0]) sim_bl) simSs_nil) simSs_nil) (simSs_cons (simS_set (i := 7) (k := 0) sc.nd rfl (Or.inl rfl) (sim_len (by rfl) bl.len (simA_cons (sim_varP (k := 2) (pv 3) rfl) simA_nil)) (by rfl) (.inl rfl)) (simSs_cons (simS_set (i := 8) (k := 0) sc.nd rfl (Or.inl rfl) (sim_len (by rfl) bl.len (simA_cons (sim_varP (k := 1) (pv 2) rfl) simA_nil)) (by rfl) (.inl rfl)) (simSs_cons (simS_callB (js := [some (2, 1), some (3, 2), none, none]) d__law_step.ok (hr.mono (by decide)) (by rfl) d__law_step.m d__law_step.kp d__law_step.bi pass0 (fun _ _ h => (show False from h).elim) (simAB_b (pv 2) rfl (simAB_b (pv 3) rfl (simAB_z (sim_callF d__law_mix.ok (hr.mono (by decide)) (by rfl) d__law_mix.m d__law_mix.kp d__law_mix.bi pass0 (fun _ _ h => (show False from h).elim) (simA_cons (sim_callF d__law_cell_at.ok (hr.mono (by decide)) (by rfl) d__law_cell_at.m d__law_cell_at.kp d__law_cell_at.bi pass0 (fun _ _ h => (show False from h).elim) (simA_cons (sim_varPF (pv 0) rfl) (simA_cons (sim_add sim_int (sim_mod (sim_varP (k := 0) (pv 5) rfl) sim_int)) simA_nil))) (simA_cons (sim_varPF (pv 5) rfl) simA_nil))) (simAB_z sim_int simAB_nil))))) (simSs_cons (simS_set (i := 4) (k := 0) sc.nd rfl (Or.inl rfl) (sim_add (sim_varP (k := 0) (pv 4) rfl) (sim_mul (sim_sub (sim_len (by rfl) bl.len (simA_cons (sim_varP (k := 1) (pv 2) rfl) simA_nil)) (sim_varP (k := 0) (pv 8) rfl)) (sim_intc (by rfl) bl.int (simA_cons (sim_eq hr.units (sim_len (by rfl) bl.len (simA_cons (sim_varP (k := 2) (pv 3) rfl) simA_nil)) (sim_varP (k := 0) (pv 7) rfl)) simA_nil)))) (by rfl) (.inl rfl)) simSs_nil))))))) (simSs_frz 3 (simSs_G (G2 := [some 0, some 0, some 1, some 0, some 0, some 0, some 0, some 0, some 0]) (simSs_frz 2 (simSs_G (G2 := [some 0, some 0, some 0, some 0, some 0, some 0, some 0, some 0, some 0]) (simSs_cons (simS_ret (G' := []) (sim_callF d__law_holds.ok (hr.mono (by decide)) (by rfl) d__law_holds.m d__law_holds.kp d__law_holds.bi pass0 (fun _ _ h => (show False from h).elim) (simA_cons (sim_tup (simA_cons (sim_len (by rfl) bl.len (simA_cons (sim_varP (k := 0) (pv 3) rfl) simA_nil)) (simA_cons (sim_varPF (pv 2) rfl) (simA_cons (sim_varPF (pv 3) rfl) simA_nil)))) (simA_cons (sim_varPF (pv 4) rfl) simA_nil)))) simSs_nil)) ⟨1, rfl⟩)) ⟨2, rfl⟩)))))))))) rfl rfl rfl
end Lw

set_option Elab.async false
set_option linter.all false
set_option maxRecDepth 100000
namespace Lw
open PySem L2 Pv Lib
theorem immA_ties (ts : Ties) : immA (ts.map tieD) = true := by
  induction ts with
  | nil => rfl
  | cons a ts ih => rw [List.map_cons, immA, ih]; rfl
theorem isflat_eq {ts : Ties} {os : Orders} (hok : MapOk ts os) (n : Nat) : F_is_flat [webD n ts os] = .ok (.bl ((n : Int) + ((lns ts os).length : Int) == (ts.length : Int) + 2)) := by
  refine fn_of_wp ?_
  rw [show ini 1 [webD n ts os] = [some (webD n ts os)] from rfl]
  refine wp_seq (wp_ret ?_ rfl)
  simp only [b2_ap, aF_ap, consF_ap, nilF_ap, cF_ap, vF_0, Rz.bind_ok, cO_ap1, lands_eq hok, webD_0, webD_1, len_rows, len_ties, i2_int, addI_ap, eqD_int]
theorem run_get {f : Nat → Nat} {x : Nat} : ∀ {n y : Nat}, hits f x n y → (∀ i, i < (Lib.run f x n y).length → (Lib.run f x n y).getD i 0 = it f i y) ∧ it f (Lib.run f x n y).length y = x
  | 0, y, ⟨k, hk, e⟩ => by
    have : k = 0 := by omega
    subst this
    exact ⟨fun i hi => absurd hi (Nat.not_lt_zero i), e⟩
  | n + 1, y, hh => by
    by_cases hy : y = x
    · have : Lib.run f x (n + 1) y = [] := by unfold Lib.run; rw [if_pos hy]
      rw [this]
      exact ⟨fun i hi => absurd hi (Nat.not_lt_zero i), hy⟩
    · obtain ⟨k, hk, e⟩ := hh
      cases k with
      | zero => exact absurd e hy
      | succ k =>
        have hn : hits f x n (f y) := ⟨k, by omega, e⟩
        obtain ⟨h1, h2⟩ := run_get hn
        have e2 : Lib.run f x (n + 1) y = y :: Lib.run f x n (f y) := by
          show (if y = x then [] else y :: Lib.run f x n (f y)) = _
          rw [if_neg hy]
        rw [e2]
        refine ⟨fun i hi => ?_, h2⟩
        cases i with
        | zero => rfl
        | succ i => exact h1 i (by simpa using hi)
theorem land_get {f : Nat → Nat} {N x : Nat} (h : Inj f N) (hx : x < N) : (∀ i, i < (land f N x).length → (land f N x).getD i 0 = it f i x) ∧ it f (land f N x).length x = x := by
  obtain ⟨h1, h2⟩ := run_get (h.hits hx)
  refine ⟨fun i hi => ?_, h2⟩
  cases i with
  | zero => rfl
  | succ i => exact h1 i (by simpa [land] using hi)
theorem row_next {ts : Ties} {os : Orders} (h : MapOk ts os) {r : List Nat} (hr : r ∈ lns ts os) {k : Nat} (hk : k < r.length) : r.getD ((k + 1) % r.length) 0 = beh ts os (r.getD k 0) := by
  obtain ⟨x, hx, rfl⟩ := (h.inj.ups (Nat.le_refl _)).1 r hr
  obtain ⟨h1, h2⟩ := land_get h.inj hx
  rw [h1 k hk, ← it_succ (beh ts os)]
  by_cases e : k + 1 = (land (beh ts os) (2 * ts.length) x).length
  · rw [e, Nat.mod_self, h2]; rfl
  · rw [Nat.mod_eq_of_lt (by omega), h1 _ (by omega)]
theorem row_nodup {ts : Ties} {os : Orders} (h : MapOk ts os) {r : List Nat} (hr : r ∈ lns ts os) : r.Nodup := by
  obtain ⟨x, hx, rfl⟩ := (h.inj.ups (Nat.le_refl _)).1 r hr
  obtain ⟨h1, h2⟩ := land_get h.inj hx
  -- the first time that x is come to again
  have fst : ∀ i, 1 ≤ i → i < (land (beh ts os) (2 * ts.length) x).length → it (beh ts os) i x ≠ x := fun i hi hil => by
    have key : ∀ n y, x ∉ Lib.run (beh ts os) x n y := by
      intro n
      induction n with
      | zero => exact fun y z => nomatch z
      | succ n ih =>
        intro y z
        unfold Lib.run at z
        split at z
        · exact nomatch z
        · rename_i hne
          rcases List.mem_cons.mp z with e | z
          · exact hne e.symm
          · exact ih _ z
    intro e
    have hm : (land (beh ts os) (2 * ts.length) x).getD i 0 ∈ Lib.run (beh ts os) x (2 * ts.length) (beh ts os x) := by
      obtain ⟨j, rfl⟩ : ∃ j, i = j + 1 := ⟨i - 1, by omega⟩
      show (Lib.run (beh ts os) x (2 * ts.length) (beh ts os x)).getD j 0 ∈ _
      exact getD_memN (by simpa [land] using hil)
    rw [h1 i hil, e] at hm
    exact key _ _ hm
  refine List.pairwise_iff_getElem.mpr fun i j hi hj hij e => ?_
  have e1 := h1 i hi
  have e2 := h1 j hj
  rw [List.getD_eq_getElem?_getD, List.getElem?_eq_getElem hi] at e1
  rw [List.getD_eq_getElem?_getD, List.getElem?_eq_getElem hj] at e2
  have e3 : it (beh ts os) i x = it (beh ts os) j x := e1.symm.trans (e.trans e2)
  rw [show j = (j - i) + i by omega, it_add] at e3
  have := h.inj.peel hx (h.inj.it_lt hx (j - i)) i e3
  exact fst (j - i) (by omega) (by omega) this.symm
theorem flat_perm {ts : Ties} {os : Orders} (h : MapOk ts os) : (lns ts os).flatten.Perm (List.range (2 * ts.length)) := by
  have o := h.orb
  have nd : (lns ts os).flatten.Nodup := by
    refine List.pairwise_flatten.mpr ⟨fun r hr => row_nodup h hr, o.dis.imp fun {a b} hab x hx y hy e => ?_⟩
    exact hab x hx (e ▸ hy)
  refine (List.perm_ext_iff_of_nodup nd List.nodup_range).mpr fun e => ?_
  rw [List.mem_range]
  exact ⟨fun he => by obtain ⟨r, hr, her⟩ := List.mem_flatten.mp he; exact o.lt r hr e her, fun he => List.mem_flatten.mpr (o.all e he)⟩
theorem lrg_eq (n : Nat) (hn : n ≤ 100000) : lrgO [.int (n : Int)] = .ok (natsD (List.range n)) := by
  unfold lrgO
  simp only []
  rw [if_pos ⟨by omega, by omega⟩, upto_nat]; rfl
theorem srt_nats {l : List Nat} {n : Nat} (h : l.Perm (List.range n)) : sortedO [natsD l] = .ok (natsD (List.range n)) := by
  rw [natsD_ints, natsD_ints]
  unfold sortedO
  simp only [ints1_map]
  have := srtI_uni (ns := l.map fun (e : Nat) => (e : Int)) (ns' := (List.range n).map fun (e : Nat) => (e : Int)) (h.symm.map _) (List.pairwise_map.mpr (List.pairwise_lt_range.imp fun h => by omega))
  rw [← this]
theorem one_land {ts : Ties} {os : Orders} (h : MapOk ts os) {p o : Nat} (hp : p < os.length) (ho : ord os p = [o]) : landNo (lns ts os) o = landNo (lns ts os) (oth o) := by
  have hm : o ∈ ord os p := by rw [ho]; exact List.mem_singleton_self o
  obtain ⟨h1, h2⟩ := h.at_ p hp o hm
  have h3 := oth_lt h1
  have e : beh ts os (oth o) = o := by
    rw [beh_prv, oth_oth, h2, ho]
    exact prev_prv (by simp) (.inr ⟨[], rfl, rfl⟩)
  have hS := lns_split h
  obtain ⟨k1, k2⟩ := hS.no h3
  have := h.orb.cl _ (mem_getD k1) _ k2
  rw [e] at this
  exact (hS.uniq k1 this).symm
theorem holds_eq {ts : Ties} {os : Orders} (h : MapOk ts os) (h4 : Four os) (hF : Flat ts os) (hol : os.length ≤ 900) : F__law_holds [webD os.length ts os, .int ((lns ts os).length : Int)] = .ok (.bl true) := by
  have hm := h.many
  have hLl := lns_len h
  have hS := lns_split h
  have hfp := flat_perm h
  refine fn_of_wp ?_
  rw [show ini 9 [webD os.length ts os, .int ((lns ts os).length : Int)] = [some (webD os.length ts os), some (.int ((lns ts os).length : Int)), none, none, none, none, none, none, none] from rfl]
  refine wp_seq (wp_set (d := rowsD (lns ts os)) (by simp only [aF_ap, consF_ap, nilF_ap, vF_0, Rz.bind_ok, cO_ap1, lands_eq h]) ?_)
  simp only [set_2]
  have hfl := isflat_eq h os.length
  have hFb : ((os.length : Int) + ((lns ts os).length : Int) == (ts.length : Int) + 2) = true := by
    have : os.length + (lns ts os).length = ts.length + 2 := hF
    simp; omega
  rw [hFb] at hfl
  have hnt : nisbD (.bl true) (.bl true) = .ok (.bl false) := rfl
  refine wp_seq (wp_if (b := false) (by simp only [orF_ap, tF_ap, b2_ap, aF_ap, consF_ap, nilF_ap, cF_ap, vF_0, vF_1, vF_2, Rz.bind_ok, cO_ap1, len_rows, neD_nat, hfl, hnt, toB_bl, beq_self_eq_true, Bool.not_true, Bool.false_eq_true, if_false]) (fun h => nomatch h) fun _ => wp_sk ?_)
  refine wp_seq (wp_set (d := natsD []) rfl ?_)
  simp only [set_3]
  refine wp_seq (wp_for (ds := (lns ts os).map natsD) rfl (fun j e => ∃ o4, e = [some (webD os.length ts os), some (.int ((lns ts os).length : Int)), some (rowsD (lns ts os)), some (natsD ((lns ts os).take j).flatten), o4, none, none, none, none]) ⟨none, rfl⟩ ?_ ?_)
  · rintro j d _ hd ⟨o4, rfl⟩
    rw [List.getElem?_map] at hd
    cases hg : (lns ts os)[j]? with
    | none => rw [hg] at hd; cases hd
    | some r =>
      rw [hg] at hd
      cases hd
      refine ⟨_, rfl, ?_⟩
      simp only [set_4]
      have htk : (lns ts os).take (j + 1) = (lns ts os).take j ++ [r] := by rw [List.take_add_one, hg]; rfl
      have hln : ((lns ts os).take (j + 1)).flatten.length ≤ 900 := by
        have h1 : ((lns ts os).take (j + 1)).flatten.length ≤ (lns ts os).flatten.length := by
          conv => rhs; rw [← List.take_append_drop (j + 1) (lns ts os), List.flatten_append, List.length_append]
          omega
        have h2 := hfp.length_eq
        rw [List.length_range] at h2
        omega
      refine wp_seq (wp_set (d := natsD ((lns ts os).take (j + 1)).flatten) ?_ (wp_sk ⟨some (natsD r), rfl⟩))
      simp only [b2_ap, vF_3, vF_4, Rz.bind_ok]
      rw [htk, List.flatten_append, List.length_append] at hln
      rw [htk, List.flatten_append]
      unfold natsD catD
      simp only [List.length_map, List.map_append]
      rw [if_pos (by simp at hln ⊢; unfold lim; omega)]
      simp
  rintro _ ⟨o4, rfl⟩
  rw [List.length_map, List.take_length]
  have hN : (2 : Int) * (ts.length : Int) = ((2 * ts.length : Nat) : Int) := by omega
  have hn0 : neD (natsD (List.range (2 * ts.length))) (natsD (List.range (2 * ts.length))) = .ok (.bl false) := neD_same _ (okQ_nats _ 19)
  refine wp_seq (wp_if (b := false) (by simp only [tF_ap, b2_ap, aF_ap, consF_ap, nilF_ap, cF_ap, vF_0, vF_3, Rz.bind_ok, webD_1, len_ties, i2_int, mulI_l (i := 2) (j := (ts.length : Int)) (by omega), hN, lrg_eq (2 * ts.length) (by omega), srt_nats hfp, hn0, toB_bl]) (fun h => nomatch h) fun _ => wp_sk ?_)
  refine wp_seq (wp_for (ds := enumL ((lns ts os).map natsD)) rfl (fun _ e => ∃ o4 o5 o6 o7, e = [some (webD os.length ts os), some (.int ((lns ts os).length : Int)), some (rowsD (lns ts os)), some (natsD (lns ts os).flatten), o4, o5, o6, o7, none]) ⟨_, _, _, _, rfl⟩ ?_ ?_)
  · rintro j d _ hd ⟨o4, o5, o6, o7, rfl⟩
    obtain ⟨hj, rfl⟩ := enum_get hd
    refine ⟨_, rfl, ?_⟩
    simp only [set_4, set_5]
    have hrm := mem_getD hj
    have hu : ∀ e ∈ (lns ts os).getD j [], landNo (lns ts os) e = j := fun e he => (hS.uniq hj he).symm
    have hlt : ∀ e ∈ (lns ts os).getD j [], e < 2 * ts.length := fun e he => hS.lt _ hrm e he
    have hnx := fun k hk => row_next h hrm (k := k) hk
    generalize (lns ts os).getD j [] = r at hu hlt hnx
    refine wp_seq (wp_for (ds := enumL (r.map fun (e : Nat) => .int (e : Int))) rfl (fun _ e => ∃ o6 o7, e = [some (webD os.length ts os), some (.int ((lns ts os).length : Int)), some (rowsD (lns ts os)), some (natsD (lns ts os).flatten), some (natsD r), some (.int (j : Int)), o6, o7, none]) ⟨_, _, rfl⟩ ?_ ?_)
    · rintro k d _ hd ⟨o6, o7, rfl⟩
      rw [enumL_map, List.getElem?_map, List.getElem?_zipIdx] at hd
      cases hg : r[k]? with
      | none => rw [hg] at hd; cases hd
      | some x =>
        rw [hg] at hd
        simp only [Option.map_some, Option.some.injEq] at hd
        subst hd
        have hk := (List.getElem?_eq_some_iff.mp hg).1
        have hx := List.mem_of_getElem? hg
        have hgd : r.getD k 0 = x := by rw [List.getD_eq_getElem?_getD, hg]; rfl
        have hxN := hlt x hx
        refine ⟨_, by simp only [Nat.zero_add]; rfl, ?_⟩
        simp only [set_6, set_7]
        have hi : ixD (natsD r) (.int (((k : Int) + 1) % (r.length : Int))) = .ok (.int (beh ts os x : Int)) := by
          have := ixD_nats (l := r) (i := ((k : Int) + 1) % (r.length : Int)) (k := (k + 1) % r.length) (by
            have := Int.natCast_emod (k + 1) r.length
            rw [Int.natCast_add] at this; exact this.symm) (Nat.mod_lt _ (by omega))
          rw [hnx k hk, hgd] at this; exact this
        refine wp_seq (wp_if (b := false) (by simp only [orF_ap, tF_ap, b2_ap, aF_ap, consF_ap, nilF_ap, cF_ap, vF_0, vF_4, vF_5, vF_6, vF_7, Rz.bind_ok, cO_ap2, behind_eq h hxN, landof_eq h hxN, len_nats, i2_int, addI_ap, modI_pos (i := (k : Int) + 1) (j := (r.length : Int)) (by omega), hi, hu x hx, neD_nat, toB_bl, beq_self_eq_true, Bool.not_true, Bool.false_eq_true, if_false]) (fun h => nomatch h) fun _ => wp_sk (wp_sk ⟨_, _, rfl⟩))
    · rintro _ ⟨o6, o7, rfl⟩
      exact wp_sk ⟨_, _, _, _, rfl⟩
  rintro _ ⟨o4, o5, o6, o7, rfl⟩
  refine wp_seq (wp_for (ds := os.map natsD) (by unfold lOf; simp only [b2_ap, cF_ap, vF_0, Rz.bind_ok, webD_2]; rfl) (fun _ e => ∃ o8, e = [some (webD os.length ts os), some (.int ((lns ts os).length : Int)), some (rowsD (lns ts os)), some (natsD (lns ts os).flatten), o4, o5, o6, o7, o8]) ⟨_, rfl⟩ ?_ ?_)
  · rintro p d _ hd ⟨o8, rfl⟩
    rw [List.getElem?_map] at hd
    cases hg : os[p]? with
    | none => rw [hg] at hd; cases hd
    | some l =>
      rw [hg] at hd
      cases hd
      have hp := (List.getElem?_eq_some_iff.mp hg).1
      have hord : ord os p = l := by unfold ord; rw [List.getD_eq_getElem?_getD, hg]; rfl
      refine ⟨_, rfl, ?_⟩
      simp only [set_8]
      refine wp_seq (wp_if (b := false) ?_ (fun h => nomatch h) fun _ => wp_sk (wp_sk ⟨_, rfl⟩))
      have heq : eqD (.int (l.length : Int)) (.int 1) = .ok (.bl (l.length == 1)) := by
        rw [eqD_int]
        congr 2
        rw [Bool.eq_iff_iff]; simp; omega
      by_cases h1 : l.length = 1
      · obtain ⟨o, rfl⟩ := List.length_eq_one_iff.mp h1
        obtain ⟨h2, _⟩ := h.at_ p hp o (by rw [hord]; exact List.mem_singleton_self o)
        have h3 := one_land h hp hord
        have h0 : ixD (natsD [o]) (.int 0) = .ok (.int (o : Int)) := ixD_nats (k := 0) rfl (by simp)
        simp only [andF_ap, tF_ap, b2_ap, aF_ap, consF_ap, nilF_ap, cF_ap, vF_0, vF_8, Rz.bind_ok, len_nats, heq, h0, cO_ap1, cO_ap2, lawother_eq, landof_eq h h2, landof_eq h (oth_lt h2), h3, neD_nat, toB_bl, beq_self_eq_true, Bool.not_true, if_true, show ([o].length == 1) = true from rfl]
      · have hb : (l.length == 1) = false := by simpa using h1
        simp only [andF_ap, tF_ap, b2_ap, aF_ap, consF_ap, nilF_ap, cF_ap, vF_8, Rz.bind_ok, len_nats, heq, hb, toB_bl, Bool.false_eq_true, if_false]
  · rintro _ ⟨o8, rfl⟩
    exact wp_seq (wp_ret rfl rfl)
theorem law_true : ∀ ns : List Int, ns.length ≤ 63 → F_law [.fzl (ns.map .int)] = .ok (.bl true) := fun ns hns => by
  refine fn_of_wp ?_
  rw [show ini 9 [.fzl (ns.map .int)] = [some (.fzl (ns.map .int)), none, none, none, none, none, none, none, none] from rfl]
  have hcell := cell_at ns 0 (by omega)
  generalize ns.getD (0 : Int).toNat 0 = c at hcell
  refine wp_seq (wp_set (d := .int c) (by simp only [aF_ap, consF_ap, nilF_ap, vF_0, cF_ap, Rz.bind_ok, cO_ap2, hcell]) ?_)
  simp only [set_1]
  refine wp_seq (wp_set (d := tiesD [(0, 1)]) rfl ?_)
  simp only [set_2]
  refine wp_seq (wp_set (d := ordersD [[0], [1]]) rfl ?_)
  simp only [set_3]
  obtain ⟨m0, hm0, hm00⟩ := mix_ex c 0 (by omega) (by omega)
  obtain ⟨m1, hm1, hm10⟩ := mix_ex c 1 (by omega) (by omega)
  refine wp_seqJ (fun e => ∃ ts os, e = [some (.fzl (ns.map .int)), some (.int c), some (tiesD ts), some (ordersD os), none, none, none, none, none] ∧ MapOk ts os ∧ Four os ∧ ts.length = 1 ∧ os.length ≤ 2 ∧ Flat ts os ∧ (lns ts os).length = 1 + (if os.length = 1 then 1 else 0)) (wp_if (b := m0 % 3 == 1) (by simp only [tF_ap, b2_ap, aF_ap, consF_ap, nilF_ap, vF_1, cF_ap, Rz.bind_ok, cO_ap2, hm0, i2_int, modI_pos (i := m0) (j := 3) (by omega), eqD_int, toB_bl]) (fun _ => ?_) fun _ => ?_) ?_
  · refine wp_seq (wp_set (d := tiesD [(0, 0)]) rfl ?_)
    simp only [set_2]
    refine wp_seq (wp_set (d := ordersD [[0, 1]]) rfl (wp_sk ?_))
    simp only [set_3]
    exact ⟨_, _, rfl, map1, (by unfold Four; decide), rfl, by decide, by unfold Flat; decide, by decide⟩
  · exact wp_sk ⟨_, _, rfl, map0, (by unfold Four; decide), rfl, by decide, by unfold Flat; decide, by decide⟩
  rintro _ ⟨ts, os, rfl, hok, h4, hl, hol, hF, hL0⟩
  refine wp_seq (wp_set (d := .int ((lns ts os).length : Int)) (by
    rw [hL0]
    simp only [b2_ap, aF_ap, consF_ap, nilF_ap, cF_ap, vF_3, Rz.bind_ok, len_orders, eqD_int, intO_bl, i2_int, addI_ap]
    congr 2
    by_cases e : os.length = 1
    · rw [e]; rfl
    · rw [if_neg e, if_neg (by simp; omega)]; rfl) ?_)
  simp only [set_4]
  have q0 := Int.emod_nonneg m1 (b := 13) (by omega)
  have q1 := Int.emod_lt_of_pos m1 (b := 13) (by omega)
  have ht3 : ∀ a b c : D, tupO [a, b, c] = .ok (.tup [a, b, c]) := fun _ _ _ => rfl
  have hlt : ∀ ts : Ties, listI [tiesD ts] = .ok (tiesD ts) := fun ts => by
    unfold tiesD listI
    simp only [immA_ties, if_true]
  have hio : ∀ os : Orders, immK (ordersD os) 2 = true := fun os => immK_orders os 0
  have hc : ∀ (os : Orders) (e : En), os.length ≤ 20 → vF 3 e = .ok (ordersD os) → 6 < e.length → compF (lOf (vF 3)) [6] (gN 6) yesF (aF listO (consF (vF 6) nilF)) e = .ok (ordersD os) := fun os e ho he hel =>
    comp_F (own := [6]) (xs := os) (gg := natsD) (hh := natsD) (by
      unfold lOf
      rw [he]; rfl) (by unfold lim; omega) (fun x hx => ⟨_, rfl, by
        simp only [ewipe, aF_ap, consF_ap, nilF_ap]
        have : vF 6 ((List.set e 6 none).set 6 (some (natsD x))) = .ok (natsD x) := by
          unfold vF
          rw [List.getElem?_set_self (by simpa using hel)]
        rw [this]; rfl⟩)
  refine wp_seq (wp_for (ds := upto 0 (m1 % 13)) (by simp only [aI_ap, aF_ap, b2_ap, consF_ap, nilF_ap, vF_1, cF_ap, Rz.bind_ok, cO_ap2, hm1, i2_int, modI_pos (i := m1) (j := 13) (by omega)]; exact rng1_ok (by omega) (by omega)) (fun j e => ∃ ts os o5 o7 o8, e = [some (.fzl (ns.map .int)), some (.int c), some (tiesD ts), some (ordersD os), some (.int ((lns ts os).length : Int)), o5, none, o7, o8] ∧ MapOk ts os ∧ Four os ∧ ts.length ≤ 1 + j ∧ os.length ≤ 2 + j ∧ Flat ts os) ⟨ts, os, _, _, _, rfl, hok, h4, by omega, by omega, hF⟩ ?_ ?_)
  · rintro j d _ hd ⟨ts, os, o5, o7, o8, rfl, hok, h4, hl, hol, hF⟩
    obtain ⟨rfl, hj⟩ := upto_get hd
    refine ⟨_, rfl, ?_⟩
    simp only [set_5]
    have h1 := hc os [some (.fzl (ns.map .int)), some (.int c), some (tiesD ts), some (ordersD os), some (.int ((lns ts os).length : Int)), some (.int (j : Int)), none, o7, o8] (by omega) rfl (by simp)
    have h2 := holds_eq hok h4 hF (by omega)
    refine wp_seq (wp_if (b := false) ?_ (fun h => nomatch h) fun _ => wp_sk ?_)
    · have h3 : aF tupO (consF (aF lenO (consF (vF 3) nilF)) (consF (aF listI (consF (vF 2) nilF)) (consF (cvF 2 (compF (lOf (vF 3)) [6] (gN 6) yesF (aF listO (consF (vF 6) nilF)))) nilF))) [some (.fzl (ns.map .int)), some (.int c), some (tiesD ts), some (ordersD os), some (.int ((lns ts os).length : Int)), some (.int (j : Int)), none, o7, o8] = .ok (webD os.length ts os) := by
        simp only [aF_ap, consF_ap, nilF_ap, cvF, h1, vF_2, vF_3, hlt, hio, len_orders, if_true, Rz.bind_ok, ht3]
        rfl
      simp only [notF_ap, tF_ap]
      rw [aF_ap, consF_ap, h3]
      simp only [consF_ap, nilF_ap, vF_4, Rz.bind_ok, cO_ap2, h2, toB_bl, Bool.not_true]
    refine wp_seq (wp_set (d := .int (os.length : Int)) (by simp only [aF_ap, consF_ap, nilF_ap, vF_3, Rz.bind_ok, len_orders]) ?_)
    simp only [set_7]
    refine wp_seq (wp_set (d := .int (ts.length : Int)) (by simp only [aF_ap, consF_ap, nilF_ap, vF_2, Rz.bind_ok, len_ties]) ?_)
    simp only [set_8]
    have hcj := cell_at ns (1 + (j : Int) % 6) (by omega)
    obtain ⟨v, hv, hv0⟩ := mix_ex (ns.getD (1 + (j : Int) % 6).toNat 0) (j : Int) (by omega) (by omega)
    obtain ⟨ts', os', hstep, hok', h4', hl', hol', hF', hD⟩ := step_ex hok h4 v 10 hv0 (by omega) (by omega)
    have hF2 := hF' hF
    refine wp_seq (wp_callB (ds := [tiesD ts, ordersD os, .int v, .int 10]) (es := [tiesD ts', ordersD os', .int v, .int 10]) ?_ ?_ hstep ?_ ?_)
    · simp only [consF_ap, nilF_ap, aF_ap, b2_ap, vF_0, vF_2, vF_3, vF_5, cF_ap, Rz.bind_ok, cO_ap2, i2_int, addI_ap, modI_pos (i := (j : Int)) (j := 6) (by omega), hcj, hv]
    · show (immK (tiesD ts) (min 1 40) && (immK (ordersD os) (min 2 40) && true)) = true
      rw [show min 1 40 = 0 + 1 from rfl, show min 2 40 = 0 + 2 from rfl, immK_ties, immK_orders]; rfl
    · show (immK (tiesD ts') (min 1 40) && (immK (ordersD os') (min 2 40) && true)) = true
      rw [show min 1 40 = 0 + 1 from rfl, show min 2 40 = 0 + 2 from rfl, immK_ties, immK_orders]; rfl
    show wp (seqF _ _ [some (.fzl (ns.map .int)), some (.int c), some (tiesD ts'), some (ordersD os'), some (.int ((lns ts os).length : Int)), some (.int (j : Int)), none, some (.int (os.length : Int)), some (.int (ts.length : Int))]) _ _
    refine wp_seq (wp_set (d := .int ((lns ts' os').length : Int)) ?_ (wp_sk ⟨ts', os', _, _, _, rfl, hok', h4', by omega, by omega, hF2⟩))
    simp only [b2_ap, aF_ap, consF_ap, nilF_ap, vF_2, vF_3, vF_4, vF_7, vF_8, Rz.bind_ok, len_orders, len_ties, eqD_int, intO_bl, i2_int, subI_ap]
    rw [mulI_l (by omega)]
    simp only [Rz.bind_ok, i2_int, addI_ap]
    have f1 : os.length + (lns ts os).length = ts.length + 2 := hF
    have f2 : os'.length + (lns ts' os').length = ts'.length + 2 := hF2
    congr 2
    rcases hD with ⟨d1, d2⟩ | ⟨d1, d2⟩
    · rw [if_pos (by simp; omega)]; omega
    · rw [if_neg (by simp; omega)]; omega
  rintro _ ⟨ts, os, o5, o7, o8, rfl, hok, h4, hl, hol, hF⟩
  rw [upto_len] at hl hol
  have h2 := holds_eq hok h4 hF (by omega)
  refine wp_seq (wp_ret ?_ rfl)
  have h3 : tupO [.int (os.length : Int), tiesD ts, ordersD os] = .ok (webD os.length ts os) := rfl
  simp only [aF_ap, consF_ap, nilF_ap, vF_2, vF_3, vF_4, Rz.bind_ok, len_orders, h3, cO_ap2, h2]
end Lw

set_option Elab.async false
set_option linter.all false
set_option maxRecDepth 100000
namespace Lw
open PySem PySem.Spec PyProof.Rows L2 Pv
theorem all_mk {l : PySem.W.OpenLaw} {w : World} {K : PySem.W.Frag} {h : Heap} {mg : Str → Option Value} {fa : Addr} (X : K.In h) (G : h.Ns mainGlobals mg) (hfa : mg "law" = some (.ref fa))
    {f0 : Addr} {od0 an0 : Option Addr} {sl0 : Array (Option Value)} {oc0 kV0 dc0 pm0 cd0 ct0 : Value} {f1 : Addr} {od1 an1 : Option Addr} {sl1 : Array (Option Value)} {oc1 kV1 dc1 pm1 cd1 ct1 : Value} {f2 : Addr} {od2 an2 : Option Addr} {sl2 : Array (Option Value)} {oc2 kV2 dc2 pm2 cd2 ct2 : Value} {f3 : Addr} {od3 an3 : Option Addr} {sl3 : Array (Option Value)} {oc3 kV3 dc3 pm3 cd3 ct3 : Value} {f4 : Addr} {od4 an4 : Option Addr} {sl4 : Array (Option Value)} {oc4 kV4 dc4 pm4 cd4 ct4 : Value} {f5 : Addr} {od5 an5 : Option Addr} {sl5 : Array (Option Value)} {oc5 kV5 dc5 pm5 cd5 ct5 : Value} {f6 : Addr} {od6 an6 : Option Addr} {sl6 : Array (Option Value)} {oc6 kV6 dc6 pm6 cd6 ct6 : Value} {f7 : Addr} {od7 an7 : Option Addr} {sl7 : Array (Option Value)} {oc7 kV7 dc7 pm7 cd7 ct7 : Value} {f8 : Addr} {od8 an8 : Option Addr} {sl8 : Array (Option Value)} {oc8 kV8 dc8 pm8 cd8 ct8 : Value} {f9 : Addr} {od9 an9 : Option Addr} {sl9 : Array (Option Value)} {oc9 kV9 dc9 pm9 cd9 ct9 : Value} {f10 : Addr} {od10 an10 : Option Addr} {sl10 : Array (Option Value)} {oc10 kV10 dc10 pm10 cd10 ct10 : Value} {f11 : Addr} {od11 an11 : Option Addr} {sl11 : Array (Option Value)} {oc11 kV11 dc11 pm11 cd11 ct11 : Value} {f12 : Addr} {od12 an12 : Option Addr} {sl12 : Array (Option Value)} {oc12 kV12 dc12 pm12 cd12 ct12 : Value} {f13 : Addr} {od13 an13 : Option Addr} {sl13 : Array (Option Value)} {oc13 kV13 dc13 pm13 cd13 ct13 : Value} {f14 : Addr} {od14 an14 : Option Addr} {sl14 : Array (Option Value)} {oc14 kV14 dc14 pm14 cd14 ct14 : Value} {f15 : Addr} {od15 an15 : Option Addr} {sl15 : Array (Option Value)} {oc15 kV15 dc15 pm15 cd15 ct15 : Value} {f16 : Addr} {od16 an16 : Option Addr} {sl16 : Array (Option Value)} {oc16 kV16 dc16 pm16 cd16 ct16 : Value}
    (a0 : PySem.W.nsIn K mainGlobals "_law_cell_at" = some (some (.ref f0))) (l0 : K.lookup f0 = some ⟨oc0, od0, .func (PySem.W.fnOf "_law_cell_at" "_law_cell_at" (defArgs s__law_cell_at) (defBody s__law_cell_at) (defScope s__law_cell_at) .none kV0 dc0 pm0 an0 cd0 ct0), sl0⟩) (c0 : PySem.W.codeIn K cd0 "_law_cell_at" = true) (k0 : PySem.W.keepIn K (.ref f0) = true)
    (a1 : PySem.W.nsIn K mainGlobals "_law_other" = some (some (.ref f1))) (l1 : K.lookup f1 = some ⟨oc1, od1, .func (PySem.W.fnOf "_law_other" "_law_other" (defArgs s__law_other) (defBody s__law_other) (defScope s__law_other) .none kV1 dc1 pm1 an1 cd1 ct1), sl1⟩) (c1 : PySem.W.codeIn K cd1 "_law_other" = true) (k1 : PySem.W.keepIn K (.ref f1) = true)
    (a2 : PySem.W.nsIn K mainGlobals "other_end" = some (some (.ref f2))) (l2 : K.lookup f2 = some ⟨oc2, od2, .func (PySem.W.fnOf "other_end" "other_end" (defArgs s_other_end) (defBody s_other_end) (defScope s_other_end) .none kV2 dc2 pm2 an2 cd2 ct2), sl2⟩) (c2 : PySem.W.codeIn K cd2 "other_end" = true) (k2 : PySem.W.keepIn K (.ref f2) = true)
    (a3 : PySem.W.nsIn K mainGlobals "place_of" = some (some (.ref f3))) (l3 : K.lookup f3 = some ⟨oc3, od3, .func (PySem.W.fnOf "place_of" "place_of" (defArgs s_place_of) (defBody s_place_of) (defScope s_place_of) .none kV3 dc3 pm3 an3 cd3 ct3), sl3⟩) (c3 : PySem.W.codeIn K cd3 "place_of" = true) (k3 : PySem.W.keepIn K (.ref f3) = true)
    (a4 : PySem.W.nsIn K mainGlobals "behind" = some (some (.ref f4))) (l4 : K.lookup f4 = some ⟨oc4, od4, .func (PySem.W.fnOf "behind" "behind" (defArgs s_behind) (defBody s_behind) (defScope s_behind) .none kV4 dc4 pm4 an4 cd4 ct4), sl4⟩) (c4 : PySem.W.codeIn K cd4 "behind" = true) (k4 : PySem.W.keepIn K (.ref f4) = true)
    (a5 : PySem.W.nsIn K mainGlobals "land_from" = some (some (.ref f5))) (l5 : K.lookup f5 = some ⟨oc5, od5, .func (PySem.W.fnOf "land_from" "land_from" (defArgs s_land_from) (defBody s_land_from) (defScope s_land_from) .none kV5 dc5 pm5 an5 cd5 ct5), sl5⟩) (c5 : PySem.W.codeIn K cd5 "land_from" = true) (k5 : PySem.W.keepIn K (.ref f5) = true)
    (a6 : PySem.W.nsIn K mainGlobals "lands" = some (some (.ref f6))) (l6 : K.lookup f6 = some ⟨oc6, od6, .func (PySem.W.fnOf "lands" "lands" (defArgs s_lands) (defBody s_lands) (defScope s_lands) .none kV6 dc6 pm6 an6 cd6 ct6), sl6⟩) (c6 : PySem.W.codeIn K cd6 "lands" = true) (k6 : PySem.W.keepIn K (.ref f6) = true)
    (a7 : PySem.W.nsIn K mainGlobals "is_flat" = some (some (.ref f7))) (l7 : K.lookup f7 = some ⟨oc7, od7, .func (PySem.W.fnOf "is_flat" "is_flat" (defArgs s_is_flat) (defBody s_is_flat) (defScope s_is_flat) .none kV7 dc7 pm7 an7 cd7 ct7), sl7⟩) (c7 : PySem.W.codeIn K cd7 "is_flat" = true) (k7 : PySem.W.keepIn K (.ref f7) = true)
    (a8 : PySem.W.nsIn K mainGlobals "lands_by_ends" = some (some (.ref f8))) (l8 : K.lookup f8 = some ⟨oc8, od8, .func (PySem.W.fnOf "lands_by_ends" "lands_by_ends" (defArgs s_lands_by_ends) (defBody s_lands_by_ends) (defScope s_lands_by_ends) .none kV8 dc8 pm8 an8 cd8 ct8), sl8⟩) (c8 : PySem.W.codeIn K cd8 "lands_by_ends" = true) (k8 : PySem.W.keepIn K (.ref f8) = true)
    (a9 : PySem.W.nsIn K mainGlobals "land_of" = some (some (.ref f9))) (l9 : K.lookup f9 = some ⟨oc9, od9, .func (PySem.W.fnOf "land_of" "land_of" (defArgs s_land_of) (defBody s_land_of) (defScope s_land_of) .none kV9 dc9 pm9 an9 cd9 ct9), sl9⟩) (c9 : PySem.W.codeIn K cd9 "land_of" = true) (k9 : PySem.W.keepIn K (.ref f9) = true)
    (a10 : PySem.W.nsIn K mainGlobals "_law_holds" = some (some (.ref f10))) (l10 : K.lookup f10 = some ⟨oc10, od10, .func (PySem.W.fnOf "_law_holds" "_law_holds" (defArgs s__law_holds) (defBody s__law_holds) (defScope s__law_holds) .none kV10 dc10 pm10 an10 cd10 ct10), sl10⟩) (c10 : PySem.W.codeIn K cd10 "_law_holds" = true) (k10 : PySem.W.keepIn K (.ref f10) = true)
    (a11 : PySem.W.nsIn K mainGlobals "_law_mix" = some (some (.ref f11))) (l11 : K.lookup f11 = some ⟨oc11, od11, .func (PySem.W.fnOf "_law_mix" "_law_mix" (defArgs s__law_mix) (defBody s__law_mix) (defScope s__law_mix) .none kV11 dc11 pm11 an11 cd11 ct11), sl11⟩) (c11 : PySem.W.codeIn K cd11 "_law_mix" = true) (k11 : PySem.W.keepIn K (.ref f11) = true)
    (a12 : PySem.W.nsIn K mainGlobals "_law_place" = some (some (.ref f12))) (l12 : K.lookup f12 = some ⟨oc12, od12, .func (PySem.W.fnOf "_law_place" "_law_place" (defArgs s__law_place) (defBody s__law_place) (defScope s__law_place) .none kV12 dc12 pm12 an12 cd12 ct12), sl12⟩) (c12 : PySem.W.codeIn K cd12 "_law_place" = true) (k12 : PySem.W.keepIn K (.ref f12) = true)
    (a13 : PySem.W.nsIn K mainGlobals "_law_behind" = some (some (.ref f13))) (l13 : K.lookup f13 = some ⟨oc13, od13, .func (PySem.W.fnOf "_law_behind" "_law_behind" (defArgs s__law_behind) (defBody s__law_behind) (defScope s__law_behind) .none kV13 dc13 pm13 an13 cd13 ct13), sl13⟩) (c13 : PySem.W.codeIn K cd13 "_law_behind" = true) (k13 : PySem.W.keepIn K (.ref f13) = true)
    (a14 : PySem.W.nsIn K mainGlobals "_law_lands" = some (some (.ref f14))) (l14 : K.lookup f14 = some ⟨oc14, od14, .func (PySem.W.fnOf "_law_lands" "_law_lands" (defArgs s__law_lands) (defBody s__law_lands) (defScope s__law_lands) .none kV14 dc14 pm14 an14 cd14 ct14), sl14⟩) (c14 : PySem.W.codeIn K cd14 "_law_lands" = true) (k14 : PySem.W.keepIn K (.ref f14) = true)
    (a15 : PySem.W.nsIn K mainGlobals "_law_step" = some (some (.ref f15))) (l15 : K.lookup f15 = some ⟨oc15, od15, .func (PySem.W.fnOf "_law_step" "_law_step" (defArgs s__law_step) (defBody s__law_step) (defScope s__law_step) .none kV15 dc15 pm15 an15 cd15 ct15), sl15⟩) (c15 : PySem.W.codeIn K cd15 "_law_step" = true) (k15 : PySem.W.keepIn K (.ref f15) = true)
    (a16 : PySem.W.nsIn K mainGlobals "law" = some (some (.ref f16))) (l16 : K.lookup f16 = some ⟨oc16, od16, .func (PySem.W.fnOf "law" "law" (defArgs s_law) (defBody s_law) (defScope s_law) .none kV16 dc16 pm16 an16 cd16 ct16), sl16⟩) (c16 : PySem.W.codeIn K cd16 "law" = true) (k16 : PySem.W.keepIn K (.ref f16) = true)
    (zlen : PySem.W.nsIn K mainGlobals "len" = some none) (zrange : PySem.W.nsIn K mainGlobals "range" = some none) (zmin : PySem.W.nsIn K mainGlobals "min" = some none) (zmax : PySem.W.nsIn K mainGlobals "max" = some none) (zsum : PySem.W.nsIn K mainGlobals "sum" = some none) (zabs : PySem.W.nsIn K mainGlobals "abs" = some none) (zint : PySem.W.nsIn K mainGlobals "int" = some none) (zlist : PySem.W.nsIn K mainGlobals "list" = some none) (ztuple : PySem.W.nsIn K mainGlobals "tuple" = some none) (zall : PySem.W.nsIn K mainGlobals "all" = some none) (zenumerate : PySem.W.nsIn K mainGlobals "enumerate" = some none) (zzip : PySem.W.nsIn K mainGlobals "zip" = some none) (zsorted : PySem.W.nsIn K mainGlobals "sorted" = some none) (zisinstance : PySem.W.nsIn K mainGlobals "isinstance" = some none) (zset : PySem.W.nsIn K mainGlobals "set" = some none) (zstr : PySem.W.nsIn K mainGlobals "str" = some none) (zbool : PySem.W.nsIn K mainGlobals "bool" = some none) :
    ∃ fd : FuncData, (∀ (s : Shared) (v : Value), BindsTo s fd ⟨[v], []⟩ [("_law_script", v)]) ∧ ∀ base : Heap, K.In base → base.Ns mainGlobals mg → FnOk l.prog w K mg base CX0 8 fa fd ["_law_script"] (spLaw K) := by
  have e := hfa.symm.trans (PySem.W.mg_of X G a16)
  cases e
  have bl : Bl mg := ⟨PySem.W.mg_none_of X G zlen, PySem.W.mg_none_of X G zrange, PySem.W.mg_none_of X G zmin, PySem.W.mg_none_of X G zmax, PySem.W.mg_none_of X G zsum, PySem.W.mg_none_of X G zabs, PySem.W.mg_none_of X G zint, PySem.W.mg_none_of X G zlist, PySem.W.mg_none_of X G ztuple, PySem.W.mg_none_of X G zall, PySem.W.mg_none_of X G zenumerate, PySem.W.mg_none_of X G zzip, PySem.W.mg_none_of X G zsorted, PySem.W.mg_none_of X G zisinstance, PySem.W.mg_none_of X G zset, PySem.W.mg_none_of X G zstr, PySem.W.mg_none_of X G zbool⟩
  have F0 := fun_mk (st := s__law_cell_at) l0 c0 k0
  have b0 := F0.binds (ps := ["_law_script", "_law_k"]) fun _ _ _ _ _ _ us hl => match us, hl with | [_, _], _ => rfl
  have F1 := fun_mk (st := s__law_other) l1 c1 k1
  have b1 := F1.binds (ps := ["_law_end"]) fun _ _ _ _ _ _ us hl => match us, hl with | [_], _ => rfl
  have F2 := fun_mk (st := s_other_end) l2 c2 k2
  have b2 := F2.binds (ps := ["end"]) fun _ _ _ _ _ _ us hl => match us, hl with | [_], _ => rfl
  have F3 := fun_mk (st := s_place_of) l3 c3 k3
  have b3 := F3.binds (ps := ["ties", "end"]) fun _ _ _ _ _ _ us hl => match us, hl with | [_, _], _ => rfl
  have F4 := fun_mk (st := s_behind) l4 c4 k4
  have b4 := F4.binds (ps := ["web", "end"]) fun _ _ _ _ _ _ us hl => match us, hl with | [_, _], _ => rfl
  have F5 := fun_mk (st := s_land_from) l5 c5 k5
  have b5 := F5.binds (ps := ["web", "first"]) fun _ _ _ _ _ _ us hl => match us, hl with | [_, _], _ => rfl
  have F6 := fun_mk (st := s_lands) l6 c6 k6
  have b6 := F6.binds (ps := ["web"]) fun _ _ _ _ _ _ us hl => match us, hl with | [_], _ => rfl
  have F7 := fun_mk (st := s_is_flat) l7 c7 k7
  have b7 := F7.binds (ps := ["web"]) fun _ _ _ _ _ _ us hl => match us, hl with | [_], _ => rfl
  have F8 := fun_mk (st := s_lands_by_ends) l8 c8 k8
  have b8 := F8.binds (ps := ["web"]) fun _ _ _ _ _ _ us hl => match us, hl with | [_], _ => rfl
  have F9 := fun_mk (st := s_land_of) l9 c9 k9
  have b9 := F9.binds (ps := ["web", "end"]) fun _ _ _ _ _ _ us hl => match us, hl with | [_, _], _ => rfl
  have F10 := fun_mk (st := s__law_holds) l10 c10 k10
  have b10 := F10.binds (ps := ["_law_web", "_law_many"]) fun _ _ _ _ _ _ us hl => match us, hl with | [_, _], _ => rfl
  have F11 := fun_mk (st := s__law_mix) l11 c11 k11
  have b11 := F11.binds (ps := ["_law_cell", "_law_k"]) fun _ _ _ _ _ _ us hl => match us, hl with | [_, _], _ => rfl
  have F12 := fun_mk (st := s__law_place) l12 c12 k12
  have b12 := F12.binds (ps := ["_law_ties", "_law_end"]) fun _ _ _ _ _ _ us hl => match us, hl with | [_, _], _ => rfl
  have F13 := fun_mk (st := s__law_behind) l13 c13 k13
  have b13 := F13.binds (ps := ["_law_ties", "_law_orders", "_law_end"]) fun _ _ _ _ _ _ us hl => match us, hl with | [_, _, _], _ => rfl
  have F14 := fun_mk (st := s__law_lands) l14 c14 k14
  have b14 := F14.binds (ps := ["_law_ties", "_law_orders"]) fun _ _ _ _ _ _ us hl => match us, hl with | [_, _], _ => rfl
  have F15 := fun_mk (st := s__law_step) l15 c15 k15
  have b15 := F15.binds (ps := ["_law_ties", "_law_orders", "_law_pick", "_law_most"]) fun _ _ _ _ _ _ us hl => match us, hl with | [_, _, _, _], _ => rfl
  have F16 := fun_mk (st := s_law) l16 c16 k16
  refine ⟨PySem.W.fnOf "law" "law" (defArgs s_law) (defBody s_law) (defScope s_law) .none kV16 dc16 pm16 an16 cd16 ct16, fun s v => .of_eq rfl, fun base _ _ => ?_⟩
  have d__law_cell_at : Df l.prog w K mg base (fun _ => 0) "_law_cell_at" 1 ["_law_script", "_law_k"] 2 F__law_cell_at 0 f0 _ := ⟨ok__law_cell_at F0 bl , PySem.W.mg_of X G a0, k0, b0⟩
  have d__law_other : Df l.prog w K mg base (fun _ => 0) "_law_other" 1 ["_law_end"] 1 F__law_other 0 f1 _ := ⟨ok__law_other F1 bl , PySem.W.mg_of X G a1, k1, b1⟩
  have d_other_end : Df l.prog w K mg base (fun _ => 0) "other_end" 1 ["end"] 1 F_other_end 0 f2 _ := ⟨ok_other_end F2 bl , PySem.W.mg_of X G a2, k2, b2⟩
  have d_place_of : Df l.prog w K mg base (fun _ => 0) "place_of" 1 ["ties", "end"] 2 F_place_of 0 f3 _ := ⟨ok_place_of F3 bl , PySem.W.mg_of X G a3, k3, b3⟩
  have d_behind : Df l.prog w K mg base (fun _ => 0) "behind" 2 ["web", "end"] 2 F_behind 0 f4 _ := ⟨ok_behind F4 bl d_other_end d_place_of, PySem.W.mg_of X G a4, k4, b4⟩
  have d_land_from : Df l.prog w K mg base (fun _ => 0) "land_from" 3 ["web", "first"] 2 F_land_from 1 f5 _ := ⟨ok_land_from F5 bl d_behind, PySem.W.mg_of X G a5, k5, b5⟩
  have d_lands : Df l.prog w K mg base (fun _ => 0) "lands" 4 ["web"] 1 F_lands 2 f6 _ := ⟨ok_lands F6 bl d_land_from, PySem.W.mg_of X G a6, k6, b6⟩
  have d_is_flat : Df l.prog w K mg base (fun _ => 0) "is_flat" 5 ["web"] 1 F_is_flat 0 f7 _ := ⟨ok_is_flat F7 bl d_lands, PySem.W.mg_of X G a7, k7, b7⟩
  have d_lands_by_ends : Df l.prog w K mg base (fun _ => 0) "lands_by_ends" 5 ["web"] 1 F_lands_by_ends 2 f8 _ := ⟨ok_lands_by_ends F8 bl d_lands, PySem.W.mg_of X G a8, k8, b8⟩
  have d_land_of : Df l.prog w K mg base (fun _ => 0) "land_of" 6 ["web", "end"] 2 F_land_of 0 f9 _ := ⟨ok_land_of F9 bl d_lands_by_ends, PySem.W.mg_of X G a9, k9, b9⟩
  have d__law_holds : Df l.prog w K mg base (fun _ => 0) "_law_holds" 7 ["_law_web", "_law_many"] 2 F__law_holds 0 f10 _ := ⟨ok__law_holds F10 bl d__law_other d_behind d_is_flat d_land_of d_lands, PySem.W.mg_of X G a10, k10, b10⟩
  have d__law_mix : Df l.prog w K mg base (fun _ => 0) "_law_mix" 1 ["_law_cell", "_law_k"] 2 F__law_mix 0 f11 _ := ⟨ok__law_mix F11 bl , PySem.W.mg_of X G a11, k11, b11⟩
  have d__law_place : Df l.prog w K mg base (fun _ => 0) "_law_place" 1 ["_law_ties", "_law_end"] 2 F__law_place 0 f12 _ := ⟨ok__law_place F12 bl , PySem.W.mg_of X G a12, k12, b12⟩
  have d__law_behind : Df l.prog w K mg base (fun _ => 0) "_law_behind" 2 ["_law_ties", "_law_orders", "_law_end"] 3 F__law_behind 0 f13 _ := ⟨ok__law_behind F13 bl d__law_other d__law_place, PySem.W.mg_of X G a13, k13, b13⟩
  have d__law_lands : Df l.prog w K mg base (fun _ => 0) "_law_lands" 3 ["_law_ties", "_law_orders"] 2 F__law_lands 2 f14 _ := ⟨ok__law_lands F14 bl d__law_behind, PySem.W.mg_of X G a14, k14, b14⟩
  have d__law_step : DfB l.prog w K mg base (fun _ => 0) "_law_step" 4 ["_law_ties", "_law_orders", "_law_pick", "_law_most"] [true, true, false, false] F__law_step f15 _ := ⟨ok__law_step F15 bl d__law_lands d__law_other d__law_place, PySem.W.mg_of X G a15, k15, b15⟩
  exact law_of (ok_law F16 bl d__law_cell_at d__law_holds d__law_mix d__law_step) law_true
end Lw
open PySem PySem.W PyProof.Rows
set_option maxHeartbeats 0 in
theorem PySem.Challenge.cw_fewbends_k04_whole_steps_of_maps_holds : PySem.Challenge.rw_fewbends_k04_whole_steps_of_maps.Holds := by
  w_on; o_law; k_head; (case hw => w_witness2)
  k_fill
  refine L2.walk_of (l := PySem.Challenge.rw_fewbends_k04_whole_steps_of_maps) (n := 63) (k := 8) (x := "_law_script") (CX := fun _ => L2.CX0) (sp := fun w => Pv.spLaw _) rfl (by decide) rfl ⟨rfl, by decide, by decide⟩ (fun w h Y => PySem.W.kIn_of Y) ?F (fun _ _ a ns hl _ hS => ⟨a, ns, rfl, hS, hl, fun _ => rfl⟩) (fun _ _ _ _ _ h => h)
  case F =>
    intro w mg fa h KX G hmg
    refine' Lw.all_mk KX G hmg ?a0 ?l0 ?c0 ?k0 ?a1 ?l1 ?c1 ?k1 ?a2 ?l2 ?c2 ?k2 ?a3 ?l3 ?c3 ?k3 ?a4 ?l4 ?c4 ?k4 ?a5 ?l5 ?c5 ?k5 ?a6 ?l6 ?c6 ?k6 ?a7 ?l7 ?c7 ?k7 ?a8 ?l8 ?c8 ?k8 ?a9 ?l9 ?c9 ?k9 ?a10 ?l10 ?c10 ?k10 ?a11 ?l11 ?c11 ?k11 ?a12 ?l12 ?c12 ?k12 ?a13 ?l13 ?c13 ?k13 ?a14 ?l14 ?c14 ?k14 ?a15 ?l15 ?c15 ?k15 ?a16 ?l16 ?c16 ?k16 ?zlen ?zrange ?zmin ?zmax ?zsum ?zabs ?zint ?zlist ?ztuple ?zall ?zenumerate ?zzip ?zsorted ?zisinstance ?zset ?zstr ?zbool
    (case a0 => k_is)
    (case l0 => k_is)
    (case c0 => k_is)
    (case k0 => k_is)
    (case a1 => k_is)
    (case l1 => k_is)
    (case c1 => k_is)
    (case k1 => k_is)
    (case a2 => k_is)
    (case l2 => k_is)
    (case c2 => k_is)
    (case k2 => k_is)
    (case a3 => k_is)
    (case l3 => k_is)
    (case c3 => k_is)
    (case k3 => k_is)
    (case a4 => k_is)
    (case l4 => k_is)
    (case c4 => k_is)
    (case k4 => k_is)
    (case a5 => k_is)
    (case l5 => k_is)
    (case c5 => k_is)
    (case k5 => k_is)
    (case a6 => k_is)
    (case l6 => k_is)
    (case c6 => k_is)
    (case k6 => k_is)
    (case a7 => k_is)
    (case l7 => k_is)
    (case c7 => k_is)
    (case k7 => k_is)
    (case a8 => k_is)
    (case l8 => k_is)
    (case c8 => k_is)
    (case k8 => k_is)
    (case a9 => k_is)
    (case l9 => k_is)
    (case c9 => k_is)
    (case k9 => k_is)
    (case a10 => k_is)
    (case l10 => k_is)
    (case c10 => k_is)
    (case k10 => k_is)
    (case a11 => k_is)
    (case l11 => k_is)
    (case c11 => k_is)
    (case k11 => k_is)
    (case a12 => k_is)
    (case l12 => k_is)
    (case c12 => k_is)
    (case k12 => k_is)
    (case a13 => k_is)
    (case l13 => k_is)
    (case c13 => k_is)
    (case k13 => k_is)
    (case a14 => k_is)
    (case l14 => k_is)
    (case c14 => k_is)
    (case k14 => k_is)
    (case a15 => k_is)
    (case l15 => k_is)
    (case c15 => k_is)
    (case k15 => k_is)
    (case a16 => k_is)
    (case l16 => k_is)
    (case c16 => k_is)
    (case k16 => k_is)
    (case zlen => k_is)
    (case zrange => k_is)
    (case zmin => k_is)
    (case zmax => k_is)
    (case zsum => k_is)
    (case zabs => k_is)
    (case zint => k_is)
    (case zlist => k_is)
    (case ztuple => k_is)
    (case zall => k_is)
    (case zenumerate => k_is)
    (case zzip => k_is)
    (case zsorted => k_is)
    (case zisinstance => k_is)
    (case zset => k_is)
    (case zstr => k_is)
    (case zbool => k_is)

