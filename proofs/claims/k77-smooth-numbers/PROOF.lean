import PyProof.Rows.All
import Wide.All
import OpenK.AllK
import Wide.FinOn
import PySem.Challenge.RW_choicerealm_k77_smooth_numbers_by_lids
import HandS.ForMost
import HandS.ForExc
import HandS.CallSlots
import HandS.IsInst
import HandS.Gcd
import HandS.Wide
import HandS.WideBits
import HandS.ExcInit
import HandS.ExcIs
import HandS.ExcField
import HandS.TupAny
import HandS.Defaults
import HandS.MakeKwOnly
import HandS.Style
import HandS.Rev
import HandS.RevRange
import HandS.Zip
import HandS.ClsMeth
import KE.GoesEnum
import KE.GoesMore
import HandS.Lambda
import HandS.CallLocal

set_option Elab.async false
set_option linter.all false
set_option maxRecDepth 100000
/-! Z0: data (D), how data lies in the abstract heap (Rep, Own), what a piece of code keeps (Fra), a frame's state (Stt) -/
namespace Z
open PySem PySem.Spec L2
open PyProof.Rows hiding St

/-- values as trees -/
inductive D where
  | non | bl (b : Bool) | int (i : Int) | str (x : Str)
  | lst (xs : List D) | tup (xs : List D) | ins (c : Nat) (fs : List D)
  /-- a list of the outside or of the module: read, never changed -/
  | kls (xs : List D)
  /-- an own class -/
  | cls (c : Nat)

/-- own classes: where they stand, their attributes' names -/
structure Tab where
  cm : Nat → Addr
  fl : Nat → List Str

abbrev Env := List (Option D)

/-- a list that stands beyond reach -/
def KsL (K : PySem.W.Frag) (H : Hp) (a : Addr) (vs : List V) : Prop :=
  (∃ o, H a = some (.frz o (.lst vs))) ∨
    ∃ (o : Obj) (its : Array Value) (n : Nat), K.lookup a = some o ∧ o.cls = .type "list" ∧ o.dict = none ∧ o.data = .seq its n ∧ its.size ≤ sizeLine ∧ Vals vs its.toList
theorem KsL.sql {K : PySem.W.Frag} {H : Hp} {a : Addr} {vs : List V} (h : KsL K H a vs) : SqL K H a vs := by
  rcases h with h | h
  · exact .inl (.inr h)
  · exact .inr h

mutual
def Rep (K : PySem.W.Frag) (T : Tab) (H : Hp) (S : Addr → Prop) : D → V → Prop
  | .non, v => v = .non
  | .bl b, v => v = .bl b
  | .int i, v => v = .int i
  | .str x, v => v = .str x
  | .cls c, v => v = .ref (T.cm c)
  | .lst xs, v => ∃ a vs, v = .ref a ∧ H a = some (.lst vs) ∧ S a ∧ Reps K T H S xs vs
  | .kls xs, v => ∃ a vs, v = .ref a ∧ KsL K H a vs ∧ Reps K T H S xs vs
  | .tup xs, v => ∃ a vs, v = .ref a ∧ SqT K H a vs ∧ Reps K T H S xs vs
  | .ins c fs, v => ∃ a dx vs, v = .ref a ∧ H a = some (.ins (T.cm c) dx ((T.fl c).zip vs)) ∧ S a ∧ fs.length ≤ (T.fl c).length ∧ Reps K T H S fs vs
def Reps (K : PySem.W.Frag) (T : Tab) (H : Hp) (S : Addr → Prop) : List D → List V → Prop
  | [], vs => vs = []
  | d :: ds, vs => ∃ v ws, vs = v :: ws ∧ Rep K T H S d v ∧ Reps K T H S ds ws
end

section
variable {K : PySem.W.Frag} {T : Tab} {H H' : Hp} {S S' : Addr → Prop}

mutual
theorem Rep.mono (k1 : ∀ a vs, H a = some (.lst vs) → S a → H' a = some (.lst vs) ∧ S' a) (k0 : ∀ a vs, KsL K H a vs → KsL K H' a vs) (k2 : ∀ a vs, SqT K H a vs → SqT K H' a vs) (k3 : ∀ a C dx fs, H a = some (.ins C dx fs) → S a → H' a = some (.ins C dx fs) ∧ S' a) :
    ∀ (d : D) (v : V), Rep K T H S d v → Rep K T H' S' d v
  | .non, v, h => by simp only [Rep] at h ⊢; exact h
  | .bl b, v, h => by simp only [Rep] at h ⊢; exact h
  | .int i, v, h => by simp only [Rep] at h ⊢; exact h
  | .str x, v, h => by simp only [Rep] at h ⊢; exact h
  | .cls c, v, h => by simp only [Rep] at h ⊢; exact h
  | .lst xs, v, h => by
    simp only [Rep] at h ⊢
    obtain ⟨a, vs, e, f, s, r⟩ := h
    obtain ⟨f', s'⟩ := k1 _ _ f s
    exact ⟨a, vs, e, f', s', Reps.mono k1 k0 k2 k3 xs vs r⟩
  | .kls xs, v, h => by
    simp only [Rep] at h ⊢
    obtain ⟨a, vs, e, f, r⟩ := h
    exact ⟨a, vs, e, k0 _ _ f, Reps.mono k1 k0 k2 k3 xs vs r⟩
  | .tup xs, v, h => by
    simp only [Rep] at h ⊢
    obtain ⟨a, vs, e, f, r⟩ := h
    exact ⟨a, vs, e, k2 _ _ f, Reps.mono k1 k0 k2 k3 xs vs r⟩
  | .ins c fs, v, h => by
    simp only [Rep] at h ⊢
    obtain ⟨a, dx, vs, e, f, s, l, r⟩ := h
    obtain ⟨f', s'⟩ := k3 _ _ _ _ f s
    exact ⟨a, dx, vs, e, f', s', l, Reps.mono k1 k0 k2 k3 fs vs r⟩
theorem Reps.mono (k1 : ∀ a vs, H a = some (.lst vs) → S a → H' a = some (.lst vs) ∧ S' a) (k0 : ∀ a vs, KsL K H a vs → KsL K H' a vs) (k2 : ∀ a vs, SqT K H a vs → SqT K H' a vs) (k3 : ∀ a C dx fs, H a = some (.ins C dx fs) → S a → H' a = some (.ins C dx fs) ∧ S' a) :
    ∀ (ds : List D) (vs : List V), Reps K T H S ds vs → Reps K T H' S' ds vs
  | [], vs, h => by simp only [Reps] at h ⊢; exact h
  | d :: ds, vs, h => by
    simp only [Reps] at h ⊢
    obtain ⟨v, ws, e, r1, r2⟩ := h
    exact ⟨v, ws, e, Rep.mono k1 k0 k2 k3 d v r1, Reps.mono k1 k0 k2 k3 ds ws r2⟩
end
theorem Reps.length : ∀ {ds : List D} {vs : List V}, Reps K T H S ds vs → ds.length = vs.length
  | [], vs, h => by simp only [Reps] at h; subst h; rfl
  | d :: ds, vs, h => by
    simp only [Reps] at h
    obtain ⟨v, ws, rfl, _, r⟩ := h
    simp [Reps.length r]
theorem Reps.get : ∀ {ds : List D} {vs : List V} {i : Nat} {d : D}, Reps K T H S ds vs → ds[i]? = some d → ∃ v, vs[i]? = some v ∧ Rep K T H S d v
  | [], vs, i, d, h, e => by simp at e
  | d0 :: ds, vs, 0, d, h, e => by
    simp only [Reps] at h
    obtain ⟨v, ws, rfl, r, _⟩ := h
    simp at e; subst e
    exact ⟨v, rfl, r⟩
  | d0 :: ds, vs, i + 1, d, h, e => by
    simp only [Reps] at h
    obtain ⟨v, ws, rfl, _, r⟩ := h
    simpa using Reps.get r (i := i) (by simpa using e)
theorem Reps.getV : ∀ {ds : List D} {vs : List V} {i : Nat} {v : V}, Reps K T H S ds vs → vs[i]? = some v → ∃ d, ds[i]? = some d ∧ Rep K T H S d v
  | [], vs, i, d, h, e => by simp only [Reps] at h; subst h; simp at e
  | d0 :: ds, vs, 0, v, h, e => by
    simp only [Reps] at h
    obtain ⟨v', ws, rfl, r, _⟩ := h
    simp at e; subst e
    exact ⟨d0, rfl, r⟩
  | d0 :: ds, vs, i + 1, v, h, e => by
    simp only [Reps] at h
    obtain ⟨v', ws, rfl, _, r⟩ := h
    simpa using Reps.getV r (i := i) (by simpa using e)
theorem Reps.append : ∀ {ds es : List D} {vs ws : List V}, Reps K T H S ds vs → Reps K T H S es ws → Reps K T H S (ds ++ es) (vs ++ ws)
  | [], es, vs, ws, h, g => by simp only [Reps] at h; subst h; exact g
  | d :: ds, es, vs, ws, h, g => by
    simp only [Reps] at h
    obtain ⟨v, us, rfl, r1, r2⟩ := h
    simp only [List.cons_append, Reps]
    exact ⟨v, us ++ ws, rfl, r1, Reps.append r2 g⟩
theorem Reps.take : ∀ {ds : List D} {vs : List V} (n : Nat), Reps K T H S ds vs → Reps K T H S (ds.take n) (vs.take n)
  | ds, vs, 0, h => by simp [Reps]
  | [], vs, n + 1, h => by simp only [Reps] at h; subst h; simp [Reps]
  | d :: ds, vs, n + 1, h => by
    simp only [Reps] at h
    obtain ⟨v, us, rfl, r1, r2⟩ := h
    simp only [List.take_succ_cons, Reps]
    exact ⟨v, us.take n, rfl, r1, Reps.take n r2⟩
theorem Reps.drop : ∀ {ds : List D} {vs : List V} (n : Nat), Reps K T H S ds vs → Reps K T H S (ds.drop n) (vs.drop n)
  | ds, vs, 0, h => by simpa using h
  | [], vs, n + 1, h => by simp only [Reps] at h; subst h; simp [Reps]
  | d :: ds, vs, n + 1, h => by
    simp only [Reps] at h
    obtain ⟨v, us, rfl, r1, r2⟩ := h
    simpa using Reps.drop n r2
theorem Reps.set : ∀ {ds : List D} {vs : List V} (i : Nat) {d : D} {v : V}, Reps K T H S ds vs → Rep K T H S d v → Reps K T H S (ds.set i d) (vs.set i v)
  | [], vs, i, d, v, h, r => by simp only [Reps] at h; subst h; simp [Reps]
  | d0 :: ds, vs, 0, d, v, h, r => by
    simp only [Reps] at h
    obtain ⟨v', us, rfl, r1, r2⟩ := h
    simp only [List.set_cons_zero, Reps]
    exact ⟨v, us, rfl, r, r2⟩
  | d0 :: ds, vs, i + 1, d, v, h, r => by
    simp only [Reps] at h
    obtain ⟨v', us, rfl, r1, r2⟩ := h
    simp only [List.set_cons_succ, Reps]
    exact ⟨v', us.set i v, rfl, r1, Reps.set i r2 r⟩
theorem Reps.reverse : ∀ {ds : List D} {vs : List V}, Reps K T H S ds vs → Reps K T H S ds.reverse vs.reverse
  | [], vs, h => by simp only [Reps] at h; subst h; simp [Reps]
  | d :: ds, vs, h => by
    simp only [Reps] at h
    obtain ⟨v, us, rfl, r1, r2⟩ := h
    simp only [List.reverse_cons]
    exact Reps.append (Reps.reverse r2) (by simp only [Reps]; exact ⟨v, [], rfl, r1, rfl⟩)
theorem Reps.dropLast {ds : List D} {vs : List V} (h : Reps K T H S ds vs) : Reps K T H S ds.dropLast vs.dropLast := by
  rw [List.dropLast_eq_take, List.dropLast_eq_take, ← h.length]
  exact h.take _
end

/-- three lists, place by place -/
inductive O3 (P : D → V → List Addr → Prop) : List D → List V → List (List Addr) → Prop where
  | nil : O3 P [] [] []
  | cons {d v F ds vs Fs} : P d v F → O3 P ds vs Fs → O3 P (d :: ds) (v :: vs) (F :: Fs)

/-- data of which the upper k levels are owned: F the owned objects -/
def Own (K : PySem.W.Frag) (T : Tab) (H : Hp) (S : Addr → Prop) : Nat → D → V → List Addr → Prop
  | 0, d, v, F => F = [] ∧ Rep K T H S d v
  | k + 1, .lst xs, v, F => ∃ a vs Fs, v = .ref a ∧ H a = some (.lst vs) ∧ F = a :: Fs.flatten ∧ O3 (Own K T H S k) xs vs Fs
  | k + 1, .ins c fs, v, F => ∃ a dx vs Fs, v = .ref a ∧ H a = some (.ins (T.cm c) dx ((T.fl c).zip vs)) ∧ F = a :: Fs.flatten ∧ fs.length ≤ (T.fl c).length ∧ O3 (Own K T H S k) fs vs Fs
  | _ + 1, d, v, F => F = [] ∧ Rep K T H S d v

section
variable {K : PySem.W.Frag} {T : Tab} {H H' : Hp} {S S' : Addr → Prop}
theorem O3.mono {P P' : D → V → List Addr → Prop} : ∀ {ds : List D} {vs : List V} {Fs : List (List Addr)}, O3 P ds vs Fs → (∀ d v F, F ∈ Fs → P d v F → P' d v F) → O3 P' ds vs Fs
  | _, _, _, .nil, _ => .nil
  | _, _, _, .cons p r, h => .cons (h _ _ _ List.mem_cons_self p) (O3.mono r fun d v F m q => h d v F (List.mem_cons_of_mem _ m) q)
theorem O3.length {P : D → V → List Addr → Prop} : ∀ {ds : List D} {vs : List V} {Fs : List (List Addr)}, O3 P ds vs Fs → ds.length = vs.length ∧ Fs.length = vs.length
  | _, _, _, .nil => ⟨rfl, rfl⟩
  | _, _, _, .cons p r => by obtain ⟨a, b⟩ := O3.length r; simp [a, b]
/-- data that is not owned is owned at any level, if it holds no object that may be owned -/
theorem Own.rep0 {d : D} {v : V} (h : Rep K T H S d v) : Own K T H S 0 d v [] := by simp only [Own]; exact ⟨trivial, h⟩
theorem own_zero {d : D} {v : V} {F : List Addr} : Own K T H S 0 d v F ↔ F = [] ∧ Rep K T H S d v := by simp only [Own]
theorem o3_rep : ∀ {ds : List D} {vs : List V} {Fs : List (List Addr)}, O3 (Own K T H S 0) ds vs Fs → Reps K T H S ds vs ∧ Fs.flatten = []
  | _, _, _, .nil => by simp [Reps]
  | _, _, _, .cons p r => by
    obtain ⟨r1, r2⟩ := o3_rep r
    obtain ⟨e, q⟩ := own_zero.mp p
    subst e
    simp only [Reps, List.flatten_cons, List.nil_append]
    exact ⟨⟨_, _, rfl, q, r1⟩, r2⟩
theorem rep_o3 : ∀ {ds : List D} {vs : List V}, Reps K T H S ds vs → ∃ Fs, O3 (Own K T H S 0) ds vs Fs ∧ Fs.flatten = []
  | [], vs, h => by simp only [Reps] at h; subst h; exact ⟨[], .nil, rfl⟩
  | d :: ds, vs, h => by
    simp only [Reps] at h
    obtain ⟨v, ws, rfl, r1, r2⟩ := h
    obtain ⟨Fs, o, e⟩ := rep_o3 r2
    exact ⟨[] :: Fs, .cons (own_zero.mpr ⟨rfl, r1⟩) o, by simpa using e⟩
/-- an owned list whose items are not owned -/
theorem own_lst1 {xs : List D} {v : V} {F : List Addr} : Own K T H S 1 (.lst xs) v F ↔ ∃ a vs, v = .ref a ∧ H a = some (.lst vs) ∧ F = [a] ∧ Reps K T H S xs vs := by
  simp only [Own]
  constructor
  · rintro ⟨a, vs, Fs, rfl, h, rfl, o⟩
    obtain ⟨r, e⟩ := o3_rep o
    exact ⟨a, vs, rfl, h, by rw [e], r⟩
  · rintro ⟨a, vs, rfl, h, rfl, r⟩
    obtain ⟨Fs, o, e⟩ := rep_o3 r
    exact ⟨a, vs, Fs, rfl, h, by rw [e], o⟩
theorem own_ins1 {c : Nat} {fs : List D} {v : V} {F : List Addr} : Own K T H S 1 (.ins c fs) v F ↔ ∃ a dx vs, v = .ref a ∧ H a = some (.ins (T.cm c) dx ((T.fl c).zip vs)) ∧ F = [a] ∧ fs.length ≤ (T.fl c).length ∧ Reps K T H S fs vs := by
  simp only [Own]
  constructor
  · rintro ⟨a, dx, vs, Fs, rfl, h, rfl, l, o⟩
    obtain ⟨r, e⟩ := o3_rep o
    exact ⟨a, dx, vs, rfl, h, by rw [e], l, r⟩
  · rintro ⟨a, dx, vs, rfl, h, rfl, l, r⟩
    obtain ⟨Fs, o, e⟩ := rep_o3 r
    exact ⟨a, dx, vs, Fs, rfl, h, by rw [e], l, o⟩
end

/-- what a piece of code keeps: O what it owned before, O' what is owned behind -/
structure Fra (H : Hp) (S O : Addr → Prop) (H' : Hp) (S' O' : Addr → Prop) : Prop where
  kp : ∀ b o, H b = some o → ¬ O b → H' b = some o
  sm : ∀ b, S b → S' b
  so : ∀ b, S' b → S b ∨ O b ∨ H b = none
  oo : ∀ b, O' b → O b ∨ H b = none
section
variable {H H1 H2 : Hp} {S S1 S2 O O1 O2 : Addr → Prop}
theorem Fra.refl : Fra H S O H S O := ⟨fun _ _ h _ => h, fun _ h => h, fun _ h => .inl h, fun _ h => .inl h⟩
theorem Fra.none_of (f : Fra H S O H1 S1 O1) {b : Addr} (h : H1 b = none) : O b ∨ H b = none := by
  cases q : H b with
  | none => exact .inr rfl
  | some o =>
    by_cases z : O b
    · exact .inl z
    · rw [f.kp b o q z] at h; cases h
theorem Fra.trans (f : Fra H S O H1 S1 O1) (g : Fra H1 S1 O1 H2 S2 O2) : Fra H S O H2 S2 O2 where
  kp := fun b o h n => g.kp b o (f.kp b o h n) fun z => by
    rcases f.oo b z with q | q
    · exact n q
    · rw [h] at q; cases q
  sm := fun b h => g.sm b (f.sm b h)
  so := fun b h => by
    rcases g.so b h with z | z | z
    · exact f.so b z
    · exact .inr (f.oo b z)
    · exact .inr (f.none_of z)
  oo := fun b h => by
    rcases g.oo b h with z | z
    · exact f.oo b z
    · exact f.none_of z
/-- less is owned behind -/
theorem Fra.less (f : Fra H S O H1 S1 O1) (h : ∀ b, O2 b → O1 b) : Fra H S O H1 S1 O2 := ⟨f.kp, f.sm, f.so, fun b z => f.oo b (h b z)⟩
/-- more was owned before -/
theorem Fra.more (f : Fra H S O H1 S1 O1) (h : ∀ b, O b → O2 b) : Fra H S O2 H1 S1 O1 :=
  ⟨fun b o e n => f.kp b o e fun z => n (h b z), f.sm, fun b z => (f.so b z).imp id (Or.imp_left (h b)), fun b z => (f.oo b z).imp_left (h b)⟩
end

/-- the owned objects: no two names own the same, none of them is among the shared ones; the shared ones are there -/
structure Sep (S : Addr → Prop) (H : Hp) (fp : Nat → List Addr) : Prop where
  mu : ∀ i a, a ∈ fp i → Mut (H a)
  nd : ∀ i, (fp i).Nodup
  dj : ∀ i j a, a ∈ fp i → a ∈ fp j → i = j
  ns : ∀ i a, a ∈ fp i → ¬ S a
  al : ∀ a, S a → ∃ o, H a = some o
def Ow (fp : Nat → List Addr) (a : Addr) : Prop := ∃ i, a ∈ fp i

section
variable {K : PySem.W.Frag} {T : Tab} {H H' : Hp} {S S' O' : Addr → Prop} {fp : Nat → List Addr}
theorem not_ow_of {P : Addr → Prop} {a : Addr} {o : HO} (mu : ∀ a, P a → Mut (H a)) (h : H a = some o) (n : ¬ Mut (some o)) : ¬ P a := fun z => by
  have q := mu a z
  rw [h] at q
  exact n q
/-- a stable place: what is not owned by P stays -/
structure Stay (K : PySem.W.Frag) (H : Hp) (S : Addr → Prop) (H' : Hp) (S' : Addr → Prop) : Prop where
  l : ∀ a vs, H a = some (.lst vs) → S a → H' a = some (.lst vs) ∧ S' a
  c : ∀ a vs, KsL K H a vs → KsL K H' a vs
  t : ∀ a vs, SqT K H a vs → SqT K H' a vs
  i : ∀ a C dx fs, H a = some (.ins C dx fs) → S a → H' a = some (.ins C dx fs) ∧ S' a
theorem Stay.of {O : Addr → Prop} (mu : ∀ a, O a → Mut (H a)) (ns : ∀ a, O a → ¬ S a) (f : Fra H S O H' S' O') : Stay K H S H' S' := by
  refine ⟨fun a vs h s => ⟨f.kp a _ h fun z => ns a z s, f.sm a s⟩, fun a vs h => ?_, fun a vs h => ?_, fun a C dx fs h s => ⟨f.kp a _ h fun z => ns a z s, f.sm a s⟩⟩
  · rcases h with ⟨o, h⟩ | h
    · exact .inl ⟨o, f.kp a _ h (not_ow_of mu h fun z => z)⟩
    · exact .inr h
  · rcases h with (h | ⟨o, h⟩) | h
    · exact .inl (.inl (f.kp a _ h (not_ow_of mu h fun z => z)))
    · exact .inl (.inr ⟨o, f.kp a _ h (not_ow_of mu h fun z => z)⟩)
    · exact .inr h
theorem Stay.rep (s : Stay K H S H' S') {d : D} {v : V} (h : Rep K T H S d v) : Rep K T H' S' d v := Rep.mono s.l s.c s.t s.i d v h
theorem Stay.reps (s : Stay K H S H' S') {d : List D} {v : List V} (h : Reps K T H S d v) : Reps K T H' S' d v := Reps.mono s.l s.c s.t s.i d v h
theorem Sep.stay (p : Sep S H fp) (f : Fra H S (Ow fp) H' S' O') : Stay K H S H' S' := .of (fun a ⟨i, h⟩ => p.mu i a h) (fun a ⟨i, h⟩ => p.ns i a h) f
/-- owned data stays where the shared stays and its own objects stay -/
theorem Own.stay (s : Stay K H S H' S') : ∀ {k : Nat} {d : D} {v : V} {F : List Addr}, Own K T H S k d v F → (∀ a ∈ F, ∀ o, H a = some o → H' a = some o) → Own K T H' S' k d v F := by
  intro k
  induction k with
  | zero => intro d v F h _; simp only [Own] at h ⊢; exact ⟨h.1, s.rep h.2⟩
  | succ k ih =>
    intro d v F h kp
    cases d with
    | lst xs =>
      simp only [Own] at h ⊢
      obtain ⟨a, vs, Fs, e, h1, rfl, o⟩ := h
      refine ⟨a, vs, Fs, e, kp a List.mem_cons_self _ h1, rfl, o.mono fun d v F m q => ih q fun b hb => kp b (List.mem_cons_of_mem _ (List.mem_flatten.mpr ⟨F, m, hb⟩))⟩
    | ins c fs =>
      simp only [Own] at h ⊢
      obtain ⟨a, dx, vs, Fs, e, h1, rfl, l, o⟩ := h
      refine ⟨a, dx, vs, Fs, e, kp a List.mem_cons_self _ h1, rfl, l, o.mono fun d v F m q => ih q fun b hb => kp b (List.mem_cons_of_mem _ (List.mem_flatten.mpr ⟨F, m, hb⟩))⟩
    | _ => simp only [Own] at h ⊢; exact ⟨h.1, s.rep h.2⟩
/-- an owned object is a list or an instance that stands in H -/
theorem Own.mut : ∀ {k : Nat} {d : D} {v : V} {F : List Addr}, Own K T H S k d v F → ∀ a ∈ F, Mut (H a) := by
  intro k
  induction k with
  | zero => intro d v F h a m; simp only [Own] at h; rw [h.1] at m; cases m
  | succ k ih =>
    have go : ∀ {ds : List D} {vs : List V} {Fs : List (List Addr)}, O3 (Own K T H S k) ds vs Fs → ∀ a ∈ Fs.flatten, Mut (H a) := by
      intro ds vs Fs o
      induction o with
      | nil => intro a m; simp at m
      | cons p _ ih2 =>
        intro a m
        simp only [List.flatten_cons, List.mem_append] at m
        rcases m with m | m
        · exact ih p a m
        · exact ih2 a m
    intro d v F h a m
    cases d with
    | lst xs =>
      simp only [Own] at h
      obtain ⟨b, vs, Fs, e, h1, rfl, o⟩ := h
      rcases List.mem_cons.mp m with q | q
      · rw [q, h1]; exact trivial
      · exact go o a q
    | ins c fs =>
      simp only [Own] at h
      obtain ⟨b, dx, vs, Fs, e, h1, rfl, l, o⟩ := h
      rcases List.mem_cons.mp m with q | q
      · rw [q, h1]; exact trivial
      · exact go o a q
    | _ => simp only [Own] at h; rw [h.1] at m; cases m
/-- owned data is given away to the shared -/
theorem Own.freeze : ∀ {k : Nat} {d : D} {v : V} {F : List Addr}, Own K T H S k d v F → Rep K T H (fun a => S a ∨ a ∈ F) d v := by
  have stay : ∀ {S1 S2 : Addr → Prop}, (∀ a, S1 a → S2 a) → Stay K H S1 H S2 := fun {S1 S2} h => ⟨fun a vs z s => ⟨z, h a s⟩, fun _ _ z => z, fun _ _ z => z, fun a _ _ _ z s => ⟨z, h a s⟩⟩
  intro k
  induction k with
  | zero => intro d v F h; simp only [Own] at h; exact (stay fun a s => .inl s).rep h.2
  | succ k ih =>
    have go : ∀ {ds : List D} {vs : List V} {Fs : List (List Addr)}, O3 (Own K T H S k) ds vs Fs → Reps K T H (fun a => S a ∨ a ∈ Fs.flatten) ds vs := by
      intro ds vs Fs o
      induction o with
      | nil => simp [Reps]
      | @cons d v F ds vs Fs p _ ih2 =>
        simp only [Reps]
        refine ⟨v, vs, rfl, ?_, ?_⟩
        · exact (stay fun a s => by rcases s with s | s; exact .inl s; exact .inr (by simp [s])).rep (ih p)
        · exact (stay fun a s => by rcases s with s | s; exact .inl s; exact .inr (List.mem_append_right _ s)).reps ih2
    intro d v F h
    cases d with
    | lst xs =>
      simp only [Own] at h
      obtain ⟨b, vs, Fs, e, h1, rfl, o⟩ := h
      simp only [Rep]
      exact ⟨b, vs, e, h1, .inr List.mem_cons_self, (stay fun a s => s.imp id (List.mem_cons_of_mem _)).reps (go o)⟩
    | ins c fs =>
      simp only [Own] at h
      obtain ⟨b, dx, vs, Fs, e, h1, rfl, l, o⟩ := h
      simp only [Rep]
      exact ⟨b, dx, vs, e, h1, .inr List.mem_cons_self, l, (stay fun a s => s.imp id (List.mem_cons_of_mem _)).reps (go o)⟩
    | _ => simp only [Own] at h; exact (stay fun a s => .inl s).rep h.2
theorem Stay.more {S1 S2 : Addr → Prop} (h : ∀ a, S1 a → S2 a) : Stay K H S1 H S2 := ⟨fun a vs z s => ⟨z, h a s⟩, fun _ _ z => z, fun _ _ z => z, fun a _ _ _ z s => ⟨z, h a s⟩⟩
end
end Z
set_option Elab.async false
set_option linter.all false
set_option maxRecDepth 100000
/-! Z1: results (R), the state of a frame (Stt), the judgements over data -/
namespace Z
open PySem PySem.Spec L2
open PyProof.Rows hiding St

/-- how a piece of code ends: with a value; with an own error; or nothing is said -/
inductive R (α : Type) where
  | ok (a : α) | er (c : Nat) (fs : List D) | bad
@[inline] def R.bind {α β : Type} (x : R α) (f : α → R β) : R β := match x with
  | .ok a => f a
  | .er c fs => .er c fs
  | .bad => .bad
instance : Monad R where
  pure := .ok
  bind := R.bind
theorem R.bind_ok {α β : Type} {a : α} {f : α → R β} : (R.ok a).bind f = f a := rfl
theorem R.bind_er {α β : Type} {c : Nat} {fs : List D} {f : α → R β} : (R.er c fs).bind f = .er c fs := rfl
theorem R.bind_bad {α β : Type} {f : α → R β} : (R.bad : R α).bind f = .bad := rfl

structure Stt (K : PySem.W.Frag) (T : Tab) (Γ : List Nat) (S : Addr → Prop) (σ : St) (H : Hp) (ρ : Env) (fp : Nat → List Addr) : Prop where
  sep : Sep S H fp
  len : ρ.length = σ.length
  gl : Γ.length = σ.length
  sl : ∀ i d, ρ[i]? = some (some d) → ∃ v, σ[i]? = some (some v) ∧ Own K T H S (Γ.getD i 0) d v (fp i)

/-- a value at hand -/
structure Val (K : PySem.W.Frag) (T : Tab) (S : Addr → Prop) (H : Hp) (fp : Nat → List Addr) (k : Nat) (d : D) (v : V) (Fv : List Addr) : Prop where
  own : Own K T H S k d v Fv
  nd : Fv.Nodup
  ns : ∀ a ∈ Fv, ¬ S a
  dj : ∀ a ∈ Fv, ∀ i, a ∉ fp i

/-- an exception of the class c with these attributes -/
def OutX (K : PySem.W.Frag) (T : Tab) (W : WX) (σ : St) (H : Hp) (S O : Addr → Prop) (c : Nat) (fs : List D) : Prop :=
  ∀ (dx : Addr) (xs : List (Str × V)) (vs : List V) (H' : Hp) (S' : Addr → Prop), H' dx = some (.xd xs) → (∀ (j : Nat) (f : Str), (T.fl c)[j]? = some f → xs.lookup f = vs[j]?) → Reps K T H' S' fs vs →
    Fra H S O H' S' (fun _ => False) → (∀ a, S' a → ∃ o, H' a = some o) → W (.ref (T.cm c)) (some dx) σ H'

def OutE (K : PySem.W.Frag) (T : Tab) (W : WX) (Γ' : List Nat) (k : Nat) (σ : St) (H : Hp) (S : Addr → Prop) (fp : Nat → List Addr) (Q : VK) : R (D × Env) → Prop
  | .ok (d, ρ') => ∀ v H' S' fp' Fv, Stt K T Γ' S' σ H' ρ' fp' → Val K T S' H' fp' k d v Fv → Fra H S (Ow fp) H' S' (fun a => Ow fp' a ∨ a ∈ Fv) → Q v H'
  | .er c fs => OutX K T W σ H S (Ow fp) c fs
  | .bad => False
def OutT (K : PySem.W.Frag) (T : Tab) (W : WX) (Γ' : List Nat) (σ : St) (H : Hp) (S : Addr → Prop) (fp : Nat → List Addr) (Q : Bool → Hp → Prop) : R (Bool × Env) → Prop
  | .ok (b, ρ') => ∀ H' S' fp', Stt K T Γ' S' σ H' ρ' fp' → Fra H S (Ow fp) H' S' (Ow fp') → Q b H'
  | .er c fs => OutX K T W σ H S (Ow fp) c fs
  | .bad => False
def OutA (K : PySem.W.Frag) (T : Tab) (W : WX) (Γ' : List Nat) (σ : St) (H : Hp) (S : Addr → Prop) (fp : Nat → List Addr) (Q : List V → Hp → Prop) : R (List D × Env) → Prop
  | .ok (ds, ρ') => ∀ vs H' S' fp', Stt K T Γ' S' σ H' ρ' fp' → Reps K T H' S' ds vs → Fra H S (Ow fp) H' S' (Ow fp') → Q vs H'
  | .er c fs => OutX K T W σ H S (Ow fp) c fs
  | .bad => False
def tE (K : PySem.W.Frag) (T : Tab) (W : WX) (Γ Γ' : List Nat) (k : Nat) (f : Env → R (D × Env)) : TE := fun σ H Q => ∃ S ρ fp, Stt K T Γ S σ H ρ fp ∧ OutE K T W Γ' k σ H S fp Q (f ρ)
def tT (K : PySem.W.Frag) (T : Tab) (W : WX) (Γ Γ' : List Nat) (f : Env → R (Bool × Env)) : TT := fun σ H Q => ∃ S ρ fp, Stt K T Γ S σ H ρ fp ∧ OutT K T W Γ' σ H S fp Q (f ρ)
def tA (K : PySem.W.Frag) (T : Tab) (W : WX) (Γ Γ' : List Nat) (f : Env → R (List D × Env)) : TA := fun σ H Q => ∃ S ρ fp, Stt K T Γ S σ H ρ fp ∧ OutA K T W Γ' σ H S fp Q (f ρ)

/-- the code around: the own classes, what is wanted of errors -/
structure Cz where
  T : Tab
  W : WX
abbrev DE (X : Cx) (Z : Cz) (Γ : List Nat) (e : Expr) (Γ' : List Nat) (k : Nat) (f : Env → R (D × Env)) : Prop := PE X e (tE X.K Z.T Z.W Γ Γ' k f)
abbrev DT (X : Cx) (Z : Cz) (Γ : List Nat) (e : Expr) (Γ' : List Nat) (f : Env → R (Bool × Env)) : Prop := PT X e (tT X.K Z.T Z.W Γ Γ' f)
abbrev DA (X : Cx) (Z : Cz) (Γ : List Nat) (es : List Expr) (Γ' : List Nat) (f : Env → R (List D × Env)) : Prop := PA X es (tA X.K Z.T Z.W Γ Γ' f)

section
variable {X : Cx} {e : Expr} {es : List Expr} {t t' : TE} {u u' : TT} {r r' : TA}
theorem pe_imp (h : PE X e t) (i : ∀ σ H Q, t' σ H Q → t σ H Q) : PE X e t' := ⟨fun pins s σ H Q I q => h.run pins s σ H Q I (i σ H Q q)⟩
theorem pt_imp (h : PT X e u) (i : ∀ σ H Q, u' σ H Q → u σ H Q) : PT X e u' := ⟨fun pins s σ H Q I q => h.run pins s σ H Q I (i σ H Q q)⟩
theorem pw_imp (h : PW X e u) (i : ∀ σ H Q, u' σ H Q → u σ H Q) : PW X e u' := ⟨fun whole pins s σ H Q I q => h.run whole pins s σ H Q I (i σ H Q q)⟩
theorem pa_imp (h : PA X es r) (i : ∀ σ H Q, r' σ H Q → r σ H Q) : PA X es r' := ⟨fun pos pins s σ H Q I q => h.run pos pins s σ H Q I (i σ H Q q)⟩
end

section
variable {K : PySem.W.Frag} {T : Tab} {W : WX} {Γ Γ1 Γ2 : List Nat} {k : Nat} {σ : St} {H H1 : Hp} {S S1 : Addr → Prop} {fp fp1 : Nat → List Addr} {ρ ρ1 : Env} {Q : VK}
theorem Fra.ow {O : Addr → Prop} {H' : Hp} {S' : Addr → Prop} {fp' : Nat → List Addr} (f : Fra H S O H' S' (fun a => Ow fp' a ∨ a ∈ ([] : List Addr))) : Fra H S O H' S' (Ow fp') := f.less fun b z => .inl z
theorem Fra.ow' {O : Addr → Prop} {H' : Hp} {S' : Addr → Prop} {fp' : Nat → List Addr} (f : Fra H S O H' S' (Ow fp')) : Fra H S O H' S' (fun a => Ow fp' a ∨ a ∈ ([] : List Addr)) := f.less fun b z => z.elim id fun q => nomatch q
theorem OutX.before {c : Nat} {fs : List D} {O O1 : Addr → Prop} (f : Fra H S O H1 S1 O1) (h : OutX K T W σ H S O c fs) : OutX K T W σ H1 S1 O1 c fs :=
  fun dx xs vs H' S' e1 e2 r g al => h dx xs vs H' S' e1 e2 r (f.trans g) al
theorem OutE.before {r : R (D × Env)} {Γ' : List Nat} (f : Fra H S (Ow fp) H1 S1 (Ow fp1)) (h : OutE K T W Γ' k σ H S fp Q r) : OutE K T W Γ' k σ H1 S1 fp1 Q r := by
  cases r with
  | ok a => exact fun v H' S' fp' Fv s x g => h v H' S' fp' Fv s x (f.trans g)
  | er c fs => exact OutX.before f h
  | bad => exact h
theorem OutT.before {r : R (Bool × Env)} {Γ' : List Nat} {Q : Bool → Hp → Prop} (f : Fra H S (Ow fp) H1 S1 (Ow fp1)) (h : OutT K T W Γ' σ H S fp Q r) : OutT K T W Γ' σ H1 S1 fp1 Q r := by
  cases r with
  | ok a => exact fun H' S' fp' s g => h H' S' fp' s (f.trans g)
  | er c fs => exact OutX.before f h
  | bad => exact h
theorem OutA.before {r : R (List D × Env)} {Γ' : List Nat} {Q : List V → Hp → Prop} (f : Fra H S (Ow fp) H1 S1 (Ow fp1)) (h : OutA K T W Γ' σ H S fp Q r) : OutA K T W Γ' σ H1 S1 fp1 Q r := by
  cases r with
  | ok a => exact fun vs H' S' fp' s r g => h vs H' S' fp' s r (f.trans g)
  | er c fs => exact OutX.before f h
  | bad => exact h
/-- a value without owned objects -/
theorem Val.rep {d : D} {v : V} {F : List Addr} (x : Val K T S H fp 0 d v F) : F = [] ∧ Rep K T H S d v := own_zero.mp x.own
theorem Val.of {d : D} {v : V} (r : Rep K T H S d v) : Val K T S H fp 0 d v [] := ⟨own_zero.mpr ⟨rfl, r⟩, List.nodup_nil, fun a h => (nomatch h), fun a h => (nomatch h)⟩
/-- THE STEP: an expression's value goes on to what follows -/
theorem OutE.then0 {r : R (D × Env)} {Γ' : List Nat} {Q' : VK} {g : D × Env → R (D × Env)} (h : OutE K T W Γ2 k σ H S fp Q (r.bind g))
    (go : ∀ d ρ1 v H1 S1 fp1, r = .ok (d, ρ1) → Stt K T Γ' S1 σ H1 ρ1 fp1 → Rep K T H1 S1 d v → Fra H S (Ow fp) H1 S1 (Ow fp1) → OutE K T W Γ2 k σ H1 S1 fp1 Q (g (d, ρ1)) → Q' v H1) : OutE K T W Γ' 0 σ H S fp Q' r := by
  cases r with
  | ok a =>
    obtain ⟨d, ρ1⟩ := a
    intro v H' S' fp' Fv s x f
    obtain ⟨e, rr⟩ := x.rep
    subst e
    exact go d ρ1 v H' S' fp' rfl s rr f.ow (OutE.before f.ow h)
  | er c fs => exact h
  | bad => exact h
theorem OutE.thenA {r : R (D × Env)} {Γ' : List Nat} {Q' : VK} {Q2 : List V → Hp → Prop} {g : D × Env → R (List D × Env)} (h : OutA K T W Γ2 σ H S fp Q2 (r.bind g))
    (go : ∀ d ρ1 v H1 S1 fp1, r = .ok (d, ρ1) → Stt K T Γ' S1 σ H1 ρ1 fp1 → Rep K T H1 S1 d v → Fra H S (Ow fp) H1 S1 (Ow fp1) → OutA K T W Γ2 σ H1 S1 fp1 Q2 (g (d, ρ1)) → Q' v H1) : OutE K T W Γ' 0 σ H S fp Q' r := by
  cases r with
  | ok a =>
    obtain ⟨d, ρ1⟩ := a
    intro v H' S' fp' Fv s x f
    obtain ⟨e, rr⟩ := x.rep
    subst e
    exact go d ρ1 v H' S' fp' rfl s rr f.ow (OutA.before f.ow h)
  | er c fs => exact h
  | bad => exact h
theorem OutE.thenT {r : R (D × Env)} {Γ' : List Nat} {Q' : VK} {Q2 : Bool → Hp → Prop} {g : D × Env → R (Bool × Env)} (h : OutT K T W Γ2 σ H S fp Q2 (r.bind g))
    (go : ∀ d ρ1 v H1 S1 fp1, r = .ok (d, ρ1) → Stt K T Γ' S1 σ H1 ρ1 fp1 → Rep K T H1 S1 d v → Fra H S (Ow fp) H1 S1 (Ow fp1) → OutT K T W Γ2 σ H1 S1 fp1 Q2 (g (d, ρ1)) → Q' v H1) : OutE K T W Γ' 0 σ H S fp Q' r := by
  cases r with
  | ok a =>
    obtain ⟨d, ρ1⟩ := a
    intro v H' S' fp' Fv s x f
    obtain ⟨e, rr⟩ := x.rep
    subst e
    exact go d ρ1 v H' S' fp' rfl s rr f.ow (OutT.before f.ow h)
  | er c fs => exact h
  | bad => exact h
theorem OutT.thenE {r : R (Bool × Env)} {Γ' : List Nat} {Q' : Bool → Hp → Prop} {g : Bool × Env → R (D × Env)} (h : OutE K T W Γ2 k σ H S fp Q (r.bind g))
    (go : ∀ b ρ1 H1 S1 fp1, r = .ok (b, ρ1) → Stt K T Γ' S1 σ H1 ρ1 fp1 → Fra H S (Ow fp) H1 S1 (Ow fp1) → OutE K T W Γ2 k σ H1 S1 fp1 Q (g (b, ρ1)) → Q' b H1) : OutT K T W Γ' σ H S fp Q' r := by
  cases r with
  | ok a =>
    obtain ⟨d, ρ1⟩ := a
    intro H' S' fp' s f
    exact go d ρ1 H' S' fp' rfl s f (OutE.before f h)
  | er c fs => exact h
  | bad => exact h
theorem OutT.thenT {r : R (Bool × Env)} {Γ' : List Nat} {Q' Q2 : Bool → Hp → Prop} {g : Bool × Env → R (Bool × Env)} (h : OutT K T W Γ2 σ H S fp Q2 (r.bind g))
    (go : ∀ b ρ1 H1 S1 fp1, r = .ok (b, ρ1) → Stt K T Γ' S1 σ H1 ρ1 fp1 → Fra H S (Ow fp) H1 S1 (Ow fp1) → OutT K T W Γ2 σ H1 S1 fp1 Q2 (g (b, ρ1)) → Q' b H1) : OutT K T W Γ' σ H S fp Q' r := by
  cases r with
  | ok a =>
    obtain ⟨d, ρ1⟩ := a
    intro H' S' fp' s f
    exact go d ρ1 H' S' fp' rfl s f (OutT.before f h)
  | er c fs => exact h
  | bad => exact h
theorem OutA.thenE {r : R (List D × Env)} {Γ' : List Nat} {Q' : List V → Hp → Prop} {g : List D × Env → R (D × Env)} (h : OutE K T W Γ2 k σ H S fp Q (r.bind g))
    (go : ∀ ds ρ1 vs H1 S1 fp1, r = .ok (ds, ρ1) → Stt K T Γ' S1 σ H1 ρ1 fp1 → Reps K T H1 S1 ds vs → Fra H S (Ow fp) H1 S1 (Ow fp1) → OutE K T W Γ2 k σ H1 S1 fp1 Q (g (ds, ρ1)) → Q' vs H1) : OutA K T W Γ' σ H S fp Q' r := by
  cases r with
  | ok a =>
    obtain ⟨d, ρ1⟩ := a
    intro vs H' S' fp' s rr f
    exact go d ρ1 vs H' S' fp' rfl s rr f (OutE.before f h)
  | er c fs => exact h
  | bad => exact h
theorem OutA.thenA {r : R (List D × Env)} {Γ' : List Nat} {Q' Q2 : List V → Hp → Prop} {g : List D × Env → R (List D × Env)} (h : OutA K T W Γ2 σ H S fp Q2 (r.bind g))
    (go : ∀ ds ρ1 vs H1 S1 fp1, r = .ok (ds, ρ1) → Stt K T Γ' S1 σ H1 ρ1 fp1 → Reps K T H1 S1 ds vs → Fra H S (Ow fp) H1 S1 (Ow fp1) → OutA K T W Γ2 σ H1 S1 fp1 Q2 (g (ds, ρ1)) → Q' vs H1) : OutA K T W Γ' σ H S fp Q' r := by
  cases r with
  | ok a =>
    obtain ⟨d, ρ1⟩ := a
    intro vs H' S' fp' s rr f
    exact go d ρ1 vs H' S' fp' rfl s rr f (OutA.before f h)
  | er c fs => exact h
  | bad => exact h
theorem Stt.rep_fra {d : D} {v : V} {ρ : Env} {O' : Addr → Prop} (s : Stt K T Γ S σ H ρ fp) (r : Rep K T H S d v) (f : Fra H S (Ow fp) H1 S1 O') : Rep K T H1 S1 d v := (s.sep.stay f).rep r
theorem Stt.reps_fra {d : List D} {v : List V} {ρ : Env} {O' : Addr → Prop} (s : Stt K T Γ S σ H ρ fp) (r : Reps K T H S d v) (f : Fra H S (Ow fp) H1 S1 O') : Reps K T H1 S1 d v := (s.sep.stay f).reps r
end
end Z
set_option Elab.async false
set_option linter.all false
set_option maxRecDepth 100000
/-! Z2: expressions: names, constants, operators on plain data, displays -/
namespace Z
open PySem PySem.Spec L2
open PyProof.Rows hiding St

/-! ### the mirror's words -/
def mVar (i : Nat) : Env → R (D × Env) := fun ρ => match ρ[i]? with
  | some (some d) => .ok (d, ρ)
  | _ => .bad
def mMov (i : Nat) : Env → R (D × Env) := fun ρ => match ρ[i]? with
  | some (some d) => .ok (d, ρ.set i none)
  | _ => .bad
def mCon (d : D) : Env → R (D × Env) := fun ρ => .ok (d, ρ)
def ofO {α : Type} : Option α → R α
  | some a => .ok a
  | none => .bad
def mUn (g : D → Option D) (fa : Env → R (D × Env)) : Env → R (D × Env) := fun ρ => (fa ρ).bind fun (x, ρ1) => (ofO (g x)).bind fun d => .ok (d, ρ1)
def mBin (g : D → D → Option D) (fa fb : Env → R (D × Env)) : Env → R (D × Env) := fun ρ => (fa ρ).bind fun (x, ρ1) => (fb ρ1).bind fun (y, ρ2) => (ofO (g x y)).bind fun d => .ok (d, ρ2)
def mNil : Env → R (List D × Env) := fun ρ => .ok ([], ρ)
def mCons (fa : Env → R (D × Env)) (fr : Env → R (List D × Env)) : Env → R (List D × Env) := fun ρ => (fa ρ).bind fun (x, ρ1) => (fr ρ1).bind fun (xs, ρ2) => .ok (x :: xs, ρ2)
def mPrim (g : List D → Option D) (f : Env → R (List D × Env)) : Env → R (D × Env) := fun ρ => (f ρ).bind fun (xs, ρ1) => (ofO (g xs)).bind fun d => .ok (d, ρ1)

def fpSet (fp : Nat → List Addr) (i : Nat) (F : List Addr) : Nat → List Addr := fun j => if j = i then F else fp j
theorem fpSet_same {fp : Nat → List Addr} {i : Nat} {F : List Addr} : fpSet fp i F i = F := if_pos rfl
theorem fpSet_ne {fp : Nat → List Addr} {i j : Nat} {F : List Addr} (h : j ≠ i) : fpSet fp i F j = fp j := if_neg h

section
variable {K : PySem.W.Frag} {T : Tab} {W : WX} {Γ Γ' : List Nat} {k : Nat} {σ : St} {H : Hp} {S : Addr → Prop} {fp : Nat → List Addr} {ρ : Env} {Q : VK}
theorem mem_fpSet {i : Nat} {F : List Addr} {j : Nat} {a : Addr} (h : a ∈ fpSet fp i F j) : (j = i ∧ a ∈ F) ∨ (j ≠ i ∧ a ∈ fp j) := by
  by_cases e : j = i
  · subst e; rw [fpSet_same] at h; exact .inl ⟨rfl, h⟩
  · rw [fpSet_ne e] at h; exact .inr ⟨e, h⟩
theorem Sep.set {i : Nat} {F : List Addr} (s : Sep S H fp) (mu : ∀ a ∈ F, Mut (H a)) (nd : F.Nodup) (ns : ∀ a ∈ F, ¬ S a) (dj : ∀ a ∈ F, ∀ j, j ≠ i → a ∉ fp j) : Sep S H (fpSet fp i F) where
  mu := fun j a h => by
    rcases mem_fpSet h with ⟨_, h⟩ | ⟨_, h⟩
    · exact mu a h
    · exact s.mu j a h
  nd := fun j => by
    by_cases e : j = i
    · subst e; rw [fpSet_same]; exact nd
    · rw [fpSet_ne e]; exact s.nd j
  dj := fun j l a h h' => by
    rcases mem_fpSet h with ⟨e, h⟩ | ⟨e, h⟩ <;> rcases mem_fpSet h' with ⟨e', h'⟩ | ⟨e', h'⟩
    · rw [e, e']
    · exact absurd h' (dj a h l e')
    · exact absurd h (dj a h' j e)
    · exact s.dj j l a h h'
  ns := fun j a h => by
    rcases mem_fpSet h with ⟨_, h⟩ | ⟨_, h⟩
    · exact ns a h
    · exact s.ns j a h
  al := s.al
/-- what i owned is given to the shared -/
theorem Sep.give (s : Sep S H fp) (i : Nat) : Sep (fun a => S a ∨ a ∈ fp i) H (fpSet fp i []) where
  mu := fun j a h => by
    rcases mem_fpSet h with ⟨_, h⟩ | ⟨_, h⟩
    · cases h
    · exact s.mu j a h
  nd := fun j => by
    by_cases e : j = i
    · subst e; rw [fpSet_same]; exact List.nodup_nil
    · rw [fpSet_ne e]; exact s.nd j
  dj := fun j l a h h' => by
    rcases mem_fpSet h with ⟨e, h⟩ | ⟨e, h⟩ <;> rcases mem_fpSet h' with ⟨e', h'⟩ | ⟨e', h'⟩
    · cases h
    · cases h
    · cases h'
    · exact s.dj j l a h h'
  ns := fun j a h => by
    rcases mem_fpSet h with ⟨_, h⟩ | ⟨e, h⟩
    · cases h
    · intro z
      rcases z with z | z
      · exact s.ns j a h z
      · exact e (s.dj j i a h z)
  al := fun a h => by
    rcases h with h | h
    · exact s.al a h
    · have m := s.mu i a h
      cases q : H a with
      | none => rw [q] at m; exact m.elim
      | some o => exact ⟨o, rfl⟩
theorem Fra.give (s : Sep S H fp) (i : Nat) : Fra H S (Ow fp) H (fun a => S a ∨ a ∈ fp i) (Ow (fpSet fp i [])) where
  kp := fun b o h _ => h
  sm := fun b h => .inl h
  so := fun b h => h.elim .inl fun z => .inr (.inl ⟨i, z⟩)
  oo := fun b ⟨j, h⟩ => by
    rcases mem_fpSet h with ⟨_, h⟩ | ⟨_, h⟩
    · cases h
    · exact .inl ⟨j, h⟩
theorem Stt.give (s : Stt K T Γ S σ H ρ fp) (i : Nat) : Stt K T (Γ.set i 0) (fun a => S a ∨ a ∈ fp i) σ H ρ (fpSet fp i []) := by
  refine ⟨s.sep.give i, s.len, by simp [s.gl], fun j d h => ?_⟩
  obtain ⟨v, hv, o⟩ := s.sl j d h
  refine ⟨v, hv, ?_⟩
  by_cases e : j = i
  · subst e
    rw [fpSet_same]
    have z : (Γ.set j 0).getD j 0 = 0 := by
      by_cases hh : j < Γ.length
      · simp [List.getD_eq_getElem?_getD, List.getElem?_set, hh]
      · rw [List.getD_eq_getElem?_getD, List.getElem?_eq_none (by simpa using hh)]; rfl
    rw [z]
    exact own_zero.mpr ⟨rfl, o.freeze⟩
  · rw [fpSet_ne e]
    have z : (Γ.set i 0).getD j 0 = Γ.getD j 0 := by
      simp only [List.getD_eq_getElem?_getD]
      rw [List.getElem?_set_ne (Ne.symm e)]
    rw [z]
    exact o.stay (Stay.more fun a h => .inl h) fun a _ o h => h
theorem getD_set_same {Γ : List Nat} {i k : Nat} (h : i < Γ.length) : (Γ.set i k).getD i 0 = k := by
  simp [List.getD_eq_getElem?_getD, List.getElem?_set, h]
theorem getD_set_ne {Γ : List Nat} {i j k : Nat} (e : j ≠ i) : (Γ.set i k).getD j 0 = Γ.getD j 0 := by
  simp only [List.getD_eq_getElem?_getD]
  rw [List.getElem?_set_ne (Ne.symm e)]
/-- a name takes a value -/
theorem Stt.put {i : Nat} {d : D} {v : V} {Fv : List Addr} (s : Stt K T Γ S σ H ρ fp) (hi : i < Γ.length) (x : Val K T S H fp k d v Fv) : Stt K T (Γ.set i k) S (σ.set i (some v)) H (ρ.set i (some d)) (fpSet fp i Fv) := by
  have hl : i < σ.length := by rw [← s.gl]; exact hi
  refine ⟨s.sep.set x.own.mut x.nd x.ns fun a h j _ => x.dj a h j, by simp [s.len], by simp [s.gl], fun j e h => ?_⟩
  by_cases q : j = i
  · subst q
    rw [List.getElem?_set_self (by rw [s.len]; exact hl)] at h
    cases h
    exact ⟨v, by rw [List.getElem?_set_self hl], by rw [getD_set_same hi, fpSet_same]; exact x.own⟩
  · rw [List.getElem?_set_ne (Ne.symm q)] at h
    obtain ⟨u, hu, o⟩ := s.sl j e h
    exact ⟨u, by rw [List.getElem?_set_ne (Ne.symm q)]; exact hu, by rw [getD_set_ne q, fpSet_ne q]; exact o⟩
theorem Fra.put {i : Nat} {Fv : List Addr} : Fra H S (fun a => Ow fp a ∨ a ∈ Fv) H S (Ow (fpSet fp i Fv)) :=
  ⟨fun _ _ h _ => h, fun _ h => h, fun _ h => .inl h, fun b ⟨j, h⟩ => by
    rcases mem_fpSet h with ⟨_, h⟩ | ⟨_, h⟩
    · exact .inl (.inr h)
    · exact .inl (.inl ⟨j, h⟩)⟩
/-- a name's value is forgotten; what it owned is let go -/
theorem Stt.drop (s : Stt K T Γ S σ H ρ fp) (i : Nat) : Stt K T Γ S σ H (ρ.set i none) (fpSet fp i []) := by
  refine ⟨s.sep.set (fun a h => (nomatch h)) List.nodup_nil (fun a h => (nomatch h)) (fun a h => (nomatch h)), by simp [s.len], s.gl, fun j e h => ?_⟩
  by_cases q : j = i
  · subst q
    by_cases hl : j < ρ.length
    · rw [List.getElem?_set_self hl] at h; cases h
    · rw [List.getElem?_eq_none (by simpa using hl)] at h; cases h
  · rw [List.getElem?_set_ne (Ne.symm q)] at h
    obtain ⟨u, hu, o⟩ := s.sl j e h
    exact ⟨u, hu, by rw [fpSet_ne q]; exact o⟩
theorem Fra.drop (i : Nat) : Fra H S (Ow fp) H S (Ow (fpSet fp i [])) :=
  ⟨fun _ _ h _ => h, fun _ h => h, fun _ h => .inl h, fun b ⟨j, h⟩ => by
    rcases mem_fpSet h with ⟨_, h⟩ | ⟨_, h⟩
    · cases h
    · exact .inl ⟨j, h⟩⟩
end

/-! ### names, constants -/
section
variable {X : Cx} {C : Cz} {Γ Γ' Γ1 Γ2 : List Nat} {k i : Nat} {x : Str} {pos : Pos} {a b e : Expr} {es : List Expr} {fa fb : Env → R (D × Env)} {fs : Env → R (List D × Env)}
theorem mVar_ok {ρ : Env} {d : D} {ρ' : Env} (h : mVar i ρ = .ok (d, ρ')) : ρ[i]? = some (some d) ∧ ρ' = ρ := by
  unfold mVar at h
  split at h
  · rename_i q; cases h; exact ⟨q, rfl⟩
  · cases h
/-- a name that owns nothing -/
theorem de_var (hv : PE X (.Name x pos) (tVar i)) (hk : Γ.getD i 0 = 0 := by rfl) : DE X C Γ (.Name x pos) Γ 0 (mVar i) := by
  refine pe_imp hv fun σ H Q h => ?_
  obtain ⟨S, ρ, fp, s, h⟩ := h
  unfold mVar at h
  split at h
  · rename_i d q
    obtain ⟨v, hv, o⟩ := s.sl i d q
    rw [hk] at o
    obtain ⟨e, r⟩ := own_zero.mp o
    exact ⟨v, hv, h v H S fp [] s (.of r) Fra.refl.ow'⟩
  · exact h.elim
/-- a name whose objects become shared -/
theorem de_frz (hv : PE X (.Name x pos) (tVar i)) (hΓ : Γ.set i 0 = Γ' := by rfl) : DE X C Γ (.Name x pos) Γ' 0 (mVar i) := by
  subst hΓ
  refine pe_imp hv fun σ H Q h => ?_
  obtain ⟨S, ρ, fp, s, h⟩ := h
  unfold mVar at h
  split at h
  · rename_i d q
    obtain ⟨v, hv, o⟩ := s.sl i d q
    exact ⟨v, hv, h v H _ _ [] (s.give i) (.of o.freeze) (Fra.give s.sep i).ow'⟩
  · exact h.elim
/-- a name's last use: its objects go with the value -/
theorem de_mov (hv : PE X (.Name x pos) (tVar i)) (hk : Γ.getD i 0 = k := by rfl) : DE X C Γ (.Name x pos) Γ k (mMov i) := by
  refine pe_imp hv fun σ H Q h => ?_
  obtain ⟨S, ρ, fp, s, h⟩ := h
  unfold mMov at h
  split at h
  · rename_i d q
    obtain ⟨v, hv, o⟩ := s.sl i d q
    rw [hk] at o
    refine ⟨v, hv, h v H S (fpSet fp i []) (fp i) (s.drop i) ⟨o, s.sep.nd i, fun a h => s.sep.ns i a h, fun a h j z => ?_⟩ ⟨fun _ _ h _ => h, fun _ h => h, fun _ h => .inl h, fun b z => ?_⟩⟩
    · rcases mem_fpSet z with ⟨_, z⟩ | ⟨e, z⟩
      · cases z
      · exact e (s.sep.dj j i a z h)
    · rcases z with ⟨j, z⟩ | z
      · rcases mem_fpSet z with ⟨_, z⟩ | ⟨_, z⟩
        · cases z
        · exact .inl ⟨j, z⟩
      · exact .inl ⟨i, z⟩
  · exact h.elim
theorem de_con {v : V} {d : D} (h : PE X e (tC v)) (r : ∀ S H, Rep X.K C.T H S d v) : DE X C Γ e Γ 0 (mCon d) := by
  refine pe_imp h fun σ H Q h => ?_
  obtain ⟨S, ρ, fp, s, h⟩ := h
  exact h v H S fp [] s (.of (r S H)) Fra.refl.ow'
theorem de_int {j : Int} {n : Nat} : DE X C Γ (.Constant (.int j) n pos) Γ 0 (mCon (.int j)) := de_con pe_int fun S H => by simp [Rep]
theorem de_str {j : Str} {n : Nat} : DE X C Γ (.Constant (.str j) n pos) Γ 0 (mCon (.str j)) := de_con pe_str fun S H => by simp [Rep]
theorem de_bl {j : Bool} {n : Nat} : DE X C Γ (.Constant (.bool j) n pos) Γ 0 (mCon (.bl j)) := de_con pe_bl fun S H => by simp [Rep]
theorem de_non {n : Nat} : DE X C Γ (.Constant .none n pos) Γ 0 (mCon .non) := de_con pe_non fun S H => by simp [Rep]
/-- a module's constant -/
theorem de_glob {v : V} {u : Value} {d : D} (hg : Gl X x) (hm : X.mg x = some u) (r : RelV v u) (rd : ∀ S H, Rep X.K C.T H S d v) (hd : (x == ("__debug__" : Str)) = false := by decide) : DE X C Γ (.Name x pos) Γ 0 (mCon d) := de_con (pe_glob hg hm r hd) rd
end

/-! ### what an operation on plain data gives -/
/-- rd: what is asked of the operation; d: what it gives: a value that stands, or a new list or tuple -/
def Gives (K : PySem.W.Frag) (T : Tab) (S : Addr → Prop) (H : Hp) (k : Nat) (d : D) (rd : VK → Prop) : Prop :=
  (∃ v, Rep K T H S d v ∧ k = 0 ∧ ∀ Q, Q v H → rd Q) ∨
  (∃ xs vs, d = .lst xs ∧ k ≤ 1 ∧ Reps K T H S xs vs ∧ ∀ Q : VK, (∀ p, H p = none → Q (.ref p) (upd H p (.lst vs))) → rd Q) ∨
  (∃ xs vs, d = .tup xs ∧ k ≤ 1 ∧ Reps K T H S xs vs ∧ ∀ Q : VK, (∀ p, H p = none → Q (.ref p) (upd H p (.tup vs))) → rd Q)
section
variable {K : PySem.W.Frag} {T : Tab} {W : WX} {Γ Γ' : List Nat} {k : Nat} {σ : St} {H : Hp} {S : Addr → Prop} {fp : Nat → List Addr} {ρ : Env} {Q : VK} {rd : VK → Prop} {d : D}
theorem Sep.fresh (s : Sep S H fp) {p : Addr} (hp : H p = none) : ¬ S p ∧ ∀ i, p ∉ fp i := by
  refine ⟨fun z => ?_, fun i z => ?_⟩
  · obtain ⟨o, e⟩ := s.al p z; rw [hp] at e; cases e
  · have m := s.mu i p z; rw [hp] at m; exact m
theorem kept_upd {p : Addr} {u : HO} (hp : H p = none) : ∀ b o, H b = some o → upd H p u b = some o := fun b o h => by rw [upd_ne (ne_of_none h hp)]; exact h
theorem Sep.grow (s : Sep S H fp) {H' : Hp} (k : ∀ b o, H b = some o → H' b = some o) : Sep S H' fp :=
  ⟨fun i a h => by
    have m := s.mu i a h
    cases q : H a with
    | none => rw [q] at m; exact m.elim
    | some o => rw [k a o q]; rw [q] at m; exact m, s.nd, s.dj, s.ns, fun a h => let ⟨o, e⟩ := s.al a h; ⟨o, k a o e⟩⟩
theorem Stay.grow {H' : Hp} (kk : ∀ b o, H b = some o → H' b = some o) : Stay K H S H' S :=
  ⟨fun a vs h s => ⟨kk _ _ h, s⟩, fun a vs h => by
    rcases h with ⟨o, h⟩ | h
    · exact .inl ⟨o, kk _ _ h⟩
    · exact .inr h, fun a vs h => by
    rcases h with (h | ⟨o, h⟩) | h
    · exact .inl (.inl (kk _ _ h))
    · exact .inl (.inr ⟨o, kk _ _ h⟩)
    · exact .inr h, fun a C dx fs h s => ⟨kk _ _ h, s⟩⟩
theorem Stt.grow (s : Stt K T Γ S σ H ρ fp) {H' : Hp} (kk : ∀ b o, H b = some o → H' b = some o) : Stt K T Γ S σ H' ρ fp :=
  ⟨s.sep.grow kk, s.len, s.gl, fun i d h => let ⟨v, hv, o⟩ := s.sl i d h; ⟨v, hv, o.stay (Stay.grow kk) fun a _ o h => kk a o h⟩⟩
/-- a new place becomes shared -/
theorem Stt.share (s : Stt K T Γ S σ H ρ fp) {p : Addr} {u : HO} (hp : H p = none) : Stt K T Γ (fun a => S a ∨ a = p) σ (upd H p u) ρ fp := by
  have f := s.sep.fresh hp
  have g := s.grow (kept_upd (u := u) hp)
  refine ⟨⟨g.sep.mu, g.sep.nd, g.sep.dj, fun i a h z => ?_, fun a z => ?_⟩, g.len, g.gl, fun i d h => ?_⟩
  · rcases z with z | z
    · exact g.sep.ns i a h z
    · subst z; exact f.2 i h
  · rcases z with z | z
    · exact g.sep.al a z
    · subst z; exact ⟨u, upd_same⟩
  · obtain ⟨v, hv, o⟩ := g.sl i d h
    exact ⟨v, hv, o.stay (Stay.more fun a h => .inl h) fun a _ o h => h⟩
theorem gives_out (s : Stt K T Γ S σ H ρ fp) (g : Gives K T S H k d rd) (h : OutE K T W Γ k σ H S fp Q (.ok (d, ρ))) : rd Q := by
  rcases g with ⟨v, r, e, q⟩ | ⟨xs, vs, e, hk, r, q⟩ | ⟨xs, vs, e, hk, r, q⟩
  · subst e
    exact q Q (h v H S fp [] s (.of r) Fra.refl.ow')
  · subst e
    refine q Q fun p hp => ?_
    have f := s.sep.fresh hp
    have kk := kept_upd (u := .lst vs) hp
    match k, hk with
    | 0, _ =>
      refine h _ _ (fun a => S a ∨ a = p) fp [] (s.share hp) (.of ?_) ⟨fun b o h _ => kk b o h, fun b z => .inl z, fun b z => z.elim .inl fun e => by subst e; exact .inr (.inr hp), fun b z => z.elim .inl fun z => nomatch z⟩
      simp only [Rep]
      exact ⟨p, vs, rfl, upd_same, .inr rfl, (Stay.more fun a h => .inl h).reps ((Stay.grow kk).reps r)⟩
    | 1, _ =>
      refine h _ _ S fp [p] (s.grow kk) ⟨own_lst1.mpr ⟨p, vs, rfl, upd_same, rfl, (Stay.grow kk).reps r⟩, by simp, fun a m => ?_, fun a m i => ?_⟩ ⟨fun b o h _ => kk b o h, fun b z => z, fun b z => .inl z, fun b z => ?_⟩
      · rw [List.mem_singleton] at m; subst m; exact f.1
      · rw [List.mem_singleton] at m; subst m; exact f.2 i
      · rcases z with z | z
        · exact .inl z
        · rw [List.mem_singleton] at z; subst z; exact .inr hp
  · subst e
    refine q Q fun p hp => ?_
    have kk := kept_upd (u := .tup vs) hp
    have rr : Rep K T (upd H p (.tup vs)) S (.tup xs) (.ref p) := by
      simp only [Rep]
      exact ⟨p, vs, rfl, .inl (.inl upd_same), (Stay.grow kk).reps r⟩
    have fr : Fra H S (Ow fp) (upd H p (.tup vs)) S (fun a => Ow fp a ∨ a ∈ ([] : List Addr)) := ⟨fun b o h _ => kk b o h, fun b z => z, fun b z => .inl z, fun b z => z.elim .inl fun z => nomatch z⟩
    match k, hk with
    | 0, _ => exact h _ _ S fp [] (s.grow kk) (.of rr) fr
    | 1, _ => exact h _ _ S fp [] (s.grow kk) ⟨by simp only [Own]; exact ⟨trivial, rr⟩, List.nodup_nil, fun a h => (nomatch h), fun a h => (nomatch h)⟩ fr
end

def PrimR (K : PySem.W.Frag) (T : Tab) (k : Nat) (r : List V → Hp → VK → Prop) (g : List D → Option D) : Prop :=
  ∀ S H ds vs d, Reps K T H S ds vs → g ds = some d → Gives K T S H k d (r vs H)
def Prim2 (K : PySem.W.Frag) (T : Tab) (k : Nat) (r : R2) (g : D → D → Option D) : Prop :=
  ∀ S H x y v w d, Rep K T H S x v → Rep K T H S y w → g x y = some d → Gives K T S H k d (r v w H)
def Prim1 (K : PySem.W.Frag) (T : Tab) (k : Nat) (r : V → Hp → VK → Prop) (g : D → Option D) : Prop :=
  ∀ S H x v d, Rep K T H S x v → g x = some d → Gives K T S H k d (r v H)

section
variable {X : Cx} {C : Cz} {Γ Γ' Γ1 Γ2 : List Nat} {k i : Nat} {x : Str} {pos p : Pos} {a b e : Expr} {es : List Expr} {fa fb : Env → R (D × Env)} {fs : Env → R (List D × Env)}
theorem bin_data {r : R2} {g : D → D → Option D} {σ : St} {H : Hp} {Q : VK} (hr : Prim2 X.K C.T k r g) (h : tE X.K C.T C.W Γ Γ2 k (mBin g fa fb) σ H Q) :
    tE X.K C.T C.W Γ Γ1 0 fa σ H (fun x H1 => tE X.K C.T C.W Γ1 Γ2 0 fb σ H1 (fun y H2 => r x y H2 Q)) := by
  obtain ⟨S, ρ, fp, s, h⟩ := h
  refine ⟨S, ρ, fp, s, OutE.then0 h fun d1 ρ1 v1 H1 S1 fp1 e1 s1 r1 f1 h1 => ?_⟩
  refine ⟨S1, ρ1, fp1, s1, OutE.then0 h1 fun d2 ρ2 v2 H2 S2 fp2 e2 s2 r2 f2 h2 => ?_⟩
  dsimp only at h2
  cases q : g d1 d2 with
  | none => rw [q] at h2; exact h2.elim
  | some d =>
    rw [q] at h2
    exact gives_out s2 (hr S2 H2 d1 d2 v1 v2 d (s1.rep_fra r1 f2) r2 q) h2
theorem de_op {op : Operator} {r : R2} {g : D → D → Option D} (ho : OpR X (binaryOp op) r) (hr : Prim2 X.K C.T k r g) (ha : DE X C Γ a Γ1 0 fa) (hb : DE X C Γ1 b Γ2 0 fb) : DE X C Γ (.BinOp a op b pos) Γ2 k (mBin g fa fb) :=
  pe_imp (pe_op ho ha hb) fun σ H Q h => bin_data hr h
theorem de_cmp {op : CmpOp} {r : R2} {g : D → D → Option D} (ho : OpR X (compareOp op) r) (hr : Prim2 X.K C.T k r g) (ha : DE X C Γ a Γ1 0 fa) (hb : DE X C Γ1 b Γ2 0 fb) (hn : behindInMarks op b = false) :
    DE X C Γ (.Compare a [op] [b] pos) Γ2 k (mBin g fa fb) :=
  pe_imp (pe_cmpR ho ha hb hn) fun σ H Q h => bin_data hr h
theorem de_ix {r : R2} {g : D → D → Option D} (ho : IxR X r) (hr : Prim2 X.K C.T k r g) (ha : DE X C Γ a Γ1 0 fa) (hb : DE X C Γ1 b Γ2 0 fb) (hs : PlainIx b := by exact fun _ _ => rfl) : DE X C Γ (.Subscript a b pos) Γ2 k (mBin g fa fb) :=
  pe_imp (pe_ix ho ha hb hs) fun σ H Q h => bin_data hr h
theorem un_data {r : V → Hp → VK → Prop} {g : D → Option D} {σ : St} {H : Hp} {Q : VK} (hr : Prim1 X.K C.T k r g) (h : tE X.K C.T C.W Γ Γ1 k (mUn g fa) σ H Q) : tE X.K C.T C.W Γ Γ1 0 fa σ H (fun x H1 => r x H1 Q) := by
  obtain ⟨S, ρ, fp, s, h⟩ := h
  refine ⟨S, ρ, fp, s, OutE.then0 h fun d1 ρ1 v1 H1 S1 fp1 e1 s1 r1 f1 h1 => ?_⟩
  dsimp only at h1
  cases q : g d1 with
  | none => rw [q] at h1; exact h1.elim
  | some d =>
    rw [q] at h1
    exact gives_out s1 (hr S1 H1 d1 v1 d r1 q) h1
theorem de_un {op : UnaryOp} {r : V → Hp → VK → Prop} {g : D → Option D} (ho : UnR X (unaryOp op) r) (hr : Prim1 X.K C.T k r g) (ha : DE X C Γ a Γ1 0 fa) : DE X C Γ (.UnaryOp op a pos) Γ1 k (mUn g fa) :=
  pe_imp (pe_un ho ha) fun σ H Q h => un_data hr h
/-! arguments -/
theorem da_nil : DA X C Γ [] Γ mNil := pa_imp pa_nil fun σ H Q h => by
  obtain ⟨S, ρ, fp, s, h⟩ := h
  exact h [] H S fp s (by simp [Reps]) Fra.refl
theorem da_cons (ha : DE X C Γ a Γ1 0 fa) (hr : DA X C Γ1 es Γ2 fs) (hs : starEach (a :: es) X.env = (false, eval a X.env) :: starEach es X.env := by rfl) : DA X C Γ (a :: es) Γ2 (mCons fa fs) := by
  refine pa_imp (pa_cons ha hr hs) fun σ H Q h => ?_
  obtain ⟨S, ρ, fp, s, h⟩ := h
  refine ⟨S, ρ, fp, s, OutE.thenA h fun d1 ρ1 v1 H1 S1 fp1 e1 s1 r1 f1 h1 => ?_⟩
  refine ⟨S1, ρ1, fp1, s1, OutA.thenA h1 fun ds ρ2 vs H2 S2 fp2 e2 s2 r2 f2 h2 => ?_⟩
  refine h2 (v1 :: vs) H2 S2 fp2 s2 ?_ Fra.refl
  simp only [Reps]
  exact ⟨v1, vs, rfl, s1.rep_fra r1 f2, r2⟩
theorem args_data {r : List V → Hp → VK → Prop} {g : List D → Option D} {σ : St} {H : Hp} {Q : VK} (hr : PrimR X.K C.T k r g) (h : tE X.K C.T C.W Γ Γ1 k (mPrim g fs) σ H Q) : tA X.K C.T C.W Γ Γ1 fs σ H (fun vs H1 => r vs H1 Q) := by
  obtain ⟨S, ρ, fp, s, h⟩ := h
  refine ⟨S, ρ, fp, s, OutA.thenE h fun ds ρ1 vs H1 S1 fp1 e1 s1 r1 f1 h1 => ?_⟩
  dsimp only at h1
  cases q : g ds with
  | none => rw [q] at h1; exact h1.elim
  | some d =>
    rw [q] at h1
    exact gives_out s1 (hr S1 H1 ds vs d r1 q) h1
/-- a built-in function by its name -/
theorem de_callB {id : String} {r : List V → Hp → VK → Prop} {g : List D → Option D} (hc : CallR X (.builtin id) r) (hr : PrimR X.K C.T k r g) (hg : Gl X x) (hm : X.mg x = none) (hv : bootBuiltins x = some (.builtin id)) (ha : DA X C Γ (e :: es) Γ1 fs) (hn : x ≠ "__name__" := by decide) (hdb : (x == ("__debug__" : Str)) = false := by decide)
    (he : starEach (e :: es) X.env = (false, eval e X.env) :: starEach es X.env := by rfl) (hpl : (backTo pos (starEach es X.env)).any (·.1) = false := by rfl) : DE X C Γ (.Call (.Name x p) (e :: es) [] pos) Γ1 k (mPrim g fs) :=
  pe_imp (pe_callB hc hg hm hv ha hn hdb he hpl) fun σ H Q h => args_data hr h
/-- a built-in function under a module's name (from math import gcd) -/
theorem de_callM {id : String} {r : List V → Hp → VK → Prop} {g : List D → Option D} (hc : CallR X (.builtin id) r) (hr : PrimR X.K C.T k r g) (hg : Gl X x) (hm : X.mg x = some (.builtin id)) (ha : DA X C Γ (e :: es) Γ1 fs) (hdb : (x == ("__debug__" : Str)) = false := by decide)
    (he : starEach (e :: es) X.env = (false, eval e X.env) :: starEach es X.env := by rfl) (hpl : (backTo pos (starEach es X.env)).any (·.1) = false := by rfl) : DE X C Γ (.Call (.Name x p) (e :: es) [] pos) Γ1 k (mPrim g fs) := by
  refine pe_imp (t := tCB r (tA X.K C.T C.W Γ Γ1 fs)) ⟨fun pins s σ H Q I h => ?_⟩ fun σ H Q h => args_data hr h
  refine wpAny_Call_Name_kw (ld_glob I hg hm ?_ hdb)
  exact PyProof.Rows.callWith_builtin1 (thn (ha.run pos pins s σ H _ I h) fun us s1 ⟨vs, H1, I1, r1, q1⟩ => hc pins s1 σ H1 vs us Q I1 r1 q1) he hpl
theorem de_callTy {t : String} {r : List V → Hp → VK → Prop} {g : List D → Option D} (hc : CallR X (.type t) r) (hr : PrimR X.K C.T k r g) (hg : Gl X x) (hm : X.mg x = none) (hv : bootBuiltins x = some (.type t)) (ha : DA X C Γ (e :: es) Γ1 fs) (hn : x ≠ "__name__" := by decide) (hdb : (x == ("__debug__" : Str)) = false := by decide)
    (he : starEach (e :: es) X.env = (false, eval e X.env) :: starEach es X.env := by rfl) (hpl : (backTo pos (starEach es X.env)).any (·.1) = false := by rfl) : DE X C Γ (.Call (.Name x p) (e :: es) [] pos) Γ1 k (mPrim g fs) :=
  pe_imp (pe_callTy hc hg hm hv ha hn hdb he hpl) fun σ H Q h => args_data hr h
/-! displays -/
def gTup (xs : List D) : Option D := if xs.length ≤ 1000 then some (.tup xs) else none
def gLst (xs : List D) : Option D := if xs.length ≤ 1000 then some (.lst xs) else none
theorem line_of {n : Nat} (h : n ≤ 1000) : n ≤ sizeLine := by rw [sizeLine_eq]; omega
theorem de_tup {n : Nat} (h : DA X C Γ es Γ1 fs) (hk : k ≤ 1 := by decide) : DE X C Γ (.Tuple es n pos) Γ1 k (mPrim gTup fs) := by
  refine pe_imp (pe_tup h) fun σ H Q h => args_data (r := fun vs H1 Q => vs.length ≤ sizeLine ∧ ∀ p, H1 p = none → Q (.ref p) (upd H1 p (.tup vs))) (fun S H ds vs d r e => ?_) h
  unfold gTup at e
  split at e
  · rename_i hl
    cases e
    exact .inr (.inr ⟨ds, vs, rfl, hk, r, fun Q q => ⟨line_of (by rw [← r.length]; exact hl), q⟩⟩)
  · cases e
theorem de_lst (h : DA X C Γ es Γ1 fs) (hk : k ≤ 1 := by decide) : DE X C Γ (.List es pos) Γ1 k (mPrim gLst fs) := by
  refine pe_imp (pe_lst h) fun σ H Q h => args_data (r := fun vs H1 Q => vs.length ≤ sizeLine ∧ ∀ p, H1 p = none → Q (.ref p) (upd H1 p (.lst vs))) (fun S H ds vs d r e => ?_) h
  unfold gLst at e
  split at e
  · rename_i hl
    cases e
    exact .inr (.inl ⟨ds, vs, rfl, hk, r, fun Q q => ⟨line_of (by rw [← r.length]; exact hl), q⟩⟩)
  · cases e
end
end Z
set_option Elab.async false
set_option linter.all false
set_option maxRecDepth 100000
/-! Z3: contracts and calls of defs, fields, tests -/
namespace Z
open PySem PySem.Spec L2
open PyProof.Rows hiding St

/-! ### contracts -/
def OutC (K : PySem.W.Frag) (T : Tab) (E : XK) (H : Hp) (S O : Addr → Prop) (c : Nat) (fs : List D) : Prop :=
  ∀ (dx : Addr) (xs : List (Str × V)) (vs : List V) (H' : Hp) (S' : Addr → Prop), H' dx = some (.xd xs) → (∀ (j : Nat) (f : Str), (T.fl c)[j]? = some f → xs.lookup f = vs[j]?) → Reps K T H' S' fs vs →
    Fra H S O H' S' (fun _ => False) → (∀ a, S' a → ∃ o, H' a = some o) → E (.ref (T.cm c)) (some dx) H'
/-- a def whose arguments are not changed: m what it computes, kr how far its value is new -/
def OutF (K : PySem.W.Frag) (T : Tab) (kr : Nat) (H : Hp) (S : Addr → Prop) (Q : VK) (E : XK) : R D → Prop
  | .ok d => ∀ v H' S' Fv, Own K T H' S' kr d v Fv → Fv.Nodup → (∀ a ∈ Fv, ¬ S' a) → (∀ a, S' a → ∃ o, H' a = some o) → Fra H S (fun _ => False) H' S' (fun a => a ∈ Fv) → Q v H'
  | .er c fs => OutC K T E H S (fun _ => False) c fs
  | .bad => False
def spF (K : PySem.W.Frag) (T : Tab) (kr : Nat) (m : List D → R D) : Sp := fun vs H Q E => ∃ S ds, Reps K T H S ds vs ∧ (∀ a, S a → ∃ o, H a = some o) ∧ OutF K T kr H S Q E (m ds)
/-- a def that may change its first argument (k1 levels of it) -/
def OutB (K : PySem.W.Frag) (T : Tab) (k1 kr : Nat) (v0 : V) (F0 : List Addr) (H : Hp) (S : Addr → Prop) (Q : VK) (E : XK) : R (D × D) → Prop
  | .ok (d, d0) => ∀ v H' S' Fv F0', Own K T H' S' k1 d0 v0 F0' → Own K T H' S' kr d v Fv → (F0' ++ Fv).Nodup → (∀ a ∈ F0' ++ Fv, ¬ S' a) → (∀ a, S' a → ∃ o, H' a = some o) →
      Fra H S (fun a => a ∈ F0) H' S' (fun a => a ∈ F0' ∨ a ∈ Fv) → Q v H'
  | .er c fs => OutC K T E H S (fun a => a ∈ F0) c fs
  | .bad => False
def spB (K : PySem.W.Frag) (T : Tab) (k1 kr : Nat) (m : List D → R (D × D)) : Sp := fun vs H Q E => ∃ S d0 v0 F0 ds vs', vs = v0 :: vs' ∧ Own K T H S k1 d0 v0 F0 ∧ F0.Nodup ∧ (∀ a ∈ F0, ¬ S a) ∧ Reps K T H S ds vs' ∧ (∀ a, S a → ∃ o, H a = some o) ∧
  OutB K T k1 kr v0 F0 H S Q E (m (d0 :: ds))

section
variable {K : PySem.W.Frag} {T : Tab} {W : WX} {Γ Γ' : List Nat} {k : Nat} {σ : St} {H H' : Hp} {S S' O' : Addr → Prop} {fp : Nat → List Addr} {ρ : Env} {Q : VK}
/-- a state behind code that owns nothing of it -/
theorem Stt.after0 (s : Stt K T Γ S σ H ρ fp) (f : Fra H S (fun _ => False) H' S' O') (al : ∀ a, S' a → ∃ o, H' a = some o) : Stt K T Γ S' σ H' ρ fp := by
  have st : Stay K H S H' S' := .of (fun _ z => z.elim) (fun _ z => z.elim) f
  refine ⟨⟨fun i a h => ?_, s.sep.nd, s.sep.dj, fun i a h z => ?_, al⟩, s.len, s.gl, fun i d h => ?_⟩
  · have m := s.sep.mu i a h
    cases q : H a with
    | none => rw [q] at m; exact m.elim
    | some o => rw [f.kp a o q fun z => z]; rw [q] at m; exact m
  · rcases f.so a z with z | z | z
    · exact s.sep.ns i a h z
    · exact z
    · have m := s.sep.mu i a h; rw [z] at m; exact m
  · obtain ⟨v, hv, o⟩ := s.sl i d h
    exact ⟨v, hv, o.stay st fun a _ o h => f.kp a o h fun z => z⟩
/-- .. behind code that was handed what i owned, and handed it back as F0' -/
theorem Stt.after1 {i k1 : Nat} {d0 : D} {v0 : V} {F0' : List Addr} (s : Stt K T Γ S σ H ρ fp) (hv : σ[i]? = some (some v0)) (hi : i < Γ.length) (hk : Γ.getD i 0 = k1) (f : Fra H S (fun a => a ∈ fp i) H' S' O') (al : ∀ a, S' a → ∃ o, H' a = some o)
    (o : Own K T H' S' k1 d0 v0 F0') (nd : F0'.Nodup) (ns : ∀ a ∈ F0', ¬ S' a) (oo : ∀ a ∈ F0', O' a) : Stt K T Γ S' σ H' (ρ.set i (some d0)) (fpSet fp i F0') := by
  have hl : i < σ.length := by
    rcases Nat.lt_or_ge i σ.length with h | h
    · exact h
    · rw [List.getElem?_eq_none h] at hv; cases hv
  have st : Stay K H S H' S' := .of (fun a z => s.sep.mu i a z) (fun a z => s.sep.ns i a z) f
  have mu : ∀ j a, j ≠ i → a ∈ fp j → ∀ o, H a = some o → H' a = some o := fun j a e h o q => f.kp a o q fun z => e (s.sep.dj j i a h z)
  have new : ∀ a ∈ F0', ∀ j, j ≠ i → a ∉ fp j := fun a h j e z => by
    rcases f.oo a (oo a h) with q | q
    · exact e (s.sep.dj j i a z q)
    · have m := s.sep.mu j a z; rw [q] at m; exact m
  refine ⟨⟨fun j a h => ?_, fun j => ?_, fun j l a h h' => ?_, fun j a h z => ?_, al⟩, by simp [s.len], s.gl, fun j d h => ?_⟩
  · rcases mem_fpSet h with ⟨_, h⟩ | ⟨e, h⟩
    · exact o.mut a h
    · have m := s.sep.mu j a h
      cases q : H a with
      | none => rw [q] at m; exact m.elim
      | some o => rw [mu j a e h o q]; rw [q] at m; exact m
  · by_cases e : j = i
    · subst e; rw [fpSet_same]; exact nd
    · rw [fpSet_ne e]; exact s.sep.nd j
  · rcases mem_fpSet h with ⟨e, h⟩ | ⟨e, h⟩ <;> rcases mem_fpSet h' with ⟨e', h'⟩ | ⟨e', h'⟩
    · rw [e, e']
    · exact absurd h' (new a h l e')
    · exact absurd h (new a h' j e)
    · exact s.sep.dj j l a h h'
  · rcases mem_fpSet h with ⟨_, h⟩ | ⟨e, h⟩
    · exact ns a h z
    · rcases f.so a z with z | z | z
      · exact s.sep.ns j a h z
      · exact e (s.sep.dj j i a h z)
      · have m := s.sep.mu j a h; rw [z] at m; exact m
  · by_cases q : j = i
    · subst q
      rw [List.getElem?_set_self (by rw [s.len]; exact hl)] at h
      cases h
      exact ⟨v0, hv, by rw [hk, fpSet_same]; exact o⟩
    · rw [List.getElem?_set_ne (Ne.symm q)] at h
      obtain ⟨v, hv', o'⟩ := s.sl j d h
      exact ⟨v, hv', by rw [fpSet_ne q]; exact o'.stay st fun a m o h => mu j a q m o h⟩
theorem OutX.of_call {E : XK} {c : Nat} {fs : List D} {O O1 : Addr → Prop} (h : OutX K T W σ H S O c fs) (hE : ∀ cls d H', W cls d σ H' → E cls d H') (hO : ∀ a, O1 a → O a) : OutC K T E H S O1 c fs :=
  fun dx xs vs H' S' e1 e2 r f al => hE _ _ _ (h dx xs vs H' S' e1 e2 r (f.more hO) al)
end

/-! ### calls -/
def mCall (m : List D → R D) (fs : Env → R (List D × Env)) : Env → R (D × Env) := fun ρ => (fs ρ).bind fun (xs, ρ1) => (m xs).bind fun d => .ok (d, ρ1)
def mCallB (i : Nat) (m : List D → R (D × D)) (fs : Env → R (List D × Env)) : Env → R (D × Env) := fun ρ => match ρ[i]? with
  | some (some _) => (fs ρ).bind fun (xs, ρ1) => match ρ1[i]? with
    | some (some d0) => (m (d0 :: xs)).bind fun (d, d1) => .ok (d, ρ1.set i (some d1))
    | _ => .bad
  | _ => .bad
section
variable {X : Cx} {C : Cz} {Γ Γ' Γ1 Γ2 : List Nat} {k kr k1 lv i : Nat} {x y : Str} {pos p p2 : Pos} {a b e : Expr} {es : List Expr} {fa fb : Env → R (D × Env)} {fs : Env → R (List D × Env)} {m : List D → R D} {mB : List D → R (D × D)}
  {f : Addr} {fd : FuncData} {ps : List Str} {ds : List Value} {dvs : List V}
/-- the call itself, at the arguments' data -/
theorem call_data {σ : St} {H : Hp} {S : Addr → Prop} {ρ : Env} {fp : Nat → List Addr} {Q : VK} {xs : List D} {vs : List V} (s : Stt X.K C.T Γ S σ H ρ fp) (r : Reps X.K C.T H S xs vs)
    (h : OutE X.K C.T C.W Γ k σ H S fp Q ((m xs).bind fun d => .ok (d, ρ))) : spF X.K C.T k m vs H Q (WE C.W σ) := by
  refine ⟨S, xs, r, s.sep.al, ?_⟩
  cases q : m xs with
  | ok d =>
    rw [q] at h
    intro v H' S' Fv o nd ns al fr
    refine h v H' S' fp Fv (s.after0 fr al) ⟨o, nd, ns, fun a ma j z => ?_⟩ ?_
    · rcases fr.oo a ma with w | w
      · exact w
      · have m := s.sep.mu j a z; rw [w] at m; exact m
    · refine ⟨fun b o h _ => fr.kp b o h fun z => z, fr.sm, fun b z => ?_, fun b z => ?_⟩
      · rcases fr.so b z with z | z | z
        · exact .inl z
        · exact z.elim
        · exact .inr (.inr z)
      · rcases z with z | z
        · exact .inl z
        · rcases fr.oo b z with z | z
          · exact z.elim
          · exact .inr z
  | er c fs => rw [q] at h; exact OutX.of_call h (fun _ _ _ w => w) fun a z => z.elim
  | bad => rw [q] at h; exact h
/-- f(e, ..), an own def that keeps its arguments; ds: defaults that fill up, as data xd -/
theorem de_call {xd : List D} (F : FnOk X.prog X.w X.K X.mg X.base (L2.CX X.prog X.w) lv f fd ps (spF X.K C.T kr m)) (hr : Room lv X.A) (tk : Takes X C.W) (hg : Gl X x) (hm : X.mg x = some (.ref f)) (hk : PySem.W.keepIn X.K (.ref f) = true) (hb : Binds X.K fd ps ds) (hd : Vals dvs ds)
    (hxd : ∀ S H, Reps X.K C.T H S xd dvs) (ha : DA X C Γ (e :: es) Γ1 fs) (hdb : (x == ("__debug__" : Str)) = false := by decide) (he : starEach (e :: es) X.env = (false, eval e X.env) :: starEach es X.env := by rfl) (hpl : (backTo pos (starEach es X.env)).any (·.1) = false := by rfl) :
    DE X C Γ (.Call (.Name x p) (e :: es) [] pos) Γ1 kr (mCall (fun xs => m (xs ++ xd)) fs) := by
  refine pe_imp (pe_callSD (E := WE C.W) F hr hg hm hk hb hd (fun σ => passAt tk σ) ha hdb he hpl) fun σ H Q h => ?_
  obtain ⟨S, ρ, fp, s, h⟩ := h
  refine ⟨S, ρ, fp, s, OutA.thenE h fun xs ρ1 vs H1 S1 fp1 e1 s1 r1 f1 h1 => ?_⟩
  exact call_data s1 (r1.append (hxd S1 H1)) h1
theorem callB_data {σ : St} {H : Hp} {S : Addr → Prop} {ρ : Env} {fp : Nat → List Addr} {Q : VK} {xs : List D} {vs : List V} {d0 : D} {v0 : V} (s : Stt X.K C.T Γ S σ H ρ fp) (r : Reps X.K C.T H S xs vs) (hd : ρ[i]? = some (some d0)) (hv : σ[i]? = some (some v0))
    (hi : i < Γ.length) (hk : Γ.getD i 0 = k1) (h : OutE X.K C.T C.W Γ k σ H S fp Q ((mB (d0 :: xs)).bind fun (d, d1) => .ok (d, ρ.set i (some d1)))) : spB X.K C.T k1 k mB (v0 :: vs) H Q (WE C.W σ) := by
  obtain ⟨v0', hv', o⟩ := s.sl i d0 hd
  rw [hv] at hv'; cases hv'
  rw [hk] at o
  refine ⟨S, d0, v0, fp i, xs, vs, rfl, o, s.sep.nd i, fun a z => s.sep.ns i a z, r, s.sep.al, ?_⟩
  cases q : mB (d0 :: xs) with
  | ok a =>
    obtain ⟨d, d1⟩ := a
    rw [q] at h
    intro v H' S' Fv F0' o0 o1 nd ns al fr
    obtain ⟨nd0, nd1, nd2⟩ := List.nodup_append.mp nd
    refine h v H' S' (fpSet fp i F0') Fv (s.after1 hv hi hk fr al o0 nd0 (fun a z => ns a (List.mem_append_left _ z)) fun a z => .inl z) ⟨o1, nd1, fun a z => ns a (List.mem_append_right _ z), fun a ma j z => ?_⟩ ?_
    · rcases mem_fpSet z with ⟨_, z⟩ | ⟨e, z⟩
      · exact nd2 a z a ma rfl
      · rcases fr.oo a (.inr ma) with w | w
        · exact e (s.sep.dj j i a z w)
        · have m := s.sep.mu j a z; rw [w] at m; exact m
    · refine ⟨fun b o h n => fr.kp b o h fun z => n ⟨i, z⟩, fr.sm, fun b z => ?_, fun b z => ?_⟩
      · rcases fr.so b z with z | z | z
        · exact .inl z
        · exact .inr (.inl ⟨i, z⟩)
        · exact .inr (.inr z)
      · have up : ∀ b, b ∈ F0' ∨ b ∈ Fv → Ow fp b ∨ H b = none := fun b z => (fr.oo b z).imp_left fun z => ⟨i, z⟩
        rcases z with ⟨j, z⟩ | z
        · rcases mem_fpSet z with ⟨_, z⟩ | ⟨e, z⟩
          · exact up b (.inl z)
          · exact .inl ⟨j, z⟩
        · exact up b (.inr z)
  | er c fs => rw [q] at h; exact OutX.of_call h (fun _ _ _ w => w) fun a z => ⟨i, z⟩
  | bad => rw [q] at h; exact h
/-- f(y, e, ..): y's objects may be changed -/
theorem de_callBr (F : FnOk X.prog X.w X.K X.mg X.base (L2.CX X.prog X.w) lv f fd ps (spB X.K C.T k1 kr mB)) (hr : Room lv X.A) (tk : Takes X C.W) (hg : Gl X x) (hm : X.mg x = some (.ref f)) (hk : PySem.W.keepIn X.K (.ref f) = true) (hb : Binds X.K fd ps [])
    (hy : PE X (.Name y p2) (tVar i)) (ha : DA X C Γ es Γ1 fs) (hΓ : Γ1.getD i 0 = k1 := by rfl) (hi : i < Γ1.length := by decide) (hdb : (x == ("__debug__" : Str)) = false := by decide)
    (he : starEach (.Name y p2 :: es) X.env = (false, eval (.Name y p2) X.env) :: starEach es X.env := by rfl) (hpl : (backTo pos (starEach es X.env)).any (·.1) = false := by rfl) :
    DE X C Γ (.Call (.Name x p) (.Name y p2 :: es) [] pos) Γ1 kr (mCallB i mB fs) := by
  refine pe_imp (pe_callSD (E := WE C.W) (dvs := []) F hr hg hm hk hb .nil (fun σ => passAt tk σ) (pa_cons hy ha he) hdb he hpl) fun σ H Q h => ?_
  obtain ⟨S, ρ, fp, s, h⟩ := h
  show ∃ v, σ[i]? = some (some v) ∧ tA X.K C.T C.W Γ Γ1 fs σ H (fun vs H1 => spB X.K C.T k1 kr mB (v :: vs ++ []) H1 Q (WE C.W σ))
  unfold mCallB at h
  split at h
  · rename_i d0 q0
    obtain ⟨v0, hv0, _⟩ := s.sl i d0 q0
    refine ⟨v0, hv0, S, ρ, fp, s, OutA.thenE h fun xs ρ1 vs H1 S1 fp1 e1 s1 r1 f1 h1 => ?_⟩
    rw [List.append_nil]
    dsimp only at h1
    split at h1
    · rename_i d1 q1
      exact callB_data s1 r1 q1 hv0 hi hΓ h1
    · exact h1.elim
  · exact h.elim
/-- f(y) -/
theorem de_callBr0 (F : FnOk X.prog X.w X.K X.mg X.base (L2.CX X.prog X.w) lv f fd ps (spB X.K C.T k1 kr mB)) (hr : Room lv X.A) (tk : Takes X C.W) (hg : Gl X x) (hm : X.mg x = some (.ref f)) (hk : PySem.W.keepIn X.K (.ref f) = true) (hb : Binds X.K fd ps [])
    (hy : PE X (.Name y p2) (tVar i)) (hΓ : Γ.getD i 0 = k1 := by rfl) (hi : i < Γ.length := by decide) (hdb : (x == ("__debug__" : Str)) = false := by decide) :
    DE X C Γ (.Call (.Name x p) [.Name y p2] [] pos) Γ kr (mCallB i mB mNil) := de_callBr F hr tk hg hm hk hb hy da_nil hΓ hi hdb

/-! ### fields -/
def gFld (ix : List (Nat × Nat)) : D → Option D
  | .ins c fs => (ix.lookup c).bind fun j => fs[j]?
  | _ => none
/-- what of the own classes must be known where an attribute f is read: at c it is the j-th -/
structure FldOk (K : PySem.W.Frag) (T : Tab) (f : Str) (ix : List (Nat × Nat)) : Prop where
  ok : ∀ c j, ix.lookup c = some j → Cls K (T.cm c) ∧ NoAttr K (T.cm c) f ∧ (T.fl c)[j]? = some f ∧ (T.fl c).Nodup
theorem lookup_zip : ∀ {ns : List Str} {vs : List V} {j : Nat} {f : Str}, ns.Nodup → ns[j]? = some f → vs.length ≤ ns.length → (ns.zip vs).lookup f = vs[j]?
  | [], vs, j, f, _, h, _ => by simp at h
  | n :: ns, [], j, f, _, h, _ => by simp
  | n :: ns, v :: vs, 0, f, _, h, _ => by
    simp at h; subst h; simp [List.lookup]
  | n :: ns, v :: vs, j + 1, f, nd, h, l => by
    have h' : ns[j]? = some f := by simpa using h
    have ne : f ≠ n := fun e => (List.nodup_cons.mp nd).1 (e ▸ List.mem_of_getElem? h')
    have e : (f == n) = false := by simpa using ne
    simp only [List.zip_cons_cons, List.lookup_cons, e]
    simpa using lookup_zip (List.nodup_cons.mp nd).2 h' (by simpa using l)
def rFld (K : PySem.W.Frag) (f : Str) : V → Hp → VK → Prop := fun x H1 Q => ∃ a C dx fs v, x = .ref a ∧ H1 a = some (.ins C dx fs) ∧ Cls K C ∧ NoAttr K C f ∧ fs.lookup f = some v ∧ Q v H1
theorem fld_at {K : PySem.W.Frag} {T : Tab} {H : Hp} {f : Str} {ix : List (Nat × Nat)} (ok : FldOk K T f ix) {c j : Nat} {fs : List D} {vs : List V} {a dx : Addr} {S : Addr → Prop} {d : D} (h : H a = some (.ins (T.cm c) dx ((T.fl c).zip vs)))
    (hl : fs.length ≤ (T.fl c).length) (r : Reps K T H S fs vs) (hj : ix.lookup c = some j) (hd : fs[j]? = some d) : ∃ v, Rep K T H S d v ∧ ∀ Q : VK, Q v H → rFld K f (.ref a) H Q := by
  obtain ⟨c1, c2, c3, c4⟩ := ok.ok c j hj
  obtain ⟨v, hv, rv⟩ := r.get hd
  exact ⟨v, rv, fun Q q => ⟨a, _, dx, _, v, rfl, h, c1, c2, by rw [lookup_zip c4 c3 (by rw [← r.length]; exact hl)]; exact hv, q⟩⟩
theorem de_fld {fn : Str} {ix : List (Nat × Nat)} (ok : FldOk X.K C.T fn ix) (ha : DE X C Γ a Γ1 0 fa) (hb : attributeBase a fn X.env (eval a X.env) = eval a X.env := by rfl) : DE X C Γ (.Attribute a fn pos) Γ1 0 (mUn (gFld ix) fa) := by
  refine pe_imp (pe_fld ha hb) fun σ H Q h => un_data (r := rFld X.K fn) (fun S H d v d' r e => ?_) h
  cases d with
  | ins c fs =>
    simp only [Rep] at r
    obtain ⟨b, dx, vs, rfl, h1, s, hl, r⟩ := r
    simp only [gFld] at e
    cases q : ix.lookup c with
    | none => rw [q] at e; cases e
    | some j =>
      rw [q] at e
      obtain ⟨v, rv, g⟩ := fld_at ok h1 hl r q e
      exact .inl ⟨v, rv, rfl, g⟩
  | _ => cases e
/-- at a name: what it owns stays its own -/
def mFldN (i : Nat) (ix : List (Nat × Nat)) : Env → R (D × Env) := fun ρ => match ρ[i]? with
  | some (some d) => (ofO (gFld ix d)).bind fun e => .ok (e, ρ)
  | _ => .bad
theorem peek_ins {K : PySem.W.Frag} {T : Tab} {H : Hp} {S : Addr → Prop} {k : Nat} {c : Nat} {fs : List D} {v : V} {F : List Addr} (h : Own K T H S k (.ins c fs) v F) (hk : k ≤ 1) : ∃ a dx vs, v = .ref a ∧ H a = some (.ins (T.cm c) dx ((T.fl c).zip vs)) ∧ fs.length ≤ (T.fl c).length ∧ Reps K T H S fs vs := by
  match k, hk with
  | 0, _ =>
    obtain ⟨_, r⟩ := own_zero.mp h
    simp only [Rep] at r
    obtain ⟨b, dx, vs, e, h1, s, hl, r⟩ := r
    exact ⟨b, dx, vs, e, h1, hl, r⟩
  | 1, _ =>
    obtain ⟨b, dx, vs, e, h1, _, hl, r⟩ := own_ins1.mp h
    exact ⟨b, dx, vs, e, h1, hl, r⟩
theorem peek_lst {K : PySem.W.Frag} {T : Tab} {H : Hp} {S : Addr → Prop} {k : Nat} {xs : List D} {v : V} {F : List Addr} (h : Own K T H S k (.lst xs) v F) (hk : k ≤ 1) : ∃ a vs, v = .ref a ∧ H a = some (.lst vs) ∧ Reps K T H S xs vs := by
  match k, hk with
  | 0, _ =>
    obtain ⟨_, r⟩ := own_zero.mp h
    simp only [Rep] at r
    obtain ⟨b, vs, e, h1, s, r⟩ := r
    exact ⟨b, vs, e, h1, r⟩
  | 1, _ =>
    obtain ⟨b, vs, e, h1, _, r⟩ := own_lst1.mp h
    exact ⟨b, vs, e, h1, r⟩
theorem de_fldN {fn : Str} {ix : List (Nat × Nat)} (ok : FldOk X.K C.T fn ix) (hv : PE X (.Name x p) (tVar i)) (hk : Γ.getD i 0 ≤ 1 := by decide) (hb : attributeBase (.Name x p) fn X.env (eval (.Name x p) X.env) = eval (.Name x p) X.env := by rfl) :
    DE X C Γ (.Attribute (.Name x p) fn pos) Γ 0 (mFldN i ix) := by
  refine pe_imp (pe_fld hv hb) fun σ H Q h => ?_
  obtain ⟨S, ρ, fp, s, h⟩ := h
  unfold mFldN at h
  split at h
  · rename_i d q
    obtain ⟨v, hv, o⟩ := s.sl i d q
    refine ⟨v, hv, ?_⟩
    show rFld X.K fn v H Q
    cases d with
    | ins c fs =>
      obtain ⟨b, dx, vs, rfl, h1, hl, r⟩ := peek_ins o hk
      simp only [gFld] at h
      cases q1 : ix.lookup c with
      | none => rw [q1] at h; exact h.elim
      | some j =>
        rw [q1] at h
        cases q2 : fs[j]? with
        | none => dsimp only [Option.bind_some] at h; rw [q2] at h; exact h.elim
        | some e =>
          dsimp only [Option.bind_some] at h
          rw [q2] at h
          obtain ⟨w, rv, g⟩ := fld_at ok h1 hl r q1 q2
          exact g Q (h w H S fp [] s (.of rv) Fra.refl.ow')
    | _ => exact h.elim
  · exact h.elim
end

/-! ### tests -/
def mVal (fa : Env → R (D × Env)) : Env → R (Bool × Env) := fun ρ => (fa ρ).bind fun (x, ρ1) => match x with
  | .bl b => .ok (b, ρ1)
  | _ => .bad
def mAnd (fa fb : Env → R (Bool × Env)) : Env → R (Bool × Env) := fun ρ => (fa ρ).bind fun (b, ρ1) => if b = true then fb ρ1 else .ok (false, ρ1)
def mOr (fa fb : Env → R (Bool × Env)) : Env → R (Bool × Env) := fun ρ => (fa ρ).bind fun (b, ρ1) => if b = true then .ok (true, ρ1) else fb ρ1
def mNot (fa : Env → R (Bool × Env)) : Env → R (Bool × Env) := fun ρ => (fa ρ).bind fun (b, ρ1) => .ok (!b, ρ1)
def mIf (ft : Env → R (Bool × Env)) (fa fb : Env → R (D × Env)) : Env → R (D × Env) := fun ρ => (ft ρ).bind fun (b, ρ1) => if b = true then fa ρ1 else fb ρ1
def mAndV (fa fb : Env → R (D × Env)) : Env → R (D × Env) := fun ρ => (fa ρ).bind fun (x, ρ1) => match x with
  | .bl b => if b = true then fb ρ1 else .ok (.bl false, ρ1)
  | _ => .bad
def mOrV (fa fb : Env → R (D × Env)) : Env → R (D × Env) := fun ρ => (fa ρ).bind fun (x, ρ1) => match x with
  | .bl b => if b = true then .ok (.bl true, ρ1) else fb ρ1
  | _ => .bad
def gNot : D → Option D
  | .bl b => some (.bl (!b))
  | _ => none
def mChain (g g' : D → D → Option D) (fa fb fc : Env → R (D × Env)) : Env → R (D × Env) := fun ρ => (fa ρ).bind fun (x, ρ1) => (fb ρ1).bind fun (y, ρ2) => (ofO (g x y)).bind fun z => match z with
  | .bl b => if b = true then (fc ρ2).bind fun (w, ρ3) => (ofO (g' y w)).bind fun d => .ok (d, ρ3) else .ok (.bl false, ρ2)
  | _ => .bad
section
variable {X : Cx} {C : Cz} {Γ Γ' Γ1 Γ2 : List Nat} {k i : Nat} {x : Str} {pos p : Pos} {a b c e : Expr} {es : List Expr} {fa fb fc : Env → R (D × Env)} {ta tb : Env → R (Bool × Env)} {fs : Env → R (List D × Env)}
theorem rep_bl {K : PySem.W.Frag} {T : Tab} {H : Hp} {S : Addr → Prop} {b : Bool} {v : V} (h : Rep K T H S (.bl b) v) : v = .bl b := by simpa [Rep] using h
theorem rep_int {K : PySem.W.Frag} {T : Tab} {H : Hp} {S : Addr → Prop} {b : Int} {v : V} (h : Rep K T H S (.int b) v) : v = .int b := by simpa [Rep] using h
theorem rep_str {K : PySem.W.Frag} {T : Tab} {H : Hp} {S : Addr → Prop} {b : Str} {v : V} (h : Rep K T H S (.str b) v) : v = .str b := by simpa [Rep] using h
theorem rep_non {K : PySem.W.Frag} {T : Tab} {H : Hp} {S : Addr → Prop} {v : V} (h : Rep K T H S .non v) : v = .non := by simpa [Rep] using h
theorem val_data {σ : St} {H : Hp} {Q : Bool → Hp → Prop} (h : tT X.K C.T C.W Γ Γ1 (mVal fa) σ H Q) : tE X.K C.T C.W Γ Γ1 0 fa σ H (fun x H1 => ∃ c, x = .bl c ∧ Q c H1) := by
  obtain ⟨S, ρ, fp, s, h⟩ := h
  refine ⟨S, ρ, fp, s, OutE.thenT h fun d1 ρ1 v1 H1 S1 fp1 e1 s1 r1 f1 h1 => ?_⟩
  cases d1 with
  | bl b => exact ⟨b, rep_bl r1, h1 H1 S1 fp1 s1 Fra.refl⟩
  | _ => exact h1.elim
theorem dt_val (h : DE X C Γ e Γ1 0 fa) (he : ∀ whole, isTrue e X.env whole = (do let v ← whole; standAt e.pos; holding [v] (truthy v)) := by intro _; rfl) : DT X C Γ e Γ1 (mVal fa) :=
  pt_imp (pt_val h he) fun σ H Q h => val_data h
theorem dt_cmp {op : CmpOp} {r : R2} {g : D → D → Option D} (ho : OpR X (compareOp op) r) (hr : Prim2 X.K C.T 0 r g) (ha : DE X C Γ a Γ1 0 fa) (hb : DE X C Γ1 b Γ2 0 fb) (hn : behindInMarks op b = false) : DT X C Γ (.Compare a [op] [b] pos) Γ2 (mVal (mBin g fa fb)) :=
  pt_imp (pt_cmpR ho ha hb hn) fun σ H Q h => bin_data hr (val_data h)
abbrev DW (X : Cx) (Z : Cz) (Γ : List Nat) (e : Expr) (Γ' : List Nat) (f : Env → R (Bool × Env)) : Prop := PW X e (tT X.K Z.T Z.W Γ Γ' f)
theorem dw_and1 (ha : DT X C Γ a Γ1 ta) : DW X C Γ (.BoolOp .And [a] pos) Γ1 ta := pw_and1 ha
theorem dw_or1 (ha : DT X C Γ a Γ1 ta) : DW X C Γ (.BoolOp .Or [a] pos) Γ1 ta := pw_or1 ha
theorem dw_and (ha : DT X C Γ a Γ1 ta) (hb : DW X C Γ1 (.BoolOp .And (b :: es) pos) Γ1 tb) : DW X C Γ (.BoolOp .And (a :: b :: es) pos) Γ1 (mAnd ta tb) :=
  pw_imp (pw_and ha hb) fun σ H Q h => by
    obtain ⟨S, ρ, fp, s, h⟩ := h
    refine ⟨S, ρ, fp, s, OutT.thenT h fun b ρ1 H1 S1 fp1 e1 s1 f1 h1 => ?_⟩
    cases b with
    | true => exact ⟨S1, ρ1, fp1, s1, h1⟩
    | false => exact h1 H1 S1 fp1 s1 Fra.refl
theorem dw_or (ha : DT X C Γ a Γ1 ta) (hb : DW X C Γ1 (.BoolOp .Or (b :: es) pos) Γ1 tb) : DW X C Γ (.BoolOp .Or (a :: b :: es) pos) Γ1 (mOr ta tb) :=
  pw_imp (pw_or ha hb) fun σ H Q h => by
    obtain ⟨S, ρ, fp, s, h⟩ := h
    refine ⟨S, ρ, fp, s, OutT.thenT h fun b ρ1 H1 S1 fp1 e1 s1 f1 h1 => ?_⟩
    cases b with
    | false => exact ⟨S1, ρ1, fp1, s1, h1⟩
    | true => exact h1 H1 S1 fp1 s1 Fra.refl
theorem dt_w (h : DW X C Γ e Γ1 ta) : DT X C Γ e Γ1 ta := PW.pt h
theorem dt_not (ha : DT X C Γ a Γ1 ta) : DT X C Γ (.UnaryOp .Not a pos) Γ1 (mNot ta) :=
  pt_imp (pt_not ha) fun σ H Q h => by
    obtain ⟨S, ρ, fp, s, h⟩ := h
    exact ⟨S, ρ, fp, s, OutT.thenT h fun b ρ1 H1 S1 fp1 e1 s1 f1 h1 => h1 H1 S1 fp1 s1 Fra.refl⟩
theorem de_if (hc : DT X C Γ c Γ1 ta) (ha : DE X C Γ1 a Γ2 k fa) (hb : DE X C Γ1 b Γ2 k fb) : DE X C Γ (.IfExp c a b pos) Γ2 k (mIf ta fa fb) :=
  pe_imp (pe_ifExp hc ha hb) fun σ H Q h => by
    obtain ⟨S, ρ, fp, s, h⟩ := h
    refine ⟨S, ρ, fp, s, OutT.thenE h fun b ρ1 H1 S1 fp1 e1 s1 f1 h1 => ?_⟩
    cases b with
    | true => exact ⟨S1, ρ1, fp1, s1, h1⟩
    | false => exact ⟨S1, ρ1, fp1, s1, h1⟩
theorem de_one {op : BoolOp} (ha : DE X C Γ a Γ1 k fa) : DE X C Γ (.BoolOp op [a] pos) Γ1 k fa := pe_one ha
theorem de_and (ha : DE X C Γ a Γ1 0 fa) (hb : DE X C Γ1 (.BoolOp .And (b :: es) pos) Γ1 0 fb) : DE X C Γ (.BoolOp .And (a :: b :: es) pos) Γ1 0 (mAndV fa fb) :=
  pe_imp (pe_and ha hb) fun σ H Q h => by
    obtain ⟨S, ρ, fp, s, h⟩ := h
    refine ⟨S, ρ, fp, s, OutE.then0 h fun d ρ1 v H1 S1 fp1 e1 s1 r1 f1 h1 => ?_⟩
    cases d with
    | bl b =>
      refine ⟨b, rep_bl r1, ?_⟩
      cases b with
      | true => exact ⟨S1, ρ1, fp1, s1, h1⟩
      | false => exact h1 _ H1 S1 fp1 [] s1 (.of (by simp [Rep])) Fra.refl.ow'
    | _ => exact h1.elim
theorem de_or (ha : DE X C Γ a Γ1 0 fa) (hb : DE X C Γ1 (.BoolOp .Or (b :: es) pos) Γ1 0 fb) : DE X C Γ (.BoolOp .Or (a :: b :: es) pos) Γ1 0 (mOrV fa fb) :=
  pe_imp (pe_or ha hb) fun σ H Q h => by
    obtain ⟨S, ρ, fp, s, h⟩ := h
    refine ⟨S, ρ, fp, s, OutE.then0 h fun d ρ1 v H1 S1 fp1 e1 s1 r1 f1 h1 => ?_⟩
    cases d with
    | bl b =>
      refine ⟨b, rep_bl r1, ?_⟩
      cases b with
      | false => exact ⟨S1, ρ1, fp1, s1, h1⟩
      | true => exact h1 _ H1 S1 fp1 [] s1 (.of (by simp [Rep])) Fra.refl.ow'
    | _ => exact h1.elim
theorem de_not (ha : DE X C Γ a Γ1 0 fa) : DE X C Γ (.UnaryOp .Not a pos) Γ1 0 (mUn gNot fa) :=
  pe_imp (pe_not ha) fun σ H Q h => un_data (r := fun x H1 Q => ∃ c, x = .bl c ∧ Q (.bl (!c)) H1) (fun S H d v d' r e => by
    cases d with
    | bl b => cases e; exact .inl ⟨.bl (!b), by simp [Rep], rfl, fun Q q => ⟨b, rep_bl r, q⟩⟩
    | _ => cases e) h
theorem chain_data {r r' : R2} {g g' : D → D → Option D} {σ : St} {H : Hp} {Q : VK} (hr : Prim2 X.K C.T 0 r g) (hr' : Prim2 X.K C.T 0 r' g') (h : tE X.K C.T C.W Γ Γ 0 (mChain g g' fa fb fc) σ H Q) :
    tChain r r' (tE X.K C.T C.W Γ Γ 0 fa) (tE X.K C.T C.W Γ Γ 0 fb) (tE X.K C.T C.W Γ Γ 0 fc) σ H Q := by
  obtain ⟨S, ρ, fp, s, h⟩ := h
  refine ⟨S, ρ, fp, s, OutE.then0 h fun d1 ρ1 v1 H1 S1 fp1 e1 s1 r1 f1 h1 => ?_⟩
  refine ⟨S1, ρ1, fp1, s1, OutE.then0 h1 fun d2 ρ2 v2 H2 S2 fp2 e2 s2 r2 f2 h2 => ?_⟩
  dsimp only at h2
  cases q : g d1 d2 with
  | none => rw [q] at h2; exact h2.elim
  | some d =>
    rw [q] at h2
    refine gives_out (Γ := Γ) (k := 0) (W := C.W) (ρ := ρ2) s2 (hr S2 H2 d1 d2 v1 v2 d (s1.rep_fra r1 f2) r2 q) ?_
    intro v3 H3 S3 fp3 Fv s3 x3 f3
    obtain ⟨e3, r3⟩ := x3.rep
    subst e3
    cases d with
    | bl b =>
      refine ⟨b, rep_bl r3, ?_⟩
      have h3 := OutE.before f3.ow h2
      cases b with
      | true =>
        refine ⟨S3, ρ2, fp3, s3, OutE.then0 h3 fun d4 ρ4 v4 H4 S4 fp4 e4 s4 r4 f4 h4 => ?_⟩
        dsimp only at h4
        cases q' : g' d2 d4 with
        | none => rw [q'] at h4; exact h4.elim
        | some d' =>
          rw [q'] at h4
          exact gives_out s4 (hr' S4 H4 d2 d4 v2 v4 d' (s3.rep_fra (s2.rep_fra r2 f3) f4) r4 q') h4
      | false => exact h3 _ H3 S3 fp3 [] s3 (.of (by simp [Rep])) Fra.refl.ow'
    | _ => exact h2.elim
theorem de_chain {op op' : CmpOp} {r r' : R2} {g g' : D → D → Option D} (ho : OpR X (compareOp op) r) (ho' : OpR X (compareOp op') r') (hr : Prim2 X.K C.T 0 r g) (hr' : Prim2 X.K C.T 0 r' g') (ha : DE X C Γ a Γ 0 fa) (hb : DE X C Γ b Γ 0 fb) (hc : DE X C Γ c Γ 0 fc)
    (hm : lastMarks [op, op'] [b, c] = false := by with_unfolding_all rfl) : DE X C Γ (.Compare a [op, op'] [b, c] pos) Γ 0 (mChain g g' fa fb fc) :=
  pe_imp (pe_chain ho ho' ha hb hc hm) fun σ H Q h => chain_data hr hr' h
theorem dt_chain {op op' : CmpOp} {r r' : R2} {g g' : D → D → Option D} (ho : OpR X (compareOp op) r) (ho' : OpR X (compareOp op') r') (hr : Prim2 X.K C.T 0 r g) (hr' : Prim2 X.K C.T 0 r' g') (ha : DE X C Γ a Γ 0 fa) (hb : DE X C Γ b Γ 0 fb) (hc : DE X C Γ c Γ 0 fc)
    (hm : lastMarks [op, op'] [b, c] = false := by with_unfolding_all rfl) : DT X C Γ (.Compare a [op, op'] [b, c] pos) Γ (mVal (mChain g g' fa fb fc)) :=
  pt_imp (pt_chain ho ho' ha hb hc hm) fun σ H Q h => chain_data hr hr' (val_data h)
end
end Z
set_option Elab.async false
set_option linter.all false
set_option maxRecDepth 100000
/-! Z4: statements -/
namespace Z
open PySem PySem.Spec L2
open PyProof.Rows hiding St

/-- how a block ends -/
inductive Fl where
  | nx | bk | ct | rt (d : D)
/-- what is owned at each end; kr: how far a returned value is new -/
structure Js where
  nx : List Nat
  bk : List Nat
  ct : List Nat
  rt : List Nat
  kr : Nat
/-- the slots of P are not stored to -/
def Kp (P : List Nat) (σ σ' : St) : Prop := ∀ i ∈ P, σ'[i]? = σ[i]?
theorem Kp.refl {P : List Nat} {σ : St} : Kp P σ σ := fun _ _ => rfl
theorem Kp.trans {P : List Nat} {σ σ1 σ2 : St} (a : Kp P σ σ1) (b : Kp P σ1 σ2) : Kp P σ σ2 := fun i h => (b i h).trans (a i h)
theorem Kp.set {P : List Nat} {σ : St} {i : Nat} {x : Option V} (h : i ∉ P) : Kp P σ (σ.set i x) := fun j hj => by
  rw [List.getElem?_set_ne]
  rintro rfl; exact h hj

def OutS (K : PySem.W.Frag) (T : Tab) (W : WX) (P : List Nat) (J : Js) (σ : St) (H : Hp) (S : Addr → Prop) (fp : Nat → List Addr) (E : Ends) : R (Fl × Env) → Prop
  | .ok (.nx, ρ') => ∀ σ' H' S' fp', Stt K T J.nx S' σ' H' ρ' fp' → Kp P σ σ' → Fra H S (Ow fp) H' S' (Ow fp') → E.nx σ' H'
  | .ok (.bk, ρ') => ∀ σ' H' S' fp', Stt K T J.bk S' σ' H' ρ' fp' → Kp P σ σ' → Fra H S (Ow fp) H' S' (Ow fp') → E.bk σ' H'
  | .ok (.ct, ρ') => ∀ σ' H' S' fp', Stt K T J.ct S' σ' H' ρ' fp' → Kp P σ σ' → Fra H S (Ow fp) H' S' (Ow fp') → E.ct σ' H'
  | .ok (.rt d, ρ') => ∀ v σ' H' S' fp' Fv, Stt K T J.rt S' σ' H' ρ' fp' → Val K T S' H' fp' J.kr d v Fv → Kp P σ σ' → Fra H S (Ow fp) H' S' (fun a => Ow fp' a ∨ a ∈ Fv) → E.rt v H'
  | .er c fs => ∀ σ', Kp P σ σ' → OutX K T W σ' H S (Ow fp) c fs
  | .bad => False
def tS (K : PySem.W.Frag) (T : Tab) (W : WX) (P : List Nat) (J : Js) (Γ : List Nat) (f : Env → R (Fl × Env)) : TS := fun E σ H => ∃ S ρ fp, Stt K T Γ S σ H ρ fp ∧ OutS K T W P J σ H S fp E (f ρ)
abbrev DS (X : Cx) (Z : Cz) (P : List Nat) (J : Js) (Γ : List Nat) (st : Stmt) (f : Env → R (Fl × Env)) : Prop := PS X st (tS X.K Z.T Z.W P J Γ f)
abbrev DSs (X : Cx) (Z : Cz) (P : List Nat) (J : Js) (Γ : List Nat) (st : List Stmt) (f : Env → R (Fl × Env)) : Prop := PSs X st (tS X.K Z.T Z.W P J Γ f)

section
variable {K : PySem.W.Frag} {T : Tab} {W : WX} {P : List Nat} {J J' : Js} {Γ Γ1 Γ2 : List Nat} {k : Nat} {σ σ1 : St} {H H1 : Hp} {S S1 : Addr → Prop} {fp fp1 : Nat → List Addr} {ρ ρ1 : Env} {E : Ends}
theorem OutX.stepσ {c : Nat} {fs : List D} {O : Addr → Prop} (h : OutX K T W σ H S O c fs) : OutX K T W σ H S O c fs := h
theorem OutS.before {r : R (Fl × Env)} (kp : Kp P σ σ1) (f : Fra H S (Ow fp) H1 S1 (Ow fp1)) (h : OutS K T W P J σ H S fp E r) : OutS K T W P J σ1 H1 S1 fp1 E r := by
  match r, h with
  | .ok (.nx, ρ'), h => exact fun σ' H' S' fp' s k g => h σ' H' S' fp' s (kp.trans k) (f.trans g)
  | .ok (.bk, ρ'), h => exact fun σ' H' S' fp' s k g => h σ' H' S' fp' s (kp.trans k) (f.trans g)
  | .ok (.ct, ρ'), h => exact fun σ' H' S' fp' s k g => h σ' H' S' fp' s (kp.trans k) (f.trans g)
  | .ok (.rt d, ρ'), h => exact fun v σ' H' S' fp' Fv s x k g => h v σ' H' S' fp' Fv s x (kp.trans k) (f.trans g)
  | .er c fs, h => exact fun σ' k => OutX.before f (h σ' (kp.trans k))
  | .bad, h => exact h
theorem OutS.er {c : Nat} {fs : List D} (h : OutS K T W P J σ H S fp E (.er c fs)) : OutX K T W σ H S (Ow fp) c fs := h σ Kp.refl
/-- an expression ahead of a statement's end -/
theorem OutE.thenS {r : R (D × Env)} {Γ' : List Nat} {Q' : VK} {g : D × Env → R (Fl × Env)} (h : OutS K T W P J σ H S fp E (r.bind g))
    (go : ∀ d ρ1 v H1 S1 fp1 Fv, r = .ok (d, ρ1) → Stt K T Γ' S1 σ H1 ρ1 fp1 → Val K T S1 H1 fp1 k d v Fv → Fra H S (Ow fp) H1 S1 (fun a => Ow fp1 a ∨ a ∈ Fv) → OutS K T W P J σ H S fp E (g (d, ρ1)) → Q' v H1) : OutE K T W Γ' k σ H S fp Q' r := by
  cases r with
  | ok a =>
    obtain ⟨d, ρ1⟩ := a
    intro v H' S' fp' Fv s x f
    exact go d ρ1 v H' S' fp' Fv rfl s x f h
  | er c fs => exact OutS.er h
  | bad => exact h
theorem OutT.thenS {r : R (Bool × Env)} {Γ' : List Nat} {Q' : Bool → Hp → Prop} {g : Bool × Env → R (Fl × Env)} (h : OutS K T W P J σ H S fp E (r.bind g))
    (go : ∀ b ρ1 H1 S1 fp1, r = .ok (b, ρ1) → Stt K T Γ' S1 σ H1 ρ1 fp1 → Fra H S (Ow fp) H1 S1 (Ow fp1) → OutS K T W P J σ H1 S1 fp1 E (g (b, ρ1)) → Q' b H1) : OutT K T W Γ' σ H S fp Q' r := by
  cases r with
  | ok a =>
    obtain ⟨d, ρ1⟩ := a
    intro H' S' fp' s f
    exact go d ρ1 H' S' fp' rfl s f (OutS.before Kp.refl f h)
  | er c fs => exact OutS.er h
  | bad => exact h
theorem OutA.thenS {r : R (List D × Env)} {Γ' : List Nat} {Q' : List V → Hp → Prop} {g : List D × Env → R (Fl × Env)} (h : OutS K T W P J σ H S fp E (r.bind g))
    (go : ∀ ds ρ1 vs H1 S1 fp1, r = .ok (ds, ρ1) → Stt K T Γ' S1 σ H1 ρ1 fp1 → Reps K T H1 S1 ds vs → Fra H S (Ow fp) H1 S1 (Ow fp1) → OutS K T W P J σ H1 S1 fp1 E (g (ds, ρ1)) → Q' vs H1) : OutA K T W Γ' σ H S fp Q' r := by
  cases r with
  | ok a =>
    obtain ⟨d, ρ1⟩ := a
    intro vs H' S' fp' s r f
    exact go d ρ1 vs H' S' fp' rfl s r f (OutS.before Kp.refl f h)
  | er c fs => exact OutS.er h
  | bad => exact h
/-- a statement ahead of what follows -/
theorem OutS.then {r : R (Fl × Env)} {g : Env → R (Fl × Env)} {nx' : St → Hp → Prop} (h : OutS K T W P J σ H S fp E (r.bind fun (fl, ρ1) => match fl with | .nx => g ρ1 | _ => .ok (fl, ρ1)))
    (go : ∀ ρ1 σ1 H1 S1 fp1, r = .ok (.nx, ρ1) → Stt K T Γ1 S1 σ1 H1 ρ1 fp1 → Kp P σ σ1 → OutS K T W P J σ1 H1 S1 fp1 E (g ρ1) → nx' σ1 H1) : OutS K T W P { J with nx := Γ1 } σ H S fp { E with nx := nx' } r := by
  match r, h with
  | .ok (.nx, ρ'), h => exact fun σ' H' S' fp' s k f => go ρ' σ' H' S' fp' rfl s k (OutS.before k f h)
  | .ok (.bk, ρ'), h => exact h
  | .ok (.ct, ρ'), h => exact h
  | .ok (.rt d, ρ'), h => exact h
  | .er c fs, h => exact h
  | .bad, h => exact h
end

def mSkip : Env → R (Fl × Env) := fun ρ => .ok (.nx, ρ)
def mSeq (f g : Env → R (Fl × Env)) : Env → R (Fl × Env) := fun ρ => (f ρ).bind fun (fl, ρ1) => match fl with
  | .nx => g ρ1
  | _ => .ok (fl, ρ1)
def mSet (i : Nat) (fa : Env → R (D × Env)) : Env → R (Fl × Env) := fun ρ => (fa ρ).bind fun (d, ρ1) => .ok (.nx, ρ1.set i (some d))
def mRet (fa : Env → R (D × Env)) : Env → R (Fl × Env) := fun ρ => (fa ρ).bind fun (d, ρ1) => .ok (.rt d, ρ1)
def mRetN : Env → R (Fl × Env) := fun ρ => .ok (.rt .non, ρ)
def mBrk : Env → R (Fl × Env) := fun ρ => .ok (.bk, ρ)
def mCnt : Env → R (Fl × Env) := fun ρ => .ok (.ct, ρ)
def mDrop (fa : Env → R (D × Env)) : Env → R (Fl × Env) := fun ρ => (fa ρ).bind fun (_, ρ1) => .ok (.nx, ρ1)
def mIfS (ft : Env → R (Bool × Env)) (fa fb : Env → R (Fl × Env)) : Env → R (Fl × Env) := fun ρ => (ft ρ).bind fun (b, ρ1) => if b = true then fa ρ1 else fb ρ1

section
variable {X : Cx} {C : Cz} {P : List Nat} {J : Js} {Γ Γ' Γ1 Γ2 : List Nat} {k i j : Nat} {x y : Str} {pos p p2 : Pos} {a b e : Expr} {es : List Expr} {fa fb : Env → R (D × Env)} {ta tb : Env → R (Bool × Env)} {fs : Env → R (List D × Env)} {st : Stmt} {sts s2 : List Stmt} {f g : Env → R (Fl × Env)}
theorem pss_imp {t t' : TS} (h : PSs X sts t) (i : ∀ E σ H, t' E σ H → t E σ H) : PSs X sts t' := ⟨fun pins s σ H E I q => h.run pins s σ H E I (i E σ H q)⟩
theorem ps_imp {t t' : TS} (h : PS X st t) (i : ∀ E σ H, t' E σ H → t E σ H) : PS X st t' := ⟨fun pins s σ H E I q => h.run pins s σ H E I (i E σ H q)⟩
theorem dss_nil (h : J.nx = Γ := by rfl) : DSs X C P J Γ [] mSkip := pss_imp pss_nil fun E σ H h' => by
  subst h
  obtain ⟨S, ρ, fp, s, h'⟩ := h'
  exact h' σ H S fp s Kp.refl Fra.refl
theorem dss_cons (ha : DS X C P { J with nx := Γ1 } Γ st f) (hb : DSs X C P J Γ1 sts g) : DSs X C P J Γ (st :: sts) (mSeq f g) := pss_imp (pss_cons ha hb) fun E σ H h => by
  obtain ⟨S, ρ, fp, s, h⟩ := h
  exact ⟨S, ρ, fp, s, OutS.then h fun ρ1 σ1 H1 S1 fp1 e1 s1 k1 h1 => ⟨S1, ρ1, fp1, s1, h1⟩⟩
theorem dss_one (ha : DS X C P J Γ st f) : DSs X C P J Γ [st] f := pss_one ha
theorem ds_pass (h : J.nx = Γ := by rfl) : DS X C P J Γ (.Pass pos) mSkip := ps_imp ps_pass fun E σ H h' => by
  subst h
  obtain ⟨S, ρ, fp, s, h'⟩ := h'
  exact h' σ H S fp s Kp.refl Fra.refl
theorem ds_brk (h : J.bk = Γ := by rfl) : DS X C P J Γ (.Break pos) mBrk := ps_imp ps_break fun E σ H h' => by
  subst h
  obtain ⟨S, ρ, fp, s, h'⟩ := h'
  exact h' σ H S fp s Kp.refl Fra.refl
theorem ds_cnt (h : J.ct = Γ := by rfl) : DS X C P J Γ (.Continue pos) mCnt := ps_imp ps_continue fun E σ H h' => by
  subst h
  obtain ⟨S, ρ, fp, s, h'⟩ := h'
  exact h' σ H S fp s Kp.refl Fra.refl
theorem ds_ret (ha : DE X C Γ e Γ1 k fa) (h1 : J.rt = Γ1 := by rfl) (h2 : J.kr = k := by rfl) : DS X C P J Γ (.Return (some e) pos) (mRet fa) := ps_imp (ps_ret ha) fun E σ H h => by
  subst h1 h2
  obtain ⟨S, ρ, fp, s, h⟩ := h
  exact ⟨S, ρ, fp, s, OutE.thenS h fun d ρ1 v H1 S1 fp1 Fv e1 s1 x1 f1 h1 => h1 v σ H1 S1 fp1 Fv s1 x1 Kp.refl f1⟩
theorem ds_retN (h1 : J.rt = Γ := by rfl) : DS X C P J Γ (.Return none pos) mRetN := ps_imp ps_retN fun E σ H h => by
  subst h1
  obtain ⟨S, ρ, fp, s, h⟩ := h
  refine h .non σ H S fp [] s ⟨?_, List.nodup_nil, fun a h => (nomatch h), fun a h => (nomatch h)⟩ Kp.refl Fra.refl.ow'
  cases J.kr with
  | zero => exact own_zero.mpr ⟨rfl, by simp [Rep]⟩
  | succ k => simp [Own, Rep]
theorem ds_drop (ha : DE X C Γ e Γ1 0 fa) (h1 : J.nx = Γ1 := by rfl) (hs : swapsWith e none pos.line X.env = pure false := by rfl) : DS X C P J Γ (.Expr e pos) (mDrop fa) := ps_imp (ps_expr ha hs) fun E σ H h => by
  subst h1
  obtain ⟨S, ρ, fp, s, h⟩ := h
  exact ⟨S, ρ, fp, s, OutE.thenS h fun d ρ1 v H1 S1 fp1 Fv e1 s1 x1 f1 h1 => h1 σ H1 S1 fp1 s1 Kp.refl (f1.less fun b z => .inl z)⟩
theorem ds_if {cnd : Expr} (hc : DT X C Γ cnd Γ1 ta) (ha : DSs X C P J Γ1 sts f) (hb : DSs X C P J Γ1 s2 g) : DS X C P J Γ (.If cnd sts s2 pos) (mIfS ta f g) := ps_imp (ps_if hc ha hb) fun E σ H h => by
  obtain ⟨S, ρ, fp, s, h⟩ := h
  refine ⟨S, ρ, fp, s, OutT.thenS h fun b ρ1 H1 S1 fp1 e1 s1 f1 h1 => ?_⟩
  cases b with
  | true => exact ⟨S1, ρ1, fp1, s1, h1⟩
  | false => exact ⟨S1, ρ1, fp1, s1, h1⟩
/-- at the end of a block what i owns is shared -/
theorem dss_wk (i : Nat) (Γn : List Nat) (h : DSs X C P { J with nx := Γn } Γ sts f) (e : J.nx = Γn.set i 0 := by rfl) : DSs X C P J Γ sts f := pss_imp h fun E σ H h => by
  obtain ⟨S, ρ, fp, s, h⟩ := h
  refine ⟨S, ρ, fp, s, ?_⟩
  revert h
  generalize f ρ = r
  intro h
  match r, h with
  | .ok (.nx, ρ'), h => exact fun σ' H' S' fp' s' k f' => h σ' H' _ _ (by rw [e]; exact s'.give i) k (f'.trans (Fra.give s'.sep i))
  | .ok (.bk, ρ'), h => exact h
  | .ok (.ct, ρ'), h => exact h
  | .ok (.rt d, ρ'), h => exact h
  | .er c fs, h => exact h
  | .bad, h => exact h
/-- x = e; t0: the reading of e that the store's rule has -/
theorem ds_set {t0 : TE} (hps : PS X (.Assign [.Name x p] e pos) (tAsg t0 (gName i))) (h0 : ∀ σ H Q, tE X.K C.T C.W Γ Γ1 k fa σ H Q → t0 σ H Q) (hi : i < Γ1.length := by decide) (hp : i ∉ P := by decide) (h1 : J.nx = Γ1.set i k := by rfl) :
    DS X C P J Γ (.Assign [.Name x p] e pos) (mSet i fa) := ps_imp hps fun E σ H h => by
  obtain ⟨S, ρ, fp, s, h⟩ := h
  refine h0 σ H _ ⟨S, ρ, fp, s, OutE.thenS h fun d ρ1 v H1 S1 fp1 Fv e1 s1 x1 f1 h2 => ?_⟩
  exact h2 _ H1 S1 _ (by rw [h1]; exact s1.put hi x1) (Kp.set hp) (f1.trans Fra.put)
end

/-! ### targets -/
def tGt (K : PySem.W.Frag) (T : Tab) (P Γ Γ' : List Nat) (g : D → Env → Option Env) : TG := fun v σ H Q => ∃ S ρ fp d, Stt K T Γ S σ H ρ fp ∧ Rep K T H S d v ∧ match g d ρ with
  | some ρ' => ∀ σ' H' S' fp', Stt K T Γ' S' σ' H' ρ' fp' → Kp P σ σ' → Fra H S (Ow fp) H' S' (Ow fp') → Q σ' H'
  | none => False
def tGs (K : PySem.W.Frag) (T : Tab) (P Γ Γ' : List Nat) (g : List D → Env → Option Env) : TGs := fun vs σ H Q => ∃ S ρ fp ds, Stt K T Γ S σ H ρ fp ∧ Reps K T H S ds vs ∧ match g ds ρ with
  | some ρ' => ∀ σ' H' S' fp', Stt K T Γ' S' σ' H' ρ' fp' → Kp P σ σ' → Fra H S (Ow fp) H' S' (Ow fp') → Q σ' H'
  | none => False
abbrev DG (X : Cx) (Z : Cz) (P Γ : List Nat) (tg : Expr) (Γ' : List Nat) (g : D → Env → Option Env) : Prop := PG X tg (tGt X.K Z.T P Γ Γ' g)
abbrev DGs (X : Cx) (Z : Cz) (P Γ : List Nat) (tg : List Expr) (Γ' : List Nat) (g : List D → Env → Option Env) : Prop := PGs X tg (tGs X.K Z.T P Γ Γ' g)
def gtN (i : Nat) : D → Env → Option Env := fun d ρ => some (ρ.set i (some d))
def gtT (n : Nat) (g : List D → Env → Option Env) : D → Env → Option Env := fun d ρ => match d with
  | .tup xs => if xs.length = n then g xs ρ else none
  | _ => none
def gtNil : List D → Env → Option Env := fun ds ρ => match ds with
  | [] => some ρ
  | _ => none
def gtCons (g : D → Env → Option Env) (gs : List D → Env → Option Env) : List D → Env → Option Env := fun ds ρ => match ds with
  | d :: r => (g d ρ).bind fun ρ1 => gs r ρ1
  | [] => none
def mAsg (g : D → Env → Option Env) (fa : Env → R (D × Env)) : Env → R (Fl × Env) := fun ρ => (fa ρ).bind fun (d, ρ1) => (ofO (g d ρ1)).bind fun ρ2 => .ok (.nx, ρ2)
def mPar (i j : Nat) (fs : Env → R (List D × Env)) : Env → R (Fl × Env) := fun ρ => (fs ρ).bind fun (ds, ρ1) => match ds with
  | [d, e] => .ok (.nx, (ρ1.set i (some d)).set j (some e))
  | _ => .bad
def mAug (i : Nat) (g : D → D → Option D) (fb : Env → R (D × Env)) : Env → R (Fl × Env) := fun ρ => match ρ[i]? with
  | some (some x) => (fb ρ).bind fun (y, ρ1) => (ofO (g x y)).bind fun d => .ok (.nx, ρ1.set i (some d))
  | _ => .bad
section
variable {X : Cx} {C : Cz} {P : List Nat} {J : Js} {Γ Γ' Γ1 Γ2 : List Nat} {k i j : Nat} {x y : Str} {pos p p2 : Pos} {a b e tg : Expr} {es : List Expr} {fa fb : Env → R (D × Env)} {ta tb : Env → R (Bool × Env)} {fs : Env → R (List D × Env)} {g1 : D → Env → Option Env} {gs : List D → Env → Option Env}
theorem pg_imp {t t' : TG} (h : PG X tg t) (i : ∀ v σ H Q, t' v σ H Q → t v σ H Q) : PG X tg t' := ⟨fun pins s σ H v u Q I r q => h.run pins s σ H v u Q I r (i v σ H Q q)⟩
theorem pgs_imp {t t' : TGs} (h : PGs X es t) (i : ∀ v σ H Q, t' v σ H Q → t v σ H Q) : PGs X es t' := ⟨fun pins s σ H v u Q I r q => h.run pins s σ H v u Q I r (i v σ H Q q)⟩
theorem dg_name (hn : PG X (.Name x p) (gName i)) (hi : i < Γ.length := by decide) (hp : i ∉ P := by decide) (hΓ : Γ.set i 0 = Γ' := by rfl) : DG X C P Γ (.Name x p) Γ' (gtN i) := pg_imp hn fun v σ H Q h => by
  subst hΓ
  obtain ⟨S, ρ, fp, d, s, r, h⟩ := h
  exact h _ H S _ (s.put hi (.of r)) (Kp.set hp) (Fra.trans (Fra.refl.ow') Fra.put)
theorem dgs_nil : DGs X C P Γ [] Γ gtNil := pgs_imp pgs_nil fun vs σ H Q h => by
  obtain ⟨S, ρ, fp, ds, s, r, h⟩ := h
  cases ds with
  | nil => simp only [Reps] at r; exact ⟨r, h σ H S fp s Kp.refl Fra.refl⟩
  | cons d r => exact h.elim
theorem dgs_cons (h1 : DG X C P Γ e Γ1 g1) (h2 : DGs X C P Γ1 es Γ2 gs) (hs : (assignEach (e :: es) X.env).map (·.2) = assign e X.env :: (assignEach es X.env).map (·.2) := by rfl) : DGs X C P Γ (e :: es) Γ2 (gtCons g1 gs) := pgs_imp (pgs_cons h1 h2 hs) fun vs σ H Q h => by
  obtain ⟨S, ρ, fp, ds, s, r, h⟩ := h
  cases ds with
  | nil => exact h.elim
  | cons d dr =>
    simp only [Reps] at r
    obtain ⟨v, ws, rfl, r1, r2⟩ := r
    refine ⟨v, ws, rfl, S, ρ, fp, d, s, r1, ?_⟩
    simp only [gtCons] at h
    cases q : g1 d ρ with
    | none => rw [q] at h; exact h.elim
    | some ρ1 =>
      rw [q] at h
      intro σ1 H1 S1 fp1 s1 k1 f1
      refine ⟨S1, ρ1, fp1, dr, s1, s.reps_fra r2 f1, ?_⟩
      dsimp only [Option.bind_some] at h
      cases q2 : gs dr ρ1 with
      | none => rw [q2] at h; exact h.elim
      | some ρ2 =>
        rw [q2] at h
        exact fun σ' H' S' fp' s' k' f' => h σ' H' S' fp' s' (k1.trans k') (f1.trans f')
theorem dg_tup {n m : Nat} (hc : X.calm = true) (h : DGs X C P Γ es Γ1 gs) (hn : (assignEach es X.env).length = n := by rfl) (hst : (assignEach es X.env).findIdx? (·.1) = none := by rfl) : DG X C P Γ (.Tuple es m pos) Γ1 (gtT n gs) := pg_imp (pg_tup hc h hn hst) fun v σ H Q h => by
  obtain ⟨S, ρ, fp, d, s, r, h⟩ := h
  cases d with
  | tup xs =>
    simp only [Rep] at r
    obtain ⟨a, vs, rfl, t, r⟩ := r
    by_cases hl : xs.length = n
    · simp only [gtT, if_pos hl] at h
      exact ⟨a, vs, rfl, t, by rw [← r.length]; exact hl, S, ρ, fp, xs, s, r, h⟩
    · simp only [gtT, if_neg hl] at h
  | _ => exact h.elim
theorem ds_asg (ha : DE X C Γ e Γ1 0 fa) (hg : DG X C P Γ1 tg Γ2 g1) (h1 : J.nx = Γ2 := by rfl) (hs : swapsWithSole [tg] e pos.line X.env = pure false := by rfl) (hw : swappedStores [tg] e X.env = pure none := by rfl)
    (hx : (assignEach [tg] X.env).map (·.2) = [assign tg X.env] := by rfl) : DS X C P J Γ (.Assign [tg] e pos) (mAsg g1 fa) := ps_imp (ps_asg ha hg hs hw hx) fun E σ H h => by
  subst h1
  obtain ⟨S, ρ, fp, s, h⟩ := h
  refine ⟨S, ρ, fp, s, OutE.thenS h fun d ρ1 v H1 S1 fp1 Fv e1 s1 x1 f1 h2 => ?_⟩
  obtain ⟨e2, r⟩ := x1.rep
  subst e2
  refine ⟨S1, ρ1, fp1, d, s1, r, ?_⟩
  dsimp only at h2
  cases q : g1 d ρ1 with
  | none => rw [q] at h2; exact h2.elim
  | some ρ2 =>
    rw [q] at h2
    exact fun σ' H' S' fp' s' k' f' => h2 σ' H' S' fp' s' k' (f1.ow.trans f')
/-- a, b = e1, e2 -/
theorem ds_par {px py pt : Pos} {kt k2 : Nat} {pt2 : Pos} (hps : PS X (.Assign [.Tuple [.Name x px, .Name y py] kt pt] (.Tuple [a, b] k2 pt2) pos) (tPar i j (tA X.K C.T C.W Γ Γ1 fs))) (hi : i < Γ1.length := by decide) (hj : j < Γ1.length := by decide)
    (hp : i ∉ P := by decide) (hq : j ∉ P := by decide) (h1 : J.nx = (Γ1.set i 0).set j 0 := by rfl) : DS X C P J Γ (.Assign [.Tuple [.Name x px, .Name y py] kt pt] (.Tuple [a, b] k2 pt2) pos) (mPar i j fs) := ps_imp hps fun E σ H h => by
  obtain ⟨S, ρ, fp, s, h⟩ := h
  refine ⟨S, ρ, fp, s, OutA.thenS h fun ds ρ1 vs H1 S1 fp1 e1 s1 r1 f1 h2 => ?_⟩
  dsimp only at h2
  match ds, r1, h2 with
  | [d, e], rr, hh =>
    simp only [Reps] at rr
    obtain ⟨v, ws, ev, q1, w, us, ew, q2, eu⟩ := rr
    subst ev ew eu
    refine ⟨v, w, rfl, ?_⟩
    have s2 := s1.put hi (.of q1)
    have s3 := s2.put (i := j) (by simpa using hj) (.of q2)
    exact hh _ H1 S1 _ (by rw [h1]; exact s3) (Kp.trans (Kp.set hp) (Kp.set hq)) ((Fra.trans Fra.refl.ow' Fra.put).trans (Fra.trans Fra.refl.ow' Fra.put))
theorem ds_aug {op : Operator} {r : R2} {g : D → D → Option D} (ho : OpR X (inplaceOp op) r) (hr : Prim2 X.K C.T 0 r g) (hps : ∀ te, PE X e te → PS X (.AugAssign (.Name x p) op e pos) (tAug i te r)) (hb : DE X C Γ e Γ1 0 fb) (hk : Γ.getD i 0 = 0 := by rfl) (hi : i < Γ1.length := by decide) (hp : i ∉ P := by decide)
    (h1 : J.nx = Γ1.set i 0 := by rfl) : DS X C P J Γ (.AugAssign (.Name x p) op e pos) (mAug i g fb) := ps_imp (hps _ hb) fun E σ H h => by
  obtain ⟨S, ρ, fp, s, h⟩ := h
  unfold mAug at h
  split at h
  · rename_i dx q
    obtain ⟨v, hv, o⟩ := s.sl i dx q
    rw [hk] at o
    obtain ⟨e0, rx⟩ := own_zero.mp o
    refine ⟨v, hv, S, ρ, fp, s, OutE.thenS h fun d ρ1 w H1 S1 fp1 Fv e1 s1 x1 f1 h2 => ?_⟩
    obtain ⟨e2, rw1⟩ := x1.rep
    subst e2
    dsimp only at h2
    cases q2 : g dx d with
    | none => rw [q2] at h2; exact h2.elim
    | some z =>
      rw [q2] at h2
      refine gives_out (Γ := Γ1) (k := 0) (W := C.W) (ρ := ρ1) s1 (hr S1 H1 dx d v w z (s.rep_fra rx f1) rw1 q2) ?_
      intro v3 H3 S3 fp3 F3 s3 x3 f3
      obtain ⟨e3, r3⟩ := x3.rep
      subst e3
      exact h2 _ H3 S3 _ (by rw [h1]; exact s3.put hi (.of r3)) (Kp.set hp) ((f1.ow.trans f3.ow).trans (Fra.trans Fra.refl.ow' Fra.put))
  · exact h.elim
end
end Z
set_option Elab.async false
set_option linter.all false
set_option maxRecDepth 100000
/-! Z5: loops and comprehensions -/
namespace Z
open PySem PySem.Spec L2
open PyProof.Rows hiding St

/-- an iterator that walks the data ds, wherever the shared stays -/
structure ItOk (K : PySem.W.Frag) (T : Tab) (S : Addr → Prop) (H : Hp) (J : It) (ds : List D) : Prop where
  stop : ∀ S' H', Stay K H S H' S' → ∀ i, ds.length ≤ i → J.stop i H'
  go : ∀ S' H', Stay K H S H' S' → ∀ (i : Nat) d, ds[i]? = some d → J.go i H'
  yld : ∀ S' H', Stay K H S H' S' → ∀ (i : Nat) d, ds[i]? = some d → ∀ x H2, J.yld i H' x H2 → (∀ b o, H' b = some o → H2 b = some o) ∧ Rep K T H2 S' d x
def OutI (K : PySem.W.Frag) (T : Tab) (W : WX) (Γ' : List Nat) (σ : St) (H : Hp) (S : Addr → Prop) (fp : Nat → List Addr) (Q : It → Hp → Prop) : R (List D × Env) → Prop
  | .ok (ds, ρ') => ∀ J H' S' fp', Stt K T Γ' S' σ H' ρ' fp' → ItOk K T S' H' J ds → Fra H S (Ow fp) H' S' (Ow fp') → Q J H'
  | .er c fs => OutX K T W σ H S (Ow fp) c fs
  | .bad => False
def tI (K : PySem.W.Frag) (T : Tab) (W : WX) (Γ Γ' : List Nat) (f : Env → R (List D × Env)) : TI := fun σ H Q => ∃ S ρ fp, Stt K T Γ S σ H ρ fp ∧ OutI K T W Γ' σ H S fp Q (f ρ)
abbrev DI (X : Cx) (Z : Cz) (tg : Expr) (Γ : List Nat) (e : Expr) (Γ' : List Nat) (f : Env → R (List D × Env)) : Prop := PI X tg e (tI X.K Z.T Z.W Γ Γ' f)

section
variable {K : PySem.W.Frag} {T : Tab} {S S1 S2 : Addr → Prop} {H H1 H2 : Hp} {J : It} {ds : List D}
theorem Stay.refl : Stay K H S H S := Stay.more fun _ h => h
theorem Stay.trans (a : Stay K H S H1 S1) (b : Stay K H1 S1 H2 S2) : Stay K H S H2 S2 :=
  ⟨fun x vs h s => let ⟨h', s'⟩ := a.l x vs h s; b.l x vs h' s', fun x vs h => b.c x vs (a.c x vs h), fun x vs h => b.t x vs (a.t x vs h), fun x C dx fs h s => let ⟨h', s'⟩ := a.i x C dx fs h s; b.i x C dx fs h' s'⟩
theorem it_list {a : Addr} {vs : List V} (r : Reps K T H S ds vs) (h : H a = some (.lst vs)) (s : S a) : ItOk K T S H (Itl K a) ds := by
  refine ⟨fun S' H' st i hi => ?_, fun S' H' st i d hd => ?_, fun S' H' st i d hd x H2 hy => ?_⟩
  · exact ⟨vs, .inl (.inl (st.l a vs h s).1), by rw [← r.length]; exact hi⟩
  · obtain ⟨v, hv, _⟩ := r.get hd
    exact ⟨vs, v, .inl (.inl (st.l a vs h s).1), hv⟩
  · obtain ⟨e, hy⟩ := hy
    subst e
    obtain ⟨v, hv, rv⟩ := r.get hd
    have := hy vs (.inl (.inl (st.l a vs h s).1))
    rw [hv] at this; cases this
    exact ⟨fun _ _ h => h, st.rep rv⟩
theorem it_tup {a : Addr} {vs : List V} (r : Reps K T H S ds vs) (h : SqT K H a vs) : ItOk K T S H (Itt K a) ds := by
  refine ⟨fun S' H' st i hi => ?_, fun S' H' st i d hd => ?_, fun S' H' st i d hd x H2 hy => ?_⟩
  · exact ⟨vs, st.t a vs h, by rw [← r.length]; exact hi⟩
  · obtain ⟨v, hv, _⟩ := r.get hd
    exact ⟨vs, v, st.t a vs h, hv⟩
  · obtain ⟨e, hy⟩ := hy
    subst e
    obtain ⟨v, hv, rv⟩ := r.get hd
    have := hy vs (st.t a vs h)
    rw [hv] at this; cases this
    exact ⟨fun _ _ h => h, st.rep rv⟩
def intsFrom (lo : Int) (n : Nat) : List D := (List.range n).map fun (i : Nat) => .int (lo + (i : Int))
theorem intsFrom_length {lo : Int} {n : Nat} : (intsFrom lo n).length = n := by simp [intsFrom]
theorem intsFrom_get {lo : Int} {n i : Nat} {d : D} (h : (intsFrom lo n)[i]? = some d) : i < n ∧ d = .int (lo + (i : Int)) := by
  unfold intsFrom at h
  rw [List.getElem?_map] at h
  cases q : (List.range n)[i]? with
  | none => rw [q] at h; cases h
  | some j =>
    rw [q] at h
    have hl : i < n := by
      have := (List.getElem?_eq_some_iff.mp q).1
      simpa using this
    rw [List.getElem?_range hl] at q
    cases q
    cases h
    exact ⟨hl, rfl⟩
theorem it_range {lo : Int} {n : Nat} : ItOk K T S H (Itr lo n) (intsFrom lo n) := by
  refine ⟨fun S' H' st i hi => by rw [intsFrom_length] at hi; exact hi, fun S' H' st i d hd => (intsFrom_get hd).1, fun S' H' st i d hd x H2 hy => ?_⟩
  obtain ⟨e, hy⟩ := hy
  subst e hy
  rw [(intsFrom_get hd).2]
  exact ⟨fun _ _ h => h, by simp [Rep]⟩
end

def mItL (fa : Env → R (D × Env)) : Env → R (List D × Env) := fun ρ => (fa ρ).bind fun (d, ρ1) => match d with
  | .lst xs => .ok (xs, ρ1)
  | _ => .bad
def mItT (fa : Env → R (D × Env)) : Env → R (List D × Env) := fun ρ => (fa ρ).bind fun (d, ρ1) => match d with
  | .tup xs => .ok (xs, ρ1)
  | _ => .bad
def inLine (i : Int) : Bool := decide (-(2 ^ 62) ≤ i) && decide (i < 2 ^ 62)
def asI1 : List D → Option Int
  | [.int j] => some j
  | _ => none
def asI2 : List D → Option (Int × Int)
  | [.int i, .int j] => some (i, j)
  | _ => none
theorem asI1_of : ∀ {ds : List D} {j : Int}, asI1 ds = some j → ds = [.int j]
  | [.int j], _, h => by cases h; rfl
theorem asI2_of : ∀ {ds : List D} {p : Int × Int}, asI2 ds = some p → ds = [.int p.1, .int p.2]
  | [.int i, .int j], _, h => by cases h; rfl
def mItR1 (fs : Env → R (List D × Env)) : Env → R (List D × Env) := fun ρ => (fs ρ).bind fun (ds, ρ1) => match asI1 ds with
  | some j => if inLine j = true then .ok (intsFrom 0 j.toNat, ρ1) else .bad
  | none => .bad
def mItR2 (fs : Env → R (List D × Env)) : Env → R (List D × Env) := fun ρ => (fs ρ).bind fun (ds, ρ1) => match asI2 ds with
  | some (i, j) => if (inLine i && inLine j) = true then .ok (intsFrom i (j - i).toNat, ρ1) else .bad
  | none => .bad

section
variable {X : Cx} {C : Cz} {P : List Nat} {J : Js} {Γ Γ' Γ1 Γ2 : List Nat} {k i j : Nat} {x y : Str} {pos p p2 : Pos} {a b e tg : Expr} {es : List Expr} {fa fb : Env → R (D × Env)} {ta tb : Env → R (Bool × Env)} {fs : Env → R (List D × Env)}
theorem pi_imp {t t' : TI} (h : PI X tg e t) (i : ∀ σ H Q, t' σ H Q → t σ H Q) : PI X tg e t' := ⟨fun pins s σ H Q I q => h.run pins s σ H Q I (i σ H Q q)⟩
theorem inLine_of {i : Int} (h : inLine i = true) : -(2 ^ 62) ≤ i ∧ i < 2 ^ 62 := by
  unfold inLine at h
  rw [Bool.and_eq_true] at h
  exact ⟨of_decide_eq_true h.1, of_decide_eq_true h.2⟩
theorem OutE.thenI {K : PySem.W.Frag} {T : Tab} {W : WX} {σ : St} {H : Hp} {S : Addr → Prop} {fp : Nat → List Addr} {r : R (D × Env)} {Q' : VK} {Q : It → Hp → Prop} {g : D × Env → R (List D × Env)} (h : OutI K T W Γ2 σ H S fp Q (r.bind g))
    (go : ∀ d ρ1 v H1 S1 fp1, r = .ok (d, ρ1) → Stt K T Γ' S1 σ H1 ρ1 fp1 → Rep K T H1 S1 d v → Fra H S (Ow fp) H1 S1 (Ow fp1) → OutI K T W Γ2 σ H S fp Q (g (d, ρ1)) → Q' v H1) : OutE K T W Γ' 0 σ H S fp Q' r := by
  cases r with
  | ok a =>
    obtain ⟨d, ρ1⟩ := a
    intro v H' S' fp' Fv s x f
    obtain ⟨e, rr⟩ := x.rep
    subst e
    exact go d ρ1 v H' S' fp' rfl s rr f.ow h
  | er c fs => exact h
  | bad => exact h
theorem OutA.thenI {K : PySem.W.Frag} {T : Tab} {W : WX} {σ : St} {H : Hp} {S : Addr → Prop} {fp : Nat → List Addr} {r : R (List D × Env)} {Q' : List V → Hp → Prop} {Q : It → Hp → Prop} {g : List D × Env → R (List D × Env)} (h : OutI K T W Γ2 σ H S fp Q (r.bind g))
    (go : ∀ d ρ1 v H1 S1 fp1, r = .ok (d, ρ1) → Stt K T Γ' S1 σ H1 ρ1 fp1 → Reps K T H1 S1 d v → Fra H S (Ow fp) H1 S1 (Ow fp1) → OutI K T W Γ2 σ H S fp Q (g (d, ρ1)) → Q' v H1) : OutA K T W Γ' σ H S fp Q' r := by
  cases r with
  | ok a =>
    obtain ⟨d, ρ1⟩ := a
    intro v H' S' fp' s rr f
    exact go d ρ1 v H' S' fp' rfl s rr f h
  | er c fs => exact h
  | bad => exact h
theorem di_list (ha : DE X C Γ e Γ1 0 fa) : DI X C tg Γ e Γ1 (mItL fa) := pi_imp (pi_list ha) fun σ H Q h => by
  obtain ⟨S, ρ, fp, s, h⟩ := h
  refine ⟨S, ρ, fp, s, OutE.thenI h fun d ρ1 v H1 S1 fp1 e1 s1 r1 f1 h1 => ?_⟩
  cases d with
  | lst xs =>
    simp only [Rep] at r1
    obtain ⟨a, vs, rfl, h2, sa, r⟩ := r1
    exact ⟨a, rfl, ⟨vs, .inl (.inl h2)⟩, h1 _ H1 S1 fp1 s1 (it_list r h2 sa) f1⟩
  | _ => exact h1.elim
theorem di_tup (ha : DE X C Γ e Γ1 0 fa) : DI X C tg Γ e Γ1 (mItT fa) := pi_imp (pi_tup ha) fun σ H Q h => by
  obtain ⟨S, ρ, fp, s, h⟩ := h
  refine ⟨S, ρ, fp, s, OutE.thenI h fun d ρ1 v H1 S1 fp1 e1 s1 r1 f1 h1 => ?_⟩
  cases d with
  | tup xs =>
    simp only [Rep] at r1
    obtain ⟨a, vs, rfl, h2, r⟩ := r1
    exact ⟨a, rfl, ⟨vs, h2⟩, h1 _ H1 S1 fp1 s1 (it_tup r h2) f1⟩
  | _ => exact h1.elim
theorem reps_ints1 {K : PySem.W.Frag} {T : Tab} {S : Addr → Prop} {H : Hp} {i : Int} {vs : List V} (h : Reps K T H S [.int i] vs) : vs = [.int i] := by
  simp only [Reps, Rep] at h
  obtain ⟨v, ws, rfl, rfl, rfl⟩ := h
  rfl
theorem reps_ints2 {K : PySem.W.Frag} {T : Tab} {S : Addr → Prop} {H : Hp} {i j : Int} {vs : List V} (h : Reps K T H S [.int i, .int j] vs) : vs = [.int i, .int j] := by
  simp only [Reps, Rep] at h
  obtain ⟨v, ws, rfl, rfl, v2, w2, rfl, rfl, rfl⟩ := h
  rfl
theorem di_range1 (hg : Gl X "range") (hm : X.mg "range" = none) (ha : DA X C Γ [a] Γ1 fs) (hs : starEach [a] X.env = [(false, eval a X.env)] := by rfl) : DI X C tg Γ (.Call (.Name "range" p) [a] [] pos) Γ1 (mItR1 fs) := pi_imp (pi_range1 hg hm ha hs) fun σ H Q h => by
  obtain ⟨S, ρ, fp, s, h⟩ := h
  refine ⟨S, ρ, fp, s, OutA.thenI h fun ds ρ1 vs H1 S1 fp1 e1 s1 r1 f1 h1 => ?_⟩
  dsimp only at h1
  cases q : asI1 ds with
  | none => rw [q] at h1; exact h1.elim
  | some j =>
    rw [q] at h1
    rw [asI1_of q] at r1
    have e := reps_ints1 r1
    subst e
    by_cases hl : inLine j = true
    · simp only [if_pos hl] at h1
      obtain ⟨l1, l2⟩ := inLine_of hl
      exact ⟨j, rfl, l1, l2, h1 _ H1 S1 fp1 s1 it_range f1⟩
    · simp only [if_neg hl] at h1; exact h1.elim
theorem di_range2 (hg : Gl X "range") (hm : X.mg "range" = none) (ha : DA X C Γ [a, b] Γ1 fs) (hs : starEach [a, b] X.env = [(false, eval a X.env), (false, eval b X.env)] := by rfl) (hs2 : starEach [b] X.env = [(false, eval b X.env)] := by rfl) :
    DI X C tg Γ (.Call (.Name "range" p) [a, b] [] pos) Γ1 (mItR2 fs) := pi_imp (pi_range2 hg hm ha hs hs2) fun σ H Q h => by
  obtain ⟨S, ρ, fp, s, h⟩ := h
  refine ⟨S, ρ, fp, s, OutA.thenI h fun ds ρ1 vs H1 S1 fp1 e1 s1 r1 f1 h1 => ?_⟩
  dsimp only at h1
  cases q : asI2 ds with
  | none => rw [q] at h1; exact h1.elim
  | some ij =>
    obtain ⟨i, j⟩ := ij
    rw [q] at h1
    rw [asI2_of q] at r1
    have e := reps_ints2 r1
    subst e
    by_cases hl : (inLine i && inLine j) = true
    · simp only [if_pos hl] at h1
      rw [Bool.and_eq_true] at hl
      obtain ⟨l1, l2⟩ := inLine_of hl.1
      obtain ⟨l3, l4⟩ := inLine_of hl.2
      exact ⟨i, j, rfl, ⟨l1, l2, l3, l4⟩, h1 _ H1 S1 fp1 s1 it_range f1⟩
    · simp only [if_neg hl] at h1; exact h1.elim
end

/-! ### for -/
def mForL (g : D → Env → Option Env) (fb : Env → R (Fl × Env)) : List D → Env → R (Fl × Env)
  | [], ρ => .ok (.nx, ρ)
  | d :: r, ρ => (ofO (g d ρ)).bind fun ρ1 => (fb ρ1).bind fun (fl, ρ2) => match fl with
    | .nx => mForL g fb r ρ2
    | .ct => mForL g fb r ρ2
    | .bk => .ok (.nx, ρ2)
    | .rt d => .ok (.rt d, ρ2)
def mFor (src : Env → R (List D × Env)) (g : D → Env → Option Env) (fb : Env → R (Fl × Env)) : Env → R (Fl × Env) := fun ρ => (src ρ).bind fun (ds, ρ1) => mForL g fb ds ρ1
def mWhile (n : Nat) (ft : Env → R (Bool × Env)) (fb : Env → R (Fl × Env)) : Env → R (Fl × Env) := match n with
  | 0 => fun _ => .bad
  | n + 1 => fun ρ => (ft ρ).bind fun (b, ρ1) => if b = true then (fb ρ1).bind fun (fl, ρ2) => match fl with
      | .nx => mWhile n ft fb ρ2
      | .ct => mWhile n ft fb ρ2
      | .bk => .ok (.nx, ρ2)
      | .rt d => .ok (.rt d, ρ2)
    else .ok (.nx, ρ1)
section
variable {X : Cx} {C : Cz} {P : List Nat} {J : Js} {Γ Γ' Γ1 Γ2 : List Nat} {k i j n : Nat} {x y : Str} {pos p p2 : Pos} {a b e tg iter : Expr} {es : List Expr} {ft : Env → R (Bool × Env)} {src : Env → R (List D × Env)} {g : D → Env → Option Env} {fb : Env → R (Fl × Env)} {body : List Stmt}
theorem drop_cons {α : Type} {l : List α} {i : Nat} {d : α} (h : l[i]? = some d) : l.drop i = d :: l.drop (i + 1) := by
  obtain ⟨hl, e⟩ := List.getElem?_eq_some_iff.mp h
  rw [List.drop_eq_getElem_cons hl, e]
theorem ds_for (hp : PassesOwn (model X.prog X.w) X.A X.env X.xe) (hc : X.calm = true) (hi : DI X C tg Γ iter Γ1 src) (hg : DG X C P Γ1 tg Γ2 g) (hb : DSs X C P { J with nx := Γ1, ct := Γ1, bk := J.nx } Γ2 body fb) (hΓ : J.nx = Γ1 := by rfl)
    (hs : ∀ x, foldedSetIterable iter X.env x = pure x := by intro _; rfl) : DS X C P J Γ (.For tg iter body [] pos) (mFor src g fb) := ps_imp (ps_for hp hc hi hg hb hs) fun E σ H h => by
  obtain ⟨S, ρ, fp, s, h⟩ := h
  refine ⟨S, ρ, fp, s, ?_⟩
  unfold mFor at h
  cases q : src ρ with
  | er c fs => rw [q] at h; exact OutS.er h
  | bad => rw [q] at h; exact h
  | ok ar =>
    obtain ⟨ds, ρ1⟩ := ar
    rw [q] at h
    intro Jt H1 S1 fp1 s1 it f1
    have h := OutS.before (σ1 := σ) Kp.refl f1 h
    refine ⟨fun i m σ' H' => m = ds.length - i ∧ i ≤ ds.length ∧ ∃ S' ρ' fp', Stt X.K C.T Γ1 S' σ' H' ρ' fp' ∧ Stay X.K H1 S1 H' S' ∧ OutS X.K C.T C.W P J σ' H' S' fp' E (mForL g fb (ds.drop i) ρ'), ⟨_, rfl, Nat.zero_le _, S1, ρ1, fp1, s1, .refl, h⟩, ?_⟩
    rintro i m σ2 H2 ⟨rfl, hle, S2, ρ2, fp2, s2, st2, h2⟩
    cases hd : ds[i]? with
    | none =>
      have hl : ds.length ≤ i := List.getElem?_eq_none_iff.mp hd
      refine .inl ⟨it.stop S2 H2 st2 i hl, ?_⟩
      rw [List.drop_eq_nil_of_le hl] at h2
      exact h2 σ2 H2 S2 fp2 (by rw [hΓ]; exact s2) Kp.refl Fra.refl
    | some d =>
      have hl : i < ds.length := (List.getElem?_eq_some_iff.mp hd).1
      rw [drop_cons hd] at h2
      refine .inr ⟨it.go S2 H2 st2 i d hd, fun σ' H' => ∃ S' ρ' fp', Stt X.K C.T Γ1 S' σ' H' ρ' fp' ∧ Stay X.K H1 S1 H' S' ∧ OutS X.K C.T C.W P J σ' H' S' fp' E (mForL g fb (ds.drop (i + 1)) ρ'), fun σ' H' z => ⟨ds.length - (i + 1), by omega, rfl, hl, z⟩, fun x H3 hy => ?_⟩
      obtain ⟨kk, r3⟩ := it.yld S2 H2 st2 i d hd x H3 hy
      have s3 := s2.grow kk
      have f3 : Fra H2 S2 (Ow fp2) H3 S2 (Ow fp2) := ⟨fun b o h _ => kk b o h, fun _ z => z, fun _ z => .inl z, fun _ z => .inl z⟩
      refine ⟨S2, ρ2, fp2, d, s3, r3, ?_⟩
      unfold mForL at h2
      cases qg : g d ρ2 with
      | none => rw [qg] at h2; exact h2.elim
      | some ρ3 =>
        rw [qg] at h2
        intro σ4 H4 S4 fp4 s4 k4 f4
        have h4 := OutS.before k4 (f3.trans f4) h2
        refine ⟨S4, ρ3, fp4, s4, ?_⟩
        have st4 : Stay X.K H1 S1 H4 S4 := (st2.trans (Stay.grow kk)).trans (s3.sep.stay f4)
        dsimp only [ofO, R.bind] at h4
        revert h4
        generalize fb ρ3 = r
        intro h4
        match r, h4 with
        | .ok (.nx, ρ5), h4 => exact fun σ5 H5 S5 fp5 s5 k5 f5 => ⟨S5, ρ5, fp5, s5, st4.trans (s4.sep.stay f5), OutS.before k5 f5 h4⟩
        | .ok (.ct, ρ5), h4 => exact fun σ5 H5 S5 fp5 s5 k5 f5 => ⟨S5, ρ5, fp5, s5, st4.trans (s4.sep.stay f5), OutS.before k5 f5 h4⟩
        | .ok (.bk, ρ5), h4 => exact h4
        | .ok (.rt v, ρ5), h4 => exact h4
        | .er c fs, h4 => exact h4
        | .bad, h4 => exact h4
theorem ds_while {cnd : Expr} (hp : PassesOwn (model X.prog X.w) X.A X.env X.xe) (hc : DT X C Γ cnd Γ ft) (hb : DSs X C P { J with nx := Γ, ct := Γ, bk := J.nx } Γ body fb) (hΓ : J.nx = Γ := by rfl) : DS X C P J Γ (.While cnd body [] pos) (mWhile n ft fb) := ps_imp (ps_while hp hc hb) fun E σ H h => by
  obtain ⟨S, ρ, fp, s, h⟩ := h
  refine ⟨fun m σ' H' => ∃ S' ρ' fp', Stt X.K C.T Γ S' σ' H' ρ' fp' ∧ OutS X.K C.T C.W P J σ' H' S' fp' E (mWhile m ft fb ρ'), ⟨n, S, ρ, fp, s, h⟩, ?_⟩
  rintro m σ2 H2 ⟨S2, ρ2, fp2, s2, h2⟩
  cases m with
  | zero => exact h2.elim
  | succ m =>
    refine ⟨S2, ρ2, fp2, s2, OutT.thenS h2 fun b ρ3 H3 S3 fp3 e3 s3 f3 h3 => ?_⟩
    cases b with
    | false => exact h3 σ2 H3 S3 fp3 (by rw [hΓ]; exact s3) Kp.refl Fra.refl
    | true =>
      dsimp only at h3
      rw [if_pos rfl] at h3
      rw [if_pos rfl]
      refine ⟨fun σ' H' => ∃ S' ρ' fp', Stt X.K C.T Γ S' σ' H' ρ' fp' ∧ OutS X.K C.T C.W P J σ' H' S' fp' E (mWhile m ft fb ρ'), fun σ' H' z => ⟨m, Nat.lt_succ_self m, z⟩, S3, ρ3, fp3, s3, ?_⟩
      revert h3
      generalize fb ρ3 = r
      intro h4
      match r, h4 with
      | .ok (.nx, ρ5), h4 => exact fun σ5 H5 S5 fp5 s5 k5 f5 => ⟨S5, ρ5, fp5, s5, OutS.before k5 f5 h4⟩
      | .ok (.ct, ρ5), h4 => exact fun σ5 H5 S5 fp5 s5 k5 f5 => ⟨S5, ρ5, fp5, s5, OutS.before k5 f5 h4⟩
      | .ok (.bk, ρ5), h4 => exact h4
      | .ok (.rt v, ρ5), h4 => exact h4
      | .er c fs, h4 => exact h4
      | .bad, h4 => exact h4
end

/-! ### comprehensions -/
def noEr {α : Type} : R α → R α
  | .er _ _ => .bad
  | r => r
def wipeE (ρ : Env) : List Nat → Env
  | [] => ρ
  | v :: vs => (wipeE ρ vs).set v none
/-- behind a comprehension its own names are as they were -/
def backE (ρ ρ' : Env) (vs : List Nat) : Env := vs.foldr (fun v r => r.set v ((ρ[v]?).getD none)) ρ'
def mCompL (vs : List Nat) (g : D → Env → Option Env) (ft : Env → R (Bool × Env)) (fe : Env → R (D × Env)) : List D → Env → R (List D × Env)
  | [], ρ => .ok ([], ρ)
  | d :: r, ρ => (ofO (g d ρ)).bind fun ρ1 => (noEr (ft ρ1)).bind fun (b, ρ2) => if b = true then
      (noEr (fe ρ2)).bind fun (y, ρ3) => (mCompL vs g ft fe r (wipeE ρ3 vs)).bind fun (ys, ρ4) => .ok (y :: ys, ρ4)
    else mCompL vs g ft fe r (wipeE ρ2 vs)
def mComp (vs : List Nat) (src : Env → R (List D × Env)) (g : D → Env → Option Env) (ft : Env → R (Bool × Env)) (fe : Env → R (D × Env)) : Env → R (D × Env) := fun ρ => (src ρ).bind fun (ds, ρ1) => if ds.length ≤ 100000 then
    (mCompL vs g ft fe ds (wipeE ρ1 vs)).bind fun (ys, ρ2) => .ok (.lst ys, backE ρ1 ρ2 vs)
  else .bad
def mYes : Env → R (Bool × Env) := fun ρ => .ok (true, ρ)
theorem wipeE_length {ρ : Env} : ∀ {vs : List Nat}, (wipeE ρ vs).length = ρ.length
  | [] => rfl
  | v :: vs => by unfold wipeE; rw [List.length_set, wipeE_length]
theorem wipeE_get {ρ : Env} {i : Nat} {d : D} : ∀ {vs : List Nat}, (wipeE ρ vs)[i]? = some (some d) → i ∉ vs ∧ ρ[i]? = some (some d)
  | [], h => ⟨by simp, h⟩
  | v :: vs, h => by
    unfold wipeE at h
    by_cases e : i = v
    · subst e
      rw [List.getElem?_set] at h
      simp at h
    · rw [List.getElem?_set_ne (Ne.symm e)] at h
      obtain ⟨a, b⟩ := wipeE_get h
      exact ⟨by simp [e, a], b⟩
theorem wipeV_get {σ : St} {i : Nat} : ∀ {vs : List Nat}, i ∉ vs → (wipe σ vs)[i]? = σ[i]?
  | [], _ => rfl
  | v :: vs, h => by
    unfold wipe
    rw [List.getElem?_set_ne (fun e => h (by simp [e]))]
    exact wipeV_get fun z => h (List.mem_cons_of_mem _ z)
theorem backE_length {ρ ρ' : Env} : ∀ {vs : List Nat}, (backE ρ ρ' vs).length = ρ'.length
  | [] => rfl
  | v :: vs => by
    show (List.set _ _ _).length = _
    rw [List.length_set]; exact backE_length
theorem backE_get {ρ ρ' : Env} {i : Nat} {d : D} : ∀ {vs : List Nat}, (backE ρ ρ' vs)[i]? = some (some d) → (i ∈ vs ∧ ρ[i]? = some (some d)) ∨ (i ∉ vs ∧ ρ'[i]? = some (some d))
  | [], h => .inr ⟨by simp, h⟩
  | v :: vs, h => by
    have h : ((backE ρ ρ' vs).set v ((ρ[v]?).getD none))[i]? = some (some d) := h
    by_cases e : i = v
    · subst e
      refine .inl ⟨by simp, ?_⟩
      rw [List.getElem?_set] at h
      simp only [if_true] at h
      split at h
      · cases q : ρ[i]? with
        | none => rw [q] at h; simp at h
        | some z => rw [q] at h; simpa using h
      · cases h
    · rw [List.getElem?_set_ne (Ne.symm e)] at h
      rcases backE_get h with ⟨a, b⟩ | ⟨a, b⟩
      · exact .inl ⟨List.mem_cons_of_mem _ a, b⟩
      · exact .inr ⟨by simp [e, a], b⟩
theorem wipe_eq {σ σ' : St} (hl : σ'.length = σ.length) : ∀ {vs : List Nat}, (∀ i, i ∉ vs → σ'[i]? = σ[i]?) → wipe σ' vs = wipe σ vs := fun {vs} h => by
  have z : ∀ (τ : St) (vs : List Nat) (i : Nat), i ∈ vs → i < τ.length → (wipe τ vs)[i]? = some none := by
    intro τ vs
    induction vs with
    | nil => intro i h; cases h
    | cons v vs ih =>
      intro i hi hl
      unfold wipe
      by_cases e : i = v
      · subst e
        rw [List.getElem?_set_self (by rw [wipe_length]; exact hl)]
      · rw [List.getElem?_set_ne (Ne.symm e)]
        exact ih i (by simpa [e] using hi) hl
  refine List.ext_getElem? fun i => ?_
  by_cases hi : i ∈ vs
  · by_cases hlt : i < σ.length
    · rw [z σ vs i hi hlt, z σ' vs i hi (by omega)]
    · rw [List.getElem?_eq_none (by rw [wipe_length]; omega), List.getElem?_eq_none (by rw [wipe_length]; omega)]
  · rw [wipeV_get hi, wipeV_get hi, h i hi]
section
variable {K : PySem.W.Frag} {T : Tab} {W : WX} {Γ : List Nat} {k : Nat} {σ : St} {H : Hp} {S : Addr → Prop} {fp : Nat → List Addr} {ρ : Env} {vs : List Nat}
theorem Stt.wipe (s : Stt K T Γ S σ H ρ fp) : Stt K T Γ S (wipe σ vs) H (wipeE ρ vs) fp := by
  refine ⟨s.sep, by rw [wipeE_length, wipe_length]; exact s.len, by rw [wipe_length]; exact s.gl, fun i d h => ?_⟩
  obtain ⟨n, h⟩ := wipeE_get h
  obtain ⟨v, hv, o⟩ := s.sl i d h
  exact ⟨v, by rw [wipeV_get n]; exact hv, o⟩
end
/-- in a comprehension's block no error goes out -/
abbrev Cz.in (C : Cz) : Cz := ⟨C.T, fun _ _ _ _ => False⟩
section
variable {X : Cx} {C : Cz} {P : List Nat} {J : Js} {Γ Γ' Γ1 Γ2 : List Nat} {k i j n : Nat} {x y : Str} {pos p p2 : Pos} {elt e tg iter : Expr} {ifs : List Expr} {ft : Env → R (Bool × Env)} {fe : Env → R (D × Env)} {src : Env → R (List D × Env)} {g : D → Env → Option Env} {vs : List Nat}
theorem neS {S : Addr → Prop} {a p : Addr} (s : S a) (n : ¬ S p) : a ≠ p := fun z => n (by rw [← z]; exact s)
theorem Stay.poke {K : PySem.W.Frag} {H : Hp} {S : Addr → Prop} {p : Addr} {av aw : List V} (h : H p = some (.lst av)) (n : ¬ S p) : Stay K H S (upd H p (.lst aw)) S := by
  have ne : ∀ {b : Addr} {o : HO}, H b = some o → (∀ xs, o ≠ .lst xs) → b ≠ p := fun {b o} e z q => by subst q; rw [h] at e; cases e; exact z _ rfl
  refine ⟨fun a vs e s => ⟨by rw [upd_ne (neS s n)]; exact e, s⟩, fun a vs e => ?_, fun a vs e => ?_, fun a C dx fs e s => ⟨by rw [upd_ne (neS s n)]; exact e, s⟩⟩
  · rcases e with ⟨o, e⟩ | e
    · exact .inl ⟨o, by rw [upd_ne (ne e fun xs z => by cases z)]; exact e⟩
    · exact .inr e
  · rcases e with (e | ⟨o, e⟩) | e
    · exact .inl (.inl (by rw [upd_ne (ne e fun xs z => by cases z)]; exact e))
    · exact .inl (.inr ⟨o, by rw [upd_ne (ne e fun xs z => by cases z)]; exact e⟩)
    · exact .inr e
theorem Stt.poke {K : PySem.W.Frag} {T : Tab} {Γ : List Nat} {S : Addr → Prop} {σ : St} {H : Hp} {ρ : Env} {fp : Nat → List Addr} {p : Addr} {av aw : List V} (s : Stt K T Γ S σ H ρ fp) (h : H p = some (.lst av)) (n : ¬ S p) (nf : ∀ i, p ∉ fp i) : Stt K T Γ S σ (upd H p (.lst aw)) ρ fp := by
  have ne : ∀ i a, a ∈ fp i → a ≠ p := fun i a m z => nf i (z ▸ m)
  refine ⟨⟨fun i a m => by rw [upd_ne (ne i a m)]; exact s.sep.mu i a m, s.sep.nd, s.sep.dj, s.sep.ns, fun a m => ?_⟩, s.len, s.gl, fun i d e => ?_⟩
  · obtain ⟨o, e⟩ := s.sep.al a m
    exact ⟨o, by rw [upd_ne (neS m n)]; exact e⟩
  · obtain ⟨v, hv, o⟩ := s.sl i d e
    exact ⟨v, hv, o.stay (Stay.poke h n) fun a m o q => by rw [upd_ne (ne i a m)]; exact q⟩
def fpOff (fp : Nat → List Addr) (vs : List Nat) : Nat → List Addr := fun i => if i ∈ vs then [] else fp i
theorem mem_fpOff {fp : Nat → List Addr} {vs : List Nat} {i : Nat} {a : Addr} (h : a ∈ fpOff fp vs i) : i ∉ vs ∧ a ∈ fp i := by
  unfold fpOff at h
  split at h
  · cases h
  · rename_i n; exact ⟨n, h⟩
theorem Sep.off {S : Addr → Prop} {H : Hp} {fp : Nat → List Addr} (s : Sep S H fp) (vs : List Nat) : Sep S H (fpOff fp vs) :=
  ⟨fun i a h => s.mu i a (mem_fpOff h).2, fun i => by unfold fpOff; split; exact List.nodup_nil; exact s.nd i, fun i j a h h' => s.dj i j a (mem_fpOff h).2 (mem_fpOff h').2, fun i a h => s.ns i a (mem_fpOff h).2, s.al⟩
theorem bind_asc {α β γ : Type} {x : R α} {f : α → R β} {g : β → R γ} : (x.bind f).bind g = x.bind fun a => (f a).bind g := by cases x <;> rfl
theorem lc_data {σ : St} {H : Hp} {Q : VK} (hv : ∀ i ∈ vs, Γ1.getD i 0 = 0) (hP : ∀ i, i < Γ1.length → i ∉ vs → i ∈ P) (hk : k ≤ 1) (h : tE X.K C.T C.W Γ Γ1 k (mComp vs src g ft fe) σ H Q) :
    tLc (tI X.K C.T C.W Γ Γ1 src) (tGt X.K C.T P Γ1 Γ1 g) (tT X.K C.T (fun _ _ _ _ => False) Γ1 Γ1 ft) (tE X.K C.T (fun _ _ _ _ => False) Γ1 Γ1 0 fe) vs σ H Q := by
  obtain ⟨S, ρ, fp, s, h⟩ := h
  refine ⟨S, ρ, fp, s, ?_⟩
  unfold mComp at h
  cases q : src ρ with
  | er c fs => rw [q] at h; exact h
  | bad => rw [q] at h; exact h
  | ok ar =>
    obtain ⟨ds, ρ1⟩ := ar
    rw [q] at h
    intro Jt H1 S1 fp1 s1 it f1 Dl hD
    have h := OutE.before f1 h
    simp only [R.bind_ok] at h
    by_cases hlen : ds.length ≤ 100000
    · rw [if_pos hlen] at h
      have kk := kept_upd (u := .lst []) hD
      have hDf := s1.sep.fresh hD
      -- the word: behind i turns the new list holds what was made; the rest makes the rest
      let Wc : Nat → Hp → Prop := fun i H' => ∃ S' ρ' fp' acc av, Stt X.K C.T Γ1 S' (wipe σ vs) H' ρ' fp' ∧ Stay X.K H1 S1 H' S' ∧ Fra H1 S1 (Ow fp1) H' S' (Ow fp') ∧ H' Dl = some (.lst av) ∧ ¬ S' Dl ∧ (∀ i, Dl ∉ fp' i) ∧
        Reps X.K C.T H' S' acc av ∧ acc.length ≤ i ∧ OutE X.K C.T C.W Γ1 k σ H1 S1 fp1 Q ((mCompL vs g ft fe (ds.drop i) ρ').bind fun (ys, ρ2) => .ok (.lst (acc ++ ys), backE ρ1 ρ2 vs))
      refine ⟨fun i m H' => m = ds.length - i ∧ i ≤ ds.length ∧ Wc i H', ⟨_, rfl, Nat.zero_le _, S1, _, fp1, [], [], s1.wipe.grow kk, Stay.grow kk, ⟨fun b o h _ => kk b o h, fun _ z => z, fun _ z => .inl z, fun _ z => .inl z⟩, upd_same, hDf.1, hDf.2, by simp [Reps], by simp, h⟩, ?_⟩
      rintro i m H2 ⟨rfl, hle, S2, ρ2, fp2, acc, av, s2, st2, fr2, hD2, nS2, nf2, ra2, ha2, h2⟩
      cases hd : ds[i]? with
      | none =>
        have hl : ds.length ≤ i := List.getElem?_eq_none_iff.mp hd
        refine .inl ⟨it.stop S2 H2 st2 i hl, ?_⟩
        rw [List.drop_eq_nil_of_le hl] at h2
        simp only [mCompL, R.bind_ok, List.append_nil] at h2
        -- the frame's own names come back
        have back : Stt X.K C.T Γ1 S2 σ H2 (backE ρ1 ρ2 vs) (fpOff fp2 vs) := by
          refine ⟨s2.sep.off vs, by rw [backE_length, s2.len, wipe_length], s1.gl, fun i d h => ?_⟩
          rcases backE_get h with ⟨m, h⟩ | ⟨m, h⟩
          · obtain ⟨v, hv1, o⟩ := s1.sl i d h
            rw [hv i m] at o ⊢
            obtain ⟨ef, r⟩ := own_zero.mp o
            refine ⟨v, hv1, ?_⟩
            have hf : fpOff fp2 vs i = [] := if_pos m
            rw [hf]
            exact own_zero.mpr ⟨rfl, st2.rep r⟩
          · obtain ⟨v, hv1, o⟩ := s2.sl i d h
            rw [wipeV_get m] at hv1
            have hf : fpOff fp2 vs i = fp2 i := if_neg m
            rw [hf]
            exact ⟨v, hv1, o⟩
        have lessO : ∀ b, Ow (fpOff fp2 vs) b → Ow fp2 b := fun b ⟨i, z⟩ => ⟨i, (mem_fpOff z).2⟩
        match k, hk with
        | 0, _ =>
          have frS : Fra H1 S1 (Ow fp1) H2 (fun a => S2 a ∨ a = Dl) (Ow (fpOff fp2 vs)) := ⟨fr2.kp, fun b z => .inl (fr2.sm b z), fun b z => by
            rcases z with z | z
            · exact fr2.so b z
            · subst z; exact .inr (.inr hD), fun b z => fr2.oo b (lessO b z)⟩
          refine h2 _ H2 (fun a => S2 a ∨ a = Dl) (fpOff fp2 vs) [] ⟨⟨back.sep.mu, back.sep.nd, back.sep.dj, fun i a h z => ?_, fun a z => ?_⟩, back.len, back.gl, fun i d h => ?_⟩ (.of ?_) frS.ow'
          · rcases z with z | z
            · exact back.sep.ns i a h z
            · subst z; exact nf2 i (mem_fpOff h).2
          · rcases z with z | z
            · exact back.sep.al a z
            · subst z; exact ⟨_, hD2⟩
          · obtain ⟨v, hv, o⟩ := back.sl i d h
            exact ⟨v, hv, o.stay (Stay.more fun a h => .inl h) fun a _ o h => h⟩
          · simp only [Rep]
            exact ⟨Dl, av, rfl, hD2, .inr rfl, (Stay.more fun a h => .inl h).reps ra2⟩
        | 1, _ =>
          refine h2 _ H2 S2 (fpOff fp2 vs) [Dl] back ⟨own_lst1.mpr ⟨Dl, av, rfl, hD2, rfl, ra2⟩, by simp, fun a m => ?_, fun a m i z => ?_⟩ ⟨fr2.kp, fr2.sm, fr2.so, fun b z => ?_⟩
          · rw [List.mem_singleton] at m; subst m; exact nS2
          · rw [List.mem_singleton] at m; subst m; exact nf2 i (mem_fpOff z).2
          · rcases z with z | z
            · exact fr2.oo b (lessO b z)
            · rw [List.mem_singleton] at z; subst z; exact .inr hD
      | some d =>
        have hl : i < ds.length := (List.getElem?_eq_some_iff.mp hd).1
        rw [drop_cons hd] at h2
        refine .inr ⟨it.go S2 H2 st2 i d hd, Wc (i + 1), fun H' z => ⟨ds.length - (i + 1), by omega, rfl, hl, z⟩, fun x H3 hy => ?_⟩
        obtain ⟨kk3, r3⟩ := it.yld S2 H2 st2 i d hd x H3 hy
        refine ⟨S2, ρ2, fp2, d, s2.grow kk3, r3, ?_⟩
        unfold mCompL at h2
        cases qg : g d ρ2 with
        | none => rw [qg] at h2; exact h2.elim
        | some ρ3 =>
          rw [qg] at h2
          simp only [ofO, R.bind_ok] at h2
          intro σ4 H4 S4 fp4 s4 k4 f4
          have hl4 : σ4.length = σ.length := by rw [← s4.gl, ← s1.gl]
          have hw4 : wipe σ4 vs = wipe σ vs := by
            refine wipe_eq hl4 fun j nj => ?_
            by_cases hj : j < Γ1.length
            · rw [k4 j (hP j hj nj), wipeV_get nj]
            · rw [List.getElem?_eq_none (by rw [← s4.gl]; omega), List.getElem?_eq_none (by rw [← s1.gl]; omega)]
          refine ⟨hw4, S4, ρ3, fp4, s4, ?_⟩
          have fr3 : Fra H2 S2 (Ow fp2) H3 S2 (Ow fp2) := ⟨fun b o h _ => kk3 b o h, fun _ z => z, fun _ z => .inl z, fun _ z => .inl z⟩
          -- what any later state of the turn keeps of the new list
          have fin : ∀ {H' : Hp} {S' : Addr → Prop} {fp' : Nat → List Addr}, Fra H2 S2 (Ow fp2) H' S' (Ow fp') → H' Dl = some (.lst av) ∧ ¬ S' Dl ∧ ∀ i, Dl ∉ fp' i := fun {H' S' fp'} f => by
            have nO : ¬ Ow fp2 Dl := fun ⟨i, z⟩ => nf2 i z
            refine ⟨f.kp Dl _ hD2 nO, fun z => ?_, fun i z => ?_⟩
            · rcases f.so Dl z with z | z | z
              · exact nS2 z
              · exact nO z
              · rw [hD2] at z; cases z
            · rcases f.oo Dl ⟨i, z⟩ with z | z
              · exact nO z
              · rw [hD2] at z; cases z
          cases qt : ft ρ3 with
          | er c fs => rw [qt] at h2; exact h2.elim
          | bad => rw [qt] at h2; exact h2.elim
          | ok br =>
            obtain ⟨b, ρ5⟩ := br
            rw [qt] at h2
            simp only [noEr, R.bind_ok] at h2
            intro H5 S5 fp5 s5 f5
            have fr5 := (fr3.trans f4).trans f5
            cases b with
            | false =>
              rw [if_neg (by decide)] at h2
              rw [if_neg (by decide)]
              obtain ⟨d1, d2, d3⟩ := fin fr5
              refine ⟨S5, _, fp5, acc, av, by rw [← hw4]; exact s5.wipe, st2.trans (s2.sep.stay fr5), fr2.trans fr5, d1, d2, d3, s2.reps_fra ra2 fr5, by omega, h2⟩
            | true =>
              rw [if_pos rfl] at h2
              rw [if_pos rfl]
              refine ⟨S5, ρ5, fp5, s5, ?_⟩
              cases qe : fe ρ5 with
              | er c fs => rw [qe] at h2; exact h2.elim
              | bad => rw [qe] at h2; exact h2.elim
              | ok yr =>
                obtain ⟨y, ρ6⟩ := yr
                rw [qe] at h2
                simp only [noEr, R.bind_ok, bind_asc] at h2
                intro v H6 S6 fp6 Fv s6 x6 f6
                obtain ⟨eF, r6⟩ := x6.rep
                subst eF
                have fr6 := fr5.trans f6.ow
                obtain ⟨d1, d2, d3⟩ := fin fr6
                have ra6 := s2.reps_fra ra2 fr6
                have pk : Stay X.K H6 S6 (upd H6 Dl (.lst (av ++ [v]))) S6 := Stay.poke d1 d2
                have lav : av.length = acc.length := ra2.length.symm
                refine ⟨av, d1, by rw [sizeLine_eq]; omega, S6, _, fp6, acc ++ [y], av ++ [v], by rw [← hw4]; exact s6.wipe.poke d1 d2 d3, (st2.trans (s2.sep.stay fr6)).trans pk, ?_, upd_same, d2, d3, pk.reps (ra6.append ?_), by simp; omega, ?_⟩
                · have fr7 := fr2.trans fr6
                  exact ⟨fun b o h n => by rw [upd_ne (fun z => by rw [z, hD] at h; cases h)]; exact fr7.kp b o h n, fr7.sm, fr7.so, fr7.oo⟩
                · simp only [Reps]
                  exact ⟨v, [], rfl, r6, rfl⟩
                · simp only [List.append_assoc, List.singleton_append]
                  exact h2
    · rw [if_neg hlen] at h; exact h.elim
end
end Z
set_option Elab.async false
set_option linter.all false
set_option maxRecDepth 100000
/-! Z6: comprehensions as expressions; what is changed in place; contracts from bodies; instances; methods -/
namespace Z
open PySem PySem.Spec L2
open PyProof.Rows hiding St

/-! ### code that is not come to -/
section
variable {X : Cx} {C : Cz} {P : List Nat} {J : Js} {Γ Γ' : List Nat} {k : Nat} {e : Expr} {es : List Expr} {st : Stmt} {sts : List Stmt}
theorem de_never : DE X C Γ e Γ' k (fun _ => .bad) := ⟨fun _ _ _ _ _ _ h => by obtain ⟨_, _, _, _, h⟩ := h; exact h.elim⟩
theorem dt_never : DT X C Γ e Γ' (fun _ => .bad) := ⟨fun _ _ _ _ _ _ h => by obtain ⟨_, _, _, _, h⟩ := h; exact h.elim⟩
theorem ds_never : DS X C P J Γ st (fun _ => .bad) := ⟨fun _ _ _ _ _ _ h => by obtain ⟨_, _, _, _, h⟩ := h; exact h.elim⟩
theorem dss_never : DSs X C P J Γ sts (fun _ => .bad) := ⟨fun _ _ _ _ _ _ h => by obtain ⟨_, _, _, _, h⟩ := h; exact h.elim⟩
end

/-! ### comprehensions -/
section
variable {X : Cx} {C : Cz} {P : List Nat} {J : Js} {Γ Γ' Γ1 Γ2 : List Nat} {k i j n : Nat} {x y : Str} {pos p p2 spos : Pos} {elt e tg iter : Expr} {ifs : List Expr} {ft : Env → R (Bool × Env)} {fe : Env → R (D × Env)} {src : Env → R (List D × Env)} {g : D → Env → Option Env} {scope : Scope} {own : List (Str × Nat)}
abbrev DTs (X : Cx) (Z : Cz) (Γ : List Nat) (ifs : List Expr) (f : Env → R (Bool × Env)) : Prop := PTs X ifs (tT X.K Z.T Z.W Γ Γ f)
theorem dts_nil : DTs X C Γ [] mYes := ⟨fun pins s σ H Q I h => by
  obtain ⟨S, ρ, fp, st, h⟩ := h
  exact PySem.wpAny_tests_nil ⟨H, I, h H S fp st Fra.refl⟩⟩
theorem dts_one {c : Expr} (h : DT X C Γ c Γ ft) : DTs X C Γ [c] ft := pts_one h
theorem de_lc (hc : X.calm = true) (hN : X.N.Nodup) (hi : DI X C tg Γ iter Γ1 src) (ok : BlkOk X.N X.env.scope scope own)
    (hg : ∀ (s : Shared) (H : Hp) (A : Addr) (cl : List (Str × Addr)) (fp : List Addr), DG (X.blk s H scope (compEnvC scope cl A X.env) fp) C.in P Γ1 tg Γ1 g)
    (ht : ∀ (s : Shared) (H : Hp) (A : Addr) (cl : List (Str × Addr)) (fp : List Addr), DTs (X.blk s H scope (compEnvC scope cl A X.env) fp) C.in Γ1 ifs ft)
    (he : ∀ (s : Shared) (H : Hp) (A : Addr) (cl : List (Str × Addr)) (fp : List Addr), DE (X.blk s H scope (compEnvC scope cl A X.env) fp) C.in Γ1 elt Γ1 0 fe)
    (hv : ∀ i ∈ own.map (·.2), Γ1.getD i 0 = 0 := by decide) (hP : ∀ i, i < Γ1.length → i ∉ own.map (·.2) → i ∈ P := by decide) (hk : k ≤ 1 := by decide) (hs : ∀ x, foldedSetIterable iter X.env x = pure x := by intro _; rfl) :
    DE X C Γ (.ListComp elt [⟨tg, iter, ifs, 0⟩] scope pos) Γ1 k (mComp (own.map (·.2)) src g ft fe) :=
  pe_imp (pe_lc hc hN hi ok hg ht he hs) fun σ H Q h => lc_data hv hP hk h
theorem ds_setLc {P2 : List Nat} (hc : X.calm = true) (hN : X.N.Nodup) (hy : X.N[i]? = some y) (hyl : X.env.scope.names.lookup y = some .local)
    (hsw : swapsWith (.ListComp elt [⟨tg, iter, ifs, 0⟩] scope pos) (some (.Name y p)) spos.line X.env = pure true) (hi : DI X C tg Γ iter Γ1 src) (ok : BlkOk X.N X.env.scope scope own)
    (hg : ∀ (s : Shared) (H : Hp) (A : Addr) (cl : List (Str × Addr)) (fp : List Addr), DG (X.blk s H scope (compEnvC scope cl A X.env) fp) C.in P Γ1 tg Γ1 g)
    (ht : ∀ (s : Shared) (H : Hp) (A : Addr) (cl : List (Str × Addr)) (fp : List Addr), DTs (X.blk s H scope (compEnvC scope cl A X.env) fp) C.in Γ1 ifs ft)
    (he : ∀ (s : Shared) (H : Hp) (A : Addr) (cl : List (Str × Addr)) (fp : List Addr), DE (X.blk s H scope (compEnvC scope cl A X.env) fp) C.in Γ1 elt Γ1 0 fe)
    (hv : ∀ i ∈ own.map (·.2), Γ1.getD i 0 = 0 := by decide) (hP : ∀ i, i < Γ1.length → i ∉ own.map (·.2) → i ∈ P := by decide) (hk : k ≤ 1 := by decide) (hs : ∀ x, foldedSetIterable iter X.env x = pure x := by intro _; rfl)
    (hil : i < Γ1.length := by decide) (hp : i ∉ P2 := by decide) (h1 : J.nx = Γ1.set i k := by rfl) :
    DS X C P2 J Γ (.Assign [.Name y p] (.ListComp elt [⟨tg, iter, ifs, 0⟩] scope pos) spos) (mSet i (mComp (own.map (·.2)) src g ft fe)) :=
  ds_set (ps_setLc hc hN hy hyl hsw hi ok hg ht he hs) (fun σ H Q h => lc_data hv hP hk h) hil hp h1
end

/-! ### changes in place, at a name -/
def mApp (i : Nat) (fe : Env → R (D × Env)) : Env → R (Fl × Env) := fun ρ => match ρ[i]? with
  | some (some (.lst _)) => (fe ρ).bind fun (d, ρ1) => match ρ1[i]? with
    | some (some (.lst xs)) => if xs.length < 100000 then .ok (.nx, ρ1.set i (some (.lst (xs ++ [d])))) else .bad
    | _ => .bad
  | _ => .bad
/-- o[j] = d -/
def gPut (xs : List D) (j : Int) (d : D) : Option (List D) := (ixN xs.length j).map fun n => xs.set n d
def mSetIx (i : Nat) (fe fi : Env → R (D × Env)) : Env → R (Fl × Env) := fun ρ => (fe ρ).bind fun (d, ρ1) => match ρ1[i]? with
  | some (some (.lst _)) => (fi ρ1).bind fun (j, ρ2) => match j, ρ2[i]? with
    | .int j, some (some (.lst xs)) => (ofO (gPut xs j d)).bind fun ys => .ok (.nx, ρ2.set i (some (.lst ys)))
    | _, _ => .bad
  | _ => .bad
def mPop (i : Nat) : Env → R (D × Env) := fun ρ => match ρ[i]? with
  | some (some (.lst xs)) => match xs.getLast? with
    | some d => .ok (d, ρ.set i (some (.lst xs.dropLast)))
    | none => .bad
  | _ => .bad
def mFldSet (i c j : Nat) (fe : Env → R (D × Env)) : Env → R (Fl × Env) := fun ρ => (fe ρ).bind fun (d, ρ1) => match ρ1[i]? with
  | some (some (.ins c' fs)) => if c' = c then (if j = fs.length then .ok (.nx, ρ1.set i (some (.ins c (fs ++ [d])))) else if j < fs.length then .ok (.nx, ρ1.set i (some (.ins c (fs.set j d)))) else .bad) else .bad
  | _ => .bad
section
variable {K : PySem.W.Frag} {T : Tab} {Γ : List Nat} {σ : St} {H : Hp} {S : Addr → Prop} {fp : Nat → List Addr} {ρ : Env} {i : Nat}
theorem upd_kept {a : Addr} {u o : HO} {b : Addr} (h : H b = some o) (n : b ≠ a) : upd H a u b = some o := by rw [upd_ne n]; exact h
/-- what i owns is written anew: its list -/
theorem Stt.relist {a : Addr} {vs ws : List V} {ys : List D} {xs : List D} (s : Stt K T Γ S σ H ρ fp) (hi : ρ[i]? = some (some (.lst xs))) (hk : Γ.getD i 0 = 1) (hv : σ[i]? = some (some (.ref a))) (h : H a = some (.lst vs)) (r : Reps K T H S ys ws) :
    fp i = [a] ∧ Stt K T Γ S σ (upd H a (.lst ws)) (ρ.set i (some (.lst ys))) fp ∧ Fra H S (Ow fp) (upd H a (.lst ws)) S (Ow fp) := by
  obtain ⟨v, hv', o⟩ := s.sl i _ hi
  rw [hv] at hv'; cases hv'
  rw [hk] at o
  obtain ⟨a', vs', e, h', ef, _⟩ := own_lst1.mp o
  cases e
  have nS : ¬ S a := s.sep.ns i a (by rw [ef]; simp)
  have other : ∀ j b, j ≠ i → b ∈ fp j → b ≠ a := fun j b ne m z => ne (s.sep.dj j i b m (by rw [ef, z]; simp))
  have st : Stay K H S (upd H a (.lst ws)) S := Stay.poke h nS
  refine ⟨ef, ⟨⟨fun j b m => ?_, s.sep.nd, s.sep.dj, s.sep.ns, fun b m => ?_⟩, by simp [s.len], s.gl, fun j d e => ?_⟩, ⟨fun b o e n => ?_, fun _ z => z, fun _ z => .inl z, fun _ z => .inl z⟩⟩
  · by_cases e : b = a
    · subst e; rw [upd_same]; trivial
    · rw [upd_ne e]; exact s.sep.mu j b m
  · obtain ⟨o, e⟩ := s.sep.al b m
    exact ⟨o, upd_kept e (neS m nS)⟩
  · by_cases q : j = i
    · subst q
      rw [List.getElem?_set_self (List.getElem?_eq_some_iff.mp hi).1] at e
      cases e
      refine ⟨_, hv, ?_⟩
      rw [hk]
      exact own_lst1.mpr ⟨a, ws, rfl, upd_same, ef, st.reps r⟩
    · rw [List.getElem?_set_ne (Ne.symm q)] at e
      obtain ⟨v, hv, o⟩ := s.sl j d e
      exact ⟨v, hv, o.stay st fun b m o e => upd_kept e (other j b q m)⟩
  · exact upd_kept e fun z => n (by rw [z]; exact ⟨i, by rw [ef]; simp⟩)
/-- .. its instance -/
theorem Stt.refield {a dx : Addr} {c : Nat} {vs ws : List V} {ys fs : List D} (s : Stt K T Γ S σ H ρ fp) (hi : ρ[i]? = some (some (.ins c fs))) (hk : Γ.getD i 0 = 1) (hv : σ[i]? = some (some (.ref a))) (h : H a = some (.ins (T.cm c) dx ((T.fl c).zip vs)))
    (hl : ys.length ≤ (T.fl c).length) (r : Reps K T H S ys ws) :
    Stt K T Γ S σ (upd H a (.ins (T.cm c) dx ((T.fl c).zip ws))) (ρ.set i (some (.ins c ys))) fp ∧ Fra H S (Ow fp) (upd H a (.ins (T.cm c) dx ((T.fl c).zip ws))) S (Ow fp) := by
  obtain ⟨v, hv', o⟩ := s.sl i _ hi
  rw [hv] at hv'; cases hv'
  rw [hk] at o
  obtain ⟨a', dx', vs', e, h', ef, _⟩ := own_ins1.mp o
  cases e
  have nS : ¬ S a := s.sep.ns i a (by rw [ef]; simp)
  have other : ∀ j b, j ≠ i → b ∈ fp j → b ≠ a := fun j b ne m z => ne (s.sep.dj j i b m (by rw [ef, z]; simp))
  have ne : ∀ {b : Addr} {o : HO}, H b = some o → (∀ C d xs, o ≠ .ins C d xs) → b ≠ a := fun {b o} e z q => by subst q; rw [h] at e; cases e; exact z _ _ _ rfl
  have st : Stay K H S (upd H a (.ins (T.cm c) dx ((T.fl c).zip ws))) S := by
    refine ⟨fun b vs e s => ⟨upd_kept e (neS s nS), s⟩, fun b vs e => ?_, fun b vs e => ?_, fun b C dx fs e s => ⟨upd_kept e (neS s nS), s⟩⟩
    · rcases e with ⟨o, e⟩ | e
      · exact .inl ⟨o, upd_kept e (ne e fun _ _ _ z => by cases z)⟩
      · exact .inr e
    · rcases e with (e | ⟨o, e⟩) | e
      · exact .inl (.inl (upd_kept e (ne e fun _ _ _ z => by cases z)))
      · exact .inl (.inr ⟨o, upd_kept e (ne e fun _ _ _ z => by cases z)⟩)
      · exact .inr e
  refine ⟨⟨⟨fun j b m => ?_, s.sep.nd, s.sep.dj, s.sep.ns, fun b m => ?_⟩, by simp [s.len], s.gl, fun j d e => ?_⟩, ⟨fun b o e n => ?_, fun _ z => z, fun _ z => .inl z, fun _ z => .inl z⟩⟩
  · by_cases e : b = a
    · subst e; rw [upd_same]; trivial
    · rw [upd_ne e]; exact s.sep.mu j b m
  · obtain ⟨o, e⟩ := s.sep.al b m
    exact ⟨o, upd_kept e (neS m nS)⟩
  · by_cases q : j = i
    · subst q
      rw [List.getElem?_set_self (List.getElem?_eq_some_iff.mp hi).1] at e
      cases e
      refine ⟨_, hv, ?_⟩
      rw [hk]
      exact own_ins1.mpr ⟨a, dx, ws, rfl, upd_same, ef, hl, st.reps r⟩
    · rw [List.getElem?_set_ne (Ne.symm q)] at e
      obtain ⟨v, hv, o⟩ := s.sl j d e
      exact ⟨v, hv, o.stay st fun b m o e => upd_kept e (other j b q m)⟩
  · exact upd_kept e fun z => n (by rw [z]; exact ⟨i, by rw [ef]; simp⟩)
/-- an owned list at a name -/
theorem Stt.lst_at {xs : List D} (s : Stt K T Γ S σ H ρ fp) (hi : ρ[i]? = some (some (.lst xs))) (hk : Γ.getD i 0 = 1) : ∃ a vs, σ[i]? = some (some (.ref a)) ∧ H a = some (.lst vs) ∧ Reps K T H S xs vs := by
  obtain ⟨v, hv, o⟩ := s.sl i _ hi
  rw [hk] at o
  obtain ⟨a, vs, rfl, h, _, r⟩ := own_lst1.mp o
  exact ⟨a, vs, hv, h, r⟩
theorem zip_snoc : ∀ {ns : List Str} {vs : List V} {f : Str} {y : V}, ns.Nodup → ns[vs.length]? = some f → putF f y (ns.zip vs) = ns.zip (vs ++ [y])
  | [], vs, f, y, _, h => by simp at h
  | n :: ns, [], f, y, _, h => by
    simp at h; subst h; simp [putF]
  | n :: ns, v :: vs, f, y, nd, h => by
    have h' : ns[vs.length]? = some f := by simpa using h
    have ne : ¬ n = f := fun e => (List.nodup_cons.mp nd).1 (e ▸ List.mem_of_getElem? h')
    simp only [List.zip_cons_cons, List.cons_append]
    show (if n = f then (n, y) :: ns.zip vs else (n, v) :: putF f y (ns.zip vs)) = _
    rw [if_neg ne, zip_snoc (List.nodup_cons.mp nd).2 h']
theorem zip_set : ∀ {ns : List Str} {vs : List V} {j : Nat} {f : Str} {y : V}, ns.Nodup → ns[j]? = some f → j < vs.length → putF f y (ns.zip vs) = ns.zip (vs.set j y)
  | [], vs, j, f, y, _, h, _ => by simp at h
  | n :: ns, [], j, f, y, _, h, l => by simp at l
  | n :: ns, v :: vs, 0, f, y, nd, h, _ => by
    simp at h; subst h; simp [putF]
  | n :: ns, v :: vs, j + 1, f, y, nd, h, l => by
    have h' : ns[j]? = some f := by simpa using h
    have ne : ¬ n = f := fun e => (List.nodup_cons.mp nd).1 (e ▸ List.mem_of_getElem? h')
    simp only [List.zip_cons_cons, List.set_cons_succ]
    show (if n = f then (n, y) :: ns.zip vs else (n, v) :: putF f y (ns.zip vs)) = _
    rw [if_neg ne, zip_set (List.nodup_cons.mp nd).2 h' (by simpa using l)]
end
section
variable {X : Cx} {C : Cz} {P : List Nat} {J : Js} {Γ Γ' Γ1 Γ2 : List Nat} {k i j n : Nat} {x y : Str} {pos p p2 p3 spos : Pos} {a e ix : Expr} {fe fi : Env → R (D × Env)}
/-- x.append(e) -/
theorem ds_app (hv : PE X (.Name x p) (tVar i)) (ha : DE X C Γ e Γ1 0 fe) (hk0 : Γ.getD i 0 = 1 := by rfl) (hk : Γ1.getD i 0 = 1 := by rfl) (h1 : J.nx = Γ1 := by rfl)
    (hs : starEach (e :: []) X.env = (false, eval e X.env) :: starEach [] X.env := by rfl) (hpl : (backTo p3 (starEach [] X.env)).any (·.1) = false := by rfl) (hbase : attributeBase (.Name x p) "append" X.env (eval (.Name x p) X.env) = eval (.Name x p) X.env := by rfl) (hline : (p2.endLine == p3.line) = true := by rfl)
    (hfew : ((backTo p3 (starEach (e :: []) X.env)).all (fun x => !x.1) && (backToKw p3 (keywordEach [] X.env)).all (fun x => x.1.isSome)
      && decide ((e :: ([] : List Expr)).length + ([] : List Keyword).length + (if ([] : List Keyword).isEmpty then 0 else 1) < 30)) = true := by rfl)
    (hsw : swapsWith (.Call (.Attribute (.Name x p) "append" p2) [e] [] p3) none spos.line X.env = pure false := by rfl) :
    DS X C P J Γ (.Expr (.Call (.Attribute (.Name x p) "append" p2) [e] [] p3) spos) (mApp i fe) :=
  ps_imp (ps_expr (pe_bm PySem.F.plainAttrs_list PySem.F.slot_list_append PySem.F.type_list_append mt_append hv (pa_cons ha pa_nil hs) hbase hfew hline hs hpl) hsw) fun E σ H h => by
  obtain ⟨S, ρ, fp, s, h⟩ := h
  unfold mApp at h
  split at h
  · rename_i xs0 q0
    obtain ⟨a, vs0, hv0, h0, _⟩ := s.lst_at q0 hk0
    refine ⟨_, hv0, .inl ⟨rfl, vs0, .inl (.inl h0)⟩, S, ρ, fp, s, OutE.thenS h fun d ρ1 v H1 S1 fp1 Fv e1 s1 x1 f1 h2 => ?_⟩
    obtain ⟨ef, rd⟩ := x1.rep
    subst ef
    dsimp only at h2
    split at h2
    · rename_i xs q1
      split at h2
      · rename_i hl
        obtain ⟨a', vs, hv1, h1', r⟩ := s1.lst_at q1 hk
        rw [hv0] at hv1; cases hv1
        have rr : Reps X.K C.T H1 S1 (xs ++ [d]) (vs ++ [v]) := r.append (by simp only [Reps]; exact ⟨v, [], rfl, rd, rfl⟩)
        obtain ⟨_, s2, f2⟩ := s1.relist q1 hk hv0 h1' rr
        refine ⟨a, vs, v, rfl, rfl, h1', by rw [sizeLine_eq, ← r.length]; omega, ?_⟩
        exact h2 σ _ S1 fp1 (by rw [h1]; exact s2) Kp.refl (f1.ow.trans f2)
      · exact h2.elim
    · exact h2.elim
  · exact h.elim
/-- x[ix] = e -/
theorem ds_setix (hv : PE X (.Name x p) (tVar i)) (ha : DE X C Γ e Γ1 0 fe) (hi : DE X C Γ1 ix Γ2 0 fi) (hk0 : Γ1.getD i 0 = 1 := by rfl) (hk : Γ2.getD i 0 = 1 := by rfl) (h1 : J.nx = Γ2 := by rfl)
    (has : ∀ v, assign (.Subscript (.Name x p) ix p2) X.env v = (do
      let ov ← holding [v] (eval (.Name x p) X.env)
      let iv ← holding [v, ov] (eval ix X.env)
      standAt p2
      holding [v, ov, iv] (setItem ov iv v)
      release [v, ov, iv] []) := by intro _; rfl)
    (hs : swapsWithSole [.Subscript (.Name x p) ix p2] e spos.line X.env = pure false := by rfl) (hw : swappedStores [.Subscript (.Name x p) ix p2] e X.env = pure none := by rfl)
    (hx : (assignEach [.Subscript (.Name x p) ix p2] X.env).map (·.2) = [assign (.Subscript (.Name x p) ix p2) X.env] := by rfl) :
    DS X C P J Γ (.Assign [.Subscript (.Name x p) ix p2] e spos) (mSetIx i fe fi) :=
  ps_imp (ps_asg ha (pg_sub hv hi set_list has) hs hw hx) fun E σ H h => by
  obtain ⟨S, ρ, fp, s, h⟩ := h
  refine ⟨S, ρ, fp, s, OutE.thenS h fun d ρ1 v H1 S1 fp1 Fv e1 s1 x1 f1 h2 => ?_⟩
  obtain ⟨ef, rd⟩ := x1.rep
  subst ef
  dsimp only at h2
  split at h2
  · rename_i xs0 q0
    obtain ⟨a, vs0, hv0, h0, _⟩ := s1.lst_at q0 hk0
    have h2 := OutS.before (σ1 := σ) Kp.refl f1.ow h2
    refine ⟨_, hv0, S1, ρ1, fp1, s1, OutE.thenS h2 fun dj ρ2 vj H2 S2 fp2 Fj e2 s2 x2 f2 h3 => ?_⟩
    obtain ⟨ej, rj⟩ := x2.rep
    subst ej
    dsimp only at h3
    split at h3
    · rename_i j xs q1
      have ej := rep_int rj
      subst ej
      obtain ⟨a', vs, hv1, h1', r⟩ := s2.lst_at q1 hk
      rw [hv0] at hv1; cases hv1
      unfold gPut at h3
      cases qn : ixN xs.length j with
      | none => rw [qn] at h3; exact h3.elim
      | some m =>
        rw [qn] at h3
        have rr : Reps X.K C.T H2 S2 (xs.set m d) (vs.set m v) := r.set m (s1.rep_fra rd f2)
        obtain ⟨_, s3, f3⟩ := s2.relist q1 hk hv0 h1' rr
        refine ⟨a, vs, j, m, rfl, rfl, h1', by rw [← r.length]; exact qn, ?_⟩
        exact h3 σ _ S2 fp2 (by rw [h1]; exact s3) Kp.refl (f2.ow.trans f3)
    · exact h3.elim
  · exact h2.elim
/-- x.pop() -/
theorem de_pop (hv : PE X (.Name x p) (tVar i)) (hk : Γ.getD i 0 = 1 := by rfl) (hbase : attributeBase (.Name x p) "pop" X.env (eval (.Name x p) X.env) = eval (.Name x p) X.env := by rfl) (hline : (p2.endLine == p3.line) = true := by rfl) :
    DE X C Γ (.Call (.Attribute (.Name x p) "pop" p2) [] [] p3) Γ 0 (mPop i) :=
  pe_imp (pe_bm0 PySem.F.plainAttrs_list PySem.F.slot_list_pop PySem.F.type_list_pop mt_pop hv hbase hline) fun σ H Q h => by
  obtain ⟨S, ρ, fp, s, h⟩ := h
  unfold mPop at h
  split at h
  · rename_i xs q0
    obtain ⟨a, vs, hv0, h0, r⟩ := s.lst_at q0 hk
    split at h
    · rename_i d qd
      have hd : xs[xs.length - 1]? = some d := by rw [← List.getLast?_eq_getElem?]; exact qd
      obtain ⟨v, hvv, rv⟩ := r.get hd
      obtain ⟨_, s2, f2⟩ := s.relist q0 hk hv0 h0 r.dropLast
      refine ⟨_, hv0, .inl ⟨rfl, vs, .inl (.inl h0)⟩, a, vs, v, rfl, rfl, h0, by rw [← r.length]; exact hvv, ?_⟩
      exact h v _ S fp [] s2 (.of (s.rep_fra rv f2)) f2.ow'
    · exact h.elim
  · exact h.elim
/-- self.f = e -/
theorem ds_fldset {c : Nat} {f : Str} (hcl : Cls X.K (C.T.cm c)) (hna : NoAttr X.K (C.T.cm c) f) (hf : (C.T.fl c)[j]? = some f) (hnd : (C.T.fl c).Nodup) (hsm : (C.T.fl c).length < 1000) (hv : PE X (.Name x p) (tVar i)) (ha : DE X C Γ e Γ1 0 fe) (hk : Γ1.getD i 0 = 1 := by rfl) (h1 : J.nx = Γ1 := by rfl)
    (hs : swapsWith e (some (.Attribute (.Name x p) f p2)) spos.line X.env = pure false := by rfl) : DS X C P J Γ (.Assign [.Attribute (.Name x p) f p2] e spos) (mFldSet i c j fe) :=
  ps_imp (ps_fld hv ha hs) fun E σ H h => by
  obtain ⟨S, ρ, fp, s, h⟩ := h
  refine ⟨S, ρ, fp, s, OutE.thenS h fun d ρ1 v H1 S1 fp1 Fv e1 s1 x1 f1 h2 => ?_⟩
  obtain ⟨ef, rd⟩ := x1.rep
  subst ef
  dsimp only at h2
  split at h2
  · rename_i c' fs q0
    split at h2
    · rename_i ec
      subst ec
      obtain ⟨v0, hv0, o⟩ := s1.sl i _ q0
      rw [hk] at o
      obtain ⟨a, dx, vs, rfl, h0, _, hl, r⟩ := own_ins1.mp o
      have hzl : ((C.T.fl c').zip vs).length < 1000 := by rw [List.length_zip]; omega
      split at h2
      · rename_i ej
        have rr : Reps X.K C.T H1 S1 (fs ++ [d]) (vs ++ [v]) := r.append (by simp only [Reps]; exact ⟨v, [], rfl, rd, rfl⟩)
        have hj : j < (C.T.fl c').length := (List.getElem?_eq_some_iff.mp hf).1
        obtain ⟨s2, f2⟩ := s1.refield (dx := dx) q0 hk hv0 h0 (ys := fs ++ [d]) (by simp; omega) rr
        refine ⟨_, hv0, a, _, dx, _, rfl, h0, hcl, hna, hzl, ?_⟩
        rw [zip_snoc hnd (by rw [← r.length, ← ej]; exact hf)]
        exact h2 σ _ S1 fp1 (by rw [h1]; exact s2) Kp.refl (f1.ow.trans f2)
      · split at h2
        · rename_i lj
          have rr : Reps X.K C.T H1 S1 (fs.set j d) (vs.set j v) := r.set j rd
          obtain ⟨s2, f2⟩ := s1.refield (dx := dx) q0 hk hv0 h0 (ys := fs.set j d) (by simpa using hl) rr
          refine ⟨_, hv0, a, _, dx, _, rfl, h0, hcl, hna, hzl, ?_⟩
          rw [zip_set hnd hf (by rw [← r.length]; exact lj)]
          exact h2 σ _ S1 fp1 (by rw [h1]; exact s2) Kp.refl (f1.ow.trans f2)
        · exact h2.elim
    · exact h2.elim
  · exact h2.elim
end

/-! ### contracts from bodies -/
def mFn (n N : Nat) (fb : Env → R (Fl × Env)) (ds : List D) : R D := if ds.length = n then (fb (ds.map some ++ List.replicate (N - n) none)).bind fun (fl, _) => match fl with
    | .rt d => .ok d
    | .nx => .ok .non
    | _ => .bad
  else .bad
def mFnB (n N : Nat) (fb : Env → R (Fl × Env)) (ds : List D) : R (D × D) := if ds.length = n then (fb (ds.map some ++ List.replicate (N - n) none)).bind fun (fl, ρ) => match ρ[0]? with
    | some (some d0) => (match fl with
      | .rt d => .ok (d, d0)
      | .nx => .ok (.non, d0)
      | _ => .bad)
    | _ => .bad
  else .bad
section
variable {P : Program} {w : World} {K : PySem.W.Frag} {T : Tab} {mg : Str → Option Value} {base : Heap} {x qual : Str} {params : Arguments} {body : List Stmt} {scope : Scope} {dvs : List V} {kws : List (Str × V)} {f : Addr} {fd : FuncData} {N ps : List Str} {k kr k1 n : Nat} {Pk : List Nat} {J : Js} {Γ : List Nat} {fb : Env → R (Fl × Env)}
theorem spF_len {m : List D → R D} (hm : ∀ ds, ds.length ≠ n → m ds = .bad) : ∀ vs H Q E, spF K T kr m vs H Q E → vs.length = n := fun vs H Q E h => by
  obtain ⟨S, ds, r, al, h⟩ := h
  by_cases e : ds.length = n
  · rw [← r.length]; exact e
  · rw [hm ds e] at h; exact h.elim
theorem mFn_len {N : Nat} : ∀ ds, ds.length ≠ n → mFn n N fb ds = .bad := fun ds h => if_neg h
theorem start_len {vs : List V} (h : vs.length ≤ N.length) : (L2.start N vs).length = N.length := by
  simp [L2.start]; omega
theorem start_get {vs : List V} {i : Nat} {v : V} (h : vs[i]? = some v) : (L2.start N vs)[i]? = some (some v) := by
  unfold L2.start
  have hl : i < vs.length := (List.getElem?_eq_some_iff.mp h).1
  rw [List.getElem?_append_left (by simpa using hl), List.getElem?_map, h]; rfl
theorem env_get {ds : List D} {m i : Nat} {d : D} (h : (ds.map some ++ List.replicate m none)[i]? = some (some d)) : i < ds.length ∧ ds[i]? = some d := by
  by_cases hl : i < ds.length
  · rw [List.getElem?_append_left (by simpa using hl), List.getElem?_map] at h
    cases q : ds[i]? with
    | none => rw [q] at h; cases h
    | some e => rw [q] at h; cases h; exact ⟨hl, rfl⟩
  · rw [List.getElem?_append_right (by simpa using hl), List.getElem?_replicate] at h
    split at h <;> cases h
theorem stt_start {S : Addr → Prop} {H : Hp} {ds : List D} {vs : List V} (r : Reps K T H S ds vs) (al : ∀ a, S a → ∃ o, H a = some o) (hn : ds.length = n) (hN : n ≤ N.length) (hΓ : Γ.length = N.length) (h0 : ∀ i, i < n → Γ.getD i 0 = 0) :
    Stt K T Γ S (L2.start N vs) H (ds.map some ++ List.replicate (N.length - n) none) (fun _ => []) := by
  have lv : vs.length = n := by rw [← r.length]; exact hn
  refine ⟨⟨fun i a h => (nomatch h), fun i => List.nodup_nil, fun i j a h => (nomatch h), fun i a h => (nomatch h), al⟩, by simp [L2.start, lv, hn], by simp [L2.start, lv, hΓ]; omega, fun i d h => ?_⟩
  obtain ⟨hl, h⟩ := env_get h
  obtain ⟨v, hv, rv⟩ := r.get h
  exact ⟨v, start_get hv, by rw [h0 i (by omega)]; exact own_zero.mpr ⟨rfl, rv⟩⟩
/-- a def keeps its contract, by its body -/
theorem okF (F : FunD K x qual params body scope dvs kws f fd) (S : FnScope N ps scope) (hn : ps.length = n) (hΓ : Γ.length = N.length) (h0 : ∀ i, i < n → Γ.getD i 0 = 0) (hkr : J.kr = kr)
    (hbody : ∀ (cdv : Value) (A : Around) (outer : List PySem.Env) (s : Shared) (H : Hp) (E : XK), Room k (A.deeper (envOfC qual scope s.heap.objs.size f cdv)) →
      Takes (cxOf (L2.CX P w) P w K mg base N qual scope f cdv A outer s H E) (fun cls d _ H => E cls d H) →
      DSs (cxOf (L2.CX P w) P w K mg base N qual scope f cdv A outer s H E) ⟨T, fun cls d _ H => E cls d H⟩ Pk J Γ body fb) : FnOk P w K mg base (L2.CX P w) (k + 1) f fd ps (spF K T kr (mFn n N.length fb)) := by
  have hN : n ≤ N.length := by
    have := congrArg List.length S.pre
    rw [List.length_take, hn] at this
    omega
  refine F.ok S (fun vs H Q E h => by rw [hn]; exact spF_len mFn_len vs H Q E h) fun cdv A outer s H vs Q E hr h => ⟨_, hbody cdv A outer s H E hr (takes_of rfl rfl rfl rfl), ?_⟩
  obtain ⟨S1, ds, r, al, h⟩ := h
  unfold mFn at h
  by_cases e : ds.length = n
  · rw [if_pos e] at h
    refine ⟨S1, _, _, stt_start r al e hN hΓ h0, ?_⟩
    have ow0 : ∀ b, Ow (fun _ => []) b → False := fun b ⟨_, z⟩ => nomatch z
    have fr : ∀ {H' : Hp} {S' O' : Addr → Prop}, Fra H S1 (Ow fun _ => []) H' S' O' → Fra H S1 (fun _ => False) H' S' O' := fun f =>
      ⟨fun b o h _ => f.kp b o h (ow0 b), f.sm, fun b z => (f.so b z).imp id (Or.imp_left (ow0 b)), fun b z => (f.oo b z).imp_left (ow0 b)⟩
    revert h
    generalize fb (ds.map some ++ List.replicate (N.length - n) none) = res
    intro h
    match res, h with
    | .ok (.nx, ρ'), h =>
      intro σ' H' S' fp' s' k f
      refine h .non H' S' [] ?_ List.nodup_nil (fun a z => (nomatch z)) s'.sep.al ((fr f).less fun b z => (nomatch z))
      cases kr with
      | zero => exact own_zero.mpr ⟨rfl, by simp [Rep]⟩
      | succ k => simp [Own, Rep]
    | .ok (.bk, ρ'), h => exact h.elim
    | .ok (.ct, ρ'), h => exact h.elim
    | .ok (.rt d, ρ'), h =>
      intro v σ' H' S' fp' Fv s' x' k f
      rw [hkr] at x'
      exact h v H' S' Fv x'.own x'.nd x'.ns s'.sep.al ((fr f).less fun b z => .inr z)
    | .er c fs, h => exact fun σ' k dx xs vs H' S' e1 e2 r f al => h dx xs vs H' S' e1 e2 r (fr f) al
    | .bad, h => exact h.elim
  · rw [if_neg e] at h; exact h.elim
/-- .. where it may change its first argument -/
theorem okB (F : FunD K x qual params body scope dvs kws f fd) (S : FnScope N ps scope) (hn : ps.length = n) (hn1 : 1 ≤ n) (hΓ : Γ.length = N.length) (hk1 : Γ.getD 0 0 = k1) (h0 : ∀ i, 1 ≤ i → i < n → Γ.getD i 0 = 0) (hkr : J.kr = kr) (hP : 0 ∈ Pk) (hrt : J.rt.getD 0 0 = k1) (hnx : J.nx.getD 0 0 = k1)
    (hbody : ∀ (cdv : Value) (A : Around) (outer : List PySem.Env) (s : Shared) (H : Hp) (E : XK), Room k (A.deeper (envOfC qual scope s.heap.objs.size f cdv)) →
      Takes (cxOf (L2.CX P w) P w K mg base N qual scope f cdv A outer s H E) (fun cls d _ H => E cls d H) →
      DSs (cxOf (L2.CX P w) P w K mg base N qual scope f cdv A outer s H E) ⟨T, fun cls d _ H => E cls d H⟩ Pk J Γ body fb) : FnOk P w K mg base (L2.CX P w) (k + 1) f fd ps (spB K T k1 kr (mFnB n N.length fb)) := by
  have hN : n ≤ N.length := by
    have := congrArg List.length S.pre
    rw [List.length_take, hn] at this
    omega
  refine F.ok S (fun vs H Q E h => ?_) fun cdv A outer s H vs Q E hr h => ⟨_, hbody cdv A outer s H E hr (takes_of rfl rfl rfl rfl), ?_⟩
  · obtain ⟨S1, d0, v0, F0, ds, vs', rfl, o, nd, ns, r, al, h⟩ := h
    unfold mFnB at h
    by_cases e : (d0 :: ds).length = n
    · rw [hn, List.length_cons, ← r.length]; exact e
    · rw [if_neg e] at h; exact h.elim
  · obtain ⟨S1, d0, v0, F0, ds, vs', rfl, o, nd, ns, r, al, h⟩ := h
    unfold mFnB at h
    by_cases e : (d0 :: ds).length = n
    · rw [if_pos e] at h
      have lv : (v0 :: vs').length = n := by rw [List.length_cons, ← r.length]; exact e
      have st : Stt K T Γ S1 (L2.start N (v0 :: vs')) H ((d0 :: ds).map some ++ List.replicate (N.length - n) none) (fun i => if i = 0 then F0 else []) := by
        have mem : ∀ {i : Nat} {a : Addr}, a ∈ (if i = 0 then F0 else []) → i = 0 ∧ a ∈ F0 := fun {i a} h => by
          split at h
          · rename_i z; exact ⟨z, h⟩
          · cases h
        refine ⟨⟨fun i a h => o.mut a (mem h).2, fun i => ?_, fun i j a h h' => by rw [(mem h).1, (mem h').1], fun i a h => ns a (mem h).2, al⟩, by rw [start_len (by omega)]; simp at e ⊢; omega, by rw [start_len (by omega)]; exact hΓ, fun i d h => ?_⟩
        · split
          · exact nd
          · exact List.nodup_nil
        · obtain ⟨hl, h⟩ := env_get h
          cases i with
          | zero =>
            simp at h; subst h
            exact ⟨v0, start_get rfl, by rw [hk1]; exact o⟩
          | succ i =>
            have h' : ds[i]? = some d := by simpa using h
            obtain ⟨v, hv, rv⟩ := r.get h'
            refine ⟨v, start_get (by simpa using hv), ?_⟩
            rw [h0 (i + 1) (by omega) (by omega)]
            exact own_zero.mpr ⟨rfl, rv⟩
      refine ⟨S1, _, _, st, ?_⟩
      have ow0 : ∀ b, Ow (fun i => if i = 0 then F0 else []) b → b ∈ F0 := fun b ⟨i, z⟩ => by
        dsimp only at z
        split at z
        · exact z
        · cases z
      have fr : ∀ {H' : Hp} {S' O' : Addr → Prop}, Fra H S1 (Ow fun i => if i = 0 then F0 else []) H' S' O' → Fra H S1 (fun a => a ∈ F0) H' S' O' := fun f => f.more ow0
      have hv0 : (L2.start N (v0 :: vs'))[0]? = some (some v0) := start_get rfl
      revert h
      generalize fb ((d0 :: ds).map some ++ List.replicate (N.length - n) none) = res
      intro h
      have get0 : ∀ {ρ' : Env} {σ' : St} {H' : Hp} {S' : Addr → Prop} {fp' : Nat → List Addr} {Γ' : List Nat} {d1 : D}, Stt K T Γ' S' σ' H' ρ' fp' → Γ'.getD 0 0 = k1 → Kp Pk (L2.start N (v0 :: vs')) σ' → ρ'[0]? = some (some d1) → Own K T H' S' k1 d1 v0 (fp' 0) := by
        intro ρ' σ' H' S' fp' Γ' d1 s' e1 kp e2
        obtain ⟨v, hv, o⟩ := s'.sl 0 d1 e2
        rw [kp 0 hP, hv0] at hv
        cases hv
        rw [e1] at o
        exact o
      match res, h with
      | .ok (.nx, ρ'), h =>
        intro σ' H' S' fp' s' kp f
        cases q : ρ'[0]? with
        | none => simp only [R.bind_ok, q] at h; exact h.elim
        | some od =>
          cases od with
          | none => simp only [R.bind_ok, q] at h; exact h.elim
          | some d1 =>
            simp only [R.bind_ok, q] at h
            refine h .non H' S' [] (fp' 0) (get0 s' hnx kp q) ?_ (by simpa using s'.sep.nd 0) (fun a z => by simp at z; exact s'.sep.ns 0 a z) s'.sep.al ((fr f).less fun b z => z.elim (fun z => ⟨0, z⟩) fun z => nomatch z)
            cases kr with
            | zero => exact own_zero.mpr ⟨rfl, by simp [Rep]⟩
            | succ k => simp [Own, Rep]
      | .ok (.bk, ρ'), h =>
        simp only [R.bind_ok] at h
        split at h <;> exact h.elim
      | .ok (.ct, ρ'), h =>
        simp only [R.bind_ok] at h
        split at h <;> exact h.elim
      | .ok (.rt d, ρ'), h =>
        intro v σ' H' S' fp' Fv s' x' kp f
        cases q : ρ'[0]? with
        | none => simp only [R.bind_ok, q] at h; exact h.elim
        | some od =>
          cases od with
          | none => simp only [R.bind_ok, q] at h; exact h.elim
          | some d1 =>
            simp only [R.bind_ok, q] at h
            rw [hkr] at x'
            refine h v H' S' Fv (fp' 0) (get0 s' hrt kp q) x'.own (List.nodup_append.mpr ⟨s'.sep.nd 0, x'.nd, fun a h1 b h2 e => x'.dj b h2 0 (e ▸ h1)⟩) (fun a z => ?_) s'.sep.al ((fr f).less fun b z => z.elim (fun z => .inl ⟨0, z⟩) .inr)
            rcases List.mem_append.mp z with z | z
            · exact s'.sep.ns 0 a z
            · exact x'.ns a z
      | .er c fs, h => exact fun σ' k dx xs vs H' S' e1 e2 r f al => h dx xs vs H' S' e1 e2 r (fr f) al
      | .bad, h => exact h.elim
    · rw [if_neg e] at h; exact h.elim
end
end Z
set_option Elab.async false
set_option linter.all false
set_option maxRecDepth 100000
/-! Z7: instances are made; methods; keywords -/
namespace Z
open PySem PySem.Spec L2
open PyProof.Rows hiding St

section
variable {K : PySem.W.Frag} {T : Tab} {W : WX} {Γ Γ' : List Nat} {k : Nat} {σ : St} {H H' : Hp} {S S' O O' : Addr → Prop} {fp : Nat → List Addr} {ρ : Env} {Q : VK}
/-- a value's own objects become shared -/
theorem Stt.mix {d : D} {v : V} {Fv : List Addr} (s : Stt K T Γ S σ H ρ fp) (x : Val K T S H fp k d v Fv) : Stt K T Γ (fun a => S a ∨ a ∈ Fv) σ H ρ fp := by
  refine ⟨⟨s.sep.mu, s.sep.nd, s.sep.dj, fun i a h z => ?_, fun a z => ?_⟩, s.len, s.gl, fun i d h => ?_⟩
  · rcases z with z | z
    · exact s.sep.ns i a h z
    · exact x.dj a z i h
  · rcases z with z | z
    · exact s.sep.al a z
    · have m := x.own.mut a z
      cases q : H a with
      | none => rw [q] at m; exact m.elim
      | some o => exact ⟨o, rfl⟩
  · obtain ⟨v, hv, o⟩ := s.sl i d h
    exact ⟨v, hv, o.stay (Stay.more fun a h => .inl h) fun a _ o h => h⟩
theorem Fra.mix {fp' : Nat → List Addr} {Fv : List Addr} (f : Fra H S O H' S' (fun a => Ow fp' a ∨ a ∈ Fv)) : Fra H S O H' (fun a => S' a ∨ a ∈ Fv) (Ow fp') :=
  ⟨f.kp, fun b z => .inl (f.sm b z), fun b z => z.elim (f.so b) fun z => .inr (f.oo b (.inr z)), fun b z => f.oo b (.inl z)⟩
/-- a state behind code whose own objects are none of the frame's -/
theorem Stt.afterO (s : Stt K T Γ S σ H ρ fp) (mO : ∀ a, O a → Mut (H a)) (nO : ∀ a, O a → ¬ S a ∧ ∀ i, a ∉ fp i) (f : Fra H S O H' S' O') (al : ∀ a, S' a → ∃ o, H' a = some o) : Stt K T Γ S' σ H' ρ fp := by
  have st : Stay K H S H' S' := .of mO (fun a z => (nO a z).1) f
  have keep : ∀ i a, a ∈ fp i → ∀ o, H a = some o → H' a = some o := fun i a m o h => f.kp a o h fun z => (nO a z).2 i m
  refine ⟨⟨fun i a h => ?_, s.sep.nd, s.sep.dj, fun i a h z => ?_, al⟩, s.len, s.gl, fun i d h => ?_⟩
  · have m := s.sep.mu i a h
    cases q : H a with
    | none => rw [q] at m; exact m.elim
    | some o => rw [keep i a h o q]; rw [q] at m; exact m
  · rcases f.so a z with z | z | z
    · exact s.sep.ns i a h z
    · exact (nO a z).2 i h
    · have m := s.sep.mu i a h; rw [z] at m; exact m
  · obtain ⟨v, hv, o⟩ := s.sl i d h
    exact ⟨v, hv, o.stay st fun a m o h => keep i a m o h⟩
end

section
variable {X : Cx} {C : Cz} {Γ Γ' Γ1 Γ2 : List Nat} {k kr k1 lv i : Nat} {x y mn : Str} {pos p p2 apos : Pos} {a b e o : Expr} {es : List Expr} {kws : List Keyword} {fa fb : Env → R (D × Env)} {fs fk : Env → R (List D × Env)} {m : List D → R D} {mB : List D → R (D × D)}
  {f cl : Addr} {fd : FuncData} {ps ks : List Str} {ds : List Value} {dvs : List V} {E : XK}
/-- an owned value is used as a shared one -/
theorem de_sh (h : DE X C Γ e Γ1 k fa) : DE X C Γ e Γ1 0 fa := pe_imp h fun σ H Q h => by
  obtain ⟨S, ρ, fp, s, h⟩ := h
  refine ⟨S, ρ, fp, s, ?_⟩
  revert h
  generalize fa ρ = r
  intro h
  match r, h with
  | .ok (d, ρ'), h => exact fun v H' S' fp' Fv s' x' f' => h v H' _ fp' [] (s'.mix x') (.of x'.own.freeze) f'.mix.ow'
  | .er c fs, h => exact h
  | .bad, h => exact h

/-! ### C(..) -/
def mMake (c : Nat) (m : List D → R (D × D)) (fs : Env → R (List D × Env)) : Env → R (D × Env) := fun ρ => (fs ρ).bind fun (xs, ρ1) => (m (.ins c [] :: xs)).bind fun (d, d0) => match d with
  | .non => .ok (d0, ρ1)
  | _ => .bad
theorem make_data {c : Nat} {σ : St} {H : Hp} {S : Addr → Prop} {ρ : Env} {fp : Nat → List Addr} {Q : VK} {xs : List D} {vs : List V} {E : XK} (hW : ∀ cls d H', C.W cls d σ H' → E cls d H') (s : Stt X.K C.T Γ S σ H ρ fp) (r : Reps X.K C.T H S xs vs)
    (h : OutE X.K C.T C.W Γ 1 σ H S fp Q ((mB (.ins c [] :: xs)).bind fun (d, d0) => match d with | .non => .ok (d0, ρ) | _ => .bad)) (p dx : Addr) (hp : H p = none) (hdx : H dx = none) (hne : dx ≠ p) :
    spB X.K C.T 1 0 mB (.ref p :: vs) (upd (upd H dx (.own p)) p (.ins (C.T.cm c) dx [])) (fun v H2 => v = .non ∧ Q (.ref p) H2) E := by
  have k1 : ∀ b o, H b = some o → upd (upd H dx (.own p)) p (.ins (C.T.cm c) dx []) b = some o := fun b o e => by
    rw [upd_ne (ne_of_none e hp), upd_ne (ne_of_none e hdx)]; exact e
  have s1 := s.grow k1
  have fr := s.sep.fresh hp
  refine ⟨S, .ins c [], .ref p, [p], xs, vs, rfl, own_ins1.mpr ⟨p, dx, [], rfl, by simp [upd_same], rfl, by simp, by simp [Reps]⟩, by simp, fun a m => by rw [List.mem_singleton] at m; subst m; exact fr.1, (Stay.grow k1).reps r, s1.sep.al, ?_⟩
  have g0 : Fra H S (Ow fp) (upd (upd H dx (.own p)) p (.ins (C.T.cm c) dx [])) S (fun a => a ∈ [p]) := ⟨fun b o e _ => k1 b o e, fun _ z => z, fun _ z => .inl z, fun b z => by rw [List.mem_singleton] at z; subst z; exact .inr hp⟩
  cases q : mB (.ins c [] :: xs) with
  | ok ar =>
    obtain ⟨d, d0⟩ := ar
    rw [q] at h
    simp only [R.bind_ok] at h
    intro v H' S' Fv F0' o0 o1 nd ns al f
    cases d with
    | non =>
      obtain ⟨e1, e2⟩ := own_zero.mp o1
      subst e1
      rw [List.append_nil] at nd ns
      refine ⟨rep_non e2, ?_⟩
      refine h _ H' S' fp F0' (s1.afterO (fun a m => ?_) (fun a m => ?_) f al) ⟨o0, nd, ns, fun a m j z => ?_⟩ ?_
      · rw [List.mem_singleton] at m; subst m; rw [upd_same]; trivial
      · rw [List.mem_singleton] at m; subst m; exact fr
      · rcases f.oo a (.inl m) with w | w
        · rw [List.mem_singleton] at w; subst w; exact fr.2 j z
        · have mm := s1.sep.mu j a z; rw [w] at mm; exact mm
      · refine ⟨fun b o e n => f.kp b o (k1 b o e) fun z => ?_, f.sm, fun b z => ?_, fun b z => ?_⟩
        · rw [List.mem_singleton] at z; subst z; rw [hp] at e; cases e
        · exact (g0.trans f).so b z
        · rcases z with z | z
          · exact .inl z
          · exact (g0.trans f).oo b (.inl z)
    | _ => exact h.elim
  | er c' fs' =>
    rw [q] at h
    intro dx' xs' vs' H' S' e1 e2 r' f al
    exact hW _ _ _ (h dx' xs' vs' H' S' e1 e2 r' (g0.trans f) al)
  | bad => rw [q] at h; exact h
theorem de_make {c : Nat} {xd : List D} (hW : C.W = fun cls d _ H => E cls d H) (M : Mk X.K (C.T.cm c) f) (F : FnOk X.prog X.w X.K X.mg X.base (L2.CX X.prog X.w) lv f fd ps (spB X.K C.T 1 0 mB)) (hr : Room (lv + 1) X.A) (tk : Takes X C.W) (hg : Gl X x) (hm : X.mg x = some (.ref (C.T.cm c))) (hb : Binds X.K fd ps ds) (hd : Vals dvs ds)
    (hxd : ∀ S H, Reps X.K C.T H S xd dvs) (ha : DA X C Γ (e :: es) Γ1 fs) (hdb : (x == ("__debug__" : Str)) = false := by decide) (he : starEach (e :: es) X.env = (false, eval e X.env) :: starEach es X.env := by rfl) (hpl : (backTo pos (starEach es X.env)).any (·.1) = false := by rfl) :
    DE X C Γ (.Call (.Name x p) (e :: es) [] pos) Γ1 1 (mMake c (fun xs => mB (xs ++ xd)) fs) := by
  refine pe_imp (pe_make (E := E) M F hr hg hm hb hd (passes_call tk fun cls d σ H z => by rw [hW]; exact z) ha hdb he hpl) fun σ H Q h => ?_
  obtain ⟨S, ρ, fp, s, h⟩ := h
  refine ⟨S, ρ, fp, s, OutA.thenE h fun xs ρ1 vs H1 S1 fp1 e1 s1 r1 f1 h1 => ?_⟩
  intro p dx hp hdx hne
  exact make_data (fun cls d H' z => by rw [hW] at z; exact z) s1 (r1.append (hxd S1 H1)) h1 p dx hp hdx hne

/-! ### keywords -/
/-- the keywords' values in the parameters' order -/
def permL {α : Type} (ix : List Nat) (ws : List α) : List α := ix.filterMap fun j => ws[j]?
theorem vals_perm {vs : List V} {us : List Value} (h : Vals vs us) : ∀ {ix : List Nat}, Vals (permL ix vs) (permL ix us)
  | [] => .nil
  | j :: ix => by
    unfold permL
    simp only [List.filterMap_cons]
    cases q : vs[j]? with
    | none =>
      have q2 : us[j]? = none := by
        rw [List.getElem?_eq_none_iff] at q ⊢
        rw [← h.length]; exact q
      rw [q2]
      exact vals_perm h (ix := ix)
    | some v =>
      obtain ⟨u, e, r⟩ := h.get q
      rw [e]
      exact .cons r (vals_perm h (ix := ix))
theorem reps_perm {K : PySem.W.Frag} {T : Tab} {H : Hp} {S : Addr → Prop} {vs : List D} {us : List V} (h : Reps K T H S vs us) : ∀ {ix : List Nat}, Reps K T H S (permL ix vs) (permL ix us)
  | [] => by simp [permL, Reps]
  | j :: ix => by
    unfold permL
    simp only [List.filterMap_cons]
    cases q : vs[j]? with
    | none =>
      have q2 : us[j]? = none := by
        rw [List.getElem?_eq_none_iff] at q ⊢
        rw [← h.length]; exact q
      rw [q2]
      exact reps_perm h (ix := ix)
    | some v =>
      obtain ⟨u, e, r⟩ := h.get q
      rw [e]
      simp only [Reps]
      exact ⟨u, _, rfl, r, reps_perm h (ix := ix)⟩
/-- n positional values, then the keywords ks -/
theorem kbn_of {n : Nat} {ix : List Nat} (h : ∀ us ws : List Value, us.length = n → ws.length = ks.length → bindArgs fd ⟨us, ks.zip ws⟩ = pure (ps.zip (us ++ permL ix ws))) : KBn X.K fd ps n ks (fun us ws => us ++ permL ix ws) (fun us ws => us ++ permL ix ws) :=
  ⟨fun s us ws _ l1 l2 => BindsTo.of_eq (h us ws l1 l2), fun r1 r2 => r1.append (vals_perm r2)⟩
abbrev DK (X : Cx) (Z : Cz) (Γ : List Nat) (kws : List Keyword) (Γ' : List Nat) (f : Env → R (List D × Env)) : Prop := PK X kws (tA X.K Z.T Z.W Γ Γ' f)
theorem pk_imp {t t' : TA} (h : PK X kws t) (i : ∀ σ H Q, t' σ H Q → t σ H Q) : PK X kws t' := ⟨fun pos pins s σ H Q I q => h.run pos pins s σ H Q I (i σ H Q q)⟩
theorem dk_nil : DK X C Γ [] Γ mNil := pk_imp pk_nil fun σ H Q h => by
  obtain ⟨S, ρ, fp, s, h⟩ := h
  exact h [] H S fp s (by simp [Reps]) Fra.refl
theorem dk_cons {nm : Option Str} {kpos : Pos} (ha : DE X C Γ a Γ1 0 fa) (hr : DK X C Γ1 kws Γ2 fk) : DK X C Γ (⟨nm, a, kpos⟩ :: kws) Γ2 (mCons fa fk) := by
  refine pk_imp (pk_cons ha hr) fun σ H Q h => ?_
  obtain ⟨S, ρ, fp, s, h⟩ := h
  refine ⟨S, ρ, fp, s, OutE.thenA h fun d1 ρ1 v1 H1 S1 fp1 e1 s1 r1 f1 h1 => ?_⟩
  refine ⟨S1, ρ1, fp1, s1, OutA.thenA h1 fun ds ρ2 vs H2 S2 fp2 e2 s2 r2 f2 h2 => ?_⟩
  refine h2 (v1 :: vs) H2 S2 fp2 s2 ?_ Fra.refl
  simp only [Reps]
  exact ⟨v1, vs, rfl, s1.rep_fra r1 f2, r2⟩
def mLen (n : Nat) (f : Env → R (List D × Env)) : Env → R (List D × Env) := fun ρ => (f ρ).bind fun (xs, ρ1) => if xs.length = n then .ok (xs, ρ1) else .bad
/-- f(k = v, ..), no positional values; n: how many keywords -/
def mCallK (m : List D → R D) (n : Nat) (ix : List Nat) (fs : Env → R (List D × Env)) : Env → R (D × Env) := fun ρ => (fs ρ).bind fun (xs, ρ1) => if xs.length = n then (m (permL ix xs)).bind fun d => .ok (d, ρ1) else .bad
theorem de_callK {ix : List Nat} (hW : C.W = fun cls d _ H => E cls d H) (F : FnOk X.prog X.w X.K X.mg X.base (L2.CX X.prog X.w) lv f fd ps (spF X.K C.T kr m)) (hr : Room lv X.A) (tk : Takes X C.W) (hg : Gl X x) (hm : X.mg x = some (.ref f)) (hk : PySem.W.keepIn X.K (.ref f) = true)
    (hb : KBn X.K fd ps 0 ks (fun us ws => us ++ permL ix ws) (fun us ws => us ++ permL ix ws)) (hkw : DK X C Γ kws Γ1 fk) (hall : (backToKw pos (keywordEach kws X.env)).all (·.1.isSome) = true := by rfl) (hks : (backToKw pos (keywordEach kws X.env)).filterMap (·.1) = ks := by rfl)
    (hdb : (x == ("__debug__" : Str)) = false := by decide) (hpl : ((backTo pos (starEach [] X.env)).any (·.1) || (backToKw pos (keywordEach kws X.env)).any (·.1.isNone)) = false := by rfl) :
    DE X C Γ (.Call (.Name x p) [] kws pos) Γ1 kr (mCallK m ks.length ix fk) := by
  refine ⟨fun pins s σ H Q I h => ?_⟩
  refine wpAny_Call_Name_kw (ld_glob I hg hm ?_ hdb)
  have go : tA X.K C.T C.W Γ Γ1 fk σ H (fun zs H1 => zs.length = ks.length ∧ spF X.K C.T kr m ([] ++ permL ix zs) H1 Q E) := by
    obtain ⟨S, ρ, fp, st, h⟩ := h
    refine ⟨S, ρ, fp, st, OutA.thenE h fun xs ρ1 vs H1 S1 fp1 e1 s1 r1 f1 h1 => ?_⟩
    dsimp only at h1
    by_cases hl : xs.length = ks.length
    · rw [if_pos hl] at h1
      refine ⟨by rw [← r1.length]; exact hl, ?_⟩
      have z := call_data (m := m) (C := C) s1 (reps_perm r1 (ix := ix)) h1
      rw [hW] at z
      exact z
    · rw [if_neg hl] at h1; exact h1.elim
  refine PySem.W.callWith_KW0 (h₀ := X.base) I.ok.mod.kin hk hall ?_ hpl
  refine thn (hkw.run pos pins s σ H _ I go) fun ws s2 ⟨zs, H2, I2, rz, l2, q2⟩ => ⟨I2.kIn, ?_⟩
  rw [hks]
  exact run_fnN (us := []) (vs := []) F hr hb (passes_call tk fun cls d σ H z => by rw [hW]; exact z) I2 .nil rz rfl l2 q2
/-- C(k = v, ..) -/
def mMakeK (c : Nat) (m : List D → R (D × D)) (n : Nat) (ix : List Nat) (fs : Env → R (List D × Env)) : Env → R (D × Env) := mMake c m (fun ρ => (fs ρ).bind fun (xs, ρ1) => if xs.length = n then .ok (permL ix xs, ρ1) else .bad)
theorem de_makeK {c : Nat} {ix : List Nat} (hW : C.W = fun cls d _ H => E cls d H) (M : Mk X.K (C.T.cm c) f) (F : FnOk X.prog X.w X.K X.mg X.base (L2.CX X.prog X.w) lv f fd ps (spB X.K C.T 1 0 mB)) (hr : Room (lv + 1) X.A) (tk : Takes X C.W) (hg : Gl X x) (hm : X.mg x = some (.ref (C.T.cm c)))
    (hb : KBn X.K fd ps 1 ks (fun us ws => us ++ permL ix ws) (fun us ws => us ++ permL ix ws)) (hkw : DK X C Γ kws Γ1 fk) (hall : (backToKw pos (keywordEach kws X.env)).all (·.1.isSome) = true := by rfl) (hks : (backToKw pos (keywordEach kws X.env)).filterMap (·.1) = ks := by rfl)
    (hdb : (x == ("__debug__" : Str)) = false := by decide) (hpl : ((backTo pos (starEach [] X.env)).any (·.1) || (backToKw pos (keywordEach kws X.env)).any (·.1.isNone)) = false := by rfl) :
    DE X C Γ (.Call (.Name x p) [] kws pos) Γ1 1 (mMakeK c mB ks.length ix fk) := by
  refine pe_imp (pe_makeK0 (E := E) M F hr hg hm hb (passes_call tk fun cls d σ H z => by rw [hW]; exact z) hkw hall hks hdb hpl) fun σ H Q h => ?_
  obtain ⟨S, ρ, fp, s, h⟩ := h
  refine ⟨S, ρ, fp, s, ?_⟩
  unfold mMakeK mMake at h
  rw [bind_asc] at h
  refine OutA.thenE h fun xs ρ1 vs H1 S1 fp1 e1 s1 r1 f1 h1 => ?_
  dsimp only at h1
  by_cases hl : xs.length = ks.length
  · rw [if_pos hl] at h1
    refine ⟨rfl, by rw [← r1.length]; exact hl, ?_⟩
    intro p dx hp hdx hne
    exact make_data (fun cls d H' z => by rw [hW] at z; exact z) s1 (reps_perm r1 (ix := ix)) h1 p dx hp hdx hne
  · rw [if_neg hl] at h1; exact h1.elim
end
end Z
set_option Elab.async false
set_option linter.all false
set_option maxRecDepth 100000
/-! Z8: operations on plain data -/
namespace Z
open PySem PySem.Spec L2
open PyProof.Rows hiding St

/-! ### what may be read: shared data, or a list that a name owns -/
/-- the items of a list (true) or a tuple (false) -/
def seqD : D → Option (Bool × List D)
  | .lst xs => some (true, xs)
  | .kls xs => some (true, xs)
  | .tup xs => some (false, xs)
  | _ => none
structure Pe (K : PySem.W.Frag) (T : Tab) (H : Hp) (S : Addr → Prop) (d : D) (v : V) : Prop where
  sq : ∀ b xs, seqD d = some (b, xs) → ∃ a vs, v = .ref a ∧ (b = true → SqL K H a vs) ∧ (b = false → SqT K H a vs) ∧ Reps K T H S xs vs
  st : ∀ x, d = .str x → v = .str x
  lh : ∀ xs, d = .lst xs → ∃ a vs, v = .ref a ∧ H a = some (.lst vs) ∧ Reps K T H S xs vs
section
variable {K : PySem.W.Frag} {T : Tab} {H : Hp} {S : Addr → Prop} {d : D} {v : V} {xs : List D} {k : Nat} {F : List Addr}
theorem Pe.of (h : Rep K T H S d v) : Pe K T H S d v := by
  refine ⟨fun b xs e => ?_, fun x e => ?_, fun xs e => ?_⟩
  · cases d with
    | lst ys =>
      cases e
      simp only [Rep] at h
      obtain ⟨a, vs, e, h1, _, r⟩ := h
      exact ⟨a, vs, e, fun _ => .inl (.inl h1), fun z => (nomatch z), r⟩
    | kls ys =>
      cases e
      simp only [Rep] at h
      obtain ⟨a, vs, e, h1, r⟩ := h
      exact ⟨a, vs, e, fun _ => h1.sql, fun z => (nomatch z), r⟩
    | tup ys =>
      cases e
      simp only [Rep] at h
      obtain ⟨a, vs, e, h1, r⟩ := h
      exact ⟨a, vs, e, fun z => (nomatch z), fun _ => h1, r⟩
    | _ => cases e
  · subst e; exact rep_str h
  · subst e
    simp only [Rep] at h
    obtain ⟨a, vs, e, h1, _, r⟩ := h
    exact ⟨a, vs, e, h1, r⟩
theorem Pe.own (h : Own K T H S k d v F) (hk : k ≤ 1) : Pe K T H S d v := by
  match k, hk with
  | 0, _ => exact .of (own_zero.mp h).2
  | 1, _ =>
    cases d with
    | lst ys =>
      obtain ⟨a, vs, e, h1, r⟩ := peek_lst h (Nat.le_refl _)
      refine ⟨fun b xs e2 => ?_, fun x e => (nomatch e), fun xs e2 => ?_⟩
      · cases e2; exact ⟨a, vs, e, fun _ => .inl (.inl h1), fun z => (nomatch z), r⟩
      · cases e2; exact ⟨a, vs, e, h1, r⟩
    | ins c fs => exact ⟨fun b xs e => (nomatch e), fun x e => (nomatch e), fun x e => (nomatch e)⟩
    | _ => simp only [Own] at h; exact .of h.2
theorem at_len {α β : Type} {xs : List α} {ys : List β} {i : Int} {a : α} (hl : xs.length = ys.length) (h : atI xs i = some a) : ∃ j, ixN ys.length i = some j ∧ xs[j]? = some a := by
  unfold atI at h
  rw [hl] at h
  cases q : ixN ys.length i with
  | none => rw [q] at h; cases h
  | some j => rw [q] at h; exact ⟨j, rfl, h⟩
end
def Prim2P (K : PySem.W.Frag) (T : Tab) (k : Nat) (r : R2) (g : D → D → Option D) : Prop :=
  ∀ S H x y v w d, Pe K T H S x v → Rep K T H S y w → g x y = some d → Gives K T S H k d (r v w H)
def Prim1P (K : PySem.W.Frag) (T : Tab) (k : Nat) (r : V → Hp → VK → Prop) (g : D → Option D) : Prop :=
  ∀ S H x v d, Pe K T H S x v → g x = some d → Gives K T S H k d (r v H)
theorem Prim2P.to {K : PySem.W.Frag} {T : Tab} {k : Nat} {r : R2} {g : D → D → Option D} (h : Prim2P K T k r g) : Prim2 K T k r g := fun S H x y v w d r1 r2 e => h S H x y v w d (.of r1) r2 e
theorem Prim1P.to {K : PySem.W.Frag} {T : Tab} {k : Nat} {r : V → Hp → VK → Prop} {g : D → Option D} (h : Prim1P K T k r g) : Prim1 K T k r g := fun S H x v d r1 e => h S H x v d (.of r1) e
/-- one argument, by the list of arguments -/
def rOne (r : List V → Hp → VK → Prop) : V → Hp → VK → Prop := fun v H Q => r [v] H Q
def gOne (g : D → Option D) : List D → Option D
  | [x] => g x
  | _ => none
def gTwo (g : D → D → Option D) : List D → Option D
  | [x, y] => g x y
  | _ => none
theorem gOne_some {g : D → Option D} {ds : List D} {d : D} (h : gOne g ds = some d) : ∃ x, ds = [x] ∧ g x = some d := by
  cases ds with
  | nil => cases h
  | cons x r =>
    cases r with
    | nil => exact ⟨x, rfl, h⟩
    | cons y r => cases h
theorem gTwo_some {g : D → D → Option D} {ds : List D} {d : D} (h : gTwo g ds = some d) : ∃ x y, ds = [x, y] ∧ g x y = some d := by
  cases ds with
  | nil => cases h
  | cons x r =>
    cases r with
    | nil => cases h
    | cons y r =>
      cases r with
      | nil => exact ⟨x, y, rfl, h⟩
      | cons z r => cases h
theorem Prim1.args {K : PySem.W.Frag} {T : Tab} {k : Nat} {r : List V → Hp → VK → Prop} {g : D → Option D} (h : Prim1 K T k (rOne r) g) : PrimR K T k r (gOne g) := fun S H ds vs d r1 e => by
  obtain ⟨x, rfl, e⟩ := gOne_some e
  simp only [Reps] at r1
  obtain ⟨v, ws, rfl, r1, rfl⟩ := r1
  exact h S H x v d r1 e
theorem Prim2.args {K : PySem.W.Frag} {T : Tab} {k : Nat} {r : List V → Hp → VK → Prop} {g : D → D → Option D} (h : Prim2 K T k (fun v w H Q => r [v, w] H Q) g) : PrimR K T k r (gTwo g) := fun S H ds vs d r1 e => by
  obtain ⟨x, y, rfl, e⟩ := gTwo_some e
  simp only [Reps] at r1
  obtain ⟨v, ws, rfl, r1, w, us, rfl, r2, rfl⟩ := r1
  exact h S H x y v w d r1 r2 e

/-! ### whole numbers -/
def gII (c : Int → Int → Bool) (f : Int → Int → Int) : D → D → Option D
  | .int i, .int j => if c i j = true then some (.int (f i j)) else none
  | _, _ => none
def gI0 (f : Int → Int → Int) : D → D → Option D
  | .int i, .int j => some (.int (f i j))
  | _, _ => none
def gIB (f : Int → Int → Bool) : D → D → Option D
  | .int i, .int j => some (.bl (f i j))
  | _, _ => none
def gU (f : Int → Int) : D → Option D
  | .int i => some (.int (f i))
  | _ => none
theorem gII_some {c : Int → Int → Bool} {f : Int → Int → Int} {x y d : D} (h : gII c f x y = some d) : ∃ i j, x = .int i ∧ y = .int j ∧ c i j = true ∧ d = .int (f i j) := by
  cases x with
  | int i =>
    cases y with
    | int j =>
      simp only [gII] at h
      split at h
      · rename_i q; cases h; exact ⟨i, j, rfl, rfl, q, rfl⟩
      · cases h
    | _ => cases h
  | _ => cases h
theorem gI0_some {f : Int → Int → Int} {x y d : D} (h : gI0 f x y = some d) : ∃ i j, x = .int i ∧ y = .int j ∧ d = .int (f i j) := by
  cases x with
  | int i =>
    cases y with
    | int j => cases h; exact ⟨i, j, rfl, rfl, rfl⟩
    | _ => cases h
  | _ => cases h
theorem gIB_some {f : Int → Int → Bool} {x y d : D} (h : gIB f x y = some d) : ∃ i j, x = .int i ∧ y = .int j ∧ d = .bl (f i j) := by
  cases x with
  | int i =>
    cases y with
    | int j => cases h; exact ⟨i, j, rfl, rfl, rfl⟩
    | _ => cases h
  | _ => cases h
theorem gU_some {f : Int → Int} {x d : D} (h : gU f x = some d) : ∃ i, x = .int i ∧ d = .int (f i) := by
  cases x with
  | int i => cases h; exact ⟨i, rfl, rfl⟩
  | _ => cases h
section
variable {K : PySem.W.Frag} {T : Tab} {X : Cx}
theorem gives_val {S : Addr → Prop} {H : Hp} {d : D} {v : V} {rd : VK → Prop} (r : Rep K T H S d v) (h : ∀ Q, Q v H → rd Q) : Gives K T S H 0 d rd := .inl ⟨v, r, rfl, h⟩
theorem p_i0 {f : Int → Int → Int} : Prim2 K T 0 (rI0 fun i j => .int (f i j)) (gI0 f) := fun S H x y v w d r1 r2 e => by
  obtain ⟨i, j, rfl, rfl, rfl⟩ := gI0_some e
  exact gives_val (by simp [Rep]) fun Q q => ⟨i, j, rep_int r1, rep_int r2, q⟩
theorem p_ib {f : Int → Int → Bool} : Prim2 K T 0 (rI0 fun i j => .bl (f i j)) (gIB f) := fun S H x y v w d r1 r2 e => by
  obtain ⟨i, j, rfl, rfl, rfl⟩ := gIB_some e
  exact gives_val (by simp [Rep]) fun Q q => ⟨i, j, rep_int r1, rep_int r2, q⟩
theorem p_ii {C : Int → Int → Prop} {c : Int → Int → Bool} {f : Int → Int → Int} (hc : ∀ i j, c i j = true → C i j) : Prim2 K T 0 (rI C fun i j => .int (f i j)) (gII c f) := fun S H x y v w d r1 r2 e => by
  obtain ⟨i, j, rfl, rfl, q, rfl⟩ := gII_some e
  exact gives_val (by simp [Rep]) fun Q q' => ⟨i, j, rep_int r1, rep_int r2, hc i j q, q'⟩
theorem p_u {f : Int → Int} : Prim1 K T 0 (rU fun i => .int (f i)) (gU f) := fun S H x v d r1 e => by
  obtain ⟨i, rfl, rfl⟩ := gU_some e
  exact gives_val (by simp [Rep]) fun Q q => ⟨i, rep_int r1, q⟩
theorem OpR.or2 {f : Value → Value → Sem Value} {r r' : R2} (a : OpR X f r) (b : OpR X f r') : OpR X f (fun x y H Q => r x y H Q ∨ r' x y H Q) := fun pins s σ H x y v u Q I rx ry h => h.elim (a pins s σ H x y v u Q I rx ry) (b pins s σ H x y v u Q I rx ry)
theorem Gives.imp {S : Addr → Prop} {H : Hp} {k : Nat} {d : D} {rd rd' : VK → Prop} (h : Gives K T S H k d rd) (i : ∀ Q, rd Q → rd' Q) : Gives K T S H k d rd' := by
  rcases h with ⟨v, a, b, q⟩ | ⟨xs, vs, a, b, c, q⟩ | ⟨xs, vs, a, b, c, q⟩
  · exact .inl ⟨v, a, b, fun Q z => i Q (q Q z)⟩
  · exact .inr (.inl ⟨xs, vs, a, b, c, fun Q z => i Q (q Q z)⟩)
  · exact .inr (.inr ⟨xs, vs, a, b, c, fun Q z => i Q (q Q z)⟩)
/-! * -/
def small64 (i : Int) : Bool := decide (i.natAbs < 18446744073709551616)
def small5k (i : Int) : Bool := decide (i.natAbs.log2 < 9000)
theorem small64_of {i : Int} (h : small64 i = true) : -(2 ^ 64) < i ∧ i < 2 ^ 64 := by
  have z : i.natAbs < 18446744073709551616 := of_decide_eq_true h
  have e : (2 : Int) ^ 64 = 18446744073709551616 := by decide
  omega
def cMul (i j : Int) : Bool := small64 i || small64 j || (small5k i && small5k j)
def rMul : R2 := fun x y H Q => rI CMul (fun i j => .int (i * j)) x y H Q ∨ rI CMulW (fun i j => .int (i * j)) x y H Q
theorem o_mul : OpR X (binaryOp .Mult) rMul := OpR.or2 op_mul op_mulW
theorem p_mul : Prim2 K T 0 rMul (gII cMul (· * ·)) := fun S H x y v w d r1 r2 e => by
  obtain ⟨i, j, rfl, rfl, q, rfl⟩ := gII_some e
  refine gives_val (v := .int (i * j)) (by simp [Rep]) fun Q q' => ?_
  unfold cMul at q
  rw [Bool.or_eq_true, Bool.or_eq_true, Bool.and_eq_true] at q
  rcases q with (q | q) | ⟨q1, q2⟩
  · exact .inl ⟨i, j, rep_int r1, rep_int r2, .inl (small64_of q), q'⟩
  · exact .inl ⟨i, j, rep_int r1, rep_int r2, .inr (small64_of q), q'⟩
  · have z1 : i.natAbs.log2 < 9000 := of_decide_eq_true q1
    have z2 : j.natAbs.log2 < 9000 := of_decide_eq_true q2
    exact .inr ⟨i, j, rep_int r1, rep_int r2, by unfold CMulW; omega, q'⟩
/-! // -/
def cDiv (_ j : Int) : Bool := decide (j ≠ 0) && (decide (j.natAbs < 1073741824) || (decide (0 < j) && small5k j))
def rDiv : R2 := fun x y H Q => rI CDivN (fun i j => .int (i.fdiv j)) x y H Q ∨ rI CDivW (fun i j => .int (i / j)) x y H Q
theorem o_div : OpR X (binaryOp .FloorDiv) rDiv := OpR.or2 op_fdivN op_fdivW
theorem p_div : Prim2 K T 0 rDiv (gII cDiv Int.fdiv) := fun S H x y v w d r1 r2 e => by
  obtain ⟨i, j, rfl, rfl, q, rfl⟩ := gII_some e
  refine gives_val (v := .int (i.fdiv j)) (by simp [Rep]) fun Q q' => ?_
  unfold cDiv at q
  rw [Bool.and_eq_true, Bool.or_eq_true, Bool.and_eq_true] at q
  obtain ⟨n, q | ⟨q1, q2⟩⟩ := q
  · exact .inl ⟨i, j, rep_int r1, rep_int r2, ⟨of_decide_eq_true n, of_decide_eq_true q⟩, q'⟩
  · have z1 : 0 < j := of_decide_eq_true q1
    have z2 : j.natAbs.log2 < 9000 := of_decide_eq_true q2
    exact .inr ⟨i, j, rep_int r1, rep_int r2, ⟨z1, z2⟩, by show Q (.int (i / j)) H; rw [← Int.fdiv_eq_ediv_of_nonneg i (by omega)]; exact q'⟩
def cNz (_ j : Int) : Bool := decide (j ≠ 0)
theorem p_mod : Prim2 K T 0 (rI (fun _ j => j ≠ 0) fun i j => .int (i.fmod j)) (gII cNz Int.fmod) := p_ii fun i j h => of_decide_eq_true h
def cPow (i j : Int) : Bool := decide (0 ≤ j) && decide (j ≤ 10000) && small64 i
theorem p_pow : Prim2 K T 0 (rI CPow fun i j => .int (i ^ j.toNat)) (gII cPow fun i j => i ^ j.toNat) := p_ii fun i j h => by
  unfold cPow at h
  rw [Bool.and_eq_true, Bool.and_eq_true] at h
  have h1 : 0 ≤ j := of_decide_eq_true h.1.1
  have h2 : j ≤ 10000 := of_decide_eq_true h.1.2
  have h3 : i.natAbs < 18446744073709551616 := of_decide_eq_true h.2
  exact ⟨h1, by omega, by have e : (2 : Nat) ^ 64 = 18446744073709551616 := by decide
                          omega⟩
/-! functions of whole numbers -/
def gIntO : D → Option D
  | .int i => some (.int i)
  | .bl b => some (.int (if b = true then 1 else 0))
  | _ => none
theorem p_int : PrimR K T 0 (fun xs H Q => (∃ i, xs = [.int i] ∧ Q (.int i) H) ∨ ∃ k, xs = [.bl k] ∧ Q (.int (if k then 1 else 0)) H) (gOne gIntO) := Prim1.args fun S H x v d r e => by
  cases x with
  | int i => cases e; exact gives_val (by simp [Rep]) fun Q q => .inl ⟨i, by rw [rep_int r], q⟩
  | bl b => cases e; exact gives_val (by simp [Rep]) fun Q q => .inr ⟨b, by rw [rep_bl r], q⟩
  | _ => cases e
theorem p_abs : PrimR K T 0 (fun xs H Q => ∃ i, xs = [.int i] ∧ Q (.int (if i < 0 then -i else i)) H) (gOne (gU fun i => if i < 0 then -i else i)) := Prim1.args fun S H x v d r e => by
  obtain ⟨i, rfl, rfl⟩ := gU_some e
  exact gives_val (by simp [Rep]) fun Q q => ⟨i, by rw [rep_int r], q⟩
theorem p_two {f : Int → Int → Int} : PrimR K T 0 (fun xs H Q => ∃ i j, xs = [.int i, .int j] ∧ Q (.int (f i j)) H) (gTwo (gI0 f)) := Prim2.args fun S H x y v w d r1 r2 e => by
  obtain ⟨i, j, rfl, rfl, rfl⟩ := gI0_some e
  exact gives_val (by simp [Rep]) fun Q q => ⟨i, j, by rw [rep_int r1, rep_int r2], q⟩
/-- the kernel does not look into these -/
noncomputable def gcdI (a b : Int) : Int := Classical.choose (⟨_, rfl⟩ : ∃ j : Int, j = ((Nat.gcd a.natAbs b.natAbs : Nat) : Int))
theorem gcdI_def (a b : Int) : gcdI a b = ((Nat.gcd a.natAbs b.natAbs : Nat) : Int) := Classical.choose_spec (⟨_, rfl⟩ : ∃ j : Int, j = ((Nat.gcd a.natAbs b.natAbs : Nat) : Int))
theorem p_gcd : PrimR K T 0 rGcd (gTwo (gI0 gcdI)) := by
  have e : gcdI = fun a b => ((Nat.gcd a.natAbs b.natAbs : Nat) : Int) := funext fun a => funext fun b => gcdI_def a b
  rw [e]
  exact p_two (f := fun a b => ((Nat.gcd a.natAbs b.natAbs : Nat) : Int))
def cLcm (a b : Int) : Bool := small64 a && small64 b
noncomputable def lcmI (a b : Int) : Int := Classical.choose (⟨_, rfl⟩ : ∃ j : Int, j = ((Nat.lcm a.natAbs b.natAbs : Nat) : Int))
theorem lcmI_def (a b : Int) : lcmI a b = ((Nat.lcm a.natAbs b.natAbs : Nat) : Int) := Classical.choose_spec (⟨_, rfl⟩ : ∃ j : Int, j = ((Nat.lcm a.natAbs b.natAbs : Nat) : Int))
def rLcm : List V → Hp → VK → Prop := fun xs H Q => ∃ i j, xs = [.int i, .int j] ∧ cLcm i j = true ∧ Q (.int (lcmI i j)) H
theorem cr_lcm : CallR X (.builtin "math.lcm") rLcm := by
  intro pins s σ H vs us Q I r h
  obtain ⟨a, b, rfl, hc, q⟩ := h
  obtain ⟨t, u, rfl⟩ := Vals.int2 r
  unfold cLcm at hc
  rw [Bool.and_eq_true] at hc
  have h1 : a.natAbs < 18446744073709551616 := of_decide_eq_true hc.1
  have h2 : b.natAbs < 18446744073709551616 := of_decide_eq_true hc.2
  have e64 : (2 : Nat) ^ 64 = 18446744073709551616 := by decide
  have el : ((Nat.lcm 1 a.natAbs).lcm b.natAbs : Nat) = Nat.lcm a.natAbs b.natAbs := by rw [Nat.lcm_one_left]
  refine PySem.W.mg_lcm_v (c := lcmI a b) (by omega) (by omega) (by rw [el, lcmI_def]) ?_ ⟨.int _, H, I.tok _, ⟨_, rfl⟩, q⟩
  have eb : bitsLine = 134217728 := by decide
  rw [eb]
  have hle : (lcmI a b).natAbs < 2 ^ 128 := by
    rw [lcmI_def, Int.natAbs_natCast]
    by_cases z : a.natAbs = 0
    · rw [z, Nat.lcm_zero_left]; decide
    · have : Nat.lcm a.natAbs b.natAbs ≤ a.natAbs * b.natAbs := by
        unfold Nat.lcm; exact Nat.div_le_self _ _
      have : a.natAbs * b.natAbs < 18446744073709551616 * 18446744073709551616 := Nat.mul_lt_mul'' h1 h2
      have e : (2 : Nat) ^ 128 = 18446744073709551616 * 18446744073709551616 := by decide
      omega
  have := PySem.Flt.log2_lt_of (n := (lcmI a b).natAbs) (k := 128) (by decide) hle
  omega
theorem p_lcm : PrimR K T 0 rLcm (gTwo (gII cLcm lcmI)) := Prim2.args fun S H x y v w d r1 r2 e => by
  obtain ⟨i, j, rfl, rfl, q, rfl⟩ := gII_some e
  exact gives_val (by simp [Rep]) fun Q q' => ⟨i, j, by rw [rep_int r1, rep_int r2], q, q'⟩
end
/-- x.bit_length() -/
noncomputable def bitLen (i : Int) : Int := Classical.choose (⟨_, rfl⟩ : ∃ j : Int, j = ((Builtin.Int.intBits i : Nat) : Int))
theorem bitLen_def (i : Int) : bitLen i = ((Builtin.Int.intBits i : Nat) : Int) := Classical.choose_spec (⟨_, rfl⟩ : ∃ j : Int, j = ((Builtin.Int.intBits i : Nat) : Int))
section
variable {X : Cx} {C : Cz} {Γ Γ' Γ1 Γ2 : List Nat} {k i : Nat} {x : Str} {pos p apos : Pos} {a b e o : Expr} {es : List Expr} {fa fb : Env → R (D × Env)} {fs : Env → R (List D × Env)}
theorem de_bits (ha : DE X C Γ o Γ1 0 fa) (hbase : attributeBase o "bit_length" X.env (eval o X.env) = eval o X.env := by rfl) (hline : (apos.endLine == pos.line) = true := by rfl) : DE X C Γ (.Call (.Attribute o "bit_length" apos) [] [] pos) Γ1 0 (mUn (gU bitLen) fa) :=
  pe_imp (pe_bits ha hbase hline) fun σ H Q h => un_data (r := fun x H1 Q => ∃ i, x = .int i ∧ Q (.int (Builtin.Int.intBits i : Nat)) H1) (fun S H x v d r e => by
    obtain ⟨i, rfl, rfl⟩ := gU_some e
    rw [bitLen_def]
    exact gives_val (by simp [Rep]) fun Q q => ⟨i, rep_int r, q⟩) h

/-! ### names that own a list: what is read of it -/
def mUnN (i : Nat) (g : D → Option D) : Env → R (D × Env) := fun ρ => match ρ[i]? with
  | some (some d) => (ofO (g d)).bind fun e => .ok (e, ρ)
  | _ => .bad
def mBinN (i : Nat) (g : D → D → Option D) (fb : Env → R (D × Env)) : Env → R (D × Env) := fun ρ => match ρ[i]? with
  | some (some _) => (fb ρ).bind fun (y, ρ1) => (match ρ1[i]? with
    | some (some d) => (ofO (g d y)).bind fun e => .ok (e, ρ1)
    | _ => .bad)
  | _ => .bad
theorem unN_data {r : V → Hp → VK → Prop} {g : D → Option D} {σ : St} {H : Hp} {Q : VK} (hk : Γ.getD i 0 ≤ 1) (hr : Prim1P X.K C.T k r g) (h : tE X.K C.T C.W Γ Γ k (mUnN i g) σ H Q) : tVar i σ H (fun v H1 => r v H1 Q) := by
  obtain ⟨S, ρ, fp, s, h⟩ := h
  unfold mUnN at h
  split at h
  · rename_i d q
    obtain ⟨v, hv, o⟩ := s.sl i d q
    refine ⟨v, hv, ?_⟩
    cases q2 : g d with
    | none => rw [q2] at h; exact h.elim
    | some e =>
      rw [q2] at h
      exact gives_out s (hr S H d v e (.own o hk) q2) h
  · exact h.elim
theorem binN_data {r : R2} {g : D → D → Option D} {σ : St} {H : Hp} {Q : VK} (hk : Γ1.getD i 0 ≤ 1) (hr : Prim2P X.K C.T k r g) (h : tE X.K C.T C.W Γ Γ1 k (mBinN i g fb) σ H Q) :
    tVar i σ H (fun v H1 => tE X.K C.T C.W Γ Γ1 0 fb σ H1 (fun y H2 => r v y H2 Q)) := by
  obtain ⟨S, ρ, fp, s, h⟩ := h
  unfold mBinN at h
  split at h
  · rename_i d0 q0
    obtain ⟨v, hv, _⟩ := s.sl i d0 q0
    refine ⟨v, hv, S, ρ, fp, s, OutE.then0 h fun y ρ1 w H1 S1 fp1 e1 s1 r1 f1 h1 => ?_⟩
    dsimp only at h1
    split at h1
    · rename_i d q
      obtain ⟨v', hv', o⟩ := s1.sl i d q
      rw [hv] at hv'; cases hv'
      cases q2 : g d y with
      | none => rw [q2] at h1; exact h1.elim
      | some e =>
        rw [q2] at h1
        exact gives_out s1 (hr S1 H1 d y v w e (.own o hk) r1 q2) h1
    · exact h1.elim
  · exact h.elim
theorem de_ixN {r : R2} {g : D → D → Option D} (ho : IxR X r) (hr : Prim2P X.K C.T k r g) (hv : PE X (.Name x p) (tVar i)) (hb : DE X C Γ b Γ1 0 fb) (hk : Γ1.getD i 0 ≤ 1 := by decide) (hs : PlainIx b := by exact fun _ _ => rfl) : DE X C Γ (.Subscript (.Name x p) b pos) Γ1 k (mBinN i g fb) :=
  pe_imp (pe_ix ho hv hb hs) fun σ H Q h => binN_data hk hr h
theorem de_opN {op : Operator} {r : R2} {g : D → D → Option D} (ho : OpR X (binaryOp op) r) (hr : Prim2P X.K C.T k r g) (hv : PE X (.Name x p) (tVar i)) (hb : DE X C Γ b Γ1 0 fb) (hk : Γ1.getD i 0 ≤ 1 := by decide) : DE X C Γ (.BinOp (.Name x p) op b pos) Γ1 k (mBinN i g fb) :=
  pe_imp (pe_op ho hv hb) fun σ H Q h => binN_data hk hr h
/-- f(x), f a built-in function, x a name -/
theorem de_callBN {id : String} {y : Str} {p2 : Pos} {r : List V → Hp → VK → Prop} {g : D → Option D} (hc : CallR X (.builtin id) r) (hr : Prim1P X.K C.T k (rOne r) g) (hg : Gl X y) (hm : X.mg y = none) (hv : bootBuiltins y = some (.builtin id)) (ha : PE X (.Name x p) (tVar i)) (hk : Γ.getD i 0 ≤ 1 := by decide) (hn : y ≠ "__name__" := by decide) (hdb : (y == ("__debug__" : Str)) = false := by decide)
    (he : starEach [.Name x p] X.env = (false, eval (.Name x p) X.env) :: starEach [] X.env := by rfl) (hpl : (backTo pos (starEach [] X.env)).any (·.1) = false := by rfl) : DE X C Γ (.Call (.Name y p2) [.Name x p] [] pos) Γ k (mUnN i g) :=
  pe_imp (pe_callB hc hg hm hv (pa_cons ha pa_nil he) hn hdb he hpl) fun σ H Q h => unN_data hk hr h
theorem de_callTyN {id : String} {y : Str} {p2 : Pos} {r : List V → Hp → VK → Prop} {g : D → Option D} (hc : CallR X (.type id) r) (hr : Prim1P X.K C.T k (rOne r) g) (hg : Gl X y) (hm : X.mg y = none) (hv : bootBuiltins y = some (.type id)) (ha : PE X (.Name x p) (tVar i)) (hk : Γ.getD i 0 ≤ 1 := by decide) (hn : y ≠ "__name__" := by decide) (hdb : (y == ("__debug__" : Str)) = false := by decide)
    (he : starEach [.Name x p] X.env = (false, eval (.Name x p) X.env) :: starEach [] X.env := by rfl) (hpl : (backTo pos (starEach [] X.env)).any (·.1) = false := by rfl) : DE X C Γ (.Call (.Name y p2) [.Name x p] [] pos) Γ k (mUnN i g) :=
  pe_imp (pe_callTy hc hg hm hv (pa_cons ha pa_nil he) hn hdb he hpl) fun σ H Q h => unN_data hk hr h
end

/-! ### subscripts, len, list(), tuple(), + -/
def gIx : D → D → Option D
  | .str z, .int i => if z.length ≤ 1000 then (atI z.cps.toList i).map fun c => .str ⟨#[c]⟩ else none
  | x, .int i => (seqD x).bind fun p => atI p.2 i
  | _, _ => none
def gLen : D → Option D
  | .str z => if z.length ≤ 1000 then some (.int z.length) else none
  | x => (seqD x).map fun p => .int p.2.length
def gListOf (x : D) : Option D := (seqD x).map fun p => .lst p.2
def gTupOf (x : D) : Option D := (seqD x).map fun p => .tup p.2
section
variable {K : PySem.W.Frag} {T : Tab} {X : Cx}
theorem p_ix : Prim2P K T 0 (rIx K) gIx := fun S H x y v w d r1 r2 e => by
  have seq : ∀ b xs i, y = .int i → seqD x = some (b, xs) → atI xs i = some d → Gives K T S H 0 d (rIx K v w H) := by
    intro b xs i ey e1 e2
    subst ey
    obtain ⟨a, vs, ev, hl, ht, r⟩ := r1.sq b xs e1
    obtain ⟨j, q1, q2⟩ := at_len r.length e2
    obtain ⟨u, hu, ru⟩ := r.get q2
    have hat : atI vs i = some u := by unfold atI; rw [q1]; exact hu
    refine gives_val ru fun Q q => ?_
    cases b with
    | true => exact .inl ⟨a, vs, i, u, ev, rep_int r2, hl rfl, hat, q⟩
    | false => exact .inr (.inl ⟨a, vs, i, u, ev, rep_int r2, ht rfl, hat, q⟩)
  cases y with
  | int i =>
    cases x with
    | str z =>
      simp only [gIx] at e
      split at e
      · rename_i hl
        cases q : atI z.cps.toList i with
        | none => rw [q] at e; cases e
        | some c =>
          rw [q] at e
          cases e
          exact gives_val (by simp [Rep]) fun Q q' => .inr (.inr ⟨z, i, c, r1.st z rfl, rep_int r2, line_of hl, q, q'⟩)
      · cases e
    | lst xs => exact seq true xs i rfl rfl (by simpa [gIx, seqD] using e)
    | kls xs => exact seq true xs i rfl rfl (by simpa [gIx, seqD] using e)
    | tup xs => exact seq false xs i rfl rfl (by simpa [gIx, seqD] using e)
    | _ => simp [gIx, seqD] at e
  | _ => cases x <;> simp [gIx] at e
def rLen (K : PySem.W.Frag) : List V → Hp → VK → Prop := fun xs H Q => ∃ x n, xs = [x] ∧ LenV K x H n ∧ Q (.int n) H
theorem p_len : Prim1P K T 0 (rOne (rLen K)) gLen := fun S H x v d r1 e => by
  have seq : ∀ b xs, seqD x = some (b, xs) → Gives K T S H 0 (.int xs.length) (rOne (rLen K) v H) := fun b xs e1 => by
    obtain ⟨a, vs, ev, hl, ht, r⟩ := r1.sq b xs e1
    subst ev
    refine gives_val (v := .int (xs.length : Int)) (by simp [Rep]) fun Q q => ⟨.ref a, xs.length, rfl, ?_, q⟩
    cases b with
    | true => exact .inl ⟨vs, hl rfl, r.length⟩
    | false => exact .inr ⟨vs, ht rfl, r.length⟩
  cases x with
  | str z =>
    simp only [gLen] at e
    split at e
    · rename_i hl
      cases e
      exact gives_val (v := .int (z.length : Int)) (by simp [Rep]) fun Q q => ⟨.str z, z.length, by rw [r1.st z rfl], ⟨line_of hl, rfl⟩, q⟩
    · cases e
  | lst xs => cases e; exact seq true xs rfl
  | kls xs => cases e; exact seq true xs rfl
  | tup xs => cases e; exact seq false xs rfl
  | _ => simp [gLen, seqD] at e
theorem o_len : CallR X (.builtin "len") (rLen X.K) := call_len
def rListOf (K : PySem.W.Frag) : List V → Hp → VK → Prop := fun xs H Q => ∃ p ys, xs = [.ref p] ∧ (SqL K H p ys ∨ SqT K H p ys) ∧ ∀ l, H l = none → Q (.ref l) (upd H l (.lst ys))
theorem o_list : CallR X (.type "list") (rListOf X.K) := call_list_of
theorem p_list {k : Nat} (hk : k ≤ 1 := by decide) : Prim1P K T k (rOne (rListOf K)) gListOf := fun S H x v d r1 e => by
  unfold gListOf at e
  cases q : seqD x with
  | none => rw [q] at e; cases e
  | some p =>
    obtain ⟨b, xs⟩ := p
    rw [q] at e
    cases e
    obtain ⟨a, vs, ev, hl, ht, r⟩ := r1.sq b xs q
    subst ev
    refine .inr (.inl ⟨xs, vs, rfl, hk, r, fun Q q => ⟨a, vs, rfl, ?_, q⟩⟩)
    cases b with
    | true => exact .inl (hl rfl)
    | false => exact .inr (ht rfl)
def rTupOf (K : PySem.W.Frag) : List V → Hp → VK → Prop := fun xs H Q => ∃ p ys, xs = [.ref p] ∧ ((SqL K H p ys ∧ ∀ l, H l = none → Q (.ref l) (upd H l (.tup ys))) ∨ (SqT K H p ys ∧ Q (.ref p) H))
theorem o_tuple : CallR X (.type "tuple") (rTupOf X.K) := call_tuple_of
theorem p_tuple : Prim1P K T 0 (rOne (rTupOf K)) gTupOf := fun S H x v d r1 e => by
  unfold gTupOf at e
  cases q : seqD x with
  | none => rw [q] at e; cases e
  | some p =>
    obtain ⟨b, xs⟩ := p
    rw [q] at e
    cases e
    obtain ⟨a, vs, ev, hl, ht, r⟩ := r1.sq b xs q
    subst ev
    cases b with
    | true => exact .inr (.inr ⟨xs, vs, rfl, by decide, r, fun Q q => ⟨a, vs, rfl, .inl ⟨hl rfl, q⟩⟩⟩)
    | false =>
      refine gives_val (v := .ref a) ?_ fun Q q => ⟨a, vs, rfl, .inr ⟨ht rfl, q⟩⟩
      simp only [Rep]
      exact ⟨a, vs, rfl, ht rfl, r⟩
/-! xs + ys -/
def gCat : D → D → Option D
  | .lst xs, .lst ys => if xs.length + ys.length ≤ 1000 then some (.lst (xs ++ ys)) else none
  | _, _ => none
theorem gCat_some {x y d : D} (h : gCat x y = some d) : ∃ xs ys, x = .lst xs ∧ y = .lst ys ∧ xs.length + ys.length ≤ 1000 ∧ d = .lst (xs ++ ys) := by
  cases x with
  | lst xs =>
    cases y with
    | lst ys =>
      simp only [gCat] at h
      split at h
      · rename_i q; cases h; exact ⟨xs, ys, rfl, rfl, q, rfl⟩
      · cases h
    | _ => cases h
  | _ => cases h
theorem p_cat {k : Nat} (hk : k ≤ 1 := by decide) : Prim2P K T k rCat gCat := fun S H x y v w d r1 r2 e => by
  obtain ⟨xs, ys, rfl, rfl, hl, rfl⟩ := gCat_some e
  obtain ⟨a, vs, rfl, h1, r⟩ := r1.lh xs rfl
  simp only [Rep] at r2
  obtain ⟨b, ws, rfl, h2, _, r'⟩ := r2
  exact .inr (.inl ⟨xs ++ ys, vs ++ ws, rfl, hk, r.append r', fun Q q => ⟨a, b, vs, ws, rfl, rfl, h1, h2, line_of (by rw [← r.length, ← r'.length]; exact hl), q⟩⟩)
def gCatT : D → D → Option D
  | .tup xs, .tup ys => if xs.length + ys.length ≤ 1000 ∧ xs ≠ [] then some (.tup (xs ++ ys)) else none
  | _, _ => none
theorem gCatT_some {x y d : D} (h : gCatT x y = some d) : ∃ xs ys, x = .tup xs ∧ y = .tup ys ∧ (xs.length + ys.length ≤ 1000 ∧ xs ≠ []) ∧ d = .tup (xs ++ ys) := by
  cases x with
  | tup xs =>
    cases y with
    | tup ys =>
      simp only [gCatT] at h
      split at h
      · rename_i q; cases h; exact ⟨xs, ys, rfl, rfl, q, rfl⟩
      · cases h
    | _ => cases h
  | _ => cases h
theorem p_catT : Prim2 K T 0 (rCatT K) gCatT := fun S H x y v w d r1 r2 e => by
  obtain ⟨xs, ys, rfl, rfl, hl, rfl⟩ := gCatT_some e
  simp only [Rep] at r1 r2
  obtain ⟨a, vs, rfl, h1, r⟩ := r1
  obtain ⟨b, ws, rfl, h2, r'⟩ := r2
  have ne : vs ≠ [] := fun z => hl.2 (by have := r.length; rw [z] at this; exact List.length_eq_zero_iff.mp this)
  have ll : vs.length + ws.length ≤ sizeLine := line_of (by rw [← r.length, ← r'.length]; exact hl.1)
  by_cases hy : ys = []
  · subst hy
    simp only [Reps] at r'
    subst r'
    refine gives_val (v := .ref a) ?_ fun Q q => ⟨a, b, vs, [], rfl, rfl, h1, h2, ne, ll, fun _ => q, fun z => absurd rfl z⟩
    simp only [Rep, List.append_nil]
    exact ⟨a, vs, rfl, h1, r⟩
  · have nw : ws ≠ [] := fun z => hy (by have := r'.length; rw [z] at this; exact List.length_eq_zero_iff.mp this)
    exact .inr (.inr ⟨xs ++ ys, vs ++ ws, rfl, by decide, r.append r', fun Q q => ⟨a, b, vs, ws, rfl, rfl, h1, h2, ne, ll, fun z => absurd z nw, fun _ => q⟩⟩)
/-- xs * n -/
def gRep : D → D → Option D
  | .lst xs, .int i => if i < 1000 ∧ -1000 < i ∧ xs.length * i.toNat ≤ 1000 then some (.lst (List.replicate i.toNat xs).flatten) else none
  | _, _ => none
theorem gRep_some {x y d : D} (h : gRep x y = some d) : ∃ xs i, x = .lst xs ∧ y = .int i ∧ (i < 1000 ∧ -1000 < i ∧ xs.length * i.toNat ≤ 1000) ∧ d = .lst (List.replicate i.toNat xs).flatten := by
  cases x with
  | lst xs =>
    cases y with
    | int i =>
      simp only [gRep] at h
      split at h
      · rename_i q; cases h; exact ⟨xs, i, rfl, rfl, q, rfl⟩
      · cases h
    | _ => cases h
  | _ => cases h
theorem reps_replicate {S : Addr → Prop} {H : Hp} {xs : List D} {vs : List V} (r : Reps K T H S xs vs) : ∀ n, Reps K T H S (List.replicate n xs).flatten (List.replicate n vs).flatten
  | 0 => by simp [Reps]
  | n + 1 => by
    simp only [List.replicate_succ, List.flatten_cons]
    exact r.append (reps_replicate r n)
theorem p_rep {k : Nat} (hk : k ≤ 1 := by decide) : Prim2P K T k rRep gRep := fun S H x y v w d r1 r2 e => by
  obtain ⟨xs, i, rfl, rfl, hl, rfl⟩ := gRep_some e
  obtain ⟨a, vs, rfl, h1, r⟩ := r1.lh xs rfl
  have e2 := rep_int r2
  have e63 : (2 : Int) ^ 63 = 9223372036854775808 := by decide
  exact .inr (.inl ⟨_, _, rfl, hk, reps_replicate r i.toNat, fun Q q => ⟨a, i, vs, rfl, e2, h1, by omega, by omega, line_of (by rw [← r.length]; exact hl.2.2), q⟩⟩)
/-! sum, all, any -/
def intsOf : List D → Option (List Int)
  | [] => some []
  | .int i :: r => (intsOf r).map (i :: ·)
  | _ => none
def blsOf : List D → Option (List Bool)
  | [] => some []
  | .bl i :: r => (blsOf r).map (i :: ·)
  | _ => none
theorem reps_ints {S : Addr → Prop} {H : Hp} : ∀ {xs : List D} {vs : List V} {ns : List Int}, Reps K T H S xs vs → intsOf xs = some ns → vs = ns.map V.int
  | [], vs, ns, r, e => by
    simp only [Reps] at r
    cases e; exact r
  | d :: xs, vs, ns, r, e => by
    simp only [Reps] at r
    obtain ⟨v, ws, rfl, r1, r2⟩ := r
    cases d with
    | int i =>
      simp only [intsOf] at e
      cases q : intsOf xs with
      | none => rw [q] at e; cases e
      | some l => rw [q] at e; cases e; rw [reps_ints r2 q, rep_int r1]; rfl
    | _ => cases e
theorem reps_bls {S : Addr → Prop} {H : Hp} : ∀ {xs : List D} {vs : List V} {ns : List Bool}, Reps K T H S xs vs → blsOf xs = some ns → vs = ns.map V.bl
  | [], vs, ns, r, e => by
    simp only [Reps] at r
    cases e; exact r
  | d :: xs, vs, ns, r, e => by
    simp only [Reps] at r
    obtain ⟨v, ws, rfl, r1, r2⟩ := r
    cases d with
    | bl i =>
      simp only [blsOf] at e
      cases q : blsOf xs with
      | none => rw [q] at e; cases e
      | some l => rw [q] at e; cases e; rw [reps_bls r2 q, rep_bl r1]; rfl
    | _ => cases e
def gSum (x : D) : Option D := (seqD x).bind fun p => if p.1 = true then (intsOf p.2).map fun ns => .int ns.sum else none
def gAll (x : D) : Option D := (seqD x).bind fun p => if p.1 = true then (blsOf p.2).map fun ns => .bl (ns.all id) else none
def gAny (x : D) : Option D := (seqD x).bind fun p => if p.1 = true then (blsOf p.2).map fun ns => .bl (ns.any id) else none
theorem p_sum : Prim1P K T 0 (rOne (rSum K)) gSum := fun S H x v d r1 e => by
  unfold gSum at e
  cases q : seqD x with
  | none => rw [q] at e; cases e
  | some p =>
    obtain ⟨b, xs⟩ := p
    rw [q] at e
    simp only [Option.bind_some] at e
    cases b with
    | false => cases e
    | true =>
      rw [if_pos rfl] at e
      cases q2 : intsOf xs with
      | none => rw [q2] at e; cases e
      | some ns =>
        rw [q2] at e
        cases e
        obtain ⟨a, vs, ev, hl, ht, r⟩ := r1.sq true xs q
        subst ev
        exact gives_val (v := .int ns.sum) (by simp [Rep]) fun Q q => ⟨a, ns, rfl, by rw [← reps_ints r q2]; exact hl rfl, q⟩
theorem p_all : Prim1P K T 0 (rOne (rAll K)) gAll := fun S H x v d r1 e => by
  unfold gAll at e
  cases q : seqD x with
  | none => rw [q] at e; cases e
  | some p =>
    obtain ⟨b, xs⟩ := p
    rw [q] at e
    simp only [Option.bind_some] at e
    cases b with
    | false => cases e
    | true =>
      rw [if_pos rfl] at e
      cases q2 : blsOf xs with
      | none => rw [q2] at e; cases e
      | some ns =>
        rw [q2] at e
        cases e
        obtain ⟨a, vs, ev, hl, ht, r⟩ := r1.sq true xs q
        subst ev
        exact gives_val (v := .bl (ns.all id)) (by simp [Rep]) fun Q q => ⟨a, ns, rfl, by rw [← reps_bls r q2]; exact hl rfl, q⟩
theorem p_any : Prim1P K T 0 (rOne (rAny K)) gAny := fun S H x v d r1 e => by
  unfold gAny at e
  cases q : seqD x with
  | none => rw [q] at e; cases e
  | some p =>
    obtain ⟨b, xs⟩ := p
    rw [q] at e
    simp only [Option.bind_some] at e
    cases b with
    | false => cases e
    | true =>
      rw [if_pos rfl] at e
      cases q2 : blsOf xs with
      | none => rw [q2] at e; cases e
      | some ns =>
        rw [q2] at e
        cases e
        obtain ⟨a, vs, ev, hl, ht, r⟩ := r1.sq true xs q
        subst ev
        exact gives_val (v := .bl (ns.any id)) (by simp [Rep]) fun Q q => ⟨a, ns, rfl, by rw [← reps_bls r q2]; exact hl rfl, q⟩
/-! ==, is None -/
def gEq : D → D → Option D
  | .non, .non => some (.bl true)
  | .non, .int _ => some (.bl false) | .int _, .non => some (.bl false) | .non, .bl _ => some (.bl false) | .bl _, .non => some (.bl false) | .non, .str _ => some (.bl false) | .str _, .non => some (.bl false)
  | .int i, .int j => some (.bl (decide (i = j)))
  | .bl i, .bl j => some (.bl (decide (i = j)))
  | .str i, .str j => some (.bl (decide (i = j)))
  | .int _, .str _ => some (.bl false) | .str _, .int _ => some (.bl false) | .bl _, .str _ => some (.bl false) | .str _, .bl _ => some (.bl false)
  | _, _ => none
def gNe (x y : D) : Option D := (gEq x y).bind gNot
theorem eq_rep {S : Addr → Prop} {H : Hp} {x y d : D} {v w : V} (r1 : Rep K T H S x v) (r2 : Rep K T H S y w) (e : gEq x y = some d) : scal v w = true ∧ d = .bl (decide (v = w)) := by
  cases x <;> cases y <;> simp only [gEq] at e <;> first
    | (cases e; simp only [Rep] at r1 r2; subst r1; subst r2; simp [scal]; done)
    | (cases e; done)
theorem p_eq : Prim2 K T 0 rEq gEq := fun S H x y v w d r1 r2 e => by
  obtain ⟨h1, h2⟩ := eq_rep r1 r2 e
  subst h2
  exact gives_val (by simp [Rep]) fun Q q => ⟨h1, q⟩
theorem p_ne : Prim2 K T 0 rNe gNe := fun S H x y v w d r1 r2 e => by
  unfold gNe at e
  cases q : gEq x y with
  | none => rw [q] at e; cases e
  | some z =>
    rw [q] at e
    obtain ⟨h1, h2⟩ := eq_rep r1 r2 q
    subst h2
    cases e
    exact gives_val (by simp [Rep]) fun Q q => ⟨h1, q⟩
def isNon : D → Bool
  | .non => true
  | _ => false
theorem isNon_rep {S : Addr → Prop} {H : Hp} {x : D} {v : V} (r : Rep K T H S x v) : decide (v = .non) = isNon x := by
  cases x <;> simp only [Rep] at r <;> first
    | (subst r; simp [isNon])
    | (obtain ⟨a, z⟩ := r; obtain ⟨vs, z⟩ := z; first | (obtain ⟨rfl, _⟩ := z; simp [isNon]) | (obtain ⟨vs2, rfl, _⟩ := z; simp [isNon]))
def gIs (f : Bool → Bool) : D → D → Option D
  | x, .non => some (.bl (f (isNon x)))
  | _, _ => none
theorem p_isN : Prim2 K T 0 (fun x y H Q => y = .non ∧ Q (.bl (decide (x = .non))) H) (gIs id) := fun S H x y v w d r1 r2 e => by
  cases y with
  | non => cases e; exact gives_val (v := .bl (isNon x)) (by simp [Rep]) fun Q q => ⟨rep_non r2, by rw [isNon_rep r1]; exact q⟩
  | _ => simp [gIs] at e
theorem p_notN : Prim2 K T 0 (fun x y H Q => y = .non ∧ Q (.bl (!decide (x = .non))) H) (gIs not) := fun S H x y v w d r1 r2 e => by
  cases y with
  | non => cases e; exact gives_val (v := .bl (!isNon x)) (by simp [Rep]) fun Q q => ⟨rep_non r2, by rw [isNon_rep r1]; exact q⟩
  | _ => simp [gIs] at e
end
end Z
set_option Elab.async false
set_option linter.all false
set_option maxRecDepth 100000
/-! Y1: enumerate over a tuple -/
namespace Z
open PySem PySem.Spec
open PyProof.Rows hiding St

abbrev tupIt (t : Addr) : Obj := { cls := .type "tuple_iterator", data := .fields #[.ref t, .int 0 0] }
abbrev enumOf (it : Addr) : Obj := { cls := .type "enumerate", data := .fields #[.none, .bool false, .ref it, rawInt 0, .none, .none] }
set_option maxHeartbeats 1000000 in
theorem enum_new_tup (t : Addr) (its : Array Value) :
    Meets (Builtin.«enumerate.__new__» ⟨[.type "enumerate", .ref t], []⟩) (fun _ G s => s.heap.IsTuple t its ∧ G (.ok (.ret (.ref (s.heap.push (tupIt t)).objs.size))) { s with heap := (s.heap.push (tupIt t)).push (enumOf s.heap.objs.size) }) :=
  .of_wp fun prog w A G s hg => by
    obtain ⟨hp, gl, dd, tk, os⟩ := s
    obtain ⟨ht, hg⟩ := hg
    have sb := sub_enumerate
    have go : ∀ {A' : Around} {E : Value → Shared → Prop} {Q : Value → Shared → Prop}, Q (.ref hp.objs.size) ⟨hp.push (tupIt t), gl, dd, tk, os⟩ → wpAny (model prog w) A' (pyIter (.ref t)) Q E ⟨hp, gl, dd, tk, os⟩ := fun q => wpAny_pyIter_tuple (s := ⟨hp, gl, dd, tk, os⟩) ht q
    wp_walk using go
    refine wpAny_stack_any fun stk => wpAny_pure ?_
    split
    · rename_i cc _ _ _ _ _
      by_cases z : (cc == Value.type "enumerate") = true
      · rw [z]
        wp_walk using go
        exact Exists.intro _ ⟨rfl, hg⟩
      · rw [Bool.not_eq_true] at z
        rw [z]
        wp_walk using go
        exact Exists.intro _ ⟨rfl, hg⟩
    · wp_walk using go
      exact Exists.intro _ ⟨rfl, hg⟩
theorem enum_tup {prog : Program} {w : World} {A : Around} {E : Value → Shared → Prop} {s : Shared} {t : Addr} {its : Array Value} {Q : Value → Shared → Prop} (ht : s.heap.IsTuple t its)
    (h : ∀ h', IsEnum h' (s.heap.objs.size + 1) s.heap.objs.size 0 .none → h'.IsTupleIter s.heap.objs.size t 0 → (∀ b o, s.heap.get? b = some o → h'.get? b = some o) → Q (.ref (s.heap.objs.size + 1)) { s with heap := h' }) :
    wpAny (model prog w) A (call (.type "enumerate") [.ref t]) Q E s := by
  refine callType_new F.called_enumerate (by decide) (F.typeCall_enumerate_1 _) (F.newCall_enumerate_1 _) (fun b => F.args_object_init_2 b _) F.entry_enumerate_new (enum_new_tup t its) (And.intro ht ?_)
  have sz : (s.heap.push (tupIt t)).objs.size = s.heap.objs.size + 1 := Heap.size_push ..
  have he : IsEnum ((s.heap.push (tupIt t)).push (enumOf s.heap.objs.size)) (s.heap.objs.size + 1) s.heap.objs.size 0 .none := by
    have z := Heap.get?_push_size (s.heap.push (tupIt t)) (o := enumOf s.heap.objs.size) rfl
    rw [sz] at z
    exact z
  show _ ∧ _
  rw [sz]
  exact ⟨⟨_, he, rfl⟩, h _ he ⟨_, Heap.get?_push_of_some _ (Heap.get?_push_size _ rfl), rfl, rfl⟩ fun b o x => Heap.get?_push_of_some _ (Heap.get?_push_of_some _ x)⟩
theorem enum_tup_end {prog : Program} {w : World} {A : Around} {E : Value → Shared → Prop} {s : Shared} {e it t : Addr} {j : Nat} {c : Int} {its : Array Value} {old : Value} {Q : Option Value → Shared → Prop} (hh : A.in1.handled = none) (hen : IsEnum s.heap e it c old)
    (hti : s.heap.IsTupleIter it t j) (htu : s.heap.IsTuple t its) (gone : its[j]? = none) (q : ∀ h', Heap.ExtBut it s.heap h' → Q none { s with heap := h' }) : wpAny (model prog w) A (pyNext (.ref e)) Q E s := by
  have ty : s.TypeIs (.ref e) "enumerate" := ⟨_, hen, rfl⟩
  unfold pyNext
  refine wpAny_bind (wpAny_attempt (wpAny_callSpecial?_slot (name := Str.ofString "__next__") ty F.slot_enumerate_next (wpAny_call_entry F.slot_enumerate_next ty F.entry_enumerate_next ?_ (F.args_enumerate_next_1 _))))
  refine wpAny_bind (m := field (.ref e) 2) (wpAny_field hen rfl (x := .ref it) rfl ?_)
  refine wpAny_bind (wpAny_nextOf_tuple_end hh hti htu gone fun h' x eb ex => ?_)
  refine wpAny_bind (wpAny_isInstance (T := "StopIteration") (b := true) (let ⟨ob, h1, h2⟩ := ex; ⟨ob, h1, h2⟩) isSubtype_stop ?_)
  exact wpAny_pure (q _ eb)
open L2
/-- the tuple at a, each item in a new pair -/
def ItEt (K : PySem.W.Frag) (a : Addr) : It :=
  ⟨fun i H => ∃ (xs : List V) (x : V), SqT K H a xs ∧ xs[i]? = some x, fun i H v H' => ∃ T x, v = .ref T ∧ H T = none ∧ H' = upd H T (.tup [.int (i : Nat), x]) ∧ ∀ ys, SqT K H a ys → ys[i]? = some x, fun i H => ∃ ys : List V, SqT K H a ys ∧ ys.length ≤ i⟩
theorem turn_enumT {P : Program} {w : World} {K : PySem.W.Frag} {elts : List Expr} {kk : Nat} {tpos : Pos} (a e it : Addr) (na : a ≠ it) (nea : e ≠ a) :
    Turn P w K (.Tuple elts kk tpos) (ItEt K a) [e, it] e (fun j hp => (∃ old, IsEnum hp e it ((j : Nat) : Int) old) ∧ hp.IsTupleIter it a j ∧ e ≠ it) where
  mem := List.mem_cons_self
  obj := fun j hp st b hb => by
    obtain ⟨⟨old, he⟩, ⟨o, ho, hc, hd⟩, _⟩ := st
    rcases (show b = e ∨ b = it by simpa using hb) with z | z
    · subst z; exact ⟨_, he, fun v q => nomatch q⟩
    · subst z; exact ⟨o, ho, fun v q => by rw [hd] at q; cases q⟩
  keep := fun j hp hp' st kk => ⟨⟨st.1.choose, kk e (by simp) _ st.1.choose_spec⟩, st.2.1.at fun o q => kk it (by simp) o q, st.2.2⟩
  item := by
    intro X hP hw hK hc j pins s σ H E I hf st hg
    subst hP hw hK
    obtain ⟨⟨old, he⟩, hit, hne⟩ := st
    obtain ⟨xs, x, hq, hx⟩ := hg
    obtain ⟨its, rv, pt, _⟩ := I.tuple hq
    obtain ⟨u, hu, ru⟩ := rv.get hx
    have hel : e < s.heap.objs.size := Heap.lt_size he
    have hil : it < s.heap.objs.size := by obtain ⟨_, q, _⟩ := hit; exact Heap.lt_size q
    have ptt : s.heap.IsTuple a its.toArray := pt
    have hjl : j < its.toArray.size := by
      rw [List.size_toArray]
      exact (List.getElem?_eq_some_iff.mp hu).1
    refine wpAny_pyNext_enum_itemD (Draws.tuple (A := X.A.in1) (show X.A.in1.handled = none from I.ok.hd hc) it a na its.toArray) he ⟨hit, ptt⟩ hjl hne (by simp [hne, nea]) fun y h' tk hy ho hst' hT hsz hk => ?_
    have ey : y = u := by
      have : its.toArray[j]? = some u := by simpa using hu
      rw [this] at hy; cases hy; rfl
    subst ey
    refine ⟨_, rfl, wpAny_letOwnedTupleGo_enum (s := { s with heap := h', toks := tk + 1 }) ho fun h'' he' sb => ?_⟩
    have hT2 : h''.get? s.heap.objs.size = some { cls := .type "tuple", data := .seq #[.int j tk, y] } := (sb.2 _ (Nat.ne_of_gt hel)).trans hT
    have new : ObjOk X.prog X.w (upd H s.heap.objs.size (.tup [.int (j : Nat), x])) h'' s.heap.objs.size (.tup [.int (j : Nat), x]) :=
      ⟨by show 2 ≤ sizeLine; decide, [.int j tk, y], .cons ⟨_, rfl⟩ (.cons ru .nil), _, hT2, rfl, _, rfl⟩
    have I1 : Inv X pins σ (upd H s.heap.objs.size (.tup [.int (j : Nat), x])) { s with heap := h'', toks := tk + 1 } :=
      I.turnedNew (ch := [e, it]) (fun b ob hb q => (sb.2 b fun z => hb (by rw [z]; simp)).trans (hk b ob (fun z => hb (by rw [z]; simp)) (fun z => hb (by rw [z]; simp)) q)) hf (Nat.le_refl _) new
    refine ⟨.ref s.heap.objs.size, _, I1, rfl, ⟨_, x, rfl, I.hok.fresh (Nat.le_refl _), rfl, fun ys hy => by rw [I.tuple_inj hy hq]; exact hx⟩, ⟨⟨y, ?_⟩, hst'.1.at fun o q => (sb.2 it (Ne.symm hne)).trans q, hne⟩, fun b hb => ?_⟩
    · rw [show ((j + 1 : Nat) : Int) = (j : Int) + 1 by omega]; exact he'
    · have lb : b < s.heap.objs.size := by
        rcases (show b = e ∨ b = it by simpa using hb) with z | z
        · rw [z]; exact hel
        · rw [z]; exact hil
      rw [upd_ne (Nat.ne_of_lt lb)]
      exact (hf b hb).1
  done := by
    intro X hP hw hK hc j pins s σ H E I hf st hg
    subst hP hw hK
    obtain ⟨⟨old, he⟩, hit, hne⟩ := st
    obtain ⟨xs, hq, hx⟩ := hg
    obtain ⟨its, rv, pt, _⟩ := I.tuple hq
    have gone : its.toArray[j]? = none := by
      rw [Array.getElem?_eq_none]
      rw [List.size_toArray, ← rv.length]
      exact hx
    exact enum_tup_end (show X.A.in1.handled = none from I.ok.hd hc) he hit pt gone fun h' eb => ⟨rfl, I.turned (t' := s.toks) (fun b o hb q => eb b o hb q) (hf it (by simp)).1 (hf it (by simp)).2.1 (hf it (by simp)).2.2.2.1 (hf it (by simp)).2.2.2.2.1 (hf it (by simp)).2.2.2.2.2⟩
  self := fun A j s Q E st h => let ⟨⟨_, he⟩, _⟩ := st; wpAny_pyIter_enum he h
section
variable {X : Cx} {C : Cz} {Γ Γ1 : List Nat} {p pos tpos : Pos} {e : Expr} {elts : List Expr} {kk : Nat} {fa : Env → R (D × Env)}
def iEnumA (K : PySem.W.Frag) (te : TE) : TI := fun σ H G => te σ H fun v H1 => ∃ (a : Addr) (xs : List V), v = .ref a ∧ ((SqL K H1 a xs ∧ G (Ite K a) H1) ∨ (SqT K H1 a xs ∧ G (ItEt K a) H1))
theorem pi_enumA {te : TE} (hg : Gl X "enumerate") (hm : X.mg "enumerate" = none) (ha : PE X e te) (hs : starEach [e] X.env = (false, eval e X.env) :: starEach [] X.env := by rfl) : PI X (.Tuple elts kk tpos) (.Call (.Name "enumerate" p) [e] [] pos) (iEnumA X.K te) := by
  refine ⟨fun pins s σ H G I h => ?_⟩
  refine Call_ (ld_blt I hg hm boot_enumerate (PyProof.Rows.callWith_type1 (args_cons (thn (ha.run pins s σ H _ I h) fun u s1 ⟨v, H1, I1, r1, q1⟩ => args_nil ?_) hs) hs rfl))
  obtain ⟨a, xs, ev, q⟩ := q1
  subst ev
  obtain rfl : u = Value.ref a := r1
  rcases q with ⟨hq, q⟩ | ⟨hq, q⟩
  · obtain ⟨its, rv, pl, _⟩ := I1.list hq
    refine call_enumerate_list pl.isList fun h' he hit hsz hk => wpAny_pyIter_enum he ?_
    have I2 : Inv X pins σ H1 { s1 with heap := h' } := I1.kept (t' := s1.toks) hk
    refine ⟨s1.heap.objs.size + 1, [s1.heap.objs.size + 1, s1.heap.objs.size], _, _, H1, rfl, I2, turn_enum a (s1.heap.objs.size + 1) s1.heap.objs.size, ⟨⟨.none, he⟩, hit, Nat.succ_ne_self _⟩, fun b hb => ?_, q⟩
    have lb : s1.heap.objs.size ≤ b := by
      rcases (show b = s1.heap.objs.size + 1 ∨ b = s1.heap.objs.size by simpa using hb) with z | z <;> rw [z]
      · exact Nat.le_add_right _ _
      · exact Nat.le_refl _
    exact I1.fpOk lb (I1.hok.fresh lb)
  · obtain ⟨its, rv, pl, _⟩ := I1.tuple hq
    have al : a < s1.heap.objs.size := by
      obtain ⟨o, ho, _⟩ := pl
      exact Heap.lt_size ho
    refine enum_tup (its := its.toArray) pl fun h' he hit hk => wpAny_pyIter_enum he ?_
    have I2 : Inv X pins σ H1 { s1 with heap := h' } := I1.kept (t' := s1.toks) hk
    refine ⟨s1.heap.objs.size + 1, [s1.heap.objs.size + 1, s1.heap.objs.size], _, _, H1, rfl, I2, turn_enumT a (s1.heap.objs.size + 1) s1.heap.objs.size (Nat.ne_of_lt al) (Ne.symm (Nat.ne_of_lt (Nat.lt_succ_of_lt al))), ⟨⟨.none, he⟩, hit, Nat.succ_ne_self _⟩, fun b hb => ?_, q⟩
    have lb : s1.heap.objs.size ≤ b := by
      rcases (show b = s1.heap.objs.size + 1 ∨ b = s1.heap.objs.size by simpa using hb) with z | z <;> rw [z]
      · exact Nat.le_add_right _ _
      · exact Nat.le_refl _
    exact I1.fpOk lb (I1.hok.fresh lb)
def enumD (i : Nat) : List D → List D
  | [] => []
  | d :: r => .tup [.int (i : Nat), d] :: enumD (i + 1) r
theorem enumD_length : ∀ {ds : List D} {i : Nat}, (enumD i ds).length = ds.length
  | [], _ => rfl
  | d :: r, i => by simp [enumD, enumD_length]
theorem enumD_get : ∀ {ds : List D} {i j : Nat} {d : D}, (enumD i ds)[j]? = some d → ∃ x, ds[j]? = some x ∧ d = .tup [.int ((i + j : Nat) : Int), x]
  | [], i, j, d, h => by simp [enumD] at h
  | x :: r, i, 0, d, h => by
    simp [enumD] at h
    exact ⟨x, rfl, h.symm⟩
  | x :: r, i, j + 1, d, h => by
    simp only [enumD, List.getElem?_cons_succ] at h
    obtain ⟨y, h1, h2⟩ := enumD_get h
    exact ⟨y, by simpa using h1, by rw [h2]; congr 4; omega⟩
theorem it_enumL {K : PySem.W.Frag} {T : Tab} {S : Addr → Prop} {H : Hp} {ds : List D} {a : Addr} {vs : List V} (r : Reps K T H S ds vs) (st : ∀ H' S', Stay K H S H' S' → SqL K H' a vs) : ItOk K T S H (Ite K a) (enumD 0 ds) := by
  refine ⟨fun S' H' s i hi => ?_, fun S' H' s i d hd => ?_, fun S' H' s i d hd x H2 hy => ?_⟩
  · exact ⟨vs, st H' S' s, by rw [← r.length, ← enumD_length (i := 0)]; exact hi⟩
  · obtain ⟨y, h1, _⟩ := enumD_get hd
    obtain ⟨v, hv, _⟩ := r.get h1
    exact ⟨vs, v, st H' S' s, hv⟩
  · obtain ⟨y, h1, rfl⟩ := enumD_get hd
    obtain ⟨v, hv, rv⟩ := r.get h1
    obtain ⟨t, u, rfl, hn, rfl, hu⟩ := hy
    have e := hu vs (st H' S' s)
    rw [hv] at e; cases e
    refine ⟨kept_upd hn, ?_⟩
    simp only [Rep, Reps]
    exact ⟨t, _, rfl, .inl (.inl upd_same), .int _, _, rfl, by simp, v, [], rfl, (Stay.grow (kept_upd hn)).rep (s.rep rv), rfl⟩
theorem it_enumT {K : PySem.W.Frag} {T : Tab} {S : Addr → Prop} {H : Hp} {ds : List D} {a : Addr} {vs : List V} (r : Reps K T H S ds vs) (st : ∀ H' S', Stay K H S H' S' → SqT K H' a vs) : ItOk K T S H (ItEt K a) (enumD 0 ds) := by
  refine ⟨fun S' H' s i hi => ?_, fun S' H' s i d hd => ?_, fun S' H' s i d hd x H2 hy => ?_⟩
  · exact ⟨vs, st H' S' s, by rw [← r.length, ← enumD_length (i := 0)]; exact hi⟩
  · obtain ⟨y, h1, _⟩ := enumD_get hd
    obtain ⟨v, hv, _⟩ := r.get h1
    exact ⟨vs, v, st H' S' s, hv⟩
  · obtain ⟨y, h1, rfl⟩ := enumD_get hd
    obtain ⟨v, hv, rv⟩ := r.get h1
    obtain ⟨t, u, rfl, hn, rfl, hu⟩ := hy
    have e := hu vs (st H' S' s)
    rw [hv] at e; cases e
    refine ⟨kept_upd hn, ?_⟩
    simp only [Rep, Reps]
    exact ⟨t, _, rfl, .inl (.inl upd_same), .int _, _, rfl, by simp, v, [], rfl, (Stay.grow (kept_upd hn)).rep (s.rep rv), rfl⟩
/-- a shared sequence, wherever it stays -/
def mSeqD (h : List D → List D) (fa : Env → R (D × Env)) : Env → R (List D × Env) := fun ρ => (fa ρ).bind fun (d, ρ1) => match seqD d with
  | some (_, xs) => .ok (h xs, ρ1)
  | none => .bad
theorem seq_stay {K : PySem.W.Frag} {T : Tab} {S : Addr → Prop} {H : Hp} {d : D} {v : V} {b : Bool} {xs : List D} (r : Rep K T H S d v) (e : seqD d = some (b, xs)) : ∃ a vs, v = .ref a ∧ Reps K T H S xs vs ∧ (b = true → ∀ H' S', Stay K H S H' S' → SqL K H' a vs) ∧ (b = false → ∀ H' S', Stay K H S H' S' → SqT K H' a vs) := by
  cases d with
  | lst ys =>
    cases e
    simp only [Rep] at r
    obtain ⟨a, vs, e, h1, sa, r⟩ := r
    exact ⟨a, vs, e, r, fun _ H' S' s => .inl (.inl (s.l a vs h1 sa).1), fun z => (nomatch z)⟩
  | kls ys =>
    cases e
    simp only [Rep] at r
    obtain ⟨a, vs, e, h1, r⟩ := r
    exact ⟨a, vs, e, r, fun _ H' S' s => (s.c a vs h1).sql, fun z => (nomatch z)⟩
  | tup ys =>
    cases e
    simp only [Rep] at r
    obtain ⟨a, vs, e, h1, r⟩ := r
    exact ⟨a, vs, e, r, fun z => (nomatch z), fun _ H' S' s => s.t a vs h1⟩
  | _ => cases e
theorem di_enum (hg : Gl X "enumerate") (hm : X.mg "enumerate" = none) (ha : DE X C Γ e Γ1 0 fa) (hs : starEach [e] X.env = (false, eval e X.env) :: starEach [] X.env := by rfl) : DI X C (.Tuple elts kk tpos) Γ (.Call (.Name "enumerate" p) [e] [] pos) Γ1 (mSeqD (enumD 0) fa) :=
  pi_imp (pi_enumA hg hm ha hs) fun σ H Q h => by
  obtain ⟨S, ρ, fp, s, h⟩ := h
  refine ⟨S, ρ, fp, s, OutE.thenI h fun d ρ1 v H1 S1 fp1 e1 s1 r1 f1 h1 => ?_⟩
  dsimp only at h1
  cases q : seqD d with
  | none => rw [q] at h1; exact h1.elim
  | some bx =>
    obtain ⟨b, xs⟩ := bx
    rw [q] at h1
    obtain ⟨a, vs, rfl, r, hl, ht⟩ := seq_stay r1 q
    refine ⟨a, vs, rfl, ?_⟩
    cases b with
    | true => exact .inl ⟨hl rfl H1 S1 Stay.refl, h1 _ H1 S1 fp1 s1 (it_enumL r (hl rfl)) f1⟩
    | false => exact .inr ⟨ht rfl H1 S1 Stay.refl, h1 _ H1 S1 fp1 s1 (it_enumT r (ht rfl)) f1⟩
end
end Z
set_option Elab.async false
set_option linter.all false
set_option maxRecDepth 100000
/-! Y2: isinstance, slices, methods, more iterators -/
namespace Z
open PySem PySem.Spec L2
open PyProof.Rows hiding St

/-! ### isinstance -/
inductive Ty where
  | int | bool | list | tuple | str
  | own (c : Nat)
def Ty.v (T : Tab) : Ty → V
  | .int => .ty "int"
  | .bool => .ty "bool"
  | .list => .ty "list"
  | .tuple => .ty "tuple"
  | .str => .ty "str"
  | .own c => .ref (T.cm c)
def Ty.u (T : Tab) : Ty → Value
  | .int => .type "int"
  | .bool => .type "bool"
  | .list => .type "list"
  | .tuple => .type "tuple"
  | .str => .type "str"
  | .own c => .ref (T.cm c)
theorem Ty.cls (T : Tab) (t : Ty) : ClsV (t.v T) (t.u T) := by cases t <;> constructor
def tyHas : Ty → D → Bool
  | .int, .int _ => true
  | .int, .bl _ => true
  | .bool, .bl _ => true
  | .list, .lst _ => true
  | .list, .kls _ => true
  | .tuple, .tup _ => true
  | .str, .str _ => true
  | .own c, .ins c' _ => c' == c
  | _, _ => false
def kindT (T : Tab) : D → Value
  | .non => .type "NoneType"
  | .bl _ => .type "bool"
  | .int _ => .type "int"
  | .str _ => .type "str"
  | .lst _ => .type "list"
  | .kls _ => .type "list"
  | .tup _ => .type "tuple"
  | .ins c _ => .ref (T.cm c)
  | .cls _ => .type "type"
structure IsC (K : PySem.W.Frag) (C : Addr) : Prop where
  cl : Cls K C
  ha : PySem.W.findIn K (.ref C) "__class__" = some (some (.builtin "object.__class__"))
  hn : PySem.W.specialIn K (.builtin "object.__class__") "__get__" = some (some (.builtin "getset_descriptor.__get__"))
  tk : PySem.W.takesIn K (.builtin "object.__class__") = some true
  ob : PySem.W.mroIn K C (.type "object") = some true
structure TyOk (K : PySem.W.Frag) (T : Tab) (cs : List Nat) : Prop where
  is : ∀ c ∈ cs, IsC K (T.cm c)
  bo : ∀ c ∈ cs, ∀ n ∈ ["NoneType", "bool", "int", "str", "list", "tuple"], PySem.W.kitOne K (.type n) (.ref (T.cm c)) = some false
  ob : ∀ c ∈ cs, ∀ n ∈ ["int", "bool", "list", "tuple", "str"], PySem.W.kitOne K (.ref (T.cm c)) (.type n) = some false
  oo : ∀ c ∈ cs, ∀ c' ∈ cs, PySem.W.kitOne K (.ref (T.cm c)) (.ref (T.cm c')) = some (c == c')
def okD (cs : List Nat) : D → Bool
  | .ins c _ => cs.contains c
  | .cls _ => false
  | _ => true
def okTy (cs : List Nat) : Ty → Bool
  | .own c => cs.contains c
  | _ => true
section
variable {K : PySem.W.Frag} {T : Tab} {cs : List Nat}
theorem kit_bb {a b : String} {r : Bool} (h : kitB a b = some r) : PySem.W.kitOne K (.type a) (.type b) = some r := kit_ty h
theorem kit_all (ok : TyOk K T cs) {d : D} {t : Ty} (hd : okD cs d = true) (ht : okTy cs t = true) : PySem.W.kitOne K (kindT T d) (t.u T) = some (tyHas t d) := by
  cases t with
  | own c =>
    have hc : c ∈ cs := by simpa [okTy] using ht
    cases d with
    | ins c' fs => exact ok.oo c' (by simpa [okD] using hd) c hc
    | cls c' => cases hd
    | _ => exact ok.bo c hc _ (by simp)
  | _ =>
    cases d with
    | ins c' fs => exact ok.ob c' (by simpa [okD] using hd) _ (by simp)
    | cls c' => cases hd
    | _ => first | exact kit_bb (r := false) (by decide +kernel) | exact kit_bb (r := true) (by decide +kernel)
theorem kit_any (ok : TyOk K T cs) {d : D} (hd : okD cs d = true) : ∀ {ts : List Ty}, ts.all (okTy cs) = true → PySem.W.kitAny K (kindT T d) (ts.map fun t => t.u T) = some (ts.any fun t => tyHas t d)
  | [], _ => rfl
  | t :: ts, h => by
    rw [List.all_cons, Bool.and_eq_true] at h
    refine kitAny_cons (kit_all ok hd h.1) (fun e => ?_) fun e => ?_
    · rw [List.any_cons, e, Bool.false_or]; exact kit_any ok hd h.2
    · rw [List.any_cons, e, Bool.true_or]
theorem type_of {H : Hp} {S : Addr → Prop} {d : D} {v : V} (ok : TyOk K T cs) (hd : okD cs d = true) (r : Rep K T H S d v) : TyX K H v (kindT T d) := by
  cases d with
  | cls c => cases hd
  | non => rw [rep_non r]; exact .base .non
  | bl b => rw [rep_bl r]; exact .base (.bl b)
  | int b => rw [rep_int r]; exact .base (.int b)
  | str b => rw [rep_str r]; exact .base (.str b)
  | lst xs =>
    simp only [Rep] at r
    obtain ⟨a, vs, rfl, h, _⟩ := r
    exact .base (.lst h)
  | kls xs =>
    simp only [Rep] at r
    obtain ⟨a, vs, rfl, h, _⟩ := r
    rcases h with ⟨o, h⟩ | ⟨o, its, n, h1, h2, _⟩
    · exact .base (.frz h)
    · exact .kList h1 h2
  | tup xs =>
    simp only [Rep] at r
    obtain ⟨a, vs, rfl, h, _⟩ := r
    rcases h with (h | ⟨o, h⟩) | ⟨o, its, n, h1, h2, _⟩
    · exact .base (.tup h)
    · exact .fTuple h
    · exact .kTuple h1 h2
  | ins c fs =>
    simp only [Rep] at r
    obtain ⟨a, dx, vs, rfl, h, _⟩ := r
    have q := ok.is c (by simpa [okD] using hd)
    exact .base (.ins h q.cl q.ha q.hn q.tk q.ob)
end
def gIsi (cs : List Nat) (ts : List Ty) (d : D) : Option D := if okD cs d = true then some (.bl (ts.any fun t => tyHas t d)) else none
section
variable {X : Cx} {C : Cz} {Γ Γ' Γ1 Γ2 : List Nat} {k kr lv i : Nat} {x mn : Str} {p pos apos tpos : Pos} {a b e o te : Expr} {es : List Expr} {fa fb : Env → R (D × Env)} {fs : Env → R (List D × Env)} {cs : List Nat} {ts : List Ty} {t : Ty}
/-- the classes' expressions -/
structure PTy (X : Cx) (T : Tab) (es : List Expr) (ts : List Ty) : Prop where
  pa : ∃ q, PA X es q ∧ ∀ σ H (Q : List V → Hp → Prop), Q (ts.map fun t => t.v T) H → q σ H Q
theorem pty_nil {T : Tab} : PTy X T [] [] := ⟨_, pa_nil, fun σ H Q h => h⟩
theorem pty_cons {T : Tab} (h : PE X e (tC (t.v T))) (r : PTy X T es ts) (hs : starEach (e :: es) X.env = (false, eval e X.env) :: starEach es X.env := by rfl) : PTy X T (e :: es) (t :: ts) := by
  obtain ⟨q, pa, hq⟩ := r
  exact ⟨_, pa_cons h pa hs, fun σ H Q h => hq σ H _ h⟩
theorem pty_own {c : Nat} {T : Tab} (hg : Gl X x) (hm : X.mg x = some (.ref (T.cm c))) (hd : (x == ("__debug__" : Str)) = false := by decide) : PE X (.Name x pos) (tC ((Ty.own c).v T)) := pe_glob hg hm rfl hd
theorem pty_bt {T : Tab} {u : Value} (hg : Gl X x) (hm : X.mg x = none) (hv : bootBuiltins x = some u) (hu : t.u T = u) (ho : ∀ c, t ≠ .own c) (hn : x ≠ "__name__" := by decide) (hd : (x == ("__debug__" : Str)) = false := by decide) : PE X (.Name x pos) (tC (t.v T)) :=
  pe_bltn hg hm hv (by cases t <;> first | exact hu.symm | exact absurd rfl (ho _)) hn hd
theorem p_isi1 (ok : TyOk X.K C.T cs) (ht : okTy cs t = true) : Prim1 X.K C.T 0 (fun v H Q => rIsi X.K [v, t.v C.T] H Q) (gIsi cs [t]) := fun S H x v d r e => by
  unfold gIsi at e
  split at e
  · rename_i hd
    cases e
    refine gives_val (v := .bl (tyHas t x || false)) (by simp [Rep]) fun Q q => ⟨v, t.v C.T, kindT C.T x, t.u C.T, tyHas t x, rfl, t.cls C.T, type_of ok hd r, kit_all ok hd ht, by simpa using q⟩
  · cases e
/-- isinstance(e, C) -/
theorem de_isi (ok : TyOk X.K C.T cs) (ht : okTy cs t = true) (hte : PE X te (tC (t.v C.T))) (hg : Gl X "isinstance") (hm : X.mg "isinstance" = none) (ha : DE X C Γ e Γ1 0 fa) (he : starEach (e :: [te]) X.env = (false, eval e X.env) :: starEach [te] X.env := by rfl) (he2 : starEach (te :: []) X.env = (false, eval te X.env) :: starEach [] X.env := by rfl)
    (hpl : (backTo pos (starEach [te] X.env)).any (·.1) = false := by rfl) : DE X C Γ (.Call (.Name "isinstance" p) [e, te] [] pos) Γ1 0 (mUn (gIsi cs [t]) fa) :=
  pe_imp (pe_callB call_isi hg hm PyProof.Rows.boot_isinstance (pa_cons ha (pa_cons hte pa_nil he2) he) (by decide) (by decide) he hpl) fun σ H Q h => un_data (r := fun v H1 Q => rIsi X.K [v, t.v C.T] H1 Q) (p_isi1 ok ht) h
theorem paired_ty {T : Tab} : ∀ {ts : List Ty}, Paired ClsV (ts.map fun t => t.v T) (ts.map fun t => t.u T)
  | [] => .nil
  | t :: ts => .cons (t.cls T) paired_ty
/-- isinstance(e, (C1, C2, ..)) -/
theorem de_isiT {n : Nat} (ok : TyOk X.K C.T cs) (ht : ts.all (okTy cs) = true) (hl : ts.length ≤ 100) (hte : PTy X C.T es ts) (hg : Gl X "isinstance") (hm : X.mg "isinstance" = none) (ha : DE X C Γ e Γ1 0 fa) (he : starEach (e :: [.Tuple es n tpos]) X.env = (false, eval e X.env) :: starEach [.Tuple es n tpos] X.env := by rfl)
    (he2 : starEach (.Tuple es n tpos :: []) X.env = (false, eval (.Tuple es n tpos) X.env) :: starEach [] X.env := by rfl) (hpl : (backTo pos (starEach [.Tuple es n tpos] X.env)).any (·.1) = false := by rfl) : DE X C Γ (.Call (.Name "isinstance" p) [e, .Tuple es n tpos] [] pos) Γ1 0 (mUn (gIsi cs ts) fa) := by
  obtain ⟨q, pa, hq⟩ := hte.pa
  refine pe_imp (pe_callB call_isiT hg hm PyProof.Rows.boot_isinstance (pa_cons ha (pa_cons (pe_tup pa) pa_nil he2) he) (by decide) (by decide) he hpl) fun σ H Q h => ?_
  obtain ⟨S, ρ, fp, s, h⟩ := h
  refine ⟨S, ρ, fp, s, OutE.then0 h fun d ρ1 v H1 S1 fp1 e1 s1 r1 f1 h1 => hq σ H1 _ ?_⟩
  dsimp only at h1
  cases q2 : gIsi cs ts d with
  | none => rw [q2] at h1; exact h1.elim
  | some b =>
    rw [q2] at h1
    unfold gIsi at q2
    split at q2
    · rename_i hd
      cases q2
      refine ⟨line_of (by rw [List.length_map]; omega), fun tp hp => ?_⟩
      have kk := kept_upd (u := .tup (ts.map fun t => t.v C.T)) hp
      have s2 := s1.grow kk
      refine ⟨v, tp, _, kindT C.T d, _, _, rfl, upd_same, paired_ty, type_of ok hd ((Stay.grow kk).rep r1), kit_any ok hd ht, ?_⟩
      exact h1 _ _ S1 fp1 [] s2 (.of (by simp [Rep])) ⟨fun b o h _ => kk b o h, fun _ z => z, fun _ z => .inl z, fun b z => z.elim .inl fun z => nomatch z⟩
    · cases q2

/-! ### slices -/
abbrev DO (X : Cx) (Z : Cz) (Γ : List Nat) (e : Option Expr) (Γ' : List Nat) (f : Env → R (Option Int × Env)) : Prop :=
  PO X e (fun σ H Q => ∃ S ρ fp, Stt X.K Z.T Γ S σ H ρ fp ∧ match f ρ with
    | .ok (j, ρ') => ∀ H' S' fp', Stt X.K Z.T Γ' S' σ H' ρ' fp' → Fra H S (Ow fp) H' S' (Ow fp') → Q j H'
    | .er c fs => OutX X.K Z.T Z.W σ H S (Ow fp) c fs
    | .bad => False)
def mNoP : Env → R (Option Int × Env) := fun ρ => .ok (none, ρ)
def mPart (fa : Env → R (D × Env)) : Env → R (Option Int × Env) := fun ρ => (fa ρ).bind fun (d, ρ1) => match d with
  | .int j => .ok (some j, ρ1)
  | _ => .bad
theorem po_imp {e : Option Expr} {t t' : TO} (h : PO X e t) (i : ∀ σ H Q, t' σ H Q → t σ H Q) : PO X e t' := ⟨fun pins s σ H Q I q => h.run pins s σ H Q I (i σ H Q q)⟩
theorem do_none : DO X C Γ none Γ mNoP := po_imp po_none fun σ H Q h => by
  obtain ⟨S, ρ, fp, s, h⟩ := h
  exact h H S fp s Fra.refl
theorem do_some (ha : DE X C Γ e Γ1 0 fa) : DO X C Γ (some e) Γ1 (mPart fa) := po_imp (po_some ha) fun σ H Q h => by
  obtain ⟨S, ρ, fp, s, h⟩ := h
  refine ⟨S, ρ, fp, s, ?_⟩
  unfold mPart at h
  cases q : fa ρ with
  | ok ar =>
    obtain ⟨d, ρ1⟩ := ar
    rw [q] at h
    intro v H1 S1 fp1 Fv s1 x1 f1
    obtain ⟨ef, r1⟩ := x1.rep
    subst ef
    cases d with
    | int j => exact ⟨j, rep_int r1, h H1 S1 fp1 s1 f1.ow⟩
    | _ => exact h.elim
  | er c fs => rw [q] at h; exact h
  | bad => rw [q] at h; exact h.elim
/-- the cut of a list -/
def cutD (xs : List D) (lo hi : Option Int) : List D := (xs.drop (HT.sIx xs.length 0 lo)).take (HT.sIx xs.length xs.length hi - HT.sIx xs.length 0 lo)
def gSl (x : D) (lo hi : Option Int) : Option D := match x with
  | .lst xs => some (.lst (cutD xs lo hi))
  | .kls xs => some (.lst (cutD xs lo hi))
  | .tup xs => if HT.sIx xs.length 0 lo = 0 ∧ HT.sIx xs.length xs.length hi = xs.length then none else some (.tup (cutD xs lo hi))
  | _ => none
theorem reps_cut {K : PySem.W.Frag} {T : Tab} {S : Addr → Prop} {H : Hp} {xs : List D} {vs : List V} {lo hi : Option Int} (r : Reps K T H S xs vs) : Reps K T H S (cutD xs lo hi) (cutV vs lo hi) := by
  unfold cutD cutV
  rw [r.length]
  exact (r.drop _).take _
def rSl (K : PySem.W.Frag) : V → Option Int → Option Int → Hp → VK → Prop := fun x lo hi H Q => rSlL K x lo hi H Q ∨ rSlT K x lo hi H Q
theorem o_sl : SlR X (rSl X.K) := SlR.or sl_list sl_tup
theorem p_sl {K : PySem.W.Frag} {T : Tab} {S : Addr → Prop} {H : Hp} {x d : D} {v : V} {lo hi : Option Int} (hk : k ≤ 1) (pe : Pe K T H S x v) (e : gSl x lo hi = some d) : Gives K T S H k d (rSl K v lo hi H) := by
  have lst : ∀ xs, seqD x = some (true, xs) → Gives K T S H k (.lst (cutD xs lo hi)) (rSl K v lo hi H) := fun xs e1 => by
    obtain ⟨a, vs, ev, hl, ht, r⟩ := pe.sq true xs e1
    exact .inr (.inl ⟨_, _, rfl, hk, reps_cut r, fun Q q => .inl ⟨a, vs, ev, hl rfl, q⟩⟩)
  cases x with
  | lst xs => cases e; exact lst xs rfl
  | kls xs => cases e; exact lst xs rfl
  | tup xs =>
    simp only [gSl] at e
    split at e
    · cases e
    · rename_i hn
      cases e
      obtain ⟨a, vs, ev, hl, ht, r⟩ := pe.sq false xs rfl
      rw [r.length] at hn
      exact .inr (.inr ⟨_, _, rfl, hk, reps_cut r, fun Q q => .inr ⟨a, vs, ev, ht rfl, hn, q⟩⟩)
  | _ => cases e
def mSl (fa : Env → R (D × Env)) (fl fu : Env → R (Option Int × Env)) : Env → R (D × Env) := fun ρ => (fa ρ).bind fun (x, ρ1) => (fl ρ1).bind fun (l, ρ2) => (fu ρ2).bind fun (u, ρ3) => (ofO (gSl x l u)).bind fun d => .ok (d, ρ3)
/-- e[lo:hi] -/
theorem de_sl {lo hi : Option Expr} {fl fu : Env → R (Option Int × Env)} {Γ3 : List Nat} {p2 : Pos} (ha : DE X C Γ e Γ1 0 fa) (hl : DO X C Γ1 lo Γ2 fl) (hu : DO X C Γ2 hi Γ3 fu) (hk : k ≤ 1 := by decide) : DE X C Γ (.Subscript e (.Slice lo hi none p2) pos) Γ3 k (mSl fa fl fu) :=
  pe_imp (pe_slice o_sl ha hl hu) fun σ H Q h => by
  obtain ⟨S, ρ, fp, s, h⟩ := h
  refine ⟨S, ρ, fp, s, OutE.then0 h fun d ρ1 v H1 S1 fp1 e1 s1 r1 f1 h1 => ⟨S1, ρ1, fp1, s1, ?_⟩⟩
  dsimp only at h1
  cases ql : fl ρ1 with
  | er c fs => rw [ql] at h1; exact h1
  | bad => rw [ql] at h1; exact h1.elim
  | ok lr =>
    obtain ⟨l, ρ2⟩ := lr
    rw [ql] at h1
    intro H2 S2 fp2 s2 f2
    refine ⟨S2, ρ2, fp2, s2, ?_⟩
    simp only [R.bind_ok] at h1
    have h2 := OutE.before f2 h1
    cases qu : fu ρ2 with
    | er c fs => rw [qu] at h2; exact h2
    | bad => rw [qu] at h2; exact h2.elim
    | ok ur =>
      obtain ⟨u, ρ3⟩ := ur
      rw [qu] at h2
      intro H3 S3 fp3 s3 f3
      simp only [R.bind_ok] at h2
      have h3 := OutE.before f3 h2
      cases qd : gSl d l u with
      | none => rw [qd] at h3; exact h3.elim
      | some y =>
        rw [qd] at h3
        exact gives_out s3 (p_sl hk (.of (s2.rep_fra (s1.rep_fra r1 f2) f3)) qd) h3
/-- x[lo:hi], x a name that owns its list; lo and hi do not change it -/
def mSlN (i : Nat) (fl fu : Env → R (Option Int × Env)) : Env → R (D × Env) := fun ρ => match ρ[i]? with
  | some (some _) => (fl ρ).bind fun (l, ρ2) => (fu ρ2).bind fun (u, ρ3) => match ρ3[i]? with
    | some (some x) => (ofO (gSl x l u)).bind fun d => .ok (d, ρ3)
    | _ => .bad
  | _ => .bad
theorem de_slN {lo hi : Option Expr} {fl fu : Env → R (Option Int × Env)} {p2 : Pos} (hv : PE X (.Name x p) (tVar i)) (hl : DO X C Γ lo Γ1 fl) (hu : DO X C Γ1 hi Γ2 fu) (hk : k ≤ 1 := by decide) (hki : Γ2.getD i 0 ≤ 1 := by decide) : DE X C Γ (.Subscript (.Name x p) (.Slice lo hi none p2) pos) Γ2 k (mSlN i fl fu) :=
  pe_imp (pe_slice o_sl hv hl hu) fun σ H Q h => by
  obtain ⟨S, ρ, fp, s, h⟩ := h
  unfold mSlN at h
  split at h
  · rename_i d0 q0
    obtain ⟨v, hv0, _⟩ := s.sl i d0 q0
    refine ⟨v, hv0, S, ρ, fp, s, ?_⟩
    cases ql : fl ρ with
    | er c fs => rw [ql] at h; exact h
    | bad => rw [ql] at h; exact h.elim
    | ok lr =>
      obtain ⟨l, ρ2⟩ := lr
      rw [ql] at h
      intro H2 S2 fp2 s2 f2
      refine ⟨S2, ρ2, fp2, s2, ?_⟩
      simp only [R.bind_ok] at h
      have h2 := OutE.before f2 h
      cases qu : fu ρ2 with
      | er c fs => rw [qu] at h2; exact h2
      | bad => rw [qu] at h2; exact h2.elim
      | ok ur =>
        obtain ⟨u, ρ3⟩ := ur
        rw [qu] at h2
        intro H3 S3 fp3 s3 f3
        simp only [R.bind_ok] at h2
        have h3 := OutE.before f3 h2
        split at h3
        · rename_i d q3
          obtain ⟨v', hv3, o⟩ := s3.sl i d q3
          rw [hv0] at hv3; cases hv3
          cases qd : gSl d l u with
          | none => rw [qd] at h3; exact h3.elim
          | some y =>
            rw [qd] at h3
            exact gives_out s3 (p_sl hk (.own o hki) qd) h3
        · exact h3.elim
  · exact h.elim
/-- xs[::-1] -/
def gRev (x : D) : Option D := (seqD x).bind fun p => if p.1 = true then some (.lst p.2.reverse) else none
def rRevL (K : PySem.W.Frag) : V → Hp → VK → Prop := fun x H1 Q => ∃ a xs, x = .ref a ∧ SqL K H1 a xs ∧ ∀ p, H1 p = none → Q (.ref p) (upd H1 p (.lst xs.reverse))
theorem p_rev {K : PySem.W.Frag} {T : Tab} (hk : k ≤ 1 := by decide) : Prim1P K T k (rRevL K) gRev := fun S H x v d r e => by
  unfold gRev at e
  cases q : seqD x with
  | none => rw [q] at e; cases e
  | some p =>
    obtain ⟨b, xs⟩ := p
    rw [q] at e
    cases b with
    | false => cases e
    | true =>
      cases e
      obtain ⟨a, vs, ev, hl, ht, r⟩ := r.sq true xs q
      exact .inr (.inl ⟨_, _, rfl, hk, r.reverse, fun Q q => ⟨a, vs, ev, hl rfl, q⟩⟩)
theorem de_rev {n : Nat} {p1 p2 p3 : Pos} (ha : DE X C Γ e Γ1 0 fa) (hk : k ≤ 1 := by decide) : DE X C Γ (.Subscript e (.Slice none none (some (.UnaryOp .USub (.Constant (.int 1) n p1) p2)) p3) pos) Γ1 k (mUn gRev fa) :=
  pe_imp (pe_revL ha) fun σ H Q h => un_data (r := rRevL X.K) (p_rev hk).to h
theorem de_revN {n : Nat} {p1 p2 p3 : Pos} (hv : PE X (.Name x p) (tVar i)) (hi : Γ.getD i 0 ≤ 1 := by decide) (hk : k ≤ 1 := by decide) : DE X C Γ (.Subscript (.Name x p) (.Slice none none (some (.UnaryOp .USub (.Constant (.int 1) n p1) p2)) p3) pos) Γ k (mUnN i gRev) :=
  pe_imp (pe_revL hv) fun σ H Q h => unN_data (r := rRevL X.K) hi (p_rev hk) h

/-! ### methods that keep their receiver -/
def mMeth (c : Nat) (m : List D → R D) (fo : Env → R (D × Env)) (fs : Env → R (List D × Env)) : Env → R (D × Env) := fun ρ => (fo ρ).bind fun (x, ρ1) => match x with
  | .ins c' _ => if c' = c then (fs ρ1).bind fun (xs, ρ2) => (m (x :: xs)).bind fun d => .ok (d, ρ2) else .bad
  | _ => .bad
theorem lookup_out : ∀ {ns : List Str} {vs : List V} {f : Str}, f ∉ ns → (ns.zip vs).lookup f = none
  | [], _, _, _ => rfl
  | _ :: _, [], _, _ => rfl
  | n :: ns, v :: vs, f, h => by
    have e : (f == n) = false := by simpa using fun z => h (by rw [z]; exact List.mem_cons_self)
    simp only [List.zip_cons_cons, List.lookup_cons, e]
    exact lookup_out fun z => h (List.mem_cons_of_mem _ z)
section
variable {c : Nat} {f : Addr} {fd : FuncData} {ps : List Str} {ds : List Value} {dvs : List V} {xd : List D} {m : List D → R D} {E : XK} {pl : Sem Bool}
theorem meth_data {σ : St} {H : Hp} {Q : VK} (hW : C.W = fun cls d _ H => E cls d H) (hf : mn ∉ C.T.fl c) (hxd : ∀ S H, Reps X.K C.T H S xd dvs) (h : tE X.K C.T C.W Γ Γ2 kr (mMeth c (fun xs => m (xs ++ xd)) fa fs) σ H Q) :
    tMeth (C.T.cm c) mn (spF X.K C.T kr m) dvs E (tE X.K C.T C.W Γ Γ1 0 fa) (tA X.K C.T C.W Γ1 Γ2 fs) σ H Q := by
  obtain ⟨S, ρ, fp, s, h⟩ := h
  refine ⟨S, ρ, fp, s, OutE.then0 h fun d ρ1 v H1 S1 fp1 e1 s1 r1 f1 h1 => ?_⟩
  cases d with
  | ins c' fs' =>
    dsimp only at h1
    by_cases ec : c' = c
    · subst ec
      rw [if_pos rfl] at h1
      have r0 := r1
      simp only [Rep] at r0
      obtain ⟨a, dx, vs, rfl, h2, _⟩ := r0
      refine ⟨a, dx, _, rfl, h2, lookup_out hf, S1, ρ1, fp1, s1, OutA.thenE h1 fun xs ρ2 ws H2 S2 fp2 e2 s2 r2 f2 h3 => ?_⟩
      have rr : Reps X.K C.T H2 S2 (.ins c' fs' :: (xs ++ xd)) (.ref a :: (ws ++ dvs)) := by
        simp only [Reps]
        exact ⟨_, _, rfl, s1.rep_fra r1 f2, r2.append (hxd S2 H2)⟩
      have z := call_data (m := m) (C := C) s2 rr h3
      rw [hW] at z
      exact z
    · rw [if_neg ec] at h1; exact h1.elim
  | _ => exact h1.elim
/-- o.m(e, ..) -/
theorem de_meth (hW : C.W = fun cls d _ H => E cls d H) (hcl : Cls X.K (C.T.cm c)) (hm : Meth X.K (C.T.cm c) mn f) (hf : mn ∉ C.T.fl c) (F : FnOk X.prog X.w X.K X.mg X.base (L2.CX X.prog X.w) lv f fd ps (spF X.K C.T kr m)) (hr : Room lv X.A) (tk : Takes X C.W) (hb : Binds X.K fd ps ds) (hd : Vals dvs ds)
    (hxd : ∀ S H, Reps X.K C.T H S xd dvs) (ho : DE X C Γ o Γ1 0 fa) (ha : DA X C Γ1 (e :: es) Γ2 fs) (hst : starEach (e :: es) X.env = (false, eval e X.env) :: starEach es X.env := by rfl) (hpl : (backTo pos (starEach es X.env)).any (·.1) = false := by rfl)
    (ht : eval (.Call (.Attribute o mn apos) (e :: es) [] pos) X.env = (do
      let ov ← eval o X.env
      standAt apos.atName
      let (g, first) ← holding [ov] (getMethod ov mn pl)
      callWith pos g first (backTo pos (starEach (e :: es) X.env)) (backToKw pos (keywordEach [] X.env))) := by rfl) :
    DE X C Γ (.Call (.Attribute o mn apos) (e :: es) [] pos) Γ2 kr (mMeth c (fun xs => m (xs ++ xd)) fa fs) :=
  pe_imp (pe_meth (pl := pl) (E := E) ho hcl hm F hr hb hd (passes_call tk fun cls d σ H z => by rw [hW]; exact z) ha hst hpl ht) fun σ H Q h => meth_data hW hf hxd h
/-- o.m() -/
theorem de_meth0 (hW : C.W = fun cls d _ H => E cls d H) (hcl : Cls X.K (C.T.cm c)) (hm : Meth X.K (C.T.cm c) mn f) (hf : mn ∉ C.T.fl c) (F : FnOk X.prog X.w X.K X.mg X.base (L2.CX X.prog X.w) lv f fd ps (spF X.K C.T kr m)) (hr : Room lv X.A) (tk : Takes X C.W) (hb : Binds X.K fd ps ds) (hd : Vals dvs ds)
    (hxd : ∀ S H, Reps X.K C.T H S xd dvs) (ho : DE X C Γ o Γ1 0 fa) 
    (ht : eval (.Call (.Attribute o mn apos) [] [] pos) X.env = (do
      let ov ← eval o X.env
      standAt apos.atName
      let (g, first) ← holding [ov] (getMethod ov mn pl)
      callWith pos g first (backTo pos (starEach [] X.env)) (backToKw pos (keywordEach [] X.env))) := by rfl) :
    DE X C Γ (.Call (.Attribute o mn apos) [] [] pos) Γ1 kr (mMeth c (fun xs => m (xs ++ xd)) fa mNil) :=
  pe_imp (pe_meth0 (pl := pl) (E := E) ho hcl hm F hr hb hd (passes_call tk fun cls d σ H z => by rw [hW]; exact z) ht) fun σ H Q h => by
    have z := meth_data (Γ1 := Γ1) hW hf hxd h
    obtain ⟨S, ρ, fp, s, z⟩ := z
    refine ⟨S, ρ, fp, s, ?_⟩
    revert z
    generalize fa ρ = r
    intro z
    match r, z with
    | .ok (d, ρ'), z =>
      intro v H' S' fp' Fv s' x' f'
      obtain ⟨a, dx, gs, ev, hh, hl, z⟩ := z v H' S' fp' Fv s' x' f'
      obtain ⟨S2, ρ2, fp2, s2, z⟩ := z
      exact ⟨a, dx, gs, ev, hh, hl, z [] H' S2 fp2 s2 (by simp [Reps]) Fra.refl⟩
    | .er c fs, z => exact z
    | .bad, z => exact z
end

/-! ### reversed, ranges with a step -/
theorem it_revL {K : PySem.W.Frag} {T : Tab} {S : Addr → Prop} {H : Hp} {ds : List D} {a : Addr} {vs : List V} (r : Reps K T H S ds vs) (st : ∀ H' S', Stay K H S H' S' → SqL K H' a vs) : ItOk K T S H (Itv K a vs.length) ds.reverse := by
  have hl := r.length
  refine ⟨fun S' H' s i hi => ?_, fun S' H' s i d hd => ?_, fun S' H' s i d hd x H2 hy => ?_⟩
  · rw [List.length_reverse, hl] at hi; exact hi
  · have hi : i < ds.length := by have := (List.getElem?_eq_some_iff.mp hd).1; simpa using this
    rw [List.getElem?_reverse hi, hl] at hd
    obtain ⟨v, hv, _⟩ := r.get hd
    exact ⟨by omega, vs, v, st H' S' s, hv⟩
  · have hi : i < ds.length := by have := (List.getElem?_eq_some_iff.mp hd).1; simpa using this
    rw [List.getElem?_reverse hi, hl] at hd
    obtain ⟨v, hv, rv⟩ := r.get hd
    obtain ⟨rfl, hu⟩ := hy
    have q := hu vs (st H2 S' s)
    rw [hv] at q; cases q
    exact ⟨fun _ _ h => h, s.rep rv⟩
theorem it_revT {K : PySem.W.Frag} {T : Tab} {S : Addr → Prop} {H : Hp} {ds : List D} {a : Addr} {vs : List V} (r : Reps K T H S ds vs) (st : ∀ H' S', Stay K H S H' S' → SqT K H' a vs) : ItOk K T S H (RT.ItvT K a vs.length) ds.reverse := by
  have hl := r.length
  refine ⟨fun S' H' s i hi => ?_, fun S' H' s i d hd => ?_, fun S' H' s i d hd x H2 hy => ?_⟩
  · rw [List.length_reverse, hl] at hi; exact hi
  · have hi : i < ds.length := by have := (List.getElem?_eq_some_iff.mp hd).1; simpa using this
    rw [List.getElem?_reverse hi, hl] at hd
    obtain ⟨v, hv, _⟩ := r.get hd
    exact ⟨by omega, vs, v, st H' S' s, hv⟩
  · have hi : i < ds.length := by have := (List.getElem?_eq_some_iff.mp hd).1; simpa using this
    rw [List.getElem?_reverse hi, hl] at hd
    obtain ⟨v, hv, rv⟩ := r.get hd
    obtain ⟨rfl, hu⟩ := hy
    have q := hu vs (st H2 S' s)
    rw [hv] at q; cases q
    exact ⟨fun _ _ h => h, s.rep rv⟩
theorem di_revd {tg : Expr} (hg : Gl X "reversed") (hm : X.mg "reversed" = none) (ha : DE X C Γ e Γ1 0 fa) (hs : starEach [e] X.env = (false, eval e X.env) :: starEach [] X.env := by rfl) : DI X C tg Γ (.Call (.Name "reversed" p) [e] [] pos) Γ1 (mSeqD List.reverse fa) :=
  pi_imp (RT.pi_revA hg hm ha hs) fun σ H Q h => by
  obtain ⟨S, ρ, fp, s, h⟩ := h
  refine ⟨S, ρ, fp, s, OutE.thenI h fun d ρ1 v H1 S1 fp1 e1 s1 r1 f1 h1 => ?_⟩
  dsimp only at h1
  cases q : seqD d with
  | none => rw [q] at h1; exact h1.elim
  | some bx =>
    obtain ⟨b, xs⟩ := bx
    rw [q] at h1
    obtain ⟨a, vs, rfl, r, hl, ht⟩ := seq_stay r1 q
    refine ⟨a, vs, rfl, ?_⟩
    cases b with
    | true => exact .inl ⟨hl rfl H1 S1 Stay.refl, h1 _ H1 S1 fp1 s1 (it_revL r (hl rfl)) f1⟩
    | false => exact .inr ⟨ht rfl H1 S1 Stay.refl, h1 _ H1 S1 fp1 s1 (it_revT r (ht rfl)) f1⟩
/-- a shared list or tuple -/
theorem di_seq {tg : Expr} (hl : DI X C tg Γ e Γ1 (mItL fa)) : DI X C tg Γ e Γ1 (mItL fa) := hl
def intsDown (lo : Int) (n : Nat) : List D := (List.range n).map fun (i : Nat) => .int (lo - (i : Int))
theorem it_down {K : PySem.W.Frag} {T : Tab} {S : Addr → Prop} {H : Hp} {lo : Int} {n : Nat} : ItOk K T S H (Itc lo (-1) n) (intsDown lo n) := by
  have len : (intsDown lo n).length = n := by simp [intsDown]
  have get : ∀ {i : Nat} {d : D}, (intsDown lo n)[i]? = some d → i < n ∧ d = .int (lo - (i : Int)) := fun {i d} h => by
    have hi : i < n := by have := (List.getElem?_eq_some_iff.mp h).1; rw [len] at this; exact this
    unfold intsDown at h
    rw [List.getElem?_map, List.getElem?_range hi] at h
    cases h
    exact ⟨hi, rfl⟩
  refine ⟨fun S' H' st i hi => by rw [len] at hi; exact hi, fun S' H' st i d hd => (get hd).1, fun S' H' st i d hd x H2 hy => ?_⟩
  obtain ⟨rfl, rfl⟩ := hy
  rw [(get hd).2]
  refine ⟨fun _ _ h => h, ?_⟩
  simp only [Rep]
  congr 1; omega
def asI3 : List D → Option (Int × Int × Int)
  | [.int i, .int j, .int k] => some (i, j, k)
  | _ => none
theorem asI3_of {ds : List D} {q : Int × Int × Int} (h : asI3 ds = some q) : ds = [.int q.1, .int q.2.1, .int q.2.2] := by
  unfold asI3 at h
  split at h
  · cases h; rfl
  · cases h
/-- range(i, j, -1) -/
def mItR3 (fs : Env → R (List D × Env)) : Env → R (List D × Env) := fun ρ => (fs ρ).bind fun (ds, ρ1) => match asI3 ds with
  | some (i, j, k) => if (inLine i && inLine j && decide (k = -1)) = true then .ok (intsDown i (i - j).toNat, ρ1) else .bad
  | none => .bad
theorem di_range3 {tg c : Expr} (hg : Gl X "range") (hm : X.mg "range" = none) (ha : DA X C Γ [a, b, c] Γ1 fs) (hs : starEach [a, b, c] X.env = (false, eval a X.env) :: starEach [b, c] X.env := by rfl) (hpl : (backTo pos (starEach [b, c] X.env)).any (·.1) = false := by rfl) :
    DI X C tg Γ (.Call (.Name "range" p) [a, b, c] [] pos) Γ1 (mItR3 fs) := pi_imp (pi_range3 hg hm ha hs hpl) fun σ H Q h => by
  obtain ⟨S, ρ, fp, s, h⟩ := h
  refine ⟨S, ρ, fp, s, OutA.thenI h fun ds ρ1 vs H1 S1 fp1 e1 s1 r1 f1 h1 => ?_⟩
  dsimp only at h1
  cases q : asI3 ds with
  | none => rw [q] at h1; exact h1.elim
  | some j =>
    obtain ⟨i, j, k⟩ := j
    rw [q] at h1
    rw [asI3_of q] at r1
    simp only [Reps, Rep] at r1
    obtain ⟨_, _, rfl, rfl, _, _, rfl, rfl, _, _, rfl, rfl, rfl⟩ := r1
    by_cases hl : (inLine i && inLine j && decide (k = -1)) = true
    · simp only [if_pos hl] at h1
      rw [Bool.and_eq_true, Bool.and_eq_true] at hl
      obtain ⟨⟨hi, hj⟩, hk⟩ := hl
      have ek : k = -1 := of_decide_eq_true hk
      subst ek
      obtain ⟨i1, i2⟩ := inLine_of hi
      obtain ⟨j1, j2⟩ := inLine_of hj
      exact ⟨i, j, -1, _, rfl, RgC.neg i1 i2 j1 j2, h1 _ H1 S1 fp1 s1 it_down f1⟩
    · simp only [if_neg hl] at h1; exact h1.elim
end
end Z
set_option Elab.async false
set_option linter.all false
set_option maxRecDepth 100000
/-! Y3: short words for printed terms; the law's end -/
namespace Z
open PySem PySem.Spec L2
open PyProof.Rows hiding St

/-- a def of the module: its name's value, its binding -/
structure Gf (K : PySem.W.Frag) (mg : Str → Option Value) (x : Str) (f : Addr) (fd : FuncData) (ps : List Str) : Prop where
  mg : mg x = some (.ref f)
  kp : PySem.W.keepIn K (.ref f) = true
  bi : Binds K fd ps []
section
variable {X : Cx} {C : Cz} {P : List Nat} {J : Js} {Γ Γ' Γ1 Γ2 : List Nat} {k kr k1 lv i : Nat} {x y mn : Str} {pos p p2 apos : Pos} {a b e o : Expr} {es : List Expr} {kws : List Keyword} {fa fb : Env → R (D × Env)} {fs fk : Env → R (List D × Env)} {m : List D → R D} {mB : List D → R (D × D)}
  {f cl : Addr} {fd : FuncData} {ps ks : List Str} {E : XK} {ft : Env → R (Bool × Env)} {fst' : Env → R (Fl × Env)} {sts : List Stmt}
theorem de_fn (G : Gf X.K X.mg x f fd ps) (F : FnOk X.prog X.w X.K X.mg X.base (L2.CX X.prog X.w) lv f fd ps (spF X.K C.T kr m)) (hr : Room lv X.A) (tk : Takes X C.W) (hg : Gl X x) (ha : DA X C Γ (e :: es) Γ1 fs) (hdb : (x == ("__debug__" : Str)) = false := by decide)
    (he : starEach (e :: es) X.env = (false, eval e X.env) :: starEach es X.env := by rfl) (hpl : (backTo pos (starEach es X.env)).any (·.1) = false := by rfl) : DE X C Γ (.Call (.Name x p) (e :: es) [] pos) Γ1 kr (mCall m fs) := by
  have z := de_call (xd := []) (dvs := []) (ds := []) (p := p) (pos := pos) F hr tk hg G.mg G.kp G.bi .nil (fun S H => by simp [Reps]) ha hdb he hpl
  simpa using z
theorem de_fnB (G : Gf X.K X.mg x f fd ps) (F : FnOk X.prog X.w X.K X.mg X.base (L2.CX X.prog X.w) lv f fd ps (spB X.K C.T k1 kr mB)) (hr : Room lv X.A) (tk : Takes X C.W) (hg : Gl X x) (hy : PE X (.Name y p2) (tVar i)) (ha : DA X C Γ es Γ1 fs) (hΓ : Γ1.getD i 0 = k1 := by rfl) (hi : i < Γ1.length := by decide)
    (hdb : (x == ("__debug__" : Str)) = false := by decide) (he : starEach (.Name y p2 :: es) X.env = (false, eval (.Name y p2) X.env) :: starEach es X.env := by rfl) (hpl : (backTo pos (starEach es X.env)).any (·.1) = false := by rfl) :
    DE X C Γ (.Call (.Name x p) (.Name y p2 :: es) [] pos) Γ1 kr (mCallB i mB fs) := de_callBr F hr tk hg G.mg G.kp G.bi hy ha hΓ hi hdb he hpl
/-- f(k = v, ..) -/
theorem de_fnK {ix : List Nat} {n : Nat} (hW : C.W = fun cls d _ H => E cls d H) (G : Gf X.K X.mg x f fd ps) (hb : KBn X.K fd ps 0 ks (fun us ws => us ++ permL ix ws) (fun us ws => us ++ permL ix ws)) (F : FnOk X.prog X.w X.K X.mg X.base (L2.CX X.prog X.w) lv f fd ps (spF X.K C.T kr m)) (hr : Room lv X.A) (tk : Takes X C.W) (hg : Gl X x) (hkw : DK X C Γ kws Γ1 fk)
    (hall : (backToKw pos (keywordEach kws X.env)).all (·.1.isSome) = true := by rfl) (hks : (backToKw pos (keywordEach kws X.env)).filterMap (·.1) = ks := by rfl) (hn : ks.length = n := by rfl) (hdb : (x == ("__debug__" : Str)) = false := by decide)
    (hpl : ((backTo pos (starEach [] X.env)).any (·.1) || (backToKw pos (keywordEach kws X.env)).any (·.1.isNone)) = false := by rfl) : DE X C Γ (.Call (.Name x p) [] kws pos) Γ1 kr (mCallK m n ix fk) := by
  subst hn
  exact de_callK hW F hr tk hg G.mg G.kp hb hkw hall hks hdb hpl
/-- a class that is made: C(..) -/
structure Gc (K : PySem.W.Frag) (mg : Str → Option Value) (x : Str) (C f : Addr) : Prop where
  mg : mg x = some (.ref C)
  mkk : Mk K C f
/-- what is bound where arguments lack -/
structure Gd (K : PySem.W.Frag) (fd : FuncData) (ps : List Str) (dvs : List V) : Prop where
  bi : ∃ ds, Vals dvs ds ∧ Binds K fd ps ds
theorem Gd.all {K : PySem.W.Frag} (b : Binds K fd ps []) : Gd K fd ps [] := ⟨[], .nil, b⟩
theorem de_new {c : Nat} {xd : List D} {dvs : List V} (hW : C.W = fun cls d _ H => E cls d H) (M : Gc X.K X.mg x (C.T.cm c) f) (hb : Gd X.K fd ps dvs) (F : FnOk X.prog X.w X.K X.mg X.base (L2.CX X.prog X.w) lv f fd ps (spB X.K C.T 1 0 mB)) (hr : Room (lv + 1) X.A) (tk : Takes X C.W) (hg : Gl X x)
    (hxd : ∀ S H, Reps X.K C.T H S xd dvs) (ha : DA X C Γ (e :: es) Γ1 fs) (hdb : (x == ("__debug__" : Str)) = false := by decide) (he : starEach (e :: es) X.env = (false, eval e X.env) :: starEach es X.env := by rfl) (hpl : (backTo pos (starEach es X.env)).any (·.1) = false := by rfl) :
    DE X C Γ (.Call (.Name x p) (e :: es) [] pos) Γ1 1 (mMake c (fun xs => mB (xs ++ xd)) fs) := by
  obtain ⟨ds, hd, hb⟩ := hb.bi
  exact de_make hW M.mkk F hr tk hg M.mg hb hd hxd ha hdb he hpl
theorem de_newK {c : Nat} {ix : List Nat} {n : Nat} (hW : C.W = fun cls d _ H => E cls d H) (M : Gc X.K X.mg x (C.T.cm c) f) (hb : KBn X.K fd ps 1 ks (fun us ws => us ++ permL ix ws) (fun us ws => us ++ permL ix ws)) (F : FnOk X.prog X.w X.K X.mg X.base (L2.CX X.prog X.w) lv f fd ps (spB X.K C.T 1 0 mB)) (hr : Room (lv + 1) X.A) (tk : Takes X C.W)
    (hg : Gl X x) (hkw : DK X C Γ kws Γ1 fk) (hall : (backToKw pos (keywordEach kws X.env)).all (·.1.isSome) = true := by rfl) (hks : (backToKw pos (keywordEach kws X.env)).filterMap (·.1) = ks := by rfl) (hn : ks.length = n := by rfl) (hdb : (x == ("__debug__" : Str)) = false := by decide)
    (hpl : ((backTo pos (starEach [] X.env)).any (·.1) || (backToKw pos (keywordEach kws X.env)).any (·.1.isNone)) = false := by rfl) : DE X C Γ (.Call (.Name x p) [] kws pos) Γ1 1 (mMakeK c mB n ix fk) := by
  subst hn
  exact de_makeK hW M.mkk F hr tk hg M.mg hb hkw hall hks hdb hpl
theorem reps_nil {K : PySem.W.Frag} {T : Tab} : ∀ S H, Reps K T H S [] [] := fun S H => by simp [Reps]
theorem reps_one {K : PySem.W.Frag} {T : Tab} {n : Int} : ∀ S H, Reps K T H S [.int n] [.int n] := fun S H => by simp [Reps, Rep]
/-- ahead of a block i's objects become shared -/
theorem dss_frz (i : Nat) {Γ0 : List Nat} (h : DSs X C P J Γ0 sts fst') (e : Γ0 = Γ.set i 0 := by rfl) : DSs X C P J Γ sts fst' := pss_imp h fun E σ H h => by
  obtain ⟨S, ρ, fp, s, h⟩ := h
  exact ⟨_, ρ, _, by rw [e]; exact s.give i, OutS.before Kp.refl (Fra.give s.sep i) h⟩
/-- try .. where nothing is raised -/
def mTry (f : Env → R (Fl × Env)) : Env → R (Fl × Env) := fun ρ => noEr (f ρ)
theorem ds_try {h0 : ExceptHandler} {hs : List ExceptHandler} (hb : DSs X.nox C.in P J Γ sts fst') : DS X C P J Γ (.Try sts (h0 :: hs) [] [] pos) (mTry fst') := ps_imp (ps_try_thru0 hb) fun E σ H h => by
  obtain ⟨S, ρ, fp, s, h⟩ := h
  refine ⟨S, ρ, fp, s, ?_⟩
  unfold mTry at h
  revert h
  generalize fst' ρ = r
  intro h
  match r, h with
  | .ok (.nx, ρ'), h => exact h
  | .ok (.bk, ρ'), h => exact h
  | .ok (.ct, ρ'), h => exact h
  | .ok (.rt d, ρ'), h => exact h
  | .er c fs, h => exact h.elim
  | .bad, h => exact h.elim
end
/-- at a return what i owns is shared -/
theorem ds_wkR {X : Cx} {C : Cz} {P : List Nat} {J : Js} {Γ : List Nat} {st : Stmt} {f : Env → R (Fl × Env)} (i : Nat) (Γn : List Nat) (h : DS X C P { J with rt := Γn } Γ st f) (e : J.rt = Γn.set i 0 := by rfl) : DS X C P J Γ st f := ps_imp h fun E σ H h => by
  obtain ⟨S, ρ, fp, s, h⟩ := h
  refine ⟨S, ρ, fp, s, ?_⟩
  revert h
  generalize f ρ = r
  intro h
  match r, h with
  | .ok (.nx, ρ'), h => exact h
  | .ok (.bk, ρ'), h => exact h
  | .ok (.ct, ρ'), h => exact h
  | .ok (.rt d, ρ'), h =>
    intro v σ' H' S' fp' Fv s' x' k f'
    refine h v σ' H' (fun a => S' a ∨ a ∈ fp' i) (fpSet fp' i []) Fv (by rw [e]; exact s'.give i) ⟨x'.own.stay (Stay.more fun a h => .inl h) fun a _ o h => h, x'.nd, fun a m z => z.elim (x'.ns a m) (x'.dj a m i), fun a m j z => ?_⟩ k ⟨f'.kp, fun b z => .inl (f'.sm b z), fun b z => z.elim (f'.so b) fun z => .inr (f'.oo b (.inl ⟨i, z⟩)), fun b z => ?_⟩
    · rcases mem_fpSet z with ⟨_, z⟩ | ⟨_, z⟩
      · cases z
      · exact x'.dj a m j z
    · rcases z with ⟨j, z⟩ | z
      · rcases mem_fpSet z with ⟨_, z⟩ | ⟨_, z⟩
        · cases z
        · exact f'.oo b (.inl ⟨j, z⟩)
      · exact f'.oo b (.inr z)
  | .er c fs, h => exact h
  | .bad, h => exact h
theorem fn_bad {P : Program} {w : World} {K : PySem.W.Frag} {T : Tab} {mg : Str → Option Value} {base : Heap} {lv kr : Nat} {f : Addr} {fd : FuncData} {ps : List Str} : FnOk P w K mg base (L2.CX P w) lv f fd ps (spF K T kr fun _ => .bad) :=
  ⟨fun _ _ _ _ h => by obtain ⟨_, _, _, _, h⟩ := h; exact h.elim, fun _ _ _ _ _ _ _ _ _ _ _ _ _ h => by obtain ⟨_, _, _, _, h⟩ := h; exact h.elim⟩
theorem fn_badB {P : Program} {w : World} {K : PySem.W.Frag} {T : Tab} {mg : Str → Option Value} {base : Heap} {lv kr k1 : Nat} {f : Addr} {fd : FuncData} {ps : List Str} : FnOk P w K mg base (L2.CX P w) lv f fd ps (spB K T k1 kr fun _ => .bad) :=
  ⟨fun _ _ _ _ h => by obtain ⟨_, _, _, _, _, _, _, _, _, _, _, _, h⟩ := h; exact h.elim, fun _ _ _ _ _ _ _ _ _ _ _ _ _ h => by obtain ⟨_, _, _, _, _, _, _, _, _, _, _, _, h⟩ := h; exact h.elim⟩
theorem de_globE {X : Cx} {C : Cz} {Γ : List Nat} {x : Str} {pos : Pos} {v : V} {d : D} (h : ∃ u, X.mg x = some u ∧ RelV v u) (hg : Gl X x) (rd : ∀ S H, Rep X.K C.T H S d v) (hd : (x == ("__debug__" : Str)) = false := by decide) : DE X C Γ (.Name x pos) Γ 0 (mCon d) := by
  obtain ⟨u, h1, h2⟩ := h
  exact de_glob hg h1 h2 rd hd
section
variable {K : PySem.W.Frag} {x qual : Str} {st : Stmt} {f : Addr} {oc : Value} {od an : Option Addr} {osl : Array (Option Value)} {kV doc pm cdv ct : Value}
theorem funD_mk (l : K.lookup f = some ⟨oc, od, .func (PySem.W.fnOf x qual (defArgs st) (defBody st) (defScope st) .none kV doc pm an cdv ct), osl⟩) (c : PySem.W.codeIn K cdv qual = true) (k : PySem.W.keepIn K (.ref f) = true) :
    FunD K x qual (defArgs st) (defBody st) (defScope st) [] [] f (PySem.W.fnOf x qual (defArgs st) (defBody st) (defScope st) .none kV doc pm an cdv ct) := ⟨⟨oc, od, .none, kV, doc, pm, an, cdv, ct, osl, rfl, l, c, .inl ⟨rfl, rfl⟩, .inl rfl⟩, k⟩
/-- one default, an int -/
theorem funD_mk1 {T : Addr} {j : Int} {tj : Tok} {n : Nat} {tc : Value} {td : Option Addr} {tsl : Array (Option Value)} (l : K.lookup f = some ⟨oc, od, .func (PySem.W.fnOf x qual (defArgs st) (defBody st) (defScope st) (.ref T) kV doc pm an cdv ct), osl⟩) (c : PySem.W.codeIn K cdv qual = true) (k : PySem.W.keepIn K (.ref f) = true)
    (lT : K.lookup T = some ⟨tc, td, .seq #[.int j tj] n, tsl⟩) :
    FunD K x qual (defArgs st) (defBody st) (defScope st) [.int j] [] f (PySem.W.fnOf x qual (defArgs st) (defBody st) (defScope st) (.ref T) kV doc pm an cdv ct) :=
  ⟨⟨oc, od, .ref T, kV, doc, pm, an, cdv, ct, osl, rfl, l, c, .inr ⟨by simp, T, _, [.int j tj], n, rfl, lT, rfl, .cons ⟨tj, rfl⟩ .nil⟩, .inl rfl⟩, k⟩
end
section
variable {X : Cx} {C : Cz} {P : List Nat} {J : Js} {Γ Γ1 : List Nat} {k i j : Nat} {x y : Str} {pos p px py pt pt2 : Pos} {a b e : Expr} {kt k2 : Nat} {fa : Env → R (D × Env)} {fs : Env → R (List D × Env)}
/-- x = e -/
theorem ds_nm (hN : X.N.Nodup) (hi : X.N[i]? = some x) (hx : Loc X.env.scope x) (ha : DE X C Γ e Γ1 k fa) (hil : i < Γ1.length := by decide) (hp : i ∉ P := by decide) (h1 : J.nx = Γ1.set i k := by rfl) (hs : swapsWith e (some (.Name x p)) pos.line X.env = pure false := by rfl)
    (hf : X.fn x = true ∨ X.env.scope.names.lookup x = some .local := by first | exact .inl rfl | exact .inr rfl | assumption) : DS X C P J Γ (.Assign [.Name x p] e pos) (mSet i fa) := ds_set (ps_set hN hi hx ha hs hf) (fun _ _ _ h => h) hil hp h1
theorem ds_nm2 (hc : X.calm = true) (hN : X.N.Nodup) (hi : X.N[i]? = some x) (hj : X.N[j]? = some y) (hij : i ≠ j) (hx : X.env.scope.names.lookup x = some .local) (hy : X.env.scope.names.lookup y = some .local) (ha : DA X C Γ [a, b] Γ1 fs)
    (hw : swappedStores [.Tuple [.Name x px, .Name y py] kt pt] (.Tuple [a, b] k2 pt2) X.env = pure (some [x, y])) (hil : i < Γ1.length := by decide) (hjl : j < Γ1.length := by decide) (hp : i ∉ P := by decide) (hq : j ∉ P := by decide) (h1 : J.nx = (Γ1.set i 0).set j 0 := by rfl)
    (hs : swapsWithSole [.Tuple [.Name x px, .Name y py] kt pt] (.Tuple [a, b] k2 pt2) pos.line X.env = pure false := by rfl) :
    DS X C P J Γ (.Assign [.Tuple [.Name x px, .Name y py] kt pt] (.Tuple [a, b] k2 pt2) pos) (mPar i j fs) := ds_par (ps_par hc hN hi hj hij hx hy ha hw hs) hil hjl hp hq h1
end
/-- the script at the law's door -/
theorem law_start {K : PySem.W.Frag} {T : Tab} {H : Hp} {a : Addr} {ns : List Int} {m : List D → R D} (hO : Only H) (hS : SqL K H a (ns.map V.int)) (h : m [.kls (ns.map D.int)] = .ok (.bl true)) : spF K T 0 m [.ref a] H (fun v _ => v = .bl true) fun _ _ _ => False := by
  have reps : ∀ ns : List Int, Reps K T H (fun _ => False) (ns.map D.int) (ns.map V.int) := by
    intro ns
    induction ns with
    | nil => simp [Reps]
    | cons n r ih =>
      simp only [List.map_cons, Reps]
      exact ⟨_, _, rfl, by simp [Rep], ih⟩
  refine ⟨fun _ => False, [.kls (ns.map D.int)], ?_, fun _ z => z.elim, ?_⟩
  · simp only [Reps, Rep]
    refine ⟨.ref a, [], rfl, ⟨a, ns.map V.int, rfl, ?_, reps ns⟩, rfl⟩
    rcases hS with (h | ⟨o, h⟩) | h
    · rcases hO a with z | ⟨o, xs, z⟩
      · rw [h] at z; cases z
      · rw [h] at z; cases z
    · exact .inl ⟨o, h⟩
    · exact .inr h
  · rw [h]
    intro v H' S' Fv o _ _ _ _
    exact rep_bl (own_zero.mp o).2
end Z
set_option Elab.async false
set_option linter.all false
set_option maxRecDepth 100000
/-! Y4: the law's end: from facts of the written part to contracts -/
namespace Z
open PySem PySem.Spec L2
open PyProof.Rows hiding St

def spLaw (K : PySem.W.Frag) : Sp := fun vs H Q _ => ∃ (a : Addr) (ns : List Int), vs = [.ref a] ∧ SqL K H a (ns.map V.int) ∧ ns.length ≤ 63 ∧ Only H ∧ ∀ H', Q (.bl true) H'
theorem law_imp {K : PySem.W.Frag} {T : Tab} {m : List D → R D} (hm : ∀ ns : List Int, ns.length ≤ 63 → m [.kls (ns.map D.int)] = .ok (.bl true)) : ∀ vs H Q E, spLaw K vs H Q E → spF K T 0 m vs H Q E := by
  rintro vs H Q E ⟨a, ns, rfl, hS, hl, hO, q⟩
  have z := law_start (T := T) (m := m) hO hS (hm ns hl)
  obtain ⟨S, ds, r, al, h⟩ := z
  have reps : ∀ ns : List Int, Reps K T H (fun _ => False) (ns.map D.int) (ns.map V.int) := by
    intro ns
    induction ns with
    | nil => simp [Reps]
    | cons n r ih =>
      simp only [List.map_cons, Reps]
      exact ⟨_, _, rfl, by simp [Rep], ih⟩
  refine ⟨fun _ => False, [.kls (ns.map D.int)], ?_, fun _ z => z.elim, ?_⟩
  · simp only [Reps, Rep]
    refine ⟨.ref a, [], rfl, ⟨a, ns.map V.int, rfl, ?_, reps ns⟩, rfl⟩
    rcases hS with (h | ⟨o, h⟩) | h
    · rcases hO a with z | ⟨o, xs, z⟩
      · rw [h] at z; cases z
      · rw [h] at z; cases z
    · exact .inl ⟨o, h⟩
    · exact .inr h
  · rw [hm ns hl]
    intro v H' S' Fv o _ _ _ _
    rw [rep_bl (own_zero.mp o).2]
    exact q H'
theorem walk {l : PySem.W.OpenLaw} {q : Program} {loose : List Str} {XP : (Str → Option Value) → Heap → Prop} {YP : World → Heap → Prop} {d : DefRec} {K : Params → PySem.W.Frag} {k : Nat} (hn : l.most = some 63) (hdf : d.params.defaults = []) (hk : Room k callerA)
    (hY : ∀ (w : World) (h : Heap), YP w h → (K w.params).In h)
    (F : ∀ (w : World) (mg : Str → Option Value) (fa : Addr) (h : Heap), (K w.params).In h → h.Ns mainGlobals mg → mg d.name = some (.ref fa) →
      ∃ fd : FuncData, (∀ (s : Shared) (u : Value), BindsTo s fd ⟨[u], []⟩ [("script", u)]) ∧ ∀ base : Heap, (K w.params).In base → base.Ns mainGlobals mg → FnOk l.prog w (K w.params) mg base (L2.CX l.prog w) k fa fd ["script"] (spLaw (K w.params))) :
    PySem.W.WalkO q loose XP YP l.row.toRowW d [] (fun f vs => PySem.call f vs) :=
  L2.walk_of (n := 63) (k := k) (x := "script") (CX := fun w => L2.CX l.prog w) (sp := fun w => spLaw (K w.params)) hn (by decide) hdf hk hY F (fun _ _ a ns hl hO hS => ⟨a, ns, rfl, hS, hl, hO, fun _ => rfl⟩) fun _ _ _ _ _ ⟨_, _, _, _, _, _, _, _, _, _, _, _, z⟩ => z

section
variable {K : PySem.W.Frag}
theorem kit_bo {C : Addr} {n : String} (h1 : PySem.W.isClsIn K C = true) (h2 : PySem.W.typeIn K (.ref C) = some (.type "type")) (h3 : PySem.W.subIn K (.type n) (.ref C) = some false) : PySem.W.kitOne K (.type n) (.ref C) = some false := by
  unfold PySem.W.kitOne
  rw [if_neg (show ¬ ((Value.type n == Value.ref C) = true) from Bool.false_ne_true)]
  unfold PySem.W.kitCls
  dsimp only
  rw [if_pos (by rw [h2, show (PySem.W.clsIn K C).isSome = true from h1]; rfl)]
  exact h3
theorem kit_ob {C : Addr} {n : String} (hm : PySem.W.kitMeta n = true) (h3 : PySem.W.subIn K (.ref C) (.type n) = some false) : PySem.W.kitOne K (.ref C) (.type n) = some false := by
  unfold PySem.W.kitOne
  rw [if_neg (show ¬ ((Value.ref C == Value.type n) = true) from Bool.false_ne_true)]
  unfold PySem.W.kitCls
  dsimp only
  rw [if_pos hm]
  exact h3
theorem kit_oo {C C' : Addr} (hn : (C == C') = false) (h1 : PySem.W.isClsIn K C' = true) (h2 : PySem.W.typeIn K (.ref C') = some (.type "type")) (h3 : PySem.W.subIn K (.ref C) (.ref C') = some false) : PySem.W.kitOne K (.ref C) (.ref C') = some false := by
  unfold PySem.W.kitOne
  rw [if_neg (show ¬ ((Value.ref C == Value.ref C') = true) from fun z => by
    have e : Value.ref C = Value.ref C' := beq_iff_eq.mp z
    cases e
    rw [beq_self_eq_true] at hn; cases hn)]
  unfold PySem.W.kitCls
  dsimp only
  rw [if_pos (by rw [h2, show (PySem.W.clsIn K C').isSome = true from h1]; rfl)]
  exact h3
theorem kit_self {C : Addr} : PySem.W.kitOne K (.ref C) (.ref C) = some true := by
  unfold PySem.W.kitOne
  rw [if_pos (show (Value.ref C == Value.ref C) = true from beq_self_eq_true _)]
/-- a class's own facts about types -/
structure ClF (K : PySem.W.Frag) (C : Addr) : Prop where
  isc : PySem.W.isClsIn K C = true
  ty : PySem.W.typeIn K (.ref C) = some (.type "type")
  cl : PySem.W.findIn K (.ref C) "__class__" = some (some (.builtin "object.__class__"))
  mo : PySem.W.mroIn K C (.type "object") = some true
  b1 : PySem.W.subIn K (.type "NoneType") (.ref C) = some false
  b2 : PySem.W.subIn K (.type "bool") (.ref C) = some false
  b3 : PySem.W.subIn K (.type "int") (.ref C) = some false
  b4 : PySem.W.subIn K (.type "str") (.ref C) = some false
  b5 : PySem.W.subIn K (.type "list") (.ref C) = some false
  b6 : PySem.W.subIn K (.type "tuple") (.ref C) = some false
  o1 : PySem.W.subIn K (.ref C) (.type "int") = some false
  o2 : PySem.W.subIn K (.ref C) (.type "bool") = some false
  o3 : PySem.W.subIn K (.ref C) (.type "list") = some false
  o4 : PySem.W.subIn K (.ref C) (.type "tuple") = some false
  o5 : PySem.W.subIn K (.ref C) (.type "str") = some false
theorem tyOk_mk {T : Tab} {cs : List Nat} (hn : PySem.W.specialIn K (.builtin "object.__class__") "__get__" = some (some (.builtin "getset_descriptor.__get__"))) (tk : PySem.W.takesIn K (.builtin "object.__class__") = some true)
    (cl : ∀ c ∈ cs, Cls K (T.cm c) ∧ ClF K (T.cm c)) (oo : ∀ c ∈ cs, ∀ c' ∈ cs, (c == c') = false → (T.cm c == T.cm c') = false ∧ PySem.W.subIn K (.ref (T.cm c)) (.ref (T.cm c')) = some false) : TyOk K T cs := by
  refine ⟨fun c hc => ⟨(cl c hc).1, (cl c hc).2.cl, hn, tk, (cl c hc).2.mo⟩, fun c hc n h => ?_, fun c hc n h => ?_, fun c hc c' hc' => ?_⟩
  · have q := (cl c hc).2
    have z : PySem.W.subIn K (.type n) (.ref (T.cm c)) = some false := by
      simp only [List.mem_cons, List.mem_nil_iff, or_false] at h
      rcases h with rfl | rfl | rfl | rfl | rfl | rfl
      · exact q.b1
      · exact q.b2
      · exact q.b3
      · exact q.b4
      · exact q.b5
      · exact q.b6
    exact kit_bo q.isc q.ty z
  · have q := (cl c hc).2
    simp only [List.mem_cons, List.mem_nil_iff, or_false] at h
    rcases h with rfl | rfl | rfl | rfl | rfl
    · exact kit_ob (by decide +kernel) q.o1
    · exact kit_ob (by decide +kernel) q.o2
    · exact kit_ob (by decide +kernel) q.o3
    · exact kit_ob (by decide +kernel) q.o4
    · exact kit_ob (by decide +kernel) q.o5
  · cases e : c == c' with
    | true =>
      have : c = c' := by simpa using e
      subst this
      exact kit_self
    | false =>
      obtain ⟨h1, h2⟩ := oo c hc c' hc' e
      exact kit_oo h1 (cl c' hc').2.isc (cl c' hc').2.ty h2
theorem fld_mk {T : Tab} {f : Str} {ix : List (Nat × Nat)} (h : ∀ p ∈ ix, Cls K (T.cm p.1) ∧ NoAttr K (T.cm p.1) f ∧ (T.fl p.1)[p.2]? = some f ∧ (T.fl p.1).Nodup) : FldOk K T f ix := by
  refine ⟨fun c j e => ?_⟩
  have m : (c, j) ∈ ix := by
    clear h
    induction ix with
    | nil => cases e
    | cons p r ih =>
      obtain ⟨c', j'⟩ := p
      simp only [List.lookup_cons] at e
      split at e
      · rename_i z
        have : c = c' := by simpa using z
        cases e; subst this; exact List.mem_cons_self
      · exact List.mem_cons_of_mem _ (ih e)
  exact h _ m
theorem kbn_of2 {fd : FuncData} {ps ks : List Str} {n : Nat} {ix : List Nat} (h : ∀ us ws : List Value, us.length = n → ws.length = ks.length → bindArgs fd ⟨us, ks.zip ws⟩ = pure (ps.zip (us ++ permL ix ws))) : KBn K fd ps n ks (fun us ws => us ++ permL ix ws) (fun us ws => us ++ permL ix ws) :=
  ⟨fun s us ws _ l1 l2 => BindsTo.of_eq (h us ws l1 l2), fun r1 r2 => r1.append (vals_perm r2)⟩
theorem const_mk {h : Heap} {mg : Str → Option Value} {x : Str} {u : Value} {v : V} (X : K.In h) (G : h.Ns mainGlobals mg) (e : PySem.W.nsIn K mainGlobals x = some (some u)) (r : RelV v u) : ∃ u, mg x = some u ∧ RelV v u := ⟨u, PySem.W.mg_of X G e, r⟩
end
end Z
set_option Elab.async false
set_option linter.all false
set_option maxRecDepth 100000
/-! W1: plain reasoning about mirrors -/
namespace Z
open PySem PySem.Spec L2
open PyProof.Rows hiding St

theorem bind_ite {α β : Type} {c : Prop} [Decidable c] {a b : R α} {f : α → R β} : (if c then a else b).bind f = if c then a.bind f else b.bind f := by split <;> rfl
/-- a loop by its invariant -/
theorem for_inv {g : D → Env → Option Env} {fb : Env → R (Fl × Env)} (I : Nat → Env → Prop) : ∀ (ds : List D) (k : Nat) (ρ : Env), I k ρ →
    (∀ i d ρ, ds[i]? = some d → I (k + i) ρ → ∃ ρ1 ρ2, g d ρ = some ρ1 ∧ (fb ρ1 = .ok (.nx, ρ2) ∨ fb ρ1 = .ok (.ct, ρ2)) ∧ I (k + i + 1) ρ2) → ∃ ρ', mForL g fb ds ρ = .ok (.nx, ρ') ∧ I (k + ds.length) ρ'
  | [], k, ρ, h0, _ => ⟨ρ, rfl, h0⟩
  | d :: ds, k, ρ, h0, st => by
    obtain ⟨ρ1, ρ2, e1, e2, h1⟩ := st 0 d ρ rfl h0
    obtain ⟨ρ', e3, h3⟩ := for_inv I ds (k + 1) ρ2 h1 fun i d' ρ' hd hi => by
      have e : k + 1 + i = k + (i + 1) := by omega
      rw [e] at hi ⊢
      exact st (i + 1) d' ρ' (by simpa using hd) hi
    refine ⟨ρ', ?_, by have e : k + (d :: ds).length = k + 1 + ds.length := by simp; omega
                       rw [e]; exact h3⟩
    rw [mForL, e1]
    rcases e2 with e2 | e2
    · simp only [ofO, R.bind_ok, e2]; exact e3
    · simp only [ofO, R.bind_ok, e2]; exact e3
/-- a comprehension by its invariant -/
theorem comp_inv {vs : List Nat} {g : D → Env → Option Env} {ft : Env → R (Bool × Env)} {fe : Env → R (D × Env)} (I : Nat → List D → Env → Prop) : ∀ (ds : List D) (k : Nat) (acc : List D) (ρ : Env), I k acc ρ →
    (∀ i d acc ρ, ds[i]? = some d → I (k + i) acc ρ → ∃ ρ1 b ρ2, g d ρ = some ρ1 ∧ ft ρ1 = .ok (b, ρ2) ∧ ((b = true ∧ ∃ y ρ3, fe ρ2 = .ok (y, ρ3) ∧ I (k + i + 1) (acc ++ [y]) (wipeE ρ3 vs)) ∨ (b = false ∧ I (k + i + 1) acc (wipeE ρ2 vs)))) →
    ∃ ys ρ', mCompL vs g ft fe ds ρ = .ok (ys, ρ') ∧ I (k + ds.length) (acc ++ ys) ρ'
  | [], k, acc, ρ, h0, _ => ⟨[], ρ, rfl, by simpa using h0⟩
  | d :: ds, k, acc, ρ, h0, st => by
    obtain ⟨ρ1, b, ρ2, e1, e2, h1⟩ := st 0 d acc ρ rfl h0
    have next : ∀ acc' ρ3, I (k + 1) acc' ρ3 → ∃ ys ρ', mCompL vs g ft fe ds ρ3 = .ok (ys, ρ') ∧ I (k + 1 + ds.length) (acc' ++ ys) ρ' := fun acc' ρ3 h => comp_inv I ds (k + 1) acc' ρ3 h fun i d' a' ρ' hd hi => by
      have e : k + 1 + i = k + (i + 1) := by omega
      rw [e] at hi ⊢
      exact st (i + 1) d' a' ρ' (by simpa using hd) hi
    have el : k + (d :: ds).length = k + 1 + ds.length := by simp; omega
    rw [el]
    rcases h1 with ⟨rfl, y, ρ3, e3, h3⟩ | ⟨rfl, h3⟩
    · obtain ⟨ys, ρ', e4, h4⟩ := next _ _ h3
      refine ⟨y :: ys, ρ', ?_, by simpa using h4⟩
      unfold mCompL
      simp only [e1, e2, e3, e4, ofO, noEr, R.bind_ok, if_true]
    · obtain ⟨ys, ρ', e4, h4⟩ := next _ _ h3
      refine ⟨ys, ρ', ?_, h4⟩
      unfold mCompL
      simp only [e1, e2, e4, ofO, noEr, R.bind_ok, Bool.false_eq_true, if_false]
/-- a comprehension that changes nothing -/
theorem comp_map {vs : List Nat} {g : D → Env → Option Env} {fe : Env → R (D × Env)} {ρ : Env} {h : D → D} : ∀ (ds : List D), (∀ d ∈ ds, ∃ ρ1 ρ2, g d ρ = some ρ1 ∧ fe ρ1 = .ok (h d, ρ2) ∧ wipeE ρ2 vs = ρ) → mCompL vs g mYes fe ds ρ = .ok (ds.map h, ρ)
  | [], _ => rfl
  | d :: ds, st => by
    obtain ⟨ρ1, ρ2, e1, e2, e3⟩ := st d List.mem_cons_self
    have e4 := comp_map ds fun d' m => st d' (List.mem_cons_of_mem _ m)
    unfold mCompL
    simp only [e1, e2, e3, e4, ofO, noEr, mYes, R.bind_ok, if_true, List.map_cons]
theorem gII_eq {c : Int → Int → Bool} {f : Int → Int → Int} {i j : Int} (h : c i j = true) : gII c f (.int i) (.int j) = some (.int (f i j)) := if_pos h
theorem cMul_r {i j : Int} (h : j.natAbs < 18446744073709551616) : cMul i j = true := by
  have : small64 j = true := decide_eq_true h
  unfold cMul; rw [this, Bool.or_true, Bool.true_or]
theorem cMul_l {i j : Int} (h : i.natAbs < 18446744073709551616) : cMul i j = true := by
  have : small64 i = true := decide_eq_true h
  unfold cMul; rw [this, Bool.true_or, Bool.true_or]
theorem cDiv_r {i j : Int} (h0 : 0 < j) (h : j < 1073741824) : cDiv i j = true := by
  unfold cDiv
  rw [decide_eq_true (show j ≠ 0 by omega), decide_eq_true (show j.natAbs < 1073741824 by omega)]; rfl
theorem cDiv_p {i j : Int} (h0 : 0 < j) (h : j < 1180591620717411303424) : cDiv i j = true := by
  have l : j.natAbs.log2 < 9000 := by
    have e : (2 : Nat) ^ 70 = 1180591620717411303424 := by decide
    have := PySem.Flt.log2_lt_of (n := j.natAbs) (k := 70) (by decide) (by omega)
    omega
  unfold cDiv small5k
  rw [decide_eq_true (show j ≠ 0 by omega), decide_eq_true h0, decide_eq_true l, Bool.true_and, Bool.true_and, Bool.or_true]
theorem cNz_r {i j : Int} (h0 : j ≠ 0) : cNz i j = true := decide_eq_true h0
theorem cLcm_of {i j : Int} (h : i.natAbs < 18446744073709551616) (h' : j.natAbs < 18446744073709551616) : cLcm i j = true := by
  unfold cLcm small64
  rw [decide_eq_true h, decide_eq_true h']; rfl
theorem inLine_ok {i : Int} (h : -4611686018427387904 ≤ i) (h' : i < 4611686018427387904) : inLine i = true := by
  unfold inLine
  have e : (2 : Int) ^ 62 = 4611686018427387904 := by decide
  rw [e, decide_eq_true h, decide_eq_true h']; rfl
theorem fdiv_pos (a : Int) {b : Int} (h : 0 < b) : a.fdiv b = a / b := Int.fdiv_eq_ediv_of_nonneg a (Int.le_of_lt h)
theorem atI_nat {α : Type} {xs : List α} {i : Nat} {a : α} (h : xs[i]? = some a) : atI xs (i : Int) = some a := by
  have hl := (List.getElem?_eq_some_iff.mp h).1
  unfold atI ixN
  rw [if_pos (Int.natCast_nonneg i), if_pos (by omega)]
  simpa using h
theorem atI_of {α : Type} {xs : List α} {i : Int} {a : α} (h0 : 0 ≤ i) (h : xs[i.toNat]? = some a) : atI xs i = some a := by
  obtain ⟨n, rfl⟩ := Int.eq_ofNat_of_zero_le h0
  exact atI_nat (by simpa using h)
theorem atI_last {α : Type} {xs : List α} {a : α} (h : xs.getLast? = some a) : atI xs (-1) = some a := by
  rw [List.getLast?_eq_getElem?] at h
  have hl := (List.getElem?_eq_some_iff.mp h).1
  unfold atI ixN
  rw [if_neg (by decide), if_pos (by omega)]
  simp only [Option.bind_some]
  rw [show (-1 + (xs.length : Int)).toNat = xs.length - 1 by omega]
  exact h
/-! numbers -/
theorem gcdI_comm (a b : Int) : gcdI a b = gcdI b a := by rw [gcdI_def, gcdI_def, Nat.gcd_comm]
theorem gcdI_nn (a b : Int) : 0 ≤ gcdI a b := by rw [gcdI_def]; exact Int.natCast_nonneg _
theorem gcdI_pos {a b : Int} (h : 0 < b) : 0 < gcdI a b := by
  rw [gcdI_def]
  have := Nat.gcd_pos_of_pos_right a.natAbs (show 0 < b.natAbs by omega)
  omega
theorem gcdI_le {a b : Int} (h : 0 < b) : gcdI a b ≤ b := by
  rw [gcdI_def]
  have := Nat.gcd_le_right a.natAbs (show 0 < b.natAbs by omega)
  omega
theorem gcd_zero (a : Int) (ha : 0 ≤ a) : gcdI a 0 = a := by
  rw [gcdI_def]
  simp
  omega
theorem gcd_step (a b : Int) (ha : 0 ≤ a) (hb : 0 < b) : gcdI a b = gcdI b (a.fmod b) := by
  rw [gcdI_def, gcdI_def]
  obtain ⟨x, rfl⟩ := Int.eq_ofNat_of_zero_le ha
  obtain ⟨y, rfl⟩ := Int.eq_ofNat_of_zero_le (Int.le_of_lt hb)
  rw [Int.fmod_eq_emod_of_nonneg _ (by omega)]
  simp only [Int.natAbs_natCast, ← Int.natCast_emod]
  rw [Nat.gcd_comm x y, Nat.gcd_rec y x, Nat.gcd_comm (x % y) y]
theorem lcmI_eq {a b : Int} (ha : 0 < a) (hb : 0 < b) : a * (b / gcdI a b) = lcmI a b := by
  obtain ⟨x, rfl⟩ := Int.eq_ofNat_of_zero_le (Int.le_of_lt ha)
  obtain ⟨y, rfl⟩ := Int.eq_ofNat_of_zero_le (Int.le_of_lt hb)
  rw [gcdI_def, lcmI_def]
  unfold Nat.lcm
  simp only [Int.natAbs_natCast]
  rw [← Int.natCast_ediv, ← Int.natCast_mul, Nat.mul_div_assoc _ (Nat.gcd_dvd_right x y)]
theorem lcmI_le {a b : Int} (ha : 0 < a) (hb : 0 < b) : 0 < lcmI a b ∧ lcmI a b ≤ a * b := by
  obtain ⟨x, rfl⟩ := Int.eq_ofNat_of_zero_le (Int.le_of_lt ha)
  obtain ⟨y, rfl⟩ := Int.eq_ofNat_of_zero_le (Int.le_of_lt hb)
  rw [lcmI_def]
  simp only [Int.natAbs_natCast]
  have h1 : 0 < Nat.lcm x y := Nat.lcm_pos (by omega) (by omega)
  have h2 : Nat.lcm x y ≤ x * y := by unfold Nat.lcm; exact Nat.div_le_self _ _
  constructor
  · omega
  · rw [← Int.natCast_mul]; omega
theorem dvd_lcmI_l (a b : Int) : a ∣ lcmI a b := by
  rw [lcmI_def]
  exact Int.ofNat_dvd_right.mpr (Nat.dvd_lcm_left _ _)
theorem dvd_lcmI_r (a b : Int) : b ∣ lcmI a b := by
  rw [lcmI_def]
  exact Int.ofNat_dvd_right.mpr (Nat.dvd_lcm_right _ _)
/-- Frac's lowest terms: num / g, den / g -/
theorem gcdI_dvd_l (a b : Int) : gcdI a b ∣ a := by
  rw [gcdI_def]
  exact Int.ofNat_dvd_left.mpr (Nat.gcd_dvd_left _ _)
theorem gcdI_dvd_r (a b : Int) : gcdI a b ∣ b := by
  rw [gcdI_def]
  exact Int.ofNat_dvd_left.mpr (Nat.gcd_dvd_right _ _)
theorem gcdI_lowest {a b : Int} (hb : 0 < b) : gcdI (a / gcdI a b) (b / gcdI a b) = 1 := by
  have hp := gcdI_pos (a := a) hb
  have h1 := gcdI_dvd_l a b
  have h2 := gcdI_dvd_r a b
  rw [gcdI_def] at hp h1 h2
  rw [gcdI_def (a / gcdI a b), gcdI_def a b]
  have hg : 0 < a.natAbs.gcd b.natAbs := by omega
  have e1 : (a / ((a.natAbs.gcd b.natAbs : Nat) : Int)).natAbs = a.natAbs / a.natAbs.gcd b.natAbs := by
    rw [Int.natAbs_ediv_of_dvd h1, Int.natAbs_natCast]
  have e2 : (b / ((a.natAbs.gcd b.natAbs : Nat) : Int)).natAbs = b.natAbs / a.natAbs.gcd b.natAbs := by
    rw [Int.natAbs_ediv_of_dvd h2, Int.natAbs_natCast]
  rw [e1, e2, Nat.gcd_div (Nat.gcd_dvd_left _ _) (Nat.gcd_dvd_right _ _), Nat.div_self hg]
  rfl
end Z
namespace Z
open PySem PySem.Spec L2
theorem mItR1_ok {fs : Env → R (List D × Env)} {ρ ρ1 : Env} {j : Int} (h : fs ρ = .ok ([.int j], ρ1)) (hj : inLine j = true) : mItR1 fs ρ = .ok (intsFrom 0 j.toNat, ρ1) := by
  unfold mItR1
  rw [h]
  exact if_pos hj
theorem mItR2_ok {fs : Env → R (List D × Env)} {ρ ρ1 : Env} {i j : Int} (h : fs ρ = .ok ([.int i, .int j], ρ1)) (hi : inLine i = true) (hj : inLine j = true) : mItR2 fs ρ = .ok (intsFrom i (j - i).toNat, ρ1) := by
  unfold mItR2
  rw [h]
  exact if_pos (by rw [hi, hj]; rfl)
theorem mFor_ok {src : Env → R (List D × Env)} {g : D → Env → Option Env} {fb : Env → R (Fl × Env)} {ρ ρ1 : Env} {ds : List D} (h : src ρ = .ok (ds, ρ1)) : mFor src g fb ρ = mForL g fb ds ρ1 := by
  unfold mFor
  rw [h]; rfl
theorem mComp_ok {vs : List Nat} {src : Env → R (List D × Env)} {g : D → Env → Option Env} {ft : Env → R (Bool × Env)} {fe : Env → R (D × Env)} {ρ ρ1 ρ2 ρ3 : Env} {ds ys : List D} (h : src ρ = .ok (ds, ρ1)) (hl : ds.length ≤ 100000) (h2 : mCompL vs g ft fe ds (wipeE ρ1 vs) = .ok (ys, ρ2)) (h3 : backE ρ1 ρ2 vs = ρ3) :
    mComp vs src g ft fe ρ = .ok (.lst ys, ρ3) := by
  subst h3
  unfold mComp
  rw [h]
  simp only [R.bind_ok, if_pos hl, h2]
/-- a loop over a list, by its invariant -/
theorem for_list {src : Env → R (List D × Env)} {g : D → Env → Option Env} {fb : Env → R (Fl × Env)} {ρ ρ1 : Env} {ds : List D} (I : Nat → Env → Prop) (h : src ρ = .ok (ds, ρ1)) (h0 : I 0 ρ1)
    (st : ∀ i d ρ, ds[i]? = some d → I i ρ → ∃ ρ1 ρ2, g d ρ = some ρ1 ∧ (fb ρ1 = .ok (.nx, ρ2) ∨ fb ρ1 = .ok (.ct, ρ2)) ∧ I (i + 1) ρ2) : ∃ ρ', mFor src g fb ρ = .ok (.nx, ρ') ∧ I ds.length ρ' := by
  rw [mFor_ok h]
  have z := for_inv (g := g) (fb := fb) I ds 0 ρ1 h0 fun i d ρ hd hi => by
    rw [Nat.zero_add] at hi ⊢
    exact st i d ρ hd hi
  rwa [Nat.zero_add] at z
theorem intsFrom_at {lo : Int} {n i : Nat} {d : D} (h : (intsFrom lo n)[i]? = some d) : i < n ∧ d = .int (lo + (i : Int)) := intsFrom_get h
theorem foldl_take {α β : Type} {f : β → α → β} {xs : List α} {b : β} {i : Nat} {a : α} (h : xs[i]? = some a) : (xs.take (i + 1)).foldl f b = f ((xs.take i).foldl f b) a := by
  rw [List.take_add_one, h]
  simp
theorem lcm_bound : ∀ (ds : List Int) (acc : Int), 0 < acc → (∀ d ∈ ds, 1 ≤ d ∧ d ≤ 99) → 0 < ds.foldl lcmI acc ∧ ds.foldl lcmI acc ≤ acc * 99 ^ ds.length
  | [], acc, h, _ => by simp [h]
  | d :: ds, acc, h, hd => by
    obtain ⟨h1, h2⟩ := hd d List.mem_cons_self
    obtain ⟨p, q⟩ := lcmI_le h (show 0 < d by omega)
    obtain ⟨a, b⟩ := lcm_bound ds (lcmI acc d) p fun x hx => hd x (List.mem_cons_of_mem _ hx)
    refine ⟨a, Int.le_trans b ?_⟩
    have e : acc * 99 ^ (d :: ds).length = acc * 99 * 99 ^ ds.length := by
      rw [List.length_cons, Int.pow_succ, Int.mul_comm (99 ^ ds.length) 99, Int.mul_assoc]
    rw [e]
    refine Int.mul_le_mul_of_nonneg_right (Int.le_trans q (Int.mul_le_mul_of_nonneg_left h2 (Int.le_of_lt h))) ?_
    exact Int.le_of_lt (Int.pow_pos (by decide))
theorem pow99 {n : Nat} (h : n ≤ 6) : (99 : Int) ^ n ≤ 941480149401 := by
  match n, h with
  | 0, _ => decide
  | 1, _ => decide
  | 2, _ => decide
  | 3, _ => decide
  | 4, _ => decide
  | 5, _ => decide
  | 6, _ => decide
end Z
namespace Z
open PySem PySem.Spec L2
theorem gI0_e {f : Int → Int → Int} {i j : Int} : gI0 f (.int i) (.int j) = some (.int (f i j)) := rfl
theorem gIB_e {f : Int → Int → Bool} {i j : Int} : gIB f (.int i) (.int j) = some (.bl (f i j)) := rfl
theorem gII_e {c : Int → Int → Bool} {f : Int → Int → Int} {i j : Int} : gII c f (.int i) (.int j) = if c i j = true then some (.int (f i j)) else none := rfl
theorem gU_e {f : Int → Int} {i : Int} : gU f (.int i) = some (.int (f i)) := rfl
theorem gInt_i {i : Int} : gIntO (.int i) = some (.int i) := rfl
theorem gInt_b {b : Bool} : gIntO (.bl b) = some (.int (if b = true then 1 else 0)) := rfl
theorem gEq_ii {i j : Int} : gEq (.int i) (.int j) = some (.bl (decide (i = j))) := rfl
theorem gNe_ii {i j : Int} : gNe (.int i) (.int j) = some (.bl (!decide (i = j))) := rfl
theorem gIx_t {xs : List D} {i : Int} : gIx (.tup xs) (.int i) = atI xs i := rfl
theorem gIx_l {xs : List D} {i : Int} : gIx (.lst xs) (.int i) = atI xs i := rfl
theorem gIx_k {xs : List D} {i : Int} : gIx (.kls xs) (.int i) = atI xs i := rfl
theorem gLen_t {xs : List D} : gLen (.tup xs) = some (.int xs.length) := rfl
theorem gLen_l {xs : List D} : gLen (.lst xs) = some (.int xs.length) := rfl
theorem gLen_k {xs : List D} : gLen (.kls xs) = some (.int xs.length) := rfl
theorem gNot_b {b : Bool} : gNot (.bl b) = some (.bl (!b)) := rfl
theorem gFld_e {ix : List (Nat × Nat)} {c : Nat} {fs : List D} : gFld ix (.ins c fs) = (ix.lookup c).bind fun j => fs[j]? := rfl
theorem seqD_t {xs : List D} : seqD (.tup xs) = some (false, xs) := rfl
theorem seqD_l {xs : List D} : seqD (.lst xs) = some (true, xs) := rfl
theorem seqD_k {xs : List D} : seqD (.kls xs) = some (true, xs) := rfl
end Z
namespace Z
theorem mFn_rt {n N : Nat} {fb : Env → R (Fl × Env)} {ds : List D} {d : D} {ρ : Env} (hl : ds.length = n) (h : fb (ds.map some ++ List.replicate (N - n) none) = .ok (.rt d, ρ)) : mFn n N fb ds = .ok d := by
  unfold mFn
  rw [if_pos hl, h]; rfl
theorem mFnB_rt {n N : Nat} {fb : Env → R (Fl × Env)} {ds : List D} {d d0 : D} {ρ : Env} (hl : ds.length = n) (h : fb (ds.map some ++ List.replicate (N - n) none) = .ok (.rt d, ρ)) (h0 : ρ[0]? = some (some d0)) : mFnB n N fb ds = .ok (d, d0) := by
  unfold mFnB
  rw [if_pos hl, h]
  simp only [R.bind_ok, h0]
theorem mFnB_nx {n N : Nat} {fb : Env → R (Fl × Env)} {ds : List D} {d0 : D} {ρ : Env} (hl : ds.length = n) (h : fb (ds.map some ++ List.replicate (N - n) none) = .ok (.nx, ρ)) (h0 : ρ[0]? = some (some d0)) : mFnB n N fb ds = .ok (.non, d0) := by
  unfold mFnB
  rw [if_pos hl, h]
  simp only [R.bind_ok, h0]
theorem mSeq_nx {f g : Env → R (Fl × Env)} {ρ ρ' : Env} {r : R (Fl × Env)} (h : f ρ = .ok (.nx, ρ')) (h2 : g ρ' = r) : mSeq f g ρ = r := by
  unfold mSeq
  rw [h]; exact h2
theorem mSeq_rt {f g : Env → R (Fl × Env)} {ρ ρ' : Env} {d : D} (h : f ρ = .ok (.rt d, ρ')) : mSeq f g ρ = .ok (.rt d, ρ') := by
  unfold mSeq
  rw [h]; rfl
theorem mIfS_t {t : Env → R (Bool × Env)} {f g : Env → R (Fl × Env)} {ρ ρ' : Env} {r : R (Fl × Env)} (h : t ρ = .ok (true, ρ')) (h2 : f ρ' = r) : mIfS t f g ρ = r := by
  unfold mIfS
  rw [h]; exact h2
theorem mIfS_f {t : Env → R (Bool × Env)} {f g : Env → R (Fl × Env)} {ρ ρ' : Env} {r : R (Fl × Env)} (h : t ρ = .ok (false, ρ')) (h2 : g ρ' = r) : mIfS t f g ρ = r := by
  unfold mIfS
  rw [h]; exact h2
theorem mSet_ok {i : Nat} {fa : Env → R (D × Env)} {ρ ρ' : Env} {d : D} (h : fa ρ = .ok (d, ρ')) : mSet i fa ρ = .ok (.nx, ρ'.set i (some d)) := by
  unfold mSet
  rw [h]; rfl
theorem mRet_ok {fa : Env → R (D × Env)} {ρ ρ' : Env} {d : D} (h : fa ρ = .ok (d, ρ')) : mRet fa ρ = .ok (.rt d, ρ') := by
  unfold mRet
  rw [h]; rfl
theorem mCall_ok {m : List D → R D} {fs : Env → R (List D × Env)} {ρ ρ' : Env} {ds : List D} {d : D} (h : fs ρ = .ok (ds, ρ')) (h2 : m ds = .ok d) : mCall m fs ρ = .ok (d, ρ') := by
  unfold mCall
  rw [h]
  simp only [R.bind_ok, h2]
theorem mPrim_ok {g : List D → Option D} {fs : Env → R (List D × Env)} {ρ ρ' : Env} {ds : List D} {d : D} (h : fs ρ = .ok (ds, ρ')) (h2 : g ds = some d) : mPrim g fs ρ = .ok (d, ρ') := by
  unfold mPrim
  rw [h]
  simp only [R.bind_ok, h2, ofO]
theorem mCons_ok {fa : Env → R (D × Env)} {fr : Env → R (List D × Env)} {ρ ρ1 ρ2 : Env} {d : D} {ds : List D} (h : fa ρ = .ok (d, ρ1)) (h2 : fr ρ1 = .ok (ds, ρ2)) : mCons fa fr ρ = .ok (d :: ds, ρ2) := by
  unfold mCons
  rw [h]
  simp only [R.bind_ok, h2]
end Z
namespace Z
theorem mItR3_ok {fs : Env → R (List D × Env)} {ρ ρ1 : Env} {i j : Int} (h : fs ρ = .ok ([.int i, .int j, .int (-1)], ρ1)) (hi : inLine i = true) (hj : inLine j = true) : mItR3 fs ρ = .ok (intsDown i (i - j).toNat, ρ1) := by
  unfold mItR3
  rw [h]
  exact if_pos (by rw [hi, hj]; rfl)
theorem intsDown_at {lo : Int} {n i : Nat} {d : D} (h : (intsDown lo n)[i]? = some d) : i < n ∧ d = .int (lo - (i : Int)) := by
  have len : (intsDown lo n).length = n := by simp [intsDown]
  have hi : i < n := by have := (List.getElem?_eq_some_iff.mp h).1; rw [len] at this; exact this
  unfold intsDown at h
  rw [List.getElem?_map, List.getElem?_range hi] at h
  cases h
  exact ⟨hi, rfl⟩
end Z
set_option Elab.async false
set_option linter.all false
set_option maxRecDepth 100000
/-! Y5: classes as values: cls(..), C.m(..) -/
namespace Z
open PySem PySem.Spec L2
open PyProof.Rows hiding St

section
variable {X : Cx} {C : Cz} {Γ Γ' Γ1 Γ2 : List Nat} {k kr lv i c : Nat} {x mn : Str} {p pos apos p2 : Pos} {e : Expr} {es : List Expr} {fs : Env → R (List D × Env)} {m : List D → R D} {mB : List D → R (D × D)} {f g pr : Addr} {fd : FuncData} {ps : List Str} {dvs : List V} {xd : List D} {E : XK} {mc : Value} {pl : Sem Bool}
/-- the i-th slot holds the class c -/
def mMakeL (i c : Nat) (m : List D → R (D × D)) (fs : Env → R (List D × Env)) : Env → R (D × Env) := fun ρ => match ρ[i]? with
  | some (some (.cls c')) => if c' = c then mMake c m fs ρ else .bad
  | _ => .bad
theorem de_newL (hW : C.W = fun cls d _ H => E cls d H) (M : Mk X.K (C.T.cm c) f) (hb : Gd X.K fd ps dvs) (F : FnOk X.prog X.w X.K X.mg X.base (L2.CX X.prog X.w) lv f fd ps (spB X.K C.T 1 0 mB)) (hr : Room (lv + 1) X.A) (tk : Takes X C.W) (hv : PE X (.Name x p) (tVar i)) (hΓ : Γ.getD i 0 = 0)
    (hxd : ∀ S H, Reps X.K C.T H S xd dvs) (ha : DA X C Γ (e :: es) Γ1 fs) (he : starEach (e :: es) X.env = (false, eval e X.env) :: starEach es X.env := by rfl) (hpl : (backTo pos (starEach es X.env)).any (·.1) = false := by rfl) :
    DE X C Γ (.Call (.Name x p) (e :: es) [] pos) Γ1 1 (mMakeL i c (fun xs => mB (xs ++ xd)) fs) := by
  obtain ⟨ds, hd, hb⟩ := hb.bi
  refine ⟨fun pins s σ H Q I h => ?_⟩
  obtain ⟨S, ρ, fp, st, h⟩ := h
  unfold mMakeL at h
  split at h
  · rename_i c' q
    split at h
    · rename_i ec
      subst ec
      obtain ⟨v, hv0, o⟩ := st.sl i _ q
      rw [hΓ] at o
      have ev : v = .ref (C.T.cm c') := by
        have z := (own_zero.mp o).2
        simpa [Rep] using z
      subst ev
      refine wpAny_Call_Name_kw (thn (hv.run pins s σ H (fun v H1 => v = .ref (C.T.cm c') ∧ H1 = H) I ⟨_, hv0, rfl, rfl⟩) fun u s1 ⟨v, H1, I1, r1, q1⟩ => ?_)
      obtain ⟨rfl, rfl⟩ := q1
      cases r1
      have go : tA X.K C.T C.W Γ Γ1 fs σ H1 (fun vs H2 => ∀ y dy, H2 y = none → H2 dy = none → dy ≠ y → spB X.K C.T 1 0 mB (.ref y :: (vs ++ dvs)) (upd (upd H2 dy (.own y)) y (.ins (C.T.cm c') dy [])) (fun v H3 => v = .non ∧ Q (.ref y) H3) E) := by
        refine ⟨S, ρ, fp, st, ?_⟩
        unfold mMake at h
        refine OutA.thenE h fun xs ρ1 vs H2 S2 fp2 e2 s2 r2 f2 h2 => ?_
        intro y dy hy hdy hne
        exact make_data (fun cls d H' z => by rw [hW] at z; exact z) s2 (r2.append (hxd S2 H2)) h2 y dy hy hdy hne
      refine PySem.W.callWith_K (h₀ := X.base) I1.ok.mod.kin M.kp (thn (ha.run pos pins s1 σ _ _ I1 go) fun us s2 ⟨vs, H2, I2, r, q⟩ => ⟨I2.kIn, ?_⟩) he hpl
      exact run_make M F hr hb hd (passes_call tk fun cls d σ H z => by rw [hW]; exact z) I2 r q
    · exact h.elim
  · exact h.elim
/-- what must be known of a classmethod -/
structure Cm (K : PySem.W.Frag) (mg : Str → Option Value) (x : Str) (C : Addr) (m : Str) (g : Addr) (fd : FuncData) (ps : List Str) : Prop where
  mg : mg x = some (.ref C)
  rd : ∃ mc p, ClX.CRead K C mc ∧ ClX.CMet K C mc m p g
  bi : Binds K fd ps []
/-- C.m(..): the def's first argument is the class -/
theorem de_cmeth (hW : C.W = fun cls d _ H => E cls d H) (M : Cm X.K X.mg x (C.T.cm c) mn g fd ps) (F : FnOk X.prog X.w X.K X.mg X.base (L2.CX X.prog X.w) lv g fd ps (spF X.K C.T kr m)) (hr : Room lv X.A) (tk : Takes X C.W) (hg : Gl X x) (ha : DA X C Γ (e :: es) Γ1 fs) (hdb : (x == ("__debug__" : Str)) = false := by decide)
    (hst : starEach (e :: es) X.env = (false, eval e X.env) :: starEach es X.env := by rfl) (hpl : (backTo pos (starEach es X.env)).any (·.1) = false := by rfl)
    (ht : eval (.Call (.Attribute (.Name x p) mn apos) (e :: es) [] pos) X.env = (do
      let ov ← eval (.Name x p) X.env
      standAt apos.atName
      let (g, first) ← holding [ov] (getMethod ov mn pl)
      callWith pos g first (backTo pos (starEach (e :: es) X.env)) (backToKw pos (keywordEach [] X.env))) := by rfl) :
    DE X C Γ (.Call (.Attribute (.Name x p) mn apos) (e :: es) [] pos) Γ1 kr (mCall (fun xs => m (.cls c :: xs)) fs) := by
  obtain ⟨mc, pr, rd, cm⟩ := M.rd
  refine pe_imp (ClX.pe_cmeth (pl := pl) (E := E) (pe_glob hg M.mg (v := .ref (C.T.cm c)) rfl hdb) rd cm (FnOk.raw (dvs := []) F M.bi .nil) hr (passes_call tk fun cls d σ H z => by rw [hW]; exact z) ha hst hpl ht) fun σ H Q h => ?_
  refine ⟨rfl, ?_⟩
  obtain ⟨S, ρ, fp, s, h⟩ := h
  refine ⟨S, ρ, fp, s, OutA.thenE h fun xs ρ1 vs H1 S1 fp1 e1 s1 r1 f1 h1 => ?_⟩
  have r2 : Reps X.K C.T H1 S1 (.cls c :: xs) (.ref (C.T.cm c) :: vs) := by
    simp only [Reps, Rep]
    exact ⟨_, _, rfl, rfl, r1⟩
  have z := call_data (m := m) (C := C) s1 r2 h1
  rw [hW] at z
  show spF X.K C.T kr m ((.ref (C.T.cm c) :: vs) ++ []) H1 Q E
  rw [List.append_nil]
  exact z
end
end Z
set_option Elab.async false
set_option linter.all false
set_option maxRecDepth 100000
/-! Y6: x.extend(list) -/
namespace Z
open PySem PySem.Spec L2
open PyProof.Rows hiding St
def mExt (i : Nat) (fe : Env → R (D × Env)) : Env → R (Fl × Env) := fun ρ => match ρ[i]? with
  | some (some (.lst _)) => (fe ρ).bind fun (d, ρ1) => match ρ1[i]?, d with
    | some (some (.lst xs)), .lst ys => if xs.length + ys.length < 100000 then .ok (.nx, ρ1.set i (some (.lst (xs ++ ys)))) else .bad
    | _, _ => .bad
  | _ => .bad
section
variable {X : Cx} {C : Cz} {P : List Nat} {J : Js} {Γ Γ' Γ1 Γ2 : List Nat} {k i j n : Nat} {x y : Str} {pos p p2 p3 spos : Pos} {a e ix : Expr} {fe fi : Env → R (D × Env)}
theorem ds_ext (hv : PE X (.Name x p) (tVar i)) (hk2 : k = 0 ∨ k = 1) (ha : DE X C Γ e Γ1 k fe) (hk0 : Γ.getD i 0 = 1 := by rfl) (hk : Γ1.getD i 0 = 1 := by rfl) (h1 : J.nx = Γ1 := by rfl)
    (hs : starEach (e :: []) X.env = (false, eval e X.env) :: starEach [] X.env := by rfl) (hpl : (backTo p3 (starEach [] X.env)).any (·.1) = false := by rfl) (hbase : attributeBase (.Name x p) "extend" X.env (eval (.Name x p) X.env) = eval (.Name x p) X.env := by rfl) (hline : (p2.endLine == p3.line) = true := by rfl)
    (hfew : ((backTo p3 (starEach (e :: []) X.env)).all (fun x => !x.1) && (backToKw p3 (keywordEach [] X.env)).all (fun x => x.1.isSome)
      && decide ((e :: ([] : List Expr)).length + ([] : List Keyword).length + (if ([] : List Keyword).isEmpty then 0 else 1) < 30)) = true := by rfl)
    (hsw : swapsWith (.Call (.Attribute (.Name x p) "extend" p2) [e] [] p3) none spos.line X.env = pure false := by rfl) :
    DS X C P J Γ (.Expr (.Call (.Attribute (.Name x p) "extend" p2) [e] [] p3) spos) (mExt i fe) :=
  ps_imp (ps_expr (pe_bm PySem.F.plainAttrs_list PySem.F.slot_list_extend PySem.F.type_list_extend mt_extend hv (pa_cons ha pa_nil hs) hbase hfew hline hs hpl) hsw) fun E σ H h => by
  obtain ⟨S, ρ, fp, s, h⟩ := h
  unfold mExt at h
  split at h
  · rename_i xs0 q0
    obtain ⟨a, vs0, hv0, h0, _⟩ := s.lst_at q0 hk0
    refine ⟨_, hv0, .inl ⟨rfl, vs0, .inl (.inl h0)⟩, S, ρ, fp, s, OutE.thenS h fun d ρ1 v H1 S1 fp1 Fv e1 s1 x1 f1 h2 => ?_⟩
    have hl : ∀ ys, d = .lst ys → ∃ b zs, v = .ref b ∧ H1 b = some (.lst zs) ∧ Reps X.K C.T H1 S1 ys zs := by
      rintro ys rfl
      rcases hk2 with rfl | rfl
      · obtain ⟨_, rd⟩ := x1.rep
        simp only [Rep] at rd
        obtain ⟨b, zs, e1, e2, _, e3⟩ := rd
        exact ⟨b, zs, e1, e2, e3⟩
      · obtain ⟨b, zs, e1, e2, _, e3⟩ := own_lst1.mp x1.own
        exact ⟨b, zs, e1, e2, e3⟩
    dsimp only at h2
    split at h2
    · rename_i xs ys q1
      obtain ⟨b, zs, rfl, hb, rz⟩ := hl _ rfl
      split at h2
      · rename_i hl
        obtain ⟨a', vs, hv1, h1', r⟩ := s1.lst_at q1 hk
        rw [hv0] at hv1; cases hv1
        have rr : Reps X.K C.T H1 S1 (xs ++ ys) (vs ++ zs) := r.append rz
        obtain ⟨_, s2, f2⟩ := s1.relist q1 hk hv0 h1' rr
        refine ⟨a, b, vs, zs, rfl, rfl, h1', hb, by rw [sizeLine_eq, ← r.length, ← rz.length]; omega, ?_⟩
        exact h2 σ _ S1 fp1 (by rw [h1]; exact s2) Kp.refl ((f1.less fun b z => .inl z).trans f2)
      · exact h2.elim
    · exact h2.elim
  · exact h.elim
end
end Z
set_option Elab.async false
set_option linter.all false
set_option maxRecDepth 100000
/-! V1: what a mirror gives, by continuation (symbolic steps) -/
namespace Z
open PySem PySem.Spec L2
abbrev Er := Nat → List D → Prop
@[irreducible] def WR {α : Type} (r : R α) (Q : α → Prop) (E : Er) : Prop := match r with
  | .ok a => Q a
  | .er c fs => E c fs
  | .bad => False
@[irreducible] def WB (r : R (D × D)) (Q : D → D → Prop) (E : Er) : Prop := match r with
  | .ok (a, b) => Q a b
  | .er c fs => E c fs
  | .bad => False
@[irreducible] def WE (r : R (D × Env)) (Q : D → Env → Prop) (E : Er) : Prop := match r with
  | .ok (a, b) => Q a b
  | .er c fs => E c fs
  | .bad => False
@[irreducible] def WA (r : R (List D × Env)) (Q : List D → Env → Prop) (E : Er) : Prop := match r with
  | .ok (a, b) => Q a b
  | .er c fs => E c fs
  | .bad => False
@[irreducible] def WT (r : R (Bool × Env)) (Q : Bool → Env → Prop) (E : Er) : Prop := match r with
  | .ok (a, b) => Q a b
  | .er c fs => E c fs
  | .bad => False
@[irreducible] def WS (r : R (Fl × Env)) (N : Env → Prop) (Rt : D → Env → Prop) (B C : Env → Prop) (E : Er) : Prop := match r with
  | .ok (.nx, ρ) => N ρ
  | .ok (.rt d, ρ) => Rt d ρ
  | .ok (.bk, ρ) => B ρ
  | .ok (.ct, ρ) => C ρ
  | .er c fs => E c fs
  | .bad => False
@[irreducible] def WO (r : R (Option Int × Env)) (Q : Option Int → Env → Prop) (E : Er) : Prop := match r with
  | .ok (a, b) => Q a b
  | .er c fs => E c fs
  | .bad => False
abbrev E0 : Er := fun _ _ => False
/-- a part that must be there -/
def Sm {α : Type} (o : Option α) (Q : α → Prop) : Prop := ∃ a, o = some a ∧ Q a
def Lk (ρ : Env) (i : Nat) (Q : D → Prop) : Prop := ∃ d, ρ[i]? = some (some d) ∧ Q d
def SetN (ρ : Env) (i : Nat) (x : Option D) (N : Env → Prop) : Prop := N (ρ.set i x)
def Br (b : Bool) (P Q : Prop) : Prop := (b = true → P) ∧ (b = false → Q)
class SetEq (ρ : Env) (i : Nat) (x : Option D) (ρ' : outParam Env) : Prop where
  eq : ρ.set i x = ρ'
instance {a x : Option D} {r : Env} : SetEq (a :: r) 0 x (x :: r) := ⟨rfl⟩
instance {a x : Option D} {r r' : Env} {i : Nat} [h : SetEq r i x r'] : SetEq (a :: r) (i + 1) x (a :: r') := ⟨by rw [List.set_cons_succ, h.eq]⟩

class WipeEq (ρ : Env) (vs : List Nat) (ρ' : outParam Env) : Prop where
  eq : wipeE ρ vs = ρ'
instance {ρ : Env} : WipeEq ρ [] ρ := ⟨rfl⟩
instance {ρ ρ1 ρ2 : Env} {v : Nat} {vs : List Nat} [h : WipeEq ρ vs ρ1] [k : SetEq ρ1 v none ρ2] : WipeEq ρ (v :: vs) ρ2 := ⟨by rw [wipeE, h.eq, k.eq]⟩
class GetEq (ρ : Env) (i : Nat) (d : outParam D) : Prop where
  eq : ρ[i]? = some (some d)
instance {d : D} {r : Env} : GetEq (some d :: r) 0 d := ⟨rfl⟩
instance {x : Option D} {d : D} {r : Env} {i : Nat} [h : GetEq r i d] : GetEq (x :: r) (i + 1) d := ⟨by rw [List.getElem?_cons_succ, h.eq]⟩
theorem WR_ok {α : Type} {a : α} {Q : α → Prop} {E : Er} : WR (.ok a) Q E = Q a := by with_unfolding_all rfl
theorem WE_ok {a : D} {b : Env} {Q : D → Env → Prop} {E : Er} : WE (.ok (a, b)) Q E = Q a b := by with_unfolding_all rfl
theorem WA_ok {a : List D} {b : Env} {Q : List D → Env → Prop} {E : Er} : WA (.ok (a, b)) Q E = Q a b := by with_unfolding_all rfl
theorem WT_ok {a : Bool} {b : Env} {Q : Bool → Env → Prop} {E : Er} : WT (.ok (a, b)) Q E = Q a b := by with_unfolding_all rfl
theorem WB_ok {a b : D} {Q : D → D → Prop} {E : Er} : WB (.ok (a, b)) Q E = Q a b := by with_unfolding_all rfl
theorem WO_ok {a : Option Int} {b : Env} {Q : Option Int → Env → Prop} {E : Er} : WO (.ok (a, b)) Q E = Q a b := by with_unfolding_all rfl
theorem WS_nx {b : Env} {N : Env → Prop} {Rt : D → Env → Prop} {B C : Env → Prop} {E : Er} : WS (.ok (.nx, b)) N Rt B C E = N b := by with_unfolding_all rfl
theorem WS_rt {d : D} {b : Env} {N : Env → Prop} {Rt : D → Env → Prop} {B C : Env → Prop} {E : Er} : WS (.ok (.rt d, b)) N Rt B C E = Rt d b := by with_unfolding_all rfl
theorem WR.get {α : Type} {r : R α} {Q : α → Prop} (h : WR r Q E0) : ∃ a, r = .ok a ∧ Q a := by
  with_unfolding_all
    cases r with
    | ok a => exact ⟨a, rfl, h⟩
    | er c fs => exact h.elim
    | bad => exact h.elim
theorem WB.get {r : R (D × D)} {Q : D → D → Prop} (h : WB r Q E0) : ∃ a b, r = .ok (a, b) ∧ Q a b := by
  with_unfolding_all
    cases r with
    | ok a => exact ⟨a.1, a.2, rfl, h⟩
    | er c fs => exact h.elim
    | bad => exact h.elim
theorem WE.get {r : R (D × Env)} {Q : D → Env → Prop} (h : WE r Q E0) : ∃ a b, r = .ok (a, b) ∧ Q a b := by
  with_unfolding_all
    cases r with
    | ok a => exact ⟨a.1, a.2, rfl, h⟩
    | er c fs => exact h.elim
    | bad => exact h.elim
theorem WT.get {r : R (Bool × Env)} {Q : Bool → Env → Prop} (h : WT r Q E0) : ∃ a b, r = .ok (a, b) ∧ Q a b := by
  with_unfolding_all
    cases r with
    | ok a => exact ⟨a.1, a.2, rfl, h⟩
    | er c fs => exact h.elim
    | bad => exact h.elim
theorem WR.mono {α : Type} {r : R α} {Q Q' : α → Prop} {E E' : Er} (h : WR r Q E) (q : ∀ a, Q a → Q' a) (e : ∀ c fs, E c fs → E' c fs) : WR r Q' E' := by
  with_unfolding_all
    cases r with
    | ok a => exact q _ h
    | er c fs => exact e _ _ h
    | bad => exact h
theorem WB.mono {r : R (D × D)} {Q Q' : D → D → Prop} {E E' : Er} (h : WB r Q E) (q : ∀ a b, Q a b → Q' a b) (e : ∀ c fs, E c fs → E' c fs) : WB r Q' E' := by
  with_unfolding_all
    cases r with
    | ok a => exact q _ _ h
    | er c fs => exact e _ _ h
    | bad => exact h
theorem WE.mono {r : R (D × Env)} {Q Q' : D → Env → Prop} {E E' : Er} (h : WE r Q E) (q : ∀ a b, Q a b → Q' a b) (e : ∀ c fs, E c fs → E' c fs) : WE r Q' E' := by
  with_unfolding_all
    cases r with
    | ok a => exact q _ _ h
    | er c fs => exact e _ _ h
    | bad => exact h
theorem WA.mono {r : R (List D × Env)} {Q Q' : List D → Env → Prop} {E E' : Er} (h : WA r Q E) (q : ∀ a b, Q a b → Q' a b) (e : ∀ c fs, E c fs → E' c fs) : WA r Q' E' := by
  with_unfolding_all
    cases r with
    | ok a => exact q _ _ h
    | er c fs => exact e _ _ h
    | bad => exact h
theorem WT.mono {r : R (Bool × Env)} {Q Q' : Bool → Env → Prop} {E E' : Er} (h : WT r Q E) (q : ∀ a b, Q a b → Q' a b) (e : ∀ c fs, E c fs → E' c fs) : WT r Q' E' := by
  with_unfolding_all
    cases r with
    | ok a => exact q _ _ h
    | er c fs => exact e _ _ h
    | bad => exact h
theorem WS.mono {r : R (Fl × Env)} {N N' : Env → Prop} {Rt Rt' : D → Env → Prop} {B B' C C' : Env → Prop} {E E' : Er} (h : WS r N Rt B C E) (n : ∀ ρ, N ρ → N' ρ) (t : ∀ d ρ, Rt d ρ → Rt' d ρ) (b : ∀ ρ, B ρ → B' ρ) (c : ∀ ρ, C ρ → C' ρ) (e : ∀ c fs, E c fs → E' c fs) : WS r N' Rt' B' C' E' := by
  with_unfolding_all
    match r, h with
    | .ok (.nx, ρ), h => exact n _ h
    | .ok (.rt d, ρ), h => exact t _ _ h
    | .ok (.bk, ρ), h => exact b _ h
    | .ok (.ct, ρ), h => exact c _ h
    | .er c fs, h => exact e _ _ h
    | .bad, h => exact h
theorem wr_ok {α : Type} {a : α} {Q : α → Prop} {E : Er} (h : Q a) : WR (.ok a) Q E := by with_unfolding_all exact h
theorem wr_eq {α : Type} {r : R α} {a : α} {Q : α → Prop} {E : Er} (e : r = .ok a) (h : Q a) : WR r Q E := by with_unfolding_all (rw [e]; exact h)
theorem wb_eq {r : R (D × D)} {a b : D} {Q : D → D → Prop} {E : Er} (e : r = .ok (a, b)) (h : Q a b) : WB r Q E := by with_unfolding_all (rw [e]; exact h)
theorem we_eq {r : R (D × Env)} {a : D} {b : Env} {Q : D → Env → Prop} {E : Er} (e : r = .ok (a, b)) (h : Q a b) : WE r Q E := by with_unfolding_all (rw [e]; exact h)
theorem wt_eq {r : R (Bool × Env)} {a : Bool} {b : Env} {Q : Bool → Env → Prop} {E : Er} (e : r = .ok (a, b)) (h : Q a b) : WT r Q E := by with_unfolding_all (rw [e]; exact h)
theorem wa_eq {r : R (List D × Env)} {a : List D} {b : Env} {Q : List D → Env → Prop} {E : Er} (e : r = .ok (a, b)) (h : Q a b) : WA r Q E := by with_unfolding_all (rw [e]; exact h)
theorem ws_nx {r : R (Fl × Env)} {ρ : Env} {N : Env → Prop} {Rt : D → Env → Prop} {B C : Env → Prop} {E : Er} (e : r = .ok (.nx, ρ)) (h : N ρ) : WS r N Rt B C E := by with_unfolding_all (rw [e]; exact h)
section
variable {Q : D → Env → Prop} {QA : List D → Env → Prop} {QT : Bool → Env → Prop} {QB : D → D → Prop} {QR : D → Prop} {QO : Option Int → Env → Prop} {E : Er} {ρ : Env} {i j c n N' : Nat} {d : D} {fa fb fc : Env → R (D × Env)} {fs : Env → R (List D × Env)} {ft fu : Env → R (Bool × Env)} {fl fh : Env → R (Option Int × Env)} {g g' : D → D → Option D} {g1 : D → Option D} {gl : List D → Option D} {m : List D → R D} {mB : List D → R (D × D)} {ix : List (Nat × Nat)} {pl : List Nat}
  {N : Env → Prop} {Rt : D → Env → Prop} {B C : Env → Prop} {f h : Env → R (Fl × Env)} {tg : D → Env → Option Env}
theorem sm_of {α : Type} {o : Option α} {a : α} {K : α → Prop} (e : o = some a) (h : K a) : Sm o K := ⟨a, e, h⟩
theorem lk_of [e : GetEq ρ i d] (h : QR d) : Lk ρ i QR := ⟨d, e.eq, h⟩
theorem lk_eq (e : ρ[i]? = some (some d)) (h : QR d) : Lk ρ i QR := ⟨d, e, h⟩
theorem setN_of {x : Option D} {ρ' : Env} [e : SetEq ρ i x ρ'] (h : N ρ') : SetN ρ i x N := by unfold SetN; rw [e.eq]; exact h
theorem br_t {P P' : Prop} (h : P) : Br true P P' := ⟨fun _ => h, fun z => (nomatch z)⟩
theorem br_f {P P' : Prop} (h : P') : Br false P P' := ⟨fun z => (nomatch z), fun _ => h⟩
theorem br_dt {p P P' : Prop} [Decidable p] (hp : p) (h : P) : Br (decide p) P P' := ⟨fun _ => h, fun z => absurd hp (of_decide_eq_false z)⟩
theorem br_df {p P P' : Prop} [Decidable p] (hp : ¬ p) (h : P') : Br (decide p) P P' := ⟨fun z => absurd (of_decide_eq_true z) hp, fun _ => h⟩
theorem br_d {p P P' : Prop} [Decidable p] (h1 : p → P) (h2 : ¬ p → P') : Br (decide p) P P' := ⟨fun z => h1 (of_decide_eq_true z), fun z => h2 (of_decide_eq_false z)⟩
theorem br_n {b : Bool} {P P' : Prop} (h : Br b P' P) : Br (!b) P P' := ⟨fun z => h.2 (by simpa using z), fun z => h.1 (by simpa using z)⟩
theorem br_b {b : Bool} {P P' : Prop} (h1 : b = true → P) (h2 : b = false → P') : Br b P P' := ⟨h1, h2⟩
/-! names -/
theorem we_var [g0 : GetEq ρ i d] (h : Q d ρ) : WE (mVar i ρ) Q E := by with_unfolding_all (unfold mVar; rw [g0.eq]; exact h)
theorem we_mov [g0 : GetEq ρ i d] (h : SetN ρ i none (Q d)) : WE (mMov i ρ) Q E := by with_unfolding_all (unfold mMov; rw [g0.eq]; exact h)
theorem we_con (h : Q d ρ) : WE (mCon d ρ) Q E := by with_unfolding_all exact h
theorem ofO_sm {α β : Type} {o : Option α} {k : α → R β} {K : β → Prop} (h : Sm o fun a => WR (k a) K E) : WR ((ofO o).bind k) K E := by
  with_unfolding_all
    obtain ⟨a, e, h⟩ := h
    rw [e]; exact h
theorem we_un (h : WE (fa ρ) (fun x ρ1 => Sm (g1 x) fun y => Q y ρ1) E) : WE (mUn g1 fa ρ) Q E := by
  with_unfolding_all
    unfold mUn
    revert h
    generalize fa ρ = r
    intro h
    match r, h with
    | .ok (x, ρ1), h =>
      simp only [WE_ok, WA_ok, WT_ok, WB_ok, WO_ok, WS_nx, WS_rt] at h
      obtain ⟨y, e, h⟩ := h
      simp only [R.bind_ok, e, ofO]; exact h
    | .er c fs, h => exact h
    | .bad, h => exact h
theorem we_bin (h : WE (fa ρ) (fun x ρ1 => WE (fb ρ1) (fun y ρ2 => Sm (g x y) fun z => Q z ρ2) E) E) : WE (mBin g fa fb ρ) Q E := by
  with_unfolding_all
    unfold mBin
    revert h
    generalize fa ρ = r
    intro h
    match r, h with
    | .ok (x, ρ1), h =>
      have h : WE (fb ρ1) _ E := h
      simp only [R.bind_ok]
      revert h
      generalize fb ρ1 = r
      intro h
      match r, h with
      | .ok (y, ρ2), h =>
        simp only [WE_ok, WA_ok, WT_ok, WB_ok, WO_ok, WS_nx, WS_rt] at h
        obtain ⟨z, e, h⟩ := h
        simp only [R.bind_ok, e, ofO]; exact h
      | .er c fs, h => exact h
      | .bad, h => exact h
    | .er c fs, h => exact h
    | .bad, h => exact h
theorem wa_nil (h : QA [] ρ) : WA (mNil ρ) QA E := by with_unfolding_all exact h
theorem wa_cons (h : WE (fa ρ) (fun x ρ1 => WA (fs ρ1) (fun xs ρ2 => QA (x :: xs) ρ2) E) E) : WA (mCons fa fs ρ) QA E := by
  with_unfolding_all
    unfold mCons
    revert h
    generalize fa ρ = r
    intro h
    match r, h with
    | .ok (x, ρ1), h =>
      have h : WA (fs ρ1) _ E := h
      simp only [R.bind_ok]
      revert h
      generalize fs ρ1 = r
      intro h
      match r, h with
      | .ok (y, ρ2), h => exact h
      | .er c fs, h => exact h
      | .bad, h => exact h
    | .er c fs, h => exact h
    | .bad, h => exact h
theorem we_prim (h : WA (fs ρ) (fun xs ρ1 => Sm (gl xs) fun z => Q z ρ1) E) : WE (mPrim gl fs ρ) Q E := by
  with_unfolding_all
    unfold mPrim
    revert h
    generalize fs ρ = r
    intro h
    match r, h with
    | .ok (x, ρ1), h =>
      simp only [WE_ok, WA_ok, WT_ok, WB_ok, WO_ok, WS_nx, WS_rt] at h
      obtain ⟨y, e, h⟩ := h
      simp only [R.bind_ok, e, ofO]; exact h
    | .er c fs, h => exact h
    | .bad, h => exact h
theorem we_fldN (h : Lk ρ i fun d => Sm (gFld ix d) fun y => Q y ρ) : WE (mFldN i ix ρ) Q E := by
  with_unfolding_all
    obtain ⟨d, e1, y, e2, h⟩ := h
    unfold mFldN
    simp only [e1, e2, ofO, R.bind_ok]; exact h
theorem we_unN (h : Lk ρ i fun d => Sm (g1 d) fun y => Q y ρ) : WE (mUnN i g1 ρ) Q E := by
  with_unfolding_all
    obtain ⟨d, e1, y, e2, h⟩ := h
    unfold mUnN
    simp only [e1, e2, ofO, R.bind_ok]; exact h
theorem we_binN [g0 : GetEq ρ i d] (h : WE (fb ρ) (fun y ρ1 => Lk ρ1 i fun d => Sm (g d y) fun z => Q z ρ1) E) : WE (mBinN i g fb ρ) Q E := by
  with_unfolding_all
    have e0 := g0.eq
    unfold mBinN
    simp only [e0]
    revert h
    generalize fb ρ = r
    intro h
    match r, h with
    | .ok (x, ρ1), h =>
      simp only [WE_ok, WA_ok, WT_ok, WB_ok, WO_ok, WS_nx, WS_rt] at h
      obtain ⟨d, e1, y, e2, h⟩ := h
      simp only [R.bind_ok, e1, e2, ofO]; exact h
    | .er c fs, h => exact h
    | .bad, h => exact h
/-! calls -/
theorem we_call (h : WA (fs ρ) (fun xs ρ1 => WR (m xs) (fun d => Q d ρ1) E) E) : WE (mCall m fs ρ) Q E := by
  with_unfolding_all
    unfold mCall
    revert h
    generalize fs ρ = r
    intro h
    match r, h with
    | .ok (x, ρ1), h =>
      have h : WR (m x) _ E := h
      simp only [R.bind_ok]
      revert h
      generalize m x = r
      intro h
      match r, h with
      | .ok y, h => exact h
      | .er c fs, h => exact h
      | .bad, h => exact h
    | .er c fs, h => exact h
    | .bad, h => exact h
theorem we_callB [g0 : GetEq ρ i d] (h : WA (fs ρ) (fun xs ρ1 => Lk ρ1 i fun d0 => WB (mB (d0 :: xs)) (fun d d1 => SetN ρ1 i (some d1) (Q d)) E) E) : WE (mCallB i mB fs ρ) Q E := by
  with_unfolding_all
    have e0 := g0.eq
    unfold mCallB
    simp only [e0]
    revert h
    generalize fs ρ = r
    intro h
    match r, h with
    | .ok (x, ρ1), h =>
      simp only [WE_ok, WA_ok, WT_ok, WB_ok, WO_ok, WS_nx, WS_rt] at h
      obtain ⟨d0, e1, h⟩ := h
      simp only [R.bind_ok, e1]
      revert h
      generalize mB (d0 :: x) = r
      intro h
      match r, h with
      | .ok (y, d1), h => exact h
      | .er c fs, h => exact h
      | .bad, h => exact h
    | .er c fs, h => exact h
    | .bad, h => exact h
theorem we_callK (h : WA (fs ρ) (fun xs ρ1 => xs.length = n ∧ WR (m (permL pl xs)) (fun d => Q d ρ1) E) E) : WE (mCallK m n pl fs ρ) Q E := by
  with_unfolding_all
    unfold mCallK
    revert h
    generalize fs ρ = r
    intro h
    match r, h with
    | .ok (x, ρ1), h =>
      simp only [WE_ok, WA_ok, WT_ok, WB_ok, WO_ok, WS_nx, WS_rt] at h
      obtain ⟨e, h⟩ := h
      simp only [R.bind_ok, if_pos e]
      revert h
      generalize m (permL pl x) = r
      intro h
      match r, h with
      | .ok y, h => exact h
      | .er c fs, h => exact h
      | .bad, h => exact h
    | .er c fs, h => exact h
    | .bad, h => exact h
/-- what an __init__ gives back -/
def Non (d : D) (P : Prop) : Prop := d = .non ∧ P
theorem non_of {P : Prop} (h : P) : Non .non P := ⟨rfl, h⟩
theorem we_make (h : WA (fs ρ) (fun xs ρ1 => WB (mB (.ins c [] :: xs)) (fun d d0 => Non d (Q d0 ρ1)) E) E) : WE (mMake c mB fs ρ) Q E := by
  with_unfolding_all
    unfold mMake
    revert h
    generalize fs ρ = r
    intro h
    match r, h with
    | .ok (x, ρ1), h =>
      have h : WB (mB (.ins c [] :: x)) _ E := h
      simp only [R.bind_ok]
      revert h
      generalize mB (.ins c [] :: x) = r
      intro h
      match r, h with
      | .ok (y, d1), h =>
        simp only [WE_ok, WA_ok, WT_ok, WB_ok, WO_ok, WS_nx, WS_rt] at h
        obtain ⟨e, h⟩ := h
        subst e; exact h
      | .er c fs, h => exact h
      | .bad, h => exact h
    | .er c fs, h => exact h
    | .bad, h => exact h
theorem we_makeK (h : WA (fs ρ) (fun xs ρ1 => xs.length = n ∧ WB (mB (.ins c [] :: permL pl xs)) (fun d d0 => Non d (Q d0 ρ1)) E) E) : WE (mMakeK c mB n pl fs ρ) Q E := by
  with_unfolding_all
    unfold mMakeK
    refine we_make ?_
    revert h
    generalize fs ρ = r
    intro h
    match r, h with
    | .ok (x, ρ1), h =>
      simp only [WE_ok, WA_ok, WT_ok, WB_ok, WO_ok, WS_nx, WS_rt] at h
      obtain ⟨e, h⟩ := h
      simp only [R.bind_ok, if_pos e]; exact h
    | .er c fs, h => exact h
    | .bad, h => exact h
theorem we_makeL [g0 : GetEq ρ i (.cls c)] (h : WE (mMake c mB fs ρ) Q E) : WE (mMakeL i c mB fs ρ) Q E := by
  with_unfolding_all
    have e0 := g0.eq
    unfold mMakeL
    simp only [e0, if_true]; exact h
/-- an instance of the class c -/
def Ins (c : Nat) (d : D) (P : List D → Prop) : Prop := ∃ fs, d = .ins c fs ∧ P fs
theorem ins_of {fs : List D} {P : List D → Prop} (h : P fs) : Ins c (.ins c fs) P := ⟨fs, rfl, h⟩
theorem we_meth (h : WE (fa ρ) (fun x ρ1 => Ins c x fun fd => WA (fs ρ1) (fun xs ρ2 => WR (m (.ins c fd :: xs)) (fun d => Q d ρ2) E) E) E) : WE (mMeth c m fa fs ρ) Q E := by
  with_unfolding_all
    unfold mMeth
    revert h
    generalize fa ρ = r
    intro h
    match r, h with
    | .ok (x, ρ1), h =>
      simp only [WE_ok, WA_ok, WT_ok, WB_ok, WO_ok, WS_nx, WS_rt] at h
      obtain ⟨fd, e, h⟩ := h
      subst e
      simp only [R.bind_ok, if_true]
      revert h
      generalize fs ρ1 = r
      intro h
      match r, h with
      | .ok (xs, ρ2), h =>
        have h : WR (m (.ins c fd :: xs)) _ E := h
        simp only [R.bind_ok]
        revert h
        generalize m (.ins c fd :: xs) = r
        intro h
        match r, h with
        | .ok y, h => exact h
        | .er c fs, h => exact h
        | .bad, h => exact h
      | .er c fs, h => exact h
      | .bad, h => exact h
    | .er c fs, h => exact h
    | .bad, h => exact h
/-! tests -/
def Bl (d : D) (P : Bool → Prop) : Prop := ∃ b, d = .bl b ∧ P b
theorem bl_of {b : Bool} {P : Bool → Prop} (h : P b) : Bl (.bl b) P := ⟨b, rfl, h⟩
theorem wt_val (h : WE (fa ρ) (fun x ρ1 => Bl x fun b => QT b ρ1) E) : WT (mVal fa ρ) QT E := by
  with_unfolding_all
    unfold mVal
    revert h
    generalize fa ρ = r
    intro h
    match r, h with
    | .ok (x, ρ1), h =>
      simp only [WE_ok, WA_ok, WT_ok, WB_ok, WO_ok, WS_nx, WS_rt] at h
      obtain ⟨b, e, h⟩ := h
      subst e; exact h
    | .er c fs, h => exact h
    | .bad, h => exact h
theorem wt_bind {k : Bool × Env → R (Bool × Env)} (h : WT (ft ρ) (fun b ρ1 => WT (k (b, ρ1)) QT E) E) : WT ((ft ρ).bind k) QT E := by
  with_unfolding_all
    revert h
    generalize ft ρ = r
    intro h
    match r, h with
    | .ok (b, ρ1), h => exact h
    | .er c fs, h => exact h
    | .bad, h => exact h
theorem wt_and (h : WT (ft ρ) (fun b ρ1 => Br b (WT (fu ρ1) QT E) (QT false ρ1)) E) : WT (mAnd ft fu ρ) QT E := by
  with_unfolding_all
    unfold mAnd
    refine wt_bind (h.mono (fun b ρ1 z => ?_) fun _ _ z => z)
    cases b with
    | true => exact z.1 rfl
    | false => exact z.2 rfl
theorem wt_or (h : WT (ft ρ) (fun b ρ1 => Br b (QT true ρ1) (WT (fu ρ1) QT E)) E) : WT (mOr ft fu ρ) QT E := by
  with_unfolding_all
    unfold mOr
    refine wt_bind (h.mono (fun b ρ1 z => ?_) fun _ _ z => z)
    cases b with
    | true => exact z.1 rfl
    | false => exact z.2 rfl
theorem wt_not (h : WT (ft ρ) (fun b ρ1 => QT (!b) ρ1) E) : WT (mNot ft ρ) QT E := by
  with_unfolding_all
    unfold mNot
    exact wt_bind h
theorem wt_keep (b0 : Bool) (h : WT (ft ρ) (fun b ρ1 => b = b0 ∧ ρ1 = ρ) E0) (k : QT b0 ρ) : WT (ft ρ) QT E := by
  with_unfolding_all
    refine h.mono (fun b ρ1 z => ?_) fun _ _ z => z.elim
    obtain ⟨rfl, rfl⟩ := z
    exact k
theorem we_keep (d0 : D) (h : WE (fa ρ) (fun b ρ1 => b = d0 ∧ ρ1 = ρ) E0) (k : Q d0 ρ) : WE (fa ρ) Q E := by
  with_unfolding_all
    refine h.mono (fun b ρ1 z => ?_) fun _ _ z => z.elim
    obtain ⟨rfl, rfl⟩ := z
    exact k
theorem wt_yes (h : QT true ρ) : WT (mYes ρ) QT E := by with_unfolding_all exact h
theorem we_bindT {k : Bool × Env → R (D × Env)} (h : WT (ft ρ) (fun b ρ1 => WE (k (b, ρ1)) Q E) E) : WE ((ft ρ).bind k) Q E := by
  with_unfolding_all
    revert h
    generalize ft ρ = r
    intro h
    match r, h with
    | .ok (b, ρ1), h => exact h
    | .er c fs, h => exact h
    | .bad, h => exact h
theorem we_bindE {k : D × Env → R (D × Env)} (h : WE (fa ρ) (fun b ρ1 => WE (k (b, ρ1)) Q E) E) : WE ((fa ρ).bind k) Q E := by
  with_unfolding_all
    revert h
    generalize fa ρ = r
    intro h
    match r, h with
    | .ok (b, ρ1), h => exact h
    | .er c fs, h => exact h
    | .bad, h => exact h
theorem we_if (h : WT (ft ρ) (fun b ρ1 => Br b (WE (fa ρ1) Q E) (WE (fb ρ1) Q E)) E) : WE (mIf ft fa fb ρ) Q E := by
  with_unfolding_all
    unfold mIf
    refine we_bindT (h.mono (fun b ρ1 z => ?_) fun _ _ z => z)
    cases b with
    | true => exact z.1 rfl
    | false => exact z.2 rfl
theorem we_and (h : WE (fa ρ) (fun x ρ1 => Bl x fun b => Br b (WE (fb ρ1) Q E) (Q (.bl false) ρ1)) E) : WE (mAndV fa fb ρ) Q E := by
  with_unfolding_all
    unfold mAndV
    refine we_bindE (h.mono (fun x ρ1 z => ?_) fun _ _ z => z)
    obtain ⟨b, rfl, z⟩ := z
    cases b with
    | true => exact z.1 rfl
    | false => exact z.2 rfl
theorem we_or (h : WE (fa ρ) (fun x ρ1 => Bl x fun b => Br b (Q (.bl true) ρ1) (WE (fb ρ1) Q E)) E) : WE (mOrV fa fb ρ) Q E := by
  with_unfolding_all
    unfold mOrV
    refine we_bindE (h.mono (fun x ρ1 z => ?_) fun _ _ z => z)
    obtain ⟨b, rfl, z⟩ := z
    cases b with
    | true => exact z.1 rfl
    | false => exact z.2 rfl
theorem we_ofO {o : Option D} {ρ1 : Env} (h : Sm o fun z => Q z ρ1) : WE ((ofO o).bind fun d => .ok (d, ρ1)) Q E := by
  with_unfolding_all
    obtain ⟨z, e, h⟩ := h
    rw [e]; exact h
theorem we_chain (h : WE (fa ρ) (fun x ρ1 => WE (fb ρ1) (fun y ρ2 => Sm (g x y) fun z => Bl z fun b => Br b (WE (fc ρ2) (fun w ρ3 => Sm (g' y w) fun d => Q d ρ3) E) (Q (.bl false) ρ2)) E) E) : WE (mChain g g' fa fb fc ρ) Q E := by
  with_unfolding_all
    unfold mChain
    refine we_bindE (h.mono (fun x ρ1 z => ?_) fun _ _ z => z)
    refine we_bindE (z.mono (fun y ρ2 z => ?_) fun _ _ z => z)
    obtain ⟨w, e, b, rfl, z⟩ := z
    dsimp only
    rw [e]
    cases b with
    | true => exact we_bindE ((z.1 rfl).mono (fun w ρ3 z => we_ofO z) fun _ _ z => z)
    | false => exact z.2 rfl
/-! slices -/
theorem wo_none (h : QO none ρ) : WO (mNoP ρ) QO E := by with_unfolding_all exact h
def In (d : D) (P : Int → Prop) : Prop := ∃ i, d = .int i ∧ P i
theorem in_of {k : Int} {P : Int → Prop} (h : P k) : In (.int k) P := ⟨k, rfl, h⟩
theorem wo_part (h : WE (fa ρ) (fun x ρ1 => In x fun k => QO (some k) ρ1) E) : WO (mPart fa ρ) QO E := by
  with_unfolding_all
    unfold mPart
    revert h
    generalize fa ρ = r
    intro h
    match r, h with
    | .ok (x, ρ1), h =>
      simp only [WE_ok, WA_ok, WT_ok, WB_ok, WO_ok, WS_nx, WS_rt] at h
      obtain ⟨b, e, h⟩ := h
      subst e; exact h
    | .er c fs, h => exact h
    | .bad, h => exact h
theorem we_bindO {k : Option Int × Env → R (D × Env)} (h : WO (fl ρ) (fun b ρ1 => WE (k (b, ρ1)) Q E) E) : WE ((fl ρ).bind k) Q E := by
  with_unfolding_all
    revert h
    generalize fl ρ = r
    intro h
    match r, h with
    | .ok (b, ρ1), h => exact h
    | .er c fs, h => exact h
    | .bad, h => exact h
theorem WO.mono {r : R (Option Int × Env)} {Q Q' : Option Int → Env → Prop} {E E' : Er} (h : WO r Q E) (q : ∀ a b, Q a b → Q' a b) (e : ∀ c fs, E c fs → E' c fs) : WO r Q' E' := by
  with_unfolding_all
    cases r with
    | ok a => exact q _ _ h
    | er c fs => exact e _ _ h
    | bad => exact h
theorem we_sl (h : WE (fa ρ) (fun x ρ1 => WO (fl ρ1) (fun l ρ2 => WO (fh ρ2) (fun u ρ3 => Sm (gSl x l u) fun d => Q d ρ3) E) E) E) : WE (mSl fa fl fh ρ) Q E := by
  with_unfolding_all
    unfold mSl
    refine we_bindE (h.mono (fun x ρ1 z => ?_) fun _ _ z => z)
    refine we_bindO (z.mono (fun y ρ2 z => ?_) fun _ _ z => z)
    exact we_bindO (z.mono (fun y ρ2 z => we_ofO z) fun _ _ z => z)
theorem we_slN [g0 : GetEq ρ i d] (h : WO (fl ρ) (fun l ρ2 => WO (fh ρ2) (fun u ρ3 => Lk ρ3 i fun x => Sm (gSl x l u) fun d => Q d ρ3) E) E) : WE (mSlN i fl fh ρ) Q E := by
  with_unfolding_all
    have e0 := g0.eq
    unfold mSlN
    simp only [e0]
    refine we_bindO (h.mono (fun y ρ2 z => ?_) fun _ _ z => z)
    refine we_bindO (z.mono (fun y ρ2 z => ?_) fun _ _ z => z)
    obtain ⟨x, e, z⟩ := z
    simp only [e]
    exact we_ofO z
/-! statements -/
theorem ws_bindE {k : D × Env → R (Fl × Env)} (h : WE (fa ρ) (fun d ρ1 => WS (k (d, ρ1)) N Rt B C E) E) : WS ((fa ρ).bind k) N Rt B C E := by
  with_unfolding_all
    revert h
    generalize fa ρ = r
    intro h
    match r, h with
    | .ok (b, ρ1), h => exact h
    | .er c fs, h => exact h
    | .bad, h => exact h
theorem ws_bindA {k : List D × Env → R (Fl × Env)} (h : WA (fs ρ) (fun d ρ1 => WS (k (d, ρ1)) N Rt B C E) E) : WS ((fs ρ).bind k) N Rt B C E := by
  with_unfolding_all
    revert h
    generalize fs ρ = r
    intro h
    match r, h with
    | .ok (b, ρ1), h => exact h
    | .er c fs, h => exact h
    | .bad, h => exact h
theorem ws_bindT {k : Bool × Env → R (Fl × Env)} (h : WT (ft ρ) (fun d ρ1 => WS (k (d, ρ1)) N Rt B C E) E) : WS ((ft ρ).bind k) N Rt B C E := by
  with_unfolding_all
    revert h
    generalize ft ρ = r
    intro h
    match r, h with
    | .ok (b, ρ1), h => exact h
    | .er c fs, h => exact h
    | .bad, h => exact h
theorem ws_skip (h : N ρ) : WS (mSkip ρ) N Rt B C E := by with_unfolding_all exact h
theorem ws_brk (h : B ρ) : WS (mBrk ρ) N Rt B C E := by with_unfolding_all exact h
theorem ws_cnt (h : C ρ) : WS (mCnt ρ) N Rt B C E := by with_unfolding_all exact h
theorem ws_retN (h : Rt .non ρ) : WS (mRetN ρ) N Rt B C E := by with_unfolding_all exact h
theorem ws_seq (k : WS (f ρ) (fun ρ1 => WS (h ρ1) N Rt B C E) Rt B C E) : WS (mSeq f h ρ) N Rt B C E := by
  with_unfolding_all
    unfold mSeq
    revert k
    generalize f ρ = r
    intro k
    match r, k with
    | .ok (.nx, ρ1), k => exact k
    | .ok (.rt d, ρ1), k => exact k
    | .ok (.bk, ρ1), k => exact k
    | .ok (.ct, ρ1), k => exact k
    | .er c fs, k => exact k
    | .bad, k => exact k
theorem ws_set (k : WE (fa ρ) (fun d ρ1 => SetN ρ1 i (some d) N) E) : WS (mSet i fa ρ) N Rt B C E := by
  with_unfolding_all
    unfold mSet
    exact ws_bindE k
theorem ws_ret (k : WE (fa ρ) Rt E) : WS (mRet fa ρ) N Rt B C E := by
  with_unfolding_all
    unfold mRet
    exact ws_bindE k
theorem ws_drop (k : WE (fa ρ) (fun _ ρ1 => N ρ1) E) : WS (mDrop fa ρ) N Rt B C E := by
  with_unfolding_all
    unfold mDrop
    exact ws_bindE k
theorem ws_if (k : WT (ft ρ) (fun b ρ1 => Br b (WS (f ρ1) N Rt B C E) (WS (h ρ1) N Rt B C E)) E) : WS (mIfS ft f h ρ) N Rt B C E := by
  with_unfolding_all
    unfold mIfS
    refine ws_bindT (k.mono (fun b ρ1 z => ?_) fun _ _ z => z)
    cases b with
    | true => exact z.1 rfl
    | false => exact z.2 rfl
theorem ws_asg (k : WE (fa ρ) (fun d ρ1 => Sm (tg d ρ1) N) E) : WS (mAsg tg fa ρ) N Rt B C E := by
  with_unfolding_all
    unfold mAsg
    refine ws_bindE (k.mono (fun b ρ1 z => ?_) fun _ _ z => z)
    obtain ⟨a, e, z⟩ := z
    dsimp only
    rw [e]; exact z
theorem sm_gtN (k : SetN ρ i (some d) N) : Sm (gtN i d ρ) N := ⟨_, rfl, k⟩
theorem sm_gtT {gs : List D → Env → Option Env} {xs : List D} (e : xs.length = n) (k : Sm (gs xs ρ) N) : Sm (gtT n gs (.tup xs) ρ) N := by
  obtain ⟨a, e2, k⟩ := k
  exact ⟨a, (if_pos e).trans e2, k⟩
theorem sm_gtNil (k : N ρ) : Sm (gtNil [] ρ) N := ⟨_, rfl, k⟩
theorem sm_gtCons {gs : List D → Env → Option Env} {xs : List D} (k : Sm (tg d ρ) fun ρ1 => Sm (gs xs ρ1) N) : Sm (gtCons tg gs (d :: xs) ρ) N := by
  obtain ⟨a, e, b, e2, k⟩ := k
  exact ⟨b, by show Option.bind (tg d ρ) _ = _; rw [e]; exact e2, k⟩
theorem ws_par {x y : Nat} (k : WA (fs ρ) (fun ds ρ1 => ∃ d e, ds = [d, e] ∧ SetN ρ1 x (some d) fun ρ2 => SetN ρ2 y (some e) N) E) : WS (mPar x y fs ρ) N Rt B C E := by
  with_unfolding_all
    unfold mPar
    refine ws_bindA (k.mono (fun b ρ1 z => ?_) fun _ _ z => z)
    obtain ⟨d, e, rfl, z⟩ := z
    exact z
theorem two_of {d e : D} {P : D → D → Prop} (h : P d e) : ∃ d' e', [d, e] = [d', e'] ∧ P d' e' := ⟨d, e, rfl, h⟩
theorem ws_aug (k : Lk ρ i fun x => WE (fb ρ) (fun y ρ1 => Sm (g x y) fun d => SetN ρ1 i (some d) N) E) : WS (mAug i g fb ρ) N Rt B C E := by
  with_unfolding_all
    obtain ⟨x, e, k⟩ := k
    unfold mAug
    simp only [e]
    refine ws_bindE (k.mono (fun b ρ1 z => ?_) fun _ _ z => z)
    obtain ⟨a, e, z⟩ := z
    dsimp only
    rw [e]; exact z
/-- a list at a name -/
def Lst (d : D) (P : List D → Prop) : Prop := ∃ xs, d = .lst xs ∧ P xs
theorem lst_of {xs : List D} {P : List D → Prop} (h : P xs) : Lst (.lst xs) P := ⟨xs, rfl, h⟩
theorem ws_app {xs0 : List D} [g0 : GetEq ρ i (.lst xs0)] (k : WE (fa ρ) (fun d ρ1 => Lk ρ1 i fun x => Lst x fun xs => xs.length < 100000 ∧ SetN ρ1 i (some (.lst (xs ++ [d]))) N) E) : WS (mApp i fa ρ) N Rt B C E := by
  with_unfolding_all
    have e0 := g0.eq
    unfold mApp
    simp only [e0]
    refine ws_bindE (k.mono (fun b ρ1 z => ?_) fun _ _ z => z)
    obtain ⟨x, e, xs, rfl, l, z⟩ := z
    simp only [e, if_pos l]
    exact z
theorem ws_ext {xs0 : List D} [g0 : GetEq ρ i (.lst xs0)] (k : WE (fa ρ) (fun d ρ1 => Lst d fun ys => Lk ρ1 i fun x => Lst x fun xs => xs.length + ys.length < 100000 ∧ SetN ρ1 i (some (.lst (xs ++ ys))) N) E) : WS (mExt i fa ρ) N Rt B C E := by
  with_unfolding_all
    have e0 := g0.eq
    unfold mExt
    simp only [e0]
    refine ws_bindE (k.mono (fun b ρ1 z => ?_) fun _ _ z => z)
    obtain ⟨ys, rfl, x, e, xs, rfl, l, z⟩ := z
    simp only [e, if_pos l]
    exact z
theorem ws_setix (k : WE (fa ρ) (fun d ρ1 => Lk ρ1 i fun x => Lst x fun _ => WE (fb ρ1) (fun j ρ2 => In j fun j => Lk ρ2 i fun x => Lst x fun xs => Sm (gPut xs j d) fun ys => SetN ρ2 i (some (.lst ys)) N) E) E) : WS (mSetIx i fa fb ρ) N Rt B C E := by
  with_unfolding_all
    unfold mSetIx
    refine ws_bindE (k.mono (fun b ρ1 z => ?_) fun _ _ z => z)
    obtain ⟨x, e, xs, rfl, z⟩ := z
    simp only [e]
    refine ws_bindE (z.mono (fun b ρ1 z => ?_) fun _ _ z => z)
    obtain ⟨j, rfl, x, e, xs, rfl, ys, e2, z⟩ := z
    simp only [e, e2, ofO, R.bind_ok]
    exact z
theorem we_pop {xs : List D} [g0 : GetEq ρ i (.lst xs)] (h : Sm xs.getLast? fun d => SetN ρ i (some (.lst xs.dropLast)) (Q d)) : WE (mPop i ρ) Q E := by
  with_unfolding_all
    have e0 := g0.eq
    obtain ⟨d, e, h⟩ := h
    unfold mPop
    simp only [e0, e]; exact h
theorem ws_fset {c j : Nat} (k : WE (fa ρ) (fun d ρ1 => Lk ρ1 i fun x => Ins c x fun fs => (j = fs.length ∧ SetN ρ1 i (some (.ins c (fs ++ [d]))) N) ∨ (j < fs.length ∧ SetN ρ1 i (some (.ins c (fs.set j d))) N)) E) : WS (mFldSet i c j fa ρ) N Rt B C E := by
  with_unfolding_all
    unfold mFldSet
    refine ws_bindE (k.mono (fun b ρ1 z => ?_) fun _ _ z => z)
    obtain ⟨x, e, fs, rfl, z⟩ := z
    simp only [e, if_true]
    rcases z with ⟨h, z⟩ | ⟨h, z⟩
    · rw [if_pos h]; exact z
    · rw [if_neg (by omega), if_pos h]; exact z
theorem ws_try (k : WS (f ρ) N Rt B C E0) : WS (mTry f ρ) N Rt B C E := by
  with_unfolding_all
    unfold mTry
    revert k
    generalize f ρ = r
    intro k
    match r, k with
    | .ok (.nx, ρ1), k => exact k
    | .ok (.rt d, ρ1), k => exact k
    | .ok (.bk, ρ1), k => exact k
    | .ok (.ct, ρ1), k => exact k
    | .er c fs, k => exact k.elim
    | .bad, k => exact k
/-! loops -/
theorem wa_bindE {k : D × Env → R (List D × Env)} (h : WE (fa ρ) (fun d ρ1 => WA (k (d, ρ1)) QA E) E) : WA ((fa ρ).bind k) QA E := by
  with_unfolding_all
    revert h
    generalize fa ρ = r
    intro h
    match r, h with
    | .ok (b, ρ1), h => exact h
    | .er c fs, h => exact h
    | .bad, h => exact h
theorem wa_bindA {k : List D × Env → R (List D × Env)} (h : WA (fs ρ) (fun d ρ1 => WA (k (d, ρ1)) QA E) E) : WA ((fs ρ).bind k) QA E := by
  with_unfolding_all
    revert h
    generalize fs ρ = r
    intro h
    match r, h with
    | .ok (b, ρ1), h => exact h
    | .er c fs, h => exact h
    | .bad, h => exact h
theorem wa_itL (h : WE (fa ρ) (fun d ρ1 => Lst d fun xs => QA xs ρ1) E) : WA (mItL fa ρ) QA E := by
  with_unfolding_all
    unfold mItL
    refine wa_bindE (h.mono (fun b ρ1 z => ?_) fun _ _ z => z)
    obtain ⟨xs, rfl, z⟩ := z
    exact z
def Tup (d : D) (P : List D → Prop) : Prop := ∃ xs, d = .tup xs ∧ P xs
theorem tup_of {xs : List D} {P : List D → Prop} (h : P xs) : Tup (.tup xs) P := ⟨xs, rfl, h⟩
theorem wa_itT (h : WE (fa ρ) (fun d ρ1 => Tup d fun xs => QA xs ρ1) E) : WA (mItT fa ρ) QA E := by
  with_unfolding_all
    unfold mItT
    refine wa_bindE (h.mono (fun b ρ1 z => ?_) fun _ _ z => z)
    obtain ⟨xs, rfl, z⟩ := z
    exact z
theorem wa_seqD {hh : List D → List D} (h : WE (fa ρ) (fun d ρ1 => Sm (seqD d) fun p => QA (hh p.2) ρ1) E) : WA (mSeqD hh fa ρ) QA E := by
  with_unfolding_all
    unfold mSeqD
    refine wa_bindE (h.mono (fun b ρ1 z => ?_) fun _ _ z => z)
    obtain ⟨p, e, z⟩ := z
    dsimp only
    rw [e]; exact z
/-- one int -/
def Is1 (ds : List D) (P : Int → Prop) : Prop := ∃ j, ds = [.int j] ∧ P j
theorem is1_of {j : Int} {P : Int → Prop} (h : P j) : Is1 [.int j] P := ⟨j, rfl, h⟩
def Is2 (ds : List D) (P : Int → Int → Prop) : Prop := ∃ i j, ds = [.int i, .int j] ∧ P i j
theorem is2_of {i j : Int} {P : Int → Int → Prop} (h : P i j) : Is2 [.int i, .int j] P := ⟨i, j, rfl, h⟩
def Is3 (ds : List D) (P : Int → Int → Prop) : Prop := ∃ i j, ds = [.int i, .int j, .int (-1)] ∧ P i j
theorem is3_of {i j : Int} {P : Int → Int → Prop} (h : P i j) : Is3 [.int i, .int j, .int (-1)] P := ⟨i, j, rfl, h⟩
def Rng (i : Int) : Prop := -4611686018427387904 ≤ i ∧ i < 4611686018427387904
theorem Rng.line {i : Int} (h : Rng i) : inLine i = true := inLine_ok h.1 h.2
theorem wa_r1 (h : WA (fs ρ) (fun ds ρ1 => Is1 ds fun j => Rng j ∧ QA (intsFrom 0 j.toNat) ρ1) E) : WA (mItR1 fs ρ) QA E := by
  with_unfolding_all
    unfold mItR1
    refine wa_bindA (h.mono (fun b ρ1 z => ?_) fun _ _ z => z)
    obtain ⟨j, rfl, l, z⟩ := z
    simp only [asI1, l.line, if_true]
    exact z
theorem wa_r2 (h : WA (fs ρ) (fun ds ρ1 => Is2 ds fun i j => (Rng i ∧ Rng j) ∧ QA (intsFrom i (j - i).toNat) ρ1) E) : WA (mItR2 fs ρ) QA E := by
  with_unfolding_all
    unfold mItR2
    refine wa_bindA (h.mono (fun b ρ1 z => ?_) fun _ _ z => z)
    obtain ⟨i, j, rfl, ⟨l, l'⟩, z⟩ := z
    simp only [asI2, l.line, l'.line, Bool.and_self, if_true]
    exact z
theorem wa_r3 (h : WA (fs ρ) (fun ds ρ1 => Is3 ds fun i j => (Rng i ∧ Rng j) ∧ QA (intsDown i (i - j).toNat) ρ1) E) : WA (mItR3 fs ρ) QA E := by
  with_unfolding_all
    unfold mItR3
    refine wa_bindA (h.mono (fun b ρ1 z => ?_) fun _ _ z => z)
    obtain ⟨i, j, rfl, ⟨l, l'⟩, z⟩ := z
    simp only [asI3, l.line, l'.line, Bool.and_self, if_true, decide_true, Bool.and_true]
    exact z
def WF (tg : D → Env → Option Env) (f : Env → R (Fl × Env)) (ds : List D) (ρ : Env) (N : Env → Prop) (Rt : D → Env → Prop) (E : Er) : Prop := WS (mForL tg f ds ρ) N Rt (fun _ => False) (fun _ => False) E
theorem ws_for (k : WA (fs ρ) (fun ds ρ1 => WF tg f ds ρ1 N Rt E) E) : WS (mFor fs tg f ρ) N Rt B C E := by
  with_unfolding_all
    unfold mFor
    refine ws_bindA (k.mono (fun b ρ1 z => ?_) fun _ _ z => z)
    exact z.mono (fun _ z => z) (fun _ _ z => z) (fun _ z => z.elim) (fun _ z => z.elim) fun _ _ z => z
theorem wf_nil (h : N ρ) : WF tg f [] ρ N Rt E := by with_unfolding_all exact h
theorem wf_cons {ds : List D} (k : Sm (tg d ρ) fun ρ1 => WS (f ρ1) (fun ρ2 => WF tg f ds ρ2 N Rt E) Rt N (fun ρ2 => WF tg f ds ρ2 N Rt E) E) : WF tg f (d :: ds) ρ N Rt E := by
  with_unfolding_all
    obtain ⟨ρ1, e, k⟩ := k
    unfold WF
    unfold mForL
    rw [e]
    simp only [ofO, R.bind_ok]
    revert k
    generalize f ρ1 = r
    intro k
    match r, k with
    | .ok (.nx, ρ1), k => exact k
    | .ok (.rt d, ρ1), k => exact k
    | .ok (.bk, ρ1), k => exact k
    | .ok (.ct, ρ1), k => exact k
    | .er c fs, k => exact k
    | .bad, k => exact k
theorem wf_inv0 (I : Nat → Env → Prop) : ∀ (ds : List D) (k : Nat) (ρ : Env), I k ρ → (∀ i d ρ, ds[i]? = some d → I (k + i) ρ → Sm (tg d ρ) fun ρ1 => WS (f ρ1) (I (k + i + 1)) Rt N (I (k + i + 1)) E) → (∀ ρ', I (k + ds.length) ρ' → N ρ') → WF tg f ds ρ N Rt E
  | [], k, ρ, h0, _, he => wf_nil (he ρ h0)
  | d :: ds, k, ρ, h0, st, he => by
    have next : ∀ ρ2, I (k + 1) ρ2 → WF tg f ds ρ2 N Rt E := fun ρ2 h1 => by
      refine wf_inv0 I ds (k + 1) ρ2 h1 (fun i d' ρ' hd hi => ?_) fun ρ' h => he ρ' (by rw [List.length_cons, show k + (ds.length + 1) = k + 1 + ds.length by omega]; exact h)
      have e : k + 1 + i = k + (i + 1) := by omega
      rw [e] at hi ⊢
      exact st (i + 1) d' ρ' (by simpa using hd) hi
    refine wf_cons ?_
    obtain ⟨ρ1, e1, s1⟩ := st 0 d ρ rfl h0
    exact ⟨ρ1, e1, s1.mono next (fun _ _ z => z) (fun _ z => z) next fun _ _ z => z⟩
/-- a loop by its invariant -/
theorem wf_inv {ds : List D} (I : Nat → Env → Prop) (h0 : I 0 ρ) (st : ∀ i d ρ, ds[i]? = some d → I i ρ → Sm (tg d ρ) fun ρ1 => WS (f ρ1) (I (i + 1)) Rt N (I (i + 1)) E) (he : ∀ ρ', I ds.length ρ' → N ρ') : WF tg f ds ρ N Rt E :=
  wf_inv0 I ds 0 ρ h0 (fun i d ρ hd hi => by rw [Nat.zero_add] at hi ⊢; exact st i d ρ hd hi) fun ρ' h => he ρ' (by rw [Nat.zero_add] at h; exact h)
/-- over range(n) -/
theorem wf_rng {lo : Int} {k : Nat} (I : Nat → Env → Prop) (h0 : I 0 ρ) (st : ∀ (i : Nat) (ρ : Env), i < k → I i ρ → Sm (tg (.int (lo + (i : Int))) ρ) fun ρ1 => WS (f ρ1) (I (i + 1)) Rt N (I (i + 1)) E) (he : ∀ ρ', I k ρ' → N ρ') : WF tg f (intsFrom lo k) ρ N Rt E :=
  wf_inv I h0 (fun i d ρ hd hi => by obtain ⟨l, rfl⟩ := intsFrom_at hd; exact st i ρ l hi) fun ρ' h => he ρ' (by rw [intsFrom_length] at h; exact h)
theorem wf_down {lo : Int} {k : Nat} (I : Nat → Env → Prop) (h0 : I 0 ρ) (st : ∀ (i : Nat) (ρ : Env), i < k → I i ρ → Sm (tg (.int (lo - (i : Int))) ρ) fun ρ1 => WS (f ρ1) (I (i + 1)) Rt N (I (i + 1)) E) (he : ∀ ρ', I k ρ' → N ρ') : WF tg f (intsDown lo k) ρ N Rt E :=
  wf_inv I h0 (fun i d ρ hd hi => by obtain ⟨l, rfl⟩ := intsDown_at hd; exact st i ρ l hi) fun ρ' h => he ρ' (by rw [show (intsDown lo k).length = k by simp [intsDown]] at h; exact h)
/-- over a list that is told by a list -/
theorem wf_map {α : Type} {enc : α → D} {as : List α} (I : Nat → Env → Prop) (h0 : I 0 ρ) (st : ∀ (i : Nat) (a : α) (ρ : Env), as[i]? = some a → I i ρ → Sm (tg (enc a) ρ) fun ρ1 => WS (f ρ1) (I (i + 1)) Rt N (I (i + 1)) E) (he : ∀ ρ', I as.length ρ' → N ρ') : WF tg f (as.map enc) ρ N Rt E :=
  wf_inv I h0 (fun i d ρ hd hi => by
    rw [List.getElem?_map] at hd
    cases q : as[i]? with
    | none => rw [q] at hd; cases hd
    | some a => rw [q] at hd; cases hd; exact st i a ρ q hi) fun ρ' h => he ρ' (by rw [List.length_map] at h; exact h)
/-- while, by a measure -/
theorem ws_while (I : Nat → Env → Prop) : ∀ (n k : Nat) (ρ : Env), k < n → I k ρ → (∀ k ρ, I k ρ → WT (ft ρ) (fun b ρ1 => Br b (WS (f ρ1) (fun ρ2 => ∃ k', k' < k ∧ I k' ρ2) Rt N (fun ρ2 => ∃ k', k' < k ∧ I k' ρ2) E) (N ρ1)) E) → WS (mWhile n ft f ρ) N Rt B C E
  | 0, k, ρ, hk, _, _ => by omega
  | n + 1, k, ρ, hk, h0, st => by
    with_unfolding_all
      unfold mWhile
      refine ws_bindT ((st k ρ h0).mono (fun b ρ1 z => ?_) fun _ _ z => z)
      cases b with
      | false => exact z.2 rfl
      | true =>
        have z := z.1 rfl
        have next : ∀ ρ2, (∃ k', k' < k ∧ I k' ρ2) → WS (mWhile n ft f ρ2) N Rt B C E := fun ρ2 ⟨k', l, h⟩ => ws_while I n k' ρ2 (by omega) h st
        simp only [if_true]
        revert z
        generalize f ρ1 = r
        intro z
        match r, z with
        | .ok (.nx, ρ1), z => exact next _ z
        | .ok (.rt d, ρ1), z => exact z
        | .ok (.bk, ρ1), z => exact z
        | .ok (.ct, ρ1), z => exact next _ z
        | .er c fs, z => exact z
        | .bad, z => exact z
/-! comprehensions -/
theorem back_wipe {ρ : Env} {vs : List Nat} : backE ρ (wipeE ρ vs) vs = ρ := by
  have h : ∀ (us : List Nat) (ρ' : Env), ρ'.length = ρ.length → (∀ k, k ∉ us → ρ'[k]? = ρ[k]?) → backE ρ ρ' us = ρ := by
    intro us
    induction us with
    | nil =>
      intro ρ' _ h
      exact List.ext_getElem? fun k => h k (by simp)
    | cons u us ih =>
      intro ρ' hl h
      show (backE ρ ρ' us).set u ((ρ[u]?).getD none) = ρ
      have e : backE ρ ρ' us = ρ.set u ((ρ'[u]?).getD none) ∨ backE ρ ρ' us = ρ := by
        by_cases hu : u ∈ us
        · refine .inr (ih ρ' hl fun k hk => h k ?_)
          intro z
          rcases List.mem_cons.mp z with z | z
          · subst z; exact hk hu
          · exact hk z
        · left
          have g : backE ρ (ρ'.set u ((ρ[u]?).getD none)) us = ρ := ih _ (by rw [List.length_set]; exact hl) fun k hk => by
            by_cases e : k = u
            · subst e
              by_cases hlt : k < ρ.length
              · rw [List.getElem?_set_self (by omega), List.getElem?_eq_getElem hlt]; rfl
              · rw [List.getElem?_eq_none (by rw [List.length_set]; omega), List.getElem?_eq_none (by omega)]
            · rw [List.getElem?_set_ne (Ne.symm e)]
              exact h k fun z => (List.mem_cons.mp z).elim e hk
          -- setting outside us goes through
          have comm : ∀ (us : List Nat) (τ : Env) (x : Option D), u ∉ us → backE ρ (τ.set u x) us = (backE ρ τ us).set u x := by
            intro us
            induction us with
            | nil => intro τ x _; rfl
            | cons w us ih2 =>
              intro τ x hu
              show (backE ρ (τ.set u x) us).set w _ = ((backE ρ τ us).set w _).set u x
              rw [ih2 τ x fun z => hu (List.mem_cons_of_mem _ z)]
              exact List.set_comm _ _ fun z => hu (by rw [z]; exact List.mem_cons_self)
          rw [comm us ρ' _ hu] at g
          refine List.ext_getElem? fun k => ?_
          by_cases e : k = u
          · subst e
            by_cases hlt : k < ρ.length
            · rw [List.getElem?_set_self hlt]
              have key : ∀ (us : List Nat), k ∉ us → (backE ρ ρ' us)[k]? = ρ'[k]? := by
                intro us
                induction us with
                | nil => intro _; rfl
                | cons w us ih2 =>
                  intro hu
                  show ((backE ρ ρ' us).set w _)[k]? = _
                  rw [List.getElem?_set_ne fun z => hu (by rw [z]; exact List.mem_cons_self)]
                  exact ih2 fun z => hu (List.mem_cons_of_mem _ z)
              rw [key us hu, List.getElem?_eq_getElem (by omega)]; rfl
            · rw [List.getElem?_eq_none (by rw [backE_length]; omega), List.getElem?_eq_none (by rw [List.length_set]; omega)]
          · have g2 := congrArg (fun l => l[k]?) g
            simp only [List.getElem?_set_ne (Ne.symm e)] at g2
            rw [g2, List.getElem?_set_ne (Ne.symm e)]
      rcases e with e | e
      · rw [e, List.set_set]
        refine List.ext_getElem? fun k => ?_
        by_cases e : k = u
        · subst e
          by_cases hlt : k < ρ.length
          · rw [List.getElem?_set_self hlt, List.getElem?_eq_getElem hlt]; rfl
          · rw [List.getElem?_eq_none (by rw [List.length_set]; omega), List.getElem?_eq_none (by omega)]
        · rw [List.getElem?_set_ne (Ne.symm e)]
      · rw [e]
        refine List.ext_getElem? fun k => ?_
        by_cases e : k = u
        · subst e
          by_cases hlt : k < ρ.length
          · rw [List.getElem?_set_self hlt, List.getElem?_eq_getElem hlt]; rfl
          · rw [List.getElem?_eq_none (by rw [List.length_set]; omega), List.getElem?_eq_none (by omega)]
        · rw [List.getElem?_set_ne (Ne.symm e)]
  refine h vs _ wipeE_length fun k hk => ?_
  have : ∀ (vs : List Nat), k ∉ vs → (wipeE ρ vs)[k]? = ρ[k]? := by
    intro vs
    induction vs with
    | nil => intro _; rfl
    | cons w us ih =>
      intro hu
      show ((wipeE ρ us).set w none)[k]? = _
      rw [List.getElem?_set_ne fun z => hu (by rw [z]; exact List.mem_cons_self)]
      exact ih fun z => hu (List.mem_cons_of_mem _ z)
  exact this vs hk
/-- what a comprehension's turns give -/
def WC (vs : List Nat) (tg : D → Env → Option Env) (ft : Env → R (Bool × Env)) (fa : Env → R (D × Env)) (ds : List D) (ρ : Env) (Q : List D → Env → Prop) (E : Er) : Prop := WA (mCompL vs tg ft fa ds (wipeE ρ vs)) (fun ys ρ2 => Q ys (backE ρ ρ2 vs)) E
theorem we_comp {vs : List Nat} (h : WA (fs ρ) (fun ds ρ1 => ds.length ≤ 100000 ∧ WC vs tg ft fa ds ρ1 (fun ys ρ2 => Q (.lst ys) ρ2) E) E) : WE (mComp vs fs tg ft fa ρ) Q E := by
  with_unfolding_all
    unfold mComp
    have bind : ∀ {r : R (List D × Env)} {k : List D × Env → R (D × Env)}, WA r (fun d ρ1 => WE (k (d, ρ1)) Q E) E → WE (r.bind k) Q E := by
      intro r k h
      match r, h with
      | .ok (b, ρ1), h => exact h
      | .er c fs, h => exact h
      | .bad, h => exact h
    refine bind (h.mono (fun b ρ1 z => ?_) fun _ _ z => z)
    obtain ⟨l, z⟩ := z
    dsimp only
    rw [if_pos l]
    exact bind z
theorem wc_map0 {α : Type} {enc f' : α → D} {vs : List Nat} : ∀ (as : List α), (∀ a ∈ as, Sm (tg (enc a) (wipeE ρ vs)) fun ρ1 => WE (fa ρ1) (fun y ρ2 => y = f' a ∧ wipeE ρ2 vs = wipeE ρ vs) E0) → mCompL vs tg mYes fa (as.map enc) (wipeE ρ vs) = .ok (as.map f', wipeE ρ vs)
  | [], _ => rfl
  | a :: as, st => by
    obtain ⟨ρ1, e1, s1⟩ := st a List.mem_cons_self
    have e4 := wc_map0 as fun d' m => st d' (List.mem_cons_of_mem _ m)
    obtain ⟨y, ρ2, q, e2, e3⟩ := s1.get
    · unfold mCompL
      simp only [List.map_cons, e1, ofO, noEr, mYes, R.bind_ok, if_true, q, e2, e3, e4]
/-- a comprehension that changes nothing -/
theorem wc_map {ρw : Env} {α : Type} {enc : α → D} {as : List α} {vs : List Nat} [w : WipeEq ρ vs ρw] (f' : α → D) (st : ∀ a ∈ as, Sm (tg (enc a) (ρw)) fun ρ1 => WE (fa ρ1) (fun y ρ2 => y = f' a ∧ wipeE ρ2 vs = ρw) E0) (h : QA (as.map f') ρ) : WC vs tg mYes fa (as.map enc) ρ QA E := by
  with_unfolding_all
    obtain ⟨rfl⟩ := w
    unfold WC
    rw [wc_map0 as st]
    show QA _ (backE ρ (wipeE ρ vs) vs)
    rw [back_wipe]; exact h
theorem wc_fil0 {α : Type} {enc f' : α → D} {p : α → Bool} {vs : List Nat} : ∀ (as : List α), (∀ a ∈ as, Sm (tg (enc a) (wipeE ρ vs)) fun ρ1 => WT (ft ρ1) (fun b ρ2 => b = p a ∧ (p a = true → WE (fa ρ2) (fun y ρ3 => y = f' a ∧ wipeE ρ3 vs = wipeE ρ vs) E0) ∧ (p a = false → wipeE ρ2 vs = wipeE ρ vs)) E0) →
    mCompL vs tg ft fa (as.map enc) (wipeE ρ vs) = .ok ((as.filter p).map f', wipeE ρ vs)
  | [], _ => rfl
  | a :: as, st => by
    obtain ⟨ρ1, e1, s1⟩ := st a List.mem_cons_self
    have e4 := wc_fil0 as fun d' m => st d' (List.mem_cons_of_mem _ m)
    obtain ⟨b, ρ2, q, e2, h1, h2⟩ := s1.get
    · subst e2
      cases pa : p a with
      | false =>
        unfold mCompL
        simp only [List.map_cons, e1, ofO, noEr, R.bind_ok, q, pa, h2 pa, e4, List.filter_cons, Bool.false_eq_true, if_false]
      | true =>
        have h1 := h1 pa
        obtain ⟨y, ρ3, q2, e2, e3⟩ := h1.get
        · unfold mCompL
          simp only [List.map_cons, e1, ofO, noEr, R.bind_ok, q, q2, pa, e2, e3, e4, List.filter_cons, if_true]
theorem wc_fil {ρw : Env} {α : Type} {enc : α → D} {as : List α} {vs : List Nat} [w : WipeEq ρ vs ρw] (p : α → Bool) (f' : α → D) (st : ∀ a ∈ as, Sm (tg (enc a) (ρw)) fun ρ1 => WT (ft ρ1) (fun b ρ2 => b = p a ∧ (p a = true → WE (fa ρ2) (fun y ρ3 => y = f' a ∧ wipeE ρ3 vs = ρw) E0) ∧ (p a = false → wipeE ρ2 vs = ρw)) E0)
    (h : QA ((as.filter p).map f') ρ) : WC vs tg ft fa (as.map enc) ρ QA E := by
  with_unfolding_all
    obtain ⟨rfl⟩ := w
    unfold WC
    rw [wc_fil0 as st]
    show QA _ (backE ρ (wipeE ρ vs) vs)
    rw [back_wipe]; exact h
theorem map_id' {ds : List D} : ds = ds.map id := by simp
theorem intsFrom_map {lo : Int} {k : Nat} : intsFrom lo k = (List.range k).map fun (i : Nat) => D.int (lo + (i : Int)) := rfl
/-- over range(n) -/
theorem wc_rng {ρw : Env} {lo : Int} {k : Nat} {vs : List Nat} [w : WipeEq ρ vs ρw] (f' : Nat → D) (st : ∀ i, i < k → Sm (tg (.int (lo + (i : Int))) (ρw)) fun ρ1 => WE (fa ρ1) (fun y ρ2 => y = f' i ∧ wipeE ρ2 vs = ρw) E0) (h : QA ((List.range k).map f') ρ) : WC vs tg mYes fa (intsFrom lo k) ρ QA E := by
  obtain ⟨rfl⟩ := w
  rw [intsFrom_map]
  haveI : WipeEq ρ vs (wipeE ρ vs) := ⟨rfl⟩
  exact wc_map f' (fun a m => st a (List.mem_range.mp m)) h
theorem wc_rngF {ρw : Env} {lo : Int} {k : Nat} {vs : List Nat} [w : WipeEq ρ vs ρw] (p : Nat → Bool) (f' : Nat → D) (st : ∀ i, i < k → Sm (tg (.int (lo + (i : Int))) (ρw)) fun ρ1 => WT (ft ρ1) (fun b ρ2 => b = p i ∧ (p i = true → WE (fa ρ2) (fun y ρ3 => y = f' i ∧ wipeE ρ3 vs = ρw) E0) ∧ (p i = false → wipeE ρ2 vs = ρw)) E0)
    (h : QA (((List.range k).filter p).map f') ρ) : WC vs tg ft fa (intsFrom lo k) ρ QA E := by
  obtain ⟨rfl⟩ := w
  rw [intsFrom_map]
  haveI : WipeEq ρ vs (wipeE ρ vs) := ⟨rfl⟩
  exact wc_fil p f' (fun a m => st a (List.mem_range.mp m)) h
/-- a comprehension that changes its names, by an invariant -/
theorem wc_inv0 {vs : List Nat} (I : Nat → List D → Env → Prop) : ∀ (ds : List D) (k : Nat) (acc : List D) (ρ : Env), I k acc ρ → (∀ i d acc ρ, ds[i]? = some d → I (k + i) acc ρ → Sm (tg d ρ) fun ρ1 => WE (fa ρ1) (fun y ρ2 => I (k + i + 1) (acc ++ [y]) (wipeE ρ2 vs)) E0) →
    ∃ ys ρ', mCompL vs tg mYes fa ds ρ = .ok (ys, ρ') ∧ I (k + ds.length) (acc ++ ys) ρ'
  | [], k, acc, ρ, h0, _ => ⟨[], ρ, rfl, by simpa using h0⟩
  | d :: ds, k, acc, ρ, h0, st => by
    obtain ⟨ρ1, e1, s1⟩ := st 0 d acc ρ rfl h0
    obtain ⟨y, ρ2, q, s1⟩ := s1.get
    · obtain ⟨ys, ρ', e4, h4⟩ := wc_inv0 I ds (k + 1) (acc ++ [y]) (wipeE ρ2 vs) s1 fun i d' a' ρ' hd hi => by
        have e : k + 1 + i = k + (i + 1) := by omega
        rw [e] at hi ⊢
        exact st (i + 1) d' a' ρ' (by simpa using hd) hi
      refine ⟨y :: ys, ρ', ?_, by rw [List.length_cons, show k + (ds.length + 1) = k + 1 + ds.length by omega]; simpa using h4⟩
      unfold mCompL
      simp only [e1, ofO, noEr, mYes, R.bind_ok, if_true, q, e4]
theorem wc_inv {ρw : Env} {vs : List Nat} {ds : List D} [w : WipeEq ρ vs ρw] (I : Nat → List D → Env → Prop) (h0 : I 0 [] (ρw)) (st : ∀ i d acc ρ, ds[i]? = some d → I i acc ρ → Sm (tg d ρ) fun ρ1 => WE (fa ρ1) (fun y ρ2 => I (i + 1) (acc ++ [y]) (wipeE ρ2 vs)) E0) (h : ∀ ys ρ', I ds.length ys ρ' → QA ys (backE ρ ρ' vs)) : WC vs tg mYes fa ds ρ QA E := by
  with_unfolding_all
    obtain ⟨rfl⟩ := w
    obtain ⟨ys, ρ', e, hi⟩ := wc_inv0 (tg := tg) (fa := fa) I ds 0 [] (wipeE ρ vs) h0 fun i d acc ρ hd hi => by rw [Nat.zero_add] at hi ⊢; exact st i d acc ρ hd hi
    rw [Nat.zero_add, List.nil_append] at hi
    unfold WC
    rw [e]
    exact h ys ρ' hi
/-! defs -/
theorem wr_fn {ds : List D} {ρ0 : Env} (e2 : ds.map some ++ List.replicate (N' - n) none = ρ0) (k : WS (f ρ0) (fun _ => QR .non) (fun d _ => QR d) (fun _ => False) (fun _ => False) E) (e : ds.length = n := by rfl) : WR (mFn n N' f ds) QR E := by
  with_unfolding_all
    unfold mFn
    rw [if_pos e, e2]
    revert k
    generalize f ρ0 = r
    intro k
    match r, k with
    | .ok (.nx, ρ1), k => exact k
    | .ok (.rt d, ρ1), k => exact k
    | .ok (.bk, ρ1), k => exact k
    | .ok (.ct, ρ1), k => exact k
    | .er c fs, k => exact k
    | .bad, k => exact k
theorem wb_fn {ds : List D} {ρ0 : Env} (e2 : ds.map some ++ List.replicate (N' - n) none = ρ0) (k : WS (f ρ0) (fun ρ1 => Lk ρ1 0 (QB .non)) (fun d ρ1 => Lk ρ1 0 (QB d)) (fun _ => False) (fun _ => False) E) (e : ds.length = n := by rfl) : WB (mFnB n N' f ds) QB E := by
  with_unfolding_all
    unfold mFnB
    rw [if_pos e, e2]
    revert k
    generalize f ρ0 = r
    intro k
    match r, k with
    | .ok (.nx, ρ1), h =>
      simp only [WE_ok, WA_ok, WT_ok, WB_ok, WO_ok, WS_nx, WS_rt] at h
      obtain ⟨d0, e, k⟩ := h
      simp only [R.bind_ok, e]; exact k
    | .ok (.rt d, ρ1), h =>
      simp only [WE_ok, WA_ok, WT_ok, WB_ok, WO_ok, WS_nx, WS_rt] at h
      obtain ⟨d0, e, k⟩ := h
      simp only [R.bind_ok, e]; exact k
    | .ok (.bk, ρ1), k => exact k.elim
    | .ok (.ct, ρ1), k => exact k.elim
    | .er c fs, k => exact k
    | .bad, k => exact k
end
/-! what operations give -/
theorem sm_I0 {f : Int → Int → Int} {i j : Int} {K : D → Prop} (h : K (.int (f i j))) : Sm (gI0 f (.int i) (.int j)) K := ⟨_, rfl, h⟩
theorem sm_IB {f : Int → Int → Bool} {i j : Int} {K : D → Prop} (h : K (.bl (f i j))) : Sm (gIB f (.int i) (.int j)) K := ⟨_, rfl, h⟩
theorem sm_II {c : Int → Int → Bool} {f : Int → Int → Int} {i j : Int} {K : D → Prop} (e : c i j = true) (h : K (.int (f i j))) : Sm (gII c f (.int i) (.int j)) K := ⟨_, gII_eq e, h⟩
theorem sm_U {f : Int → Int} {i : Int} {K : D → Prop} (h : K (.int (f i))) : Sm (gU f (.int i)) K := ⟨_, rfl, h⟩
theorem sm_eq {i j : Int} {K : D → Prop} (h : K (.bl (decide (i = j)))) : Sm (gEq (.int i) (.int j)) K := ⟨_, rfl, h⟩
theorem sm_ne {i j : Int} {K : D → Prop} (h : K (.bl (!decide (i = j)))) : Sm (gNe (.int i) (.int j)) K := ⟨_, rfl, h⟩
theorem sm_not {b : Bool} {K : D → Prop} (h : K (.bl (!b))) : Sm (gNot (.bl b)) K := ⟨_, rfl, h⟩
theorem sm_tup {xs : List D} {K : D → Prop} (e : xs.length ≤ 1000) (h : K (.tup xs)) : Sm (gTup xs) K := ⟨_, if_pos e, h⟩
theorem sm_lst {xs : List D} {K : D → Prop} (e : xs.length ≤ 1000) (h : K (.lst xs)) : Sm (gLst xs) K := ⟨_, if_pos e, h⟩
theorem sm_one {g : D → Option D} {x : D} {K : D → Prop} (h : Sm (g x) K) : Sm (gOne g [x]) K := h
theorem sm_two {g : D → D → Option D} {x y : D} {K : D → Prop} (h : Sm (g x y) K) : Sm (gTwo g [x, y]) K := h
theorem sm_ixl {xs : List D} {i : Int} {K : D → Prop} (h : Sm (atI xs i) K) : Sm (gIx (.lst xs) (.int i)) K := h
theorem sm_ixt {xs : List D} {i : Int} {K : D → Prop} (h : Sm (atI xs i) K) : Sm (gIx (.tup xs) (.int i)) K := h
theorem sm_ixk {xs : List D} {i : Int} {K : D → Prop} (h : Sm (atI xs i) K) : Sm (gIx (.kls xs) (.int i)) K := h
theorem sm_at {α : Type} {enc : α → D} {as : List α} {k : Nat} {a : α} {K : D → Prop} (e : as[k]? = some a) (h : K (enc a)) : Sm (atI (as.map enc) (k : Int)) K := ⟨_, atI_nat (by rw [List.getElem?_map, e]; rfl), h⟩
theorem sm_fld {ix : List (Nat × Nat)} {c : Nat} {fs : List D} {d : D} {K : D → Prop} (e : ((ix.lookup c).bind fun j => fs[j]?) = some d) (h : K d) : Sm (gFld ix (.ins c fs)) K := ⟨d, e, h⟩
theorem sm_atc {x : D} {xs : List D} {i : Int} {d : D} {K : D → Prop} (e : atI (x :: xs) i = some d) (h : K d) : Sm (atI (x :: xs) i) K := ⟨d, e, h⟩
theorem sm_isT {cs : List Nat} {ts : List Ty} {d : D} {K : D → Prop} (e : gIsi cs ts d = some (.bl true)) (h : K (.bl true)) : Sm (gIsi cs ts d) K := ⟨_, e, h⟩
theorem sm_isF {cs : List Nat} {ts : List Ty} {d : D} {K : D → Prop} (e : gIsi cs ts d = some (.bl false)) (h : K (.bl false)) : Sm (gIsi cs ts d) K := ⟨_, e, h⟩
theorem sm_nnT {f : Bool → Bool} {x y : D} {K : D → Prop} (e : gIs f x y = some (.bl true)) (h : K (.bl true)) : Sm (gIs f x y) K := ⟨_, e, h⟩
theorem sm_nnF {f : Bool → Bool} {x y : D} {K : D → Prop} (e : gIs f x y = some (.bl false)) (h : K (.bl false)) : Sm (gIs f x y) K := ⟨_, e, h⟩
theorem sm_lenl {xs : List D} {K : D → Prop} (h : K (.int xs.length)) : Sm (gLen (.lst xs)) K := ⟨_, rfl, h⟩
theorem sm_lent {xs : List D} {K : D → Prop} (h : K (.int xs.length)) : Sm (gLen (.tup xs)) K := ⟨_, rfl, h⟩
theorem sm_lenk {xs : List D} {K : D → Prop} (h : K (.int xs.length)) : Sm (gLen (.kls xs)) K := ⟨_, rfl, h⟩
theorem intsOf_map {α : Type} {g : α → Int} : ∀ (as : List α), intsOf (as.map fun a => D.int (g a)) = some (as.map g)
  | [] => rfl
  | a :: as => by simp only [List.map_cons, intsOf, intsOf_map as, Option.map_some]
theorem blsOf_map {α : Type} {g : α → Bool} : ∀ (as : List α), blsOf (as.map fun a => D.bl (g a)) = some (as.map g)
  | [] => rfl
  | a :: as => by simp only [List.map_cons, blsOf, blsOf_map as, Option.map_some]
theorem sm_sum {α : Type} {g : α → Int} {as : List α} {K : D → Prop} (h : K (.int (as.map g).sum)) : Sm (gSum (.lst (as.map fun a => D.int (g a)))) K := ⟨_, by unfold gSum; simp only [seqD, Option.bind_some, if_true, intsOf_map]; rfl, h⟩
theorem sm_sumI {as : List Int} {K : D → Prop} (h : K (.int as.sum)) : Sm (gSum (.lst (as.map D.int))) K := ⟨_, by unfold gSum; simp only [seqD, Option.bind_some, if_true, intsOf_map (g := id)]; rw [show as.map D.int = as.map (fun a => D.int (id a)) from rfl, intsOf_map]; simp, h⟩
theorem sm_all {α : Type} {g : α → Bool} {as : List α} {K : D → Prop} (h : K (.bl (as.all g))) : Sm (gAll (.lst (as.map fun a => D.bl (g a)))) K := ⟨_, by unfold gAll; simp only [seqD, Option.bind_some, if_true, blsOf_map]; rfl, by simpa [List.all_map] using h⟩
theorem sm_any {α : Type} {g : α → Bool} {as : List α} {K : D → Prop} (h : K (.bl (as.any g))) : Sm (gAny (.lst (as.map fun a => D.bl (g a)))) K := ⟨_, by unfold gAny; simp only [seqD, Option.bind_some, if_true, blsOf_map]; rfl, by simpa [List.any_map] using h⟩
end Z
set_option Elab.async false
set_option linter.all false
set_option maxRecDepth 100000
/-! V2: sizes of whole numbers in bits; sums over ranges -/
namespace Z
/-- at most k bits -/
def Bit (k : Nat) (i : Int) : Prop := i.natAbs < 2 ^ k
theorem Bit.lit {k : Nat} {i : Int} (n : Nat) (h : i.natAbs < n) (hn : n ≤ 2 ^ k := by decide) : Bit k i := Nat.lt_of_lt_of_le h hn
theorem Bit.mono {a b : Nat} {i : Int} (h : Bit a i) (hab : a ≤ b) : Bit b i := Nat.lt_of_lt_of_le h (Nat.pow_le_pow_right (by decide) hab)
theorem Bit.mul {a b : Nat} {i j : Int} (h : Bit a i) (h' : Bit b j) : Bit (a + b) (i * j) := by
  unfold Bit at *
  rw [Int.natAbs_mul, Nat.pow_add]
  exact Nat.mul_lt_mul'' h h'
theorem Bit.add {a : Nat} {i j : Int} (h : Bit a i) (h' : Bit a j) : Bit (a + 1) (i + j) := by
  unfold Bit at *
  rw [Nat.pow_succ]
  have := Int.natAbs_add_le i j
  omega
theorem Bit.sub {a : Nat} {i j : Int} (h : Bit a i) (h' : Bit a j) : Bit (a + 1) (i - j) := by
  unfold Bit at *
  rw [Nat.pow_succ]
  have := Int.natAbs_sub_le i j
  omega
theorem Bit.neg {a : Nat} {i : Int} (h : Bit a i) : Bit a (-i) := by unfold Bit at *; rw [Int.natAbs_neg]; exact h
theorem Bit.div {a : Nat} {i j : Int} (h : Bit a i) : Bit a (i / j) := by
  unfold Bit at *
  exact Nat.lt_of_le_of_lt (Int.natAbs_ediv_le_natAbs i j) h
theorem Bit.le {a : Nat} {i j : Int} (h : Bit a i) (h0 : 0 ≤ j) (h1 : j ≤ i) : Bit a j := by unfold Bit at *; omega
theorem Bit.small {k : Nat} {i : Int} (h : Bit k i) (hk : k ≤ 9000) : small5k i = true := by
  unfold small5k
  have z : i.natAbs.log2 < 9000 := by
    by_cases e : i.natAbs = 0
    · rw [e]; decide
    · have := (Nat.log2_lt e).mpr (Nat.lt_of_lt_of_le h (Nat.pow_le_pow_right (by decide) hk))
      exact this
  exact decide_eq_true z
theorem cMul_bits {a b : Nat} {i j : Int} (h : Bit a i) (h' : Bit b j) (ha : a ≤ 9000) (hb : b ≤ 9000) : cMul i j = true := by
  unfold cMul
  rw [h.small ha, h'.small hb]; simp
theorem cDiv_bits {b : Nat} {i j : Int} (h0 : 0 < j) (h' : Bit b j) (hb : b ≤ 9000) : cDiv i j = true := by
  unfold cDiv
  rw [h'.small hb, decide_eq_true (show j ≠ 0 by omega), decide_eq_true h0]; simp
theorem lcm_bits : ∀ (ds : List Int) (acc : Int) (b k : Nat), 0 < acc → Bit b acc → (∀ d ∈ ds, 0 < d ∧ Bit k d) → 0 < ds.foldl lcmI acc ∧ Bit (b + k * ds.length) (ds.foldl lcmI acc)
  | [], acc, b, k, h, hb, _ => ⟨h, by simpa using hb⟩
  | d :: ds, acc, b, k, h, hb, hd => by
    obtain ⟨d0, d1⟩ := hd d List.mem_cons_self
    obtain ⟨p, q⟩ := lcmI_le h d0
    have hb2 : Bit (b + k) (lcmI acc d) := (hb.mul d1).le (Int.le_of_lt p) q
    obtain ⟨x, y⟩ := lcm_bits ds (lcmI acc d) (b + k) k p hb2 fun e he => hd e (List.mem_cons_of_mem _ he)
    refine ⟨x, ?_⟩
    rw [List.length_cons, Nat.mul_succ, show b + (k * ds.length + k) = b + k + k * ds.length by omega]
    exact y
theorem lcm_dvd : ∀ (ds : List Int) (acc : Int), acc ∣ ds.foldl lcmI acc ∧ ∀ d ∈ ds, d ∣ ds.foldl lcmI acc
  | [], acc => ⟨Int.dvd_refl _, fun d h => by cases h⟩
  | d :: ds, acc => by
    obtain ⟨a, b⟩ := lcm_dvd ds (lcmI acc d)
    refine ⟨Int.dvd_trans (dvd_lcmI_l acc d) a, fun e he => ?_⟩
    rcases List.mem_cons.mp he with z | z
    · subst z; exact Int.dvd_trans (dvd_lcmI_r acc _) a
    · exact b e z
end Z
set_option Elab.async false
set_option linter.all false
set_option maxRecDepth 100000
noncomputable section
namespace Z.L77
open PySem PySem.Spec L2
open PyProof.Rows hiding St
def top (i : Nat) : Stmt := PySem.Challenge.pw_choicerealm_k77_smooth_numbers_by_lids.main.body.getD i (.Pass ⟨0, 0, 0, 0⟩)
structure Ad where
  c_Frac : Addr
  c_Offer : Addr
  c_Buyer : Addr
  f__law_pick : Addr
  d__law_pick : FuncData
  f__law_gcd : Addr
  d__law_gcd : FuncData
  f__law_lowest : Addr
  d__law_lowest : FuncData
  f__law_level : Addr
  d__law_level : FuncData
  f__law_weights : Addr
  d__law_weights : FuncData
  f__law_offer : Addr
  d__law_offer : FuncData
  f__law_common : Addr
  d__law_common : FuncData
  f__law_worths : Addr
  d__law_worths : FuncData
  f__law_tails : Addr
  d__law_tails : FuncData
  f__law_lid : Addr
  d__law_lid : FuncData
  f__law_plain : Addr
  d__law_plain : FuncData
  f__law_rise : Addr
  d__law_rise : FuncData
  f__law_alike : Addr
  d__law_alike : FuncData
  f_is_integer : Addr
  d_is_integer : FuncData
  f_Frac___init__ : Addr
  d_Frac___init__ : FuncData
  f__law_given : Addr
  d__law_given : FuncData
  f_is_sequence : Addr
  d_is_sequence : FuncData
  f_is_between : Addr
  d_is_between : FuncData
  f_as_frac : Addr
  d_as_frac : FuncData
  f_is_amount : Addr
  d_is_amount : FuncData
  f_is_prize : Addr
  d_is_prize : FuncData
  f_Frac_is_below : Addr
  d_Frac_is_below : FuncData
  f_kept_prizes : Addr
  d_kept_prizes : FuncData
  f_Offer___init__ : Addr
  d_Offer___init__ : FuncData
  f__law_built : Addr
  d__law_built : FuncData
  f__law_whole : Addr
  d__law_whole : FuncData
  f__law_frac : Addr
  d__law_frac : FuncData
  f__law_fits : Addr
  d__law_fits : FuncData
  f_common_under : Addr
  d_common_under : FuncData
  f_scaled : Addr
  d_scaled : FuncData
  f_tail_sums : Addr
  d_tail_sums : FuncData
  f_Buyer___init__ : Addr
  d_Buyer___init__ : FuncData
  f_Buyer_income : Addr
  d_Buyer_income : FuncData
  f_Buyer_income_points : Addr
  d_Buyer_income_points : FuncData
  f_bends_down : Addr
  d_bends_down : FuncData
  f_lid_places : Addr
  d_lid_places : FuncData
  f_slope_parts : Addr
  d_slope_parts : FuncData
  f_Buyer_number : Addr
  d_Buyer_number : FuncData
  f_smooth_runs : Addr
  d_smooth_runs : FuncData
  f_smooth_numbers : Addr
  d_smooth_numbers : FuncData
  f_plain_numbers : Addr
  d_plain_numbers : FuncData
  f__law_numbers_hold : Addr
  d__law_numbers_hold : FuncData
  f__law_asked : Addr
  d__law_asked : FuncData
  f_law : Addr
  d_law : FuncData
def tab (a : Ad) : Tab := ⟨fun c => match c with
    | 0 => a.c_Frac
    | 1 => a.c_Offer
    | 2 => a.c_Buyer
    | _ => 0, fun c => match c with
    | 0 => ["num", "den"]
    | 1 => ["prizes"]
    | 2 => ["under", "weights", "worths", "tails"]
    | _ => []⟩
abbrev s__law_pick : Stmt := top 39
theorem sc__law_pick : FnScope ["feed", "many", "digit", "cells", "place", "cell", "seed"] ["feed", "many"] (defScope s__law_pick) := ⟨rfl, rfl, rfl, by decide +kernel, rfl, by decide +kernel, by decide +kernel⟩
abbrev s__law_gcd : Stmt := top 40
theorem sc__law_gcd : FnScope ["one", "two", "turn"] ["one", "two"] (defScope s__law_gcd) := ⟨rfl, rfl, rfl, by decide +kernel, rfl, by decide +kernel, by decide +kernel⟩
abbrev s__law_lowest : Stmt := top 42
theorem sc__law_lowest : FnScope ["num", "den", "part"] ["num", "den"] (defScope s__law_lowest) := ⟨rfl, rfl, rfl, by decide +kernel, rfl, by decide +kernel, by decide +kernel⟩
abbrev s__law_level : Stmt := top 48
theorem sc__law_level : FnScope ["feed", "many", "weights", "base", "share", "rows", "k", "tail"] ["feed", "many"] (defScope s__law_level) := ⟨rfl, rfl, rfl, by decide +kernel, rfl, by decide +kernel, by decide +kernel⟩
abbrev s__law_weights : Stmt := top 49
theorem sc__law_weights : FnScope ["feed", "many", "top", "wide", "k"] ["feed", "many", "top"] (defScope s__law_weights) := ⟨rfl, rfl, rfl, by decide +kernel, rfl, by decide +kernel, by decide +kernel⟩
abbrev s__law_offer : Stmt := top 50
theorem sc__law_offer : FnScope ["feed", "most", "top", "many", "kind", "weights", "gap", "den", "last", "rows", "k"] ["feed", "most", "top"] (defScope s__law_offer) := ⟨rfl, rfl, rfl, by decide +kernel, rfl, by decide +kernel, by decide +kernel⟩
abbrev s__law_common : Stmt := top 41
theorem sc__law_common : FnScope ["numbers", "whole", "number"] ["numbers"] (defScope s__law_common) := ⟨rfl, rfl, rfl, by decide +kernel, rfl, by decide +kernel, by decide +kernel⟩
abbrev s__law_worths : Stmt := top 52
theorem sc__law_worths : FnScope ["rows", "scale", "row"] ["rows", "scale"] (defScope s__law_worths) := ⟨rfl, rfl, rfl, by decide +kernel, rfl, by decide +kernel, by decide +kernel⟩
abbrev s__law_tails : Stmt := top 51
theorem sc__law_tails : FnScope ["rows", "k", "row"] ["rows"] (defScope s__law_tails) := ⟨rfl, rfl, rfl, by decide +kernel, rfl, by decide +kernel, by decide +kernel⟩
abbrev s__law_lid : Stmt := top 54
theorem sc__law_lid : FnScope ["rows", "scale", "worths", "tails", "gains", "numbers", "k", "least", "low", "most", "up", "here", "row"] ["rows"] (defScope s__law_lid) := ⟨rfl, rfl, rfl, by decide +kernel, rfl, by decide +kernel, by decide +kernel⟩
abbrev s__law_plain : Stmt := top 53
theorem sc__law_plain : FnScope ["rows", "scale", "worths", "numbers", "above", "back", "k", "num", "row"] ["rows"] (defScope s__law_plain) := ⟨rfl, rfl, rfl, by decide +kernel, rfl, by decide +kernel, by decide +kernel⟩
abbrev s__law_rise : Stmt := top 55
theorem sc__law_rise : FnScope ["numbers", "k"] ["numbers"] (defScope s__law_rise) := ⟨rfl, rfl, rfl, by decide +kernel, rfl, by decide +kernel, by decide +kernel⟩
abbrev s__law_alike : Stmt := top 56
theorem sc__law_alike : FnScope ["one", "two", "k"] ["one", "two"] (defScope s__law_alike) := ⟨rfl, rfl, rfl, by decide +kernel, rfl, by decide +kernel, by decide +kernel⟩
abbrev s_is_integer : Stmt := top 8
theorem sc_is_integer : FnScope ["value"] ["value"] (defScope s_is_integer) := ⟨rfl, rfl, rfl, by decide +kernel, rfl, by decide +kernel, by decide +kernel⟩
abbrev s_Frac___init__ : Stmt := inClass (top 12) 0
theorem sc_Frac___init__ : FnScope ["self", "num", "den", "divisor"] ["self", "num", "den"] (defScope s_Frac___init__) := ⟨rfl, rfl, rfl, by decide +kernel, rfl, by decide +kernel, by decide +kernel⟩
abbrev s__law_given : Stmt := top 46
theorem sc__law_given : FnScope ["pair", "plain"] ["pair", "plain"] (defScope s__law_given) := ⟨rfl, rfl, rfl, by decide +kernel, rfl, by decide +kernel, by decide +kernel⟩
abbrev s_is_sequence : Stmt := top 10
theorem sc_is_sequence : FnScope ["value"] ["value"] (defScope s_is_sequence) := ⟨rfl, rfl, rfl, by decide +kernel, rfl, by decide +kernel, by decide +kernel⟩
abbrev s_is_between : Stmt := top 9
theorem sc_is_between : FnScope ["value", "least", "most"] ["value", "least", "most"] (defScope s_is_between) := ⟨rfl, rfl, rfl, by decide +kernel, rfl, by decide +kernel, by decide +kernel⟩
abbrev s_as_frac : Stmt := top 13
theorem sc_as_frac : FnScope ["value"] ["value"] (defScope s_as_frac) := ⟨rfl, rfl, rfl, by decide +kernel, rfl, by decide +kernel, by decide +kernel⟩
abbrev s_is_amount : Stmt := top 23
theorem sc_is_amount : FnScope ["value", "frac"] ["value"] (defScope s_is_amount) := ⟨rfl, rfl, rfl, by decide +kernel, rfl, by decide +kernel, by decide +kernel⟩
abbrev s_is_prize : Stmt := top 35
theorem sc_is_prize : FnScope ["value"] ["value"] (defScope s_is_prize) := ⟨rfl, rfl, rfl, by decide +kernel, rfl, by decide +kernel, by decide +kernel⟩
abbrev s_Frac_is_below : Stmt := inClass (top 12) 5
theorem sc_Frac_is_below : FnScope ["self", "other"] ["self", "other"] (defScope s_Frac_is_below) := ⟨rfl, rfl, rfl, by decide +kernel, rfl, by decide +kernel, by decide +kernel⟩
abbrev s_kept_prizes : Stmt := top 36
theorem sc_kept_prizes : FnScope ["prizes", "kept", "at", "prize", "worth"] ["prizes"] (defScope s_kept_prizes) := ⟨rfl, rfl, rfl, by decide +kernel, rfl, by decide +kernel, by decide +kernel⟩
abbrev s_Offer___init__ : Stmt := inClass (top 37) 0
theorem sc_Offer___init__ : FnScope ["self", "prizes"] ["self", "prizes"] (defScope s_Offer___init__) := ⟨rfl, rfl, rfl, by decide +kernel, rfl, by decide +kernel, by decide +kernel⟩
abbrev s__law_built : Stmt := top 47
theorem sc__law_built : FnScope ["rows", "form", "plain", "prizes", "row", "prize"] ["rows", "form"] (defScope s__law_built) := ⟨rfl, rfl, rfl, by decide +kernel, rfl, by decide +kernel, by decide +kernel⟩
abbrev s__law_whole : Stmt := top 43
theorem sc__law_whole : FnScope ["found"] ["found"] (defScope s__law_whole) := ⟨rfl, rfl, rfl, by decide +kernel, rfl, by decide +kernel, by decide +kernel⟩
abbrev s__law_frac : Stmt := top 44
theorem sc__law_frac : FnScope ["found", "num", "den", "part"] ["found", "num", "den"] (defScope s__law_frac) := ⟨rfl, rfl, rfl, by decide +kernel, rfl, by decide +kernel, by decide +kernel⟩
abbrev s__law_fits : Stmt := top 45
theorem sc__law_fits : FnScope ["found", "due", "k"] ["found", "due"] (defScope s__law_fits) := ⟨rfl, rfl, rfl, by decide +kernel, rfl, by decide +kernel, by decide +kernel⟩
abbrev s_common_under : Stmt := top 25
theorem sc_common_under : FnScope ["fracs", "under", "frac"] ["fracs"] (defScope s_common_under) := ⟨rfl, rfl, rfl, by decide +kernel, rfl, by decide +kernel, by decide +kernel⟩
abbrev s_scaled : Stmt := top 26
theorem sc_scaled : FnScope ["frac", "under"] ["frac", "under"] (defScope s_scaled) := ⟨rfl, rfl, rfl, by decide +kernel, rfl, by decide +kernel, by decide +kernel⟩
abbrev s_tail_sums : Stmt := top 29
theorem sc_tail_sums : FnScope ["weights", "tails", "weight"] ["weights"] (defScope s_tail_sums) := ⟨rfl, rfl, rfl, by decide +kernel, rfl, by decide +kernel, by decide +kernel⟩
abbrev s_Buyer___init__ : Stmt := inClass (top 28) 0
theorem sc_Buyer___init__ : FnScope ["self", "offer", "_", "worth", "weight"] ["self", "offer"] (defScope s_Buyer___init__) := ⟨rfl, rfl, rfl, by decide +kernel, rfl, by decide +kernel, by decide +kernel⟩
abbrev s_Buyer_income : Stmt := inClass (top 28) 1
theorem sc_Buyer_income : FnScope ["self", "prize"] ["self", "prize"] (defScope s_Buyer_income) := ⟨rfl, rfl, rfl, by decide +kernel, rfl, by decide +kernel, by decide +kernel⟩
abbrev s_Buyer_income_points : Stmt := inClass (top 28) 2
theorem sc_Buyer_income_points : FnScope ["self", "points", "prize"] ["self"] (defScope s_Buyer_income_points) := ⟨rfl, rfl, rfl, by decide +kernel, rfl, by decide +kernel, by decide +kernel⟩
abbrev s_bends_down : Stmt := top 16
theorem sc_bends_down : FnScope ["one", "two", "three", "rise", "later_rise"] ["one", "two", "three"] (defScope s_bends_down) := ⟨rfl, rfl, rfl, by decide +kernel, rfl, by decide +kernel, by decide +kernel⟩
abbrev s_lid_places : Stmt := top 17
theorem sc_lid_places : FnScope ["points", "kept", "at", "point"] ["points"] (defScope s_lid_places) := ⟨rfl, rfl, rfl, by decide +kernel, rfl, by decide +kernel, by decide +kernel⟩
abbrev s_slope_parts : Stmt := top 18
theorem sc_slope_parts : FnScope ["points", "start", "end"] ["points", "start", "end"] (defScope s_slope_parts) := ⟨rfl, rfl, rfl, by decide +kernel, rfl, by decide +kernel, by decide +kernel⟩
abbrev s_Buyer_number : Stmt := inClass (top 28) 3
theorem sc_Buyer_number : FnScope ["self", "rise", "width"] ["self", "rise", "width"] (defScope s_Buyer_number) := ⟨rfl, rfl, rfl, by decide +kernel, rfl, by decide +kernel, by decide +kernel⟩
abbrev s_smooth_runs : Stmt := top 31
theorem sc_smooth_runs : FnScope ["offer", "buyer", "points", "bends", "runs", "at", "rise", "width", "first", "behind"] ["offer"] (defScope s_smooth_runs) := ⟨rfl, rfl, rfl, by decide +kernel, rfl, by decide +kernel, by decide +kernel⟩
abbrev s_smooth_numbers : Stmt := top 32
theorem sc_smooth_numbers : FnScope ["offer", "found", "first", "behind", "mean", "_"] ["offer"] (defScope s_smooth_numbers) := ⟨rfl, rfl, rfl, by decide +kernel, rfl, by decide +kernel, by decide +kernel⟩
abbrev s_plain_numbers : Stmt := top 30
theorem sc_plain_numbers : FnScope ["offer", "buyer", "points", "found", "place", "rise", "width"] ["offer"] (defScope s_plain_numbers) := ⟨rfl, rfl, rfl, by decide +kernel, rfl, by decide +kernel, by decide +kernel⟩
abbrev s__law_numbers_hold : Stmt := top 57
theorem sc__law_numbers_hold : FnScope ["rows", "form", "lid", "plain", "offer", "pair"] ["rows", "form"] (defScope s__law_numbers_hold) := ⟨rfl, rfl, rfl, by decide +kernel, rfl, by decide +kernel, by decide +kernel⟩
abbrev s__law_asked : Stmt := top 58
theorem sc__law_asked : FnScope ["script", "feed", "one", "two", "form"] ["script"] (defScope s__law_asked) := ⟨rfl, rfl, rfl, by decide +kernel, rfl, by decide +kernel, by decide +kernel⟩
abbrev s_law : Stmt := top 59
theorem sc_law : FnScope ["script"] ["script"] (defScope s_law) := ⟨rfl, rfl, rfl, by decide +kernel, rfl, by decide +kernel, by decide +kernel⟩
def b__law_pick : Env → R (Fl × Env) := (mSeq (mSetIx 0 (mBin (gI0 (· + ·)) (mBinN 0 gIx (mCon (.int 3))) (mCon (.int 1))) (mCon (.int 3))) (mSeq (mIfS (mVal (mBin (gIB fun i j => decide (j < i)) (mBinN 0 gIx (mCon (.int 2))) (mCon (.int 0)))) (mSeq (mSet 2 (mBin (gII cNz Int.fmod) (mPrim (gOne gIntO) (mCons (mBinN 0 gIx (mCon (.int 2))) mNil)) (mVar 1))) (mSeq (mSetIx 0 (mBin (gII cDiv Int.fdiv) (mBinN 0 gIx (mCon (.int 2))) (mVar 1)) (mCon (.int 2))) (mRet (mVar 2)))) mSkip) (mSeq (mSet 3 (mBinN 0 gIx (mCon (.int 0)))) (mSeq (mSet 4 (mBinN 0 gIx (mCon (.int 1)))) (mSeq (mSetIx 0 (mBin (gI0 (· + ·)) (mVar 4) (mCon (.int 1))) (mCon (.int 1))) (mSeq (mSet 5 (mCon (.int 0))) (mSeq (mIfS (mVal (mBin (gIB fun i j => decide (j < i)) (mPrim (gOne gLen) (mCons (mVar 3) mNil)) (mCon (.int 0)))) (mSet 5 (mPrim (gOne gIntO) (mCons (mBin gIx (mVar 3) (mBin (gII cNz Int.fmod) (mPrim (gOne gIntO) (mCons (mVar 4) mNil)) (mPrim (gOne gLen) (mCons (mVar 3) mNil)))) mNil))) mSkip) (mSeq (mIfS (mAnd (mVal (mBin (gIB fun i j => decide (j ≤ i)) (mVar 5) (mBin (gII cPow fun i j => i ^ j.toNat) (mCon (.int 10)) (mCon (.int 18))))) (mVal (mBin (gIB fun i j => decide (i < j)) (mVar 4) (mPrim (gOne gLen) (mCons (mVar 3) mNil))))) (mSeq (mSetIx 0 (mBin (gII cDiv Int.fdiv) (mVar 5) (mVar 1)) (mCon (.int 2))) (mRet (mBin (gII cNz Int.fmod) (mPrim (gOne gIntO) (mCons (mVar 5) mNil)) (mVar 1)))) mSkip) (mSeq (mSet 6 (mBin (gII cNz Int.fmod) (mPrim (gOne gIntO) (mCons (mBin (gI0 (· + ·)) (mBin (gI0 (· + ·)) (mBin (gI0 (· + ·)) (mBin (gII cMul (· * ·)) (mVar 5) (mCon (.int 39373))) (mBin (gII cMul (· * ·)) (mBinN 0 gIx (mCon (.int 3))) (mCon (.int 7919)))) (mBin (gII cMul (· * ·)) (mVar 4) (mCon (.int 101)))) (mCon (.int 17))) mNil)) (mCon (.int 2147483629)))) (mSeq (mSet 6 (mBin (gII cNz Int.fmod) (mPrim (gOne gIntO) (mCons (mBin (gI0 (· + ·)) (mBin (gI0 (· + ·)) (mBin (gII cMul (· * ·)) (mVar 6) (mBin (gI0 (· + ·)) (mBin (gII cDiv Int.fdiv) (mVar 6) (mCon (.int 32))) (mCon (.int 69621)))) (mBin (gII cMul (· * ·)) (mBinN 0 gIx (mCon (.int 3))) (mCon (.int 977)))) (mBin (gII cDiv Int.fdiv) (mVar 5) (mCon (.int 1013)))) mNil)) (mCon (.int 1000000007)))) (mRet (mBin (gII cNz Int.fmod) (mPrim (gOne gIntO) (mCons (mBin (gII cDiv Int.fdiv) (mVar 6) (mCon (.int 16))) mNil)) (mVar 1)))))))))))))
def m__law_pick : List D → R (D × D) := mFnB 2 7 b__law_pick
def l__law_gcd_b2 : Env → R (Fl × Env) := (mSeq (mIfS (mVal (mBin (gEq) (mVar 1) (mCon (.int 0)))) mBrk mSkip) (mPar 0 1 (mCons (mVar 1) (mCons (mBin (gII cNz Int.fmod) (mPrim (gOne gIntO) (mCons (mVar 0) mNil)) (mVar 1)) mNil))))
def b__law_gcd : Env → R (Fl × Env) := (mSeq (mSet 0 (mPrim (gOne (gU fun i => if i < 0 then -i else i)) (mCons (mVar 0) mNil))) (mSeq (mFor (mItR1 (mCons (mBin (gI0 (· + ·)) (mBin (gII cMul (· * ·)) (mCon (.int 2)) (mUn (gU bitLen) (mVar 1))) (mCon (.int 3))) mNil)) (gtN 2) l__law_gcd_b2) (mRet (mVar 0))))
def m__law_gcd : List D → R D := mFn 2 3 b__law_gcd
def b__law_lowest : Env → R (Fl × Env) := (mSeq (mSet 2 (mCall m__law_gcd (mCons (mVar 0) (mCons (mVar 1) mNil)))) (mRet (mPrim gTup (mCons (mBin (gII cDiv Int.fdiv) (mVar 0) (mVar 2)) (mCons (mBin (gII cDiv Int.fdiv) (mVar 1) (mVar 2)) mNil)))))
def m__law_lowest : List D → R D := mFn 2 3 b__law_lowest
def l__law_level_e1_14 : Env → R (D × Env) := (mBin (gI0 (· + ·)) (mCon (.int 1)) (mCallB 0 m__law_pick (mCons (mCon (.int 4)) mNil)))
def l__law_level_b5 : Env → R (Fl × Env) := (mSeq (mSet 7 (mPrim (gOne gSum) (mCons (mSl (mVar 2) (mPart (mVar 6)) mNoP) mNil))) (mApp 5 (mPrim gTup (mCons (mBin gIx (mVar 2) (mVar 6)) (mCons (mCall m__law_lowest (mCons (mBin (gI0 (· + ·)) (mBin (gII cMul (· * ·)) (mVar 3) (mVar 7)) (mVar 4)) (mCons (mVar 7) mNil))) mNil)))))
def b__law_level : Env → R (Fl × Env) := (mSeq (mSet 2 (mComp [6] (mItR1 (mCons (mVar 1) mNil)) (gtN 6) mYes l__law_level_e1_14)) (mSeq (mSet 3 (mCallB 0 m__law_pick (mCons (mCon (.int 4)) mNil))) (mSeq (mSet 4 (mBin (gII cMul (· * ·)) (mCon (.int 12)) (mBin (gI0 (· + ·)) (mCon (.int 1)) (mCallB 0 m__law_pick (mCons (mCon (.int 8)) mNil))))) (mSeq (mSet 5 (mPrim gLst mNil)) (mSeq (mFor (mItR1 (mCons (mVar 1) mNil)) (gtN 6) l__law_level_b5) (mRet (mVar 5)))))))
def m__law_level : List D → R (D × D) := mFnB 2 8 b__law_level
def l__law_weights_e3_15 : Env → R (D × Env) := (mCon (.int 1))
def l__law_weights_e5_15 : Env → R (D × Env) := (mBin (gI0 (· + ·)) (mCon (.int 1)) (mCallB 0 m__law_pick (mCons (mVar 2) mNil)))
def l__law_weights_e6_11 : Env → R (D × Env) := (mBin (gI0 (· + ·)) (mCon (.int 1)) (mCallB 0 m__law_pick (mCons (mCon (.int 4)) mNil)))
def b__law_weights : Env → R (Fl × Env) := (mSeq (mSet 3 (mCallB 0 m__law_pick (mCons (mCon (.int 6)) mNil))) (mSeq (mIfS (mVal (mBin (gEq) (mVar 3) (mCon (.int 0)))) (mRet (mComp [4] (mItR1 (mCons (mVar 1) mNil)) (gtN 4) mYes l__law_weights_e3_15)) mSkip) (mSeq (mIfS (mVal (mBin (gEq) (mVar 3) (mCon (.int 1)))) (mRet (mComp [4] (mItR1 (mCons (mVar 1) mNil)) (gtN 4) mYes l__law_weights_e5_15)) mSkip) (mRet (mComp [4] (mItR1 (mCons (mVar 1) mNil)) (gtN 4) mYes l__law_weights_e6_11)))))
def m__law_weights : List D → R (D × D) := mFnB 3 5 b__law_weights
def l__law_offer_b17 : Env → R (Fl × Env) := (mSeq (mSet 8 (mBin (gI0 (· + ·)) (mBin (gI0 (· + ·)) (mVar 8) (mCon (.int 1))) (mCallB 0 m__law_pick (mCons (mVar 6) mNil)))) (mSeq (mIfS (mAnd (mVal (mBin (gEq) (mVar 4) (mCon (.int 4)))) (mVal (mBin (gEq) (mVar 10) (mBin (gI0 (· - ·)) (mVar 3) (mCon (.int 1)))))) (mSet 8 (mBin (gI0 (· + ·)) (mVar 8) (mCon (.int 300)))) mSkip) (mApp 9 (mPrim gTup (mCons (mBin gIx (mVar 5) (mVar 10)) (mCons (mCall m__law_lowest (mCons (mVar 8) (mCons (mVar 7) mNil))) mNil))))))
def b__law_offer : Env → R (Fl × Env) := (mSeq (mSet 3 (mBin (gI0 (· + ·)) (mCon (.int 1)) (mCallB 0 m__law_pick (mCons (mVar 1) mNil)))) (mSeq (mIfS (mAnd (mVal (mBin (gEq) (mVar 3) (mCon (.int 1)))) (mVal (mBin (gEq) (mCallB 0 m__law_pick (mCons (mCon (.int 2)) mNil)) (mCon (.int 1))))) (mSet 3 (mVar 1)) mSkip) (mSeq (mSet 4 (mCallB 0 m__law_pick (mCons (mCon (.int 16)) mNil))) (mSeq (mIfS (mVal (mBin (gIB fun i j => decide (i < j)) (mVar 4) (mCon (.int 3)))) (mRet (mCallB 0 m__law_level (mCons (mVar 3) mNil))) mSkip) (mSeq (mSet 5 (mCallB 0 m__law_weights (mCons (mVar 3) (mCons (mVar 2) mNil)))) (mSeq (mSet 6 (mBin gIx (mPrim gLst (mCons (mCon (.int 9)) (mCons (mCon (.int 9)) (mCons (mCon (.int 3)) (mCons (mCon (.int 40)) mNil))))) (mCallB 0 m__law_pick (mCons (mCon (.int 4)) mNil)))) (mSeq (mSet 7 (mCon (.int 1))) (mSeq (mIfS (mVal (mBin (gIB fun i j => decide (j < i)) (mVar 4) (mCon (.int 11)))) (mSet 7 (mBin (gI0 (· + ·)) (mCon (.int 2)) (mCallB 0 m__law_pick (mCons (mCon (.int 3)) mNil)))) mSkip) (mSeq (mIfS (mVal (mBin (gEq) (mVar 4) (mCon (.int 3)))) (mSeq (mSet 6 (mCon (.int 1600))) (mSet 7 (mBin (gI0 (· + ·)) (mCon (.int 1)) (mCallB 0 m__law_pick (mCons (mCon (.int 99)) mNil))))) mSkip) (mSeq (mSet 8 (mBin (gI0 (· - ·)) (mBin (gII cMul (· * ·)) (mCallB 0 m__law_pick (mCons (mCon (.int 2)) mNil)) (mCallB 0 m__law_pick (mCons (mCon (.int 20)) mNil))) (mCon (.int 1)))) (mSeq (mSet 9 (mPrim gLst mNil)) (mSeq (mFor (mItR1 (mCons (mVar 3) mNil)) (gtN 10) l__law_offer_b17) (mRet (mVar 9))))))))))))))
def m__law_offer : List D → R (D × D) := mFnB 3 11 b__law_offer
def l__law_common_b2 : Env → R (Fl × Env) := (mSet 1 (mBin (gII cMul (· * ·)) (mVar 1) (mBin (gII cDiv Int.fdiv) (mVar 2) (mCall m__law_gcd (mCons (mVar 1) (mCons (mVar 2) mNil))))))
def b__law_common : Env → R (Fl × Env) := (mSeq (mSet 1 (mCon (.int 1))) (mSeq (mFor (mItL (mVar 0)) (gtN 2) l__law_common_b2) (mRet (mVar 1))))
def m__law_common : List D → R D := mFn 1 3 b__law_common
def l__law_worths_e1_11 : Env → R (D × Env) := (mBin (gII cMul (· * ·)) (mBin gIx (mBin gIx (mVar 2) (mCon (.int 1))) (mCon (.int 0))) (mBin (gII cDiv Int.fdiv) (mVar 1) (mBin gIx (mBin gIx (mVar 2) (mCon (.int 1))) (mCon (.int 1)))))
def b__law_worths : Env → R (Fl × Env) := (mRet (mComp [2] (mItL (mVar 0)) (gtN 2) mYes l__law_worths_e1_11))
def m__law_worths : List D → R D := mFn 2 3 b__law_worths
def l__law_tails_e1_16 : Env → R (D × Env) := (mBin gIx (mVar 2) (mCon (.int 0)))
def l__law_tails_e1_11 : Env → R (D × Env) := (mPrim (gOne gSum) (mCons (mComp [2] (mItL (mSl (mVar 0) (mPart (mVar 1)) mNoP)) (gtN 2) mYes l__law_tails_e1_16) mNil))
def b__law_tails : Env → R (Fl × Env) := (mRet (mComp [1] (mItR1 (mCons (mBin (gI0 (· + ·)) (mPrim (gOne gLen) (mCons (mVar 0) mNil)) (mCon (.int 1))) mNil)) (gtN 1) mYes l__law_tails_e1_11))
def m__law_tails : List D → R D := mFn 1 3 b__law_tails
def l__law_lid_e1_24 : Env → R (D × Env) := (mBin gIx (mBin gIx (mVar 12) (mCon (.int 1))) (mCon (.int 1)))
def l__law_lid_e4_12 : Env → R (D × Env) := (mBin (gII cMul (· * ·)) (mBin gIx (mVar 2) (mVar 6)) (mBin gIx (mVar 3) (mVar 6)))
def l__law_lid_b10 : Env → R (Fl × Env) := (mSeq (mSet 11 (mPrim gTup (mCons (mBin (gI0 (· - ·)) (mBin gIx (mVar 4) (mVar 10)) (mBin gIx (mVar 4) (mVar 8))) (mCons (mBin (gI0 (· - ·)) (mBin gIx (mVar 3) (mVar 10)) (mBin gIx (mVar 3) (mVar 8))) mNil)))) (mIfS (mOr (mVal (mBin (gIs id) (mVar 9) (mCon .non))) (mVal (mBin (gIB fun i j => decide (j < i)) (mBin (gII cMul (· * ·)) (mBin gIx (mVar 11) (mCon (.int 0))) (mBin gIx (mVar 9) (mCon (.int 1)))) (mBin (gII cMul (· * ·)) (mBin gIx (mVar 9) (mCon (.int 0))) (mBin gIx (mVar 11) (mCon (.int 1))))))) (mSet 9 (mVar 11)) mSkip))
def l__law_lid_b8 : Env → R (Fl × Env) := (mSeq (mSet 9 (mCon .non)) (mSeq (mFor (mItR1 (mCons (mBin (gI0 (· + ·)) (mVar 6) (mCon (.int 1))) mNil)) (gtN 10) l__law_lid_b10) (mIfS (mOr (mVal (mBin (gIs id) (mVar 7) (mCon .non))) (mVal (mBin (gIB fun i j => decide (i < j)) (mBin (gII cMul (· * ·)) (mBin gIx (mVar 9) (mCon (.int 0))) (mBin gIx (mVar 7) (mCon (.int 1)))) (mBin (gII cMul (· * ·)) (mBin gIx (mVar 7) (mCon (.int 0))) (mBin gIx (mVar 9) (mCon (.int 1))))))) (mSet 7 (mVar 9)) mSkip)))
def l__law_lid_b6 : Env → R (Fl × Env) := (mSeq (mSet 7 (mCon .non)) (mSeq (mFor (mItR2 (mCons (mBin (gI0 (· + ·)) (mVar 6) (mCon (.int 1))) (mCons (mBin (gI0 (· + ·)) (mPrim (gOne gLen) (mCons (mVar 0) mNil)) (mCon (.int 1))) mNil))) (gtN 8) l__law_lid_b8) (mApp 5 (mPrim gTup (mCons (mBin gIx (mVar 7) (mCon (.int 0))) (mCons (mBin (gII cMul (· * ·)) (mBin gIx (mVar 7) (mCon (.int 1))) (mVar 1)) mNil))))))
def b__law_lid : Env → R (Fl × Env) := (mSeq (mSet 1 (mCall m__law_common (mCons (mComp [12] (mItL (mVar 0)) (gtN 12) mYes l__law_lid_e1_24) mNil))) (mSeq (mSet 2 (mCall m__law_worths (mCons (mVar 0) (mCons (mVar 1) mNil)))) (mSeq (mSet 3 (mCall m__law_tails (mCons (mVar 0) mNil))) (mSeq (mSet 4 (mBin gCat (mComp [6] (mItR1 (mCons (mPrim (gOne gLen) (mCons (mVar 0) mNil)) mNil)) (gtN 6) mYes l__law_lid_e4_12) (mPrim gLst (mCons (mCon (.int 0)) mNil)))) (mSeq (mSet 5 (mPrim gLst mNil)) (mSeq (mFor (mItR1 (mCons (mPrim (gOne gLen) (mCons (mVar 0) mNil)) mNil)) (gtN 6) l__law_lid_b6) (mRet (mVar 5))))))))
def m__law_lid : List D → R D := mFn 1 13 b__law_lid
def l__law_plain_e1_24 : Env → R (D × Env) := (mBin gIx (mBin gIx (mVar 8) (mCon (.int 1))) (mCon (.int 1)))
def l__law_plain_b5 : Env → R (Fl × Env) := (mSeq (mSet 6 (mBin (gI0 (· - ·)) (mBin (gI0 (· - ·)) (mPrim (gOne gLen) (mCons (mVar 0) mNil)) (mCon (.int 1))) (mVar 5))) (mSeq (mIfS (mVal (mBin (gEq) (mVar 5) (mCon (.int 0)))) (mSet 3 (mPrim gLst (mCons (mPrim gTup (mCons (mBin gIx (mVar 2) (mVar 6)) (mCons (mVar 1) mNil))) mNil))) (mSeq (mSet 7 (mBin (gI0 (· - ·)) (mBin (gII cMul (· * ·)) (mBin gIx (mVar 2) (mVar 6)) (mBin gIx (mBin gIx (mVar 0) (mVar 6)) (mCon (.int 0)))) (mBin (gII cMul (· * ·)) (mBin (gI0 (· - ·)) (mBin gIx (mVar 2) (mBin (gI0 (· + ·)) (mVar 6) (mCon (.int 1)))) (mBin gIx (mVar 2) (mVar 6))) (mVar 4)))) (mSet 3 (mBin gCat (mPrim gLst (mCons (mPrim gTup (mCons (mVar 7) (mCons (mBin (gII cMul (· * ·)) (mVar 1) (mBin gIx (mBin gIx (mVar 0) (mVar 6)) (mCon (.int 0)))) mNil))) mNil)) (mVar 3))))) (mSet 4 (mBin (gI0 (· + ·)) (mVar 4) (mBin gIx (mBin gIx (mVar 0) (mVar 6)) (mCon (.int 0)))))))
def b__law_plain : Env → R (Fl × Env) := (mSeq (mSet 1 (mCall m__law_common (mCons (mComp [8] (mItL (mVar 0)) (gtN 8) mYes l__law_plain_e1_24) mNil))) (mSeq (mSet 2 (mCall m__law_worths (mCons (mVar 0) (mCons (mVar 1) mNil)))) (mSeq (mSet 3 (mPrim gLst mNil)) (mSeq (mSet 4 (mCon (.int 0))) (mSeq (mFor (mItR1 (mCons (mPrim (gOne gLen) (mCons (mVar 0) mNil)) mNil)) (gtN 5) l__law_plain_b5) (mRet (mVar 3)))))))
def m__law_plain : List D → R D := mFn 1 9 b__law_plain
def l__law_rise_b1 : Env → R (Fl × Env) := (mIfS (mVal (mBin (gIB fun i j => decide (i < j)) (mBin (gII cMul (· * ·)) (mBin gIx (mBin gIx (mVar 0) (mBin (gI0 (· + ·)) (mVar 1) (mCon (.int 1)))) (mCon (.int 0))) (mBin gIx (mBin gIx (mVar 0) (mVar 1)) (mCon (.int 1)))) (mBin (gII cMul (· * ·)) (mBin gIx (mBin gIx (mVar 0) (mVar 1)) (mCon (.int 0))) (mBin gIx (mBin gIx (mVar 0) (mBin (gI0 (· + ·)) (mVar 1) (mCon (.int 1)))) (mCon (.int 1)))))) (mRet (mCon (.bl false))) mSkip)
def b__law_rise : Env → R (Fl × Env) := (mSeq (mFor (mItR1 (mCons (mBin (gI0 (· - ·)) (mPrim (gOne gLen) (mCons (mVar 0) mNil)) (mCon (.int 1))) mNil)) (gtN 1) l__law_rise_b1) (mRet (mCon (.bl true))))
def m__law_rise : List D → R D := mFn 1 2 b__law_rise
def l__law_alike_e1_15 : Env → R (D × Env) := (mBin (gEq) (mBin (gII cMul (· * ·)) (mBin gIx (mBin gIx (mVar 0) (mVar 2)) (mCon (.int 0))) (mBin gIx (mBin gIx (mVar 1) (mVar 2)) (mCon (.int 1)))) (mBin (gII cMul (· * ·)) (mBin gIx (mBin gIx (mVar 1) (mVar 2)) (mCon (.int 0))) (mBin gIx (mBin gIx (mVar 0) (mVar 2)) (mCon (.int 1)))))
def b__law_alike : Env → R (Fl × Env) := (mRet (mPrim (gOne gAll) (mCons (mComp [2] (mItR1 (mCons (mPrim (gOne gLen) (mCons (mVar 0) mNil)) mNil)) (gtN 2) mYes l__law_alike_e1_15) mNil)))
def m__law_alike : List D → R D := mFn 2 3 b__law_alike
def b_is_integer : Env → R (Fl × Env) := (mRet (mAndV (mUn (gIsi [0, 1, 2] [.int]) (mVar 0)) (mUn gNot (mUn (gIsi [0, 1, 2] [.bool]) (mVar 0)))))
def m_is_integer : List D → R D := mFn 1 1 b_is_integer
def b_Frac___init__ : Env → R (Fl × Env) := (mSeq (mIfS (mOr (mNot (mVal (mCall m_is_integer (mCons (mVar 1) mNil)))) (mOr (mNot (mVal (mCall m_is_integer (mCons (mVar 2) mNil)))) (mVal (mBin (gEq) (mVar 2) (mCon (.int 0)))))) (fun _ => .bad) mSkip) (mSeq (mSet 3 (mPrim (gTwo (gI0 gcdI)) (mCons (mVar 1) (mCons (mVar 2) mNil)))) (mSeq (mIfS (mVal (mBin (gIB fun i j => decide (i < j)) (mVar 2) (mCon (.int 0)))) (mSet 3 (mUn (gU fun i => -i) (mVar 3))) mSkip) (mSeq (mFldSet 0 0 0 (mBin (gII cDiv Int.fdiv) (mVar 1) (mVar 3))) (mFldSet 0 0 1 (mBin (gII cDiv Int.fdiv) (mVar 2) (mVar 3)))))))
def m_Frac___init__ : List D → R (D × D) := mFnB 3 4 b_Frac___init__
def b__law_given : Env → R (Fl × Env) := (mSeq (mIfS (mAnd (mVal (mBin (gEq) (mVar 1) (mCon (.int 1)))) (mVal (mBin (gEq) (mBin gIx (mVar 0) (mCon (.int 1))) (mCon (.int 1))))) (mRet (mBin gIx (mVar 0) (mCon (.int 0)))) mSkip) (mRet (mMake 0 (fun xs => m_Frac___init__ (xs ++ [])) (mCons (mBin gIx (mVar 0) (mCon (.int 0))) (mCons (mBin gIx (mVar 0) (mCon (.int 1))) mNil)))))
def m__law_given : List D → R D := mFn 2 2 b__law_given
def b_is_sequence : Env → R (Fl × Env) := (mRet (mUn (gIsi [0, 1, 2] [.list, .tuple]) (mVar 0)))
def m_is_sequence : List D → R D := mFn 1 1 b_is_sequence
def b_is_between : Env → R (Fl × Env) := (mRet (mAndV (mCall m_is_integer (mCons (mVar 0) mNil)) (mChain (gIB fun i j => decide (i ≤ j)) (gIB fun i j => decide (i ≤ j)) (mVar 1) (mVar 0) (mVar 2))))
def m_is_between : List D → R D := mFn 3 3 b_is_between
def b_as_frac : Env → R (Fl × Env) := (mSeq (mIfS (mVal (mUn (gIsi [0, 1, 2] [(.own 0)]) (mVar 0))) (mRet (mVar 0)) mSkip) (mSeq (mIfS (mNot (mVal (mCall m_is_integer (mCons (mVar 0) mNil)))) (fun _ => .bad) mSkip) (mRet (mMake 0 (fun xs => m_Frac___init__ (xs ++ [.int 1])) (mCons (mVar 0) mNil)))))
def m_as_frac : List D → R D := mFn 1 1 b_as_frac
def b_is_amount : Env → R (Fl × Env) := (mSeq (mIfS (mAnd (mNot (mVal (mCall m_is_integer (mCons (mVar 0) mNil)))) (mNot (mVal (mUn (gIsi [0, 1, 2] [(.own 0)]) (mVar 0))))) (mRet (mCon (.bl false))) mSkip) (mSeq (mSet 1 (mCall m_as_frac (mCons (mVar 0) mNil))) (mRet (mAndV (mChain (gIB fun i j => decide (i ≤ j)) (gIB fun i j => decide (i ≤ j)) (mUn (gU fun i => -i) (mCon (.int 9999))) (mUn (gFld [(0, 0)]) (mVar 1)) (mCon (.int 9999))) (mBin (gIB fun i j => decide (i ≤ j)) (mUn (gFld [(0, 1)]) (mVar 1)) (mCon (.int 99)))))))
def m_is_amount : List D → R D := mFn 1 2 b_is_amount
def b_is_prize : Env → R (Fl × Env) := (mSeq (mIfS (mOr (mNot (mVal (mCall m_is_sequence (mCons (mVar 0) mNil)))) (mVal (mBin (gNe) (mPrim (gOne gLen) (mCons (mVar 0) mNil)) (mCon (.int 2))))) (mRet (mCon (.bl false))) mSkip) (mSeq (mIfS (mOr (mNot (mVal (mCall m_is_between (mCons (mBin gIx (mVar 0) (mCon (.int 0))) (mCons (mCon (.int 1)) (mCons (mCon (.int 999)) mNil)))))) (mNot (mVal (mCall m_is_amount (mCons (mBin gIx (mVar 0) (mCon (.int 1))) mNil))))) (mRet (mCon (.bl false))) mSkip) (mRet (mBin (gIB fun i j => decide (j ≤ i)) (mUn (gFld [(0, 0)]) (mCall m_as_frac (mCons (mBin gIx (mVar 0) (mCon (.int 1))) mNil))) (mCon (.int 0))))))
def m_is_prize : List D → R D := mFn 1 1 b_is_prize
def b_Frac_is_below : Env → R (Fl × Env) := (mRet (mBin (gIB fun i j => decide (i < j)) (mBin (gII cMul (· * ·)) (mUn (gFld [(0, 0)]) (mVar 0)) (mUn (gFld [(0, 1)]) (mVar 1))) (mBin (gII cMul (· * ·)) (mUn (gFld [(0, 0)]) (mVar 1)) (mUn (gFld [(0, 1)]) (mVar 0)))))
def m_Frac_is_below : List D → R D := mFn 2 2 b_Frac_is_below
def l_kept_prizes_b4 : Env → R (Fl × Env) := (mSeq (mIfS (mNot (mVal (mCall m_is_prize (mCons (mVar 3) mNil)))) (fun _ => .bad) mSkip) (mSeq (mSet 4 (mCall m_as_frac (mCons (mBin gIx (mVar 3) (mCon (.int 1))) mNil))) (mSeq (mIfS (mAnd (mVal (mBin (gIB fun i j => decide (j < i)) (mVar 2) (mCon (.int 0)))) (mNot (mVal (mMeth 0 (fun xs => m_Frac_is_below (xs ++ [])) (mBin gIx (mBinN 1 gIx (mBin (gI0 (· - ·)) (mVar 2) (mCon (.int 1)))) (mCon (.int 1))) (mCons (mVar 4) mNil))))) (fun _ => .bad) mSkip) (mApp 1 (mPrim gTup (mCons (mBin gIx (mVar 3) (mCon (.int 0))) (mCons (mVar 4) mNil)))))))
def b_kept_prizes : Env → R (Fl × Env) := (mSeq (mIfS (mOr (mNot (mVal (mCall m_is_sequence (mCons (mVar 0) mNil)))) (mNot (mVal (mChain (gIB fun i j => decide (i ≤ j)) (gIB fun i j => decide (i ≤ j)) (mCon (.int 1)) (mPrim (gOne gLen) (mCons (mVar 0) mNil)) (mCon (.int 6)))))) (fun _ => .bad) mSkip) (mSeq (mSet 1 (mPrim gLst mNil)) (mSeq (mFor (mSeqD (enumD 0) (mVar 0)) (gtT 2 (gtCons (gtN 2) (gtCons (gtN 3) gtNil))) l_kept_prizes_b4) (mRet (mUnN 1 gTupOf)))))
def m_kept_prizes : List D → R D := mFn 1 5 b_kept_prizes
def b_Offer___init__ : Env → R (Fl × Env) := (mFldSet 0 1 0 (mCall m_kept_prizes (mCons (mVar 1) mNil)))
def m_Offer___init__ : List D → R (D × D) := mFnB 2 2 b_Offer___init__
def l__law_built_e2_13 : Env → R (D × Env) := (mPrim gLst (mCons (mBin gIx (mVar 4) (mCon (.int 0))) (mCons (mCall m__law_given (mCons (mBin gIx (mVar 4) (mCon (.int 1))) (mCons (mVar 2) mNil))) mNil)))
def l__law_built_e5_30 : Env → R (D × Env) := (mPrim (gOne gTupOf) (mCons (mVar 5) mNil))
def b__law_built : Env → R (Fl × Env) := (mSeq (mSet 2 (mBin (gII cNz Int.fmod) (mPrim (gOne gIntO) (mCons (mVar 1) mNil)) (mCon (.int 2)))) (mSeq (mSet 3 (mComp [4] (mItL (mVar 0)) (gtN 4) mYes l__law_built_e2_13)) (mSeq (mIfS (mVal (mBin (gIB fun i j => decide (i < j)) (mVar 1) (mCon (.int 2)))) (mRet (mMake 1 (fun xs => m_Offer___init__ (xs ++ [])) (mCons (mVar 3) mNil))) mSkip) (mRet (mMakeK 1 m_Offer___init__ 1 [0] (mCons (mPrim (gOne gTupOf) (mCons (mComp [5] (mItL (mVar 3)) (gtN 5) mYes l__law_built_e5_30) mNil)) mNil))))))
def m__law_built : List D → R D := mFn 2 6 b__law_built
def b__law_whole : Env → R (Fl × Env) := (mRet (mAndV (mUn (gIsi [0, 1, 2] [.int]) (mVar 0)) (mUn gNot (mUn (gIsi [0, 1, 2] [.bool]) (mVar 0)))))
def m__law_whole : List D → R D := mFn 1 1 b__law_whole
def b__law_frac : Env → R (Fl × Env) := (mSeq (mIfS (mOr (mNot (mVal (mUn (gIsi [0, 1, 2] [(.own 0)]) (mVar 0)))) (mOr (mNot (mVal (mCall m__law_whole (mCons (mUn (gFld [(0, 0)]) (mVar 0)) mNil)))) (mNot (mVal (mCall m__law_whole (mCons (mUn (gFld [(0, 1)]) (mVar 0)) mNil)))))) (mRet (mCon (.bl false))) mSkip) (mSeq (mSet 3 (mCall m__law_gcd (mCons (mVar 1) (mCons (mVar 2) mNil)))) (mRet (mAndV (mBin (gEq) (mUn (gFld [(0, 0)]) (mVar 0)) (mBin (gII cDiv Int.fdiv) (mVar 1) (mVar 3))) (mBin (gEq) (mUn (gFld [(0, 1)]) (mVar 0)) (mBin (gII cDiv Int.fdiv) (mVar 2) (mVar 3)))))))
def m__law_frac : List D → R D := mFn 3 4 b__law_frac
def l__law_fits_e6_19 (rec : List D → R D) : Env → R (D × Env) := (mCall rec (mCons (mBin gIx (mVar 0) (mVar 2)) (mCons (mBin gIx (mVar 1) (mVar 2)) mNil)))
def b__law_fits (rec : List D → R D) : Env → R (Fl × Env) := (mSeq (mIfS (mVal (mUn (gIsi [0, 1, 2] [.list]) (mVar 1))) (mRet (mCall m__law_frac (mCons (mVar 0) (mCons (mBin gIx (mVar 1) (mCon (.int 0))) (mCons (mBin gIx (mVar 1) (mCon (.int 1))) mNil))))) mSkip) (mSeq (mIfS (mVal (mUn (gIsi [0, 1, 2] [.tuple]) (mVar 1))) (mSeq (mIfS (mOr (mNot (mVal (mUn (gIsi [0, 1, 2] [.tuple]) (mVar 0)))) (mVal (mBin (gNe) (mPrim (gOne gLen) (mCons (mVar 0) mNil)) (mPrim (gOne gLen) (mCons (mVar 1) mNil))))) (mRet (mCon (.bl false))) mSkip) (mRet (mPrim (gOne gAll) (mCons (mComp [2] (mItR1 (mCons (mPrim (gOne gLen) (mCons (mVar 1) mNil)) mNil)) (gtN 2) mYes (l__law_fits_e6_19 rec)) mNil)))) mSkip) (mSeq (mIfS (mVal (mBin (gIs id) (mVar 1) (mCon .non))) (mRet (mBin (gIs id) (mVar 0) (mCon .non))) mSkip) (mSeq (mIfS (mVal (mUn (gIsi [0, 1, 2] [.bool]) (mVar 1))) (mRet (mAndV (mUn (gIsi [0, 1, 2] [.bool]) (mVar 0)) (mBin (gEq) (mVar 0) (mVar 1)))) mSkip) (mSeq (mIfS (mVal (mUn (gIsi [0, 1, 2] [.int]) (mVar 1))) (mRet (mAndV (mCall m__law_whole (mCons (mVar 0) mNil)) (mBin (gEq) (mVar 0) (mVar 1)))) mSkip) (mRet (mAndV (mUn (gIsi [0, 1, 2] [.str]) (mVar 0)) (mBin (gEq) (mVar 0) (mVar 1)))))))))
def m__law_fits : Nat → List D → R D
  | 0 => fun _ => .bad
  | j + 1 => mFn 2 3 (b__law_fits (m__law_fits j))
def l_common_under_b2 : Env → R (Fl × Env) := (mSet 1 (mPrim (gTwo (gII cLcm lcmI)) (mCons (mVar 1) (mCons (mUn (gFld [(0, 1)]) (mVar 2)) mNil))))
def b_common_under : Env → R (Fl × Env) := (mSeq (mSet 1 (mCon (.int 1))) (mSeq (mFor (mItL (mVar 0)) (gtN 2) l_common_under_b2) (mRet (mVar 1))))
def m_common_under : List D → R D := mFn 1 3 b_common_under
def b_scaled : Env → R (Fl × Env) := (mRet (mBin (gII cMul (· * ·)) (mUn (gFld [(0, 0)]) (mVar 0)) (mBin (gII cDiv Int.fdiv) (mVar 1) (mUn (gFld [(0, 1)]) (mVar 0)))))
def m_scaled : List D → R D := mFn 2 2 b_scaled
def l_tail_sums_b2 : Env → R (Fl × Env) := (mApp 1 (mBin (gI0 (· + ·)) (mBinN 1 gIx (mUn (gU fun i => -i) (mCon (.int 1)))) (mVar 2)))
def b_tail_sums : Env → R (Fl × Env) := (mSeq (mSet 1 (mPrim gLst (mCons (mCon (.int 0)) mNil))) (mSeq (mFor (mSeqD List.reverse (mVar 0)) (gtN 2) l_tail_sums_b2) (mRet (mUnN 1 gRev))))
def m_tail_sums : List D → R D := mFn 1 3 b_tail_sums
def l_Buyer___init___e3_22 : Env → R (D × Env) := (mCall m_scaled (mCons (mVar 3) (mCons (mFldN 0 [(2, 0)]) mNil)))
def b_Buyer___init__ : Env → R (Fl × Env) := (mSeq (mFldSet 0 2 0 (mCall m_common_under (mCons (mComp [2, 3] (mItT (mUn (gFld [(1, 0)]) (mVar 1))) (gtT 2 (gtCons (gtN 2) (gtCons (gtN 3) gtNil))) mYes (mVar 3)) mNil))) (mSeq (mFldSet 0 2 1 (mComp [4, 2] (mItT (mUn (gFld [(1, 0)]) (mVar 1))) (gtT 2 (gtCons (gtN 4) (gtCons (gtN 2) gtNil))) mYes (mVar 4))) (mSeq (mFldSet 0 2 2 (mComp [2, 3] (mItT (mUn (gFld [(1, 0)]) (mVar 1))) (gtT 2 (gtCons (gtN 2) (gtCons (gtN 3) gtNil))) mYes l_Buyer___init___e3_22)) (mFldSet 0 2 3 (mCall m_tail_sums (mCons (mFldN 0 [(2, 1)]) mNil))))))
def m_Buyer___init__ : List D → R (D × D) := mFnB 2 5 b_Buyer___init__
def b_Buyer_income : Env → R (Fl × Env) := (mRet (mBin (gII cMul (· * ·)) (mBin gIx (mUn (gFld [(2, 2)]) (mVar 0)) (mVar 1)) (mBin gIx (mUn (gFld [(2, 3)]) (mVar 0)) (mVar 1))))
def m_Buyer_income : List D → R D := mFn 2 2 b_Buyer_income
def l_Buyer_income_points_b2 : Env → R (Fl × Env) := (mApp 1 (mPrim gTup (mCons (mBin gIx (mUn (gFld [(2, 3)]) (mVar 0)) (mVar 2)) (mCons (mMeth 2 (fun xs => m_Buyer_income (xs ++ [])) (mVar 0) (mCons (mVar 2) mNil)) mNil))))
def b_Buyer_income_points : Env → R (Fl × Env) := (mSeq (mSet 1 (mPrim gLst (mCons (mPrim gTup (mCons (mCon (.int 0)) (mCons (mCon (.int 0)) mNil))) mNil))) (mSeq (mFor (mItR3 (mCons (mBin (gI0 (· - ·)) (mPrim (gOne gLen) (mCons (mUn (gFld [(2, 2)]) (mVar 0)) mNil)) (mCon (.int 1))) (mCons (mUn (gU fun i => -i) (mCon (.int 1))) (mCons (mUn (gU fun i => -i) (mCon (.int 1))) mNil)))) (gtN 2) l_Buyer_income_points_b2) (mRet (mVar 1))))
def m_Buyer_income_points : List D → R D := mFn 1 3 b_Buyer_income_points
def b_bends_down : Env → R (Fl × Env) := (mSeq (mSet 3 (mBin (gII cMul (· * ·)) (mBin (gI0 (· - ·)) (mBin gIx (mVar 1) (mCon (.int 1))) (mBin gIx (mVar 0) (mCon (.int 1)))) (mBin (gI0 (· - ·)) (mBin gIx (mVar 2) (mCon (.int 0))) (mBin gIx (mVar 1) (mCon (.int 0)))))) (mSeq (mSet 4 (mBin (gII cMul (· * ·)) (mBin (gI0 (· - ·)) (mBin gIx (mVar 2) (mCon (.int 1))) (mBin gIx (mVar 1) (mCon (.int 1)))) (mBin (gI0 (· - ·)) (mBin gIx (mVar 1) (mCon (.int 0))) (mBin gIx (mVar 0) (mCon (.int 0)))))) (mRet (mBin (gIB fun i j => decide (j < i)) (mVar 3) (mVar 4)))))
def m_bends_down : List D → R D := mFn 3 5 b_bends_down
def l_lid_places_b3 : Env → R (Fl × Env) := (mDrop (mPop 1))
def l_lid_places_t3 : Env → R (Bool × Env) := (mAnd (mVal (mBin (gIB fun i j => decide (j < i)) (mUnN 1 gLen) (mCon (.int 1)))) (mNot (mVal (mCall m_bends_down (mCons (mBin gIx (mVar 0) (mBinN 1 gIx (mUn (gU fun i => -i) (mCon (.int 2))))) (mCons (mBin gIx (mVar 0) (mBinN 1 gIx (mUn (gU fun i => -i) (mCon (.int 1))))) (mCons (mVar 3) mNil)))))))
def l_lid_places_b2 : Env → R (Fl × Env) := (mSeq (mWhile 100 l_lid_places_t3 l_lid_places_b3) (mApp 1 (mVar 2)))
def b_lid_places : Env → R (Fl × Env) := (mSeq (mSet 1 (mPrim gLst mNil)) (mSeq (mFor (mSeqD (enumD 0) (mVar 0)) (gtT 2 (gtCons (gtN 2) (gtCons (gtN 3) gtNil))) l_lid_places_b2) (mRet (mVar 1))))
def m_lid_places : List D → R D := mFn 1 4 b_lid_places
def b_slope_parts : Env → R (Fl × Env) := (mRet (mPrim gTup (mCons (mBin (gI0 (· - ·)) (mBin gIx (mBin gIx (mVar 0) (mVar 2)) (mCon (.int 1))) (mBin gIx (mBin gIx (mVar 0) (mVar 1)) (mCon (.int 1)))) (mCons (mBin (gI0 (· - ·)) (mBin gIx (mBin gIx (mVar 0) (mVar 2)) (mCon (.int 0))) (mBin gIx (mBin gIx (mVar 0) (mVar 1)) (mCon (.int 0)))) mNil))))
def m_slope_parts : List D → R D := mFn 3 3 b_slope_parts
def b_Buyer_number : Env → R (Fl × Env) := (mRet (mMake 0 (fun xs => m_Frac___init__ (xs ++ [])) (mCons (mVar 1) (mCons (mBin (gII cMul (· * ·)) (mVar 2) (mUn (gFld [(2, 0)]) (mVar 0))) mNil))))
def m_Buyer_number : List D → R D := mFn 3 3 b_Buyer_number
def l_smooth_runs_b5 : Env → R (Fl × Env) := (mSeq (mAsg (gtT 2 (gtCons (gtN 6) (gtCons (gtN 7) gtNil))) (mCall m_slope_parts (mCons (mVar 2) (mCons (mBin gIx (mVar 3) (mBin (gI0 (· - ·)) (mVar 5) (mCon (.int 1)))) (mCons (mBin gIx (mVar 3) (mVar 5)) mNil))))) (mSeq (mSet 8 (mBin (gI0 (· - ·)) (mBin (gI0 (· - ·)) (mPrim (gOne gLen) (mCons (mVar 2) mNil)) (mCon (.int 1))) (mBin gIx (mVar 3) (mVar 5)))) (mSeq (mSet 9 (mBin (gI0 (· - ·)) (mBin (gI0 (· - ·)) (mPrim (gOne gLen) (mCons (mVar 2) mNil)) (mCon (.int 1))) (mBin gIx (mVar 3) (mBin (gI0 (· - ·)) (mVar 5) (mCon (.int 1)))))) (mApp 4 (mPrim gTup (mCons (mVar 8) (mCons (mVar 9) (mCons (mMeth 2 (fun xs => m_Buyer_number (xs ++ [])) (mVar 1) (mCons (mVar 6) (mCons (mVar 7) mNil))) mNil))))))))
def b_smooth_runs : Env → R (Fl × Env) := (mSeq (mSet 1 (mMake 2 (fun xs => m_Buyer___init__ (xs ++ [])) (mCons (mVar 0) mNil))) (mSeq (mSet 2 (mMeth 2 (fun xs => m_Buyer_income_points (xs ++ [])) (mVar 1) mNil)) (mSeq (mSet 3 (mCall m_lid_places (mCons (mVar 2) mNil))) (mSeq (mSet 4 (mPrim gLst mNil)) (mSeq (mFor (mItR3 (mCons (mBin (gI0 (· - ·)) (mPrim (gOne gLen) (mCons (mVar 3) mNil)) (mCon (.int 1))) (mCons (mCon (.int 0)) (mCons (mUn (gU fun i => -i) (mCon (.int 1))) mNil)))) (gtN 5) l_smooth_runs_b5) (mRet (mUnN 4 gTupOf)))))))
def m_smooth_runs : List D → R D := mFn 1 10 b_smooth_runs
def l_smooth_numbers_b2 : Env → R (Fl × Env) := (mExt 1 (mComp [5] (mItR2 (mCons (mVar 2) (mCons (mVar 3) mNil))) (gtN 5) mYes (mVar 4)))
def b_smooth_numbers : Env → R (Fl × Env) := (mSeq (mSet 1 (mPrim gLst mNil)) (mSeq (mFor (mItT (mCall m_smooth_runs (mCons (mVar 0) mNil))) (gtT 3 (gtCons (gtN 2) (gtCons (gtN 3) (gtCons (gtN 4) gtNil)))) l_smooth_numbers_b2) (mRet (mUnN 1 gTupOf))))
def m_smooth_numbers : List D → R D := mFn 1 6 b_smooth_numbers
def l_plain_numbers_b4 : Env → R (Fl × Env) := (mSeq (mAsg (gtT 2 (gtCons (gtN 5) (gtCons (gtN 6) gtNil))) (mCall m_slope_parts (mCons (mVar 2) (mCons (mBin (gI0 (· - ·)) (mVar 4) (mCon (.int 1))) (mCons (mVar 4) mNil))))) (mApp 3 (mMeth 2 (fun xs => m_Buyer_number (xs ++ [])) (mVar 1) (mCons (mVar 5) (mCons (mVar 6) mNil)))))
def b_plain_numbers : Env → R (Fl × Env) := (mSeq (mSet 1 (mMake 2 (fun xs => m_Buyer___init__ (xs ++ [])) (mCons (mVar 0) mNil))) (mSeq (mSet 2 (mMeth 2 (fun xs => m_Buyer_income_points (xs ++ [])) (mVar 1) mNil)) (mSeq (mSet 3 (mPrim gLst mNil)) (mSeq (mFor (mItR3 (mCons (mBin (gI0 (· - ·)) (mPrim (gOne gLen) (mCons (mVar 2) mNil)) (mCon (.int 1))) (mCons (mCon (.int 0)) (mCons (mUn (gU fun i => -i) (mCon (.int 1))) mNil)))) (gtN 4) l_plain_numbers_b4) (mRet (mUnN 3 gTupOf))))))
def m_plain_numbers : List D → R D := mFn 1 7 b_plain_numbers
def l__law_numbers_hold_e6_50 : Env → R (D × Env) := (mPrim (gOne gListOf) (mCons (mVar 5) mNil))
def l__law_numbers_hold_e8_49 : Env → R (D × Env) := (mPrim (gOne gListOf) (mCons (mVar 5) mNil))
def l__law_numbers_hold_e10_77 : Env → R (D × Env) := (mPrim (gOne gListOf) (mCons (mVar 5) mNil))
def b__law_numbers_hold : Env → R (Fl × Env) := (mSeq (mSet 2 (mCall m__law_lid (mCons (mVar 0) mNil))) (mSeq (mSet 3 (mCall m__law_plain (mCons (mVar 0) mNil))) (mSeq (mIfS (mVal (mBin (gNe) (mCall m__law_rise (mCons (mVar 3) mNil)) (mCall m__law_alike (mCons (mVar 2) (mCons (mVar 3) mNil))))) (mRet (mCon (.bl false))) mSkip) (mSeq (mSet 4 (mCall m__law_built (mCons (mVar 0) (mCons (mVar 1) mNil)))) (mSeq (mIfS (mNot (mVal (mCall (m__law_fits 4) (mCons (mCall m_smooth_numbers (mCons (mVar 4) mNil)) (mCons (mPrim (gOne gTupOf) (mCons (mComp [5] (mItL (mVar 2)) (gtN 5) mYes l__law_numbers_hold_e6_50) mNil)) mNil))))) (mRet (mCon (.bl false))) mSkip) (mSeq (mIfS (mNot (mVal (mCall (m__law_fits 4) (mCons (mCall m_plain_numbers (mCons (mVar 4) mNil)) (mCons (mPrim (gOne gTupOf) (mCons (mComp [5] (mItL (mVar 3)) (gtN 5) mYes l__law_numbers_hold_e8_49) mNil)) mNil))))) (mRet (mCon (.bl false))) mSkip) (mRet (mCall (m__law_fits 4) (mCons (mCallK m_smooth_numbers 1 [0] (mCons (mCall m__law_built (mCons (mVar 0) (mCons (mBin (gI0 (· - ·)) (mCon (.int 3)) (mVar 1)) mNil))) mNil)) (mCons (mPrim (gOne gTupOf) (mCons (mComp [5] (mItL (mVar 2)) (gtN 5) mYes l__law_numbers_hold_e10_77) mNil)) mNil))))))))))
def m__law_numbers_hold : List D → R D := mFn 2 6 b__law_numbers_hold
def b__law_asked : Env → R (Fl × Env) := (mSeq (mSet 1 (mPrim gLst (mCons (mPrim (gOne gListOf) (mCons (mVar 0) mNil)) (mCons (mCon (.int 0)) (mCons (mCon (.int 0)) (mCons (mCon (.int 0)) mNil)))))) (mSeq (mSet 2 (mCallB 1 m__law_offer (mCons (mCon (.int 6)) (mCons (mCon (.int 999)) mNil)))) (mSeq (mSet 3 (mCallB 1 m__law_offer (mCons (mCon (.int 6)) (mCons (mCon (.int 999)) mNil)))) (mSeq (mSet 4 (mCallB 1 m__law_pick (mCons (mCon (.int 4)) mNil))) (mRet (mAndV (mCall m__law_numbers_hold (mCons (mVar 2) (mCons (mVar 4) mNil))) (mAndV (mCall m__law_numbers_hold (mCons (mVar 3) (mCons (mBin (gI0 (· - ·)) (mCon (.int 3)) (mVar 4)) mNil))) (mCall m__law_numbers_hold (mCons (mVar 2) (mCons (mBin (gI0 (· - ·)) (mCon (.int 3)) (mVar 4)) mNil))))))))))
def m__law_asked : List D → R D := mFn 1 5 b__law_asked
def b_law : Env → R (Fl × Env) := (mTry (mRet (mCall m__law_asked (mCons (mVar 0) mNil))))
def m_law : List D → R D := mFn 1 1 b_law
structure Txt (K : PySem.W.Frag) (mg : Str → Option Value) (a : Ad) : Prop where
  fn__law_pick : FunD K "_law_pick" "_law_pick" (defArgs s__law_pick) (defBody s__law_pick) (defScope s__law_pick) [] [] a.f__law_pick a.d__law_pick
  g__law_pick : Gf K mg "_law_pick" a.f__law_pick a.d__law_pick ["feed", "many"]
  fn__law_gcd : FunD K "_law_gcd" "_law_gcd" (defArgs s__law_gcd) (defBody s__law_gcd) (defScope s__law_gcd) [] [] a.f__law_gcd a.d__law_gcd
  g__law_gcd : Gf K mg "_law_gcd" a.f__law_gcd a.d__law_gcd ["one", "two"]
  fn__law_lowest : FunD K "_law_lowest" "_law_lowest" (defArgs s__law_lowest) (defBody s__law_lowest) (defScope s__law_lowest) [] [] a.f__law_lowest a.d__law_lowest
  g__law_lowest : Gf K mg "_law_lowest" a.f__law_lowest a.d__law_lowest ["num", "den"]
  fn__law_level : FunD K "_law_level" "_law_level" (defArgs s__law_level) (defBody s__law_level) (defScope s__law_level) [] [] a.f__law_level a.d__law_level
  g__law_level : Gf K mg "_law_level" a.f__law_level a.d__law_level ["feed", "many"]
  fn__law_weights : FunD K "_law_weights" "_law_weights" (defArgs s__law_weights) (defBody s__law_weights) (defScope s__law_weights) [] [] a.f__law_weights a.d__law_weights
  g__law_weights : Gf K mg "_law_weights" a.f__law_weights a.d__law_weights ["feed", "many", "top"]
  fn__law_offer : FunD K "_law_offer" "_law_offer" (defArgs s__law_offer) (defBody s__law_offer) (defScope s__law_offer) [] [] a.f__law_offer a.d__law_offer
  g__law_offer : Gf K mg "_law_offer" a.f__law_offer a.d__law_offer ["feed", "most", "top"]
  fn__law_common : FunD K "_law_common" "_law_common" (defArgs s__law_common) (defBody s__law_common) (defScope s__law_common) [] [] a.f__law_common a.d__law_common
  g__law_common : Gf K mg "_law_common" a.f__law_common a.d__law_common ["numbers"]
  fn__law_worths : FunD K "_law_worths" "_law_worths" (defArgs s__law_worths) (defBody s__law_worths) (defScope s__law_worths) [] [] a.f__law_worths a.d__law_worths
  g__law_worths : Gf K mg "_law_worths" a.f__law_worths a.d__law_worths ["rows", "scale"]
  fn__law_tails : FunD K "_law_tails" "_law_tails" (defArgs s__law_tails) (defBody s__law_tails) (defScope s__law_tails) [] [] a.f__law_tails a.d__law_tails
  g__law_tails : Gf K mg "_law_tails" a.f__law_tails a.d__law_tails ["rows"]
  fn__law_lid : FunD K "_law_lid" "_law_lid" (defArgs s__law_lid) (defBody s__law_lid) (defScope s__law_lid) [] [] a.f__law_lid a.d__law_lid
  g__law_lid : Gf K mg "_law_lid" a.f__law_lid a.d__law_lid ["rows"]
  fn__law_plain : FunD K "_law_plain" "_law_plain" (defArgs s__law_plain) (defBody s__law_plain) (defScope s__law_plain) [] [] a.f__law_plain a.d__law_plain
  g__law_plain : Gf K mg "_law_plain" a.f__law_plain a.d__law_plain ["rows"]
  fn__law_rise : FunD K "_law_rise" "_law_rise" (defArgs s__law_rise) (defBody s__law_rise) (defScope s__law_rise) [] [] a.f__law_rise a.d__law_rise
  g__law_rise : Gf K mg "_law_rise" a.f__law_rise a.d__law_rise ["numbers"]
  fn__law_alike : FunD K "_law_alike" "_law_alike" (defArgs s__law_alike) (defBody s__law_alike) (defScope s__law_alike) [] [] a.f__law_alike a.d__law_alike
  g__law_alike : Gf K mg "_law_alike" a.f__law_alike a.d__law_alike ["one", "two"]
  fn_is_integer : FunD K "is_integer" "is_integer" (defArgs s_is_integer) (defBody s_is_integer) (defScope s_is_integer) [] [] a.f_is_integer a.d_is_integer
  g_is_integer : Gf K mg "is_integer" a.f_is_integer a.d_is_integer ["value"]
  fn_Frac___init__ : FunD K "__init__" "Frac.__init__" (defArgs s_Frac___init__) (defBody s_Frac___init__) (defScope s_Frac___init__) [.int 1] [] a.f_Frac___init__ a.d_Frac___init__
  gd_Frac___init___0 : Gd K a.d_Frac___init__ ["self", "num", "den"] []
  gd_Frac___init___1 : Gd K a.d_Frac___init__ ["self", "num", "den"] [.int 1]
  fn__law_given : FunD K "_law_given" "_law_given" (defArgs s__law_given) (defBody s__law_given) (defScope s__law_given) [] [] a.f__law_given a.d__law_given
  g__law_given : Gf K mg "_law_given" a.f__law_given a.d__law_given ["pair", "plain"]
  fn_is_sequence : FunD K "is_sequence" "is_sequence" (defArgs s_is_sequence) (defBody s_is_sequence) (defScope s_is_sequence) [] [] a.f_is_sequence a.d_is_sequence
  g_is_sequence : Gf K mg "is_sequence" a.f_is_sequence a.d_is_sequence ["value"]
  fn_is_between : FunD K "is_between" "is_between" (defArgs s_is_between) (defBody s_is_between) (defScope s_is_between) [] [] a.f_is_between a.d_is_between
  g_is_between : Gf K mg "is_between" a.f_is_between a.d_is_between ["value", "least", "most"]
  fn_as_frac : FunD K "as_frac" "as_frac" (defArgs s_as_frac) (defBody s_as_frac) (defScope s_as_frac) [] [] a.f_as_frac a.d_as_frac
  g_as_frac : Gf K mg "as_frac" a.f_as_frac a.d_as_frac ["value"]
  fn_is_amount : FunD K "is_amount" "is_amount" (defArgs s_is_amount) (defBody s_is_amount) (defScope s_is_amount) [] [] a.f_is_amount a.d_is_amount
  g_is_amount : Gf K mg "is_amount" a.f_is_amount a.d_is_amount ["value"]
  fn_is_prize : FunD K "is_prize" "is_prize" (defArgs s_is_prize) (defBody s_is_prize) (defScope s_is_prize) [] [] a.f_is_prize a.d_is_prize
  g_is_prize : Gf K mg "is_prize" a.f_is_prize a.d_is_prize ["value"]
  fn_Frac_is_below : FunD K "is_below" "Frac.is_below" (defArgs s_Frac_is_below) (defBody s_Frac_is_below) (defScope s_Frac_is_below) [] [] a.f_Frac_is_below a.d_Frac_is_below
  me_Frac_is_below : Meth K a.c_Frac "is_below" a.f_Frac_is_below
  b_Frac_is_below : Binds K a.d_Frac_is_below ["self", "other"] []
  fn_kept_prizes : FunD K "kept_prizes" "kept_prizes" (defArgs s_kept_prizes) (defBody s_kept_prizes) (defScope s_kept_prizes) [] [] a.f_kept_prizes a.d_kept_prizes
  g_kept_prizes : Gf K mg "kept_prizes" a.f_kept_prizes a.d_kept_prizes ["prizes"]
  fn_Offer___init__ : FunD K "__init__" "Offer.__init__" (defArgs s_Offer___init__) (defBody s_Offer___init__) (defScope s_Offer___init__) [] [] a.f_Offer___init__ a.d_Offer___init__
  gd_Offer___init___0 : Gd K a.d_Offer___init__ ["self", "prizes"] []
  fn__law_built : FunD K "_law_built" "_law_built" (defArgs s__law_built) (defBody s__law_built) (defScope s__law_built) [] [] a.f__law_built a.d__law_built
  g__law_built : Gf K mg "_law_built" a.f__law_built a.d__law_built ["rows", "form"]
  fn__law_whole : FunD K "_law_whole" "_law_whole" (defArgs s__law_whole) (defBody s__law_whole) (defScope s__law_whole) [] [] a.f__law_whole a.d__law_whole
  g__law_whole : Gf K mg "_law_whole" a.f__law_whole a.d__law_whole ["found"]
  fn__law_frac : FunD K "_law_frac" "_law_frac" (defArgs s__law_frac) (defBody s__law_frac) (defScope s__law_frac) [] [] a.f__law_frac a.d__law_frac
  g__law_frac : Gf K mg "_law_frac" a.f__law_frac a.d__law_frac ["found", "num", "den"]
  fn__law_fits : FunD K "_law_fits" "_law_fits" (defArgs s__law_fits) (defBody s__law_fits) (defScope s__law_fits) [] [] a.f__law_fits a.d__law_fits
  g__law_fits : Gf K mg "_law_fits" a.f__law_fits a.d__law_fits ["found", "due"]
  fn_common_under : FunD K "common_under" "common_under" (defArgs s_common_under) (defBody s_common_under) (defScope s_common_under) [] [] a.f_common_under a.d_common_under
  g_common_under : Gf K mg "common_under" a.f_common_under a.d_common_under ["fracs"]
  fn_scaled : FunD K "scaled" "scaled" (defArgs s_scaled) (defBody s_scaled) (defScope s_scaled) [] [] a.f_scaled a.d_scaled
  g_scaled : Gf K mg "scaled" a.f_scaled a.d_scaled ["frac", "under"]
  fn_tail_sums : FunD K "tail_sums" "tail_sums" (defArgs s_tail_sums) (defBody s_tail_sums) (defScope s_tail_sums) [] [] a.f_tail_sums a.d_tail_sums
  g_tail_sums : Gf K mg "tail_sums" a.f_tail_sums a.d_tail_sums ["weights"]
  fn_Buyer___init__ : FunD K "__init__" "Buyer.__init__" (defArgs s_Buyer___init__) (defBody s_Buyer___init__) (defScope s_Buyer___init__) [] [] a.f_Buyer___init__ a.d_Buyer___init__
  gd_Buyer___init___0 : Gd K a.d_Buyer___init__ ["self", "offer"] []
  fn_Buyer_income : FunD K "income" "Buyer.income" (defArgs s_Buyer_income) (defBody s_Buyer_income) (defScope s_Buyer_income) [] [] a.f_Buyer_income a.d_Buyer_income
  me_Buyer_income : Meth K a.c_Buyer "income" a.f_Buyer_income
  b_Buyer_income : Binds K a.d_Buyer_income ["self", "prize"] []
  fn_Buyer_income_points : FunD K "income_points" "Buyer.income_points" (defArgs s_Buyer_income_points) (defBody s_Buyer_income_points) (defScope s_Buyer_income_points) [] [] a.f_Buyer_income_points a.d_Buyer_income_points
  me_Buyer_income_points : Meth K a.c_Buyer "income_points" a.f_Buyer_income_points
  b_Buyer_income_points : Binds K a.d_Buyer_income_points ["self"] []
  fn_bends_down : FunD K "bends_down" "bends_down" (defArgs s_bends_down) (defBody s_bends_down) (defScope s_bends_down) [] [] a.f_bends_down a.d_bends_down
  g_bends_down : Gf K mg "bends_down" a.f_bends_down a.d_bends_down ["one", "two", "three"]
  fn_lid_places : FunD K "lid_places" "lid_places" (defArgs s_lid_places) (defBody s_lid_places) (defScope s_lid_places) [] [] a.f_lid_places a.d_lid_places
  g_lid_places : Gf K mg "lid_places" a.f_lid_places a.d_lid_places ["points"]
  fn_slope_parts : FunD K "slope_parts" "slope_parts" (defArgs s_slope_parts) (defBody s_slope_parts) (defScope s_slope_parts) [] [] a.f_slope_parts a.d_slope_parts
  g_slope_parts : Gf K mg "slope_parts" a.f_slope_parts a.d_slope_parts ["points", "start", "end"]
  fn_Buyer_number : FunD K "number" "Buyer.number" (defArgs s_Buyer_number) (defBody s_Buyer_number) (defScope s_Buyer_number) [] [] a.f_Buyer_number a.d_Buyer_number
  me_Buyer_number : Meth K a.c_Buyer "number" a.f_Buyer_number
  b_Buyer_number : Binds K a.d_Buyer_number ["self", "rise", "width"] []
  fn_smooth_runs : FunD K "smooth_runs" "smooth_runs" (defArgs s_smooth_runs) (defBody s_smooth_runs) (defScope s_smooth_runs) [] [] a.f_smooth_runs a.d_smooth_runs
  g_smooth_runs : Gf K mg "smooth_runs" a.f_smooth_runs a.d_smooth_runs ["offer"]
  fn_smooth_numbers : FunD K "smooth_numbers" "smooth_numbers" (defArgs s_smooth_numbers) (defBody s_smooth_numbers) (defScope s_smooth_numbers) [] [] a.f_smooth_numbers a.d_smooth_numbers
  g_smooth_numbers : Gf K mg "smooth_numbers" a.f_smooth_numbers a.d_smooth_numbers ["offer"]
  fn_plain_numbers : FunD K "plain_numbers" "plain_numbers" (defArgs s_plain_numbers) (defBody s_plain_numbers) (defScope s_plain_numbers) [] [] a.f_plain_numbers a.d_plain_numbers
  g_plain_numbers : Gf K mg "plain_numbers" a.f_plain_numbers a.d_plain_numbers ["offer"]
  fn__law_numbers_hold : FunD K "_law_numbers_hold" "_law_numbers_hold" (defArgs s__law_numbers_hold) (defBody s__law_numbers_hold) (defScope s__law_numbers_hold) [] [] a.f__law_numbers_hold a.d__law_numbers_hold
  g__law_numbers_hold : Gf K mg "_law_numbers_hold" a.f__law_numbers_hold a.d__law_numbers_hold ["rows", "form"]
  fn__law_asked : FunD K "_law_asked" "_law_asked" (defArgs s__law_asked) (defBody s__law_asked) (defScope s__law_asked) [] [] a.f__law_asked a.d__law_asked
  g__law_asked : Gf K mg "_law_asked" a.f__law_asked a.d__law_asked ["script"]
  fn_law : FunD K "law" "law" (defArgs s_law) (defBody s_law) (defScope s_law) [] [] a.f_law a.d_law
  kw_Offer___init___prizes : KBn K a.d_Offer___init__ ["self", "prizes"] 1 ["prizes"] (fun us ws => us ++ permL [0] ws) (fun us ws => us ++ permL [0] ws)
  kw_smooth_numbers_offer : KBn K a.d_smooth_numbers ["offer"] 0 ["offer"] (fun us ws => us ++ permL [0] ws) (fun us ws => us ++ permL [0] ws)
  gc_Frac : Gc K mg "Frac" a.c_Frac a.f_Frac___init__
  cl_Frac : Cls K a.c_Frac
  na_Frac_num : NoAttr K a.c_Frac "num"
  na_Frac_den : NoAttr K a.c_Frac "den"
  gc_Offer : Gc K mg "Offer" a.c_Offer a.f_Offer___init__
  cl_Offer : Cls K a.c_Offer
  na_Offer_prizes : NoAttr K a.c_Offer "prizes"
  gc_Buyer : Gc K mg "Buyer" a.c_Buyer a.f_Buyer___init__
  cl_Buyer : Cls K a.c_Buyer
  na_Buyer_under : NoAttr K a.c_Buyer "under"
  na_Buyer_weights : NoAttr K a.c_Buyer "weights"
  na_Buyer_worths : NoAttr K a.c_Buyer "worths"
  na_Buyer_tails : NoAttr K a.c_Buyer "tails"
  fo_num : FldOk K (tab a) "num" [(0, 0)]
  fo_den : FldOk K (tab a) "den" [(0, 1)]
  fo_prizes : FldOk K (tab a) "prizes" [(1, 0)]
  fo_under : FldOk K (tab a) "under" [(2, 0)]
  fo_weights : FldOk K (tab a) "weights" [(2, 1)]
  fo_worths : FldOk K (tab a) "worths" [(2, 2)]
  fo_tails : FldOk K (tab a) "tails" [(2, 3)]
  ty : TyOk K (tab a) [0, 1, 2]
  n_abs : mg "abs" = none
  n_all : mg "all" = none
  n_bool : mg "bool" = none
  n_enumerate : mg "enumerate" = none
  n_int : mg "int" = none
  n_isinstance : mg "isinstance" = none
  n_len : mg "len" = none
  n_list : mg "list" = none
  n_range : mg "range" = none
  n_reversed : mg "reversed" = none
  n_str : mg "str" = none
  n_sum : mg "sum" = none
  n_tuple : mg "tuple" = none
  m_gcd : mg "gcd" = some (.builtin "math.gcd")
  m_lcm : mg "lcm" = some (.builtin "math.lcm")
  k_MOST_OVER : ∃ u, mg "MOST_OVER" = some u ∧ RelV (V.int 9999) u
  k_MOST_UNDER : ∃ u, mg "MOST_UNDER" = some u ∧ RelV (V.int 99) u
  k_MOST_WEIGHT : ∃ u, mg "MOST_WEIGHT" = some u ∧ RelV (V.int 999) u
  k_MOST_PRIZES : ∃ u, mg "MOST_PRIZES" = some u ∧ RelV (V.int 6) u
section
variable {P : Program} {w : World} {K : PySem.W.Frag} {mg : Str → Option Value} {base : Heap} {a : Ad}
theorem fl_nd_0 : ((tab a).fl 0).Nodup := by show List.Nodup (["num", "den"] : List Str); decide +kernel
theorem fl_sm_0 : ((tab a).fl 0).length < 1000 := by show List.length (["num", "den"] : List Str) < 1000; decide
theorem fl_nd_1 : ((tab a).fl 1).Nodup := by show List.Nodup (["prizes"] : List Str); decide +kernel
theorem fl_sm_1 : ((tab a).fl 1).length < 1000 := by show List.length (["prizes"] : List Str) < 1000; decide
theorem fl_nd_2 : ((tab a).fl 2).Nodup := by show List.Nodup (["under", "weights", "worths", "tails"] : List Str); decide +kernel
theorem fl_sm_2 : ((tab a).fl 2).length < 1000 := by show List.length (["under", "weights", "worths", "tails"] : List Str) < 1000; decide
theorem no_0_is_below : ("is_below" : Str) ∉ (tab a).fl 0 := by show ("is_below" : Str) ∉ (["num", "den"] : List Str); decide +kernel
theorem no_2_income : ("income" : Str) ∉ (tab a).fl 2 := by show ("income" : Str) ∉ (["under", "weights", "worths", "tails"] : List Str); decide +kernel
theorem no_2_income_points : ("income_points" : Str) ∉ (tab a).fl 2 := by show ("income_points" : Str) ∉ (["under", "weights", "worths", "tails"] : List Str); decide +kernel
theorem no_2_number : ("number" : Str) ∉ (tab a).fl 2 := by show ("number" : Str) ∉ (["under", "weights", "worths", "tails"] : List Str); decide +kernel
theorem ok__law_pick (U : Txt K mg a) : FnOk P w K mg base (L2.CX P w) 1 a.f__law_pick a.d__law_pick ["feed", "many"] (spB K (tab a) 1 0 m__law_pick) :=
  okB (Pk := [0]) (J := ⟨[1, 0, 0, 0, 0, 0, 0], [1, 0, 0, 0, 0, 0, 0], [1, 0, 0, 0, 0, 0, 0], [1, 0, 0, 0, 0, 0, 0], 0⟩) (Γ := [1, 0, 0, 0, 0, 0, 0]) U.fn__law_pick sc__law_pick rfl (by decide) rfl rfl (fun i h1 h2 => (by decide : ∀ i, i < 2 → 1 ≤ i → ([1, 0, 0, 0, 0, 0, 0] : List Nat).getD i 0 = 0) i h2 h1) rfl (by decide) rfl rfl fun cdv A outer s H E hr tk => (dss_cons (Γ1 := [1, 0, 0, 0, 0, 0, 0]) (ds_setix (pv 0) (de_op op_add p_i0 (de_ixN ix_seq p_ix (pv 0) de_int) de_int) de_int) (dss_cons (Γ1 := [1, 0, 0, 0, 0, 0, 0]) (ds_if (dt_cmp op_gt p_ib (de_ixN ix_seq p_ix (pv 0) de_int) de_int rfl) (dss_cons (Γ1 := [1, 0, 0, 0, 0, 0, 0]) (ds_nm (i := 2) sc__law_pick.nd rfl (by first | exact Or.inl rfl | exact Or.inr rfl) (de_op op_modN p_mod (de_callTy call_int1 p_int rfl U.n_int rfl (da_cons (de_ixN ix_seq p_ix (pv 0) de_int) da_nil)) (de_var (pv 1)))) (dss_cons (Γ1 := [1, 0, 0, 0, 0, 0, 0]) (ds_setix (pv 0) (de_op o_div p_div (de_ixN ix_seq p_ix (pv 0) de_int) (de_var (pv 1))) de_int) (dss_one (ds_ret (de_var (pv 2)))))) dss_nil) (dss_cons (Γ1 := [1, 0, 0, 0, 0, 0, 0]) (ds_nm (i := 3) sc__law_pick.nd rfl (by first | exact Or.inl rfl | exact Or.inr rfl) (de_ixN ix_seq p_ix (pv 0) de_int)) (dss_cons (Γ1 := [1, 0, 0, 0, 0, 0, 0]) (ds_nm (i := 4) sc__law_pick.nd rfl (by first | exact Or.inl rfl | exact Or.inr rfl) (de_ixN ix_seq p_ix (pv 0) de_int)) (dss_cons (Γ1 := [1, 0, 0, 0, 0, 0, 0]) (ds_setix (pv 0) (de_op op_add p_i0 (de_var (pv 4)) de_int) de_int) (dss_cons (Γ1 := [1, 0, 0, 0, 0, 0, 0]) (ds_nm (i := 5) sc__law_pick.nd rfl (by first | exact Or.inl rfl | exact Or.inr rfl) de_int) (dss_cons (Γ1 := [1, 0, 0, 0, 0, 0, 0]) (ds_if (dt_cmp op_gt p_ib (de_callB o_len (Prim1.args (Prim1P.to p_len)) rfl U.n_len rfl (da_cons (de_var (pv 3)) da_nil)) de_int rfl) (dss_one (ds_nm (i := 5) sc__law_pick.nd rfl (by first | exact Or.inl rfl | exact Or.inr rfl) (de_callTy call_int1 p_int rfl U.n_int rfl (da_cons (de_ix ix_seq (Prim2P.to p_ix) (de_var (pv 3)) (de_op op_modN p_mod (de_callTy call_int1 p_int rfl U.n_int rfl (da_cons (de_var (pv 4)) da_nil)) (de_callB o_len (Prim1.args (Prim1P.to p_len)) rfl U.n_len rfl (da_cons (de_var (pv 3)) da_nil)))) da_nil)))) dss_nil) (dss_cons (Γ1 := [1, 0, 0, 0, 0, 0, 0]) (ds_if (dt_w (dw_and (dt_cmp op_ge p_ib (de_var (pv 5)) (de_op op_pow p_pow de_int de_int) rfl) (dw_and1 (dt_cmp op_lt p_ib (de_var (pv 4)) (de_callB o_len (Prim1.args (Prim1P.to p_len)) rfl U.n_len rfl (da_cons (de_var (pv 3)) da_nil)) rfl)))) (dss_cons (Γ1 := [1, 0, 0, 0, 0, 0, 0]) (ds_setix (pv 0) (de_op o_div p_div (de_var (pv 5)) (de_var (pv 1))) de_int) (dss_one (ds_ret (de_op op_modN p_mod (de_callTy call_int1 p_int rfl U.n_int rfl (da_cons (de_var (pv 5)) da_nil)) (de_var (pv 1)))))) dss_nil) (dss_cons (Γ1 := [1, 0, 0, 0, 0, 0, 0]) (ds_nm (i := 6) sc__law_pick.nd rfl (by first | exact Or.inl rfl | exact Or.inr rfl) (de_op op_modN p_mod (de_callTy call_int1 p_int rfl U.n_int rfl (da_cons (de_op op_add p_i0 (de_op op_add p_i0 (de_op op_add p_i0 (de_op o_mul p_mul (de_var (pv 5)) de_int) (de_op o_mul p_mul (de_ixN ix_seq p_ix (pv 0) de_int) de_int)) (de_op o_mul p_mul (de_var (pv 4)) de_int)) de_int) da_nil)) de_int)) (dss_cons (Γ1 := [1, 0, 0, 0, 0, 0, 0]) (ds_nm (i := 6) sc__law_pick.nd rfl (by first | exact Or.inl rfl | exact Or.inr rfl) (de_op op_modN p_mod (de_callTy call_int1 p_int rfl U.n_int rfl (da_cons (de_op op_add p_i0 (de_op op_add p_i0 (de_op o_mul p_mul (de_var (pv 6)) (de_op op_add p_i0 (de_op o_div p_div (de_var (pv 6)) de_int) de_int)) (de_op o_mul p_mul (de_ixN ix_seq p_ix (pv 0) de_int) de_int)) (de_op o_div p_div (de_var (pv 5)) de_int)) da_nil)) de_int)) (dss_one (ds_ret (de_op op_modN p_mod (de_callTy call_int1 p_int rfl U.n_int rfl (da_cons (de_op o_div p_div (de_var (pv 6)) de_int) da_nil)) (de_var (pv 1)))))))))))))))
theorem ok__law_gcd (U : Txt K mg a) : FnOk P w K mg base (L2.CX P w) 1 a.f__law_gcd a.d__law_gcd ["one", "two"] (spF K (tab a) 0 m__law_gcd) :=
  okF (Pk := []) (J := ⟨[0, 0, 0], [0, 0, 0], [0, 0, 0], [0, 0, 0], 0⟩) (Γ := [0, 0, 0]) U.fn__law_gcd sc__law_gcd rfl rfl (by decide) rfl fun cdv A outer s H E hr tk => (dss_cons (Γ1 := [0, 0, 0]) (ds_nm (i := 0) sc__law_gcd.nd rfl (by first | exact Or.inl rfl | exact Or.inr rfl) (de_callB call_abs p_abs rfl U.n_abs rfl (da_cons (de_var (pv 0)) da_nil))) (dss_cons (Γ1 := [0, 0, 0]) (ds_for (passes_of rfl) rfl (di_range1 rfl U.n_range (da_cons (de_op op_add p_i0 (de_op o_mul p_mul de_int (de_bits (de_var (pv 1)))) de_int) da_nil)) (dg_name (pg_name (i := 2) sc__law_gcd.nd rfl (by first | exact Or.inl rfl | exact Or.inr rfl))) (dss_cons (Γ1 := [0, 0, 0]) (ds_if (dt_cmp op_eq p_eq (de_var (pv 1)) de_int rfl) (dss_one ds_brk) dss_nil) (dss_one (ds_nm2 (i := 0) (j := 1) rfl sc__law_gcd.nd rfl rfl (by decide) rfl rfl (da_cons (de_var (pv 1)) (da_cons (de_op op_modN p_mod (de_callTy call_int1 p_int rfl U.n_int rfl (da_cons (de_var (pv 0)) da_nil)) (de_var (pv 1))) da_nil)) rfl)))) (dss_one (ds_ret (de_var (pv 0))))))
theorem ok__law_lowest (U : Txt K mg a) : FnOk P w K mg base (L2.CX P w) 2 a.f__law_lowest a.d__law_lowest ["num", "den"] (spF K (tab a) 0 m__law_lowest) :=
  okF (Pk := []) (J := ⟨[0, 0, 0], [0, 0, 0], [0, 0, 0], [0, 0, 0], 0⟩) (Γ := [0, 0, 0]) U.fn__law_lowest sc__law_lowest rfl rfl (by decide) rfl fun cdv A outer s H E hr tk => (dss_cons (Γ1 := [0, 0, 0]) (ds_nm (i := 2) sc__law_lowest.nd rfl (by first | exact Or.inl rfl | exact Or.inr rfl) (de_fn U.g__law_gcd (ok__law_gcd U) (hr.mono (by first | decide | omega)) tk rfl (da_cons (de_var (pv 0)) (da_cons (de_var (pv 1)) da_nil)))) (dss_one (ds_ret (de_tup (k := 0) (da_cons (de_op o_div p_div (de_var (pv 0)) (de_var (pv 2))) (da_cons (de_op o_div p_div (de_var (pv 1)) (de_var (pv 2))) da_nil))))))
theorem ok__law_level (U : Txt K mg a) : FnOk P w K mg base (L2.CX P w) 3 a.f__law_level a.d__law_level ["feed", "many"] (spB K (tab a) 1 0 m__law_level) :=
  okB (Pk := [0]) (J := ⟨[1, 0, 0, 0, 0, 0, 0, 0], [1, 0, 0, 0, 0, 0, 0, 0], [1, 0, 0, 0, 0, 0, 0, 0], [1, 0, 0, 0, 0, 0, 0, 0], 0⟩) (Γ := [1, 0, 0, 0, 0, 0, 0, 0]) U.fn__law_level sc__law_level rfl (by decide) rfl rfl (fun i h1 h2 => (by decide : ∀ i, i < 2 → 1 ≤ i → ([1, 0, 0, 0, 0, 0, 0, 0] : List Nat).getD i 0 = 0) i h2 h1) rfl (by decide) rfl rfl fun cdv A outer s H E hr tk => (dss_cons (Γ1 := [1, 0, 0, 0, 0, 0, 0, 0]) (ds_setLc (i := 2) rfl sc__law_level.nd rfl rfl (sw_true rfl rfl rfl rfl) (P := [0, 1, 2, 3, 4, 5, 7]) (own := [("k", 6)]) (k := 0) (di_range1 rfl U.n_range (da_cons (de_var (pv 1)) da_nil)) (blkOk_by rfl) (fun _ _ _ _ _ => (dg_name (pg_name (i := 6) sc__law_level.nd rfl (by first | exact Or.inl rfl | exact Or.inr rfl)))) (fun _ _ _ _ _ => dts_nil) (fun _ _ _ _ _ => (de_op op_add p_i0 de_int (de_fnB U.g__law_pick (ok__law_pick U) (hr.mono (by first | decide | omega)) takes0 rfl (pv 0) (da_cons de_int da_nil))))) (dss_cons (Γ1 := [1, 0, 0, 0, 0, 0, 0, 0]) (ds_nm (i := 3) sc__law_level.nd rfl (by first | exact Or.inl rfl | exact Or.inr rfl) (de_fnB U.g__law_pick (ok__law_pick U) (hr.mono (by first | decide | omega)) tk rfl (pv 0) (da_cons de_int da_nil))) (dss_cons (Γ1 := [1, 0, 0, 0, 0, 0, 0, 0]) (ds_nm (i := 4) sc__law_level.nd rfl (by first | exact Or.inl rfl | exact Or.inr rfl) (de_op o_mul p_mul de_int (de_op op_add p_i0 de_int (de_fnB U.g__law_pick (ok__law_pick U) (hr.mono (by first | decide | omega)) tk rfl (pv 0) (da_cons de_int da_nil))))) (dss_cons (Γ1 := [1, 0, 0, 0, 0, 1, 0, 0]) (ds_nm (i := 5) sc__law_level.nd rfl (by first | exact Or.inl rfl | exact Or.inr rfl) (de_lst (k := 1) da_nil)) (dss_cons (Γ1 := [1, 0, 0, 0, 0, 1, 0, 0]) (ds_for (passes_of rfl) rfl (di_range1 rfl U.n_range (da_cons (de_var (pv 1)) da_nil)) (dg_name (pg_name (i := 6) sc__law_level.nd rfl (by first | exact Or.inl rfl | exact Or.inr rfl))) (dss_cons (Γ1 := [1, 0, 0, 0, 0, 1, 0, 0]) (ds_nm (i := 7) sc__law_level.nd rfl (by first | exact Or.inl rfl | exact Or.inr rfl) (de_callB (cr_sum rfl) (Prim1.args (Prim1P.to p_sum)) rfl U.n_sum rfl (da_cons (de_sl (k := 0) (de_var (pv 2)) (do_some (de_var (pv 6))) do_none) da_nil))) (dss_one (ds_app (pv 5) (de_tup (k := 0) (da_cons (de_ix ix_seq (Prim2P.to p_ix) (de_var (pv 2)) (de_var (pv 6))) (da_cons (de_fn U.g__law_lowest (ok__law_lowest U) (hr.mono (by first | decide | omega)) tk rfl (da_cons (de_op op_add p_i0 (de_op o_mul p_mul (de_var (pv 3)) (de_var (pv 7))) (de_var (pv 4))) (da_cons (de_var (pv 7)) da_nil))) da_nil))))))) (dss_one (ds_ret (de_frz (pv 5)))))))))
theorem ok__law_weights (U : Txt K mg a) : FnOk P w K mg base (L2.CX P w) 2 a.f__law_weights a.d__law_weights ["feed", "many", "top"] (spB K (tab a) 1 0 m__law_weights) :=
  okB (Pk := [0]) (J := ⟨[1, 0, 0, 0, 0], [1, 0, 0, 0, 0], [1, 0, 0, 0, 0], [1, 0, 0, 0, 0], 0⟩) (Γ := [1, 0, 0, 0, 0]) U.fn__law_weights sc__law_weights rfl (by decide) rfl rfl (fun i h1 h2 => (by decide : ∀ i, i < 3 → 1 ≤ i → ([1, 0, 0, 0, 0] : List Nat).getD i 0 = 0) i h2 h1) rfl (by decide) rfl rfl fun cdv A outer s H E hr tk => (dss_cons (Γ1 := [1, 0, 0, 0, 0]) (ds_nm (i := 3) sc__law_weights.nd rfl (by first | exact Or.inl rfl | exact Or.inr rfl) (de_fnB U.g__law_pick (ok__law_pick U) (hr.mono (by first | decide | omega)) tk rfl (pv 0) (da_cons de_int da_nil))) (dss_cons (Γ1 := [1, 0, 0, 0, 0]) (ds_if (dt_cmp op_eq p_eq (de_var (pv 3)) de_int rfl) (dss_one (ds_ret (de_lc rfl sc__law_weights.nd (P := [0, 1, 2, 3]) (own := [("k", 4)]) (k := 0) (di_range1 rfl U.n_range (da_cons (de_var (pv 1)) da_nil)) (blkOk_by rfl) (fun _ _ _ _ _ => (dg_name (pg_name (i := 4) sc__law_weights.nd rfl (by first | exact Or.inl rfl | exact Or.inr rfl)))) (fun _ _ _ _ _ => dts_nil) (fun _ _ _ _ _ => de_int)))) dss_nil) (dss_cons (Γ1 := [1, 0, 0, 0, 0]) (ds_if (dt_cmp op_eq p_eq (de_var (pv 3)) de_int rfl) (dss_one (ds_ret (de_lc rfl sc__law_weights.nd (P := [0, 1, 2, 3]) (own := [("k", 4)]) (k := 0) (di_range1 rfl U.n_range (da_cons (de_var (pv 1)) da_nil)) (blkOk_by rfl) (fun _ _ _ _ _ => (dg_name (pg_name (i := 4) sc__law_weights.nd rfl (by first | exact Or.inl rfl | exact Or.inr rfl)))) (fun _ _ _ _ _ => dts_nil) (fun _ _ _ _ _ => (de_op op_add p_i0 de_int (de_fnB U.g__law_pick (ok__law_pick U) (hr.mono (by first | decide | omega)) takes0 rfl (pv 0) (da_cons (de_var (pv 2)) da_nil))))))) dss_nil) (dss_one (ds_ret (de_lc rfl sc__law_weights.nd (P := [0, 1, 2, 3]) (own := [("k", 4)]) (k := 0) (di_range1 rfl U.n_range (da_cons (de_var (pv 1)) da_nil)) (blkOk_by rfl) (fun _ _ _ _ _ => (dg_name (pg_name (i := 4) sc__law_weights.nd rfl (by first | exact Or.inl rfl | exact Or.inr rfl)))) (fun _ _ _ _ _ => dts_nil) (fun _ _ _ _ _ => (de_op op_add p_i0 de_int (de_fnB U.g__law_pick (ok__law_pick U) (hr.mono (by first | decide | omega)) takes0 rfl (pv 0) (da_cons de_int da_nil))))))))))
theorem ok__law_offer (U : Txt K mg a) : FnOk P w K mg base (L2.CX P w) 4 a.f__law_offer a.d__law_offer ["feed", "most", "top"] (spB K (tab a) 1 0 m__law_offer) :=
  okB (Pk := [0]) (J := ⟨[1, 0, 0, 0, 0, 0, 0, 0, 0, 0, 0], [1, 0, 0, 0, 0, 0, 0, 0, 0, 0, 0], [1, 0, 0, 0, 0, 0, 0, 0, 0, 0, 0], [1, 0, 0, 0, 0, 0, 0, 0, 0, 0, 0], 0⟩) (Γ := [1, 0, 0, 0, 0, 0, 0, 0, 0, 0, 0]) U.fn__law_offer sc__law_offer rfl (by decide) rfl rfl (fun i h1 h2 => (by decide : ∀ i, i < 3 → 1 ≤ i → ([1, 0, 0, 0, 0, 0, 0, 0, 0, 0, 0] : List Nat).getD i 0 = 0) i h2 h1) rfl (by decide) rfl rfl fun cdv A outer s H E hr tk => (dss_cons (Γ1 := [1, 0, 0, 0, 0, 0, 0, 0, 0, 0, 0]) (ds_nm (i := 3) sc__law_offer.nd rfl (by first | exact Or.inl rfl | exact Or.inr rfl) (de_op op_add p_i0 de_int (de_fnB U.g__law_pick (ok__law_pick U) (hr.mono (by first | decide | omega)) tk rfl (pv 0) (da_cons (de_var (pv 1)) da_nil)))) (dss_cons (Γ1 := [1, 0, 0, 0, 0, 0, 0, 0, 0, 0, 0]) (ds_if (dt_w (dw_and (dt_cmp op_eq p_eq (de_var (pv 3)) de_int rfl) (dw_and1 (dt_cmp op_eq p_eq (de_fnB U.g__law_pick (ok__law_pick U) (hr.mono (by first | decide | omega)) tk rfl (pv 0) (da_cons de_int da_nil)) de_int rfl)))) (dss_one (ds_nm (i := 3) sc__law_offer.nd rfl (by first | exact Or.inl rfl | exact Or.inr rfl) (de_var (pv 1)))) dss_nil) (dss_cons (Γ1 := [1, 0, 0, 0, 0, 0, 0, 0, 0, 0, 0]) (ds_nm (i := 4) sc__law_offer.nd rfl (by first | exact Or.inl rfl | exact Or.inr rfl) (de_fnB U.g__law_pick (ok__law_pick U) (hr.mono (by first | decide | omega)) tk rfl (pv 0) (da_cons de_int da_nil))) (dss_cons (Γ1 := [1, 0, 0, 0, 0, 0, 0, 0, 0, 0, 0]) (ds_if (dt_cmp op_lt p_ib (de_var (pv 4)) de_int rfl) (dss_one (ds_ret (de_fnB U.g__law_level (ok__law_level U) (hr.mono (by first | decide | omega)) tk rfl (pv 0) (da_cons (de_var (pv 3)) da_nil)))) dss_nil) (dss_cons (Γ1 := [1, 0, 0, 0, 0, 0, 0, 0, 0, 0, 0]) (ds_nm (i := 5) sc__law_offer.nd rfl (by first | exact Or.inl rfl | exact Or.inr rfl) (de_fnB U.g__law_weights (ok__law_weights U) (hr.mono (by first | decide | omega)) tk rfl (pv 0) (da_cons (de_var (pv 3)) (da_cons (de_var (pv 2)) da_nil)))) (dss_cons (Γ1 := [1, 0, 0, 0, 0, 0, 0, 0, 0, 0, 0]) (ds_nm (i := 6) sc__law_offer.nd rfl (by first | exact Or.inl rfl | exact Or.inr rfl) (de_ix ix_seq (Prim2P.to p_ix) (de_lst (k := 0) (da_cons de_int (da_cons de_int (da_cons de_int (da_cons de_int da_nil))))) (de_fnB U.g__law_pick (ok__law_pick U) (hr.mono (by first | decide | omega)) tk rfl (pv 0) (da_cons de_int da_nil)))) (dss_cons (Γ1 := [1, 0, 0, 0, 0, 0, 0, 0, 0, 0, 0]) (ds_nm (i := 7) sc__law_offer.nd rfl (by first | exact Or.inl rfl | exact Or.inr rfl) de_int) (dss_cons (Γ1 := [1, 0, 0, 0, 0, 0, 0, 0, 0, 0, 0]) (ds_if (dt_cmp op_gt p_ib (de_var (pv 4)) de_int rfl) (dss_one (ds_nm (i := 7) sc__law_offer.nd rfl (by first | exact Or.inl rfl | exact Or.inr rfl) (de_op op_add p_i0 de_int (de_fnB U.g__law_pick (ok__law_pick U) (hr.mono (by first | decide | omega)) tk rfl (pv 0) (da_cons de_int da_nil))))) dss_nil) (dss_cons (Γ1 := [1, 0, 0, 0, 0, 0, 0, 0, 0, 0, 0]) (ds_if (dt_cmp op_eq p_eq (de_var (pv 4)) de_int rfl) (dss_cons (Γ1 := [1, 0, 0, 0, 0, 0, 0, 0, 0, 0, 0]) (ds_nm (i := 6) sc__law_offer.nd rfl (by first | exact Or.inl rfl | exact Or.inr rfl) de_int) (dss_one (ds_nm (i := 7) sc__law_offer.nd rfl (by first | exact Or.inl rfl | exact Or.inr rfl) (de_op op_add p_i0 de_int (de_fnB U.g__law_pick (ok__law_pick U) (hr.mono (by first | decide | omega)) tk rfl (pv 0) (da_cons de_int da_nil)))))) dss_nil) (dss_cons (Γ1 := [1, 0, 0, 0, 0, 0, 0, 0, 0, 0, 0]) (ds_nm (i := 8) sc__law_offer.nd rfl (by first | exact Or.inl rfl | exact Or.inr rfl) (de_op op_sub p_i0 (de_op o_mul p_mul (de_fnB U.g__law_pick (ok__law_pick U) (hr.mono (by first | decide | omega)) tk rfl (pv 0) (da_cons de_int da_nil)) (de_fnB U.g__law_pick (ok__law_pick U) (hr.mono (by first | decide | omega)) tk rfl (pv 0) (da_cons de_int da_nil))) de_int)) (dss_cons (Γ1 := [1, 0, 0, 0, 0, 0, 0, 0, 0, 1, 0]) (ds_nm (i := 9) sc__law_offer.nd rfl (by first | exact Or.inl rfl | exact Or.inr rfl) (de_lst (k := 1) da_nil)) (dss_cons (Γ1 := [1, 0, 0, 0, 0, 0, 0, 0, 0, 1, 0]) (ds_for (passes_of rfl) rfl (di_range1 rfl U.n_range (da_cons (de_var (pv 3)) da_nil)) (dg_name (pg_name (i := 10) sc__law_offer.nd rfl (by first | exact Or.inl rfl | exact Or.inr rfl))) (dss_cons (Γ1 := [1, 0, 0, 0, 0, 0, 0, 0, 0, 1, 0]) (ds_nm (i := 8) sc__law_offer.nd rfl (by first | exact Or.inl rfl | exact Or.inr rfl) (de_op op_add p_i0 (de_op op_add p_i0 (de_var (pv 8)) de_int) (de_fnB U.g__law_pick (ok__law_pick U) (hr.mono (by first | decide | omega)) tk rfl (pv 0) (da_cons (de_var (pv 6)) da_nil)))) (dss_cons (Γ1 := [1, 0, 0, 0, 0, 0, 0, 0, 0, 1, 0]) (ds_if (dt_w (dw_and (dt_cmp op_eq p_eq (de_var (pv 4)) de_int rfl) (dw_and1 (dt_cmp op_eq p_eq (de_var (pv 10)) (de_op op_sub p_i0 (de_var (pv 3)) de_int) rfl)))) (dss_one (ds_nm (i := 8) sc__law_offer.nd rfl (by first | exact Or.inl rfl | exact Or.inr rfl) (de_op op_add p_i0 (de_var (pv 8)) de_int))) dss_nil) (dss_one (ds_app (pv 9) (de_tup (k := 0) (da_cons (de_ix ix_seq (Prim2P.to p_ix) (de_var (pv 5)) (de_var (pv 10))) (da_cons (de_fn U.g__law_lowest (ok__law_lowest U) (hr.mono (by first | decide | omega)) tk rfl (da_cons (de_var (pv 8)) (da_cons (de_var (pv 7)) da_nil))) da_nil)))))))) (dss_one (ds_ret (de_frz (pv 9))))))))))))))))
theorem ok__law_common (U : Txt K mg a) : FnOk P w K mg base (L2.CX P w) 2 a.f__law_common a.d__law_common ["numbers"] (spF K (tab a) 0 m__law_common) :=
  okF (Pk := []) (J := ⟨[0, 0, 0], [0, 0, 0], [0, 0, 0], [0, 0, 0], 0⟩) (Γ := [0, 0, 0]) U.fn__law_common sc__law_common rfl rfl (by decide) rfl fun cdv A outer s H E hr tk => (dss_cons (Γ1 := [0, 0, 0]) (ds_nm (i := 1) sc__law_common.nd rfl (by first | exact Or.inl rfl | exact Or.inr rfl) de_int) (dss_cons (Γ1 := [0, 0, 0]) (ds_for (passes_of rfl) rfl (di_list (de_var (pv 0))) (dg_name (pg_name (i := 2) sc__law_common.nd rfl (by first | exact Or.inl rfl | exact Or.inr rfl))) (dss_one (ds_nm (i := 1) sc__law_common.nd rfl (by first | exact Or.inl rfl | exact Or.inr rfl) (de_op o_mul p_mul (de_var (pv 1)) (de_op o_div p_div (de_var (pv 2)) (de_fn U.g__law_gcd (ok__law_gcd U) (hr.mono (by first | decide | omega)) tk rfl (da_cons (de_var (pv 1)) (da_cons (de_var (pv 2)) da_nil)))))))) (dss_one (ds_ret (de_var (pv 1))))))
theorem ok__law_worths (U : Txt K mg a) : FnOk P w K mg base (L2.CX P w) 1 a.f__law_worths a.d__law_worths ["rows", "scale"] (spF K (tab a) 0 m__law_worths) :=
  okF (Pk := []) (J := ⟨[0, 0, 0], [0, 0, 0], [0, 0, 0], [0, 0, 0], 0⟩) (Γ := [0, 0, 0]) U.fn__law_worths sc__law_worths rfl rfl (by decide) rfl fun cdv A outer s H E hr tk => (dss_one (ds_ret (de_lc rfl sc__law_worths.nd (P := [0, 1]) (own := [("row", 2)]) (k := 0) (di_list (de_var (pv 0))) (blkOk_by rfl) (fun _ _ _ _ _ => (dg_name (pg_name (i := 2) sc__law_worths.nd rfl (by first | exact Or.inl rfl | exact Or.inr rfl)))) (fun _ _ _ _ _ => dts_nil) (fun _ _ _ _ _ => (de_op o_mul p_mul (de_ix ix_seq (Prim2P.to p_ix) (de_ix ix_seq (Prim2P.to p_ix) (de_var (pv 2)) de_int) de_int) (de_op o_div p_div (de_var (pv 1)) (de_ix ix_seq (Prim2P.to p_ix) (de_ix ix_seq (Prim2P.to p_ix) (de_var (pv 2)) de_int) de_int)))))))
theorem ok__law_tails (U : Txt K mg a) : FnOk P w K mg base (L2.CX P w) 1 a.f__law_tails a.d__law_tails ["rows"] (spF K (tab a) 0 m__law_tails) :=
  okF (Pk := []) (J := ⟨[0, 0, 0], [0, 0, 0], [0, 0, 0], [0, 0, 0], 0⟩) (Γ := [0, 0, 0]) U.fn__law_tails sc__law_tails rfl rfl (by decide) rfl fun cdv A outer s H E hr tk => (dss_one (ds_ret (de_lc rfl sc__law_tails.nd (P := [0, 2]) (own := [("k", 1)]) (k := 0) (di_range1 rfl U.n_range (da_cons (de_op op_add p_i0 (de_callB o_len (Prim1.args (Prim1P.to p_len)) rfl U.n_len rfl (da_cons (de_var (pv 0)) da_nil)) de_int) da_nil)) (blkOk_by rfl) (fun _ _ _ _ _ => (dg_name (pg_name (i := 1) sc__law_tails.nd rfl (by first | exact Or.inl rfl | exact Or.inr rfl)))) (fun _ _ _ _ _ => dts_nil) (fun _ _ _ _ _ => (de_callB (cr_sum rfl) (Prim1.args (Prim1P.to p_sum)) rfl U.n_sum rfl (da_cons (de_lc rfl sc__law_tails.nd (P := [0, 1]) (own := [("row", 2)]) (k := 0) (di_list (de_sl (k := 0) (de_var (pv 0)) (do_some (de_var (pv 1))) do_none)) (blkOk_by rfl) (fun _ _ _ _ _ => (dg_name (pg_name (i := 2) sc__law_tails.nd rfl (by first | exact Or.inl rfl | exact Or.inr rfl)))) (fun _ _ _ _ _ => dts_nil) (fun _ _ _ _ _ => (de_ix ix_seq (Prim2P.to p_ix) (de_var (pv 2)) de_int))) da_nil))))))
theorem ok__law_lid (U : Txt K mg a) : FnOk P w K mg base (L2.CX P w) 3 a.f__law_lid a.d__law_lid ["rows"] (spF K (tab a) 0 m__law_lid) :=
  okF (Pk := []) (J := ⟨[0, 0, 0, 0, 0, 0, 0, 0, 0, 0, 0, 0, 0], [0, 0, 0, 0, 0, 0, 0, 0, 0, 0, 0, 0, 0], [0, 0, 0, 0, 0, 0, 0, 0, 0, 0, 0, 0, 0], [0, 0, 0, 0, 0, 0, 0, 0, 0, 0, 0, 0, 0], 0⟩) (Γ := [0, 0, 0, 0, 0, 0, 0, 0, 0, 0, 0, 0, 0]) U.fn__law_lid sc__law_lid rfl rfl (by decide) rfl fun cdv A outer s H E hr tk => (dss_cons (Γ1 := [0, 0, 0, 0, 0, 0, 0, 0, 0, 0, 0, 0, 0]) (ds_nm (i := 1) sc__law_lid.nd rfl (by first | exact Or.inl rfl | exact Or.inr rfl) (de_fn U.g__law_common (ok__law_common U) (hr.mono (by first | decide | omega)) tk rfl (da_cons (de_lc rfl sc__law_lid.nd (P := [0, 1, 2, 3, 4, 5, 6, 7, 8, 9, 10, 11]) (own := [("row", 12)]) (k := 0) (di_list (de_var (pv 0))) (blkOk_by rfl) (fun _ _ _ _ _ => (dg_name (pg_name (i := 12) sc__law_lid.nd rfl (by first | exact Or.inl rfl | exact Or.inr rfl)))) (fun _ _ _ _ _ => dts_nil) (fun _ _ _ _ _ => (de_ix ix_seq (Prim2P.to p_ix) (de_ix ix_seq (Prim2P.to p_ix) (de_var (pv 12)) de_int) de_int))) da_nil))) (dss_cons (Γ1 := [0, 0, 0, 0, 0, 0, 0, 0, 0, 0, 0, 0, 0]) (ds_nm (i := 2) sc__law_lid.nd rfl (by first | exact Or.inl rfl | exact Or.inr rfl) (de_fn U.g__law_worths (ok__law_worths U) (hr.mono (by first | decide | omega)) tk rfl (da_cons (de_var (pv 0)) (da_cons (de_var (pv 1)) da_nil)))) (dss_cons (Γ1 := [0, 0, 0, 0, 0, 0, 0, 0, 0, 0, 0, 0, 0]) (ds_nm (i := 3) sc__law_lid.nd rfl (by first | exact Or.inl rfl | exact Or.inr rfl) (de_fn U.g__law_tails (ok__law_tails U) (hr.mono (by first | decide | omega)) tk rfl (da_cons (de_var (pv 0)) da_nil))) (dss_cons (Γ1 := [0, 0, 0, 0, 0, 0, 0, 0, 0, 0, 0, 0, 0]) (ds_nm (i := 4) sc__law_lid.nd rfl (by first | exact Or.inl rfl | exact Or.inr rfl) (de_op (k := 0) op_cat (Prim2P.to p_cat) (de_lc rfl sc__law_lid.nd (P := [0, 1, 2, 3, 4, 5, 7, 8, 9, 10, 11, 12]) (own := [("k", 6)]) (k := 0) (di_range1 rfl U.n_range (da_cons (de_callB o_len (Prim1.args (Prim1P.to p_len)) rfl U.n_len rfl (da_cons (de_var (pv 0)) da_nil)) da_nil)) (blkOk_by rfl) (fun _ _ _ _ _ => (dg_name (pg_name (i := 6) sc__law_lid.nd rfl (by first | exact Or.inl rfl | exact Or.inr rfl)))) (fun _ _ _ _ _ => dts_nil) (fun _ _ _ _ _ => (de_op o_mul p_mul (de_ix ix_seq (Prim2P.to p_ix) (de_var (pv 2)) (de_var (pv 6))) (de_ix ix_seq (Prim2P.to p_ix) (de_var (pv 3)) (de_var (pv 6)))))) (de_lst (k := 0) (da_cons de_int da_nil)))) (dss_cons (Γ1 := [0, 0, 0, 0, 0, 1, 0, 0, 0, 0, 0, 0, 0]) (ds_nm (i := 5) sc__law_lid.nd rfl (by first | exact Or.inl rfl | exact Or.inr rfl) (de_lst (k := 1) da_nil)) (dss_cons (Γ1 := [0, 0, 0, 0, 0, 1, 0, 0, 0, 0, 0, 0, 0]) (ds_for (passes_of rfl) rfl (di_range1 rfl U.n_range (da_cons (de_callB o_len (Prim1.args (Prim1P.to p_len)) rfl U.n_len rfl (da_cons (de_var (pv 0)) da_nil)) da_nil)) (dg_name (pg_name (i := 6) sc__law_lid.nd rfl (by first | exact Or.inl rfl | exact Or.inr rfl))) (dss_cons (Γ1 := [0, 0, 0, 0, 0, 1, 0, 0, 0, 0, 0, 0, 0]) (ds_nm (i := 7) sc__law_lid.nd rfl (by first | exact Or.inl rfl | exact Or.inr rfl) de_non) (dss_cons (Γ1 := [0, 0, 0, 0, 0, 1, 0, 0, 0, 0, 0, 0, 0]) (ds_for (passes_of rfl) rfl (di_range2 rfl U.n_range (da_cons (de_op op_add p_i0 (de_var (pv 6)) de_int) (da_cons (de_op op_add p_i0 (de_callB o_len (Prim1.args (Prim1P.to p_len)) rfl U.n_len rfl (da_cons (de_var (pv 0)) da_nil)) de_int) da_nil))) (dg_name (pg_name (i := 8) sc__law_lid.nd rfl (by first | exact Or.inl rfl | exact Or.inr rfl))) (dss_cons (Γ1 := [0, 0, 0, 0, 0, 1, 0, 0, 0, 0, 0, 0, 0]) (ds_nm (i := 9) sc__law_lid.nd rfl (by first | exact Or.inl rfl | exact Or.inr rfl) de_non) (dss_cons (Γ1 := [0, 0, 0, 0, 0, 1, 0, 0, 0, 0, 0, 0, 0]) (ds_for (passes_of rfl) rfl (di_range1 rfl U.n_range (da_cons (de_op op_add p_i0 (de_var (pv 6)) de_int) da_nil)) (dg_name (pg_name (i := 10) sc__law_lid.nd rfl (by first | exact Or.inl rfl | exact Or.inr rfl))) (dss_cons (Γ1 := [0, 0, 0, 0, 0, 1, 0, 0, 0, 0, 0, 0, 0]) (ds_nm (i := 11) sc__law_lid.nd rfl (by first | exact Or.inl rfl | exact Or.inr rfl) (de_tup (k := 0) (da_cons (de_op op_sub p_i0 (de_ix ix_seq (Prim2P.to p_ix) (de_var (pv 4)) (de_var (pv 10))) (de_ix ix_seq (Prim2P.to p_ix) (de_var (pv 4)) (de_var (pv 8)))) (da_cons (de_op op_sub p_i0 (de_ix ix_seq (Prim2P.to p_ix) (de_var (pv 3)) (de_var (pv 10))) (de_ix ix_seq (Prim2P.to p_ix) (de_var (pv 3)) (de_var (pv 8)))) da_nil)))) (dss_one (ds_if (dt_w (dw_or (dt_cmp op_isN p_isN (de_var (pv 9)) de_non rfl) (dw_or1 (dt_cmp op_gt p_ib (de_op o_mul p_mul (de_ix ix_seq (Prim2P.to p_ix) (de_var (pv 11)) de_int) (de_ix ix_seq (Prim2P.to p_ix) (de_var (pv 9)) de_int)) (de_op o_mul p_mul (de_ix ix_seq (Prim2P.to p_ix) (de_var (pv 9)) de_int) (de_ix ix_seq (Prim2P.to p_ix) (de_var (pv 11)) de_int)) rfl)))) (dss_one (ds_nm (i := 9) sc__law_lid.nd rfl (by first | exact Or.inl rfl | exact Or.inr rfl) (de_var (pv 11)))) dss_nil)))) (dss_one (ds_if (dt_w (dw_or (dt_cmp op_isN p_isN (de_var (pv 7)) de_non rfl) (dw_or1 (dt_cmp op_lt p_ib (de_op o_mul p_mul (de_ix ix_seq (Prim2P.to p_ix) (de_var (pv 9)) de_int) (de_ix ix_seq (Prim2P.to p_ix) (de_var (pv 7)) de_int)) (de_op o_mul p_mul (de_ix ix_seq (Prim2P.to p_ix) (de_var (pv 7)) de_int) (de_ix ix_seq (Prim2P.to p_ix) (de_var (pv 9)) de_int)) rfl)))) (dss_one (ds_nm (i := 7) sc__law_lid.nd rfl (by first | exact Or.inl rfl | exact Or.inr rfl) (de_var (pv 9)))) dss_nil))))) (dss_one (ds_app (pv 5) (de_tup (k := 0) (da_cons (de_ix ix_seq (Prim2P.to p_ix) (de_var (pv 7)) de_int) (da_cons (de_op o_mul p_mul (de_ix ix_seq (Prim2P.to p_ix) (de_var (pv 7)) de_int) (de_var (pv 1))) da_nil)))))))) (dss_one (ds_ret (de_frz (pv 5))))))))))
theorem ok__law_plain (U : Txt K mg a) : FnOk P w K mg base (L2.CX P w) 3 a.f__law_plain a.d__law_plain ["rows"] (spF K (tab a) 0 m__law_plain) :=
  okF (Pk := []) (J := ⟨[0, 0, 0, 0, 0, 0, 0, 0, 0], [0, 0, 0, 0, 0, 0, 0, 0, 0], [0, 0, 0, 0, 0, 0, 0, 0, 0], [0, 0, 0, 0, 0, 0, 0, 0, 0], 0⟩) (Γ := [0, 0, 0, 0, 0, 0, 0, 0, 0]) U.fn__law_plain sc__law_plain rfl rfl (by decide) rfl fun cdv A outer s H E hr tk => (dss_cons (Γ1 := [0, 0, 0, 0, 0, 0, 0, 0, 0]) (ds_nm (i := 1) sc__law_plain.nd rfl (by first | exact Or.inl rfl | exact Or.inr rfl) (de_fn U.g__law_common (ok__law_common U) (hr.mono (by first | decide | omega)) tk rfl (da_cons (de_lc rfl sc__law_plain.nd (P := [0, 1, 2, 3, 4, 5, 6, 7]) (own := [("row", 8)]) (k := 0) (di_list (de_var (pv 0))) (blkOk_by rfl) (fun _ _ _ _ _ => (dg_name (pg_name (i := 8) sc__law_plain.nd rfl (by first | exact Or.inl rfl | exact Or.inr rfl)))) (fun _ _ _ _ _ => dts_nil) (fun _ _ _ _ _ => (de_ix ix_seq (Prim2P.to p_ix) (de_ix ix_seq (Prim2P.to p_ix) (de_var (pv 8)) de_int) de_int))) da_nil))) (dss_cons (Γ1 := [0, 0, 0, 0, 0, 0, 0, 0, 0]) (ds_nm (i := 2) sc__law_plain.nd rfl (by first | exact Or.inl rfl | exact Or.inr rfl) (de_fn U.g__law_worths (ok__law_worths U) (hr.mono (by first | decide | omega)) tk rfl (da_cons (de_var (pv 0)) (da_cons (de_var (pv 1)) da_nil)))) (dss_cons (Γ1 := [0, 0, 0, 0, 0, 0, 0, 0, 0]) (ds_nm (i := 3) sc__law_plain.nd rfl (by first | exact Or.inl rfl | exact Or.inr rfl) (de_lst (k := 0) da_nil)) (dss_cons (Γ1 := [0, 0, 0, 0, 0, 0, 0, 0, 0]) (ds_nm (i := 4) sc__law_plain.nd rfl (by first | exact Or.inl rfl | exact Or.inr rfl) de_int) (dss_cons (Γ1 := [0, 0, 0, 0, 0, 0, 0, 0, 0]) (ds_for (passes_of rfl) rfl (di_range1 rfl U.n_range (da_cons (de_callB o_len (Prim1.args (Prim1P.to p_len)) rfl U.n_len rfl (da_cons (de_var (pv 0)) da_nil)) da_nil)) (dg_name (pg_name (i := 5) sc__law_plain.nd rfl (by first | exact Or.inl rfl | exact Or.inr rfl))) (dss_cons (Γ1 := [0, 0, 0, 0, 0, 0, 0, 0, 0]) (ds_nm (i := 6) sc__law_plain.nd rfl (by first | exact Or.inl rfl | exact Or.inr rfl) (de_op op_sub p_i0 (de_op op_sub p_i0 (de_callB o_len (Prim1.args (Prim1P.to p_len)) rfl U.n_len rfl (da_cons (de_var (pv 0)) da_nil)) de_int) (de_var (pv 5)))) (dss_cons (Γ1 := [0, 0, 0, 0, 0, 0, 0, 0, 0]) (ds_if (dt_cmp op_eq p_eq (de_var (pv 5)) de_int rfl) (dss_one (ds_nm (i := 3) sc__law_plain.nd rfl (by first | exact Or.inl rfl | exact Or.inr rfl) (de_lst (k := 0) (da_cons (de_tup (k := 0) (da_cons (de_ix ix_seq (Prim2P.to p_ix) (de_var (pv 2)) (de_var (pv 6))) (da_cons (de_var (pv 1)) da_nil))) da_nil)))) (dss_cons (Γ1 := [0, 0, 0, 0, 0, 0, 0, 0, 0]) (ds_nm (i := 7) sc__law_plain.nd rfl (by first | exact Or.inl rfl | exact Or.inr rfl) (de_op op_sub p_i0 (de_op o_mul p_mul (de_ix ix_seq (Prim2P.to p_ix) (de_var (pv 2)) (de_var (pv 6))) (de_ix ix_seq (Prim2P.to p_ix) (de_ix ix_seq (Prim2P.to p_ix) (de_var (pv 0)) (de_var (pv 6))) de_int)) (de_op o_mul p_mul (de_op op_sub p_i0 (de_ix ix_seq (Prim2P.to p_ix) (de_var (pv 2)) (de_op op_add p_i0 (de_var (pv 6)) de_int)) (de_ix ix_seq (Prim2P.to p_ix) (de_var (pv 2)) (de_var (pv 6)))) (de_var (pv 4))))) (dss_one (ds_nm (i := 3) sc__law_plain.nd rfl (by first | exact Or.inl rfl | exact Or.inr rfl) (de_op (k := 0) op_cat (Prim2P.to p_cat) (de_lst (k := 0) (da_cons (de_tup (k := 0) (da_cons (de_var (pv 7)) (da_cons (de_op o_mul p_mul (de_var (pv 1)) (de_ix ix_seq (Prim2P.to p_ix) (de_ix ix_seq (Prim2P.to p_ix) (de_var (pv 0)) (de_var (pv 6))) de_int)) da_nil))) da_nil)) (de_var (pv 3))))))) (dss_one (ds_nm (i := 4) sc__law_plain.nd rfl (by first | exact Or.inl rfl | exact Or.inr rfl) (de_op op_add p_i0 (de_var (pv 4)) (de_ix ix_seq (Prim2P.to p_ix) (de_ix ix_seq (Prim2P.to p_ix) (de_var (pv 0)) (de_var (pv 6))) de_int))))))) (dss_one (ds_ret (de_var (pv 3)))))))))
theorem ok__law_rise (U : Txt K mg a) : FnOk P w K mg base (L2.CX P w) 1 a.f__law_rise a.d__law_rise ["numbers"] (spF K (tab a) 0 m__law_rise) :=
  okF (Pk := []) (J := ⟨[0, 0], [0, 0], [0, 0], [0, 0], 0⟩) (Γ := [0, 0]) U.fn__law_rise sc__law_rise rfl rfl (by decide) rfl fun cdv A outer s H E hr tk => (dss_cons (Γ1 := [0, 0]) (ds_for (passes_of rfl) rfl (di_range1 rfl U.n_range (da_cons (de_op op_sub p_i0 (de_callB o_len (Prim1.args (Prim1P.to p_len)) rfl U.n_len rfl (da_cons (de_var (pv 0)) da_nil)) de_int) da_nil)) (dg_name (pg_name (i := 1) sc__law_rise.nd rfl (by first | exact Or.inl rfl | exact Or.inr rfl))) (dss_one (ds_if (dt_cmp op_lt p_ib (de_op o_mul p_mul (de_ix ix_seq (Prim2P.to p_ix) (de_ix ix_seq (Prim2P.to p_ix) (de_var (pv 0)) (de_op op_add p_i0 (de_var (pv 1)) de_int)) de_int) (de_ix ix_seq (Prim2P.to p_ix) (de_ix ix_seq (Prim2P.to p_ix) (de_var (pv 0)) (de_var (pv 1))) de_int)) (de_op o_mul p_mul (de_ix ix_seq (Prim2P.to p_ix) (de_ix ix_seq (Prim2P.to p_ix) (de_var (pv 0)) (de_var (pv 1))) de_int) (de_ix ix_seq (Prim2P.to p_ix) (de_ix ix_seq (Prim2P.to p_ix) (de_var (pv 0)) (de_op op_add p_i0 (de_var (pv 1)) de_int)) de_int)) rfl) (dss_one (ds_ret de_bl)) dss_nil))) (dss_one (ds_ret de_bl)))
theorem ok__law_alike (U : Txt K mg a) : FnOk P w K mg base (L2.CX P w) 1 a.f__law_alike a.d__law_alike ["one", "two"] (spF K (tab a) 0 m__law_alike) :=
  okF (Pk := []) (J := ⟨[0, 0, 0], [0, 0, 0], [0, 0, 0], [0, 0, 0], 0⟩) (Γ := [0, 0, 0]) U.fn__law_alike sc__law_alike rfl rfl (by decide) rfl fun cdv A outer s H E hr tk => (dss_one (ds_ret (de_callB (cr_all rfl) (Prim1.args (Prim1P.to p_all)) rfl U.n_all rfl (da_cons (de_lc rfl sc__law_alike.nd (P := [0, 1]) (own := [("k", 2)]) (k := 0) (di_range1 rfl U.n_range (da_cons (de_callB o_len (Prim1.args (Prim1P.to p_len)) rfl U.n_len rfl (da_cons (de_var (pv 0)) da_nil)) da_nil)) (blkOk_by rfl) (fun _ _ _ _ _ => (dg_name (pg_name (i := 2) sc__law_alike.nd rfl (by first | exact Or.inl rfl | exact Or.inr rfl)))) (fun _ _ _ _ _ => dts_nil) (fun _ _ _ _ _ => (de_cmp op_eq p_eq (de_op o_mul p_mul (de_ix ix_seq (Prim2P.to p_ix) (de_ix ix_seq (Prim2P.to p_ix) (de_var (pv 0)) (de_var (pv 2))) de_int) (de_ix ix_seq (Prim2P.to p_ix) (de_ix ix_seq (Prim2P.to p_ix) (de_var (pv 1)) (de_var (pv 2))) de_int)) (de_op o_mul p_mul (de_ix ix_seq (Prim2P.to p_ix) (de_ix ix_seq (Prim2P.to p_ix) (de_var (pv 1)) (de_var (pv 2))) de_int) (de_ix ix_seq (Prim2P.to p_ix) (de_ix ix_seq (Prim2P.to p_ix) (de_var (pv 0)) (de_var (pv 2))) de_int)) rfl))) da_nil))))
theorem ok_is_integer (U : Txt K mg a) : FnOk P w K mg base (L2.CX P w) 1 a.f_is_integer a.d_is_integer ["value"] (spF K (tab a) 0 m_is_integer) :=
  okF (Pk := []) (J := ⟨[0], [0], [0], [0], 0⟩) (Γ := [0]) U.fn_is_integer sc_is_integer rfl rfl (by decide) rfl fun cdv A outer s H E hr tk => (dss_one (ds_ret (de_and (de_isi (t := .int) U.ty rfl (pty_bt (t := .int) rfl U.n_int (by rfl) rfl (fun _ z => nomatch z)) rfl U.n_isinstance (de_var (pv 0))) (de_one (de_not (de_isi (t := .bool) U.ty rfl (pty_bt (t := .bool) rfl U.n_bool (by rfl) rfl (fun _ z => nomatch z)) rfl U.n_isinstance (de_var (pv 0))))))))
theorem ok_Frac___init__ (U : Txt K mg a) : FnOk P w K mg base (L2.CX P w) 2 a.f_Frac___init__ a.d_Frac___init__ ["self", "num", "den"] (spB K (tab a) 1 0 m_Frac___init__) :=
  okB (Pk := [0]) (J := ⟨[1, 0, 0, 0], [1, 0, 0, 0], [1, 0, 0, 0], [1, 0, 0, 0], 0⟩) (Γ := [1, 0, 0, 0]) U.fn_Frac___init__ sc_Frac___init__ rfl (by decide) rfl rfl (fun i h1 h2 => (by decide : ∀ i, i < 3 → 1 ≤ i → ([1, 0, 0, 0] : List Nat).getD i 0 = 0) i h2 h1) rfl (by decide) rfl rfl fun cdv A outer s H E hr tk => (dss_cons (Γ1 := [1, 0, 0, 0]) (ds_if (dt_w (dw_or (dt_not (dt_val (de_fn U.g_is_integer (ok_is_integer U) (hr.mono (by first | decide | omega)) tk rfl (da_cons (de_var (pv 1)) da_nil)))) (dw_or (dt_not (dt_val (de_fn U.g_is_integer (ok_is_integer U) (hr.mono (by first | decide | omega)) tk rfl (da_cons (de_var (pv 2)) da_nil)))) (dw_or1 (dt_cmp op_eq p_eq (de_var (pv 2)) de_int rfl))))) (dss_one ds_never) dss_nil) (dss_cons (Γ1 := [1, 0, 0, 0]) (ds_nm (i := 3) sc_Frac___init__.nd rfl (by first | exact Or.inl rfl | exact Or.inr rfl) (de_callM cr_gcd p_gcd rfl U.m_gcd (da_cons (de_var (pv 1)) (da_cons (de_var (pv 2)) da_nil)))) (dss_cons (Γ1 := [1, 0, 0, 0]) (ds_if (dt_cmp op_lt p_ib (de_var (pv 2)) de_int rfl) (dss_one (ds_nm (i := 3) sc_Frac___init__.nd rfl (by first | exact Or.inl rfl | exact Or.inr rfl) (de_un un_neg p_u (de_var (pv 3))))) dss_nil) (dss_cons (Γ1 := [1, 0, 0, 0]) (ds_fldset (c := 0) (j := 0) U.cl_Frac U.na_Frac_num rfl fl_nd_0 fl_sm_0 (pv 0) (de_op o_div p_div (de_var (pv 1)) (de_var (pv 3)))) (dss_one (ds_fldset (c := 0) (j := 1) U.cl_Frac U.na_Frac_den rfl fl_nd_0 fl_sm_0 (pv 0) (de_op o_div p_div (de_var (pv 2)) (de_var (pv 3)))))))))
theorem ok__law_given (U : Txt K mg a) : FnOk P w K mg base (L2.CX P w) 4 a.f__law_given a.d__law_given ["pair", "plain"] (spF K (tab a) 0 m__law_given) :=
  okF (Pk := []) (J := ⟨[0, 0], [0, 0], [0, 0], [0, 0], 0⟩) (Γ := [0, 0]) U.fn__law_given sc__law_given rfl rfl (by decide) rfl fun cdv A outer s H E hr tk => (dss_cons (Γ1 := [0, 0]) (ds_if (dt_w (dw_and (dt_cmp op_eq p_eq (de_var (pv 1)) de_int rfl) (dw_and1 (dt_cmp op_eq p_eq (de_ix ix_seq (Prim2P.to p_ix) (de_var (pv 0)) de_int) de_int rfl)))) (dss_one (ds_ret (de_ix ix_seq (Prim2P.to p_ix) (de_var (pv 0)) de_int))) dss_nil) (dss_one (ds_ret (de_sh (de_new (xd := []) rfl U.gc_Frac U.gd_Frac___init___0 (ok_Frac___init__ U) (hr.mono (by first | decide | omega)) tk rfl reps_nil (da_cons (de_ix ix_seq (Prim2P.to p_ix) (de_var (pv 0)) de_int) (da_cons (de_ix ix_seq (Prim2P.to p_ix) (de_var (pv 0)) de_int) da_nil)))))))
theorem ok_is_sequence (U : Txt K mg a) : FnOk P w K mg base (L2.CX P w) 1 a.f_is_sequence a.d_is_sequence ["value"] (spF K (tab a) 0 m_is_sequence) :=
  okF (Pk := []) (J := ⟨[0], [0], [0], [0], 0⟩) (Γ := [0]) U.fn_is_sequence sc_is_sequence rfl rfl (by decide) rfl fun cdv A outer s H E hr tk => (dss_one (ds_ret (de_isiT (ts := [.list, .tuple]) U.ty (by rfl) (by decide) (pty_cons (pty_bt (t := .list) rfl U.n_list (by rfl) rfl (fun _ z => nomatch z)) (pty_cons (pty_bt (t := .tuple) rfl U.n_tuple (by rfl) rfl (fun _ z => nomatch z)) pty_nil)) rfl U.n_isinstance (de_var (pv 0)))))
theorem ok_is_between (U : Txt K mg a) : FnOk P w K mg base (L2.CX P w) 2 a.f_is_between a.d_is_between ["value", "least", "most"] (spF K (tab a) 0 m_is_between) :=
  okF (Pk := []) (J := ⟨[0, 0, 0], [0, 0, 0], [0, 0, 0], [0, 0, 0], 0⟩) (Γ := [0, 0, 0]) U.fn_is_between sc_is_between rfl rfl (by decide) rfl fun cdv A outer s H E hr tk => (dss_one (ds_ret (de_and (de_fn U.g_is_integer (ok_is_integer U) (hr.mono (by first | decide | omega)) tk rfl (da_cons (de_var (pv 0)) da_nil)) (de_one (de_chain op_le op_le p_ib p_ib (de_var (pv 1)) (de_var (pv 0)) (de_var (pv 2)))))))
theorem ok_as_frac (U : Txt K mg a) : FnOk P w K mg base (L2.CX P w) 4 a.f_as_frac a.d_as_frac ["value"] (spF K (tab a) 0 m_as_frac) :=
  okF (Pk := []) (J := ⟨[0], [0], [0], [0], 0⟩) (Γ := [0]) U.fn_as_frac sc_as_frac rfl rfl (by decide) rfl fun cdv A outer s H E hr tk => (dss_cons (Γ1 := [0]) (ds_if (dt_val (de_isi (t := (.own 0)) U.ty rfl (pty_own (c := 0) rfl U.gc_Frac.mg) rfl U.n_isinstance (de_var (pv 0)))) (dss_one (ds_ret (de_var (pv 0)))) dss_nil) (dss_cons (Γ1 := [0]) (ds_if (dt_not (dt_val (de_fn U.g_is_integer (ok_is_integer U) (hr.mono (by first | decide | omega)) tk rfl (da_cons (de_var (pv 0)) da_nil)))) (dss_one ds_never) dss_nil) (dss_one (ds_ret (de_sh (de_new (xd := [.int 1]) rfl U.gc_Frac U.gd_Frac___init___1 (ok_Frac___init__ U) (hr.mono (by first | decide | omega)) tk rfl reps_one (da_cons (de_var (pv 0)) da_nil)))))))
theorem ok_is_amount (U : Txt K mg a) : FnOk P w K mg base (L2.CX P w) 5 a.f_is_amount a.d_is_amount ["value"] (spF K (tab a) 0 m_is_amount) :=
  okF (Pk := []) (J := ⟨[0, 0], [0, 0], [0, 0], [0, 0], 0⟩) (Γ := [0, 0]) U.fn_is_amount sc_is_amount rfl rfl (by decide) rfl fun cdv A outer s H E hr tk => (dss_cons (Γ1 := [0, 0]) (ds_if (dt_w (dw_and (dt_not (dt_val (de_fn U.g_is_integer (ok_is_integer U) (hr.mono (by first | decide | omega)) tk rfl (da_cons (de_var (pv 0)) da_nil)))) (dw_and1 (dt_not (dt_val (de_isi (t := (.own 0)) U.ty rfl (pty_own (c := 0) rfl U.gc_Frac.mg) rfl U.n_isinstance (de_var (pv 0)))))))) (dss_one (ds_ret de_bl)) dss_nil) (dss_cons (Γ1 := [0, 0]) (ds_nm (i := 1) sc_is_amount.nd rfl (by first | exact Or.inl rfl | exact Or.inr rfl) (de_fn U.g_as_frac (ok_as_frac U) (hr.mono (by first | decide | omega)) tk rfl (da_cons (de_var (pv 0)) da_nil))) (dss_one (ds_ret (de_and (de_chain op_le op_le p_ib p_ib (de_un un_neg p_u (de_globE U.k_MOST_OVER rfl (fun S H => by simp [Rep]))) (de_fld U.fo_num (de_var (pv 1))) (de_globE U.k_MOST_OVER rfl (fun S H => by simp [Rep]))) (de_one (de_cmp op_le p_ib (de_fld U.fo_den (de_var (pv 1))) (de_globE U.k_MOST_UNDER rfl (fun S H => by simp [Rep])) rfl)))))))
theorem ok_is_prize (U : Txt K mg a) : FnOk P w K mg base (L2.CX P w) 6 a.f_is_prize a.d_is_prize ["value"] (spF K (tab a) 0 m_is_prize) :=
  okF (Pk := []) (J := ⟨[0], [0], [0], [0], 0⟩) (Γ := [0]) U.fn_is_prize sc_is_prize rfl rfl (by decide) rfl fun cdv A outer s H E hr tk => (dss_cons (Γ1 := [0]) (ds_if (dt_w (dw_or (dt_not (dt_val (de_fn U.g_is_sequence (ok_is_sequence U) (hr.mono (by first | decide | omega)) tk rfl (da_cons (de_var (pv 0)) da_nil)))) (dw_or1 (dt_cmp op_ne p_ne (de_callB o_len (Prim1.args (Prim1P.to p_len)) rfl U.n_len rfl (da_cons (de_var (pv 0)) da_nil)) de_int rfl)))) (dss_one (ds_ret de_bl)) dss_nil) (dss_cons (Γ1 := [0]) (ds_if (dt_w (dw_or (dt_not (dt_val (de_fn U.g_is_between (ok_is_between U) (hr.mono (by first | decide | omega)) tk rfl (da_cons (de_ix ix_seq (Prim2P.to p_ix) (de_var (pv 0)) de_int) (da_cons de_int (da_cons (de_globE U.k_MOST_WEIGHT rfl (fun S H => by simp [Rep])) da_nil)))))) (dw_or1 (dt_not (dt_val (de_fn U.g_is_amount (ok_is_amount U) (hr.mono (by first | decide | omega)) tk rfl (da_cons (de_ix ix_seq (Prim2P.to p_ix) (de_var (pv 0)) de_int) da_nil))))))) (dss_one (ds_ret de_bl)) dss_nil) (dss_one (ds_ret (de_cmp op_ge p_ib (de_fld U.fo_num (de_fn U.g_as_frac (ok_as_frac U) (hr.mono (by first | decide | omega)) tk rfl (da_cons (de_ix ix_seq (Prim2P.to p_ix) (de_var (pv 0)) de_int) da_nil))) de_int rfl)))))
theorem ok_Frac_is_below (U : Txt K mg a) : FnOk P w K mg base (L2.CX P w) 1 a.f_Frac_is_below a.d_Frac_is_below ["self", "other"] (spF K (tab a) 0 m_Frac_is_below) :=
  okF (Pk := []) (J := ⟨[0, 0], [0, 0], [0, 0], [0, 0], 0⟩) (Γ := [0, 0]) U.fn_Frac_is_below sc_Frac_is_below rfl rfl (by decide) rfl fun cdv A outer s H E hr tk => (dss_one (ds_ret (de_cmp op_lt p_ib (de_op o_mul p_mul (de_fld U.fo_num (de_var (pv 0))) (de_fld U.fo_den (de_var (pv 1)))) (de_op o_mul p_mul (de_fld U.fo_num (de_var (pv 1))) (de_fld U.fo_den (de_var (pv 0)))) rfl)))
theorem ok_kept_prizes (U : Txt K mg a) : FnOk P w K mg base (L2.CX P w) 7 a.f_kept_prizes a.d_kept_prizes ["prizes"] (spF K (tab a) 0 m_kept_prizes) :=
  okF (Pk := []) (J := ⟨[0, 0, 0, 0, 0], [0, 0, 0, 0, 0], [0, 0, 0, 0, 0], [0, 1, 0, 0, 0], 0⟩) (Γ := [0, 0, 0, 0, 0]) U.fn_kept_prizes sc_kept_prizes rfl rfl (by decide) rfl fun cdv A outer s H E hr tk => (dss_cons (Γ1 := [0, 0, 0, 0, 0]) (ds_if (dt_w (dw_or (dt_not (dt_val (de_fn U.g_is_sequence (ok_is_sequence U) (hr.mono (by first | decide | omega)) tk rfl (da_cons (de_var (pv 0)) da_nil)))) (dw_or1 (dt_not (dt_chain op_le op_le p_ib p_ib de_int (de_callB o_len (Prim1.args (Prim1P.to p_len)) rfl U.n_len rfl (da_cons (de_var (pv 0)) da_nil)) (de_globE U.k_MOST_PRIZES rfl (fun S H => by simp [Rep]))))))) (dss_one ds_never) dss_nil) (dss_cons (Γ1 := [0, 1, 0, 0, 0]) (ds_nm (i := 1) sc_kept_prizes.nd rfl (by first | exact Or.inl rfl | exact Or.inr rfl) (de_lst (k := 1) da_nil)) (dss_cons (Γ1 := [0, 1, 0, 0, 0]) (ds_for (passes_of rfl) rfl (di_enum rfl U.n_enumerate (de_var (pv 0))) (dg_tup rfl (dgs_cons (dg_name (pg_name (i := 2) sc_kept_prizes.nd rfl (by first | exact Or.inl rfl | exact Or.inr rfl))) (dgs_cons (dg_name (pg_name (i := 3) sc_kept_prizes.nd rfl (by first | exact Or.inl rfl | exact Or.inr rfl))) dgs_nil))) (dss_cons (Γ1 := [0, 1, 0, 0, 0]) (ds_if (dt_not (dt_val (de_fn U.g_is_prize (ok_is_prize U) (hr.mono (by first | decide | omega)) tk rfl (da_cons (de_var (pv 3)) da_nil)))) (dss_one ds_never) dss_nil) (dss_cons (Γ1 := [0, 1, 0, 0, 0]) (ds_nm (i := 4) sc_kept_prizes.nd rfl (by first | exact Or.inl rfl | exact Or.inr rfl) (de_fn U.g_as_frac (ok_as_frac U) (hr.mono (by first | decide | omega)) tk rfl (da_cons (de_ix ix_seq (Prim2P.to p_ix) (de_var (pv 3)) de_int) da_nil))) (dss_cons (Γ1 := [0, 1, 0, 0, 0]) (ds_if (dt_w (dw_and (dt_cmp op_gt p_ib (de_var (pv 2)) de_int rfl) (dw_and1 (dt_not (dt_val (de_meth (xd := []) rfl U.cl_Frac U.me_Frac_is_below no_0_is_below (ok_Frac_is_below U) (hr.mono (by first | decide | omega)) tk U.b_Frac_is_below .nil reps_nil (de_ix ix_seq (Prim2P.to p_ix) (de_ixN ix_seq p_ix (pv 1) (de_op op_sub p_i0 (de_var (pv 2)) de_int)) de_int) (da_cons (de_var (pv 4)) da_nil))))))) (dss_one ds_never) dss_nil) (dss_one (ds_app (pv 1) (de_tup (k := 0) (da_cons (de_ix ix_seq (Prim2P.to p_ix) (de_var (pv 3)) de_int) (da_cons (de_var (pv 4)) da_nil))))))))) (dss_one (ds_ret (de_callTyN (k := 0) o_tuple p_tuple rfl U.n_tuple rfl (pv 1)))))))
theorem ok_Offer___init__ (U : Txt K mg a) : FnOk P w K mg base (L2.CX P w) 8 a.f_Offer___init__ a.d_Offer___init__ ["self", "prizes"] (spB K (tab a) 1 0 m_Offer___init__) :=
  okB (Pk := [0]) (J := ⟨[1, 0], [1, 0], [1, 0], [1, 0], 0⟩) (Γ := [1, 0]) U.fn_Offer___init__ sc_Offer___init__ rfl (by decide) rfl rfl (fun i h1 h2 => (by decide : ∀ i, i < 2 → 1 ≤ i → ([1, 0] : List Nat).getD i 0 = 0) i h2 h1) rfl (by decide) rfl rfl fun cdv A outer s H E hr tk => (dss_one (ds_fldset (c := 1) (j := 0) U.cl_Offer U.na_Offer_prizes rfl fl_nd_1 fl_sm_1 (pv 0) (de_fn U.g_kept_prizes (ok_kept_prizes U) (hr.mono (by first | decide | omega)) tk rfl (da_cons (de_var (pv 1)) da_nil))))
theorem ok__law_built (U : Txt K mg a) : FnOk P w K mg base (L2.CX P w) 10 a.f__law_built a.d__law_built ["rows", "form"] (spF K (tab a) 0 m__law_built) :=
  okF (Pk := []) (J := ⟨[0, 0, 0, 0, 0, 0], [0, 0, 0, 0, 0, 0], [0, 0, 0, 0, 0, 0], [0, 0, 0, 0, 0, 0], 0⟩) (Γ := [0, 0, 0, 0, 0, 0]) U.fn__law_built sc__law_built rfl rfl (by decide) rfl fun cdv A outer s H E hr tk => (dss_cons (Γ1 := [0, 0, 0, 0, 0, 0]) (ds_nm (i := 2) sc__law_built.nd rfl (by first | exact Or.inl rfl | exact Or.inr rfl) (de_op op_modN p_mod (de_callTy call_int1 p_int rfl U.n_int rfl (da_cons (de_var (pv 1)) da_nil)) de_int)) (dss_cons (Γ1 := [0, 0, 0, 0, 0, 0]) (ds_setLc (i := 3) rfl sc__law_built.nd rfl rfl (sw_true rfl rfl rfl rfl) (P := [0, 1, 2, 3, 5]) (own := [("row", 4)]) (k := 0) (di_list (de_var (pv 0))) (blkOk_by rfl) (fun _ _ _ _ _ => (dg_name (pg_name (i := 4) sc__law_built.nd rfl (by first | exact Or.inl rfl | exact Or.inr rfl)))) (fun _ _ _ _ _ => dts_nil) (fun _ _ _ _ _ => (de_lst (k := 0) (da_cons (de_ix ix_seq (Prim2P.to p_ix) (de_var (pv 4)) de_int) (da_cons (de_fn U.g__law_given (ok__law_given U) (hr.mono (by first | decide | omega)) takes0 rfl (da_cons (de_ix ix_seq (Prim2P.to p_ix) (de_var (pv 4)) de_int) (da_cons (de_var (pv 2)) da_nil))) da_nil))))) (dss_cons (Γ1 := [0, 0, 0, 0, 0, 0]) (ds_if (dt_cmp op_lt p_ib (de_var (pv 1)) de_int rfl) (dss_one (ds_ret (de_sh (de_new (xd := []) rfl U.gc_Offer U.gd_Offer___init___0 (ok_Offer___init__ U) (hr.mono (by first | decide | omega)) tk rfl reps_nil (da_cons (de_var (pv 3)) da_nil))))) dss_nil) (dss_one (ds_ret (de_sh (de_newK rfl U.gc_Offer U.kw_Offer___init___prizes (ok_Offer___init__ U) (hr.mono (by first | decide | omega)) tk rfl (dk_cons (de_callTy (k := 0) o_tuple (Prim1.args (Prim1P.to p_tuple)) rfl U.n_tuple rfl (da_cons (de_lc rfl sc__law_built.nd (P := [0, 1, 2, 3, 4]) (own := [("prize", 5)]) (k := 0) (di_list (de_var (pv 3))) (blkOk_by rfl) (fun _ _ _ _ _ => (dg_name (pg_name (i := 5) sc__law_built.nd rfl (by first | exact Or.inl rfl | exact Or.inr rfl)))) (fun _ _ _ _ _ => dts_nil) (fun _ _ _ _ _ => (de_callTy (k := 0) o_tuple (Prim1.args (Prim1P.to p_tuple)) rfl U.n_tuple rfl (da_cons (de_var (pv 5)) da_nil)))) da_nil)) dk_nil))))))))
theorem ok__law_whole (U : Txt K mg a) : FnOk P w K mg base (L2.CX P w) 1 a.f__law_whole a.d__law_whole ["found"] (spF K (tab a) 0 m__law_whole) :=
  okF (Pk := []) (J := ⟨[0], [0], [0], [0], 0⟩) (Γ := [0]) U.fn__law_whole sc__law_whole rfl rfl (by decide) rfl fun cdv A outer s H E hr tk => (dss_one (ds_ret (de_and (de_isi (t := .int) U.ty rfl (pty_bt (t := .int) rfl U.n_int (by rfl) rfl (fun _ z => nomatch z)) rfl U.n_isinstance (de_var (pv 0))) (de_one (de_not (de_isi (t := .bool) U.ty rfl (pty_bt (t := .bool) rfl U.n_bool (by rfl) rfl (fun _ z => nomatch z)) rfl U.n_isinstance (de_var (pv 0))))))))
theorem ok__law_frac (U : Txt K mg a) : FnOk P w K mg base (L2.CX P w) 2 a.f__law_frac a.d__law_frac ["found", "num", "den"] (spF K (tab a) 0 m__law_frac) :=
  okF (Pk := []) (J := ⟨[0, 0, 0, 0], [0, 0, 0, 0], [0, 0, 0, 0], [0, 0, 0, 0], 0⟩) (Γ := [0, 0, 0, 0]) U.fn__law_frac sc__law_frac rfl rfl (by decide) rfl fun cdv A outer s H E hr tk => (dss_cons (Γ1 := [0, 0, 0, 0]) (ds_if (dt_w (dw_or (dt_not (dt_val (de_isi (t := (.own 0)) U.ty rfl (pty_own (c := 0) rfl U.gc_Frac.mg) rfl U.n_isinstance (de_var (pv 0))))) (dw_or (dt_not (dt_val (de_fn U.g__law_whole (ok__law_whole U) (hr.mono (by first | decide | omega)) tk rfl (da_cons (de_fld U.fo_num (de_var (pv 0))) da_nil)))) (dw_or1 (dt_not (dt_val (de_fn U.g__law_whole (ok__law_whole U) (hr.mono (by first | decide | omega)) tk rfl (da_cons (de_fld U.fo_den (de_var (pv 0))) da_nil)))))))) (dss_one (ds_ret de_bl)) dss_nil) (dss_cons (Γ1 := [0, 0, 0, 0]) (ds_nm (i := 3) sc__law_frac.nd rfl (by first | exact Or.inl rfl | exact Or.inr rfl) (de_fn U.g__law_gcd (ok__law_gcd U) (hr.mono (by first | decide | omega)) tk rfl (da_cons (de_var (pv 1)) (da_cons (de_var (pv 2)) da_nil)))) (dss_one (ds_ret (de_and (de_cmp op_eq p_eq (de_fld U.fo_num (de_var (pv 0))) (de_op o_div p_div (de_var (pv 1)) (de_var (pv 3))) rfl) (de_one (de_cmp op_eq p_eq (de_fld U.fo_den (de_var (pv 0))) (de_op o_div p_div (de_var (pv 2)) (de_var (pv 3))) rfl)))))))
theorem ok__law_fits (U : Txt K mg a) : ∀ j, FnOk P w K mg base (L2.CX P w) (3 + j) a.f__law_fits a.d__law_fits ["found", "due"] (spF K (tab a) 0 (m__law_fits j))
  | 0 => fn_bad
  | j + 1 => by
    have ih := ok__law_fits U j
    exact okF (k := 3 + j) (Pk := []) (J := ⟨[0, 0, 0], [0, 0, 0], [0, 0, 0], [0, 0, 0], 0⟩) (Γ := [0, 0, 0]) U.fn__law_fits sc__law_fits rfl rfl (by decide) rfl fun cdv A outer s H E hr tk => (dss_cons (Γ1 := [0, 0, 0]) (ds_if (dt_val (de_isi (t := .list) U.ty rfl (pty_bt (t := .list) rfl U.n_list (by rfl) rfl (fun _ z => nomatch z)) rfl U.n_isinstance (de_var (pv 1)))) (dss_one (ds_ret (de_fn U.g__law_frac (ok__law_frac U) (hr.mono (by first | decide | omega)) tk rfl (da_cons (de_var (pv 0)) (da_cons (de_ix ix_seq (Prim2P.to p_ix) (de_var (pv 1)) de_int) (da_cons (de_ix ix_seq (Prim2P.to p_ix) (de_var (pv 1)) de_int) da_nil)))))) dss_nil) (dss_cons (Γ1 := [0, 0, 0]) (ds_if (dt_val (de_isi (t := .tuple) U.ty rfl (pty_bt (t := .tuple) rfl U.n_tuple (by rfl) rfl (fun _ z => nomatch z)) rfl U.n_isinstance (de_var (pv 1)))) (dss_cons (Γ1 := [0, 0, 0]) (ds_if (dt_w (dw_or (dt_not (dt_val (de_isi (t := .tuple) U.ty rfl (pty_bt (t := .tuple) rfl U.n_tuple (by rfl) rfl (fun _ z => nomatch z)) rfl U.n_isinstance (de_var (pv 0))))) (dw_or1 (dt_cmp op_ne p_ne (de_callB o_len (Prim1.args (Prim1P.to p_len)) rfl U.n_len rfl (da_cons (de_var (pv 0)) da_nil)) (de_callB o_len (Prim1.args (Prim1P.to p_len)) rfl U.n_len rfl (da_cons (de_var (pv 1)) da_nil)) rfl)))) (dss_one (ds_ret de_bl)) dss_nil) (dss_one (ds_ret (de_callB (cr_all rfl) (Prim1.args (Prim1P.to p_all)) rfl U.n_all rfl (da_cons (de_lc rfl sc__law_fits.nd (P := [0, 1]) (own := [("k", 2)]) (k := 0) (di_range1 rfl U.n_range (da_cons (de_callB o_len (Prim1.args (Prim1P.to p_len)) rfl U.n_len rfl (da_cons (de_var (pv 1)) da_nil)) da_nil)) (blkOk_by rfl) (fun _ _ _ _ _ => (dg_name (pg_name (i := 2) sc__law_fits.nd rfl (by first | exact Or.inl rfl | exact Or.inr rfl)))) (fun _ _ _ _ _ => dts_nil) (fun _ _ _ _ _ => (de_fn U.g__law_fits ih (hr.mono (by first | decide | omega)) takes0 rfl (da_cons (de_ix ix_seq (Prim2P.to p_ix) (de_var (pv 0)) (de_var (pv 2))) (da_cons (de_ix ix_seq (Prim2P.to p_ix) (de_var (pv 1)) (de_var (pv 2))) da_nil))))) da_nil))))) dss_nil) (dss_cons (Γ1 := [0, 0, 0]) (ds_if (dt_cmp op_isN p_isN (de_var (pv 1)) de_non rfl) (dss_one (ds_ret (de_cmp op_isN p_isN (de_var (pv 0)) de_non rfl))) dss_nil) (dss_cons (Γ1 := [0, 0, 0]) (ds_if (dt_val (de_isi (t := .bool) U.ty rfl (pty_bt (t := .bool) rfl U.n_bool (by rfl) rfl (fun _ z => nomatch z)) rfl U.n_isinstance (de_var (pv 1)))) (dss_one (ds_ret (de_and (de_isi (t := .bool) U.ty rfl (pty_bt (t := .bool) rfl U.n_bool (by rfl) rfl (fun _ z => nomatch z)) rfl U.n_isinstance (de_var (pv 0))) (de_one (de_cmp op_eq p_eq (de_var (pv 0)) (de_var (pv 1)) rfl))))) dss_nil) (dss_cons (Γ1 := [0, 0, 0]) (ds_if (dt_val (de_isi (t := .int) U.ty rfl (pty_bt (t := .int) rfl U.n_int (by rfl) rfl (fun _ z => nomatch z)) rfl U.n_isinstance (de_var (pv 1)))) (dss_one (ds_ret (de_and (de_fn U.g__law_whole (ok__law_whole U) (hr.mono (by first | decide | omega)) tk rfl (da_cons (de_var (pv 0)) da_nil)) (de_one (de_cmp op_eq p_eq (de_var (pv 0)) (de_var (pv 1)) rfl))))) dss_nil) (dss_one (ds_ret (de_and (de_isi (t := .str) U.ty rfl (pty_bt (t := .str) rfl U.n_str (by rfl) rfl (fun _ z => nomatch z)) rfl U.n_isinstance (de_var (pv 0))) (de_one (de_cmp op_eq p_eq (de_var (pv 0)) (de_var (pv 1)) rfl))))))))))
theorem ok_common_under (U : Txt K mg a) : FnOk P w K mg base (L2.CX P w) 1 a.f_common_under a.d_common_under ["fracs"] (spF K (tab a) 0 m_common_under) :=
  okF (Pk := []) (J := ⟨[0, 0, 0], [0, 0, 0], [0, 0, 0], [0, 0, 0], 0⟩) (Γ := [0, 0, 0]) U.fn_common_under sc_common_under rfl rfl (by decide) rfl fun cdv A outer s H E hr tk => (dss_cons (Γ1 := [0, 0, 0]) (ds_nm (i := 1) sc_common_under.nd rfl (by first | exact Or.inl rfl | exact Or.inr rfl) de_int) (dss_cons (Γ1 := [0, 0, 0]) (ds_for (passes_of rfl) rfl (di_list (de_var (pv 0))) (dg_name (pg_name (i := 2) sc_common_under.nd rfl (by first | exact Or.inl rfl | exact Or.inr rfl))) (dss_one (ds_nm (i := 1) sc_common_under.nd rfl (by first | exact Or.inl rfl | exact Or.inr rfl) (de_callM cr_lcm p_lcm rfl U.m_lcm (da_cons (de_var (pv 1)) (da_cons (de_fld U.fo_den (de_var (pv 2))) da_nil)))))) (dss_one (ds_ret (de_var (pv 1))))))
theorem ok_scaled (U : Txt K mg a) : FnOk P w K mg base (L2.CX P w) 1 a.f_scaled a.d_scaled ["frac", "under"] (spF K (tab a) 0 m_scaled) :=
  okF (Pk := []) (J := ⟨[0, 0], [0, 0], [0, 0], [0, 0], 0⟩) (Γ := [0, 0]) U.fn_scaled sc_scaled rfl rfl (by decide) rfl fun cdv A outer s H E hr tk => (dss_one (ds_ret (de_op o_mul p_mul (de_fld U.fo_num (de_var (pv 0))) (de_op o_div p_div (de_var (pv 1)) (de_fld U.fo_den (de_var (pv 0)))))))
theorem ok_tail_sums (U : Txt K mg a) : FnOk P w K mg base (L2.CX P w) 1 a.f_tail_sums a.d_tail_sums ["weights"] (spF K (tab a) 0 m_tail_sums) :=
  okF (Pk := []) (J := ⟨[0, 0, 0], [0, 0, 0], [0, 0, 0], [0, 1, 0], 0⟩) (Γ := [0, 0, 0]) U.fn_tail_sums sc_tail_sums rfl rfl (by decide) rfl fun cdv A outer s H E hr tk => (dss_cons (Γ1 := [0, 1, 0]) (ds_nm (i := 1) sc_tail_sums.nd rfl (by first | exact Or.inl rfl | exact Or.inr rfl) (de_lst (k := 1) (da_cons de_int da_nil))) (dss_cons (Γ1 := [0, 1, 0]) (ds_for (passes_of rfl) rfl (di_revd rfl U.n_reversed (de_var (pv 0))) (dg_name (pg_name (i := 2) sc_tail_sums.nd rfl (by first | exact Or.inl rfl | exact Or.inr rfl))) (dss_one (ds_app (pv 1) (de_op op_add p_i0 (de_ixN ix_seq p_ix (pv 1) (de_un un_neg p_u de_int)) (de_var (pv 2)))))) (dss_one (ds_ret (de_revN (k := 0) (pv 1))))))
theorem ok_Buyer___init__ (U : Txt K mg a) : FnOk P w K mg base (L2.CX P w) 2 a.f_Buyer___init__ a.d_Buyer___init__ ["self", "offer"] (spB K (tab a) 1 0 m_Buyer___init__) :=
  okB (Pk := [0]) (J := ⟨[1, 0, 0, 0, 0], [1, 0, 0, 0, 0], [1, 0, 0, 0, 0], [1, 0, 0, 0, 0], 0⟩) (Γ := [1, 0, 0, 0, 0]) U.fn_Buyer___init__ sc_Buyer___init__ rfl (by decide) rfl rfl (fun i h1 h2 => (by decide : ∀ i, i < 2 → 1 ≤ i → ([1, 0, 0, 0, 0] : List Nat).getD i 0 = 0) i h2 h1) rfl (by decide) rfl rfl fun cdv A outer s H E hr tk => (dss_cons (Γ1 := [1, 0, 0, 0, 0]) (ds_fldset (c := 2) (j := 0) U.cl_Buyer U.na_Buyer_under rfl fl_nd_2 fl_sm_2 (pv 0) (de_fn U.g_common_under (ok_common_under U) (hr.mono (by first | decide | omega)) tk rfl (da_cons (de_lc rfl sc_Buyer___init__.nd (P := [0, 1, 4]) (own := [("_", 2), ("worth", 3)]) (k := 0) (di_tup (de_fld U.fo_prizes (de_var (pv 1)))) (blkOk_by rfl) (fun _ _ _ _ _ => (dg_tup rfl (dgs_cons (dg_name (pg_name (i := 2) sc_Buyer___init__.nd rfl (by first | exact Or.inl rfl | exact Or.inr rfl))) (dgs_cons (dg_name (pg_name (i := 3) sc_Buyer___init__.nd rfl (by first | exact Or.inl rfl | exact Or.inr rfl))) dgs_nil)))) (fun _ _ _ _ _ => dts_nil) (fun _ _ _ _ _ => (de_var (pv 3)))) da_nil))) (dss_cons (Γ1 := [1, 0, 0, 0, 0]) (ds_fldset (c := 2) (j := 1) U.cl_Buyer U.na_Buyer_weights rfl fl_nd_2 fl_sm_2 (pv 0) (de_lc rfl sc_Buyer___init__.nd (P := [0, 1, 3]) (own := [("weight", 4), ("_", 2)]) (k := 0) (di_tup (de_fld U.fo_prizes (de_var (pv 1)))) (blkOk_by rfl) (fun _ _ _ _ _ => (dg_tup rfl (dgs_cons (dg_name (pg_name (i := 4) sc_Buyer___init__.nd rfl (by first | exact Or.inl rfl | exact Or.inr rfl))) (dgs_cons (dg_name (pg_name (i := 2) sc_Buyer___init__.nd rfl (by first | exact Or.inl rfl | exact Or.inr rfl))) dgs_nil)))) (fun _ _ _ _ _ => dts_nil) (fun _ _ _ _ _ => (de_var (pv 4))))) (dss_cons (Γ1 := [1, 0, 0, 0, 0]) (ds_fldset (c := 2) (j := 2) U.cl_Buyer U.na_Buyer_worths rfl fl_nd_2 fl_sm_2 (pv 0) (de_lc rfl sc_Buyer___init__.nd (P := [0, 1, 4]) (own := [("_", 2), ("worth", 3)]) (k := 0) (di_tup (de_fld U.fo_prizes (de_var (pv 1)))) (blkOk_by rfl) (fun _ _ _ _ _ => (dg_tup rfl (dgs_cons (dg_name (pg_name (i := 2) sc_Buyer___init__.nd rfl (by first | exact Or.inl rfl | exact Or.inr rfl))) (dgs_cons (dg_name (pg_name (i := 3) sc_Buyer___init__.nd rfl (by first | exact Or.inl rfl | exact Or.inr rfl))) dgs_nil)))) (fun _ _ _ _ _ => dts_nil) (fun _ _ _ _ _ => (de_fn U.g_scaled (ok_scaled U) (hr.mono (by first | decide | omega)) takes0 rfl (da_cons (de_var (pv 3)) (da_cons (de_fldN U.fo_under (pv 0)) da_nil)))))) (dss_one (ds_fldset (c := 2) (j := 3) U.cl_Buyer U.na_Buyer_tails rfl fl_nd_2 fl_sm_2 (pv 0) (de_fn U.g_tail_sums (ok_tail_sums U) (hr.mono (by first | decide | omega)) tk rfl (da_cons (de_fldN U.fo_weights (pv 0)) da_nil)))))))
theorem ok_Buyer_income (U : Txt K mg a) : FnOk P w K mg base (L2.CX P w) 1 a.f_Buyer_income a.d_Buyer_income ["self", "prize"] (spF K (tab a) 0 m_Buyer_income) :=
  okF (Pk := []) (J := ⟨[0, 0], [0, 0], [0, 0], [0, 0], 0⟩) (Γ := [0, 0]) U.fn_Buyer_income sc_Buyer_income rfl rfl (by decide) rfl fun cdv A outer s H E hr tk => (dss_one (ds_ret (de_op o_mul p_mul (de_ix ix_seq (Prim2P.to p_ix) (de_fld U.fo_worths (de_var (pv 0))) (de_var (pv 1))) (de_ix ix_seq (Prim2P.to p_ix) (de_fld U.fo_tails (de_var (pv 0))) (de_var (pv 1))))))
theorem ok_Buyer_income_points (U : Txt K mg a) : FnOk P w K mg base (L2.CX P w) 2 a.f_Buyer_income_points a.d_Buyer_income_points ["self"] (spF K (tab a) 0 m_Buyer_income_points) :=
  okF (Pk := []) (J := ⟨[0, 0, 0], [0, 0, 0], [0, 0, 0], [0, 0, 0], 0⟩) (Γ := [0, 0, 0]) U.fn_Buyer_income_points sc_Buyer_income_points rfl rfl (by decide) rfl fun cdv A outer s H E hr tk => (dss_cons (Γ1 := [0, 1, 0]) (ds_nm (i := 1) sc_Buyer_income_points.nd rfl (by first | exact Or.inl rfl | exact Or.inr rfl) (de_lst (k := 1) (da_cons (de_tup (k := 0) (da_cons de_int (da_cons de_int da_nil))) da_nil))) (dss_cons (Γ1 := [0, 1, 0]) (ds_for (passes_of rfl) rfl (di_range3 rfl U.n_range (da_cons (de_op op_sub p_i0 (de_callB o_len (Prim1.args (Prim1P.to p_len)) rfl U.n_len rfl (da_cons (de_fld U.fo_worths (de_var (pv 0))) da_nil)) de_int) (da_cons (de_un un_neg p_u de_int) (da_cons (de_un un_neg p_u de_int) da_nil)))) (dg_name (pg_name (i := 2) sc_Buyer_income_points.nd rfl (by first | exact Or.inl rfl | exact Or.inr rfl))) (dss_one (ds_app (pv 1) (de_tup (k := 0) (da_cons (de_ix ix_seq (Prim2P.to p_ix) (de_fld U.fo_tails (de_var (pv 0))) (de_var (pv 2))) (da_cons (de_meth (xd := []) rfl U.cl_Buyer U.me_Buyer_income no_2_income (ok_Buyer_income U) (hr.mono (by first | decide | omega)) tk U.b_Buyer_income .nil reps_nil (de_var (pv 0)) (da_cons (de_var (pv 2)) da_nil)) da_nil)))))) (dss_one (ds_ret (de_frz (pv 1))))))
theorem ok_bends_down (U : Txt K mg a) : FnOk P w K mg base (L2.CX P w) 1 a.f_bends_down a.d_bends_down ["one", "two", "three"] (spF K (tab a) 0 m_bends_down) :=
  okF (Pk := []) (J := ⟨[0, 0, 0, 0, 0], [0, 0, 0, 0, 0], [0, 0, 0, 0, 0], [0, 0, 0, 0, 0], 0⟩) (Γ := [0, 0, 0, 0, 0]) U.fn_bends_down sc_bends_down rfl rfl (by decide) rfl fun cdv A outer s H E hr tk => (dss_cons (Γ1 := [0, 0, 0, 0, 0]) (ds_nm (i := 3) sc_bends_down.nd rfl (by first | exact Or.inl rfl | exact Or.inr rfl) (de_op o_mul p_mul (de_op op_sub p_i0 (de_ix ix_seq (Prim2P.to p_ix) (de_var (pv 1)) de_int) (de_ix ix_seq (Prim2P.to p_ix) (de_var (pv 0)) de_int)) (de_op op_sub p_i0 (de_ix ix_seq (Prim2P.to p_ix) (de_var (pv 2)) de_int) (de_ix ix_seq (Prim2P.to p_ix) (de_var (pv 1)) de_int)))) (dss_cons (Γ1 := [0, 0, 0, 0, 0]) (ds_nm (i := 4) sc_bends_down.nd rfl (by first | exact Or.inl rfl | exact Or.inr rfl) (de_op o_mul p_mul (de_op op_sub p_i0 (de_ix ix_seq (Prim2P.to p_ix) (de_var (pv 2)) de_int) (de_ix ix_seq (Prim2P.to p_ix) (de_var (pv 1)) de_int)) (de_op op_sub p_i0 (de_ix ix_seq (Prim2P.to p_ix) (de_var (pv 1)) de_int) (de_ix ix_seq (Prim2P.to p_ix) (de_var (pv 0)) de_int)))) (dss_one (ds_ret (de_cmp op_gt p_ib (de_var (pv 3)) (de_var (pv 4)) rfl)))))
theorem ok_lid_places (U : Txt K mg a) : FnOk P w K mg base (L2.CX P w) 2 a.f_lid_places a.d_lid_places ["points"] (spF K (tab a) 0 m_lid_places) :=
  okF (Pk := []) (J := ⟨[0, 0, 0, 0], [0, 0, 0, 0], [0, 0, 0, 0], [0, 0, 0, 0], 0⟩) (Γ := [0, 0, 0, 0]) U.fn_lid_places sc_lid_places rfl rfl (by decide) rfl fun cdv A outer s H E hr tk => (dss_cons (Γ1 := [0, 1, 0, 0]) (ds_nm (i := 1) sc_lid_places.nd rfl (by first | exact Or.inl rfl | exact Or.inr rfl) (de_lst (k := 1) da_nil)) (dss_cons (Γ1 := [0, 1, 0, 0]) (ds_for (passes_of rfl) rfl (di_enum rfl U.n_enumerate (de_var (pv 0))) (dg_tup rfl (dgs_cons (dg_name (pg_name (i := 2) sc_lid_places.nd rfl (by first | exact Or.inl rfl | exact Or.inr rfl))) (dgs_cons (dg_name (pg_name (i := 3) sc_lid_places.nd rfl (by first | exact Or.inl rfl | exact Or.inr rfl))) dgs_nil))) (dss_cons (Γ1 := [0, 1, 0, 0]) (ds_while (n := 100) (passes_of rfl) (dt_w (dw_and (dt_cmp op_gt p_ib (de_callBN o_len p_len rfl U.n_len rfl (pv 1)) de_int rfl) (dw_and1 (dt_not (dt_val (de_fn U.g_bends_down (ok_bends_down U) (hr.mono (by first | decide | omega)) tk rfl (da_cons (de_ix ix_seq (Prim2P.to p_ix) (de_var (pv 0)) (de_ixN ix_seq p_ix (pv 1) (de_un un_neg p_u de_int))) (da_cons (de_ix ix_seq (Prim2P.to p_ix) (de_var (pv 0)) (de_ixN ix_seq p_ix (pv 1) (de_un un_neg p_u de_int))) (da_cons (de_var (pv 3)) da_nil))))))))) (dss_one (ds_drop (de_pop (pv 1))))) (dss_one (ds_app (pv 1) (de_var (pv 2)))))) (dss_one (ds_ret (de_frz (pv 1))))))
theorem ok_slope_parts (U : Txt K mg a) : FnOk P w K mg base (L2.CX P w) 1 a.f_slope_parts a.d_slope_parts ["points", "start", "end"] (spF K (tab a) 0 m_slope_parts) :=
  okF (Pk := []) (J := ⟨[0, 0, 0], [0, 0, 0], [0, 0, 0], [0, 0, 0], 0⟩) (Γ := [0, 0, 0]) U.fn_slope_parts sc_slope_parts rfl rfl (by decide) rfl fun cdv A outer s H E hr tk => (dss_one (ds_ret (de_tup (k := 0) (da_cons (de_op op_sub p_i0 (de_ix ix_seq (Prim2P.to p_ix) (de_ix ix_seq (Prim2P.to p_ix) (de_var (pv 0)) (de_var (pv 2))) de_int) (de_ix ix_seq (Prim2P.to p_ix) (de_ix ix_seq (Prim2P.to p_ix) (de_var (pv 0)) (de_var (pv 1))) de_int)) (da_cons (de_op op_sub p_i0 (de_ix ix_seq (Prim2P.to p_ix) (de_ix ix_seq (Prim2P.to p_ix) (de_var (pv 0)) (de_var (pv 2))) de_int) (de_ix ix_seq (Prim2P.to p_ix) (de_ix ix_seq (Prim2P.to p_ix) (de_var (pv 0)) (de_var (pv 1))) de_int)) da_nil)))))
theorem ok_Buyer_number (U : Txt K mg a) : FnOk P w K mg base (L2.CX P w) 4 a.f_Buyer_number a.d_Buyer_number ["self", "rise", "width"] (spF K (tab a) 0 m_Buyer_number) :=
  okF (Pk := []) (J := ⟨[0, 0, 0], [0, 0, 0], [0, 0, 0], [0, 0, 0], 0⟩) (Γ := [0, 0, 0]) U.fn_Buyer_number sc_Buyer_number rfl rfl (by decide) rfl fun cdv A outer s H E hr tk => (dss_one (ds_ret (de_sh (de_new (xd := []) rfl U.gc_Frac U.gd_Frac___init___0 (ok_Frac___init__ U) (hr.mono (by first | decide | omega)) tk rfl reps_nil (da_cons (de_var (pv 1)) (da_cons (de_op o_mul p_mul (de_var (pv 2)) (de_fld U.fo_under (de_var (pv 0)))) da_nil))))))
theorem ok_smooth_runs (U : Txt K mg a) : FnOk P w K mg base (L2.CX P w) 5 a.f_smooth_runs a.d_smooth_runs ["offer"] (spF K (tab a) 0 m_smooth_runs) :=
  okF (Pk := []) (J := ⟨[0, 0, 0, 0, 0, 0, 0, 0, 0, 0], [0, 0, 0, 0, 0, 0, 0, 0, 0, 0], [0, 0, 0, 0, 0, 0, 0, 0, 0, 0], [0, 0, 0, 0, 1, 0, 0, 0, 0, 0], 0⟩) (Γ := [0, 0, 0, 0, 0, 0, 0, 0, 0, 0]) U.fn_smooth_runs sc_smooth_runs rfl rfl (by decide) rfl fun cdv A outer s H E hr tk => (dss_cons (Γ1 := [0, 0, 0, 0, 0, 0, 0, 0, 0, 0]) (ds_nm (i := 1) sc_smooth_runs.nd rfl (by first | exact Or.inl rfl | exact Or.inr rfl) (de_sh (de_new (xd := []) rfl U.gc_Buyer U.gd_Buyer___init___0 (ok_Buyer___init__ U) (hr.mono (by first | decide | omega)) tk rfl reps_nil (da_cons (de_var (pv 0)) da_nil)))) (dss_cons (Γ1 := [0, 0, 0, 0, 0, 0, 0, 0, 0, 0]) (ds_nm (i := 2) sc_smooth_runs.nd rfl (by first | exact Or.inl rfl | exact Or.inr rfl) (de_meth0 (xd := []) rfl U.cl_Buyer U.me_Buyer_income_points no_2_income_points (ok_Buyer_income_points U) (hr.mono (by first | decide | omega)) tk U.b_Buyer_income_points .nil reps_nil (de_var (pv 1)))) (dss_cons (Γ1 := [0, 0, 0, 0, 0, 0, 0, 0, 0, 0]) (ds_nm (i := 3) sc_smooth_runs.nd rfl (by first | exact Or.inl rfl | exact Or.inr rfl) (de_fn U.g_lid_places (ok_lid_places U) (hr.mono (by first | decide | omega)) tk rfl (da_cons (de_var (pv 2)) da_nil))) (dss_cons (Γ1 := [0, 0, 0, 0, 1, 0, 0, 0, 0, 0]) (ds_nm (i := 4) sc_smooth_runs.nd rfl (by first | exact Or.inl rfl | exact Or.inr rfl) (de_lst (k := 1) da_nil)) (dss_cons (Γ1 := [0, 0, 0, 0, 1, 0, 0, 0, 0, 0]) (ds_for (passes_of rfl) rfl (di_range3 rfl U.n_range (da_cons (de_op op_sub p_i0 (de_callB o_len (Prim1.args (Prim1P.to p_len)) rfl U.n_len rfl (da_cons (de_var (pv 3)) da_nil)) de_int) (da_cons de_int (da_cons (de_un un_neg p_u de_int) da_nil)))) (dg_name (pg_name (i := 5) sc_smooth_runs.nd rfl (by first | exact Or.inl rfl | exact Or.inr rfl))) (dss_cons (Γ1 := [0, 0, 0, 0, 1, 0, 0, 0, 0, 0]) (ds_asg (de_fn U.g_slope_parts (ok_slope_parts U) (hr.mono (by first | decide | omega)) tk rfl (da_cons (de_var (pv 2)) (da_cons (de_ix ix_seq (Prim2P.to p_ix) (de_var (pv 3)) (de_op op_sub p_i0 (de_var (pv 5)) de_int)) (da_cons (de_ix ix_seq (Prim2P.to p_ix) (de_var (pv 3)) (de_var (pv 5))) da_nil)))) (dg_tup rfl (dgs_cons (dg_name (pg_name (i := 6) sc_smooth_runs.nd rfl (by first | exact Or.inl rfl | exact Or.inr rfl))) (dgs_cons (dg_name (pg_name (i := 7) sc_smooth_runs.nd rfl (by first | exact Or.inl rfl | exact Or.inr rfl))) dgs_nil)))) (dss_cons (Γ1 := [0, 0, 0, 0, 1, 0, 0, 0, 0, 0]) (ds_nm (i := 8) sc_smooth_runs.nd rfl (by first | exact Or.inl rfl | exact Or.inr rfl) (de_op op_sub p_i0 (de_op op_sub p_i0 (de_callB o_len (Prim1.args (Prim1P.to p_len)) rfl U.n_len rfl (da_cons (de_var (pv 2)) da_nil)) de_int) (de_ix ix_seq (Prim2P.to p_ix) (de_var (pv 3)) (de_var (pv 5))))) (dss_cons (Γ1 := [0, 0, 0, 0, 1, 0, 0, 0, 0, 0]) (ds_nm (i := 9) sc_smooth_runs.nd rfl (by first | exact Or.inl rfl | exact Or.inr rfl) (de_op op_sub p_i0 (de_op op_sub p_i0 (de_callB o_len (Prim1.args (Prim1P.to p_len)) rfl U.n_len rfl (da_cons (de_var (pv 2)) da_nil)) de_int) (de_ix ix_seq (Prim2P.to p_ix) (de_var (pv 3)) (de_op op_sub p_i0 (de_var (pv 5)) de_int)))) (dss_one (ds_app (pv 4) (de_tup (k := 0) (da_cons (de_var (pv 8)) (da_cons (de_var (pv 9)) (da_cons (de_meth (xd := []) rfl U.cl_Buyer U.me_Buyer_number no_2_number (ok_Buyer_number U) (hr.mono (by first | decide | omega)) tk U.b_Buyer_number .nil reps_nil (de_var (pv 1)) (da_cons (de_var (pv 6)) (da_cons (de_var (pv 7)) da_nil))) da_nil)))))))))) (dss_one (ds_ret (de_callTyN (k := 0) o_tuple p_tuple rfl U.n_tuple rfl (pv 4)))))))))
theorem ok_smooth_numbers (U : Txt K mg a) : FnOk P w K mg base (L2.CX P w) 6 a.f_smooth_numbers a.d_smooth_numbers ["offer"] (spF K (tab a) 0 m_smooth_numbers) :=
  okF (Pk := []) (J := ⟨[0, 0, 0, 0, 0, 0], [0, 0, 0, 0, 0, 0], [0, 0, 0, 0, 0, 0], [0, 1, 0, 0, 0, 0], 0⟩) (Γ := [0, 0, 0, 0, 0, 0]) U.fn_smooth_numbers sc_smooth_numbers rfl rfl (by decide) rfl fun cdv A outer s H E hr tk => (dss_cons (Γ1 := [0, 1, 0, 0, 0, 0]) (ds_nm (i := 1) sc_smooth_numbers.nd rfl (by first | exact Or.inl rfl | exact Or.inr rfl) (de_lst (k := 1) da_nil)) (dss_cons (Γ1 := [0, 1, 0, 0, 0, 0]) (ds_for (passes_of rfl) rfl (di_tup (de_fn U.g_smooth_runs (ok_smooth_runs U) (hr.mono (by first | decide | omega)) tk rfl (da_cons (de_var (pv 0)) da_nil))) (dg_tup rfl (dgs_cons (dg_name (pg_name (i := 2) sc_smooth_numbers.nd rfl (by first | exact Or.inl rfl | exact Or.inr rfl))) (dgs_cons (dg_name (pg_name (i := 3) sc_smooth_numbers.nd rfl (by first | exact Or.inl rfl | exact Or.inr rfl))) (dgs_cons (dg_name (pg_name (i := 4) sc_smooth_numbers.nd rfl (by first | exact Or.inl rfl | exact Or.inr rfl))) dgs_nil)))) (dss_one (ds_ext (pv 1) (.inl rfl) (de_lc rfl sc_smooth_numbers.nd (P := [0, 1, 2, 3, 4]) (own := [("_", 5)]) (k := 0) (di_range2 rfl U.n_range (da_cons (de_var (pv 2)) (da_cons (de_var (pv 3)) da_nil))) (blkOk_by rfl) (fun _ _ _ _ _ => (dg_name (pg_name (i := 5) sc_smooth_numbers.nd rfl (by first | exact Or.inl rfl | exact Or.inr rfl)))) (fun _ _ _ _ _ => dts_nil) (fun _ _ _ _ _ => (de_var (pv 4))))))) (dss_one (ds_ret (de_callTyN (k := 0) o_tuple p_tuple rfl U.n_tuple rfl (pv 1))))))
theorem ok_plain_numbers (U : Txt K mg a) : FnOk P w K mg base (L2.CX P w) 5 a.f_plain_numbers a.d_plain_numbers ["offer"] (spF K (tab a) 0 m_plain_numbers) :=
  okF (Pk := []) (J := ⟨[0, 0, 0, 0, 0, 0, 0], [0, 0, 0, 0, 0, 0, 0], [0, 0, 0, 0, 0, 0, 0], [0, 0, 0, 1, 0, 0, 0], 0⟩) (Γ := [0, 0, 0, 0, 0, 0, 0]) U.fn_plain_numbers sc_plain_numbers rfl rfl (by decide) rfl fun cdv A outer s H E hr tk => (dss_cons (Γ1 := [0, 0, 0, 0, 0, 0, 0]) (ds_nm (i := 1) sc_plain_numbers.nd rfl (by first | exact Or.inl rfl | exact Or.inr rfl) (de_sh (de_new (xd := []) rfl U.gc_Buyer U.gd_Buyer___init___0 (ok_Buyer___init__ U) (hr.mono (by first | decide | omega)) tk rfl reps_nil (da_cons (de_var (pv 0)) da_nil)))) (dss_cons (Γ1 := [0, 0, 0, 0, 0, 0, 0]) (ds_nm (i := 2) sc_plain_numbers.nd rfl (by first | exact Or.inl rfl | exact Or.inr rfl) (de_meth0 (xd := []) rfl U.cl_Buyer U.me_Buyer_income_points no_2_income_points (ok_Buyer_income_points U) (hr.mono (by first | decide | omega)) tk U.b_Buyer_income_points .nil reps_nil (de_var (pv 1)))) (dss_cons (Γ1 := [0, 0, 0, 1, 0, 0, 0]) (ds_nm (i := 3) sc_plain_numbers.nd rfl (by first | exact Or.inl rfl | exact Or.inr rfl) (de_lst (k := 1) da_nil)) (dss_cons (Γ1 := [0, 0, 0, 1, 0, 0, 0]) (ds_for (passes_of rfl) rfl (di_range3 rfl U.n_range (da_cons (de_op op_sub p_i0 (de_callB o_len (Prim1.args (Prim1P.to p_len)) rfl U.n_len rfl (da_cons (de_var (pv 2)) da_nil)) de_int) (da_cons de_int (da_cons (de_un un_neg p_u de_int) da_nil)))) (dg_name (pg_name (i := 4) sc_plain_numbers.nd rfl (by first | exact Or.inl rfl | exact Or.inr rfl))) (dss_cons (Γ1 := [0, 0, 0, 1, 0, 0, 0]) (ds_asg (de_fn U.g_slope_parts (ok_slope_parts U) (hr.mono (by first | decide | omega)) tk rfl (da_cons (de_var (pv 2)) (da_cons (de_op op_sub p_i0 (de_var (pv 4)) de_int) (da_cons (de_var (pv 4)) da_nil)))) (dg_tup rfl (dgs_cons (dg_name (pg_name (i := 5) sc_plain_numbers.nd rfl (by first | exact Or.inl rfl | exact Or.inr rfl))) (dgs_cons (dg_name (pg_name (i := 6) sc_plain_numbers.nd rfl (by first | exact Or.inl rfl | exact Or.inr rfl))) dgs_nil)))) (dss_one (ds_app (pv 3) (de_meth (xd := []) rfl U.cl_Buyer U.me_Buyer_number no_2_number (ok_Buyer_number U) (hr.mono (by first | decide | omega)) tk U.b_Buyer_number .nil reps_nil (de_var (pv 1)) (da_cons (de_var (pv 5)) (da_cons (de_var (pv 6)) da_nil))))))) (dss_one (ds_ret (de_callTyN (k := 0) o_tuple p_tuple rfl U.n_tuple rfl (pv 3))))))))
theorem ok__law_numbers_hold (U : Txt K mg a) : FnOk P w K mg base (L2.CX P w) 11 a.f__law_numbers_hold a.d__law_numbers_hold ["rows", "form"] (spF K (tab a) 0 m__law_numbers_hold) :=
  okF (Pk := []) (J := ⟨[0, 0, 0, 0, 0, 0], [0, 0, 0, 0, 0, 0], [0, 0, 0, 0, 0, 0], [0, 0, 0, 0, 0, 0], 0⟩) (Γ := [0, 0, 0, 0, 0, 0]) U.fn__law_numbers_hold sc__law_numbers_hold rfl rfl (by decide) rfl fun cdv A outer s H E hr tk => (dss_cons (Γ1 := [0, 0, 0, 0, 0, 0]) (ds_nm (i := 2) sc__law_numbers_hold.nd rfl (by first | exact Or.inl rfl | exact Or.inr rfl) (de_fn U.g__law_lid (ok__law_lid U) (hr.mono (by first | decide | omega)) tk rfl (da_cons (de_var (pv 0)) da_nil))) (dss_cons (Γ1 := [0, 0, 0, 0, 0, 0]) (ds_nm (i := 3) sc__law_numbers_hold.nd rfl (by first | exact Or.inl rfl | exact Or.inr rfl) (de_fn U.g__law_plain (ok__law_plain U) (hr.mono (by first | decide | omega)) tk rfl (da_cons (de_var (pv 0)) da_nil))) (dss_cons (Γ1 := [0, 0, 0, 0, 0, 0]) (ds_if (dt_cmp op_ne p_ne (de_fn U.g__law_rise (ok__law_rise U) (hr.mono (by first | decide | omega)) tk rfl (da_cons (de_var (pv 3)) da_nil)) (de_fn U.g__law_alike (ok__law_alike U) (hr.mono (by first | decide | omega)) tk rfl (da_cons (de_var (pv 2)) (da_cons (de_var (pv 3)) da_nil))) rfl) (dss_one (ds_ret de_bl)) dss_nil) (dss_cons (Γ1 := [0, 0, 0, 0, 0, 0]) (ds_nm (i := 4) sc__law_numbers_hold.nd rfl (by first | exact Or.inl rfl | exact Or.inr rfl) (de_fn U.g__law_built (ok__law_built U) (hr.mono (by first | decide | omega)) tk rfl (da_cons (de_var (pv 0)) (da_cons (de_var (pv 1)) da_nil)))) (dss_cons (Γ1 := [0, 0, 0, 0, 0, 0]) (ds_if (dt_not (dt_val (de_fn U.g__law_fits (ok__law_fits U 4) (hr.mono (by first | decide | omega)) tk rfl (da_cons (de_fn U.g_smooth_numbers (ok_smooth_numbers U) (hr.mono (by first | decide | omega)) tk rfl (da_cons (de_var (pv 4)) da_nil)) (da_cons (de_callTy (k := 0) o_tuple (Prim1.args (Prim1P.to p_tuple)) rfl U.n_tuple rfl (da_cons (de_lc rfl sc__law_numbers_hold.nd (P := [0, 1, 2, 3, 4]) (own := [("pair", 5)]) (k := 0) (di_list (de_var (pv 2))) (blkOk_by rfl) (fun _ _ _ _ _ => (dg_name (pg_name (i := 5) sc__law_numbers_hold.nd rfl (by first | exact Or.inl rfl | exact Or.inr rfl)))) (fun _ _ _ _ _ => dts_nil) (fun _ _ _ _ _ => (de_callTy (k := 0) o_list (Prim1.args (Prim1P.to p_list)) rfl U.n_list rfl (da_cons (de_var (pv 5)) da_nil)))) da_nil)) da_nil))))) (dss_one (ds_ret de_bl)) dss_nil) (dss_cons (Γ1 := [0, 0, 0, 0, 0, 0]) (ds_if (dt_not (dt_val (de_fn U.g__law_fits (ok__law_fits U 4) (hr.mono (by first | decide | omega)) tk rfl (da_cons (de_fn U.g_plain_numbers (ok_plain_numbers U) (hr.mono (by first | decide | omega)) tk rfl (da_cons (de_var (pv 4)) da_nil)) (da_cons (de_callTy (k := 0) o_tuple (Prim1.args (Prim1P.to p_tuple)) rfl U.n_tuple rfl (da_cons (de_lc rfl sc__law_numbers_hold.nd (P := [0, 1, 2, 3, 4]) (own := [("pair", 5)]) (k := 0) (di_list (de_var (pv 3))) (blkOk_by rfl) (fun _ _ _ _ _ => (dg_name (pg_name (i := 5) sc__law_numbers_hold.nd rfl (by first | exact Or.inl rfl | exact Or.inr rfl)))) (fun _ _ _ _ _ => dts_nil) (fun _ _ _ _ _ => (de_callTy (k := 0) o_list (Prim1.args (Prim1P.to p_list)) rfl U.n_list rfl (da_cons (de_var (pv 5)) da_nil)))) da_nil)) da_nil))))) (dss_one (ds_ret de_bl)) dss_nil) (dss_one (ds_ret (de_fn U.g__law_fits (ok__law_fits U 4) (hr.mono (by first | decide | omega)) tk rfl (da_cons (de_fnK rfl U.g_smooth_numbers U.kw_smooth_numbers_offer (ok_smooth_numbers U) (hr.mono (by first | decide | omega)) tk rfl (dk_cons (de_fn U.g__law_built (ok__law_built U) (hr.mono (by first | decide | omega)) tk rfl (da_cons (de_var (pv 0)) (da_cons (de_op op_sub p_i0 de_int (de_var (pv 1))) da_nil))) dk_nil)) (da_cons (de_callTy (k := 0) o_tuple (Prim1.args (Prim1P.to p_tuple)) rfl U.n_tuple rfl (da_cons (de_lc rfl sc__law_numbers_hold.nd (P := [0, 1, 2, 3, 4]) (own := [("pair", 5)]) (k := 0) (di_list (de_var (pv 2))) (blkOk_by rfl) (fun _ _ _ _ _ => (dg_name (pg_name (i := 5) sc__law_numbers_hold.nd rfl (by first | exact Or.inl rfl | exact Or.inr rfl)))) (fun _ _ _ _ _ => dts_nil) (fun _ _ _ _ _ => (de_callTy (k := 0) o_list (Prim1.args (Prim1P.to p_list)) rfl U.n_list rfl (da_cons (de_var (pv 5)) da_nil)))) da_nil)) da_nil)))))))))))
theorem ok__law_asked (U : Txt K mg a) : FnOk P w K mg base (L2.CX P w) 12 a.f__law_asked a.d__law_asked ["script"] (spF K (tab a) 0 m__law_asked) :=
  okF (Pk := []) (J := ⟨[0, 0, 0, 0, 0], [0, 0, 0, 0, 0], [0, 0, 0, 0, 0], [0, 1, 0, 0, 0], 0⟩) (Γ := [0, 0, 0, 0, 0]) U.fn__law_asked sc__law_asked rfl rfl (by decide) rfl fun cdv A outer s H E hr tk => (dss_cons (Γ1 := [0, 1, 0, 0, 0]) (ds_nm (i := 1) sc__law_asked.nd rfl (by first | exact Or.inl rfl | exact Or.inr rfl) (de_lst (k := 1) (da_cons (de_callTy (k := 0) o_list (Prim1.args (Prim1P.to p_list)) rfl U.n_list rfl (da_cons (de_var (pv 0)) da_nil)) (da_cons de_int (da_cons de_int (da_cons de_int da_nil)))))) (dss_cons (Γ1 := [0, 1, 0, 0, 0]) (ds_nm (i := 2) sc__law_asked.nd rfl (by first | exact Or.inl rfl | exact Or.inr rfl) (de_fnB U.g__law_offer (ok__law_offer U) (hr.mono (by first | decide | omega)) tk rfl (pv 1) (da_cons de_int (da_cons de_int da_nil)))) (dss_cons (Γ1 := [0, 1, 0, 0, 0]) (ds_nm (i := 3) sc__law_asked.nd rfl (by first | exact Or.inl rfl | exact Or.inr rfl) (de_fnB U.g__law_offer (ok__law_offer U) (hr.mono (by first | decide | omega)) tk rfl (pv 1) (da_cons de_int (da_cons de_int da_nil)))) (dss_cons (Γ1 := [0, 1, 0, 0, 0]) (ds_nm (i := 4) sc__law_asked.nd rfl (by first | exact Or.inl rfl | exact Or.inr rfl) (de_fnB U.g__law_pick (ok__law_pick U) (hr.mono (by first | decide | omega)) tk rfl (pv 1) (da_cons de_int da_nil))) (dss_one (ds_ret (de_and (de_fn U.g__law_numbers_hold (ok__law_numbers_hold U) (hr.mono (by first | decide | omega)) tk rfl (da_cons (de_var (pv 2)) (da_cons (de_var (pv 4)) da_nil))) (de_and (de_fn U.g__law_numbers_hold (ok__law_numbers_hold U) (hr.mono (by first | decide | omega)) tk rfl (da_cons (de_var (pv 3)) (da_cons (de_op op_sub p_i0 de_int (de_var (pv 4))) da_nil))) (de_one (de_fn U.g__law_numbers_hold (ok__law_numbers_hold U) (hr.mono (by first | decide | omega)) tk rfl (da_cons (de_var (pv 2)) (da_cons (de_op op_sub p_i0 de_int (de_var (pv 4))) da_nil))))))))))))
theorem ok_law (U : Txt K mg a) : FnOk P w K mg base (L2.CX P w) 13 a.f_law a.d_law ["script"] (spF K (tab a) 0 m_law) :=
  okF (Pk := []) (J := ⟨[0], [0], [0], [0], 0⟩) (Γ := [0]) U.fn_law sc_law rfl rfl (by decide) rfl fun cdv A outer s H E hr tk => (dss_one (ds_try (dss_one (ds_ret (de_fn U.g__law_asked (ok__law_asked U) (hr.mono (by first | decide | omega)) takes0 rfl (da_cons (de_var (pv 0)) da_nil))))))
end
set_option maxHeartbeats 4000000 in
theorem all_mk {l : PySem.W.OpenLaw} {w : World} {K : PySem.W.Frag} {h : Heap} {mg : Str → Option Value} {fa : Addr} {c_Frac c_Offer c_Buyer f__law_pick f__law_gcd f__law_lowest f__law_level f__law_weights f__law_offer f__law_common f__law_worths f__law_tails f__law_lid f__law_plain f__law_rise f__law_alike f_is_integer f_Frac___init__ f__law_given f_is_sequence f_is_between f_as_frac f_is_amount f_is_prize f_Frac_is_below f_kept_prizes f_Offer___init__ f__law_built f__law_whole f__law_frac f__law_fits f_common_under f_scaled f_tail_sums f_Buyer___init__ f_Buyer_income f_Buyer_income_points f_bends_down f_lid_places f_slope_parts f_Buyer_number f_smooth_runs f_smooth_numbers f_plain_numbers f__law_numbers_hold f__law_asked f_law : Addr} (hlaw : ∀ ns : List Int, ns.length ≤ 63 → m_law [.kls (ns.map D.int)] = .ok (.bl true)) (X : K.In h) (G : h.Ns mainGlobals mg) (hfa : mg "law" = some (.ref fa))
    {od__law_pick an__law_pick : Option Addr} {sl__law_pick : Array (Option Value)} {oc__law_pick kV__law_pick dc__law_pick pm__law_pick cd__law_pick ct__law_pick : Value}
    {od__law_gcd an__law_gcd : Option Addr} {sl__law_gcd : Array (Option Value)} {oc__law_gcd kV__law_gcd dc__law_gcd pm__law_gcd cd__law_gcd ct__law_gcd : Value}
    {od__law_lowest an__law_lowest : Option Addr} {sl__law_lowest : Array (Option Value)} {oc__law_lowest kV__law_lowest dc__law_lowest pm__law_lowest cd__law_lowest ct__law_lowest : Value}
    {od__law_level an__law_level : Option Addr} {sl__law_level : Array (Option Value)} {oc__law_level kV__law_level dc__law_level pm__law_level cd__law_level ct__law_level : Value}
    {od__law_weights an__law_weights : Option Addr} {sl__law_weights : Array (Option Value)} {oc__law_weights kV__law_weights dc__law_weights pm__law_weights cd__law_weights ct__law_weights : Value}
    {od__law_offer an__law_offer : Option Addr} {sl__law_offer : Array (Option Value)} {oc__law_offer kV__law_offer dc__law_offer pm__law_offer cd__law_offer ct__law_offer : Value}
    {od__law_common an__law_common : Option Addr} {sl__law_common : Array (Option Value)} {oc__law_common kV__law_common dc__law_common pm__law_common cd__law_common ct__law_common : Value}
    {od__law_worths an__law_worths : Option Addr} {sl__law_worths : Array (Option Value)} {oc__law_worths kV__law_worths dc__law_worths pm__law_worths cd__law_worths ct__law_worths : Value}
    {od__law_tails an__law_tails : Option Addr} {sl__law_tails : Array (Option Value)} {oc__law_tails kV__law_tails dc__law_tails pm__law_tails cd__law_tails ct__law_tails : Value}
    {od__law_lid an__law_lid : Option Addr} {sl__law_lid : Array (Option Value)} {oc__law_lid kV__law_lid dc__law_lid pm__law_lid cd__law_lid ct__law_lid : Value}
    {od__law_plain an__law_plain : Option Addr} {sl__law_plain : Array (Option Value)} {oc__law_plain kV__law_plain dc__law_plain pm__law_plain cd__law_plain ct__law_plain : Value}
    {od__law_rise an__law_rise : Option Addr} {sl__law_rise : Array (Option Value)} {oc__law_rise kV__law_rise dc__law_rise pm__law_rise cd__law_rise ct__law_rise : Value}
    {od__law_alike an__law_alike : Option Addr} {sl__law_alike : Array (Option Value)} {oc__law_alike kV__law_alike dc__law_alike pm__law_alike cd__law_alike ct__law_alike : Value}
    {od_is_integer an_is_integer : Option Addr} {sl_is_integer : Array (Option Value)} {oc_is_integer kV_is_integer dc_is_integer pm_is_integer cd_is_integer ct_is_integer : Value}
    {od_Frac___init__ an_Frac___init__ : Option Addr} {sl_Frac___init__ : Array (Option Value)} {oc_Frac___init__ kV_Frac___init__ dc_Frac___init__ pm_Frac___init__ cd_Frac___init__ ct_Frac___init__ : Value}
    {t_Frac___init__ : Addr} {td_Frac___init__ : Option Addr} {ts_Frac___init__ : Array (Option Value)} {tc_Frac___init__ : Value} {tj_Frac___init__ : Tok} {tn_Frac___init__ : Nat}
    {od__law_given an__law_given : Option Addr} {sl__law_given : Array (Option Value)} {oc__law_given kV__law_given dc__law_given pm__law_given cd__law_given ct__law_given : Value}
    {od_is_sequence an_is_sequence : Option Addr} {sl_is_sequence : Array (Option Value)} {oc_is_sequence kV_is_sequence dc_is_sequence pm_is_sequence cd_is_sequence ct_is_sequence : Value}
    {od_is_between an_is_between : Option Addr} {sl_is_between : Array (Option Value)} {oc_is_between kV_is_between dc_is_between pm_is_between cd_is_between ct_is_between : Value}
    {od_as_frac an_as_frac : Option Addr} {sl_as_frac : Array (Option Value)} {oc_as_frac kV_as_frac dc_as_frac pm_as_frac cd_as_frac ct_as_frac : Value}
    {od_is_amount an_is_amount : Option Addr} {sl_is_amount : Array (Option Value)} {oc_is_amount kV_is_amount dc_is_amount pm_is_amount cd_is_amount ct_is_amount : Value}
    {od_is_prize an_is_prize : Option Addr} {sl_is_prize : Array (Option Value)} {oc_is_prize kV_is_prize dc_is_prize pm_is_prize cd_is_prize ct_is_prize : Value}
    {od_Frac_is_below an_Frac_is_below : Option Addr} {sl_Frac_is_below : Array (Option Value)} {oc_Frac_is_below kV_Frac_is_below dc_Frac_is_below pm_Frac_is_below cd_Frac_is_below ct_Frac_is_below : Value}
    {od_kept_prizes an_kept_prizes : Option Addr} {sl_kept_prizes : Array (Option Value)} {oc_kept_prizes kV_kept_prizes dc_kept_prizes pm_kept_prizes cd_kept_prizes ct_kept_prizes : Value}
    {od_Offer___init__ an_Offer___init__ : Option Addr} {sl_Offer___init__ : Array (Option Value)} {oc_Offer___init__ kV_Offer___init__ dc_Offer___init__ pm_Offer___init__ cd_Offer___init__ ct_Offer___init__ : Value}
    {od__law_built an__law_built : Option Addr} {sl__law_built : Array (Option Value)} {oc__law_built kV__law_built dc__law_built pm__law_built cd__law_built ct__law_built : Value}
    {od__law_whole an__law_whole : Option Addr} {sl__law_whole : Array (Option Value)} {oc__law_whole kV__law_whole dc__law_whole pm__law_whole cd__law_whole ct__law_whole : Value}
    {od__law_frac an__law_frac : Option Addr} {sl__law_frac : Array (Option Value)} {oc__law_frac kV__law_frac dc__law_frac pm__law_frac cd__law_frac ct__law_frac : Value}
    {od__law_fits an__law_fits : Option Addr} {sl__law_fits : Array (Option Value)} {oc__law_fits kV__law_fits dc__law_fits pm__law_fits cd__law_fits ct__law_fits : Value}
    {od_common_under an_common_under : Option Addr} {sl_common_under : Array (Option Value)} {oc_common_under kV_common_under dc_common_under pm_common_under cd_common_under ct_common_under : Value}
    {od_scaled an_scaled : Option Addr} {sl_scaled : Array (Option Value)} {oc_scaled kV_scaled dc_scaled pm_scaled cd_scaled ct_scaled : Value}
    {od_tail_sums an_tail_sums : Option Addr} {sl_tail_sums : Array (Option Value)} {oc_tail_sums kV_tail_sums dc_tail_sums pm_tail_sums cd_tail_sums ct_tail_sums : Value}
    {od_Buyer___init__ an_Buyer___init__ : Option Addr} {sl_Buyer___init__ : Array (Option Value)} {oc_Buyer___init__ kV_Buyer___init__ dc_Buyer___init__ pm_Buyer___init__ cd_Buyer___init__ ct_Buyer___init__ : Value}
    {od_Buyer_income an_Buyer_income : Option Addr} {sl_Buyer_income : Array (Option Value)} {oc_Buyer_income kV_Buyer_income dc_Buyer_income pm_Buyer_income cd_Buyer_income ct_Buyer_income : Value}
    {od_Buyer_income_points an_Buyer_income_points : Option Addr} {sl_Buyer_income_points : Array (Option Value)} {oc_Buyer_income_points kV_Buyer_income_points dc_Buyer_income_points pm_Buyer_income_points cd_Buyer_income_points ct_Buyer_income_points : Value}
    {od_bends_down an_bends_down : Option Addr} {sl_bends_down : Array (Option Value)} {oc_bends_down kV_bends_down dc_bends_down pm_bends_down cd_bends_down ct_bends_down : Value}
    {od_lid_places an_lid_places : Option Addr} {sl_lid_places : Array (Option Value)} {oc_lid_places kV_lid_places dc_lid_places pm_lid_places cd_lid_places ct_lid_places : Value}
    {od_slope_parts an_slope_parts : Option Addr} {sl_slope_parts : Array (Option Value)} {oc_slope_parts kV_slope_parts dc_slope_parts pm_slope_parts cd_slope_parts ct_slope_parts : Value}
    {od_Buyer_number an_Buyer_number : Option Addr} {sl_Buyer_number : Array (Option Value)} {oc_Buyer_number kV_Buyer_number dc_Buyer_number pm_Buyer_number cd_Buyer_number ct_Buyer_number : Value}
    {od_smooth_runs an_smooth_runs : Option Addr} {sl_smooth_runs : Array (Option Value)} {oc_smooth_runs kV_smooth_runs dc_smooth_runs pm_smooth_runs cd_smooth_runs ct_smooth_runs : Value}
    {od_smooth_numbers an_smooth_numbers : Option Addr} {sl_smooth_numbers : Array (Option Value)} {oc_smooth_numbers kV_smooth_numbers dc_smooth_numbers pm_smooth_numbers cd_smooth_numbers ct_smooth_numbers : Value}
    {od_plain_numbers an_plain_numbers : Option Addr} {sl_plain_numbers : Array (Option Value)} {oc_plain_numbers kV_plain_numbers dc_plain_numbers pm_plain_numbers cd_plain_numbers ct_plain_numbers : Value}
    {od__law_numbers_hold an__law_numbers_hold : Option Addr} {sl__law_numbers_hold : Array (Option Value)} {oc__law_numbers_hold kV__law_numbers_hold dc__law_numbers_hold pm__law_numbers_hold cd__law_numbers_hold ct__law_numbers_hold : Value}
    {od__law_asked an__law_asked : Option Addr} {sl__law_asked : Array (Option Value)} {oc__law_asked kV__law_asked dc__law_asked pm__law_asked cd__law_asked ct__law_asked : Value}
    {od_law an_law : Option Addr} {sl_law : Array (Option Value)} {oc_law kV_law dc_law pm_law cd_law ct_law : Value}
    {tk_MOST_OVER : Tok}
    {tk_MOST_UNDER : Tok}
    {tk_MOST_WEIGHT : Tok}
    {tk_MOST_PRIZES : Tok}
    (hc_Frac : PySem.W.nsIn K mainGlobals "Frac" = some (some (.ref c_Frac)))
    (hc_Offer : PySem.W.nsIn K mainGlobals "Offer" = some (some (.ref c_Offer)))
    (hc_Buyer : PySem.W.nsIn K mainGlobals "Buyer" = some (some (.ref c_Buyer)))
    (a__law_pick : PySem.W.nsIn K mainGlobals "_law_pick" = some (some (.ref f__law_pick)))
    (l__law_pick : K.lookup f__law_pick = some ⟨oc__law_pick, od__law_pick, .func (PySem.W.fnOf "_law_pick" "_law_pick" (defArgs s__law_pick) (defBody s__law_pick) (defScope s__law_pick) .none kV__law_pick dc__law_pick pm__law_pick an__law_pick cd__law_pick ct__law_pick), sl__law_pick⟩)
    (c__law_pick : PySem.W.codeIn K cd__law_pick "_law_pick" = true)
    (k__law_pick : PySem.W.keepIn K (.ref f__law_pick) = true)
    (a__law_gcd : PySem.W.nsIn K mainGlobals "_law_gcd" = some (some (.ref f__law_gcd)))
    (l__law_gcd : K.lookup f__law_gcd = some ⟨oc__law_gcd, od__law_gcd, .func (PySem.W.fnOf "_law_gcd" "_law_gcd" (defArgs s__law_gcd) (defBody s__law_gcd) (defScope s__law_gcd) .none kV__law_gcd dc__law_gcd pm__law_gcd an__law_gcd cd__law_gcd ct__law_gcd), sl__law_gcd⟩)
    (c__law_gcd : PySem.W.codeIn K cd__law_gcd "_law_gcd" = true)
    (k__law_gcd : PySem.W.keepIn K (.ref f__law_gcd) = true)
    (a__law_lowest : PySem.W.nsIn K mainGlobals "_law_lowest" = some (some (.ref f__law_lowest)))
    (l__law_lowest : K.lookup f__law_lowest = some ⟨oc__law_lowest, od__law_lowest, .func (PySem.W.fnOf "_law_lowest" "_law_lowest" (defArgs s__law_lowest) (defBody s__law_lowest) (defScope s__law_lowest) .none kV__law_lowest dc__law_lowest pm__law_lowest an__law_lowest cd__law_lowest ct__law_lowest), sl__law_lowest⟩)
    (c__law_lowest : PySem.W.codeIn K cd__law_lowest "_law_lowest" = true)
    (k__law_lowest : PySem.W.keepIn K (.ref f__law_lowest) = true)
    (a__law_level : PySem.W.nsIn K mainGlobals "_law_level" = some (some (.ref f__law_level)))
    (l__law_level : K.lookup f__law_level = some ⟨oc__law_level, od__law_level, .func (PySem.W.fnOf "_law_level" "_law_level" (defArgs s__law_level) (defBody s__law_level) (defScope s__law_level) .none kV__law_level dc__law_level pm__law_level an__law_level cd__law_level ct__law_level), sl__law_level⟩)
    (c__law_level : PySem.W.codeIn K cd__law_level "_law_level" = true)
    (k__law_level : PySem.W.keepIn K (.ref f__law_level) = true)
    (a__law_weights : PySem.W.nsIn K mainGlobals "_law_weights" = some (some (.ref f__law_weights)))
    (l__law_weights : K.lookup f__law_weights = some ⟨oc__law_weights, od__law_weights, .func (PySem.W.fnOf "_law_weights" "_law_weights" (defArgs s__law_weights) (defBody s__law_weights) (defScope s__law_weights) .none kV__law_weights dc__law_weights pm__law_weights an__law_weights cd__law_weights ct__law_weights), sl__law_weights⟩)
    (c__law_weights : PySem.W.codeIn K cd__law_weights "_law_weights" = true)
    (k__law_weights : PySem.W.keepIn K (.ref f__law_weights) = true)
    (a__law_offer : PySem.W.nsIn K mainGlobals "_law_offer" = some (some (.ref f__law_offer)))
    (l__law_offer : K.lookup f__law_offer = some ⟨oc__law_offer, od__law_offer, .func (PySem.W.fnOf "_law_offer" "_law_offer" (defArgs s__law_offer) (defBody s__law_offer) (defScope s__law_offer) .none kV__law_offer dc__law_offer pm__law_offer an__law_offer cd__law_offer ct__law_offer), sl__law_offer⟩)
    (c__law_offer : PySem.W.codeIn K cd__law_offer "_law_offer" = true)
    (k__law_offer : PySem.W.keepIn K (.ref f__law_offer) = true)
    (a__law_common : PySem.W.nsIn K mainGlobals "_law_common" = some (some (.ref f__law_common)))
    (l__law_common : K.lookup f__law_common = some ⟨oc__law_common, od__law_common, .func (PySem.W.fnOf "_law_common" "_law_common" (defArgs s__law_common) (defBody s__law_common) (defScope s__law_common) .none kV__law_common dc__law_common pm__law_common an__law_common cd__law_common ct__law_common), sl__law_common⟩)
    (c__law_common : PySem.W.codeIn K cd__law_common "_law_common" = true)
    (k__law_common : PySem.W.keepIn K (.ref f__law_common) = true)
    (a__law_worths : PySem.W.nsIn K mainGlobals "_law_worths" = some (some (.ref f__law_worths)))
    (l__law_worths : K.lookup f__law_worths = some ⟨oc__law_worths, od__law_worths, .func (PySem.W.fnOf "_law_worths" "_law_worths" (defArgs s__law_worths) (defBody s__law_worths) (defScope s__law_worths) .none kV__law_worths dc__law_worths pm__law_worths an__law_worths cd__law_worths ct__law_worths), sl__law_worths⟩)
    (c__law_worths : PySem.W.codeIn K cd__law_worths "_law_worths" = true)
    (k__law_worths : PySem.W.keepIn K (.ref f__law_worths) = true)
    (a__law_tails : PySem.W.nsIn K mainGlobals "_law_tails" = some (some (.ref f__law_tails)))
    (l__law_tails : K.lookup f__law_tails = some ⟨oc__law_tails, od__law_tails, .func (PySem.W.fnOf "_law_tails" "_law_tails" (defArgs s__law_tails) (defBody s__law_tails) (defScope s__law_tails) .none kV__law_tails dc__law_tails pm__law_tails an__law_tails cd__law_tails ct__law_tails), sl__law_tails⟩)
    (c__law_tails : PySem.W.codeIn K cd__law_tails "_law_tails" = true)
    (k__law_tails : PySem.W.keepIn K (.ref f__law_tails) = true)
    (a__law_lid : PySem.W.nsIn K mainGlobals "_law_lid" = some (some (.ref f__law_lid)))
    (l__law_lid : K.lookup f__law_lid = some ⟨oc__law_lid, od__law_lid, .func (PySem.W.fnOf "_law_lid" "_law_lid" (defArgs s__law_lid) (defBody s__law_lid) (defScope s__law_lid) .none kV__law_lid dc__law_lid pm__law_lid an__law_lid cd__law_lid ct__law_lid), sl__law_lid⟩)
    (c__law_lid : PySem.W.codeIn K cd__law_lid "_law_lid" = true)
    (k__law_lid : PySem.W.keepIn K (.ref f__law_lid) = true)
    (a__law_plain : PySem.W.nsIn K mainGlobals "_law_plain" = some (some (.ref f__law_plain)))
    (l__law_plain : K.lookup f__law_plain = some ⟨oc__law_plain, od__law_plain, .func (PySem.W.fnOf "_law_plain" "_law_plain" (defArgs s__law_plain) (defBody s__law_plain) (defScope s__law_plain) .none kV__law_plain dc__law_plain pm__law_plain an__law_plain cd__law_plain ct__law_plain), sl__law_plain⟩)
    (c__law_plain : PySem.W.codeIn K cd__law_plain "_law_plain" = true)
    (k__law_plain : PySem.W.keepIn K (.ref f__law_plain) = true)
    (a__law_rise : PySem.W.nsIn K mainGlobals "_law_rise" = some (some (.ref f__law_rise)))
    (l__law_rise : K.lookup f__law_rise = some ⟨oc__law_rise, od__law_rise, .func (PySem.W.fnOf "_law_rise" "_law_rise" (defArgs s__law_rise) (defBody s__law_rise) (defScope s__law_rise) .none kV__law_rise dc__law_rise pm__law_rise an__law_rise cd__law_rise ct__law_rise), sl__law_rise⟩)
    (c__law_rise : PySem.W.codeIn K cd__law_rise "_law_rise" = true)
    (k__law_rise : PySem.W.keepIn K (.ref f__law_rise) = true)
    (a__law_alike : PySem.W.nsIn K mainGlobals "_law_alike" = some (some (.ref f__law_alike)))
    (l__law_alike : K.lookup f__law_alike = some ⟨oc__law_alike, od__law_alike, .func (PySem.W.fnOf "_law_alike" "_law_alike" (defArgs s__law_alike) (defBody s__law_alike) (defScope s__law_alike) .none kV__law_alike dc__law_alike pm__law_alike an__law_alike cd__law_alike ct__law_alike), sl__law_alike⟩)
    (c__law_alike : PySem.W.codeIn K cd__law_alike "_law_alike" = true)
    (k__law_alike : PySem.W.keepIn K (.ref f__law_alike) = true)
    (a_is_integer : PySem.W.nsIn K mainGlobals "is_integer" = some (some (.ref f_is_integer)))
    (l_is_integer : K.lookup f_is_integer = some ⟨oc_is_integer, od_is_integer, .func (PySem.W.fnOf "is_integer" "is_integer" (defArgs s_is_integer) (defBody s_is_integer) (defScope s_is_integer) .none kV_is_integer dc_is_integer pm_is_integer an_is_integer cd_is_integer ct_is_integer), sl_is_integer⟩)
    (c_is_integer : PySem.W.codeIn K cd_is_integer "is_integer" = true)
    (k_is_integer : PySem.W.keepIn K (.ref f_is_integer) = true)
    (a_Frac___init__ : PySem.W.findIn K (.ref c_Frac) "__init__" = some (some (.ref f_Frac___init__)))
    (i_Frac___init__ : PySem.W.isFn K (.ref f_Frac___init__) = true)
    (l_Frac___init__ : K.lookup f_Frac___init__ = some ⟨oc_Frac___init__, od_Frac___init__, .func (PySem.W.fnOf "__init__" "Frac.__init__" (defArgs s_Frac___init__) (defBody s_Frac___init__) (defScope s_Frac___init__) (.ref t_Frac___init__) kV_Frac___init__ dc_Frac___init__ pm_Frac___init__ an_Frac___init__ cd_Frac___init__ ct_Frac___init__), sl_Frac___init__⟩)
    (lt_Frac___init__ : K.lookup t_Frac___init__ = some ⟨tc_Frac___init__, td_Frac___init__, .seq #[.int 1 tj_Frac___init__] tn_Frac___init__, ts_Frac___init__⟩)
    (c_Frac___init__ : PySem.W.codeIn K cd_Frac___init__ "Frac.__init__" = true)
    (k_Frac___init__ : PySem.W.keepIn K (.ref f_Frac___init__) = true)
    (a__law_given : PySem.W.nsIn K mainGlobals "_law_given" = some (some (.ref f__law_given)))
    (l__law_given : K.lookup f__law_given = some ⟨oc__law_given, od__law_given, .func (PySem.W.fnOf "_law_given" "_law_given" (defArgs s__law_given) (defBody s__law_given) (defScope s__law_given) .none kV__law_given dc__law_given pm__law_given an__law_given cd__law_given ct__law_given), sl__law_given⟩)
    (c__law_given : PySem.W.codeIn K cd__law_given "_law_given" = true)
    (k__law_given : PySem.W.keepIn K (.ref f__law_given) = true)
    (a_is_sequence : PySem.W.nsIn K mainGlobals "is_sequence" = some (some (.ref f_is_sequence)))
    (l_is_sequence : K.lookup f_is_sequence = some ⟨oc_is_sequence, od_is_sequence, .func (PySem.W.fnOf "is_sequence" "is_sequence" (defArgs s_is_sequence) (defBody s_is_sequence) (defScope s_is_sequence) .none kV_is_sequence dc_is_sequence pm_is_sequence an_is_sequence cd_is_sequence ct_is_sequence), sl_is_sequence⟩)
    (c_is_sequence : PySem.W.codeIn K cd_is_sequence "is_sequence" = true)
    (k_is_sequence : PySem.W.keepIn K (.ref f_is_sequence) = true)
    (a_is_between : PySem.W.nsIn K mainGlobals "is_between" = some (some (.ref f_is_between)))
    (l_is_between : K.lookup f_is_between = some ⟨oc_is_between, od_is_between, .func (PySem.W.fnOf "is_between" "is_between" (defArgs s_is_between) (defBody s_is_between) (defScope s_is_between) .none kV_is_between dc_is_between pm_is_between an_is_between cd_is_between ct_is_between), sl_is_between⟩)
    (c_is_between : PySem.W.codeIn K cd_is_between "is_between" = true)
    (k_is_between : PySem.W.keepIn K (.ref f_is_between) = true)
    (a_as_frac : PySem.W.nsIn K mainGlobals "as_frac" = some (some (.ref f_as_frac)))
    (l_as_frac : K.lookup f_as_frac = some ⟨oc_as_frac, od_as_frac, .func (PySem.W.fnOf "as_frac" "as_frac" (defArgs s_as_frac) (defBody s_as_frac) (defScope s_as_frac) .none kV_as_frac dc_as_frac pm_as_frac an_as_frac cd_as_frac ct_as_frac), sl_as_frac⟩)
    (c_as_frac : PySem.W.codeIn K cd_as_frac "as_frac" = true)
    (k_as_frac : PySem.W.keepIn K (.ref f_as_frac) = true)
    (a_is_amount : PySem.W.nsIn K mainGlobals "is_amount" = some (some (.ref f_is_amount)))
    (l_is_amount : K.lookup f_is_amount = some ⟨oc_is_amount, od_is_amount, .func (PySem.W.fnOf "is_amount" "is_amount" (defArgs s_is_amount) (defBody s_is_amount) (defScope s_is_amount) .none kV_is_amount dc_is_amount pm_is_amount an_is_amount cd_is_amount ct_is_amount), sl_is_amount⟩)
    (c_is_amount : PySem.W.codeIn K cd_is_amount "is_amount" = true)
    (k_is_amount : PySem.W.keepIn K (.ref f_is_amount) = true)
    (a_is_prize : PySem.W.nsIn K mainGlobals "is_prize" = some (some (.ref f_is_prize)))
    (l_is_prize : K.lookup f_is_prize = some ⟨oc_is_prize, od_is_prize, .func (PySem.W.fnOf "is_prize" "is_prize" (defArgs s_is_prize) (defBody s_is_prize) (defScope s_is_prize) .none kV_is_prize dc_is_prize pm_is_prize an_is_prize cd_is_prize ct_is_prize), sl_is_prize⟩)
    (c_is_prize : PySem.W.codeIn K cd_is_prize "is_prize" = true)
    (k_is_prize : PySem.W.keepIn K (.ref f_is_prize) = true)
    (a_Frac_is_below : PySem.W.findIn K (.ref c_Frac) "is_below" = some (some (.ref f_Frac_is_below)))
    (i_Frac_is_below : PySem.W.isFn K (.ref f_Frac_is_below) = true)
    (l_Frac_is_below : K.lookup f_Frac_is_below = some ⟨oc_Frac_is_below, od_Frac_is_below, .func (PySem.W.fnOf "is_below" "Frac.is_below" (defArgs s_Frac_is_below) (defBody s_Frac_is_below) (defScope s_Frac_is_below) .none kV_Frac_is_below dc_Frac_is_below pm_Frac_is_below an_Frac_is_below cd_Frac_is_below ct_Frac_is_below), sl_Frac_is_below⟩)
    (c_Frac_is_below : PySem.W.codeIn K cd_Frac_is_below "Frac.is_below" = true)
    (k_Frac_is_below : PySem.W.keepIn K (.ref f_Frac_is_below) = true)
    (a_kept_prizes : PySem.W.nsIn K mainGlobals "kept_prizes" = some (some (.ref f_kept_prizes)))
    (l_kept_prizes : K.lookup f_kept_prizes = some ⟨oc_kept_prizes, od_kept_prizes, .func (PySem.W.fnOf "kept_prizes" "kept_prizes" (defArgs s_kept_prizes) (defBody s_kept_prizes) (defScope s_kept_prizes) .none kV_kept_prizes dc_kept_prizes pm_kept_prizes an_kept_prizes cd_kept_prizes ct_kept_prizes), sl_kept_prizes⟩)
    (c_kept_prizes : PySem.W.codeIn K cd_kept_prizes "kept_prizes" = true)
    (k_kept_prizes : PySem.W.keepIn K (.ref f_kept_prizes) = true)
    (a_Offer___init__ : PySem.W.findIn K (.ref c_Offer) "__init__" = some (some (.ref f_Offer___init__)))
    (i_Offer___init__ : PySem.W.isFn K (.ref f_Offer___init__) = true)
    (l_Offer___init__ : K.lookup f_Offer___init__ = some ⟨oc_Offer___init__, od_Offer___init__, .func (PySem.W.fnOf "__init__" "Offer.__init__" (defArgs s_Offer___init__) (defBody s_Offer___init__) (defScope s_Offer___init__) .none kV_Offer___init__ dc_Offer___init__ pm_Offer___init__ an_Offer___init__ cd_Offer___init__ ct_Offer___init__), sl_Offer___init__⟩)
    (c_Offer___init__ : PySem.W.codeIn K cd_Offer___init__ "Offer.__init__" = true)
    (k_Offer___init__ : PySem.W.keepIn K (.ref f_Offer___init__) = true)
    (a__law_built : PySem.W.nsIn K mainGlobals "_law_built" = some (some (.ref f__law_built)))
    (l__law_built : K.lookup f__law_built = some ⟨oc__law_built, od__law_built, .func (PySem.W.fnOf "_law_built" "_law_built" (defArgs s__law_built) (defBody s__law_built) (defScope s__law_built) .none kV__law_built dc__law_built pm__law_built an__law_built cd__law_built ct__law_built), sl__law_built⟩)
    (c__law_built : PySem.W.codeIn K cd__law_built "_law_built" = true)
    (k__law_built : PySem.W.keepIn K (.ref f__law_built) = true)
    (a__law_whole : PySem.W.nsIn K mainGlobals "_law_whole" = some (some (.ref f__law_whole)))
    (l__law_whole : K.lookup f__law_whole = some ⟨oc__law_whole, od__law_whole, .func (PySem.W.fnOf "_law_whole" "_law_whole" (defArgs s__law_whole) (defBody s__law_whole) (defScope s__law_whole) .none kV__law_whole dc__law_whole pm__law_whole an__law_whole cd__law_whole ct__law_whole), sl__law_whole⟩)
    (c__law_whole : PySem.W.codeIn K cd__law_whole "_law_whole" = true)
    (k__law_whole : PySem.W.keepIn K (.ref f__law_whole) = true)
    (a__law_frac : PySem.W.nsIn K mainGlobals "_law_frac" = some (some (.ref f__law_frac)))
    (l__law_frac : K.lookup f__law_frac = some ⟨oc__law_frac, od__law_frac, .func (PySem.W.fnOf "_law_frac" "_law_frac" (defArgs s__law_frac) (defBody s__law_frac) (defScope s__law_frac) .none kV__law_frac dc__law_frac pm__law_frac an__law_frac cd__law_frac ct__law_frac), sl__law_frac⟩)
    (c__law_frac : PySem.W.codeIn K cd__law_frac "_law_frac" = true)
    (k__law_frac : PySem.W.keepIn K (.ref f__law_frac) = true)
    (a__law_fits : PySem.W.nsIn K mainGlobals "_law_fits" = some (some (.ref f__law_fits)))
    (l__law_fits : K.lookup f__law_fits = some ⟨oc__law_fits, od__law_fits, .func (PySem.W.fnOf "_law_fits" "_law_fits" (defArgs s__law_fits) (defBody s__law_fits) (defScope s__law_fits) .none kV__law_fits dc__law_fits pm__law_fits an__law_fits cd__law_fits ct__law_fits), sl__law_fits⟩)
    (c__law_fits : PySem.W.codeIn K cd__law_fits "_law_fits" = true)
    (k__law_fits : PySem.W.keepIn K (.ref f__law_fits) = true)
    (a_common_under : PySem.W.nsIn K mainGlobals "common_under" = some (some (.ref f_common_under)))
    (l_common_under : K.lookup f_common_under = some ⟨oc_common_under, od_common_under, .func (PySem.W.fnOf "common_under" "common_under" (defArgs s_common_under) (defBody s_common_under) (defScope s_common_under) .none kV_common_under dc_common_under pm_common_under an_common_under cd_common_under ct_common_under), sl_common_under⟩)
    (c_common_under : PySem.W.codeIn K cd_common_under "common_under" = true)
    (k_common_under : PySem.W.keepIn K (.ref f_common_under) = true)
    (a_scaled : PySem.W.nsIn K mainGlobals "scaled" = some (some (.ref f_scaled)))
    (l_scaled : K.lookup f_scaled = some ⟨oc_scaled, od_scaled, .func (PySem.W.fnOf "scaled" "scaled" (defArgs s_scaled) (defBody s_scaled) (defScope s_scaled) .none kV_scaled dc_scaled pm_scaled an_scaled cd_scaled ct_scaled), sl_scaled⟩)
    (c_scaled : PySem.W.codeIn K cd_scaled "scaled" = true)
    (k_scaled : PySem.W.keepIn K (.ref f_scaled) = true)
    (a_tail_sums : PySem.W.nsIn K mainGlobals "tail_sums" = some (some (.ref f_tail_sums)))
    (l_tail_sums : K.lookup f_tail_sums = some ⟨oc_tail_sums, od_tail_sums, .func (PySem.W.fnOf "tail_sums" "tail_sums" (defArgs s_tail_sums) (defBody s_tail_sums) (defScope s_tail_sums) .none kV_tail_sums dc_tail_sums pm_tail_sums an_tail_sums cd_tail_sums ct_tail_sums), sl_tail_sums⟩)
    (c_tail_sums : PySem.W.codeIn K cd_tail_sums "tail_sums" = true)
    (k_tail_sums : PySem.W.keepIn K (.ref f_tail_sums) = true)
    (a_Buyer___init__ : PySem.W.findIn K (.ref c_Buyer) "__init__" = some (some (.ref f_Buyer___init__)))
    (i_Buyer___init__ : PySem.W.isFn K (.ref f_Buyer___init__) = true)
    (l_Buyer___init__ : K.lookup f_Buyer___init__ = some ⟨oc_Buyer___init__, od_Buyer___init__, .func (PySem.W.fnOf "__init__" "Buyer.__init__" (defArgs s_Buyer___init__) (defBody s_Buyer___init__) (defScope s_Buyer___init__) .none kV_Buyer___init__ dc_Buyer___init__ pm_Buyer___init__ an_Buyer___init__ cd_Buyer___init__ ct_Buyer___init__), sl_Buyer___init__⟩)
    (c_Buyer___init__ : PySem.W.codeIn K cd_Buyer___init__ "Buyer.__init__" = true)
    (k_Buyer___init__ : PySem.W.keepIn K (.ref f_Buyer___init__) = true)
    (a_Buyer_income : PySem.W.findIn K (.ref c_Buyer) "income" = some (some (.ref f_Buyer_income)))
    (i_Buyer_income : PySem.W.isFn K (.ref f_Buyer_income) = true)
    (l_Buyer_income : K.lookup f_Buyer_income = some ⟨oc_Buyer_income, od_Buyer_income, .func (PySem.W.fnOf "income" "Buyer.income" (defArgs s_Buyer_income) (defBody s_Buyer_income) (defScope s_Buyer_income) .none kV_Buyer_income dc_Buyer_income pm_Buyer_income an_Buyer_income cd_Buyer_income ct_Buyer_income), sl_Buyer_income⟩)
    (c_Buyer_income : PySem.W.codeIn K cd_Buyer_income "Buyer.income" = true)
    (k_Buyer_income : PySem.W.keepIn K (.ref f_Buyer_income) = true)
    (a_Buyer_income_points : PySem.W.findIn K (.ref c_Buyer) "income_points" = some (some (.ref f_Buyer_income_points)))
    (i_Buyer_income_points : PySem.W.isFn K (.ref f_Buyer_income_points) = true)
    (l_Buyer_income_points : K.lookup f_Buyer_income_points = some ⟨oc_Buyer_income_points, od_Buyer_income_points, .func (PySem.W.fnOf "income_points" "Buyer.income_points" (defArgs s_Buyer_income_points) (defBody s_Buyer_income_points) (defScope s_Buyer_income_points) .none kV_Buyer_income_points dc_Buyer_income_points pm_Buyer_income_points an_Buyer_income_points cd_Buyer_income_points ct_Buyer_income_points), sl_Buyer_income_points⟩)
    (c_Buyer_income_points : PySem.W.codeIn K cd_Buyer_income_points "Buyer.income_points" = true)
    (k_Buyer_income_points : PySem.W.keepIn K (.ref f_Buyer_income_points) = true)
    (a_bends_down : PySem.W.nsIn K mainGlobals "bends_down" = some (some (.ref f_bends_down)))
    (l_bends_down : K.lookup f_bends_down = some ⟨oc_bends_down, od_bends_down, .func (PySem.W.fnOf "bends_down" "bends_down" (defArgs s_bends_down) (defBody s_bends_down) (defScope s_bends_down) .none kV_bends_down dc_bends_down pm_bends_down an_bends_down cd_bends_down ct_bends_down), sl_bends_down⟩)
    (c_bends_down : PySem.W.codeIn K cd_bends_down "bends_down" = true)
    (k_bends_down : PySem.W.keepIn K (.ref f_bends_down) = true)
    (a_lid_places : PySem.W.nsIn K mainGlobals "lid_places" = some (some (.ref f_lid_places)))
    (l_lid_places : K.lookup f_lid_places = some ⟨oc_lid_places, od_lid_places, .func (PySem.W.fnOf "lid_places" "lid_places" (defArgs s_lid_places) (defBody s_lid_places) (defScope s_lid_places) .none kV_lid_places dc_lid_places pm_lid_places an_lid_places cd_lid_places ct_lid_places), sl_lid_places⟩)
    (c_lid_places : PySem.W.codeIn K cd_lid_places "lid_places" = true)
    (k_lid_places : PySem.W.keepIn K (.ref f_lid_places) = true)
    (a_slope_parts : PySem.W.nsIn K mainGlobals "slope_parts" = some (some (.ref f_slope_parts)))
    (l_slope_parts : K.lookup f_slope_parts = some ⟨oc_slope_parts, od_slope_parts, .func (PySem.W.fnOf "slope_parts" "slope_parts" (defArgs s_slope_parts) (defBody s_slope_parts) (defScope s_slope_parts) .none kV_slope_parts dc_slope_parts pm_slope_parts an_slope_parts cd_slope_parts ct_slope_parts), sl_slope_parts⟩)
    (c_slope_parts : PySem.W.codeIn K cd_slope_parts "slope_parts" = true)
    (k_slope_parts : PySem.W.keepIn K (.ref f_slope_parts) = true)
    (a_Buyer_number : PySem.W.findIn K (.ref c_Buyer) "number" = some (some (.ref f_Buyer_number)))
    (i_Buyer_number : PySem.W.isFn K (.ref f_Buyer_number) = true)
    (l_Buyer_number : K.lookup f_Buyer_number = some ⟨oc_Buyer_number, od_Buyer_number, .func (PySem.W.fnOf "number" "Buyer.number" (defArgs s_Buyer_number) (defBody s_Buyer_number) (defScope s_Buyer_number) .none kV_Buyer_number dc_Buyer_number pm_Buyer_number an_Buyer_number cd_Buyer_number ct_Buyer_number), sl_Buyer_number⟩)
    (c_Buyer_number : PySem.W.codeIn K cd_Buyer_number "Buyer.number" = true)
    (k_Buyer_number : PySem.W.keepIn K (.ref f_Buyer_number) = true)
    (a_smooth_runs : PySem.W.nsIn K mainGlobals "smooth_runs" = some (some (.ref f_smooth_runs)))
    (l_smooth_runs : K.lookup f_smooth_runs = some ⟨oc_smooth_runs, od_smooth_runs, .func (PySem.W.fnOf "smooth_runs" "smooth_runs" (defArgs s_smooth_runs) (defBody s_smooth_runs) (defScope s_smooth_runs) .none kV_smooth_runs dc_smooth_runs pm_smooth_runs an_smooth_runs cd_smooth_runs ct_smooth_runs), sl_smooth_runs⟩)
    (c_smooth_runs : PySem.W.codeIn K cd_smooth_runs "smooth_runs" = true)
    (k_smooth_runs : PySem.W.keepIn K (.ref f_smooth_runs) = true)
    (a_smooth_numbers : PySem.W.nsIn K mainGlobals "smooth_numbers" = some (some (.ref f_smooth_numbers)))
    (l_smooth_numbers : K.lookup f_smooth_numbers = some ⟨oc_smooth_numbers, od_smooth_numbers, .func (PySem.W.fnOf "smooth_numbers" "smooth_numbers" (defArgs s_smooth_numbers) (defBody s_smooth_numbers) (defScope s_smooth_numbers) .none kV_smooth_numbers dc_smooth_numbers pm_smooth_numbers an_smooth_numbers cd_smooth_numbers ct_smooth_numbers), sl_smooth_numbers⟩)
    (c_smooth_numbers : PySem.W.codeIn K cd_smooth_numbers "smooth_numbers" = true)
    (k_smooth_numbers : PySem.W.keepIn K (.ref f_smooth_numbers) = true)
    (a_plain_numbers : PySem.W.nsIn K mainGlobals "plain_numbers" = some (some (.ref f_plain_numbers)))
    (l_plain_numbers : K.lookup f_plain_numbers = some ⟨oc_plain_numbers, od_plain_numbers, .func (PySem.W.fnOf "plain_numbers" "plain_numbers" (defArgs s_plain_numbers) (defBody s_plain_numbers) (defScope s_plain_numbers) .none kV_plain_numbers dc_plain_numbers pm_plain_numbers an_plain_numbers cd_plain_numbers ct_plain_numbers), sl_plain_numbers⟩)
    (c_plain_numbers : PySem.W.codeIn K cd_plain_numbers "plain_numbers" = true)
    (k_plain_numbers : PySem.W.keepIn K (.ref f_plain_numbers) = true)
    (a__law_numbers_hold : PySem.W.nsIn K mainGlobals "_law_numbers_hold" = some (some (.ref f__law_numbers_hold)))
    (l__law_numbers_hold : K.lookup f__law_numbers_hold = some ⟨oc__law_numbers_hold, od__law_numbers_hold, .func (PySem.W.fnOf "_law_numbers_hold" "_law_numbers_hold" (defArgs s__law_numbers_hold) (defBody s__law_numbers_hold) (defScope s__law_numbers_hold) .none kV__law_numbers_hold dc__law_numbers_hold pm__law_numbers_hold an__law_numbers_hold cd__law_numbers_hold ct__law_numbers_hold), sl__law_numbers_hold⟩)
    (c__law_numbers_hold : PySem.W.codeIn K cd__law_numbers_hold "_law_numbers_hold" = true)
    (k__law_numbers_hold : PySem.W.keepIn K (.ref f__law_numbers_hold) = true)
    (a__law_asked : PySem.W.nsIn K mainGlobals "_law_asked" = some (some (.ref f__law_asked)))
    (l__law_asked : K.lookup f__law_asked = some ⟨oc__law_asked, od__law_asked, .func (PySem.W.fnOf "_law_asked" "_law_asked" (defArgs s__law_asked) (defBody s__law_asked) (defScope s__law_asked) .none kV__law_asked dc__law_asked pm__law_asked an__law_asked cd__law_asked ct__law_asked), sl__law_asked⟩)
    (c__law_asked : PySem.W.codeIn K cd__law_asked "_law_asked" = true)
    (k__law_asked : PySem.W.keepIn K (.ref f__law_asked) = true)
    (a_law : PySem.W.nsIn K mainGlobals "law" = some (some (.ref f_law)))
    (l_law : K.lookup f_law = some ⟨oc_law, od_law, .func (PySem.W.fnOf "law" "law" (defArgs s_law) (defBody s_law) (defScope s_law) .none kV_law dc_law pm_law an_law cd_law ct_law), sl_law⟩)
    (c_law : PySem.W.codeIn K cd_law "law" = true)
    (k_law : PySem.W.keepIn K (.ref f_law) = true)
    (pg_Frac : PySem.W.plainGet K c_Frac Str.empty = true)
    (hd_Frac : PySem.W.hasDictIn K c_Frac = true)
    (po_Frac : PySem.W.plainOver K c_Frac = true)
    (sa_Frac : PySem.W.findIn K (.ref c_Frac) "__setattr__" = some (some (.builtin "object.__setattr__")))
    (mk_Frac : PySem.W.makesIn K c_Frac = true)
    (kc_Frac : PySem.W.keepIn K (.ref c_Frac) = true)
    (na_Frac_num : PySem.W.findIn K (.ref c_Frac) "num" = some none)
    (na_Frac_den : PySem.W.findIn K (.ref c_Frac) "den" = some none)
    (y0_Frac : PySem.W.isClsIn K c_Frac = true)
    (y1_Frac : PySem.W.typeIn K (.ref c_Frac) = some (.type "type"))
    (y2_Frac : PySem.W.findIn K (.ref c_Frac) "__class__" = some (some (.builtin "object.__class__")))
    (y3_Frac : PySem.W.mroIn K c_Frac (.type "object") = some true)
    (yb0_Frac : PySem.W.subIn K (.type "NoneType") (.ref c_Frac) = some false)
    (yb1_Frac : PySem.W.subIn K (.type "bool") (.ref c_Frac) = some false)
    (yb2_Frac : PySem.W.subIn K (.type "int") (.ref c_Frac) = some false)
    (yb3_Frac : PySem.W.subIn K (.type "str") (.ref c_Frac) = some false)
    (yb4_Frac : PySem.W.subIn K (.type "list") (.ref c_Frac) = some false)
    (yb5_Frac : PySem.W.subIn K (.type "tuple") (.ref c_Frac) = some false)
    (yo0_Frac : PySem.W.subIn K (.ref c_Frac) (.type "int") = some false)
    (yo1_Frac : PySem.W.subIn K (.ref c_Frac) (.type "bool") = some false)
    (yo2_Frac : PySem.W.subIn K (.ref c_Frac) (.type "list") = some false)
    (yo3_Frac : PySem.W.subIn K (.ref c_Frac) (.type "tuple") = some false)
    (yo4_Frac : PySem.W.subIn K (.ref c_Frac) (.type "str") = some false)
    (ne_Frac_Offer : (c_Frac == c_Offer) = false)
    (su_Frac_Offer : PySem.W.subIn K (.ref c_Frac) (.ref c_Offer) = some false)
    (ne_Frac_Buyer : (c_Frac == c_Buyer) = false)
    (su_Frac_Buyer : PySem.W.subIn K (.ref c_Frac) (.ref c_Buyer) = some false)
    (pg_Offer : PySem.W.plainGet K c_Offer Str.empty = true)
    (hd_Offer : PySem.W.hasDictIn K c_Offer = true)
    (po_Offer : PySem.W.plainOver K c_Offer = true)
    (sa_Offer : PySem.W.findIn K (.ref c_Offer) "__setattr__" = some (some (.builtin "object.__setattr__")))
    (mk_Offer : PySem.W.makesIn K c_Offer = true)
    (kc_Offer : PySem.W.keepIn K (.ref c_Offer) = true)
    (na_Offer_prizes : PySem.W.findIn K (.ref c_Offer) "prizes" = some none)
    (y0_Offer : PySem.W.isClsIn K c_Offer = true)
    (y1_Offer : PySem.W.typeIn K (.ref c_Offer) = some (.type "type"))
    (y2_Offer : PySem.W.findIn K (.ref c_Offer) "__class__" = some (some (.builtin "object.__class__")))
    (y3_Offer : PySem.W.mroIn K c_Offer (.type "object") = some true)
    (yb0_Offer : PySem.W.subIn K (.type "NoneType") (.ref c_Offer) = some false)
    (yb1_Offer : PySem.W.subIn K (.type "bool") (.ref c_Offer) = some false)
    (yb2_Offer : PySem.W.subIn K (.type "int") (.ref c_Offer) = some false)
    (yb3_Offer : PySem.W.subIn K (.type "str") (.ref c_Offer) = some false)
    (yb4_Offer : PySem.W.subIn K (.type "list") (.ref c_Offer) = some false)
    (yb5_Offer : PySem.W.subIn K (.type "tuple") (.ref c_Offer) = some false)
    (yo0_Offer : PySem.W.subIn K (.ref c_Offer) (.type "int") = some false)
    (yo1_Offer : PySem.W.subIn K (.ref c_Offer) (.type "bool") = some false)
    (yo2_Offer : PySem.W.subIn K (.ref c_Offer) (.type "list") = some false)
    (yo3_Offer : PySem.W.subIn K (.ref c_Offer) (.type "tuple") = some false)
    (yo4_Offer : PySem.W.subIn K (.ref c_Offer) (.type "str") = some false)
    (ne_Offer_Frac : (c_Offer == c_Frac) = false)
    (su_Offer_Frac : PySem.W.subIn K (.ref c_Offer) (.ref c_Frac) = some false)
    (ne_Offer_Buyer : (c_Offer == c_Buyer) = false)
    (su_Offer_Buyer : PySem.W.subIn K (.ref c_Offer) (.ref c_Buyer) = some false)
    (pg_Buyer : PySem.W.plainGet K c_Buyer Str.empty = true)
    (hd_Buyer : PySem.W.hasDictIn K c_Buyer = true)
    (po_Buyer : PySem.W.plainOver K c_Buyer = true)
    (sa_Buyer : PySem.W.findIn K (.ref c_Buyer) "__setattr__" = some (some (.builtin "object.__setattr__")))
    (mk_Buyer : PySem.W.makesIn K c_Buyer = true)
    (kc_Buyer : PySem.W.keepIn K (.ref c_Buyer) = true)
    (na_Buyer_under : PySem.W.findIn K (.ref c_Buyer) "under" = some none)
    (na_Buyer_weights : PySem.W.findIn K (.ref c_Buyer) "weights" = some none)
    (na_Buyer_worths : PySem.W.findIn K (.ref c_Buyer) "worths" = some none)
    (na_Buyer_tails : PySem.W.findIn K (.ref c_Buyer) "tails" = some none)
    (y0_Buyer : PySem.W.isClsIn K c_Buyer = true)
    (y1_Buyer : PySem.W.typeIn K (.ref c_Buyer) = some (.type "type"))
    (y2_Buyer : PySem.W.findIn K (.ref c_Buyer) "__class__" = some (some (.builtin "object.__class__")))
    (y3_Buyer : PySem.W.mroIn K c_Buyer (.type "object") = some true)
    (yb0_Buyer : PySem.W.subIn K (.type "NoneType") (.ref c_Buyer) = some false)
    (yb1_Buyer : PySem.W.subIn K (.type "bool") (.ref c_Buyer) = some false)
    (yb2_Buyer : PySem.W.subIn K (.type "int") (.ref c_Buyer) = some false)
    (yb3_Buyer : PySem.W.subIn K (.type "str") (.ref c_Buyer) = some false)
    (yb4_Buyer : PySem.W.subIn K (.type "list") (.ref c_Buyer) = some false)
    (yb5_Buyer : PySem.W.subIn K (.type "tuple") (.ref c_Buyer) = some false)
    (yo0_Buyer : PySem.W.subIn K (.ref c_Buyer) (.type "int") = some false)
    (yo1_Buyer : PySem.W.subIn K (.ref c_Buyer) (.type "bool") = some false)
    (yo2_Buyer : PySem.W.subIn K (.ref c_Buyer) (.type "list") = some false)
    (yo3_Buyer : PySem.W.subIn K (.ref c_Buyer) (.type "tuple") = some false)
    (yo4_Buyer : PySem.W.subIn K (.ref c_Buyer) (.type "str") = some false)
    (ne_Buyer_Frac : (c_Buyer == c_Frac) = false)
    (su_Buyer_Frac : PySem.W.subIn K (.ref c_Buyer) (.ref c_Frac) = some false)
    (ne_Buyer_Offer : (c_Buyer == c_Offer) = false)
    (su_Buyer_Offer : PySem.W.subIn K (.ref c_Buyer) (.ref c_Offer) = some false)
    (hget : PySem.W.specialIn K (.builtin "object.__class__") "__get__" = some (some (.builtin "getset_descriptor.__get__")))
    (htk : PySem.W.takesIn K (.builtin "object.__class__") = some true)
    (hn_abs : PySem.W.nsIn K mainGlobals "abs" = some none)
    (hn_all : PySem.W.nsIn K mainGlobals "all" = some none)
    (hn_bool : PySem.W.nsIn K mainGlobals "bool" = some none)
    (hn_enumerate : PySem.W.nsIn K mainGlobals "enumerate" = some none)
    (hn_int : PySem.W.nsIn K mainGlobals "int" = some none)
    (hn_isinstance : PySem.W.nsIn K mainGlobals "isinstance" = some none)
    (hn_len : PySem.W.nsIn K mainGlobals "len" = some none)
    (hn_list : PySem.W.nsIn K mainGlobals "list" = some none)
    (hn_range : PySem.W.nsIn K mainGlobals "range" = some none)
    (hn_reversed : PySem.W.nsIn K mainGlobals "reversed" = some none)
    (hn_str : PySem.W.nsIn K mainGlobals "str" = some none)
    (hn_sum : PySem.W.nsIn K mainGlobals "sum" = some none)
    (hn_tuple : PySem.W.nsIn K mainGlobals "tuple" = some none)
    (hm_gcd : PySem.W.nsIn K mainGlobals "gcd" = some (some (.builtin "math.gcd")))
    (hm_lcm : PySem.W.nsIn K mainGlobals "lcm" = some (some (.builtin "math.lcm")))
    (hk_MOST_OVER : PySem.W.nsIn K mainGlobals "MOST_OVER" = some (some (.int 9999 tk_MOST_OVER)))
    (hk_MOST_UNDER : PySem.W.nsIn K mainGlobals "MOST_UNDER" = some (some (.int 99 tk_MOST_UNDER)))
    (hk_MOST_WEIGHT : PySem.W.nsIn K mainGlobals "MOST_WEIGHT" = some (some (.int 999 tk_MOST_WEIGHT)))
    (hk_MOST_PRIZES : PySem.W.nsIn K mainGlobals "MOST_PRIZES" = some (some (.int 6 tk_MOST_PRIZES)))
    : ∃ fd : FuncData, (∀ (s : Shared) (v : Value), BindsTo s fd ⟨[v], []⟩ [("script", v)]) ∧ ∀ base : Heap, K.In base → base.Ns mainGlobals mg → FnOk l.prog w K mg base (L2.CX l.prog w) 13 fa fd ["script"] (spLaw K) := by
  have e := hfa.symm.trans (PySem.W.mg_of X G a_law)
  cases e
  let a : Ad := ⟨c_Frac, c_Offer, c_Buyer, f__law_pick, (PySem.W.fnOf "_law_pick" "_law_pick" (defArgs s__law_pick) (defBody s__law_pick) (defScope s__law_pick) .none kV__law_pick dc__law_pick pm__law_pick an__law_pick cd__law_pick ct__law_pick), f__law_gcd, (PySem.W.fnOf "_law_gcd" "_law_gcd" (defArgs s__law_gcd) (defBody s__law_gcd) (defScope s__law_gcd) .none kV__law_gcd dc__law_gcd pm__law_gcd an__law_gcd cd__law_gcd ct__law_gcd), f__law_lowest, (PySem.W.fnOf "_law_lowest" "_law_lowest" (defArgs s__law_lowest) (defBody s__law_lowest) (defScope s__law_lowest) .none kV__law_lowest dc__law_lowest pm__law_lowest an__law_lowest cd__law_lowest ct__law_lowest), f__law_level, (PySem.W.fnOf "_law_level" "_law_level" (defArgs s__law_level) (defBody s__law_level) (defScope s__law_level) .none kV__law_level dc__law_level pm__law_level an__law_level cd__law_level ct__law_level), f__law_weights, (PySem.W.fnOf "_law_weights" "_law_weights" (defArgs s__law_weights) (defBody s__law_weights) (defScope s__law_weights) .none kV__law_weights dc__law_weights pm__law_weights an__law_weights cd__law_weights ct__law_weights), f__law_offer, (PySem.W.fnOf "_law_offer" "_law_offer" (defArgs s__law_offer) (defBody s__law_offer) (defScope s__law_offer) .none kV__law_offer dc__law_offer pm__law_offer an__law_offer cd__law_offer ct__law_offer), f__law_common, (PySem.W.fnOf "_law_common" "_law_common" (defArgs s__law_common) (defBody s__law_common) (defScope s__law_common) .none kV__law_common dc__law_common pm__law_common an__law_common cd__law_common ct__law_common), f__law_worths, (PySem.W.fnOf "_law_worths" "_law_worths" (defArgs s__law_worths) (defBody s__law_worths) (defScope s__law_worths) .none kV__law_worths dc__law_worths pm__law_worths an__law_worths cd__law_worths ct__law_worths), f__law_tails, (PySem.W.fnOf "_law_tails" "_law_tails" (defArgs s__law_tails) (defBody s__law_tails) (defScope s__law_tails) .none kV__law_tails dc__law_tails pm__law_tails an__law_tails cd__law_tails ct__law_tails), f__law_lid, (PySem.W.fnOf "_law_lid" "_law_lid" (defArgs s__law_lid) (defBody s__law_lid) (defScope s__law_lid) .none kV__law_lid dc__law_lid pm__law_lid an__law_lid cd__law_lid ct__law_lid), f__law_plain, (PySem.W.fnOf "_law_plain" "_law_plain" (defArgs s__law_plain) (defBody s__law_plain) (defScope s__law_plain) .none kV__law_plain dc__law_plain pm__law_plain an__law_plain cd__law_plain ct__law_plain), f__law_rise, (PySem.W.fnOf "_law_rise" "_law_rise" (defArgs s__law_rise) (defBody s__law_rise) (defScope s__law_rise) .none kV__law_rise dc__law_rise pm__law_rise an__law_rise cd__law_rise ct__law_rise), f__law_alike, (PySem.W.fnOf "_law_alike" "_law_alike" (defArgs s__law_alike) (defBody s__law_alike) (defScope s__law_alike) .none kV__law_alike dc__law_alike pm__law_alike an__law_alike cd__law_alike ct__law_alike), f_is_integer, (PySem.W.fnOf "is_integer" "is_integer" (defArgs s_is_integer) (defBody s_is_integer) (defScope s_is_integer) .none kV_is_integer dc_is_integer pm_is_integer an_is_integer cd_is_integer ct_is_integer), f_Frac___init__, (PySem.W.fnOf "__init__" "Frac.__init__" (defArgs s_Frac___init__) (defBody s_Frac___init__) (defScope s_Frac___init__) (.ref t_Frac___init__) kV_Frac___init__ dc_Frac___init__ pm_Frac___init__ an_Frac___init__ cd_Frac___init__ ct_Frac___init__), f__law_given, (PySem.W.fnOf "_law_given" "_law_given" (defArgs s__law_given) (defBody s__law_given) (defScope s__law_given) .none kV__law_given dc__law_given pm__law_given an__law_given cd__law_given ct__law_given), f_is_sequence, (PySem.W.fnOf "is_sequence" "is_sequence" (defArgs s_is_sequence) (defBody s_is_sequence) (defScope s_is_sequence) .none kV_is_sequence dc_is_sequence pm_is_sequence an_is_sequence cd_is_sequence ct_is_sequence), f_is_between, (PySem.W.fnOf "is_between" "is_between" (defArgs s_is_between) (defBody s_is_between) (defScope s_is_between) .none kV_is_between dc_is_between pm_is_between an_is_between cd_is_between ct_is_between), f_as_frac, (PySem.W.fnOf "as_frac" "as_frac" (defArgs s_as_frac) (defBody s_as_frac) (defScope s_as_frac) .none kV_as_frac dc_as_frac pm_as_frac an_as_frac cd_as_frac ct_as_frac), f_is_amount, (PySem.W.fnOf "is_amount" "is_amount" (defArgs s_is_amount) (defBody s_is_amount) (defScope s_is_amount) .none kV_is_amount dc_is_amount pm_is_amount an_is_amount cd_is_amount ct_is_amount), f_is_prize, (PySem.W.fnOf "is_prize" "is_prize" (defArgs s_is_prize) (defBody s_is_prize) (defScope s_is_prize) .none kV_is_prize dc_is_prize pm_is_prize an_is_prize cd_is_prize ct_is_prize), f_Frac_is_below, (PySem.W.fnOf "is_below" "Frac.is_below" (defArgs s_Frac_is_below) (defBody s_Frac_is_below) (defScope s_Frac_is_below) .none kV_Frac_is_below dc_Frac_is_below pm_Frac_is_below an_Frac_is_below cd_Frac_is_below ct_Frac_is_below), f_kept_prizes, (PySem.W.fnOf "kept_prizes" "kept_prizes" (defArgs s_kept_prizes) (defBody s_kept_prizes) (defScope s_kept_prizes) .none kV_kept_prizes dc_kept_prizes pm_kept_prizes an_kept_prizes cd_kept_prizes ct_kept_prizes), f_Offer___init__, (PySem.W.fnOf "__init__" "Offer.__init__" (defArgs s_Offer___init__) (defBody s_Offer___init__) (defScope s_Offer___init__) .none kV_Offer___init__ dc_Offer___init__ pm_Offer___init__ an_Offer___init__ cd_Offer___init__ ct_Offer___init__), f__law_built, (PySem.W.fnOf "_law_built" "_law_built" (defArgs s__law_built) (defBody s__law_built) (defScope s__law_built) .none kV__law_built dc__law_built pm__law_built an__law_built cd__law_built ct__law_built), f__law_whole, (PySem.W.fnOf "_law_whole" "_law_whole" (defArgs s__law_whole) (defBody s__law_whole) (defScope s__law_whole) .none kV__law_whole dc__law_whole pm__law_whole an__law_whole cd__law_whole ct__law_whole), f__law_frac, (PySem.W.fnOf "_law_frac" "_law_frac" (defArgs s__law_frac) (defBody s__law_frac) (defScope s__law_frac) .none kV__law_frac dc__law_frac pm__law_frac an__law_frac cd__law_frac ct__law_frac), f__law_fits, (PySem.W.fnOf "_law_fits" "_law_fits" (defArgs s__law_fits) (defBody s__law_fits) (defScope s__law_fits) .none kV__law_fits dc__law_fits pm__law_fits an__law_fits cd__law_fits ct__law_fits), f_common_under, (PySem.W.fnOf "common_under" "common_under" (defArgs s_common_under) (defBody s_common_under) (defScope s_common_under) .none kV_common_under dc_common_under pm_common_under an_common_under cd_common_under ct_common_under), f_scaled, (PySem.W.fnOf "scaled" "scaled" (defArgs s_scaled) (defBody s_scaled) (defScope s_scaled) .none kV_scaled dc_scaled pm_scaled an_scaled cd_scaled ct_scaled), f_tail_sums, (PySem.W.fnOf "tail_sums" "tail_sums" (defArgs s_tail_sums) (defBody s_tail_sums) (defScope s_tail_sums) .none kV_tail_sums dc_tail_sums pm_tail_sums an_tail_sums cd_tail_sums ct_tail_sums), f_Buyer___init__, (PySem.W.fnOf "__init__" "Buyer.__init__" (defArgs s_Buyer___init__) (defBody s_Buyer___init__) (defScope s_Buyer___init__) .none kV_Buyer___init__ dc_Buyer___init__ pm_Buyer___init__ an_Buyer___init__ cd_Buyer___init__ ct_Buyer___init__), f_Buyer_income, (PySem.W.fnOf "income" "Buyer.income" (defArgs s_Buyer_income) (defBody s_Buyer_income) (defScope s_Buyer_income) .none kV_Buyer_income dc_Buyer_income pm_Buyer_income an_Buyer_income cd_Buyer_income ct_Buyer_income), f_Buyer_income_points, (PySem.W.fnOf "income_points" "Buyer.income_points" (defArgs s_Buyer_income_points) (defBody s_Buyer_income_points) (defScope s_Buyer_income_points) .none kV_Buyer_income_points dc_Buyer_income_points pm_Buyer_income_points an_Buyer_income_points cd_Buyer_income_points ct_Buyer_income_points), f_bends_down, (PySem.W.fnOf "bends_down" "bends_down" (defArgs s_bends_down) (defBody s_bends_down) (defScope s_bends_down) .none kV_bends_down dc_bends_down pm_bends_down an_bends_down cd_bends_down ct_bends_down), f_lid_places, (PySem.W.fnOf "lid_places" "lid_places" (defArgs s_lid_places) (defBody s_lid_places) (defScope s_lid_places) .none kV_lid_places dc_lid_places pm_lid_places an_lid_places cd_lid_places ct_lid_places), f_slope_parts, (PySem.W.fnOf "slope_parts" "slope_parts" (defArgs s_slope_parts) (defBody s_slope_parts) (defScope s_slope_parts) .none kV_slope_parts dc_slope_parts pm_slope_parts an_slope_parts cd_slope_parts ct_slope_parts), f_Buyer_number, (PySem.W.fnOf "number" "Buyer.number" (defArgs s_Buyer_number) (defBody s_Buyer_number) (defScope s_Buyer_number) .none kV_Buyer_number dc_Buyer_number pm_Buyer_number an_Buyer_number cd_Buyer_number ct_Buyer_number), f_smooth_runs, (PySem.W.fnOf "smooth_runs" "smooth_runs" (defArgs s_smooth_runs) (defBody s_smooth_runs) (defScope s_smooth_runs) .none kV_smooth_runs dc_smooth_runs pm_smooth_runs an_smooth_runs cd_smooth_runs ct_smooth_runs), f_smooth_numbers, (PySem.W.fnOf "smooth_numbers" "smooth_numbers" (defArgs s_smooth_numbers) (defBody s_smooth_numbers) (defScope s_smooth_numbers) .none kV_smooth_numbers dc_smooth_numbers pm_smooth_numbers an_smooth_numbers cd_smooth_numbers ct_smooth_numbers), f_plain_numbers, (PySem.W.fnOf "plain_numbers" "plain_numbers" (defArgs s_plain_numbers) (defBody s_plain_numbers) (defScope s_plain_numbers) .none kV_plain_numbers dc_plain_numbers pm_plain_numbers an_plain_numbers cd_plain_numbers ct_plain_numbers), f__law_numbers_hold, (PySem.W.fnOf "_law_numbers_hold" "_law_numbers_hold" (defArgs s__law_numbers_hold) (defBody s__law_numbers_hold) (defScope s__law_numbers_hold) .none kV__law_numbers_hold dc__law_numbers_hold pm__law_numbers_hold an__law_numbers_hold cd__law_numbers_hold ct__law_numbers_hold), f__law_asked, (PySem.W.fnOf "_law_asked" "_law_asked" (defArgs s__law_asked) (defBody s__law_asked) (defScope s__law_asked) .none kV__law_asked dc__law_asked pm__law_asked an__law_asked cd__law_asked ct__law_asked), fa, (PySem.W.fnOf "law" "law" (defArgs s_law) (defBody s_law) (defScope s_law) .none kV_law dc_law pm_law an_law cd_law ct_law)⟩
  have cl_Frac : Cls K c_Frac := ⟨pg_Frac, hd_Frac, po_Frac, sa_Frac⟩
  have cl_Offer : Cls K c_Offer := ⟨pg_Offer, hd_Offer, po_Offer, sa_Offer⟩
  have cl_Buyer : Cls K c_Buyer := ⟨pg_Buyer, hd_Buyer, po_Buyer, sa_Buyer⟩
  have F__law_pick := funD_mk (st := s__law_pick) l__law_pick c__law_pick k__law_pick
  have B__law_pick := FunD.bindsN (ps := ["feed", "many"]) F__law_pick fun _ _ _ _ _ _ us hl => match us, hl with | [_, _], _ => rfl
  have F__law_gcd := funD_mk (st := s__law_gcd) l__law_gcd c__law_gcd k__law_gcd
  have B__law_gcd := FunD.bindsN (ps := ["one", "two"]) F__law_gcd fun _ _ _ _ _ _ us hl => match us, hl with | [_, _], _ => rfl
  have F__law_lowest := funD_mk (st := s__law_lowest) l__law_lowest c__law_lowest k__law_lowest
  have B__law_lowest := FunD.bindsN (ps := ["num", "den"]) F__law_lowest fun _ _ _ _ _ _ us hl => match us, hl with | [_, _], _ => rfl
  have F__law_level := funD_mk (st := s__law_level) l__law_level c__law_level k__law_level
  have B__law_level := FunD.bindsN (ps := ["feed", "many"]) F__law_level fun _ _ _ _ _ _ us hl => match us, hl with | [_, _], _ => rfl
  have F__law_weights := funD_mk (st := s__law_weights) l__law_weights c__law_weights k__law_weights
  have B__law_weights := FunD.bindsN (ps := ["feed", "many", "top"]) F__law_weights fun _ _ _ _ _ _ us hl => match us, hl with | [_, _, _], _ => rfl
  have F__law_offer := funD_mk (st := s__law_offer) l__law_offer c__law_offer k__law_offer
  have B__law_offer := FunD.bindsN (ps := ["feed", "most", "top"]) F__law_offer fun _ _ _ _ _ _ us hl => match us, hl with | [_, _, _], _ => rfl
  have F__law_common := funD_mk (st := s__law_common) l__law_common c__law_common k__law_common
  have B__law_common := FunD.bindsN (ps := ["numbers"]) F__law_common fun _ _ _ _ _ _ us hl => match us, hl with | [_], _ => rfl
  have F__law_worths := funD_mk (st := s__law_worths) l__law_worths c__law_worths k__law_worths
  have B__law_worths := FunD.bindsN (ps := ["rows", "scale"]) F__law_worths fun _ _ _ _ _ _ us hl => match us, hl with | [_, _], _ => rfl
  have F__law_tails := funD_mk (st := s__law_tails) l__law_tails c__law_tails k__law_tails
  have B__law_tails := FunD.bindsN (ps := ["rows"]) F__law_tails fun _ _ _ _ _ _ us hl => match us, hl with | [_], _ => rfl
  have F__law_lid := funD_mk (st := s__law_lid) l__law_lid c__law_lid k__law_lid
  have B__law_lid := FunD.bindsN (ps := ["rows"]) F__law_lid fun _ _ _ _ _ _ us hl => match us, hl with | [_], _ => rfl
  have F__law_plain := funD_mk (st := s__law_plain) l__law_plain c__law_plain k__law_plain
  have B__law_plain := FunD.bindsN (ps := ["rows"]) F__law_plain fun _ _ _ _ _ _ us hl => match us, hl with | [_], _ => rfl
  have F__law_rise := funD_mk (st := s__law_rise) l__law_rise c__law_rise k__law_rise
  have B__law_rise := FunD.bindsN (ps := ["numbers"]) F__law_rise fun _ _ _ _ _ _ us hl => match us, hl with | [_], _ => rfl
  have F__law_alike := funD_mk (st := s__law_alike) l__law_alike c__law_alike k__law_alike
  have B__law_alike := FunD.bindsN (ps := ["one", "two"]) F__law_alike fun _ _ _ _ _ _ us hl => match us, hl with | [_, _], _ => rfl
  have F_is_integer := funD_mk (st := s_is_integer) l_is_integer c_is_integer k_is_integer
  have B_is_integer := FunD.bindsN (ps := ["value"]) F_is_integer fun _ _ _ _ _ _ us hl => match us, hl with | [_], _ => rfl
  have F_Frac___init__ := funD_mk1 (st := s_Frac___init__) l_Frac___init__ c_Frac___init__ k_Frac___init__ lt_Frac___init__
  have F__law_given := funD_mk (st := s__law_given) l__law_given c__law_given k__law_given
  have B__law_given := FunD.bindsN (ps := ["pair", "plain"]) F__law_given fun _ _ _ _ _ _ us hl => match us, hl with | [_, _], _ => rfl
  have F_is_sequence := funD_mk (st := s_is_sequence) l_is_sequence c_is_sequence k_is_sequence
  have B_is_sequence := FunD.bindsN (ps := ["value"]) F_is_sequence fun _ _ _ _ _ _ us hl => match us, hl with | [_], _ => rfl
  have F_is_between := funD_mk (st := s_is_between) l_is_between c_is_between k_is_between
  have B_is_between := FunD.bindsN (ps := ["value", "least", "most"]) F_is_between fun _ _ _ _ _ _ us hl => match us, hl with | [_, _, _], _ => rfl
  have F_as_frac := funD_mk (st := s_as_frac) l_as_frac c_as_frac k_as_frac
  have B_as_frac := FunD.bindsN (ps := ["value"]) F_as_frac fun _ _ _ _ _ _ us hl => match us, hl with | [_], _ => rfl
  have F_is_amount := funD_mk (st := s_is_amount) l_is_amount c_is_amount k_is_amount
  have B_is_amount := FunD.bindsN (ps := ["value"]) F_is_amount fun _ _ _ _ _ _ us hl => match us, hl with | [_], _ => rfl
  have F_is_prize := funD_mk (st := s_is_prize) l_is_prize c_is_prize k_is_prize
  have B_is_prize := FunD.bindsN (ps := ["value"]) F_is_prize fun _ _ _ _ _ _ us hl => match us, hl with | [_], _ => rfl
  have F_Frac_is_below := funD_mk (st := s_Frac_is_below) l_Frac_is_below c_Frac_is_below k_Frac_is_below
  have B_Frac_is_below := FunD.bindsN (ps := ["self", "other"]) F_Frac_is_below fun _ _ _ _ _ _ us hl => match us, hl with | [_, _], _ => rfl
  have F_kept_prizes := funD_mk (st := s_kept_prizes) l_kept_prizes c_kept_prizes k_kept_prizes
  have B_kept_prizes := FunD.bindsN (ps := ["prizes"]) F_kept_prizes fun _ _ _ _ _ _ us hl => match us, hl with | [_], _ => rfl
  have F_Offer___init__ := funD_mk (st := s_Offer___init__) l_Offer___init__ c_Offer___init__ k_Offer___init__
  have B_Offer___init__ := FunD.bindsN (ps := ["self", "prizes"]) F_Offer___init__ fun _ _ _ _ _ _ us hl => match us, hl with | [_, _], _ => rfl
  have F__law_built := funD_mk (st := s__law_built) l__law_built c__law_built k__law_built
  have B__law_built := FunD.bindsN (ps := ["rows", "form"]) F__law_built fun _ _ _ _ _ _ us hl => match us, hl with | [_, _], _ => rfl
  have F__law_whole := funD_mk (st := s__law_whole) l__law_whole c__law_whole k__law_whole
  have B__law_whole := FunD.bindsN (ps := ["found"]) F__law_whole fun _ _ _ _ _ _ us hl => match us, hl with | [_], _ => rfl
  have F__law_frac := funD_mk (st := s__law_frac) l__law_frac c__law_frac k__law_frac
  have B__law_frac := FunD.bindsN (ps := ["found", "num", "den"]) F__law_frac fun _ _ _ _ _ _ us hl => match us, hl with | [_, _, _], _ => rfl
  have F__law_fits := funD_mk (st := s__law_fits) l__law_fits c__law_fits k__law_fits
  have B__law_fits := FunD.bindsN (ps := ["found", "due"]) F__law_fits fun _ _ _ _ _ _ us hl => match us, hl with | [_, _], _ => rfl
  have F_common_under := funD_mk (st := s_common_under) l_common_under c_common_under k_common_under
  have B_common_under := FunD.bindsN (ps := ["fracs"]) F_common_under fun _ _ _ _ _ _ us hl => match us, hl with | [_], _ => rfl
  have F_scaled := funD_mk (st := s_scaled) l_scaled c_scaled k_scaled
  have B_scaled := FunD.bindsN (ps := ["frac", "under"]) F_scaled fun _ _ _ _ _ _ us hl => match us, hl with | [_, _], _ => rfl
  have F_tail_sums := funD_mk (st := s_tail_sums) l_tail_sums c_tail_sums k_tail_sums
  have B_tail_sums := FunD.bindsN (ps := ["weights"]) F_tail_sums fun _ _ _ _ _ _ us hl => match us, hl with | [_], _ => rfl
  have F_Buyer___init__ := funD_mk (st := s_Buyer___init__) l_Buyer___init__ c_Buyer___init__ k_Buyer___init__
  have B_Buyer___init__ := FunD.bindsN (ps := ["self", "offer"]) F_Buyer___init__ fun _ _ _ _ _ _ us hl => match us, hl with | [_, _], _ => rfl
  have F_Buyer_income := funD_mk (st := s_Buyer_income) l_Buyer_income c_Buyer_income k_Buyer_income
  have B_Buyer_income := FunD.bindsN (ps := ["self", "prize"]) F_Buyer_income fun _ _ _ _ _ _ us hl => match us, hl with | [_, _], _ => rfl
  have F_Buyer_income_points := funD_mk (st := s_Buyer_income_points) l_Buyer_income_points c_Buyer_income_points k_Buyer_income_points
  have B_Buyer_income_points := FunD.bindsN (ps := ["self"]) F_Buyer_income_points fun _ _ _ _ _ _ us hl => match us, hl with | [_], _ => rfl
  have F_bends_down := funD_mk (st := s_bends_down) l_bends_down c_bends_down k_bends_down
  have B_bends_down := FunD.bindsN (ps := ["one", "two", "three"]) F_bends_down fun _ _ _ _ _ _ us hl => match us, hl with | [_, _, _], _ => rfl
  have F_lid_places := funD_mk (st := s_lid_places) l_lid_places c_lid_places k_lid_places
  have B_lid_places := FunD.bindsN (ps := ["points"]) F_lid_places fun _ _ _ _ _ _ us hl => match us, hl with | [_], _ => rfl
  have F_slope_parts := funD_mk (st := s_slope_parts) l_slope_parts c_slope_parts k_slope_parts
  have B_slope_parts := FunD.bindsN (ps := ["points", "start", "end"]) F_slope_parts fun _ _ _ _ _ _ us hl => match us, hl with | [_, _, _], _ => rfl
  have F_Buyer_number := funD_mk (st := s_Buyer_number) l_Buyer_number c_Buyer_number k_Buyer_number
  have B_Buyer_number := FunD.bindsN (ps := ["self", "rise", "width"]) F_Buyer_number fun _ _ _ _ _ _ us hl => match us, hl with | [_, _, _], _ => rfl
  have F_smooth_runs := funD_mk (st := s_smooth_runs) l_smooth_runs c_smooth_runs k_smooth_runs
  have B_smooth_runs := FunD.bindsN (ps := ["offer"]) F_smooth_runs fun _ _ _ _ _ _ us hl => match us, hl with | [_], _ => rfl
  have F_smooth_numbers := funD_mk (st := s_smooth_numbers) l_smooth_numbers c_smooth_numbers k_smooth_numbers
  have B_smooth_numbers := FunD.bindsN (ps := ["offer"]) F_smooth_numbers fun _ _ _ _ _ _ us hl => match us, hl with | [_], _ => rfl
  have F_plain_numbers := funD_mk (st := s_plain_numbers) l_plain_numbers c_plain_numbers k_plain_numbers
  have B_plain_numbers := FunD.bindsN (ps := ["offer"]) F_plain_numbers fun _ _ _ _ _ _ us hl => match us, hl with | [_], _ => rfl
  have F__law_numbers_hold := funD_mk (st := s__law_numbers_hold) l__law_numbers_hold c__law_numbers_hold k__law_numbers_hold
  have B__law_numbers_hold := FunD.bindsN (ps := ["rows", "form"]) F__law_numbers_hold fun _ _ _ _ _ _ us hl => match us, hl with | [_, _], _ => rfl
  have F__law_asked := funD_mk (st := s__law_asked) l__law_asked c__law_asked k__law_asked
  have B__law_asked := FunD.bindsN (ps := ["script"]) F__law_asked fun _ _ _ _ _ _ us hl => match us, hl with | [_], _ => rfl
  have F_law := funD_mk (st := s_law) l_law c_law k_law
  have fo_num : FldOk K (tab a) "num" [(0, 0)] := fld_mk (by
    intro p hp
    simp only [List.mem_cons, List.mem_nil_iff, or_false] at hp
    subst hp
    exact ⟨cl_Frac, na_Frac_num, rfl, fl_nd_0⟩)
  have fo_den : FldOk K (tab a) "den" [(0, 1)] := fld_mk (by
    intro p hp
    simp only [List.mem_cons, List.mem_nil_iff, or_false] at hp
    subst hp
    exact ⟨cl_Frac, na_Frac_den, rfl, fl_nd_0⟩)
  have fo_prizes : FldOk K (tab a) "prizes" [(1, 0)] := fld_mk (by
    intro p hp
    simp only [List.mem_cons, List.mem_nil_iff, or_false] at hp
    subst hp
    exact ⟨cl_Offer, na_Offer_prizes, rfl, fl_nd_1⟩)
  have fo_under : FldOk K (tab a) "under" [(2, 0)] := fld_mk (by
    intro p hp
    simp only [List.mem_cons, List.mem_nil_iff, or_false] at hp
    subst hp
    exact ⟨cl_Buyer, na_Buyer_under, rfl, fl_nd_2⟩)
  have fo_weights : FldOk K (tab a) "weights" [(2, 1)] := fld_mk (by
    intro p hp
    simp only [List.mem_cons, List.mem_nil_iff, or_false] at hp
    subst hp
    exact ⟨cl_Buyer, na_Buyer_weights, rfl, fl_nd_2⟩)
  have fo_worths : FldOk K (tab a) "worths" [(2, 2)] := fld_mk (by
    intro p hp
    simp only [List.mem_cons, List.mem_nil_iff, or_false] at hp
    subst hp
    exact ⟨cl_Buyer, na_Buyer_worths, rfl, fl_nd_2⟩)
  have fo_tails : FldOk K (tab a) "tails" [(2, 3)] := fld_mk (by
    intro p hp
    simp only [List.mem_cons, List.mem_nil_iff, or_false] at hp
    subst hp
    exact ⟨cl_Buyer, na_Buyer_tails, rfl, fl_nd_2⟩)
  have ty : TyOk K (tab a) [0, 1, 2] := tyOk_mk hget htk (by
    intro c hc
    simp only [List.mem_cons, List.mem_nil_iff, or_false] at hc
    rcases hc with rfl | rfl | rfl
    · exact ⟨cl_Frac, ⟨y0_Frac, y1_Frac, y2_Frac, y3_Frac, yb0_Frac, yb1_Frac, yb2_Frac, yb3_Frac, yb4_Frac, yb5_Frac, yo0_Frac, yo1_Frac, yo2_Frac, yo3_Frac, yo4_Frac⟩⟩
    · exact ⟨cl_Offer, ⟨y0_Offer, y1_Offer, y2_Offer, y3_Offer, yb0_Offer, yb1_Offer, yb2_Offer, yb3_Offer, yb4_Offer, yb5_Offer, yo0_Offer, yo1_Offer, yo2_Offer, yo3_Offer, yo4_Offer⟩⟩
    · exact ⟨cl_Buyer, ⟨y0_Buyer, y1_Buyer, y2_Buyer, y3_Buyer, yb0_Buyer, yb1_Buyer, yb2_Buyer, yb3_Buyer, yb4_Buyer, yb5_Buyer, yo0_Buyer, yo1_Buyer, yo2_Buyer, yo3_Buyer, yo4_Buyer⟩⟩)
   (by
    intro c hc c2 hc2 hne
    simp only [List.mem_cons, List.mem_nil_iff, or_false] at hc hc2
    rcases hc with rfl | rfl | rfl <;> rcases hc2 with rfl | rfl | rfl
    · exact absurd hne (by decide)
    · exact ⟨ne_Frac_Offer, su_Frac_Offer⟩
    · exact ⟨ne_Frac_Buyer, su_Frac_Buyer⟩
    · exact ⟨ne_Offer_Frac, su_Offer_Frac⟩
    · exact absurd hne (by decide)
    · exact ⟨ne_Offer_Buyer, su_Offer_Buyer⟩
    · exact ⟨ne_Buyer_Frac, su_Buyer_Frac⟩
    · exact ⟨ne_Buyer_Offer, su_Buyer_Offer⟩
    · exact absurd hne (by decide))
  have U : Txt K mg a := {
    fn__law_pick := F__law_pick,
    g__law_pick := ⟨PySem.W.mg_of X G a__law_pick, k__law_pick, B__law_pick⟩,
    fn__law_gcd := F__law_gcd,
    g__law_gcd := ⟨PySem.W.mg_of X G a__law_gcd, k__law_gcd, B__law_gcd⟩,
    fn__law_lowest := F__law_lowest,
    g__law_lowest := ⟨PySem.W.mg_of X G a__law_lowest, k__law_lowest, B__law_lowest⟩,
    fn__law_level := F__law_level,
    g__law_level := ⟨PySem.W.mg_of X G a__law_level, k__law_level, B__law_level⟩,
    fn__law_weights := F__law_weights,
    g__law_weights := ⟨PySem.W.mg_of X G a__law_weights, k__law_weights, B__law_weights⟩,
    fn__law_offer := F__law_offer,
    g__law_offer := ⟨PySem.W.mg_of X G a__law_offer, k__law_offer, B__law_offer⟩,
    fn__law_common := F__law_common,
    g__law_common := ⟨PySem.W.mg_of X G a__law_common, k__law_common, B__law_common⟩,
    fn__law_worths := F__law_worths,
    g__law_worths := ⟨PySem.W.mg_of X G a__law_worths, k__law_worths, B__law_worths⟩,
    fn__law_tails := F__law_tails,
    g__law_tails := ⟨PySem.W.mg_of X G a__law_tails, k__law_tails, B__law_tails⟩,
    fn__law_lid := F__law_lid,
    g__law_lid := ⟨PySem.W.mg_of X G a__law_lid, k__law_lid, B__law_lid⟩,
    fn__law_plain := F__law_plain,
    g__law_plain := ⟨PySem.W.mg_of X G a__law_plain, k__law_plain, B__law_plain⟩,
    fn__law_rise := F__law_rise,
    g__law_rise := ⟨PySem.W.mg_of X G a__law_rise, k__law_rise, B__law_rise⟩,
    fn__law_alike := F__law_alike,
    g__law_alike := ⟨PySem.W.mg_of X G a__law_alike, k__law_alike, B__law_alike⟩,
    fn_is_integer := F_is_integer,
    g_is_integer := ⟨PySem.W.mg_of X G a_is_integer, k_is_integer, B_is_integer⟩,
    fn_Frac___init__ := F_Frac___init__,
    gd_Frac___init___0 := ⟨FunD.binds1 F_Frac___init__ 3 1 (by simp) rfl fun _ _ _ _ _ _ _ us its h1 h2 => match us, h1, its, h2 with | [_, _, _], _, [_], _ => ⟨_, rfl, rfl⟩⟩,
    gd_Frac___init___1 := ⟨FunD.binds1 F_Frac___init__ 2 0 (by simp) rfl fun _ _ _ _ _ _ _ us its h1 h2 => match us, h1, its, h2 with | [_, _], _, [_], _ => ⟨_, rfl, rfl⟩⟩,
    fn__law_given := F__law_given,
    g__law_given := ⟨PySem.W.mg_of X G a__law_given, k__law_given, B__law_given⟩,
    fn_is_sequence := F_is_sequence,
    g_is_sequence := ⟨PySem.W.mg_of X G a_is_sequence, k_is_sequence, B_is_sequence⟩,
    fn_is_between := F_is_between,
    g_is_between := ⟨PySem.W.mg_of X G a_is_between, k_is_between, B_is_between⟩,
    fn_as_frac := F_as_frac,
    g_as_frac := ⟨PySem.W.mg_of X G a_as_frac, k_as_frac, B_as_frac⟩,
    fn_is_amount := F_is_amount,
    g_is_amount := ⟨PySem.W.mg_of X G a_is_amount, k_is_amount, B_is_amount⟩,
    fn_is_prize := F_is_prize,
    g_is_prize := ⟨PySem.W.mg_of X G a_is_prize, k_is_prize, B_is_prize⟩,
    fn_Frac_is_below := F_Frac_is_below,
    me_Frac_is_below := ⟨a_Frac_is_below, i_Frac_is_below, k_Frac_is_below⟩,
    b_Frac_is_below := B_Frac_is_below,
    fn_kept_prizes := F_kept_prizes,
    g_kept_prizes := ⟨PySem.W.mg_of X G a_kept_prizes, k_kept_prizes, B_kept_prizes⟩,
    fn_Offer___init__ := F_Offer___init__,
    gd_Offer___init___0 := .all B_Offer___init__,
    fn__law_built := F__law_built,
    g__law_built := ⟨PySem.W.mg_of X G a__law_built, k__law_built, B__law_built⟩,
    fn__law_whole := F__law_whole,
    g__law_whole := ⟨PySem.W.mg_of X G a__law_whole, k__law_whole, B__law_whole⟩,
    fn__law_frac := F__law_frac,
    g__law_frac := ⟨PySem.W.mg_of X G a__law_frac, k__law_frac, B__law_frac⟩,
    fn__law_fits := F__law_fits,
    g__law_fits := ⟨PySem.W.mg_of X G a__law_fits, k__law_fits, B__law_fits⟩,
    fn_common_under := F_common_under,
    g_common_under := ⟨PySem.W.mg_of X G a_common_under, k_common_under, B_common_under⟩,
    fn_scaled := F_scaled,
    g_scaled := ⟨PySem.W.mg_of X G a_scaled, k_scaled, B_scaled⟩,
    fn_tail_sums := F_tail_sums,
    g_tail_sums := ⟨PySem.W.mg_of X G a_tail_sums, k_tail_sums, B_tail_sums⟩,
    fn_Buyer___init__ := F_Buyer___init__,
    gd_Buyer___init___0 := .all B_Buyer___init__,
    fn_Buyer_income := F_Buyer_income,
    me_Buyer_income := ⟨a_Buyer_income, i_Buyer_income, k_Buyer_income⟩,
    b_Buyer_income := B_Buyer_income,
    fn_Buyer_income_points := F_Buyer_income_points,
    me_Buyer_income_points := ⟨a_Buyer_income_points, i_Buyer_income_points, k_Buyer_income_points⟩,
    b_Buyer_income_points := B_Buyer_income_points,
    fn_bends_down := F_bends_down,
    g_bends_down := ⟨PySem.W.mg_of X G a_bends_down, k_bends_down, B_bends_down⟩,
    fn_lid_places := F_lid_places,
    g_lid_places := ⟨PySem.W.mg_of X G a_lid_places, k_lid_places, B_lid_places⟩,
    fn_slope_parts := F_slope_parts,
    g_slope_parts := ⟨PySem.W.mg_of X G a_slope_parts, k_slope_parts, B_slope_parts⟩,
    fn_Buyer_number := F_Buyer_number,
    me_Buyer_number := ⟨a_Buyer_number, i_Buyer_number, k_Buyer_number⟩,
    b_Buyer_number := B_Buyer_number,
    fn_smooth_runs := F_smooth_runs,
    g_smooth_runs := ⟨PySem.W.mg_of X G a_smooth_runs, k_smooth_runs, B_smooth_runs⟩,
    fn_smooth_numbers := F_smooth_numbers,
    g_smooth_numbers := ⟨PySem.W.mg_of X G a_smooth_numbers, k_smooth_numbers, B_smooth_numbers⟩,
    fn_plain_numbers := F_plain_numbers,
    g_plain_numbers := ⟨PySem.W.mg_of X G a_plain_numbers, k_plain_numbers, B_plain_numbers⟩,
    fn__law_numbers_hold := F__law_numbers_hold,
    g__law_numbers_hold := ⟨PySem.W.mg_of X G a__law_numbers_hold, k__law_numbers_hold, B__law_numbers_hold⟩,
    fn__law_asked := F__law_asked,
    g__law_asked := ⟨PySem.W.mg_of X G a__law_asked, k__law_asked, B__law_asked⟩,
    fn_law := F_law,
    kw_Offer___init___prizes := kbn_of2 (fun us ws h1 h2 => match us, h1, ws, h2 with | [_], _, [_], _ => rfl),
    kw_smooth_numbers_offer := kbn_of2 (fun us ws h1 h2 => match us, h1, ws, h2 with | [], _, [_], _ => rfl),
    gc_Frac := ⟨PySem.W.mg_of X G hc_Frac, ⟨mk_Frac, a_Frac___init__, i_Frac___init__, kc_Frac⟩⟩,
    cl_Frac := cl_Frac,
    na_Frac_num := na_Frac_num,
    na_Frac_den := na_Frac_den,
    gc_Offer := ⟨PySem.W.mg_of X G hc_Offer, ⟨mk_Offer, a_Offer___init__, i_Offer___init__, kc_Offer⟩⟩,
    cl_Offer := cl_Offer,
    na_Offer_prizes := na_Offer_prizes,
    gc_Buyer := ⟨PySem.W.mg_of X G hc_Buyer, ⟨mk_Buyer, a_Buyer___init__, i_Buyer___init__, kc_Buyer⟩⟩,
    cl_Buyer := cl_Buyer,
    na_Buyer_under := na_Buyer_under,
    na_Buyer_weights := na_Buyer_weights,
    na_Buyer_worths := na_Buyer_worths,
    na_Buyer_tails := na_Buyer_tails,
    fo_num := fo_num,
    fo_den := fo_den,
    fo_prizes := fo_prizes,
    fo_under := fo_under,
    fo_weights := fo_weights,
    fo_worths := fo_worths,
    fo_tails := fo_tails,
    ty := ty,
    n_abs := PySem.W.mg_none_of X G hn_abs,
    n_all := PySem.W.mg_none_of X G hn_all,
    n_bool := PySem.W.mg_none_of X G hn_bool,
    n_enumerate := PySem.W.mg_none_of X G hn_enumerate,
    n_int := PySem.W.mg_none_of X G hn_int,
    n_isinstance := PySem.W.mg_none_of X G hn_isinstance,
    n_len := PySem.W.mg_none_of X G hn_len,
    n_list := PySem.W.mg_none_of X G hn_list,
    n_range := PySem.W.mg_none_of X G hn_range,
    n_reversed := PySem.W.mg_none_of X G hn_reversed,
    n_str := PySem.W.mg_none_of X G hn_str,
    n_sum := PySem.W.mg_none_of X G hn_sum,
    n_tuple := PySem.W.mg_none_of X G hn_tuple,
    m_gcd := PySem.W.mg_of X G hm_gcd,
    m_lcm := PySem.W.mg_of X G hm_lcm,
    k_MOST_OVER := const_mk X G hk_MOST_OVER ⟨_, rfl⟩,
    k_MOST_UNDER := const_mk X G hk_MOST_UNDER ⟨_, rfl⟩,
    k_MOST_WEIGHT := const_mk X G hk_MOST_WEIGHT ⟨_, rfl⟩,
    k_MOST_PRIZES := const_mk X G hk_MOST_PRIZES ⟨_, rfl⟩ }
  exact ⟨PySem.W.fnOf "law" "law" (defArgs s_law) (defBody s_law) (defScope s_law) .none kV_law dc_law pm_law an_law cd_law ct_law, fun s v => .of_eq rfl, fun base _ _ => (ok_law U).imp (law_imp hlaw)⟩
end Z.L77
end
set_option Elab.async false
set_option linter.all false
set_option maxRecDepth 100000
namespace Z.L77
open PySem PySem.Spec L2
theorem at0 {α : Type} {a b c d : α} : atI [a, b, c, d] 0 = some a := rfl
theorem at1 {α : Type} {a b c d : α} : atI [a, b, c, d] 1 = some b := rfl
theorem at2 {α : Type} {a b c d : α} : atI [a, b, c, d] 2 = some c := rfl
theorem at3 {α : Type} {a b c d : α} : atI [a, b, c, d] 3 = some d := rfl
theorem ix0 : ixN 4 0 = some 0 := rfl
theorem ix1 : ixN 4 1 = some 1 := rfl
theorem ix2 : ixN 4 2 = some 2 := rfl
theorem ix3 : ixN 4 3 = some 3 := rfl
/-- the feed: cells, place, rest, count -/
def fd (cs : List Int) (p x c : Int) : D := .lst [.lst (cs.map D.int), .int p, .int x, .int c]
theorem pick_ok (cs : List Int) (p x c many : Int) (h1 : 1 ≤ many) (h2 : many < 1000000) : ∃ r p' x' c', m__law_pick [fd cs p x c, .int many] = .ok (.int r, fd cs p' x' c') ∧ 0 ≤ r ∧ r < many := by
  have k1 : ∀ i, cDiv i many = true := fun i => cDiv_r (by omega) (by omega)
  have k2 : ∀ i, cNz i many = true := fun i => cNz_r (by omega)
  have k3 : cPow 10 18 = true := by decide
  have k4 : ∀ i, cMul i 39373 = true := fun i => cMul_r (by decide)
  have k5 : ∀ i, cMul i 7919 = true := fun i => cMul_r (by decide)
  have k6 : ∀ i, cMul i 101 = true := fun i => cMul_r (by decide)
  have k7 : ∀ i, cMul i 977 = true := fun i => cMul_r (by decide)
  have k8 : ∀ i, cNz i 2147483629 = true := fun i => cNz_r (by decide)
  have k9 : ∀ i, cNz i 1000000007 = true := fun i => cNz_r (by decide)
  have k10 : ∀ i, cDiv i 32 = true := fun i => cDiv_r (by decide) (by decide)
  have k11 : ∀ i, cDiv i 1013 = true := fun i => cDiv_r (by decide) (by decide)
  have k12 : ∀ i, cDiv i 16 = true := fun i => cDiv_r (by decide) (by decide)
  have rng : ∀ i : Int, 0 ≤ i.fmod many ∧ i.fmod many < many := fun i => ⟨Int.fmod_nonneg_of_pos i (by omega), Int.fmod_lt_of_pos i (by omega)⟩
  have rng2 : ∀ i : Int, cMul (i.fmod 2147483629) ((i.fmod 2147483629).fdiv 32 + 69621) = true := fun i => cMul_l (by
    have a := Int.fmod_nonneg_of_pos i (show (0 : Int) < 2147483629 by decide)
    have b := Int.fmod_lt_of_pos i (show (0 : Int) < 2147483629 by decide)
    omega)
  have k13 : (10 : Int) ^ Int.toNat 18 = 1000000000000000000 := by decide
  unfold m__law_pick mFnB fd
  by_cases hx : 0 < x
  · simp only [b__law_pick, mSeq, mSkip, mSet, mRet, mRetN, mBrk, mCnt, mDrop, mIfS, mVar, mMov, mCon, mUn, mBin, mNil, mCons, mPrim, ofO, mVal, mAnd, mOr, mNot, mIf, mAndV, mOrV, mChain, mCall, mCallB, mCallK, mMake, mMakeK, mMeth, mFldN, mUnN, mBinN, mSl, mSlN, mPart, mNoP, mApp, mSetIx, mFldSet, mPar, mAsg, gtN, gtT, gtCons, gtNil, gTup, gLst, gOne, gTwo, gIs, isNon, gPut, gListOf, gTupOf, gCat, gRev, gSum, gAll, gIsi, okD, tyHas, permL, mTry, noEr, mFn, mFnB, R.bind_ok, R.bind_bad, R.bind_er, List.getElem?_cons_zero, List.getElem?_cons_succ, List.set_cons_zero, List.set_cons_succ, List.length_cons, List.length_nil, List.map_cons, List.map_nil, List.append_nil, List.cons_append, List.nil_append, Option.bind_some, Option.bind_none, Option.map_some, Option.map_none, List.lookup_cons, List.lookup_nil, List.any_cons, List.any_nil, List.contains_cons, List.contains_nil, Bool.or_false, Bool.false_and, Bool.and_false, Bool.false_or, Bool.or_true, Bool.true_or, Bool.and_true, Bool.true_and, Bool.not_true, Bool.not_false, decide_true, decide_false, if_true, if_false, reduceIte, Nat.reduceAdd, Nat.reduceSub, Nat.reduceEqDiff, Int.reduceLT, Int.reduceLE, Nat.reduceBEq, beq_self_eq_true, Bool.false_eq_true, List.replicate_succ, List.replicate_zero, Option.getD_some, Option.getD_none, gI0_e, gIB_e, gII_e, gU_e, gInt_i, gInt_b, gEq_ii, gNe_ii, gIx_t, gIx_l, gIx_k, gLen_t, gLen_l, gLen_k, gNot_b, gFld_e, seqD_t, seqD_l, seqD_k, Nat.zero_le, Nat.reduceLeDiff, Nat.reduceLT, at0, at1, at2, at3, ix0, ix1, ix2, ix3, k1, k2, hx]
    exact ⟨_, _, _, _, rfl, rng x⟩
  · cases cs with
    | nil =>
      simp only [b__law_pick, mSeq, mSkip, mSet, mRet, mRetN, mBrk, mCnt, mDrop, mIfS, mVar, mMov, mCon, mUn, mBin, mNil, mCons, mPrim, ofO, mVal, mAnd, mOr, mNot, mIf, mAndV, mOrV, mChain, mCall, mCallB, mCallK, mMake, mMakeK, mMeth, mFldN, mUnN, mBinN, mSl, mSlN, mPart, mNoP, mApp, mSetIx, mFldSet, mPar, mAsg, gtN, gtT, gtCons, gtNil, gTup, gLst, gOne, gTwo, gIs, isNon, gPut, gListOf, gTupOf, gCat, gRev, gSum, gAll, gIsi, okD, tyHas, permL, mTry, noEr, mFn, mFnB, R.bind_ok, R.bind_bad, R.bind_er, List.getElem?_cons_zero, List.getElem?_cons_succ, List.set_cons_zero, List.set_cons_succ, List.length_cons, List.length_nil, List.map_cons, List.map_nil, List.append_nil, List.cons_append, List.nil_append, Option.bind_some, Option.bind_none, Option.map_some, Option.map_none, List.lookup_cons, List.lookup_nil, List.any_cons, List.any_nil, List.contains_cons, List.contains_nil, Bool.or_false, Bool.false_and, Bool.and_false, Bool.false_or, Bool.or_true, Bool.true_or, Bool.and_true, Bool.true_and, Bool.not_true, Bool.not_false, decide_true, decide_false, if_true, if_false, reduceIte, Nat.reduceAdd, Nat.reduceSub, Nat.reduceEqDiff, Int.reduceLT, Int.reduceLE, Nat.reduceBEq, beq_self_eq_true, Bool.false_eq_true, List.replicate_succ, List.replicate_zero, Option.getD_some, Option.getD_none, gI0_e, gIB_e, gII_e, gU_e, gInt_i, gInt_b, gEq_ii, gNe_ii, gIx_t, gIx_l, gIx_k, gLen_t, gLen_l, gLen_k, gNot_b, gFld_e, seqD_t, seqD_l, seqD_k, Nat.zero_le, Nat.reduceLeDiff, Nat.reduceLT, at0, at1, at2, at3, ix0, ix1, ix2, ix3, k1, k2, k3, k4, k5, k6, k7, k8, k9, k10, k11, k12, k13, rng2, hx, Int.natCast_zero, Int.lt_irrefl, Int.ofNat_zero]
      exact ⟨_, _, _, _, rfl, rng _⟩
    | cons c0 cr =>
      have hl : (0 : Int) < ((c0 :: cr).map D.int).length := by simp
      generalize hcs : (c0 :: cr) = cs at hl
      have k14 : cNz p ((cs.map D.int).length : Int) = true := cNz_r (by omega)
      obtain ⟨cell, hcell⟩ : ∃ cell, atI (cs.map D.int) (p.fmod ((cs.map D.int).length : Int)) = some (.int cell) := by
        have a := Int.fmod_nonneg_of_pos p hl
        have b := Int.fmod_lt_of_pos p hl
        unfold atI ixN
        rw [if_pos a, if_pos b]
        simp only [Option.bind_some, List.getElem?_map]
        have hlt : (p.fmod ((cs.map D.int).length : Int)).toNat < cs.length := by
          have e := List.length_map (f := D.int) (as := cs)
          omega
        exact ⟨cs[(p.fmod ((cs.map D.int).length : Int)).toNat], by rw [List.getElem?_eq_getElem hlt]; rfl⟩
      by_cases hb : 1000000000000000000 ≤ cell
      · by_cases hp : p < ((cs.map D.int).length : Int)
        · simp only [b__law_pick, mSeq, mSkip, mSet, mRet, mRetN, mBrk, mCnt, mDrop, mIfS, mVar, mMov, mCon, mUn, mBin, mNil, mCons, mPrim, ofO, mVal, mAnd, mOr, mNot, mIf, mAndV, mOrV, mChain, mCall, mCallB, mCallK, mMake, mMakeK, mMeth, mFldN, mUnN, mBinN, mSl, mSlN, mPart, mNoP, mApp, mSetIx, mFldSet, mPar, mAsg, gtN, gtT, gtCons, gtNil, gTup, gLst, gOne, gTwo, gIs, isNon, gPut, gListOf, gTupOf, gCat, gRev, gSum, gAll, gIsi, okD, tyHas, permL, mTry, noEr, mFn, mFnB, R.bind_ok, R.bind_bad, R.bind_er, List.getElem?_cons_zero, List.getElem?_cons_succ, List.set_cons_zero, List.set_cons_succ, List.length_cons, List.length_nil, List.map_cons, List.map_nil, List.append_nil, List.cons_append, List.nil_append, Option.bind_some, Option.bind_none, Option.map_some, Option.map_none, List.lookup_cons, List.lookup_nil, List.any_cons, List.any_nil, List.contains_cons, List.contains_nil, Bool.or_false, Bool.false_and, Bool.and_false, Bool.false_or, Bool.or_true, Bool.true_or, Bool.and_true, Bool.true_and, Bool.not_true, Bool.not_false, decide_true, decide_false, if_true, if_false, reduceIte, Nat.reduceAdd, Nat.reduceSub, Nat.reduceEqDiff, Int.reduceLT, Int.reduceLE, Nat.reduceBEq, beq_self_eq_true, Bool.false_eq_true, List.replicate_succ, List.replicate_zero, Option.getD_some, Option.getD_none, gI0_e, gIB_e, gII_e, gU_e, gInt_i, gInt_b, gEq_ii, gNe_ii, gIx_t, gIx_l, gIx_k, gLen_t, gLen_l, gLen_k, gNot_b, gFld_e, seqD_t, seqD_l, seqD_k, Nat.zero_le, Nat.reduceLeDiff, Nat.reduceLT, at0, at1, at2, at3, ix0, ix1, ix2, ix3, k1, k2, k3, k4, k5, k6, k7, k8, k9, k10, k11, k12, k13, k14, rng2, hx, hl, hcell, hb, hp]
          exact ⟨_, _, _, _, rfl, rng _⟩
        · simp only [b__law_pick, mSeq, mSkip, mSet, mRet, mRetN, mBrk, mCnt, mDrop, mIfS, mVar, mMov, mCon, mUn, mBin, mNil, mCons, mPrim, ofO, mVal, mAnd, mOr, mNot, mIf, mAndV, mOrV, mChain, mCall, mCallB, mCallK, mMake, mMakeK, mMeth, mFldN, mUnN, mBinN, mSl, mSlN, mPart, mNoP, mApp, mSetIx, mFldSet, mPar, mAsg, gtN, gtT, gtCons, gtNil, gTup, gLst, gOne, gTwo, gIs, isNon, gPut, gListOf, gTupOf, gCat, gRev, gSum, gAll, gIsi, okD, tyHas, permL, mTry, noEr, mFn, mFnB, R.bind_ok, R.bind_bad, R.bind_er, List.getElem?_cons_zero, List.getElem?_cons_succ, List.set_cons_zero, List.set_cons_succ, List.length_cons, List.length_nil, List.map_cons, List.map_nil, List.append_nil, List.cons_append, List.nil_append, Option.bind_some, Option.bind_none, Option.map_some, Option.map_none, List.lookup_cons, List.lookup_nil, List.any_cons, List.any_nil, List.contains_cons, List.contains_nil, Bool.or_false, Bool.false_and, Bool.and_false, Bool.false_or, Bool.or_true, Bool.true_or, Bool.and_true, Bool.true_and, Bool.not_true, Bool.not_false, decide_true, decide_false, if_true, if_false, reduceIte, Nat.reduceAdd, Nat.reduceSub, Nat.reduceEqDiff, Int.reduceLT, Int.reduceLE, Nat.reduceBEq, beq_self_eq_true, Bool.false_eq_true, List.replicate_succ, List.replicate_zero, Option.getD_some, Option.getD_none, gI0_e, gIB_e, gII_e, gU_e, gInt_i, gInt_b, gEq_ii, gNe_ii, gIx_t, gIx_l, gIx_k, gLen_t, gLen_l, gLen_k, gNot_b, gFld_e, seqD_t, seqD_l, seqD_k, Nat.zero_le, Nat.reduceLeDiff, Nat.reduceLT, at0, at1, at2, at3, ix0, ix1, ix2, ix3, k1, k2, k3, k4, k5, k6, k7, k8, k9, k10, k11, k12, k13, k14, rng2, hx, hl, hcell, hb, hp]
          exact ⟨_, _, _, _, rfl, rng _⟩
      · simp only [b__law_pick, mSeq, mSkip, mSet, mRet, mRetN, mBrk, mCnt, mDrop, mIfS, mVar, mMov, mCon, mUn, mBin, mNil, mCons, mPrim, ofO, mVal, mAnd, mOr, mNot, mIf, mAndV, mOrV, mChain, mCall, mCallB, mCallK, mMake, mMakeK, mMeth, mFldN, mUnN, mBinN, mSl, mSlN, mPart, mNoP, mApp, mSetIx, mFldSet, mPar, mAsg, gtN, gtT, gtCons, gtNil, gTup, gLst, gOne, gTwo, gIs, isNon, gPut, gListOf, gTupOf, gCat, gRev, gSum, gAll, gIsi, okD, tyHas, permL, mTry, noEr, mFn, mFnB, R.bind_ok, R.bind_bad, R.bind_er, List.getElem?_cons_zero, List.getElem?_cons_succ, List.set_cons_zero, List.set_cons_succ, List.length_cons, List.length_nil, List.map_cons, List.map_nil, List.append_nil, List.cons_append, List.nil_append, Option.bind_some, Option.bind_none, Option.map_some, Option.map_none, List.lookup_cons, List.lookup_nil, List.any_cons, List.any_nil, List.contains_cons, List.contains_nil, Bool.or_false, Bool.false_and, Bool.and_false, Bool.false_or, Bool.or_true, Bool.true_or, Bool.and_true, Bool.true_and, Bool.not_true, Bool.not_false, decide_true, decide_false, if_true, if_false, reduceIte, Nat.reduceAdd, Nat.reduceSub, Nat.reduceEqDiff, Int.reduceLT, Int.reduceLE, Nat.reduceBEq, beq_self_eq_true, Bool.false_eq_true, List.replicate_succ, List.replicate_zero, Option.getD_some, Option.getD_none, gI0_e, gIB_e, gII_e, gU_e, gInt_i, gInt_b, gEq_ii, gNe_ii, gIx_t, gIx_l, gIx_k, gLen_t, gLen_l, gLen_k, gNot_b, gFld_e, seqD_t, seqD_l, seqD_k, Nat.zero_le, Nat.reduceLeDiff, Nat.reduceLT, at0, at1, at2, at3, ix0, ix1, ix2, ix3, k1, k2, k3, k4, k5, k6, k7, k8, k9, k10, k11, k12, k13, k14, rng2, hx, hl, hcell, hb]
        exact ⟨_, _, _, _, rfl, rng _⟩
/-! ### greatest common divisors -/
/-- Euclid's steps as the law walks them -/
theorem gcd_loop : ∀ (k : Nat) (ds : List D) (a b : Int) (t : Option D), 0 ≤ a → 0 ≤ b → b < 2 ^ k → 2 * k + 1 ≤ ds.length →
    ∃ b' t', mForL (gtN 2) l__law_gcd_b2 ds [some (.int a), some (.int b), t] = .ok (.nx, [some (.int (gcdI a b)), some (.int b'), t']) := by
  have one : ∀ (d : D) (ds : List D) (a b : Int) (t : Option D), mForL (gtN 2) l__law_gcd_b2 (d :: ds) [some (.int a), some (.int b), t] =
      if b = 0 then .ok (.nx, [some (.int a), some (.int b), some d]) else mForL (gtN 2) l__law_gcd_b2 ds [some (.int b), some (.int (a.fmod b)), some d] := by
    intro d ds a b t
    rw [mForL]
    by_cases h : b = 0
    · simp only [l__law_gcd_b2, mSeq, mSkip, mSet, mRet, mRetN, mBrk, mCnt, mDrop, mIfS, mVar, mMov, mCon, mUn, mBin, mNil, mCons, mPrim, ofO, mVal, mAnd, mOr, mNot, mIf, mAndV, mOrV, mChain, mCall, mCallB, mCallK, mMake, mMakeK, mMeth, mFldN, mUnN, mBinN, mSl, mSlN, mPart, mNoP, mApp, mSetIx, mFldSet, mPar, mAsg, gtN, gtT, gtCons, gtNil, gTup, gLst, gOne, gTwo, gIs, isNon, gPut, gListOf, gTupOf, gCat, gRev, gSum, gAll, gIsi, okD, tyHas, permL, mTry, noEr, mFn, mFnB, R.bind_ok, R.bind_bad, R.bind_er, List.getElem?_cons_zero, List.getElem?_cons_succ, List.set_cons_zero, List.set_cons_succ, List.length_cons, List.length_nil, List.map_cons, List.map_nil, List.append_nil, List.cons_append, List.nil_append, Option.bind_some, Option.bind_none, Option.map_some, Option.map_none, List.lookup_cons, List.lookup_nil, List.any_cons, List.any_nil, List.contains_cons, List.contains_nil, Bool.or_false, Bool.false_and, Bool.and_false, Bool.false_or, Bool.or_true, Bool.true_or, Bool.and_true, Bool.true_and, Bool.not_true, Bool.not_false, decide_true, decide_false, if_true, if_false, reduceIte, Nat.reduceAdd, Nat.reduceSub, Nat.reduceEqDiff, Int.reduceLT, Int.reduceLE, Nat.reduceBEq, beq_self_eq_true, Bool.false_eq_true, List.replicate_succ, List.replicate_zero, Option.getD_some, Option.getD_none, gI0_e, gIB_e, gII_e, gU_e, gInt_i, gInt_b, gEq_ii, gNe_ii, gIx_t, gIx_l, gIx_k, gLen_t, gLen_l, gLen_k, gNot_b, gFld_e, seqD_t, seqD_l, seqD_k, Nat.zero_le, Nat.reduceLeDiff, Nat.reduceLT, h]
    · have hn : cNz a b = true := cNz_r h
      simp only [l__law_gcd_b2, mSeq, mSkip, mSet, mRet, mRetN, mBrk, mCnt, mDrop, mIfS, mVar, mMov, mCon, mUn, mBin, mNil, mCons, mPrim, ofO, mVal, mAnd, mOr, mNot, mIf, mAndV, mOrV, mChain, mCall, mCallB, mCallK, mMake, mMakeK, mMeth, mFldN, mUnN, mBinN, mSl, mSlN, mPart, mNoP, mApp, mSetIx, mFldSet, mPar, mAsg, gtN, gtT, gtCons, gtNil, gTup, gLst, gOne, gTwo, gIs, isNon, gPut, gListOf, gTupOf, gCat, gRev, gSum, gAll, gIsi, okD, tyHas, permL, mTry, noEr, mFn, mFnB, R.bind_ok, R.bind_bad, R.bind_er, List.getElem?_cons_zero, List.getElem?_cons_succ, List.set_cons_zero, List.set_cons_succ, List.length_cons, List.length_nil, List.map_cons, List.map_nil, List.append_nil, List.cons_append, List.nil_append, Option.bind_some, Option.bind_none, Option.map_some, Option.map_none, List.lookup_cons, List.lookup_nil, List.any_cons, List.any_nil, List.contains_cons, List.contains_nil, Bool.or_false, Bool.false_and, Bool.and_false, Bool.false_or, Bool.or_true, Bool.true_or, Bool.and_true, Bool.true_and, Bool.not_true, Bool.not_false, decide_true, decide_false, if_true, if_false, reduceIte, Nat.reduceAdd, Nat.reduceSub, Nat.reduceEqDiff, Int.reduceLT, Int.reduceLE, Nat.reduceBEq, beq_self_eq_true, Bool.false_eq_true, List.replicate_succ, List.replicate_zero, Option.getD_some, Option.getD_none, gI0_e, gIB_e, gII_e, gU_e, gInt_i, gInt_b, gEq_ii, gNe_ii, gIx_t, gIx_l, gIx_k, gLen_t, gLen_l, gLen_k, gNot_b, gFld_e, seqD_t, seqD_l, seqD_k, Nat.zero_le, Nat.reduceLeDiff, Nat.reduceLT, h, hn]
  intro k
  induction k with
  | zero =>
    intro ds a b t ha hb hlt hl
    have e : b = 0 := by simp at hlt; omega
    subst e
    cases ds with
    | nil => simp at hl
    | cons d ds => exact ⟨_, _, by rw [one, if_pos rfl, gcd_zero a ha]⟩
  | succ k ih =>
    intro ds a b t ha hb hlt hl
    cases ds with
    | nil => simp at hl
    | cons d ds =>
      rw [one]
      by_cases h : b = 0
      · subst h
        exact ⟨_, _, by rw [if_pos rfl, gcd_zero a ha]⟩
      · rw [if_neg h, gcd_step a b ha (by omega)]
        have r0 := Int.fmod_nonneg_of_pos a (show 0 < b by omega)
        have r1 := Int.fmod_lt_of_pos a (show 0 < b by omega)
        generalize a.fmod b = r at r0 r1 ⊢
        cases ds with
        | nil => exfalso; simp only [List.length_cons, List.length_nil] at hl; omega
        | cons d2 ds =>
          rw [one]
          by_cases h2 : r = 0
          · subst h2
            exact ⟨_, _, by rw [if_pos rfl, gcd_zero b hb]⟩
          · rw [if_neg h2, gcd_step b r hb (by omega)]
            have q0 := Int.fmod_nonneg_of_pos b (show 0 < r by omega)
            have q1 := Int.fmod_lt_of_pos b (show 0 < r by omega)
            refine ih ds r (b.fmod r) _ r0 q0 ?_ (by simp at hl; omega)
            have e2 : (2 : Int) ^ (k + 1) = 2 * 2 ^ k := by rw [Int.pow_succ]; omega
            rw [e2] at hlt
            have e3 : b.fmod r ≤ b - r := by
              rw [Int.fmod_eq_emod_of_nonneg b r0]
              have := Int.emod_def b r
              have hq : 1 ≤ b / r := Int.le_ediv_of_mul_le (by omega) (by omega)
              have : r * 1 ≤ r * (b / r) := Int.mul_le_mul_of_nonneg_left hq r0
              omega
            omega
end Z.L77
set_option Elab.async false
set_option linter.all false
set_option maxRecDepth 100000
namespace Z.L77
open PySem PySem.Spec L2
theorem gcd_ok (a b : Int) (hb : 0 ≤ b) (hb2 : b < 1180591620717411303424) : m__law_gcd [.int a, .int b] = .ok (.int (gcdI a b)) := by
  have e1 : b.natAbs < 2 ^ (bitLen b).toNat := by
    rw [bitLen_def]; unfold Builtin.Int.intBits
    by_cases z : b = 0
    · subst z; decide
    · rw [if_neg (by simpa using z)]
      simpa using Nat.lt_log2_self (n := b.natAbs)
  have e2 : 0 ≤ bitLen b ∧ bitLen b ≤ 70 := by
    rw [bitLen_def]; unfold Builtin.Int.intBits
    split
    · decide
    · have e : (2 : Nat) ^ 70 = 1180591620717411303424 := by decide
      have := PySem.Flt.log2_lt_of (n := b.natAbs) (k := 70) (by decide) (by omega)
      omega
  have k1 : cMul 2 (bitLen b) = true := cMul_l (by decide)
  have k2 : inLine (2 * bitLen b + 3) = true := inLine_ok (by omega) (by omega)
  have ab : (if a < 0 then -a else a) = (a.natAbs : Int) := by split <;> omega
  have e3 : b < 2 ^ (bitLen b).toNat := by
    have : ((b.natAbs : Nat) : Int) < ((2 ^ (bitLen b).toNat : Nat) : Int) := Int.ofNat_lt.mpr e1
    rw [Int.natCast_pow, show ((2 : Nat) : Int) = 2 from rfl] at this
    omega
  have hg : gcdI (a.natAbs : Int) b = gcdI a b := by rw [gcdI_def, gcdI_def, Int.natAbs_natCast]
  obtain ⟨b', t', lp⟩ := gcd_loop (bitLen b).toNat (intsFrom 0 (2 * bitLen b + 3).toNat) (a.natAbs : Int) b none (Int.natCast_nonneg _) hb e3 (by rw [intsFrom_length]; omega)
  rw [hg] at lp
  simp only [m__law_gcd, b__law_gcd, mFor, mItR1, asI1, mSeq, mSkip, mSet, mRet, mRetN, mBrk, mCnt, mDrop, mIfS, mVar, mMov, mCon, mUn, mBin, mNil, mCons, mPrim, ofO, mVal, mAnd, mOr, mNot, mIf, mAndV, mOrV, mChain, mCall, mCallB, mCallK, mMake, mMakeK, mMeth, mFldN, mUnN, mBinN, mSl, mSlN, mPart, mNoP, mApp, mSetIx, mFldSet, mPar, mAsg, gtN, gtT, gtCons, gtNil, gTup, gLst, gOne, gTwo, gIs, isNon, gPut, gListOf, gTupOf, gCat, gRev, gSum, gAll, gIsi, okD, tyHas, permL, mTry, noEr, mFn, mFnB, R.bind_ok, R.bind_bad, R.bind_er, List.getElem?_cons_zero, List.getElem?_cons_succ, List.set_cons_zero, List.set_cons_succ, List.length_cons, List.length_nil, List.map_cons, List.map_nil, List.append_nil, List.cons_append, List.nil_append, Option.bind_some, Option.bind_none, Option.map_some, Option.map_none, List.lookup_cons, List.lookup_nil, List.any_cons, List.any_nil, List.contains_cons, List.contains_nil, Bool.or_false, Bool.false_and, Bool.and_false, Bool.false_or, Bool.or_true, Bool.true_or, Bool.and_true, Bool.true_and, Bool.not_true, Bool.not_false, decide_true, decide_false, if_true, if_false, reduceIte, Nat.reduceAdd, Nat.reduceSub, Nat.reduceEqDiff, Int.reduceLT, Int.reduceLE, Nat.reduceBEq, beq_self_eq_true, Bool.false_eq_true, List.replicate_succ, List.replicate_zero, Option.getD_some, Option.getD_none, gI0_e, gIB_e, gII_e, gU_e, gInt_i, gInt_b, gEq_ii, gNe_ii, gIx_t, gIx_l, gIx_k, gLen_t, gLen_l, gLen_k, gNot_b, gFld_e, seqD_t, seqD_l, seqD_k, Nat.zero_le, Nat.reduceLeDiff, Nat.reduceLT, k1, k2, ab, lp]
theorem lowest_ok (n d : Int) (hd : 0 < d) (hd2 : d < 1180591620717411303424) : m__law_lowest [.int n, .int d] = .ok (.tup [.int (n / gcdI n d), .int (d / gcdI n d)]) := by
  have hp := gcdI_pos (a := n) hd
  have hl := gcdI_le (a := n) hd
  have k1 : ∀ i, cDiv i (gcdI n d) = true := fun i => cDiv_p hp (by omega)
  have k2 := gcd_ok n d (by omega) hd2
  have k3 : ∀ i : Int, i.fdiv (gcdI n d) = i / gcdI n d := fun i => fdiv_pos i hp
  simp only [m__law_lowest, b__law_lowest, mSeq, mSkip, mSet, mRet, mRetN, mBrk, mCnt, mDrop, mIfS, mVar, mMov, mCon, mUn, mBin, mNil, mCons, mPrim, ofO, mVal, mAnd, mOr, mNot, mIf, mAndV, mOrV, mChain, mCall, mCallB, mCallK, mMake, mMakeK, mMeth, mFldN, mUnN, mBinN, mSl, mSlN, mPart, mNoP, mApp, mSetIx, mFldSet, mPar, mAsg, gtN, gtT, gtCons, gtNil, gTup, gLst, gOne, gTwo, gIs, isNon, gPut, gListOf, gTupOf, gCat, gRev, gSum, gAll, gIsi, okD, tyHas, permL, mTry, noEr, mFn, mFnB, R.bind_ok, R.bind_bad, R.bind_er, List.getElem?_cons_zero, List.getElem?_cons_succ, List.set_cons_zero, List.set_cons_succ, List.length_cons, List.length_nil, List.map_cons, List.map_nil, List.append_nil, List.cons_append, List.nil_append, Option.bind_some, Option.bind_none, Option.map_some, Option.map_none, List.lookup_cons, List.lookup_nil, List.any_cons, List.any_nil, List.contains_cons, List.contains_nil, Bool.or_false, Bool.false_and, Bool.and_false, Bool.false_or, Bool.or_true, Bool.true_or, Bool.and_true, Bool.true_and, Bool.not_true, Bool.not_false, decide_true, decide_false, if_true, if_false, reduceIte, Nat.reduceAdd, Nat.reduceSub, Nat.reduceEqDiff, Int.reduceLT, Int.reduceLE, Nat.reduceBEq, beq_self_eq_true, Bool.false_eq_true, List.replicate_succ, List.replicate_zero, Option.getD_some, Option.getD_none, gI0_e, gIB_e, gII_e, gU_e, gInt_i, gInt_b, gEq_ii, gNe_ii, gIx_t, gIx_l, gIx_k, gLen_t, gLen_l, gLen_k, gNot_b, gFld_e, seqD_t, seqD_l, seqD_k, Nat.zero_le, Nat.reduceLeDiff, Nat.reduceLT, k1, k2, k3, Nat.reduceLeDiff]
end Z.L77
set_option Elab.async false
set_option linter.all false
set_option maxRecDepth 100000
noncomputable section
namespace Z.L77
open PySem PySem.Spec L2
theorem p0 {α : Type} {a b : α} : atI [a, b] 0 = some a := rfl
theorem p1 {α : Type} {a b : α} : atI [a, b] 1 = some b := rfl
abbrev Row := Int × Int × Int
def rowD (r : Row) : D := .tup [.int r.1, .tup [.int r.2.1, .int r.2.2]]
def rowsD (rs : List Row) : D := .lst (rs.map rowD)
def fracD (n d : Int) : D := .ins 0 [.int n, .int d]
structure RowOk (r : Row) : Prop where
  w1 : 1 ≤ r.1
  w2 : r.1 ≤ 999
  n1 : 0 ≤ r.2.1
  n2 : r.2.1 ≤ 9999
  d1 : 1 ≤ r.2.2
  d2 : r.2.2 ≤ 99
  lo : gcdI r.2.1 r.2.2 = 1
structure RowsOk (rs : List Row) : Prop where
  l1 : 1 ≤ rs.length
  l2 : rs.length ≤ 6
  ok : ∀ r ∈ rs, RowOk r
  asc : ∀ (i j : Nat) (r s : Row), i < j → rs[i]? = some r → rs[j]? = some s → r.2.1 * s.2.2 < s.2.1 * r.2.2
def lcmL (ds : List Int) : Int := ds.foldl lcmI 1
theorem lcmL_bound {ds : List Int} (h : ∀ d ∈ ds, 1 ≤ d ∧ d ≤ 99) (hl : ds.length ≤ 6) : 0 < lcmL ds ∧ lcmL ds ≤ 941480149401 := by
  obtain ⟨a, b⟩ := lcm_bound ds 1 (by decide) h
  exact ⟨a, Int.le_trans b (by rw [Int.one_mul]; exact pow99 hl)⟩
theorem take_bound {ds : List Int} (h : ∀ d ∈ ds, 1 ≤ d ∧ d ≤ 99) (hl : ds.length ≤ 6) (i : Nat) : 0 < lcmL (ds.take i) ∧ lcmL (ds.take i) ≤ 941480149401 :=
  lcmL_bound (fun d hd => h d (List.mem_of_mem_take hd)) (by rw [List.length_take]; omega)
theorem common_ok (ds : List Int) (h : ∀ d ∈ ds, 1 ≤ d ∧ d ≤ 99) (hl : ds.length ≤ 6) : m__law_common [.lst (ds.map D.int)] = .ok (.int (lcmL ds)) := by
  obtain ⟨ρ', e, t, hi⟩ := for_list (src := mItL (mVar 0)) (g := gtN 2) (fb := l__law_common_b2) (ρ := [some (.lst (ds.map D.int)), some (.int 1), none]) (ρ1 := [some (.lst (ds.map D.int)), some (.int 1), none])
    (fun i ρ => ∃ t, ρ = [some (.lst (ds.map D.int)), some (.int (lcmL (ds.take i))), t]) rfl ⟨none, rfl⟩ (by
      rintro i d ρ hd ⟨t, rfl⟩
      rw [List.getElem?_map] at hd
      cases q : ds[i]? with
      | none => rw [q] at hd; cases hd
      | some x =>
        rw [q] at hd
        cases hd
        obtain ⟨b1, b2⟩ := take_bound h hl i
        obtain ⟨x1, x2⟩ := h x (List.mem_of_getElem? q)
        have g1 := gcd_ok (lcmL (ds.take i)) x (by omega) (by omega)
        have gp := gcdI_pos (a := lcmL (ds.take i)) (show 0 < x by omega)
        have gl := gcdI_le (a := lcmL (ds.take i)) (show 0 < x by omega)
        have k1 : cDiv x (gcdI (lcmL (ds.take i)) x) = true := cDiv_p gp (by omega)
        have k2 : ∀ z, cMul (lcmL (ds.take i)) z = true := fun z => cMul_l (by omega)
        have e2 : lcmL (ds.take (i + 1)) = lcmL (ds.take i) * (x.fdiv (gcdI (lcmL (ds.take i)) x)) := by
          unfold lcmL at *
          rw [foldl_take q, fdiv_pos x gp, lcmI_eq b1 (by omega)]
        refine ⟨_, _, rfl, .inl ?_, some (.int x), rfl⟩
        rw [e2]
        simp only [l__law_common_b2, mSeq, mSkip, mSet, mRet, mRetN, mBrk, mCnt, mDrop, mIfS, mVar, mMov, mCon, mUn, mBin, mNil, mCons, mPrim, ofO, mVal, mAnd, mOr, mNot, mIf, mAndV, mOrV, mChain, mCall, mCallB, mCallK, mMake, mMakeK, mMeth, mFldN, mUnN, mBinN, mSl, mSlN, mPart, mNoP, mApp, mSetIx, mFldSet, mPar, mAsg, gtN, gtT, gtCons, gtNil, gTup, gLst, gOne, gTwo, gIs, isNon, gPut, gListOf, gTupOf, gCat, gRev, gSum, gAll, gIsi, okD, tyHas, permL, mTry, noEr, mFn, mFnB, R.bind_ok, R.bind_bad, R.bind_er, List.getElem?_cons_zero, List.getElem?_cons_succ, List.set_cons_zero, List.set_cons_succ, List.length_cons, List.length_nil, List.map_cons, List.map_nil, List.append_nil, List.cons_append, List.nil_append, Option.bind_some, Option.bind_none, Option.map_some, Option.map_none, List.lookup_cons, List.lookup_nil, List.any_cons, List.any_nil, List.contains_cons, List.contains_nil, Bool.or_false, Bool.false_and, Bool.and_false, Bool.false_or, Bool.or_true, Bool.true_or, Bool.and_true, Bool.true_and, Bool.not_true, Bool.not_false, decide_true, decide_false, if_true, if_false, reduceIte, Nat.reduceAdd, Nat.reduceSub, Nat.reduceEqDiff, Int.reduceLT, Int.reduceLE, Nat.reduceBEq, beq_self_eq_true, Bool.false_eq_true, List.replicate_succ, List.replicate_zero, Option.getD_some, Option.getD_none, gI0_e, gIB_e, gII_e, gU_e, gInt_i, gInt_b, gEq_ii, gNe_ii, gIx_t, gIx_l, gIx_k, gLen_t, gLen_l, gLen_k, gNot_b, gFld_e, seqD_t, seqD_l, seqD_k, Nat.zero_le, Nat.reduceLeDiff, Nat.reduceLT, g1, k1, k2])
  simp only [List.length_map, List.take_length] at hi
  subst hi
  simp only [m__law_common, b__law_common, mSeq, mSkip, mSet, mRet, mRetN, mBrk, mCnt, mDrop, mIfS, mVar, mMov, mCon, mUn, mBin, mNil, mCons, mPrim, ofO, mVal, mAnd, mOr, mNot, mIf, mAndV, mOrV, mChain, mCall, mCallB, mCallK, mMake, mMakeK, mMeth, mFldN, mUnN, mBinN, mSl, mSlN, mPart, mNoP, mApp, mSetIx, mFldSet, mPar, mAsg, gtN, gtT, gtCons, gtNil, gTup, gLst, gOne, gTwo, gIs, isNon, gPut, gListOf, gTupOf, gCat, gRev, gSum, gAll, gIsi, okD, tyHas, permL, mTry, noEr, mFn, mFnB, R.bind_ok, R.bind_bad, R.bind_er, List.getElem?_cons_zero, List.getElem?_cons_succ, List.set_cons_zero, List.set_cons_succ, List.length_cons, List.length_nil, List.map_cons, List.map_nil, List.append_nil, List.cons_append, List.nil_append, Option.bind_some, Option.bind_none, Option.map_some, Option.map_none, List.lookup_cons, List.lookup_nil, List.any_cons, List.any_nil, List.contains_cons, List.contains_nil, Bool.or_false, Bool.false_and, Bool.and_false, Bool.false_or, Bool.or_true, Bool.true_or, Bool.and_true, Bool.true_and, Bool.not_true, Bool.not_false, decide_true, decide_false, if_true, if_false, reduceIte, Nat.reduceAdd, Nat.reduceSub, Nat.reduceEqDiff, Int.reduceLT, Int.reduceLE, Nat.reduceBEq, beq_self_eq_true, Bool.false_eq_true, List.replicate_succ, List.replicate_zero, Option.getD_some, Option.getD_none, gI0_e, gIB_e, gII_e, gU_e, gInt_i, gInt_b, gEq_ii, gNe_ii, gIx_t, gIx_l, gIx_k, gLen_t, gLen_l, gLen_k, gNot_b, gFld_e, seqD_t, seqD_l, seqD_k, Nat.zero_le, Nat.reduceLeDiff, Nat.reduceLT, e]
theorem common_under_ok (fs : List (Int × Int)) (h : ∀ f ∈ fs, 1 ≤ f.2 ∧ f.2 ≤ 99) (hl : fs.length ≤ 6) : m_common_under [.lst (fs.map fun f => fracD f.1 f.2)] = .ok (.int (lcmL (fs.map (·.2)))) := by
  have h' : ∀ d ∈ fs.map (·.2), 1 ≤ d ∧ d ≤ 99 := fun d hd => by
    obtain ⟨f, hf, rfl⟩ := List.mem_map.mp hd
    exact h f hf
  obtain ⟨ρ', e, t, hi⟩ := for_list (src := mItL (mVar 0)) (g := gtN 2) (fb := l_common_under_b2) (ρ := [some (.lst (fs.map fun f => fracD f.1 f.2)), some (.int 1), none]) (ρ1 := [some (.lst (fs.map fun f => fracD f.1 f.2)), some (.int 1), none])
    (fun i ρ => ∃ t, ρ = [some (.lst (fs.map fun f => fracD f.1 f.2)), some (.int (lcmL ((fs.map (·.2)).take i))), t]) rfl ⟨none, rfl⟩ (by
      rintro i d ρ hd ⟨t, rfl⟩
      rw [List.getElem?_map] at hd
      cases q : fs[i]? with
      | none => rw [q] at hd; cases hd
      | some x =>
        rw [q] at hd
        cases hd
        have q2 : (fs.map (·.2))[i]? = some x.2 := by rw [List.getElem?_map, q]; rfl
        obtain ⟨b1, b2⟩ := take_bound h' (by rw [List.length_map]; exact hl) i
        obtain ⟨x1, x2⟩ := h x (List.mem_of_getElem? q)
        have k1 : cLcm (lcmL ((fs.map (·.2)).take i)) x.2 = true := cLcm_of (by omega) (by omega)
        have e2 : lcmL ((fs.map (·.2)).take (i + 1)) = lcmI (lcmL ((fs.map (·.2)).take i)) x.2 := by
          unfold lcmL
          rw [foldl_take q2]
        refine ⟨_, _, rfl, .inl ?_, some (fracD x.1 x.2), rfl⟩
        rw [e2]
        simp only [l_common_under_b2, fracD, mSeq, mSkip, mSet, mRet, mRetN, mBrk, mCnt, mDrop, mIfS, mVar, mMov, mCon, mUn, mBin, mNil, mCons, mPrim, ofO, mVal, mAnd, mOr, mNot, mIf, mAndV, mOrV, mChain, mCall, mCallB, mCallK, mMake, mMakeK, mMeth, mFldN, mUnN, mBinN, mSl, mSlN, mPart, mNoP, mApp, mSetIx, mFldSet, mPar, mAsg, gtN, gtT, gtCons, gtNil, gTup, gLst, gOne, gTwo, gIs, isNon, gPut, gListOf, gTupOf, gCat, gRev, gSum, gAll, gIsi, okD, tyHas, permL, mTry, noEr, mFn, mFnB, R.bind_ok, R.bind_bad, R.bind_er, List.getElem?_cons_zero, List.getElem?_cons_succ, List.set_cons_zero, List.set_cons_succ, List.length_cons, List.length_nil, List.map_cons, List.map_nil, List.append_nil, List.cons_append, List.nil_append, Option.bind_some, Option.bind_none, Option.map_some, Option.map_none, List.lookup_cons, List.lookup_nil, List.any_cons, List.any_nil, List.contains_cons, List.contains_nil, Bool.or_false, Bool.false_and, Bool.and_false, Bool.false_or, Bool.or_true, Bool.true_or, Bool.and_true, Bool.true_and, Bool.not_true, Bool.not_false, decide_true, decide_false, if_true, if_false, reduceIte, Nat.reduceAdd, Nat.reduceSub, Nat.reduceEqDiff, Int.reduceLT, Int.reduceLE, Nat.reduceBEq, beq_self_eq_true, Bool.false_eq_true, List.replicate_succ, List.replicate_zero, Option.getD_some, Option.getD_none, gI0_e, gIB_e, gII_e, gU_e, gInt_i, gInt_b, gEq_ii, gNe_ii, gIx_t, gIx_l, gIx_k, gLen_t, gLen_l, gLen_k, gNot_b, gFld_e, seqD_t, seqD_l, seqD_k, Nat.zero_le, Nat.reduceLeDiff, Nat.reduceLT, k1])
  rw [List.length_map, show fs.length = (fs.map (·.2)).length by simp, List.take_length] at hi
  subst hi
  simp only [m_common_under, b_common_under, mSeq, mSkip, mSet, mRet, mRetN, mBrk, mCnt, mDrop, mIfS, mVar, mMov, mCon, mUn, mBin, mNil, mCons, mPrim, ofO, mVal, mAnd, mOr, mNot, mIf, mAndV, mOrV, mChain, mCall, mCallB, mCallK, mMake, mMakeK, mMeth, mFldN, mUnN, mBinN, mSl, mSlN, mPart, mNoP, mApp, mSetIx, mFldSet, mPar, mAsg, gtN, gtT, gtCons, gtNil, gTup, gLst, gOne, gTwo, gIs, isNon, gPut, gListOf, gTupOf, gCat, gRev, gSum, gAll, gIsi, okD, tyHas, permL, mTry, noEr, mFn, mFnB, R.bind_ok, R.bind_bad, R.bind_er, List.getElem?_cons_zero, List.getElem?_cons_succ, List.set_cons_zero, List.set_cons_succ, List.length_cons, List.length_nil, List.map_cons, List.map_nil, List.append_nil, List.cons_append, List.nil_append, Option.bind_some, Option.bind_none, Option.map_some, Option.map_none, List.lookup_cons, List.lookup_nil, List.any_cons, List.any_nil, List.contains_cons, List.contains_nil, Bool.or_false, Bool.false_and, Bool.and_false, Bool.false_or, Bool.or_true, Bool.true_or, Bool.and_true, Bool.true_and, Bool.not_true, Bool.not_false, decide_true, decide_false, if_true, if_false, reduceIte, Nat.reduceAdd, Nat.reduceSub, Nat.reduceEqDiff, Int.reduceLT, Int.reduceLE, Nat.reduceBEq, beq_self_eq_true, Bool.false_eq_true, List.replicate_succ, List.replicate_zero, Option.getD_some, Option.getD_none, gI0_e, gIB_e, gII_e, gU_e, gInt_i, gInt_b, gEq_ii, gNe_ii, gIx_t, gIx_l, gIx_k, gLen_t, gLen_l, gLen_k, gNot_b, gFld_e, seqD_t, seqD_l, seqD_k, Nat.zero_le, Nat.reduceLeDiff, Nat.reduceLT, e]
theorem is_integer_ok (n : Int) : m_is_integer [.int n] = .ok (.bl true) := rfl
theorem frac_ok (n d : Int) (hd : 0 < d) (hd2 : d < 1180591620717411303424) : m_Frac___init__ [.ins 0 [], .int n, .int d] = .ok (.non, fracD (n / gcdI n d) (d / gcdI n d)) := by
  have hp := gcdI_pos (a := n) hd
  have hl := gcdI_le (a := n) hd
  have k1 : ∀ i, cDiv i (gcdI n d) = true := fun i => cDiv_p hp (by omega)
  have k3 : ∀ i : Int, i.fdiv (gcdI n d) = i / gcdI n d := fun i => fdiv_pos i hp
  have k4 : ¬ d < 0 := by omega
  have k5 : ¬ d = 0 := by omega
  simp only [m_Frac___init__, b_Frac___init__, fracD, mSeq, mSkip, mSet, mRet, mRetN, mBrk, mCnt, mDrop, mIfS, mVar, mMov, mCon, mUn, mBin, mNil, mCons, mPrim, ofO, mVal, mAnd, mOr, mNot, mIf, mAndV, mOrV, mChain, mCall, mCallB, mCallK, mMake, mMakeK, mMeth, mFldN, mUnN, mBinN, mSl, mSlN, mPart, mNoP, mApp, mSetIx, mFldSet, mPar, mAsg, gtN, gtT, gtCons, gtNil, gTup, gLst, gOne, gTwo, gIs, isNon, gPut, gListOf, gTupOf, gCat, gRev, gSum, gAll, gIsi, okD, tyHas, permL, mTry, noEr, mFn, mFnB, R.bind_ok, R.bind_bad, R.bind_er, List.getElem?_cons_zero, List.getElem?_cons_succ, List.set_cons_zero, List.set_cons_succ, List.length_cons, List.length_nil, List.map_cons, List.map_nil, List.append_nil, List.cons_append, List.nil_append, Option.bind_some, Option.bind_none, Option.map_some, Option.map_none, List.lookup_cons, List.lookup_nil, List.any_cons, List.any_nil, List.contains_cons, List.contains_nil, Bool.or_false, Bool.false_and, Bool.and_false, Bool.false_or, Bool.or_true, Bool.true_or, Bool.and_true, Bool.true_and, Bool.not_true, Bool.not_false, decide_true, decide_false, if_true, if_false, reduceIte, Nat.reduceAdd, Nat.reduceSub, Nat.reduceEqDiff, Int.reduceLT, Int.reduceLE, Nat.reduceBEq, beq_self_eq_true, Bool.false_eq_true, List.replicate_succ, List.replicate_zero, Option.getD_some, Option.getD_none, gI0_e, gIB_e, gII_e, gU_e, gInt_i, gInt_b, gEq_ii, gNe_ii, gIx_t, gIx_l, gIx_k, gLen_t, gLen_l, gLen_k, gNot_b, gFld_e, seqD_t, seqD_l, seqD_k, Nat.zero_le, Nat.reduceLeDiff, Nat.reduceLT, k1, k3, k4, k5, is_integer_ok, if_neg, Nat.lt_irrefl, Nat.zero_lt_succ, Nat.reduceLeDiff, Nat.reduceLT]
theorem frac_low (n d : Int) (hd : 0 < d) (hd2 : d < 1180591620717411303424) (h : gcdI n d = 1) : m_Frac___init__ [.ins 0 [], .int n, .int d] = .ok (.non, fracD n d) := by
  rw [frac_ok n d hd hd2, h, Int.ediv_one, Int.ediv_one]
theorem gcd_one (n : Int) : gcdI n 1 = 1 := by rw [gcdI_def]; simp
theorem as_frac_f (n d : Int) : m_as_frac [fracD n d] = .ok (fracD n d) := rfl
theorem as_frac_i (n : Int) : m_as_frac [.int n] = .ok (fracD n 1) := by
  have k := frac_low n 1 (by decide) (by decide) (gcd_one n)
  simp only [m_as_frac, b_as_frac, mSeq, mSkip, mSet, mRet, mRetN, mBrk, mCnt, mDrop, mIfS, mVar, mMov, mCon, mUn, mBin, mNil, mCons, mPrim, ofO, mVal, mAnd, mOr, mNot, mIf, mAndV, mOrV, mChain, mCall, mCallB, mCallK, mMake, mMakeK, mMeth, mFldN, mUnN, mBinN, mSl, mSlN, mPart, mNoP, mApp, mSetIx, mFldSet, mPar, mAsg, gtN, gtT, gtCons, gtNil, gTup, gLst, gOne, gTwo, gIs, isNon, gPut, gListOf, gTupOf, gCat, gRev, gSum, gAll, gIsi, okD, tyHas, permL, mTry, noEr, mFn, mFnB, R.bind_ok, R.bind_bad, R.bind_er, List.getElem?_cons_zero, List.getElem?_cons_succ, List.set_cons_zero, List.set_cons_succ, List.length_cons, List.length_nil, List.map_cons, List.map_nil, List.append_nil, List.cons_append, List.nil_append, Option.bind_some, Option.bind_none, Option.map_some, Option.map_none, List.lookup_cons, List.lookup_nil, List.any_cons, List.any_nil, List.contains_cons, List.contains_nil, Bool.or_false, Bool.false_and, Bool.and_false, Bool.false_or, Bool.or_true, Bool.true_or, Bool.and_true, Bool.true_and, Bool.not_true, Bool.not_false, decide_true, decide_false, if_true, if_false, reduceIte, Nat.reduceAdd, Nat.reduceSub, Nat.reduceEqDiff, Int.reduceLT, Int.reduceLE, Nat.reduceBEq, beq_self_eq_true, Bool.false_eq_true, List.replicate_succ, List.replicate_zero, Option.getD_some, Option.getD_none, gI0_e, gIB_e, gII_e, gU_e, gInt_i, gInt_b, gEq_ii, gNe_ii, gIx_t, gIx_l, gIx_k, gLen_t, gLen_l, gLen_k, gNot_b, gFld_e, seqD_t, seqD_l, seqD_k, Nat.zero_le, Nat.reduceLeDiff, Nat.reduceLT, is_integer_ok, k]
/-- a worth as it is handed: an integer or a Frac -/
def givenD (n d plain : Int) : D := if plain = 1 ∧ d = 1 then .int n else fracD n d
theorem given_ok (n d plain : Int) (hd : 0 < d) (hd2 : d ≤ 99) (h : gcdI n d = 1) : m__law_given [.tup [.int n, .int d], .int plain] = .ok (givenD n d plain) := by
  have k := frac_low n d hd (by omega) h
  unfold givenD
  by_cases h1 : plain = 1
  · by_cases h2 : d = 1
    · simp only [m__law_given, b__law_given, mSeq, mSkip, mSet, mRet, mRetN, mBrk, mCnt, mDrop, mIfS, mVar, mMov, mCon, mUn, mBin, mNil, mCons, mPrim, ofO, mVal, mAnd, mOr, mNot, mIf, mAndV, mOrV, mChain, mCall, mCallB, mCallK, mMake, mMakeK, mMeth, mFldN, mUnN, mBinN, mSl, mSlN, mPart, mNoP, mApp, mSetIx, mFldSet, mPar, mAsg, gtN, gtT, gtCons, gtNil, gTup, gLst, gOne, gTwo, gIs, isNon, gPut, gListOf, gTupOf, gCat, gRev, gSum, gAll, gIsi, okD, tyHas, permL, mTry, noEr, mFn, mFnB, R.bind_ok, R.bind_bad, R.bind_er, List.getElem?_cons_zero, List.getElem?_cons_succ, List.set_cons_zero, List.set_cons_succ, List.length_cons, List.length_nil, List.map_cons, List.map_nil, List.append_nil, List.cons_append, List.nil_append, Option.bind_some, Option.bind_none, Option.map_some, Option.map_none, List.lookup_cons, List.lookup_nil, List.any_cons, List.any_nil, List.contains_cons, List.contains_nil, Bool.or_false, Bool.false_and, Bool.and_false, Bool.false_or, Bool.or_true, Bool.true_or, Bool.and_true, Bool.true_and, Bool.not_true, Bool.not_false, decide_true, decide_false, if_true, if_false, reduceIte, Nat.reduceAdd, Nat.reduceSub, Nat.reduceEqDiff, Int.reduceLT, Int.reduceLE, Nat.reduceBEq, beq_self_eq_true, Bool.false_eq_true, List.replicate_succ, List.replicate_zero, Option.getD_some, Option.getD_none, gI0_e, gIB_e, gII_e, gU_e, gInt_i, gInt_b, gEq_ii, gNe_ii, gIx_t, gIx_l, gIx_k, gLen_t, gLen_l, gLen_k, gNot_b, gFld_e, seqD_t, seqD_l, seqD_k, Nat.zero_le, Nat.reduceLeDiff, Nat.reduceLT, p0, p1, h1, h2, and_self]
    · simp only [m__law_given, b__law_given, mSeq, mSkip, mSet, mRet, mRetN, mBrk, mCnt, mDrop, mIfS, mVar, mMov, mCon, mUn, mBin, mNil, mCons, mPrim, ofO, mVal, mAnd, mOr, mNot, mIf, mAndV, mOrV, mChain, mCall, mCallB, mCallK, mMake, mMakeK, mMeth, mFldN, mUnN, mBinN, mSl, mSlN, mPart, mNoP, mApp, mSetIx, mFldSet, mPar, mAsg, gtN, gtT, gtCons, gtNil, gTup, gLst, gOne, gTwo, gIs, isNon, gPut, gListOf, gTupOf, gCat, gRev, gSum, gAll, gIsi, okD, tyHas, permL, mTry, noEr, mFn, mFnB, R.bind_ok, R.bind_bad, R.bind_er, List.getElem?_cons_zero, List.getElem?_cons_succ, List.set_cons_zero, List.set_cons_succ, List.length_cons, List.length_nil, List.map_cons, List.map_nil, List.append_nil, List.cons_append, List.nil_append, Option.bind_some, Option.bind_none, Option.map_some, Option.map_none, List.lookup_cons, List.lookup_nil, List.any_cons, List.any_nil, List.contains_cons, List.contains_nil, Bool.or_false, Bool.false_and, Bool.and_false, Bool.false_or, Bool.or_true, Bool.true_or, Bool.and_true, Bool.true_and, Bool.not_true, Bool.not_false, decide_true, decide_false, if_true, if_false, reduceIte, Nat.reduceAdd, Nat.reduceSub, Nat.reduceEqDiff, Int.reduceLT, Int.reduceLE, Nat.reduceBEq, beq_self_eq_true, Bool.false_eq_true, List.replicate_succ, List.replicate_zero, Option.getD_some, Option.getD_none, gI0_e, gIB_e, gII_e, gU_e, gInt_i, gInt_b, gEq_ii, gNe_ii, gIx_t, gIx_l, gIx_k, gLen_t, gLen_l, gLen_k, gNot_b, gFld_e, seqD_t, seqD_l, seqD_k, Nat.zero_le, Nat.reduceLeDiff, Nat.reduceLT, p0, p1, h1, h2, k, and_false]
  · simp only [m__law_given, b__law_given, mSeq, mSkip, mSet, mRet, mRetN, mBrk, mCnt, mDrop, mIfS, mVar, mMov, mCon, mUn, mBin, mNil, mCons, mPrim, ofO, mVal, mAnd, mOr, mNot, mIf, mAndV, mOrV, mChain, mCall, mCallB, mCallK, mMake, mMakeK, mMeth, mFldN, mUnN, mBinN, mSl, mSlN, mPart, mNoP, mApp, mSetIx, mFldSet, mPar, mAsg, gtN, gtT, gtCons, gtNil, gTup, gLst, gOne, gTwo, gIs, isNon, gPut, gListOf, gTupOf, gCat, gRev, gSum, gAll, gIsi, okD, tyHas, permL, mTry, noEr, mFn, mFnB, R.bind_ok, R.bind_bad, R.bind_er, List.getElem?_cons_zero, List.getElem?_cons_succ, List.set_cons_zero, List.set_cons_succ, List.length_cons, List.length_nil, List.map_cons, List.map_nil, List.append_nil, List.cons_append, List.nil_append, Option.bind_some, Option.bind_none, Option.map_some, Option.map_none, List.lookup_cons, List.lookup_nil, List.any_cons, List.any_nil, List.contains_cons, List.contains_nil, Bool.or_false, Bool.false_and, Bool.and_false, Bool.false_or, Bool.or_true, Bool.true_or, Bool.and_true, Bool.true_and, Bool.not_true, Bool.not_false, decide_true, decide_false, if_true, if_false, reduceIte, Nat.reduceAdd, Nat.reduceSub, Nat.reduceEqDiff, Int.reduceLT, Int.reduceLE, Nat.reduceBEq, beq_self_eq_true, Bool.false_eq_true, List.replicate_succ, List.replicate_zero, Option.getD_some, Option.getD_none, gI0_e, gIB_e, gII_e, gU_e, gInt_i, gInt_b, gEq_ii, gNe_ii, gIx_t, gIx_l, gIx_k, gLen_t, gLen_l, gLen_k, gNot_b, gFld_e, seqD_t, seqD_l, seqD_k, Nat.zero_le, Nat.reduceLeDiff, Nat.reduceLT, p0, p1, h1, k, false_and]
theorem as_frac_g (n d plain : Int) : m_as_frac [givenD n d plain] = .ok (fracD n d) := by
  unfold givenD
  split
  · rename_i h; rw [h.2]; exact as_frac_i n
  · exact as_frac_f n d
/-! ### prizes -/
theorem is_seq_l (xs : List D) : m_is_sequence [.lst xs] = .ok (.bl true) := rfl
theorem is_seq_t (xs : List D) : m_is_sequence [.tup xs] = .ok (.bl true) := rfl
theorem between_ok (i a b : Int) (h : a ≤ i) (h' : i ≤ b) : m_is_between [.int i, .int a, .int b] = .ok (.bl true) := by
  simp only [m_is_between, b_is_between, mSeq, mSkip, mSet, mRet, mRetN, mBrk, mCnt, mDrop, mIfS, mVar, mMov, mCon, mUn, mBin, mNil, mCons, mPrim, ofO, mVal, mAnd, mOr, mNot, mIf, mAndV, mOrV, mChain, mCall, mCallB, mCallK, mMake, mMakeK, mMeth, mFldN, mUnN, mBinN, mSl, mSlN, mPart, mNoP, mApp, mSetIx, mFldSet, mPar, mAsg, gtN, gtT, gtCons, gtNil, gTup, gLst, gOne, gTwo, gIs, isNon, gPut, gListOf, gTupOf, gCat, gRev, gSum, gAll, gIsi, okD, tyHas, permL, mTry, noEr, mFn, mFnB, R.bind_ok, R.bind_bad, R.bind_er, List.getElem?_cons_zero, List.getElem?_cons_succ, List.set_cons_zero, List.set_cons_succ, List.length_cons, List.length_nil, List.map_cons, List.map_nil, List.append_nil, List.cons_append, List.nil_append, Option.bind_some, Option.bind_none, Option.map_some, Option.map_none, List.lookup_cons, List.lookup_nil, List.any_cons, List.any_nil, List.contains_cons, List.contains_nil, Bool.or_false, Bool.false_and, Bool.and_false, Bool.false_or, Bool.or_true, Bool.true_or, Bool.and_true, Bool.true_and, Bool.not_true, Bool.not_false, decide_true, decide_false, if_true, if_false, reduceIte, Nat.reduceAdd, Nat.reduceSub, Nat.reduceEqDiff, Int.reduceLT, Int.reduceLE, Nat.reduceBEq, beq_self_eq_true, Bool.false_eq_true, List.replicate_succ, List.replicate_zero, Option.getD_some, Option.getD_none, gI0_e, gIB_e, gII_e, gU_e, gInt_i, gInt_b, gEq_ii, gNe_ii, gIx_t, gIx_l, gIx_k, gLen_t, gLen_l, gLen_k, gNot_b, gFld_e, seqD_t, seqD_l, seqD_k, Nat.zero_le, Nat.reduceLeDiff, Nat.reduceLT, is_integer_ok, decide_eq_true h, decide_eq_true h']
theorem amount_ok (n d plain : Int) (h : 0 ≤ n) (h2 : n ≤ 9999) (h3 : d ≤ 99) : m_is_amount [givenD n d plain] = .ok (.bl true) := by
  have k := as_frac_g n d plain
  have e : m_is_integer [fracD n d] = .ok (.bl false) := rfl
  have l0 : (-9999 : Int) ≤ n := by omega
  revert k
  unfold givenD
  split
  · intro k
    simp only [m_is_amount, b_is_amount, mSeq, mSkip, mSet, mRet, mRetN, mBrk, mCnt, mDrop, mIfS, mVar, mMov, mCon, mUn, mBin, mNil, mCons, mPrim, ofO, mVal, mAnd, mOr, mNot, mIf, mAndV, mOrV, mChain, mCall, mCallB, mCallK, mMake, mMakeK, mMeth, mFldN, mUnN, mBinN, mSl, mSlN, mPart, mNoP, mApp, mSetIx, mFldSet, mPar, mAsg, gtN, gtT, gtCons, gtNil, gTup, gLst, gOne, gTwo, gIs, isNon, gPut, gListOf, gTupOf, gCat, gRev, gSum, gAll, gIsi, okD, tyHas, permL, mTry, noEr, mFn, mFnB, R.bind_ok, R.bind_bad, R.bind_er, List.getElem?_cons_zero, List.getElem?_cons_succ, List.set_cons_zero, List.set_cons_succ, List.length_cons, List.length_nil, List.map_cons, List.map_nil, List.append_nil, List.cons_append, List.nil_append, Option.bind_some, Option.bind_none, Option.map_some, Option.map_none, List.lookup_cons, List.lookup_nil, List.any_cons, List.any_nil, List.contains_cons, List.contains_nil, Bool.or_false, Bool.false_and, Bool.and_false, Bool.false_or, Bool.or_true, Bool.true_or, Bool.and_true, Bool.true_and, Bool.not_true, Bool.not_false, decide_true, decide_false, if_true, if_false, reduceIte, Nat.reduceAdd, Nat.reduceSub, Nat.reduceEqDiff, Int.reduceLT, Int.reduceLE, Nat.reduceBEq, beq_self_eq_true, Bool.false_eq_true, List.replicate_succ, List.replicate_zero, Option.getD_some, Option.getD_none, gI0_e, gIB_e, gII_e, gU_e, gInt_i, gInt_b, gEq_ii, gNe_ii, gIx_t, gIx_l, gIx_k, gLen_t, gLen_l, gLen_k, gNot_b, gFld_e, seqD_t, seqD_l, seqD_k, Nat.zero_le, Nat.reduceLeDiff, Nat.reduceLT, is_integer_ok, k, fracD, decide_eq_true l0, decide_eq_true h2, decide_eq_true h3]
  · intro k
    unfold fracD at k e
    simp only [m_is_amount, b_is_amount, mSeq, mSkip, mSet, mRet, mRetN, mBrk, mCnt, mDrop, mIfS, mVar, mMov, mCon, mUn, mBin, mNil, mCons, mPrim, ofO, mVal, mAnd, mOr, mNot, mIf, mAndV, mOrV, mChain, mCall, mCallB, mCallK, mMake, mMakeK, mMeth, mFldN, mUnN, mBinN, mSl, mSlN, mPart, mNoP, mApp, mSetIx, mFldSet, mPar, mAsg, gtN, gtT, gtCons, gtNil, gTup, gLst, gOne, gTwo, gIs, isNon, gPut, gListOf, gTupOf, gCat, gRev, gSum, gAll, gIsi, okD, tyHas, permL, mTry, noEr, mFn, mFnB, R.bind_ok, R.bind_bad, R.bind_er, List.getElem?_cons_zero, List.getElem?_cons_succ, List.set_cons_zero, List.set_cons_succ, List.length_cons, List.length_nil, List.map_cons, List.map_nil, List.append_nil, List.cons_append, List.nil_append, Option.bind_some, Option.bind_none, Option.map_some, Option.map_none, List.lookup_cons, List.lookup_nil, List.any_cons, List.any_nil, List.contains_cons, List.contains_nil, Bool.or_false, Bool.false_and, Bool.and_false, Bool.false_or, Bool.or_true, Bool.true_or, Bool.and_true, Bool.true_and, Bool.not_true, Bool.not_false, decide_true, decide_false, if_true, if_false, reduceIte, Nat.reduceAdd, Nat.reduceSub, Nat.reduceEqDiff, Int.reduceLT, Int.reduceLE, Nat.reduceBEq, beq_self_eq_true, Bool.false_eq_true, List.replicate_succ, List.replicate_zero, Option.getD_some, Option.getD_none, gI0_e, gIB_e, gII_e, gU_e, gInt_i, gInt_b, gEq_ii, gNe_ii, gIx_t, gIx_l, gIx_k, gLen_t, gLen_l, gLen_k, gNot_b, gFld_e, seqD_t, seqD_l, seqD_k, Nat.zero_le, Nat.reduceLeDiff, Nat.reduceLT, e, k, fracD, decide_eq_true l0, decide_eq_true h2, decide_eq_true h3]
/-- a prize as it is handed: a list or a tuple -/
def prizeD (tup : Bool) (r : Row) (plain : Int) : D := if tup = true then .tup [.int r.1, givenD r.2.1 r.2.2 plain] else .lst [.int r.1, givenD r.2.1 r.2.2 plain]
def keptD (r : Row) : D := .tup [.int r.1, fracD r.2.1 r.2.2]
theorem prize_ok (t : Bool) (r : Row) (plain : Int) (h : RowOk r) : m_is_prize [prizeD t r plain] = .ok (.bl true) := by
  have k1 := between_ok r.1 1 999 h.w1 h.w2
  have k2 := amount_ok r.2.1 r.2.2 plain h.n1 h.n2 h.d2
  have k3 := as_frac_g r.2.1 r.2.2 plain
  cases t <;> simp only [m_is_prize, b_is_prize, prizeD, mSeq, mSkip, mSet, mRet, mRetN, mBrk, mCnt, mDrop, mIfS, mVar, mMov, mCon, mUn, mBin, mNil, mCons, mPrim, ofO, mVal, mAnd, mOr, mNot, mIf, mAndV, mOrV, mChain, mCall, mCallB, mCallK, mMake, mMakeK, mMeth, mFldN, mUnN, mBinN, mSl, mSlN, mPart, mNoP, mApp, mSetIx, mFldSet, mPar, mAsg, gtN, gtT, gtCons, gtNil, gTup, gLst, gOne, gTwo, gIs, isNon, gPut, gListOf, gTupOf, gCat, gRev, gSum, gAll, gIsi, okD, tyHas, permL, mTry, noEr, mFn, mFnB, R.bind_ok, R.bind_bad, R.bind_er, List.getElem?_cons_zero, List.getElem?_cons_succ, List.set_cons_zero, List.set_cons_succ, List.length_cons, List.length_nil, List.map_cons, List.map_nil, List.append_nil, List.cons_append, List.nil_append, Option.bind_some, Option.bind_none, Option.map_some, Option.map_none, List.lookup_cons, List.lookup_nil, List.any_cons, List.any_nil, List.contains_cons, List.contains_nil, Bool.or_false, Bool.false_and, Bool.and_false, Bool.false_or, Bool.or_true, Bool.true_or, Bool.and_true, Bool.true_and, Bool.not_true, Bool.not_false, decide_true, decide_false, if_true, if_false, reduceIte, Nat.reduceAdd, Nat.reduceSub, Nat.reduceEqDiff, Int.reduceLT, Int.reduceLE, Nat.reduceBEq, beq_self_eq_true, Bool.false_eq_true, List.replicate_succ, List.replicate_zero, Option.getD_some, Option.getD_none, gI0_e, gIB_e, gII_e, gU_e, gInt_i, gInt_b, gEq_ii, gNe_ii, gIx_t, gIx_l, gIx_k, gLen_t, gLen_l, gLen_k, gNot_b, gFld_e, seqD_t, seqD_l, seqD_k, Nat.zero_le, Nat.reduceLeDiff, Nat.reduceLT, is_seq_l, is_seq_t, p0, p1, k1, k2, k3, fracD, decide_eq_true h.n1, Nat.reduceLeDiff, Int.reduceNe, decide_not, Int.cast_ofNat_Int]
theorem below_ok (n d n' d' : Int) (h1 : 0 ≤ n ∧ n ≤ 9999) (h2 : 0 ≤ n' ∧ n' ≤ 9999) : m_Frac_is_below [fracD n d, fracD n' d'] = .ok (.bl (decide (n * d' < n' * d))) := by
  have k1 : cMul n d' = true := cMul_l (by omega)
  have k2 : cMul n' d = true := cMul_l (by omega)
  simp only [m_Frac_is_below, b_Frac_is_below, fracD, mSeq, mSkip, mSet, mRet, mRetN, mBrk, mCnt, mDrop, mIfS, mVar, mMov, mCon, mUn, mBin, mNil, mCons, mPrim, ofO, mVal, mAnd, mOr, mNot, mIf, mAndV, mOrV, mChain, mCall, mCallB, mCallK, mMake, mMakeK, mMeth, mFldN, mUnN, mBinN, mSl, mSlN, mPart, mNoP, mApp, mSetIx, mFldSet, mPar, mAsg, gtN, gtT, gtCons, gtNil, gTup, gLst, gOne, gTwo, gIs, isNon, gPut, gListOf, gTupOf, gCat, gRev, gSum, gAll, gIsi, okD, tyHas, permL, mTry, noEr, mFn, mFnB, R.bind_ok, R.bind_bad, R.bind_er, List.getElem?_cons_zero, List.getElem?_cons_succ, List.set_cons_zero, List.set_cons_succ, List.length_cons, List.length_nil, List.map_cons, List.map_nil, List.append_nil, List.cons_append, List.nil_append, Option.bind_some, Option.bind_none, Option.map_some, Option.map_none, List.lookup_cons, List.lookup_nil, List.any_cons, List.any_nil, List.contains_cons, List.contains_nil, Bool.or_false, Bool.false_and, Bool.and_false, Bool.false_or, Bool.or_true, Bool.true_or, Bool.and_true, Bool.true_and, Bool.not_true, Bool.not_false, decide_true, decide_false, if_true, if_false, reduceIte, Nat.reduceAdd, Nat.reduceSub, Nat.reduceEqDiff, Int.reduceLT, Int.reduceLE, Nat.reduceBEq, beq_self_eq_true, Bool.false_eq_true, List.replicate_succ, List.replicate_zero, Option.getD_some, Option.getD_none, gI0_e, gIB_e, gII_e, gU_e, gInt_i, gInt_b, gEq_ii, gNe_ii, gIx_t, gIx_l, gIx_k, gLen_t, gLen_l, gLen_k, gNot_b, gFld_e, seqD_t, seqD_l, seqD_k, Nat.zero_le, Nat.reduceLeDiff, Nat.reduceLT, k1, k2]
theorem enum_at : ∀ (ds : List D) (k i : Nat) (d : D), (enumD k ds)[i]? = some d → ∃ x, ds[i]? = some x ∧ d = .tup [.int ((k + i : Nat) : Int), x] := fun ds k i d h => enumD_get h
theorem app_ok {xs : List D} (h : xs.length < 100000) : (if xs.length < 100000 then some () else none) = some () := if_pos h
theorem kept_ok (t lt : Bool) (rs : List Row) (plain : Int) (h : RowsOk rs) : m_kept_prizes [if lt = true then .tup (rs.map fun r => prizeD t r plain) else .lst (rs.map fun r => prizeD t r plain)] = .ok (.tup (rs.map keptD)) := by
  have len : (rs.map fun r => prizeD t r plain).length = rs.length := List.length_map ..
  have l1 : (1 : Int) ≤ ((rs.map fun r => prizeD t r plain).length : Int) := by rw [len]; have := h.l1; omega
  have l2 : ((rs.map fun r => prizeD t r plain).length : Int) ≤ 6 := by rw [len]; have := h.l2; omega
  have main : ∀ P : D, seqD P = some (!lt, rs.map fun r => prizeD t r plain) → ∃ ρ' a b c, mFor (mSeqD (enumD 0) (mVar 0)) (gtT 2 (gtCons (gtN 2) (gtCons (gtN 3) gtNil))) l_kept_prizes_b4 [some P, some (.lst []), none, none, none] = .ok (.nx, ρ') ∧ ρ' = [some P, some (.lst (rs.map keptD)), a, b, c] := by
    intro P hP
    obtain ⟨ρ', e, a, b, c, hi⟩ := for_list (src := mSeqD (enumD 0) (mVar 0)) (g := gtT 2 (gtCons (gtN 2) (gtCons (gtN 3) gtNil))) (fb := l_kept_prizes_b4) (ρ := [some P, some (.lst []), none, none, none]) (ρ1 := [some P, some (.lst []), none, none, none])
      (ds := enumD 0 (rs.map fun r => prizeD t r plain)) (fun i ρ => ∃ a b c, ρ = [some P, some (.lst ((rs.take i).map keptD)), a, b, c]) (by simp only [mSeqD, mSeq, mSkip, mSet, mRet, mRetN, mBrk, mCnt, mDrop, mIfS, mVar, mMov, mCon, mUn, mBin, mNil, mCons, mPrim, ofO, mVal, mAnd, mOr, mNot, mIf, mAndV, mOrV, mChain, mCall, mCallB, mCallK, mMake, mMakeK, mMeth, mFldN, mUnN, mBinN, mSl, mSlN, mPart, mNoP, mApp, mSetIx, mFldSet, mPar, mAsg, gtN, gtT, gtCons, gtNil, gTup, gLst, gOne, gTwo, gIs, isNon, gPut, gListOf, gTupOf, gCat, gRev, gSum, gAll, gIsi, okD, tyHas, permL, mTry, noEr, mFn, mFnB, R.bind_ok, R.bind_bad, R.bind_er, List.getElem?_cons_zero, List.getElem?_cons_succ, List.set_cons_zero, List.set_cons_succ, List.length_cons, List.length_nil, List.map_cons, List.map_nil, List.append_nil, List.cons_append, List.nil_append, Option.bind_some, Option.bind_none, Option.map_some, Option.map_none, List.lookup_cons, List.lookup_nil, List.any_cons, List.any_nil, List.contains_cons, List.contains_nil, Bool.or_false, Bool.false_and, Bool.and_false, Bool.false_or, Bool.or_true, Bool.true_or, Bool.and_true, Bool.true_and, Bool.not_true, Bool.not_false, decide_true, decide_false, if_true, if_false, reduceIte, Nat.reduceAdd, Nat.reduceSub, Nat.reduceEqDiff, Int.reduceLT, Int.reduceLE, Nat.reduceBEq, beq_self_eq_true, Bool.false_eq_true, List.replicate_succ, List.replicate_zero, Option.getD_some, Option.getD_none, gI0_e, gIB_e, gII_e, gU_e, gInt_i, gInt_b, gEq_ii, gNe_ii, gIx_t, gIx_l, gIx_k, gLen_t, gLen_l, gLen_k, gNot_b, gFld_e, seqD_t, seqD_l, seqD_k, Nat.zero_le, Nat.reduceLeDiff, Nat.reduceLT, hP]) ⟨none, none, none, rfl⟩ (by
        rintro i d ρ hd ⟨a, b, c, rfl⟩
        obtain ⟨x, hx, rfl⟩ := enum_at _ _ _ _ hd
        rw [List.getElem?_map] at hx
        cases q : rs[i]? with
        | none => rw [q] at hx; cases hx
        | some r =>
          rw [q] at hx
          simp only [Option.map_some, Option.some.injEq] at hx
          subst hx
          have hr := h.ok r (List.mem_of_getElem? q)
          have k1 := prize_ok t r plain hr
          have k2 := as_frac_g r.2.1 r.2.2 plain
          have hil : i < rs.length := (List.getElem?_eq_some_iff.mp q).1
          have tl : ((rs.take i).map keptD).length = i := by rw [List.length_map, List.length_take]; omega
          have k3 : ((rs.take i).map keptD).length < 100000 := by have := h.l2; omega
          have e2 : (rs.take (i + 1)).map keptD = (rs.take i).map keptD ++ [keptD r] := by rw [List.take_add_one, q]; simp
          have g0 : gIx (prizeD t r plain) (.int 0) = some (.int r.1) := by cases t <;> rfl
          have g1 : gIx (prizeD t r plain) (.int 1) = some (givenD r.2.1 r.2.2 plain) := by cases t <;> rfl
          refine ⟨_, _, rfl, .inl ?_, some (.int ((0 + i : Nat) : Int)), some (prizeD t r plain), some (fracD r.2.1 r.2.2), rfl⟩
          rw [e2]
          by_cases hi0 : i = 0
          · subst hi0
            have z : ¬ (0 : Int) < ((0 : Nat) : Int) := by decide
            simp only [l_kept_prizes_b4, mSeq, mSkip, mSet, mRet, mRetN, mBrk, mCnt, mDrop, mIfS, mVar, mMov, mCon, mUn, mBin, mNil, mCons, mPrim, ofO, mVal, mAnd, mOr, mNot, mIf, mAndV, mOrV, mChain, mCall, mCallB, mCallK, mMake, mMakeK, mMeth, mFldN, mUnN, mBinN, mSl, mSlN, mPart, mNoP, mApp, mSetIx, mFldSet, mPar, mAsg, gtN, gtT, gtCons, gtNil, gTup, gLst, gOne, gTwo, gIs, isNon, gPut, gListOf, gTupOf, gCat, gRev, gSum, gAll, gIsi, okD, tyHas, permL, mTry, noEr, mFn, mFnB, R.bind_ok, R.bind_bad, R.bind_er, List.getElem?_cons_zero, List.getElem?_cons_succ, List.set_cons_zero, List.set_cons_succ, List.length_cons, List.length_nil, List.map_cons, List.map_nil, List.append_nil, List.cons_append, List.nil_append, Option.bind_some, Option.bind_none, Option.map_some, Option.map_none, List.lookup_cons, List.lookup_nil, List.any_cons, List.any_nil, List.contains_cons, List.contains_nil, Bool.or_false, Bool.false_and, Bool.and_false, Bool.false_or, Bool.or_true, Bool.true_or, Bool.and_true, Bool.true_and, Bool.not_true, Bool.not_false, decide_true, decide_false, if_true, if_false, reduceIte, Nat.reduceAdd, Nat.reduceSub, Nat.reduceEqDiff, Int.reduceLT, Int.reduceLE, Nat.reduceBEq, beq_self_eq_true, Bool.false_eq_true, List.replicate_succ, List.replicate_zero, Option.getD_some, Option.getD_none, gI0_e, gIB_e, gII_e, gU_e, gInt_i, gInt_b, gEq_ii, gNe_ii, gIx_t, gIx_l, gIx_k, gLen_t, gLen_l, gLen_k, gNot_b, gFld_e, seqD_t, seqD_l, seqD_k, Nat.zero_le, Nat.reduceLeDiff, Nat.reduceLT, k1, g0, g1, k2, z, k3, keptD]
          · have z : (0 : Int) < ((0 + i : Nat) : Int) := by omega
            obtain ⟨j, rfl⟩ : ∃ j, i = j + 1 := ⟨i - 1, by omega⟩
            have hjl : j < rs.length := by omega
            have q0 : rs[j]? = some rs[j] := List.getElem?_eq_getElem hjl
            generalize rs[j] = r0 at q0
            have hr0 := h.ok r0 (List.mem_of_getElem? q0)
            have lt0 := h.asc j (j + 1) r0 r (Nat.lt_succ_self j) q0 q
            have hb := below_ok r0.2.1 r0.2.2 r.2.1 r.2.2 ⟨hr0.n1, hr0.n2⟩ ⟨hr.n1, hr.n2⟩
            rw [decide_eq_true lt0] at hb
            have e3 : atI ((rs.take (j + 1)).map keptD) (((0 + (j + 1) : Nat) : Int) - 1) = some (keptD r0) := by
              rw [show ((0 + (j + 1) : Nat) : Int) - 1 = (j : Int) by omega]
              refine atI_nat ?_
              rw [List.getElem?_map, List.getElem?_take_of_lt (by omega), q0]; rfl
            have e4 : gIx (keptD r0) (.int 1) = some (fracD r0.2.1 r0.2.2) := rfl
            have e5 : ∀ x y : Int, ∃ f, fracD x y = .ins 0 f := fun x y => ⟨_, rfl⟩
            unfold fracD at hb e4
            simp only [l_kept_prizes_b4, mSeq, mSkip, mSet, mRet, mRetN, mBrk, mCnt, mDrop, mIfS, mVar, mMov, mCon, mUn, mBin, mNil, mCons, mPrim, ofO, mVal, mAnd, mOr, mNot, mIf, mAndV, mOrV, mChain, mCall, mCallB, mCallK, mMake, mMakeK, mMeth, mFldN, mUnN, mBinN, mSl, mSlN, mPart, mNoP, mApp, mSetIx, mFldSet, mPar, mAsg, gtN, gtT, gtCons, gtNil, gTup, gLst, gOne, gTwo, gIs, isNon, gPut, gListOf, gTupOf, gCat, gRev, gSum, gAll, gIsi, okD, tyHas, permL, mTry, noEr, mFn, mFnB, R.bind_ok, R.bind_bad, R.bind_er, List.getElem?_cons_zero, List.getElem?_cons_succ, List.set_cons_zero, List.set_cons_succ, List.length_cons, List.length_nil, List.map_cons, List.map_nil, List.append_nil, List.cons_append, List.nil_append, Option.bind_some, Option.bind_none, Option.map_some, Option.map_none, List.lookup_cons, List.lookup_nil, List.any_cons, List.any_nil, List.contains_cons, List.contains_nil, Bool.or_false, Bool.false_and, Bool.and_false, Bool.false_or, Bool.or_true, Bool.true_or, Bool.and_true, Bool.true_and, Bool.not_true, Bool.not_false, decide_true, decide_false, if_true, if_false, reduceIte, Nat.reduceAdd, Nat.reduceSub, Nat.reduceEqDiff, Int.reduceLT, Int.reduceLE, Nat.reduceBEq, beq_self_eq_true, Bool.false_eq_true, List.replicate_succ, List.replicate_zero, Option.getD_some, Option.getD_none, gI0_e, gIB_e, gII_e, gU_e, gInt_i, gInt_b, gEq_ii, gNe_ii, gIx_t, gIx_l, gIx_k, gLen_t, gLen_l, gLen_k, gNot_b, gFld_e, seqD_t, seqD_l, seqD_k, Nat.zero_le, Nat.reduceLeDiff, Nat.reduceLT, k1, g0, g1, k2, z, k3, e3, e4, hb, keptD, fracD, p0, p1])
    rw [enumD_length, len, List.take_length] at hi
    exact ⟨ρ', a, b, c, e, hi⟩
  cases lt with
  | true =>
    obtain ⟨ρ', a, b, c, e, rfl⟩ := main (.tup (rs.map fun r => prizeD t r plain)) rfl
    simp only [m_kept_prizes, b_kept_prizes, mSeq, mSkip, mSet, mRet, mRetN, mBrk, mCnt, mDrop, mIfS, mVar, mMov, mCon, mUn, mBin, mNil, mCons, mPrim, ofO, mVal, mAnd, mOr, mNot, mIf, mAndV, mOrV, mChain, mCall, mCallB, mCallK, mMake, mMakeK, mMeth, mFldN, mUnN, mBinN, mSl, mSlN, mPart, mNoP, mApp, mSetIx, mFldSet, mPar, mAsg, gtN, gtT, gtCons, gtNil, gTup, gLst, gOne, gTwo, gIs, isNon, gPut, gListOf, gTupOf, gCat, gRev, gSum, gAll, gIsi, okD, tyHas, permL, mTry, noEr, mFn, mFnB, R.bind_ok, R.bind_bad, R.bind_er, List.getElem?_cons_zero, List.getElem?_cons_succ, List.set_cons_zero, List.set_cons_succ, List.length_cons, List.length_nil, List.map_cons, List.map_nil, List.append_nil, List.cons_append, List.nil_append, Option.bind_some, Option.bind_none, Option.map_some, Option.map_none, List.lookup_cons, List.lookup_nil, List.any_cons, List.any_nil, List.contains_cons, List.contains_nil, Bool.or_false, Bool.false_and, Bool.and_false, Bool.false_or, Bool.or_true, Bool.true_or, Bool.and_true, Bool.true_and, Bool.not_true, Bool.not_false, decide_true, decide_false, if_true, if_false, reduceIte, Nat.reduceAdd, Nat.reduceSub, Nat.reduceEqDiff, Int.reduceLT, Int.reduceLE, Nat.reduceBEq, beq_self_eq_true, Bool.false_eq_true, List.replicate_succ, List.replicate_zero, Option.getD_some, Option.getD_none, gI0_e, gIB_e, gII_e, gU_e, gInt_i, gInt_b, gEq_ii, gNe_ii, gIx_t, gIx_l, gIx_k, gLen_t, gLen_l, gLen_k, gNot_b, gFld_e, seqD_t, seqD_l, seqD_k, Nat.zero_le, Nat.reduceLeDiff, Nat.reduceLT, is_seq_t, decide_eq_true l1, decide_eq_true l2, e]
  | false =>
    obtain ⟨ρ', a, b, c, e, rfl⟩ := main (.lst (rs.map fun r => prizeD t r plain)) rfl
    simp only [m_kept_prizes, b_kept_prizes, mSeq, mSkip, mSet, mRet, mRetN, mBrk, mCnt, mDrop, mIfS, mVar, mMov, mCon, mUn, mBin, mNil, mCons, mPrim, ofO, mVal, mAnd, mOr, mNot, mIf, mAndV, mOrV, mChain, mCall, mCallB, mCallK, mMake, mMakeK, mMeth, mFldN, mUnN, mBinN, mSl, mSlN, mPart, mNoP, mApp, mSetIx, mFldSet, mPar, mAsg, gtN, gtT, gtCons, gtNil, gTup, gLst, gOne, gTwo, gIs, isNon, gPut, gListOf, gTupOf, gCat, gRev, gSum, gAll, gIsi, okD, tyHas, permL, mTry, noEr, mFn, mFnB, R.bind_ok, R.bind_bad, R.bind_er, List.getElem?_cons_zero, List.getElem?_cons_succ, List.set_cons_zero, List.set_cons_succ, List.length_cons, List.length_nil, List.map_cons, List.map_nil, List.append_nil, List.cons_append, List.nil_append, Option.bind_some, Option.bind_none, Option.map_some, Option.map_none, List.lookup_cons, List.lookup_nil, List.any_cons, List.any_nil, List.contains_cons, List.contains_nil, Bool.or_false, Bool.false_and, Bool.and_false, Bool.false_or, Bool.or_true, Bool.true_or, Bool.and_true, Bool.true_and, Bool.not_true, Bool.not_false, decide_true, decide_false, if_true, if_false, reduceIte, Nat.reduceAdd, Nat.reduceSub, Nat.reduceEqDiff, Int.reduceLT, Int.reduceLE, Nat.reduceBEq, beq_self_eq_true, Bool.false_eq_true, List.replicate_succ, List.replicate_zero, Option.getD_some, Option.getD_none, gI0_e, gIB_e, gII_e, gU_e, gInt_i, gInt_b, gEq_ii, gNe_ii, gIx_t, gIx_l, gIx_k, gLen_t, gLen_l, gLen_k, gNot_b, gFld_e, seqD_t, seqD_l, seqD_k, Nat.zero_le, Nat.reduceLeDiff, Nat.reduceLT, is_seq_l, decide_eq_true l1, decide_eq_true l2, e]
end Z.L77
end
set_option Elab.async false
set_option linter.all false
set_option maxRecDepth 100000
noncomputable section
namespace Z.L77
open PySem PySem.Spec L2
def offD (rs : List Row) : D := .ins 1 [.tup (rs.map keptD)]
theorem offer_ok (t lt : Bool) (rs : List Row) (plain : Int) (h : RowsOk rs) : m_Offer___init__ [.ins 1 [], if lt = true then .tup (rs.map fun r => prizeD t r plain) else .lst (rs.map fun r => prizeD t r plain)] = .ok (.non, offD rs) := by
  have k := kept_ok t lt rs plain h
  simp only [m_Offer___init__, b_Offer___init__, mSeq, mSkip, mSet, mRet, mRetN, mBrk, mCnt, mDrop, mIfS, mVar, mMov, mCon, mUn, mBin, mNil, mCons, mPrim, ofO, mVal, mAnd, mOr, mNot, mIf, mAndV, mOrV, mChain, mCall, mCallB, mCallK, mMake, mMakeK, mMeth, mFldN, mUnN, mBinN, mSl, mSlN, mPart, mNoP, mApp, mSetIx, mFldSet, mPar, mAsg, gtN, gtT, gtCons, gtNil, gTup, gLst, gOne, gTwo, gIs, isNon, gPut, gListOf, gTupOf, gCat, gRev, gSum, gAll, gIsi, okD, tyHas, permL, mTry, noEr, mFn, mFnB, R.bind_ok, R.bind_bad, R.bind_er, List.getElem?_cons_zero, List.getElem?_cons_succ, List.set_cons_zero, List.set_cons_succ, List.length_cons, List.length_nil, List.map_cons, List.map_nil, List.append_nil, List.cons_append, List.nil_append, Option.bind_some, Option.bind_none, Option.map_some, Option.map_none, List.lookup_cons, List.lookup_nil, List.any_cons, List.any_nil, List.contains_cons, List.contains_nil, Bool.or_false, Bool.false_and, Bool.and_false, Bool.false_or, Bool.or_true, Bool.true_or, Bool.and_true, Bool.true_and, Bool.not_true, Bool.not_false, decide_true, decide_false, if_true, if_false, reduceIte, Nat.reduceAdd, Nat.reduceSub, Nat.reduceEqDiff, Int.reduceLT, Int.reduceLE, Nat.reduceBEq, beq_self_eq_true, Bool.false_eq_true, List.replicate_succ, List.replicate_zero, Option.getD_some, Option.getD_none, gI0_e, gIB_e, gII_e, gU_e, gInt_i, gInt_b, gEq_ii, gNe_ii, gIx_t, gIx_l, gIx_k, gLen_t, gLen_l, gLen_k, gNot_b, gFld_e, seqD_t, seqD_l, seqD_k, Nat.zero_le, Nat.reduceLeDiff, Nat.reduceLT, k, offD]
theorem built_ok (rs : List Row) (form : Int) (h : RowsOk rs) (h0 : 0 ≤ form) (h3 : form ≤ 3) : m__law_built [rowsD rs, .int form] = .ok (offD rs) := by
  have c1 : cNz form 2 = true := cNz_r (by decide)
  have len : (rs.map rowD).length ≤ 100000 := by rw [List.length_map]; have := h.l2; omega
  have m1 : ∀ plain : Int, mCompL [4] (gtN 4) mYes l__law_built_e2_13 (rs.map rowD) [some (rowsD rs), some (.int form), some (.int plain), none, none, none] = .ok (rs.map fun r => prizeD false r plain, [some (rowsD rs), some (.int form), some (.int plain), none, none, none]) := fun plain => by
    have z := comp_map (vs := [4]) (g := gtN 4) (fe := l__law_built_e2_13) (ρ := [some (rowsD rs), some (.int form), some (.int plain), none, none, none]) (h := fun d => match d with
        | .tup [.int w, .tup [.int n, .int d]] => prizeD false (w, n, d) plain
        | _ => .non) (rs.map rowD) (by
      intro d hd
      obtain ⟨r, hr, rfl⟩ := List.mem_map.mp hd
      have ro := h.ok r hr
      have k := given_ok r.2.1 r.2.2 plain (by have := ro.d1; omega) ro.d2 ro.lo
      refine ⟨[some (rowsD rs), some (.int form), some (.int plain), none, some (rowD r), none], [some (rowsD rs), some (.int form), some (.int plain), none, some (rowD r), none], rfl, ?_, rfl⟩
      simp only [l__law_built_e2_13, rowD, mSeq, mSkip, mSet, mRet, mRetN, mBrk, mCnt, mDrop, mIfS, mVar, mMov, mCon, mUn, mBin, mNil, mCons, mPrim, ofO, mVal, mAnd, mOr, mNot, mIf, mAndV, mOrV, mChain, mCall, mCallB, mCallK, mMake, mMakeK, mMeth, mFldN, mUnN, mBinN, mSl, mSlN, mPart, mNoP, mApp, mSetIx, mFldSet, mPar, mAsg, gtN, gtT, gtCons, gtNil, gTup, gLst, gOne, gTwo, gIs, isNon, gPut, gListOf, gTupOf, gCat, gRev, gSum, gAll, gIsi, okD, tyHas, permL, mTry, noEr, mFn, mFnB, R.bind_ok, R.bind_bad, R.bind_er, List.getElem?_cons_zero, List.getElem?_cons_succ, List.set_cons_zero, List.set_cons_succ, List.length_cons, List.length_nil, List.map_cons, List.map_nil, List.append_nil, List.cons_append, List.nil_append, Option.bind_some, Option.bind_none, Option.map_some, Option.map_none, List.lookup_cons, List.lookup_nil, List.any_cons, List.any_nil, List.contains_cons, List.contains_nil, Bool.or_false, Bool.false_and, Bool.and_false, Bool.false_or, Bool.or_true, Bool.true_or, Bool.and_true, Bool.true_and, Bool.not_true, Bool.not_false, decide_true, decide_false, if_true, if_false, reduceIte, Nat.reduceAdd, Nat.reduceSub, Nat.reduceEqDiff, Int.reduceLT, Int.reduceLE, Nat.reduceBEq, beq_self_eq_true, Bool.false_eq_true, List.replicate_succ, List.replicate_zero, Option.getD_some, Option.getD_none, gI0_e, gIB_e, gII_e, gU_e, gInt_i, gInt_b, gEq_ii, gNe_ii, gIx_t, gIx_l, gIx_k, gLen_t, gLen_l, gLen_k, gNot_b, gFld_e, seqD_t, seqD_l, seqD_k, Nat.zero_le, Nat.reduceLeDiff, Nat.reduceLT, p0, p1, k, prizeD])
    rw [z, List.map_map]
    rfl
  have m2 : ∀ plain : Int, mCompL [5] (gtN 5) mYes l__law_built_e5_30 (rs.map fun r => prizeD false r plain) [some (rowsD rs), some (.int form), some (.int plain), some (.lst (rs.map fun r => prizeD false r plain)), none, none] = .ok (rs.map fun r => prizeD true r plain, [some (rowsD rs), some (.int form), some (.int plain), some (.lst (rs.map fun r => prizeD false r plain)), none, none]) := fun plain => by
    have z := comp_map (vs := [5]) (g := gtN 5) (fe := l__law_built_e5_30) (ρ := [some (rowsD rs), some (.int form), some (.int plain), some (.lst (rs.map fun r => prizeD false r plain)), none, none]) (h := fun d => match d with
        | .lst xs => .tup xs
        | _ => .non) (rs.map fun r => prizeD false r plain) (by
      intro d hd
      obtain ⟨r, hr, rfl⟩ := List.mem_map.mp hd
      exact ⟨[some (rowsD rs), some (.int form), some (.int plain), some (.lst (rs.map fun r => prizeD false r plain)), none, some (prizeD false r plain)], [some (rowsD rs), some (.int form), some (.int plain), some (.lst (rs.map fun r => prizeD false r plain)), none, some (prizeD false r plain)], rfl, rfl, rfl⟩)
    rw [z, List.map_map]
    rfl
  have o1 := fun plain => offer_ok false false rs plain h
  have o2 := fun plain => offer_ok true true rs plain h
  simp only [if_true, if_false, Bool.false_eq_true] at o1 o2
  have e1 : ∀ plain : Int, mComp [4] (mItL (mVar 0)) (gtN 4) mYes l__law_built_e2_13 [some (rowsD rs), some (.int form), some (.int plain), none, none, none] = .ok (.lst (rs.map fun r => prizeD false r plain), [some (rowsD rs), some (.int form), some (.int plain), none, none, none]) := fun plain => mComp_ok rfl len (m1 plain) rfl
  have len2 : ∀ plain, (rs.map fun r => prizeD false r plain).length ≤ 100000 := fun plain => by rw [List.length_map]; have := h.l2; omega
  have e2 : ∀ plain : Int, mComp [5] (mItL (mVar 3)) (gtN 5) mYes l__law_built_e5_30 [some (rowsD rs), some (.int form), some (.int plain), some (.lst (rs.map fun r => prizeD false r plain)), none, none] = .ok (.lst (rs.map fun r => prizeD true r plain), [some (rowsD rs), some (.int form), some (.int plain), some (.lst (rs.map fun r => prizeD false r plain)), none, none]) := fun plain => mComp_ok rfl (len2 plain) (m2 plain) rfl
  have po : ∀ x y z : D, permL [0] [x] = [x] := fun _ _ _ => rfl
  by_cases hf : form < 2
  · simp only [m__law_built, b__law_built, mSeq, mSkip, mSet, mRet, mRetN, mBrk, mCnt, mDrop, mIfS, mVar, mMov, mCon, mUn, mBin, mNil, mCons, mPrim, ofO, mVal, mAnd, mOr, mNot, mIf, mAndV, mOrV, mChain, mCall, mCallB, mCallK, mMake, mMakeK, mMeth, mFldN, mUnN, mBinN, mSl, mSlN, mPart, mNoP, mApp, mSetIx, mFldSet, mPar, mAsg, gtN, gtT, gtCons, gtNil, gTup, gLst, gOne, gTwo, gIs, isNon, gPut, gListOf, gTupOf, gCat, gRev, gSum, gAll, gIsi, okD, tyHas, permL, mTry, noEr, mFn, mFnB, R.bind_ok, R.bind_bad, R.bind_er, List.getElem?_cons_zero, List.getElem?_cons_succ, List.set_cons_zero, List.set_cons_succ, List.length_cons, List.length_nil, List.map_cons, List.map_nil, List.append_nil, List.cons_append, List.nil_append, Option.bind_some, Option.bind_none, Option.map_some, Option.map_none, List.lookup_cons, List.lookup_nil, List.any_cons, List.any_nil, List.contains_cons, List.contains_nil, Bool.or_false, Bool.false_and, Bool.and_false, Bool.false_or, Bool.or_true, Bool.true_or, Bool.and_true, Bool.true_and, Bool.not_true, Bool.not_false, decide_true, decide_false, if_true, if_false, reduceIte, Nat.reduceAdd, Nat.reduceSub, Nat.reduceEqDiff, Int.reduceLT, Int.reduceLE, Nat.reduceBEq, beq_self_eq_true, Bool.false_eq_true, List.replicate_succ, List.replicate_zero, Option.getD_some, Option.getD_none, gI0_e, gIB_e, gII_e, gU_e, gInt_i, gInt_b, gEq_ii, gNe_ii, gIx_t, gIx_l, gIx_k, gLen_t, gLen_l, gLen_k, gNot_b, gFld_e, seqD_t, seqD_l, seqD_k, Nat.zero_le, Nat.reduceLeDiff, Nat.reduceLT, c1, e1, hf, o1, offD]
  · simp only [m__law_built, b__law_built, mSeq, mSkip, mSet, mRet, mRetN, mBrk, mCnt, mDrop, mIfS, mVar, mMov, mCon, mUn, mBin, mNil, mCons, mPrim, ofO, mVal, mAnd, mOr, mNot, mIf, mAndV, mOrV, mChain, mCall, mCallB, mCallK, mMake, mMakeK, mMeth, mFldN, mUnN, mBinN, mSl, mSlN, mPart, mNoP, mApp, mSetIx, mFldSet, mPar, mAsg, gtN, gtT, gtCons, gtNil, gTup, gLst, gOne, gTwo, gIs, isNon, gPut, gListOf, gTupOf, gCat, gRev, gSum, gAll, gIsi, okD, tyHas, permL, mTry, noEr, mFn, mFnB, R.bind_ok, R.bind_bad, R.bind_er, List.getElem?_cons_zero, List.getElem?_cons_succ, List.set_cons_zero, List.set_cons_succ, List.length_cons, List.length_nil, List.map_cons, List.map_nil, List.append_nil, List.cons_append, List.nil_append, Option.bind_some, Option.bind_none, Option.map_some, Option.map_none, List.lookup_cons, List.lookup_nil, List.any_cons, List.any_nil, List.contains_cons, List.contains_nil, Bool.or_false, Bool.false_and, Bool.and_false, Bool.false_or, Bool.or_true, Bool.true_or, Bool.and_true, Bool.true_and, Bool.not_true, Bool.not_false, decide_true, decide_false, if_true, if_false, reduceIte, Nat.reduceAdd, Nat.reduceSub, Nat.reduceEqDiff, Int.reduceLT, Int.reduceLE, Nat.reduceBEq, beq_self_eq_true, Bool.false_eq_true, List.replicate_succ, List.replicate_zero, Option.getD_some, Option.getD_none, gI0_e, gIB_e, gII_e, gU_e, gInt_i, gInt_b, gEq_ii, gNe_ii, gIx_t, gIx_l, gIx_k, gLen_t, gLen_l, gLen_k, gNot_b, gFld_e, seqD_t, seqD_l, seqD_k, Nat.zero_le, Nat.reduceLeDiff, Nat.reduceLT, c1, e1, e2, hf, o2, offD, List.filterMap_cons, List.filterMap_nil]
def wsL (rs : List Row) : List Int := rs.map (·.1)
def dsL (rs : List Row) : List Int := rs.map (·.2.2)
def worthsL (rs : List Row) (L : Int) : List Int := rs.map fun r => r.2.1 * (L / r.2.2)
def tailsL (ws : List Int) : List Int := (List.range (ws.length + 1)).map fun k => (ws.drop k).sum
theorem atI_map {xs : List Int} {k : Nat} (h : k < xs.length) : atI (xs.map D.int) (k : Int) = some (.int (xs.getD k 0)) := by
  refine atI_nat ?_
  rw [List.getElem?_map, List.getElem?_eq_getElem h, List.getD_eq_getElem?_getD, List.getElem?_eq_getElem h]
  rfl
theorem tailsL_get {ws : List Int} {k : Nat} (h : k ≤ ws.length) : (tailsL ws).getD k 0 = (ws.drop k).sum := by
  unfold tailsL
  rw [List.getD_eq_getElem?_getD, List.getElem?_map, List.getElem?_range (by omega)]
  rfl
theorem tailsL_len {ws : List Int} : (tailsL ws).length = ws.length + 1 := by simp [tailsL]
theorem sum_bound : ∀ (ws : List Int), (∀ w ∈ ws, 1 ≤ w ∧ w ≤ 999) → (ws.length : Int) ≤ ws.sum ∧ ws.sum ≤ 999 * (ws.length : Int)
  | [], _ => by simp
  | w :: ws, h => by
    obtain ⟨a, b⟩ := h w List.mem_cons_self
    obtain ⟨c, d⟩ := sum_bound ws fun x hx => h x (List.mem_cons_of_mem _ hx)
    simp only [List.length_cons, List.sum_cons]
    omega
theorem tail_bound {ws : List Int} (h : ∀ w ∈ ws, 1 ≤ w ∧ w ≤ 999) (hl : ws.length ≤ 6) (k : Nat) : 0 ≤ (ws.drop k).sum ∧ (ws.drop k).sum ≤ 5994 := by
  obtain ⟨a, b⟩ := sum_bound (ws.drop k) fun w hw => h w (List.mem_of_mem_drop hw)
  have : (ws.drop k).length ≤ 6 := by rw [List.length_drop]; omega
  omega
theorem tail_pos {ws : List Int} (h : ∀ w ∈ ws, 1 ≤ w ∧ w ≤ 999) {k : Nat} (hk : k < ws.length) : 0 < (ws.drop k).sum := by
  obtain ⟨a, b⟩ := sum_bound (ws.drop k) fun w hw => h w (List.mem_of_mem_drop hw)
  have : 1 ≤ (ws.drop k).length := by rw [List.length_drop]; omega
  omega
theorem sum_drop {ws : List Int} {k : Nat} {w : Int} (h : ws[k]? = some w) : (ws.drop k).sum = w + (ws.drop (k + 1)).sum := by
  obtain ⟨hl, e⟩ := List.getElem?_eq_some_iff.mp h
  rw [List.drop_eq_getElem_cons hl, List.sum_cons, e]
theorem tail_sums_ok (ws : List Int) (hl : ws.length ≤ 6) : m_tail_sums [.lst (ws.map D.int)] = .ok (.lst ((tailsL ws).map D.int)) := by
  let acc : Nat → List Int := fun i => (List.range (i + 1)).map fun j => (ws.drop (ws.length - j)).sum
  have accS : ∀ i, acc (i + 1) = acc i ++ [(ws.drop (ws.length - (i + 1))).sum] := fun i => by
    show (List.range (i + 1 + 1)).map _ = _
    rw [List.range_succ, List.map_append]; rfl
  have accL : ∀ i, (acc i).length = i + 1 := fun i => by simp [acc]
  have accT : ∀ i, (acc i).getLast? = some (ws.drop (ws.length - i)).sum := fun i => by
    show ((List.range (i + 1)).map _).getLast? = _
    rw [List.range_succ, List.map_append]
    simp
  obtain ⟨ρ', e, t, hi⟩ := for_list (src := mSeqD List.reverse (mVar 0)) (g := gtN 2) (fb := l_tail_sums_b2) (ρ := [some (.lst (ws.map D.int)), some (.lst [.int 0]), none]) (ρ1 := [some (.lst (ws.map D.int)), some (.lst [.int 0]), none])
    (ds := (ws.map D.int).reverse) (fun i ρ => ∃ t, ρ = [some (.lst (ws.map D.int)), some (.lst ((acc i).map D.int)), t]) rfl ⟨none, by
      have : acc 0 = [0] := by
        show [(ws.drop (ws.length - 0)).sum] = [0]
        simp
      rw [this]; rfl⟩ (by
      rintro i d ρ hd ⟨t, rfl⟩
      have hil : i < ws.length := by have := (List.getElem?_eq_some_iff.mp hd).1; simpa using this
      rw [List.getElem?_reverse (by simpa using hil), List.length_map, List.getElem?_map] at hd
      have q : ws[ws.length - 1 - i]? = some ws[ws.length - 1 - i] := List.getElem?_eq_getElem (by omega)
      generalize ws[ws.length - 1 - i] = w at q
      rw [q] at hd
      simp only [Option.map_some, Option.some.injEq] at hd
      subst hd
      have la : atI ((acc i).map D.int) (-1) = some (.int (ws.drop (ws.length - i)).sum) := atI_last (by rw [List.getLast?_map, accT]; rfl)
      have k3 : ((acc i).map D.int).length < 100000 := by rw [List.length_map, accL]; omega
      have e2 : (acc (i + 1)).map D.int = (acc i).map D.int ++ [.int ((ws.drop (ws.length - i)).sum + w)] := by
        rw [accS, List.map_append]
        have s := sum_drop q
        rw [show ws.length - 1 - i = ws.length - (i + 1) by omega, show ws.length - (i + 1) + 1 = ws.length - i by omega] at s
        rw [s, Int.add_comm]; rfl
      refine ⟨_, _, rfl, .inl ?_, some (.int w), rfl⟩
      rw [e2]
      simp only [l_tail_sums_b2, mSeq, mSkip, mSet, mRet, mRetN, mBrk, mCnt, mDrop, mIfS, mVar, mMov, mCon, mUn, mBin, mNil, mCons, mPrim, ofO, mVal, mAnd, mOr, mNot, mIf, mAndV, mOrV, mChain, mCall, mCallB, mCallK, mMake, mMakeK, mMeth, mFldN, mUnN, mBinN, mSl, mSlN, mPart, mNoP, mApp, mSetIx, mFldSet, mPar, mAsg, gtN, gtT, gtCons, gtNil, gTup, gLst, gOne, gTwo, gIs, isNon, gPut, gListOf, gTupOf, gCat, gRev, gSum, gAll, gIsi, okD, tyHas, permL, mTry, noEr, mFn, mFnB, R.bind_ok, R.bind_bad, R.bind_er, List.getElem?_cons_zero, List.getElem?_cons_succ, List.set_cons_zero, List.set_cons_succ, List.length_cons, List.length_nil, List.map_cons, List.map_nil, List.append_nil, List.cons_append, List.nil_append, Option.bind_some, Option.bind_none, Option.map_some, Option.map_none, List.lookup_cons, List.lookup_nil, List.any_cons, List.any_nil, List.contains_cons, List.contains_nil, Bool.or_false, Bool.false_and, Bool.and_false, Bool.false_or, Bool.or_true, Bool.true_or, Bool.and_true, Bool.true_and, Bool.not_true, Bool.not_false, decide_true, decide_false, if_true, if_false, reduceIte, Nat.reduceAdd, Nat.reduceSub, Nat.reduceEqDiff, Int.reduceLT, Int.reduceLE, Nat.reduceBEq, beq_self_eq_true, Bool.false_eq_true, List.replicate_succ, List.replicate_zero, Option.getD_some, Option.getD_none, gI0_e, gIB_e, gII_e, gU_e, gInt_i, gInt_b, gEq_ii, gNe_ii, gIx_t, gIx_l, gIx_k, gLen_t, gLen_l, gLen_k, gNot_b, gFld_e, seqD_t, seqD_l, seqD_k, Nat.zero_le, Nat.reduceLeDiff, Nat.reduceLT, la, k3])
  rw [List.length_reverse, List.length_map] at hi
  subst hi
  have fin : ((acc ws.length).map D.int).reverse = (tailsL ws).map D.int := by
    rw [← List.map_reverse]
    congr 1
    refine List.ext_getElem? fun j => ?_
    by_cases hj : j < ws.length + 1
    · rw [List.getElem?_reverse (by rw [accL]; exact hj), accL]
      show ((List.range (ws.length + 1)).map _)[_]? = ((List.range (ws.length + 1)).map _)[j]?
      rw [List.getElem?_map, List.getElem?_map, List.getElem?_range (by omega), List.getElem?_range hj]
      simp only [Option.map_some]
      congr 3
      omega
    · rw [List.getElem?_eq_none (by rw [List.length_reverse, accL]; omega), List.getElem?_eq_none (by rw [tailsL_len]; omega)]
  simp only [m_tail_sums, b_tail_sums, mSeq, mSkip, mSet, mRet, mRetN, mBrk, mCnt, mDrop, mIfS, mVar, mMov, mCon, mUn, mBin, mNil, mCons, mPrim, ofO, mVal, mAnd, mOr, mNot, mIf, mAndV, mOrV, mChain, mCall, mCallB, mCallK, mMake, mMakeK, mMeth, mFldN, mUnN, mBinN, mSl, mSlN, mPart, mNoP, mApp, mSetIx, mFldSet, mPar, mAsg, gtN, gtT, gtCons, gtNil, gTup, gLst, gOne, gTwo, gIs, isNon, gPut, gListOf, gTupOf, gCat, gRev, gSum, gAll, gIsi, okD, tyHas, permL, mTry, noEr, mFn, mFnB, R.bind_ok, R.bind_bad, R.bind_er, List.getElem?_cons_zero, List.getElem?_cons_succ, List.set_cons_zero, List.set_cons_succ, List.length_cons, List.length_nil, List.map_cons, List.map_nil, List.append_nil, List.cons_append, List.nil_append, Option.bind_some, Option.bind_none, Option.map_some, Option.map_none, List.lookup_cons, List.lookup_nil, List.any_cons, List.any_nil, List.contains_cons, List.contains_nil, Bool.or_false, Bool.false_and, Bool.and_false, Bool.false_or, Bool.or_true, Bool.true_or, Bool.and_true, Bool.true_and, Bool.not_true, Bool.not_false, decide_true, decide_false, if_true, if_false, reduceIte, Nat.reduceAdd, Nat.reduceSub, Nat.reduceEqDiff, Int.reduceLT, Int.reduceLE, Nat.reduceBEq, beq_self_eq_true, Bool.false_eq_true, List.replicate_succ, List.replicate_zero, Option.getD_some, Option.getD_none, gI0_e, gIB_e, gII_e, gU_e, gInt_i, gInt_b, gEq_ii, gNe_ii, gIx_t, gIx_l, gIx_k, gLen_t, gLen_l, gLen_k, gNot_b, gFld_e, seqD_t, seqD_l, seqD_k, Nat.zero_le, Nat.reduceLeDiff, Nat.reduceLT, e, fin]
end Z.L77
end
set_option Elab.async false
set_option linter.all false
set_option maxRecDepth 100000
noncomputable section
namespace Z.L77
open PySem PySem.Spec L2
theorem scaled_ok (n d L : Int) (h : 0 ≤ n ∧ n ≤ 9999) (hd : 1 ≤ d ∧ d ≤ 99) : m_scaled [fracD n d, .int L] = .ok (.int (n * (L / d))) := by
  have k1 : cDiv L d = true := cDiv_r (by omega) (by omega)
  have k2 : ∀ x, cMul n x = true := fun x => cMul_l (by omega)
  have k3 : L.fdiv d = L / d := fdiv_pos L (by omega)
  simp only [m_scaled, b_scaled, fracD, mSeq, mSkip, mSet, mRet, mRetN, mBrk, mCnt, mDrop, mIfS, mVar, mMov, mCon, mUn, mBin, mNil, mCons, mPrim, ofO, mVal, mAnd, mOr, mNot, mIf, mAndV, mOrV, mChain, mCall, mCallB, mCallK, mMake, mMakeK, mMeth, mFldN, mUnN, mBinN, mSl, mSlN, mPart, mNoP, mApp, mSetIx, mFldSet, mPar, mAsg, gtN, gtT, gtCons, gtNil, gTup, gLst, gOne, gTwo, gIs, isNon, gPut, gListOf, gTupOf, gCat, gRev, gSum, gAll, gIsi, okD, tyHas, permL, mTry, noEr, mFn, mFnB, R.bind_ok, R.bind_bad, R.bind_er, List.getElem?_cons_zero, List.getElem?_cons_succ, List.set_cons_zero, List.set_cons_succ, List.length_cons, List.length_nil, List.map_cons, List.map_nil, List.append_nil, List.cons_append, List.nil_append, Option.bind_some, Option.bind_none, Option.map_some, Option.map_none, List.lookup_cons, List.lookup_nil, List.any_cons, List.any_nil, List.contains_cons, List.contains_nil, Bool.or_false, Bool.false_and, Bool.and_false, Bool.false_or, Bool.or_true, Bool.true_or, Bool.and_true, Bool.true_and, Bool.not_true, Bool.not_false, decide_true, decide_false, if_true, if_false, reduceIte, Nat.reduceAdd, Nat.reduceSub, Nat.reduceEqDiff, Int.reduceLT, Int.reduceLE, Nat.reduceBEq, beq_self_eq_true, Bool.false_eq_true, List.replicate_succ, List.replicate_zero, Option.getD_some, Option.getD_none, gI0_e, gIB_e, gII_e, gU_e, gInt_i, gInt_b, gEq_ii, gNe_ii, gIx_t, gIx_l, gIx_k, gLen_t, gLen_l, gLen_k, gNot_b, gFld_e, seqD_t, seqD_l, seqD_k, Nat.zero_le, Nat.reduceLeDiff, Nat.reduceLT, k1, k2, k3]
def buyD (rs : List Row) : D := .ins 2 [.int (lcmL (dsL rs)), .lst ((wsL rs).map D.int), .lst ((worthsL rs (lcmL (dsL rs))).map D.int), .lst ((tailsL (wsL rs)).map D.int)]
theorem ds_ok {rs : List Row} (h : RowsOk rs) : ∀ d ∈ dsL rs, 1 ≤ d ∧ d ≤ 99 := fun d hd => by
  obtain ⟨r, hr, rfl⟩ := List.mem_map.mp hd
  exact ⟨(h.ok r hr).d1, (h.ok r hr).d2⟩
theorem ws_ok {rs : List Row} (h : RowsOk rs) : ∀ w ∈ wsL rs, 1 ≤ w ∧ w ≤ 999 := fun d hd => by
  obtain ⟨r, hr, rfl⟩ := List.mem_map.mp hd
  exact ⟨(h.ok r hr).w1, (h.ok r hr).w2⟩
theorem wsL_len {rs : List Row} : (wsL rs).length = rs.length := List.length_map ..
theorem dsL_len {rs : List Row} : (dsL rs).length = rs.length := List.length_map ..
theorem worthsL_len {rs : List Row} {L : Int} : (worthsL rs L).length = rs.length := List.length_map ..
theorem buyer_ok (rs : List Row) (h : RowsOk rs) : m_Buyer___init__ [.ins 2 [], offD rs] = .ok (.non, buyD rs) := by
  have l6 := h.l2
  have len : (rs.map keptD).length ≤ 100000 := by rw [List.length_map]; omega
  have c1 := common_under_ok (rs.map fun r => (r.2.1, r.2.2)) (fun f hf => by
    obtain ⟨r, hr, rfl⟩ := List.mem_map.mp hf
    exact ⟨(h.ok r hr).d1, (h.ok r hr).d2⟩) (by rw [List.length_map]; exact l6)
  simp only [List.map_map, Function.comp_def] at c1
  have c2 := tail_sums_ok (wsL rs) (by rw [wsL_len]; exact l6)
  have e1 : ∀ s : D, mComp [2, 3] (mItT (mUn (gFld [(1, 0)]) (mVar 1))) (gtT 2 (gtCons (gtN 2) (gtCons (gtN 3) gtNil))) mYes (mVar 3) [some s, some (offD rs), none, none, none] = .ok (.lst (rs.map fun r => fracD r.2.1 r.2.2), [some s, some (offD rs), none, none, none]) := fun s => by
    refine mComp_ok (ds := rs.map keptD) (ρ1 := [some s, some (offD rs), none, none, none]) rfl len (ρ2 := [some s, some (offD rs), none, none, none]) ?_ rfl
    have z := comp_map (vs := [2, 3]) (g := gtT 2 (gtCons (gtN 2) (gtCons (gtN 3) gtNil))) (fe := mVar 3) (ρ := [some s, some (offD rs), none, none, none]) (h := fun d => match d with
      | .tup [_, f] => f
      | _ => .non) (rs.map keptD) (by
        intro d hd
        obtain ⟨r, hr, rfl⟩ := List.mem_map.mp hd
        exact ⟨[some s, some (offD rs), some (.int r.1), some (fracD r.2.1 r.2.2), none], [some s, some (offD rs), some (.int r.1), some (fracD r.2.1 r.2.2), none], rfl, rfl, rfl⟩)
    rw [List.map_map] at z
    exact z
  have e2 : ∀ s : D, mComp [4, 2] (mItT (mUn (gFld [(1, 0)]) (mVar 1))) (gtT 2 (gtCons (gtN 4) (gtCons (gtN 2) gtNil))) mYes (mVar 4) [some s, some (offD rs), none, none, none] = .ok (.lst ((wsL rs).map D.int), [some s, some (offD rs), none, none, none]) := fun s => by
    refine mComp_ok (ds := rs.map keptD) (ρ1 := [some s, some (offD rs), none, none, none]) rfl len (ρ2 := [some s, some (offD rs), none, none, none]) ?_ rfl
    have z := comp_map (vs := [4, 2]) (g := gtT 2 (gtCons (gtN 4) (gtCons (gtN 2) gtNil))) (fe := mVar 4) (ρ := [some s, some (offD rs), none, none, none]) (h := fun d => match d with
      | .tup [w, _] => w
      | _ => .non) (rs.map keptD) (by
        intro d hd
        obtain ⟨r, hr, rfl⟩ := List.mem_map.mp hd
        exact ⟨[some s, some (offD rs), some (fracD r.2.1 r.2.2), none, some (.int r.1)], [some s, some (offD rs), some (fracD r.2.1 r.2.2), none, some (.int r.1)], rfl, rfl, rfl⟩)
    rw [List.map_map] at z
    refine Eq.trans z ?_
    unfold wsL
    rw [List.map_map]
    rfl
  have e3 : ∀ (L : Int) (x : D), mComp [2, 3] (mItT (mUn (gFld [(1, 0)]) (mVar 1))) (gtT 2 (gtCons (gtN 2) (gtCons (gtN 3) gtNil))) mYes l_Buyer___init___e3_22 [some (.ins 2 [.int L, x]), some (offD rs), none, none, none] = .ok (.lst ((worthsL rs L).map D.int), [some (.ins 2 [.int L, x]), some (offD rs), none, none, none]) := fun L x => by
    refine mComp_ok (ds := rs.map keptD) (ρ1 := [some (.ins 2 [.int L, x]), some (offD rs), none, none, none]) rfl len (ρ2 := [some (.ins 2 [.int L, x]), some (offD rs), none, none, none]) ?_ rfl
    have z := comp_map (vs := [2, 3]) (g := gtT 2 (gtCons (gtN 2) (gtCons (gtN 3) gtNil))) (fe := l_Buyer___init___e3_22) (ρ := [some (.ins 2 [.int L, x]), some (offD rs), none, none, none]) (h := fun d => match d with
      | .tup [_, .ins _ [.int n, .int d]] => .int (n * (L / d))
      | _ => .non) (rs.map keptD) (by
        intro d hd
        obtain ⟨r, hr, rfl⟩ := List.mem_map.mp hd
        have ro := h.ok r hr
        have k := scaled_ok r.2.1 r.2.2 L ⟨ro.n1, ro.n2⟩ ⟨ro.d1, ro.d2⟩
        refine ⟨[some (.ins 2 [.int L, x]), some (offD rs), some (.int r.1), some (fracD r.2.1 r.2.2), none], [some (.ins 2 [.int L, x]), some (offD rs), some (.int r.1), some (fracD r.2.1 r.2.2), none], rfl, ?_, rfl⟩
        simp only [l_Buyer___init___e3_22, keptD, mSeq, mSkip, mSet, mRet, mRetN, mBrk, mCnt, mDrop, mIfS, mVar, mMov, mCon, mUn, mBin, mNil, mCons, mPrim, ofO, mVal, mAnd, mOr, mNot, mIf, mAndV, mOrV, mChain, mCall, mCallB, mCallK, mMake, mMakeK, mMeth, mFldN, mUnN, mBinN, mSl, mSlN, mPart, mNoP, mApp, mSetIx, mFldSet, mPar, mAsg, gtN, gtT, gtCons, gtNil, gTup, gLst, gOne, gTwo, gIs, isNon, gPut, gListOf, gTupOf, gCat, gRev, gSum, gAll, gIsi, okD, tyHas, permL, mTry, noEr, mFn, mFnB, R.bind_ok, R.bind_bad, R.bind_er, List.getElem?_cons_zero, List.getElem?_cons_succ, List.set_cons_zero, List.set_cons_succ, List.length_cons, List.length_nil, List.map_cons, List.map_nil, List.append_nil, List.cons_append, List.nil_append, Option.bind_some, Option.bind_none, Option.map_some, Option.map_none, List.lookup_cons, List.lookup_nil, List.any_cons, List.any_nil, List.contains_cons, List.contains_nil, Bool.or_false, Bool.false_and, Bool.and_false, Bool.false_or, Bool.or_true, Bool.true_or, Bool.and_true, Bool.true_and, Bool.not_true, Bool.not_false, decide_true, decide_false, if_true, if_false, reduceIte, Nat.reduceAdd, Nat.reduceSub, Nat.reduceEqDiff, Int.reduceLT, Int.reduceLE, Nat.reduceBEq, beq_self_eq_true, Bool.false_eq_true, List.replicate_succ, List.replicate_zero, Option.getD_some, Option.getD_none, gI0_e, gIB_e, gII_e, gU_e, gInt_i, gInt_b, gEq_ii, gNe_ii, gIx_t, gIx_l, gIx_k, gLen_t, gLen_l, gLen_k, gNot_b, gFld_e, seqD_t, seqD_l, seqD_k, Nat.zero_le, Nat.reduceLeDiff, Nat.reduceLT, k]
        rfl)
    rw [List.map_map] at z
    refine Eq.trans z ?_
    unfold worthsL
    rw [List.map_map]
    rfl
  simp only [m_Buyer___init__, b_Buyer___init__, mSeq, mSkip, mSet, mRet, mRetN, mBrk, mCnt, mDrop, mIfS, mVar, mMov, mCon, mUn, mBin, mNil, mCons, mPrim, ofO, mVal, mAnd, mOr, mNot, mIf, mAndV, mOrV, mChain, mCall, mCallB, mCallK, mMake, mMakeK, mMeth, mFldN, mUnN, mBinN, mSl, mSlN, mPart, mNoP, mApp, mSetIx, mFldSet, mPar, mAsg, gtN, gtT, gtCons, gtNil, gTup, gLst, gOne, gTwo, gIs, isNon, gPut, gListOf, gTupOf, gCat, gRev, gSum, gAll, gIsi, okD, tyHas, permL, mTry, noEr, mFn, mFnB, R.bind_ok, R.bind_bad, R.bind_er, List.getElem?_cons_zero, List.getElem?_cons_succ, List.set_cons_zero, List.set_cons_succ, List.length_cons, List.length_nil, List.map_cons, List.map_nil, List.append_nil, List.cons_append, List.nil_append, Option.bind_some, Option.bind_none, Option.map_some, Option.map_none, List.lookup_cons, List.lookup_nil, List.any_cons, List.any_nil, List.contains_cons, List.contains_nil, Bool.or_false, Bool.false_and, Bool.and_false, Bool.false_or, Bool.or_true, Bool.true_or, Bool.and_true, Bool.true_and, Bool.not_true, Bool.not_false, decide_true, decide_false, if_true, if_false, reduceIte, Nat.reduceAdd, Nat.reduceSub, Nat.reduceEqDiff, Int.reduceLT, Int.reduceLE, Nat.reduceBEq, beq_self_eq_true, Bool.false_eq_true, List.replicate_succ, List.replicate_zero, Option.getD_some, Option.getD_none, gI0_e, gIB_e, gII_e, gU_e, gInt_i, gInt_b, gEq_ii, gNe_ii, gIx_t, gIx_l, gIx_k, gLen_t, gLen_l, gLen_k, gNot_b, gFld_e, seqD_t, seqD_l, seqD_k, Nat.zero_le, Nat.reduceLeDiff, Nat.reduceLT, e1, c1, e2, e3, c2, buyD, dsL]
def inc (rs : List Row) (k : Nat) : Int := (worthsL rs (lcmL (dsL rs))).getD k 0 * (tailsL (wsL rs)).getD k 0
theorem tl_bound {rs : List Row} (h : RowsOk rs) {k : Nat} (hk : k ≤ rs.length) : 0 ≤ (tailsL (wsL rs)).getD k 0 ∧ (tailsL (wsL rs)).getD k 0 ≤ 5994 := by
  rw [tailsL_get (by rw [wsL_len]; exact hk)]
  exact tail_bound (ws_ok h) (by rw [wsL_len]; exact h.l2) k
theorem tl0 {rs : List Row} (h : RowsOk rs) : 0 < (tailsL (wsL rs)).getD 0 0 := by
  rw [tailsL_get (Nat.zero_le _)]
  exact tail_pos (ws_ok h) (by rw [wsL_len]; exact h.l1)
theorem income_ok (rs : List Row) (h : RowsOk rs) (k : Nat) (hk : k < rs.length) : m_Buyer_income [buyD rs, .int (k : Int)] = .ok (.int (inc rs k)) := by
  have a1 := atI_map (xs := worthsL rs (lcmL (dsL rs))) (k := k) (by rw [worthsL_len]; exact hk)
  have a2 := atI_map (xs := tailsL (wsL rs)) (k := k) (by rw [tailsL_len, wsL_len]; omega)
  have b := tl_bound h (Nat.le_of_lt hk)
  have k1 : cMul ((worthsL rs (lcmL (dsL rs))).getD k 0) ((tailsL (wsL rs)).getD k 0) = true := cMul_r (by omega)
  simp only [m_Buyer_income, b_Buyer_income, buyD, mSeq, mSkip, mSet, mRet, mRetN, mBrk, mCnt, mDrop, mIfS, mVar, mMov, mCon, mUn, mBin, mNil, mCons, mPrim, ofO, mVal, mAnd, mOr, mNot, mIf, mAndV, mOrV, mChain, mCall, mCallB, mCallK, mMake, mMakeK, mMeth, mFldN, mUnN, mBinN, mSl, mSlN, mPart, mNoP, mApp, mSetIx, mFldSet, mPar, mAsg, gtN, gtT, gtCons, gtNil, gTup, gLst, gOne, gTwo, gIs, isNon, gPut, gListOf, gTupOf, gCat, gRev, gSum, gAll, gIsi, okD, tyHas, permL, mTry, noEr, mFn, mFnB, R.bind_ok, R.bind_bad, R.bind_er, List.getElem?_cons_zero, List.getElem?_cons_succ, List.set_cons_zero, List.set_cons_succ, List.length_cons, List.length_nil, List.map_cons, List.map_nil, List.append_nil, List.cons_append, List.nil_append, Option.bind_some, Option.bind_none, Option.map_some, Option.map_none, List.lookup_cons, List.lookup_nil, List.any_cons, List.any_nil, List.contains_cons, List.contains_nil, Bool.or_false, Bool.false_and, Bool.and_false, Bool.false_or, Bool.or_true, Bool.true_or, Bool.and_true, Bool.true_and, Bool.not_true, Bool.not_false, decide_true, decide_false, if_true, if_false, reduceIte, Nat.reduceAdd, Nat.reduceSub, Nat.reduceEqDiff, Int.reduceLT, Int.reduceLE, Nat.reduceBEq, beq_self_eq_true, Bool.false_eq_true, List.replicate_succ, List.replicate_zero, Option.getD_some, Option.getD_none, gI0_e, gIB_e, gII_e, gU_e, gInt_i, gInt_b, gEq_ii, gNe_ii, gIx_t, gIx_l, gIx_k, gLen_t, gLen_l, gLen_k, gNot_b, gFld_e, seqD_t, seqD_l, seqD_k, Nat.zero_le, Nat.reduceLeDiff, Nat.reduceLT, a1, a2, k1, inc]
theorem number_ok (rs : List Row) (rise width : Int) (h : RowsOk rs) (h0 : 0 < width) (h1 : width ≤ 5994) : m_Buyer_number [buyD rs, .int rise, .int width] = .ok (fracD (rise / gcdI rise (width * lcmL (dsL rs))) (width * lcmL (dsL rs) / gcdI rise (width * lcmL (dsL rs)))) := by
  obtain ⟨L1, L2⟩ := lcmL_bound (ds_ok h) (by rw [dsL_len]; exact h.l2)
  have k1 : cMul width (lcmL (dsL rs)) = true := cMul_l (by omega)
  have p1 : 0 < width * lcmL (dsL rs) := Int.mul_pos h0 L1
  have p2 : width * lcmL (dsL rs) ≤ 5994 * 941480149401 := Int.mul_le_mul h1 L2 (Int.le_of_lt L1) (by decide)
  have k2 := frac_ok rise (width * lcmL (dsL rs)) p1 (by omega)
  simp only [m_Buyer_number, b_Buyer_number, buyD, mSeq, mSkip, mSet, mRet, mRetN, mBrk, mCnt, mDrop, mIfS, mVar, mMov, mCon, mUn, mBin, mNil, mCons, mPrim, ofO, mVal, mAnd, mOr, mNot, mIf, mAndV, mOrV, mChain, mCall, mCallB, mCallK, mMake, mMakeK, mMeth, mFldN, mUnN, mBinN, mSl, mSlN, mPart, mNoP, mApp, mSetIx, mFldSet, mPar, mAsg, gtN, gtT, gtCons, gtNil, gTup, gLst, gOne, gTwo, gIs, isNon, gPut, gListOf, gTupOf, gCat, gRev, gSum, gAll, gIsi, okD, tyHas, permL, mTry, noEr, mFn, mFnB, R.bind_ok, R.bind_bad, R.bind_er, List.getElem?_cons_zero, List.getElem?_cons_succ, List.set_cons_zero, List.set_cons_succ, List.length_cons, List.length_nil, List.map_cons, List.map_nil, List.append_nil, List.cons_append, List.nil_append, Option.bind_some, Option.bind_none, Option.map_some, Option.map_none, List.lookup_cons, List.lookup_nil, List.any_cons, List.any_nil, List.contains_cons, List.contains_nil, Bool.or_false, Bool.false_and, Bool.and_false, Bool.false_or, Bool.or_true, Bool.true_or, Bool.and_true, Bool.true_and, Bool.not_true, Bool.not_false, decide_true, decide_false, if_true, if_false, reduceIte, Nat.reduceAdd, Nat.reduceSub, Nat.reduceEqDiff, Int.reduceLT, Int.reduceLE, Nat.reduceBEq, beq_self_eq_true, Bool.false_eq_true, List.replicate_succ, List.replicate_zero, Option.getD_some, Option.getD_none, gI0_e, gIB_e, gII_e, gU_e, gInt_i, gInt_b, gEq_ii, gNe_ii, gIx_t, gIx_l, gIx_k, gLen_t, gLen_l, gLen_k, gNot_b, gFld_e, seqD_t, seqD_l, seqD_k, Nat.zero_le, Nat.reduceLeDiff, Nat.reduceLT, k1, k2]
end Z.L77
end
set_option Elab.async false
set_option linter.all false
set_option maxRecDepth 100000
noncomputable section
namespace Z.L77
open PySem PySem.Spec L2
theorem whole_ok (n : Int) : m__law_whole [.int n] = .ok (.bl true) := rfl
theorem lfrac_ok (x y n d : Int) (hd : 0 < d) (hd2 : d < 1180591620717411303424) : m__law_frac [fracD x y, .int n, .int d] = .ok (.bl (decide (x = n / gcdI n d) && decide (y = d / gcdI n d))) := by
  have hp := gcdI_pos (a := n) hd
  have hl := gcdI_le (a := n) hd
  have k1 : ∀ i, cDiv i (gcdI n d) = true := fun i => cDiv_p hp (by omega)
  have k2 := gcd_ok n d (by omega) hd2
  have k3 : ∀ i : Int, i.fdiv (gcdI n d) = i / gcdI n d := fun i => fdiv_pos i hp
  by_cases h1 : x = n / gcdI n d
  · simp only [m__law_frac, b__law_frac, fracD, mSeq, mSkip, mSet, mRet, mRetN, mBrk, mCnt, mDrop, mIfS, mVar, mMov, mCon, mUn, mBin, mNil, mCons, mPrim, ofO, mVal, mAnd, mOr, mNot, mIf, mAndV, mOrV, mChain, mCall, mCallB, mCallK, mMake, mMakeK, mMeth, mFldN, mUnN, mBinN, mSl, mSlN, mPart, mNoP, mApp, mSetIx, mFldSet, mPar, mAsg, gtN, gtT, gtCons, gtNil, gTup, gLst, gOne, gTwo, gIs, isNon, gPut, gListOf, gTupOf, gCat, gRev, gSum, gAll, gIsi, okD, tyHas, permL, mTry, noEr, mFn, mFnB, R.bind_ok, R.bind_bad, R.bind_er, List.getElem?_cons_zero, List.getElem?_cons_succ, List.set_cons_zero, List.set_cons_succ, List.length_cons, List.length_nil, List.map_cons, List.map_nil, List.append_nil, List.cons_append, List.nil_append, Option.bind_some, Option.bind_none, Option.map_some, Option.map_none, List.lookup_cons, List.lookup_nil, List.any_cons, List.any_nil, List.contains_cons, List.contains_nil, Bool.or_false, Bool.false_and, Bool.and_false, Bool.false_or, Bool.or_true, Bool.true_or, Bool.and_true, Bool.true_and, Bool.not_true, Bool.not_false, decide_true, decide_false, if_true, if_false, reduceIte, Nat.reduceAdd, Nat.reduceSub, Nat.reduceEqDiff, Int.reduceLT, Int.reduceLE, Nat.reduceBEq, beq_self_eq_true, Bool.false_eq_true, List.replicate_succ, List.replicate_zero, Option.getD_some, Option.getD_none, gI0_e, gIB_e, gII_e, gU_e, gInt_i, gInt_b, gEq_ii, gNe_ii, gIx_t, gIx_l, gIx_k, gLen_t, gLen_l, gLen_k, gNot_b, gFld_e, seqD_t, seqD_l, seqD_k, Nat.zero_le, Nat.reduceLeDiff, Nat.reduceLT, whole_ok, k1, k2, k3, h1]
  · simp only [m__law_frac, b__law_frac, fracD, mSeq, mSkip, mSet, mRet, mRetN, mBrk, mCnt, mDrop, mIfS, mVar, mMov, mCon, mUn, mBin, mNil, mCons, mPrim, ofO, mVal, mAnd, mOr, mNot, mIf, mAndV, mOrV, mChain, mCall, mCallB, mCallK, mMake, mMakeK, mMeth, mFldN, mUnN, mBinN, mSl, mSlN, mPart, mNoP, mApp, mSetIx, mFldSet, mPar, mAsg, gtN, gtT, gtCons, gtNil, gTup, gLst, gOne, gTwo, gIs, isNon, gPut, gListOf, gTupOf, gCat, gRev, gSum, gAll, gIsi, okD, tyHas, permL, mTry, noEr, mFn, mFnB, R.bind_ok, R.bind_bad, R.bind_er, List.getElem?_cons_zero, List.getElem?_cons_succ, List.set_cons_zero, List.set_cons_succ, List.length_cons, List.length_nil, List.map_cons, List.map_nil, List.append_nil, List.cons_append, List.nil_append, Option.bind_some, Option.bind_none, Option.map_some, Option.map_none, List.lookup_cons, List.lookup_nil, List.any_cons, List.any_nil, List.contains_cons, List.contains_nil, Bool.or_false, Bool.false_and, Bool.and_false, Bool.false_or, Bool.or_true, Bool.true_or, Bool.and_true, Bool.true_and, Bool.not_true, Bool.not_false, decide_true, decide_false, if_true, if_false, reduceIte, Nat.reduceAdd, Nat.reduceSub, Nat.reduceEqDiff, Int.reduceLT, Int.reduceLE, Nat.reduceBEq, beq_self_eq_true, Bool.false_eq_true, List.replicate_succ, List.replicate_zero, Option.getD_some, Option.getD_none, gI0_e, gIB_e, gII_e, gU_e, gInt_i, gInt_b, gEq_ii, gNe_ii, gIx_t, gIx_l, gIx_k, gLen_t, gLen_l, gLen_k, gNot_b, gFld_e, seqD_t, seqD_l, seqD_k, Nat.zero_le, Nat.reduceLeDiff, Nat.reduceLT, whole_ok, k1, k2, k3, h1]
theorem fits_l (j : Nat) (x y n d : Int) (hd : 0 < d) (hd2 : d < 1180591620717411303424) : m__law_fits (j + 1) [fracD x y, .lst [.int n, .int d]] = .ok (.bl (decide (x = n / gcdI n d) && decide (y = d / gcdI n d))) := by
  have k := lfrac_ok x y n d hd hd2
  have k1 : m__law_fits (j + 1) [fracD x y, .lst [.int n, .int d]] = mFn 2 3 (b__law_fits (m__law_fits j)) [fracD x y, .lst [.int n, .int d]] := rfl
  rw [k1]
  simp only [b__law_fits, mSeq, mSkip, mSet, mRet, mRetN, mBrk, mCnt, mDrop, mIfS, mVar, mMov, mCon, mUn, mBin, mNil, mCons, mPrim, ofO, mVal, mAnd, mOr, mNot, mIf, mAndV, mOrV, mChain, mCall, mCallB, mCallK, mMake, mMakeK, mMeth, mFldN, mUnN, mBinN, mSl, mSlN, mPart, mNoP, mApp, mSetIx, mFldSet, mPar, mAsg, gtN, gtT, gtCons, gtNil, gTup, gLst, gOne, gTwo, gIs, isNon, gPut, gListOf, gTupOf, gCat, gRev, gSum, gAll, gIsi, okD, tyHas, permL, mTry, noEr, mFn, mFnB, R.bind_ok, R.bind_bad, R.bind_er, List.getElem?_cons_zero, List.getElem?_cons_succ, List.set_cons_zero, List.set_cons_succ, List.length_cons, List.length_nil, List.map_cons, List.map_nil, List.append_nil, List.cons_append, List.nil_append, Option.bind_some, Option.bind_none, Option.map_some, Option.map_none, List.lookup_cons, List.lookup_nil, List.any_cons, List.any_nil, List.contains_cons, List.contains_nil, Bool.or_false, Bool.false_and, Bool.and_false, Bool.false_or, Bool.or_true, Bool.true_or, Bool.and_true, Bool.true_and, Bool.not_true, Bool.not_false, decide_true, decide_false, if_true, if_false, reduceIte, Nat.reduceAdd, Nat.reduceSub, Nat.reduceEqDiff, Int.reduceLT, Int.reduceLE, Nat.reduceBEq, beq_self_eq_true, Bool.false_eq_true, List.replicate_succ, List.replicate_zero, Option.getD_some, Option.getD_none, gI0_e, gIB_e, gII_e, gU_e, gInt_i, gInt_b, gEq_ii, gNe_ii, gIx_t, gIx_l, gIx_k, gLen_t, gLen_l, gLen_k, gNot_b, gFld_e, seqD_t, seqD_l, seqD_k, Nat.zero_le, Nat.reduceLeDiff, Nat.reduceLT, p0, p1, k]
/-- two things, both right -/
theorem fits_2 (j : Nat) (a b c e : D) (h1 : m__law_fits (j + 1) [a, c] = .ok (.bl true)) (h2 : m__law_fits (j + 1) [b, e] = .ok (.bl true)) : m__law_fits (j + 2) [.tup [a, b], .tup [c, e]] = .ok (.bl true) := by
  have k1 : m__law_fits (j + 2) [.tup [a, b], .tup [c, e]] = mFn 2 3 (b__law_fits (m__law_fits (j + 1))) [.tup [a, b], .tup [c, e]] := rfl
  have cmp : mComp [2] (mItR1 (mCons (mPrim (gOne gLen) (mCons (mVar 1) mNil)) mNil)) (gtN 2) mYes (l__law_fits_e6_19 (m__law_fits (j + 1))) [some (.tup [a, b]), some (.tup [c, e]), none] = .ok (.lst [.bl true, .bl true], [some (.tup [a, b]), some (.tup [c, e]), none]) := by
    refine mComp_ok (ds := [.int 0, .int 1]) (ρ1 := [some (.tup [a, b]), some (.tup [c, e]), none]) (mItR1_ok (j := 2) rfl (inLine_ok (by decide) (by decide))) (by simp) (ρ2 := [some (.tup [a, b]), some (.tup [c, e]), none]) ?_ rfl
    unfold mCompL mCompL mCompL
    simp only [l__law_fits_e6_19, mSeq, mSkip, mSet, mRet, mRetN, mBrk, mCnt, mDrop, mIfS, mVar, mMov, mCon, mUn, mBin, mNil, mCons, mPrim, ofO, mVal, mAnd, mOr, mNot, mIf, mAndV, mOrV, mChain, mCall, mCallB, mCallK, mMake, mMakeK, mMeth, mFldN, mUnN, mBinN, mSl, mSlN, mPart, mNoP, mApp, mSetIx, mFldSet, mPar, mAsg, gtN, gtT, gtCons, gtNil, gTup, gLst, gOne, gTwo, gIs, isNon, gPut, gListOf, gTupOf, gCat, gRev, gSum, gAll, gIsi, okD, tyHas, permL, mTry, noEr, mFn, mFnB, R.bind_ok, R.bind_bad, R.bind_er, List.getElem?_cons_zero, List.getElem?_cons_succ, List.set_cons_zero, List.set_cons_succ, List.length_cons, List.length_nil, List.map_cons, List.map_nil, List.append_nil, List.cons_append, List.nil_append, Option.bind_some, Option.bind_none, Option.map_some, Option.map_none, List.lookup_cons, List.lookup_nil, List.any_cons, List.any_nil, List.contains_cons, List.contains_nil, Bool.or_false, Bool.false_and, Bool.and_false, Bool.false_or, Bool.or_true, Bool.true_or, Bool.and_true, Bool.true_and, Bool.not_true, Bool.not_false, decide_true, decide_false, if_true, if_false, reduceIte, Nat.reduceAdd, Nat.reduceSub, Nat.reduceEqDiff, Int.reduceLT, Int.reduceLE, Nat.reduceBEq, beq_self_eq_true, Bool.false_eq_true, List.replicate_succ, List.replicate_zero, Option.getD_some, Option.getD_none, gI0_e, gIB_e, gII_e, gU_e, gInt_i, gInt_b, gEq_ii, gNe_ii, gIx_t, gIx_l, gIx_k, gLen_t, gLen_l, gLen_k, gNot_b, gFld_e, seqD_t, seqD_l, seqD_k, Nat.zero_le, Nat.reduceLeDiff, Nat.reduceLT, p0, p1, h1, h2, mYes, wipeE]
  rw [k1]
  simp only [b__law_fits, mSeq, mSkip, mSet, mRet, mRetN, mBrk, mCnt, mDrop, mIfS, mVar, mMov, mCon, mUn, mBin, mNil, mCons, mPrim, ofO, mVal, mAnd, mOr, mNot, mIf, mAndV, mOrV, mChain, mCall, mCallB, mCallK, mMake, mMakeK, mMeth, mFldN, mUnN, mBinN, mSl, mSlN, mPart, mNoP, mApp, mSetIx, mFldSet, mPar, mAsg, gtN, gtT, gtCons, gtNil, gTup, gLst, gOne, gTwo, gIs, isNon, gPut, gListOf, gTupOf, gCat, gRev, gSum, gAll, gIsi, okD, tyHas, permL, mTry, noEr, mFn, mFnB, R.bind_ok, R.bind_bad, R.bind_er, List.getElem?_cons_zero, List.getElem?_cons_succ, List.set_cons_zero, List.set_cons_succ, List.length_cons, List.length_nil, List.map_cons, List.map_nil, List.append_nil, List.cons_append, List.nil_append, Option.bind_some, Option.bind_none, Option.map_some, Option.map_none, List.lookup_cons, List.lookup_nil, List.any_cons, List.any_nil, List.contains_cons, List.contains_nil, Bool.or_false, Bool.false_and, Bool.and_false, Bool.false_or, Bool.or_true, Bool.true_or, Bool.and_true, Bool.true_and, Bool.not_true, Bool.not_false, decide_true, decide_false, if_true, if_false, reduceIte, Nat.reduceAdd, Nat.reduceSub, Nat.reduceEqDiff, Int.reduceLT, Int.reduceLE, Nat.reduceBEq, beq_self_eq_true, Bool.false_eq_true, List.replicate_succ, List.replicate_zero, Option.getD_some, Option.getD_none, gI0_e, gIB_e, gII_e, gU_e, gInt_i, gInt_b, gEq_ii, gNe_ii, gIx_t, gIx_l, gIx_k, gLen_t, gLen_l, gLen_k, gNot_b, gFld_e, seqD_t, seqD_l, seqD_k, Nat.zero_le, Nat.reduceLeDiff, Nat.reduceLT, p0, p1, cmp, blsOf, List.all_cons, List.all_nil, id]
theorem lworths_ok (rs : List Row) (L : Int) (h : RowsOk rs) : m__law_worths [rowsD rs, .int L] = .ok (.lst ((worthsL rs L).map D.int)) := by
  have l6 := h.l2
  have e : mComp [2] (mItL (mVar 0)) (gtN 2) mYes l__law_worths_e1_11 [some (rowsD rs), some (.int L), none] = .ok (.lst ((worthsL rs L).map D.int), [some (rowsD rs), some (.int L), none]) := by
    refine mComp_ok (ds := rs.map rowD) (ρ1 := [some (rowsD rs), some (.int L), none]) rfl (by rw [List.length_map]; omega) (ρ2 := [some (rowsD rs), some (.int L), none]) ?_ rfl
    have z := comp_map (vs := [2]) (g := gtN 2) (fe := l__law_worths_e1_11) (ρ := [some (rowsD rs), some (.int L), none]) (h := fun d => match d with
      | .tup [_, .tup [.int n, .int d]] => .int (n * (L / d))
      | _ => .non) (rs.map rowD) (by
        intro d hd
        obtain ⟨r, hr, rfl⟩ := List.mem_map.mp hd
        have ro := h.ok r hr
        have k1 : cDiv L r.2.2 = true := cDiv_r (by have := ro.d1; omega) (by have := ro.d2; omega)
        have k2 : ∀ x, cMul r.2.1 x = true := fun x => cMul_l (by have := ro.n1; have := ro.n2; omega)
        have k3 : L.fdiv r.2.2 = L / r.2.2 := fdiv_pos L (by have := ro.d1; omega)
        refine ⟨[some (rowsD rs), some (.int L), some (rowD r)], [some (rowsD rs), some (.int L), some (rowD r)], rfl, ?_, rfl⟩
        simp only [l__law_worths_e1_11, rowD, mSeq, mSkip, mSet, mRet, mRetN, mBrk, mCnt, mDrop, mIfS, mVar, mMov, mCon, mUn, mBin, mNil, mCons, mPrim, ofO, mVal, mAnd, mOr, mNot, mIf, mAndV, mOrV, mChain, mCall, mCallB, mCallK, mMake, mMakeK, mMeth, mFldN, mUnN, mBinN, mSl, mSlN, mPart, mNoP, mApp, mSetIx, mFldSet, mPar, mAsg, gtN, gtT, gtCons, gtNil, gTup, gLst, gOne, gTwo, gIs, isNon, gPut, gListOf, gTupOf, gCat, gRev, gSum, gAll, gIsi, okD, tyHas, permL, mTry, noEr, mFn, mFnB, R.bind_ok, R.bind_bad, R.bind_er, List.getElem?_cons_zero, List.getElem?_cons_succ, List.set_cons_zero, List.set_cons_succ, List.length_cons, List.length_nil, List.map_cons, List.map_nil, List.append_nil, List.cons_append, List.nil_append, Option.bind_some, Option.bind_none, Option.map_some, Option.map_none, List.lookup_cons, List.lookup_nil, List.any_cons, List.any_nil, List.contains_cons, List.contains_nil, Bool.or_false, Bool.false_and, Bool.and_false, Bool.false_or, Bool.or_true, Bool.true_or, Bool.and_true, Bool.true_and, Bool.not_true, Bool.not_false, decide_true, decide_false, if_true, if_false, reduceIte, Nat.reduceAdd, Nat.reduceSub, Nat.reduceEqDiff, Int.reduceLT, Int.reduceLE, Nat.reduceBEq, beq_self_eq_true, Bool.false_eq_true, List.replicate_succ, List.replicate_zero, Option.getD_some, Option.getD_none, gI0_e, gIB_e, gII_e, gU_e, gInt_i, gInt_b, gEq_ii, gNe_ii, gIx_t, gIx_l, gIx_k, gLen_t, gLen_l, gLen_k, gNot_b, gFld_e, seqD_t, seqD_l, seqD_k, Nat.zero_le, Nat.reduceLeDiff, Nat.reduceLT, p0, p1, k1, k2, k3])
    rw [List.map_map] at z
    refine Eq.trans z ?_
    unfold worthsL
    rw [List.map_map]
    rfl
  exact mFn_rt rfl (mRet_ok e)
theorem ints_map : ∀ (xs : List Int), intsOf (xs.map D.int) = some xs
  | [] => rfl
  | x :: xs => by
    show (intsOf (xs.map D.int)).map _ = _
    rw [ints_map xs]; rfl
theorem cut_drop {xs : List D} {k : Nat} (h : k ≤ xs.length) : cutD xs (some (k : Int)) none = xs.drop k := by
  have e1 : HT.sIx xs.length 0 (some (k : Int)) = k := by
    have z : ¬ ((k : Int) < 0) := by omega
    unfold HT.sIx
    simp only [if_neg z, Int.toNat_natCast]
    omega
  have e2 : HT.sIx xs.length xs.length none = xs.length := rfl
  unfold cutD
  rw [e1, e2, List.take_of_length_le (by rw [List.length_drop]; exact Nat.le_refl _)]
end Z.L77
end
set_option Elab.async false
set_option linter.all false
set_option maxRecDepth 100000
noncomputable section
namespace Z.L77
open PySem PySem.Spec L2
theorem mSet_to {i : Nat} {fa : Env → R (D × Env)} {ρ ρ' ρ2 : Env} {d : D} (h : fa ρ = .ok (d, ρ')) (h2 : ρ'.set i (some d) = ρ2) : mSet i fa ρ = .ok (.nx, ρ2) := by
  subst h2; exact mSet_ok h
def Fd (cs : List Int) (f : D) : Prop := ∃ p x c, f = fd cs p x c
theorem pk {cs : List Int} {f : D} (many : Int) (hf : Fd cs f) (h1 : 1 ≤ many) (h2 : many < 1000000) : ∃ r f', m__law_pick [f, .int many] = .ok (.int r, f') ∧ Fd cs f' ∧ 0 ≤ r ∧ r < many := by
  obtain ⟨p, x, c, rfl⟩ := hf
  obtain ⟨r, p', x', c', e, a, b⟩ := pick_ok cs p x c many h1 h2
  exact ⟨r, _, e, ⟨p', x', c', rfl⟩, a, b⟩
def lowR (w n d : Int) : Row := (w, n / gcdI n d, d / gcdI n d)
theorem lowR_ok {w n d : Int} (hw : 1 ≤ w ∧ w ≤ 999) (hn : 0 ≤ n ∧ n ≤ 9999) (hd : 1 ≤ d ∧ d ≤ 99) : RowOk (lowR w n d) := by
  have gp := gcdI_pos (a := n) (show 0 < d by omega)
  have gl := gcdI_le (a := n) (show 0 < d by omega)
  refine ⟨hw.1, hw.2, Int.ediv_nonneg hn.1 (Int.le_of_lt gp), Int.le_trans (Int.ediv_le_self _ hn.1) hn.2, ?_, Int.le_trans (Int.ediv_le_self _ (show 0 ≤ d by omega)) hd.2, gcdI_lowest (by omega)⟩
  exact Int.le_ediv_of_mul_le gp (by omega)
/-- a fraction in lowest terms against one that is not -/
theorem low_lt {n d n' d' : Int} (hd : 0 < d) (h : n * d' < n' * d) : n / gcdI n d * d' < n' * (d / gcdI n d) := by
  have gp := gcdI_pos (a := n) hd
  have e1 := Int.ediv_mul_cancel (gcdI_dvd_l n d)
  have e2 := Int.ediv_mul_cancel (gcdI_dvd_r n d)
  generalize n / gcdI n d = a at *
  generalize d / gcdI n d = b at *
  generalize gcdI n d = g at *
  rw [← e1, ← e2] at h
  have z : (a * d') * g < (n' * b) * g := by
    rw [show a * d' * g = a * g * d' by rw [Int.mul_right_comm], show n' * b * g = n' * (b * g) by rw [Int.mul_assoc]]
    exact h
  exact Int.lt_of_mul_lt_mul_right z (Int.le_of_lt gp)
theorem lt_low {n d n' d' : Int} (hd : 0 < d') (h : n * d' < n' * d) : n * (d' / gcdI n' d') < n' / gcdI n' d' * d := by
  have gp := gcdI_pos (a := n') hd
  have e1 := Int.ediv_mul_cancel (gcdI_dvd_l n' d')
  have e2 := Int.ediv_mul_cancel (gcdI_dvd_r n' d')
  generalize n' / gcdI n' d' = a at *
  generalize d' / gcdI n' d' = b at *
  generalize gcdI n' d' = g at *
  rw [← e1, ← e2] at h
  have z : (n * b) * g < (a * d) * g := by
    rw [show n * b * g = n * (b * g) by rw [Int.mul_assoc], show a * d * g = a * g * d by rw [Int.mul_right_comm]]
    exact h
  exact Int.lt_of_mul_lt_mul_right z (Int.le_of_lt gp)
/-- rows that ascend, all below the bounds that come -/
def Asc (rs : List Row) : Prop := ∀ (i j : Nat) (r s : Row), i < j → rs[i]? = some r → rs[j]? = some s → r.2.1 * s.2.2 < s.2.1 * r.2.2
theorem Asc.nil : Asc [] := fun i j r s _ h _ => by simp at h
theorem Asc.snoc {rs : List Row} {x : Row} (a : Asc rs) (h : ∀ r ∈ rs, r.2.1 * x.2.2 < x.2.1 * r.2.2) : Asc (rs ++ [x]) := fun i j r s hij hr hs => by
  have hj : j < (rs ++ [x]).length := (List.getElem?_eq_some_iff.mp hs).1
  rw [List.length_append, List.length_singleton] at hj
  rw [List.getElem?_append_left (by omega)] at hr
  by_cases hjl : j < rs.length
  · rw [List.getElem?_append_left hjl] at hs
    exact a i j r s hij hr hs
  · rw [List.getElem?_append_right (by omega), show j - rs.length = 0 by omega] at hs
    simp at hs
    subst hs
    exact h r (List.mem_of_getElem? hr)
theorem wts_ok {w : Int} {top : Int} {ws : List Int} (h : ∀ w ∈ ws, 1 ≤ w ∧ w ≤ top) (hw : 1 ≤ w ∧ w ≤ top) : ∀ v ∈ ws ++ [w], 1 ≤ v ∧ v ≤ top := fun v hv => by
  rcases List.mem_append.mp hv with z | z
  · exact h v z
  · simp at z; subst z; exact hw
theorem tail_dec {ws : List Int} (h : ∀ w ∈ ws, 1 ≤ w) : ∀ {i j : Nat}, i < j → j < ws.length → (ws.drop j).sum < (ws.drop i).sum := by
  intro i j hij hj
  induction j with
  | zero => omega
  | succ j ih =>
    have q : ws[j]? = some ws[j] := List.getElem?_eq_getElem (by omega)
    have s := sum_drop q
    have w1 := h ws[j] (List.getElem_mem ..)
    by_cases e : i = j
    · subst e; omega
    · have := ih (by omega) (by omega)
      omega
/-- the level prices -/
theorem level_ok {cs : List Int} {f : D} (many : Nat) (hf : Fd cs f) (h1 : 1 ≤ many) (h6 : many ≤ 6) : ∃ rs f', m__law_level [f, .int (many : Int)] = .ok (rowsD rs, f') ∧ Fd cs f' ∧ RowsOk rs := by
  have rng : ∀ ρ : Env, ρ[1]? = some (some (.int (many : Int))) → mItR1 (mCons (mVar 1) mNil) ρ = .ok (intsFrom 0 many, ρ) := fun ρ hρ => by
    have z := mItR1_ok (fs := mCons (mVar 1) mNil) (ρ := ρ) (ρ1 := ρ) (j := (many : Int)) (by simp only [mSeq, mSkip, mSet, mRet, mRetN, mBrk, mCnt, mDrop, mIfS, mVar, mMov, mCon, mUn, mBin, mNil, mCons, mPrim, ofO, mVal, mAnd, mOr, mNot, mIf, mAndV, mOrV, mChain, mCall, mCallB, mCallK, mMake, mMakeK, mMeth, mFldN, mUnN, mBinN, mSl, mSlN, mPart, mNoP, mApp, mSetIx, mFldSet, mPar, mAsg, gtN, gtT, gtCons, gtNil, gTup, gLst, gOne, gTwo, gIs, isNon, gPut, gListOf, gTupOf, gCat, gRev, gSum, gAll, gIsi, okD, tyHas, permL, mTry, noEr, mFn, mFnB, R.bind_ok, R.bind_bad, R.bind_er, List.getElem?_cons_zero, List.getElem?_cons_succ, List.set_cons_zero, List.set_cons_succ, List.length_cons, List.length_nil, List.map_cons, List.map_nil, List.append_nil, List.cons_append, List.nil_append, Option.bind_some, Option.bind_none, Option.map_some, Option.map_none, List.lookup_cons, List.lookup_nil, List.any_cons, List.any_nil, List.contains_cons, List.contains_nil, Bool.or_false, Bool.false_and, Bool.and_false, Bool.false_or, Bool.or_true, Bool.true_or, Bool.and_true, Bool.true_and, Bool.not_true, Bool.not_false, decide_true, decide_false, if_true, if_false, reduceIte, Nat.reduceAdd, Nat.reduceSub, Nat.reduceEqDiff, Int.reduceLT, Int.reduceLE, Nat.reduceBEq, beq_self_eq_true, Bool.false_eq_true, List.replicate_succ, List.replicate_zero, Option.getD_some, Option.getD_none, gI0_e, gIB_e, gII_e, gU_e, gInt_i, gInt_b, gEq_ii, gNe_ii, gIx_t, gIx_l, gIx_k, gLen_t, gLen_l, gLen_k, gNot_b, gFld_e, seqD_t, seqD_l, seqD_k, Nat.zero_le, Nat.reduceLeDiff, Nat.reduceLT, hρ]) (inLine_ok (by omega) (by omega))
    rw [z, Int.toNat_natCast]
  -- weights
  obtain ⟨ys, ρ', e, ⟨f1, ws, hf1, hρ, hys, hwl, hwb⟩⟩ := comp_inv (vs := [6]) (g := gtN 6) (ft := mYes) (fe := l__law_level_e1_14) (fun i acc ρ => ∃ (f : D) (ws : List Int), Fd cs f ∧ ρ = [some f, some (.int (many : Int)), none, none, none, none, none, none] ∧ acc = ws.map D.int ∧ ws.length = i ∧ ∀ w ∈ ws, 1 ≤ w ∧ w ≤ (4 : Int))
    (intsFrom 0 many) 0 [] [some f, some (.int (many : Int)), none, none, none, none, none, none] ⟨f, [], hf, rfl, rfl, rfl, fun w h => by simp at h⟩ (by
      rintro i d acc ρ hd ⟨f, ws, hf, rfl, rfl, hl, hb⟩
      obtain ⟨r, f', e, hf', r0, r1⟩ := pk 4 hf (by decide) (by decide)
      refine ⟨[some f, some (.int (many : Int)), none, none, none, none, some d, none], true, [some f, some (.int (many : Int)), none, none, none, none, some d, none], rfl, rfl, .inl ⟨rfl, .int (1 + r), [some f', some (.int (many : Int)), none, none, none, none, some d, none], ?_, f', ws ++ [1 + r], hf', rfl, ?_, ?_, wts_ok hb (by omega)⟩⟩
      · simp only [l__law_level_e1_14, mSeq, mSkip, mSet, mRet, mRetN, mBrk, mCnt, mDrop, mIfS, mVar, mMov, mCon, mUn, mBin, mNil, mCons, mPrim, ofO, mVal, mAnd, mOr, mNot, mIf, mAndV, mOrV, mChain, mCall, mCallB, mCallK, mMake, mMakeK, mMeth, mFldN, mUnN, mBinN, mSl, mSlN, mPart, mNoP, mApp, mSetIx, mFldSet, mPar, mAsg, gtN, gtT, gtCons, gtNil, gTup, gLst, gOne, gTwo, gIs, isNon, gPut, gListOf, gTupOf, gCat, gRev, gSum, gAll, gIsi, okD, tyHas, permL, mTry, noEr, mFn, mFnB, R.bind_ok, R.bind_bad, R.bind_er, List.getElem?_cons_zero, List.getElem?_cons_succ, List.set_cons_zero, List.set_cons_succ, List.length_cons, List.length_nil, List.map_cons, List.map_nil, List.append_nil, List.cons_append, List.nil_append, Option.bind_some, Option.bind_none, Option.map_some, Option.map_none, List.lookup_cons, List.lookup_nil, List.any_cons, List.any_nil, List.contains_cons, List.contains_nil, Bool.or_false, Bool.false_and, Bool.and_false, Bool.false_or, Bool.or_true, Bool.true_or, Bool.and_true, Bool.true_and, Bool.not_true, Bool.not_false, decide_true, decide_false, if_true, if_false, reduceIte, Nat.reduceAdd, Nat.reduceSub, Nat.reduceEqDiff, Int.reduceLT, Int.reduceLE, Nat.reduceBEq, beq_self_eq_true, Bool.false_eq_true, List.replicate_succ, List.replicate_zero, Option.getD_some, Option.getD_none, gI0_e, gIB_e, gII_e, gU_e, gInt_i, gInt_b, gEq_ii, gNe_ii, gIx_t, gIx_l, gIx_k, gLen_t, gLen_l, gLen_k, gNot_b, gFld_e, seqD_t, seqD_l, seqD_k, Nat.zero_le, Nat.reduceLeDiff, Nat.reduceLT, e]
      · rw [List.map_append]; rfl
      · rw [List.length_append, hl]; rfl)
  rw [List.nil_append] at hys
  rw [intsFrom_length, Nat.zero_add] at hwl
  subst hρ
  subst hys
  have s1 : mComp [6] (mItR1 (mCons (mVar 1) mNil)) (gtN 6) mYes l__law_level_e1_14 [some f, some (.int (many : Int)), none, none, none, none, none, none] = .ok (.lst (ws.map D.int), [some f1, some (.int (many : Int)), none, none, none, none, none, none]) :=
    mComp_ok (rng _ rfl) (by rw [intsFrom_length]; omega) e rfl
  obtain ⟨base, f2, e2, hf2, b0, b1⟩ := pk 4 hf1 (by decide) (by decide)
  obtain ⟨sh, f3, e3, hf3, c0, c1⟩ := pk 8 hf2 (by decide) (by decide)
  have kc : cMul 12 (1 + sh) = true := cMul_l (by decide)
  have wb : ∀ w ∈ ws, 1 ≤ w ∧ w ≤ 999 := fun w h => by have := hwb w h; omega
  have tb : ∀ k, 0 ≤ (ws.drop k).sum ∧ (ws.drop k).sum ≤ 24 := fun k => by
    have hh : ∀ (ws : List Int), (∀ w ∈ ws, 1 ≤ w ∧ w ≤ (4 : Int)) → 0 ≤ ws.sum ∧ ws.sum ≤ 4 * (ws.length : Int) := by
      intro ws
      induction ws with
      | nil => intro _; simp
      | cons w ws ih =>
        intro h
        have a := h w List.mem_cons_self
        have b := ih fun x hx => h x (List.mem_cons_of_mem _ hx)
        simp only [List.length_cons, List.sum_cons]
        omega
    have := hh (ws.drop k) fun w hw => hwb w (List.mem_of_mem_drop hw)
    have : (ws.drop k).length ≤ 6 := by rw [List.length_drop]; omega
    omega
  obtain ⟨ρ4, e4, ⟨rs, t6, t7, hρ4, hrl, hro, hra, hrb⟩⟩ := for_list (src := mItR1 (mCons (mVar 1) mNil)) (g := gtN 6) (fb := l__law_level_b5)
    (fun i ρ => ∃ rs t6 t7, ρ = [some f3, some (.int (many : Int)), some (.lst (ws.map D.int)), some (.int base), some (.int (12 * (1 + sh))), some (rowsD rs), t6, t7] ∧ rs.length = i ∧ (∀ r ∈ rs, RowOk r) ∧ Asc rs ∧
      ∀ r ∈ rs, ∀ j, i ≤ j → j < many → r.2.1 * (ws.drop j).sum < (base * (ws.drop j).sum + 12 * (1 + sh)) * r.2.2)
    (rng [some f3, some (.int (many : Int)), some (.lst (ws.map D.int)), some (.int base), some (.int (12 * (1 + sh))), some (.lst []), none, none] rfl) ⟨[], none, none, rfl, rfl, fun r h => by simp at h, Asc.nil, fun r h => by simp at h⟩ (by
      rintro i d ρ hd ⟨rs, t6, t7, rfl, hrl, hro, hra, hrb⟩
      obtain ⟨hil, rfl⟩ := intsFrom_at hd
      rw [Int.zero_add]
      have q : ws[i]? = some ws[i] := List.getElem?_eq_getElem (by omega)
      have wm := hwb ws[i] (List.getElem_mem ..)
      generalize ws[i] = w at q wm
      have wa : atI (ws.map D.int) (i : Int) = some (.int w) := atI_nat (by rw [List.getElem?_map, q]; rfl)
      have cu := cut_drop (xs := ws.map D.int) (k := i) (by rw [List.length_map]; omega)
      have si := ints_map (ws.drop i)
      rw [← List.map_drop] at cu
      have T1 := tail_pos (ws := ws) wb (k := i) (by omega)
      have T2 := (tb i).2
      have dec : ∀ j, i < j → j < many → (ws.drop j).sum < (ws.drop i).sum := fun j h1 h2 => tail_dec (fun w h => (hwb w h).1) h1 (by omega)
      have k1 : cMul base (ws.drop i).sum = true := cMul_l (by omega)
      have bt : 0 ≤ base * (ws.drop i).sum ∧ base * (ws.drop i).sum ≤ 3 * 24 := ⟨Int.mul_nonneg b0 (by omega), Int.mul_le_mul (by omega) T2 (by omega) (by decide)⟩
      have lo := lowest_ok (base * (ws.drop i).sum + 12 * (1 + sh)) (ws.drop i).sum T1 (by omega)
      have k3 : (rs.map rowD).length < 100000 := by rw [List.length_map]; omega
      have new : RowOk (lowR w (base * (ws.drop i).sum + 12 * (1 + sh)) (ws.drop i).sum) := lowR_ok ⟨wm.1, by omega⟩ ⟨by omega, by omega⟩ ⟨by omega, by omega⟩
      refine ⟨_, _, rfl, .inl ?_, rs ++ [lowR w (base * (ws.drop i).sum + 12 * (1 + sh)) (ws.drop i).sum], some (.int (i : Int)), some (.int (ws.drop i).sum), rfl, by rw [List.length_append, hrl]; rfl, ?_, ?_, ?_⟩
      · have er : rowsD (rs ++ [lowR w (base * (ws.drop i).sum + 12 * (1 + sh)) (ws.drop i).sum]) = .lst (rs.map rowD ++ [.tup [.int w, .tup [.int ((base * (ws.drop i).sum + 12 * (1 + sh)) / gcdI (base * (ws.drop i).sum + 12 * (1 + sh)) (ws.drop i).sum), .int ((ws.drop i).sum / gcdI (base * (ws.drop i).sum + 12 * (1 + sh)) (ws.drop i).sum)]]]) := by
          unfold rowsD
          rw [List.map_append]; rfl
        rw [er]
        simp only [l__law_level_b5, rowsD, mSeq, mSkip, mSet, mRet, mRetN, mBrk, mCnt, mDrop, mIfS, mVar, mMov, mCon, mUn, mBin, mNil, mCons, mPrim, ofO, mVal, mAnd, mOr, mNot, mIf, mAndV, mOrV, mChain, mCall, mCallB, mCallK, mMake, mMakeK, mMeth, mFldN, mUnN, mBinN, mSl, mSlN, mPart, mNoP, mApp, mSetIx, mFldSet, mPar, mAsg, gtN, gtT, gtCons, gtNil, gTup, gLst, gOne, gTwo, gIs, isNon, gPut, gListOf, gTupOf, gCat, gRev, gSum, gAll, gIsi, okD, tyHas, permL, mTry, noEr, mFn, mFnB, R.bind_ok, R.bind_bad, R.bind_er, List.getElem?_cons_zero, List.getElem?_cons_succ, List.set_cons_zero, List.set_cons_succ, List.length_cons, List.length_nil, List.map_cons, List.map_nil, List.append_nil, List.cons_append, List.nil_append, Option.bind_some, Option.bind_none, Option.map_some, Option.map_none, List.lookup_cons, List.lookup_nil, List.any_cons, List.any_nil, List.contains_cons, List.contains_nil, Bool.or_false, Bool.false_and, Bool.and_false, Bool.false_or, Bool.or_true, Bool.true_or, Bool.and_true, Bool.true_and, Bool.not_true, Bool.not_false, decide_true, decide_false, if_true, if_false, reduceIte, Nat.reduceAdd, Nat.reduceSub, Nat.reduceEqDiff, Int.reduceLT, Int.reduceLE, Nat.reduceBEq, beq_self_eq_true, Bool.false_eq_true, List.replicate_succ, List.replicate_zero, Option.getD_some, Option.getD_none, gI0_e, gIB_e, gII_e, gU_e, gInt_i, gInt_b, gEq_ii, gNe_ii, gIx_t, gIx_l, gIx_k, gLen_t, gLen_l, gLen_k, gNot_b, gFld_e, seqD_t, seqD_l, seqD_k, Nat.zero_le, Nat.reduceLeDiff, Nat.reduceLT, gSl, cu, si, wa, k1, lo, k3]
      · intro r hr
        rcases List.mem_append.mp hr with z | z
        · exact hro r z
        · simp at z; subst z; exact new
      · exact hra.snoc fun r hr => lt_low T1 (hrb r hr i (Nat.le_refl _) hil)
      · intro r hr j hij hj
        rcases List.mem_append.mp hr with z | z
        · exact hrb r z j (by omega) hj
        · simp at z
          subst z
          refine low_lt T1 ?_
          have d := dec j (by omega) hj
          have Tj := tb j
          generalize (ws.drop j).sum = U at *
          generalize (ws.drop i).sum = T at *
          have e1 : (base * T + 12 * (1 + sh)) * U = base * T * U + 12 * (1 + sh) * U := by rw [Int.add_mul]
          have e2 : (base * U + 12 * (1 + sh)) * T = base * T * U + 12 * (1 + sh) * T := by rw [Int.add_mul, Int.mul_right_comm]
          rw [e1, e2]
          have : 12 * (1 + sh) * U < 12 * (1 + sh) * T := Int.mul_lt_mul_of_pos_left d (by omega)
          omega)
  rw [intsFrom_length] at hrl
  subst hρ4
  have fin : mFor (mItR1 (mCons (mVar 1) mNil)) (gtN 6) l__law_level_b5 [some f3, some (.int (many : Int)), some (.lst (ws.map D.int)), some (.int base), some (.int (12 * (1 + sh))), some (.lst []), none, none] = .ok (.nx, [some f3, some (.int (many : Int)), some (.lst (ws.map D.int)), some (.int base), some (.int (12 * (1 + sh))), some (rowsD rs), t6, t7]) := e4
  have s2 : mSet 3 (mCallB 0 m__law_pick (mCons (mCon (.int 4)) mNil)) [some f1, some (.int (many : Int)), some (.lst (ws.map D.int)), none, none, none, none, none] = .ok (.nx, [some f2, some (.int (many : Int)), some (.lst (ws.map D.int)), some (.int base), none, none, none, none]) := by simp only [mSeq, mSkip, mSet, mRet, mRetN, mBrk, mCnt, mDrop, mIfS, mVar, mMov, mCon, mUn, mBin, mNil, mCons, mPrim, ofO, mVal, mAnd, mOr, mNot, mIf, mAndV, mOrV, mChain, mCall, mCallB, mCallK, mMake, mMakeK, mMeth, mFldN, mUnN, mBinN, mSl, mSlN, mPart, mNoP, mApp, mSetIx, mFldSet, mPar, mAsg, gtN, gtT, gtCons, gtNil, gTup, gLst, gOne, gTwo, gIs, isNon, gPut, gListOf, gTupOf, gCat, gRev, gSum, gAll, gIsi, okD, tyHas, permL, mTry, noEr, mFn, mFnB, R.bind_ok, R.bind_bad, R.bind_er, List.getElem?_cons_zero, List.getElem?_cons_succ, List.set_cons_zero, List.set_cons_succ, List.length_cons, List.length_nil, List.map_cons, List.map_nil, List.append_nil, List.cons_append, List.nil_append, Option.bind_some, Option.bind_none, Option.map_some, Option.map_none, List.lookup_cons, List.lookup_nil, List.any_cons, List.any_nil, List.contains_cons, List.contains_nil, Bool.or_false, Bool.false_and, Bool.and_false, Bool.false_or, Bool.or_true, Bool.true_or, Bool.and_true, Bool.true_and, Bool.not_true, Bool.not_false, decide_true, decide_false, if_true, if_false, reduceIte, Nat.reduceAdd, Nat.reduceSub, Nat.reduceEqDiff, Int.reduceLT, Int.reduceLE, Nat.reduceBEq, beq_self_eq_true, Bool.false_eq_true, List.replicate_succ, List.replicate_zero, Option.getD_some, Option.getD_none, gI0_e, gIB_e, gII_e, gU_e, gInt_i, gInt_b, gEq_ii, gNe_ii, gIx_t, gIx_l, gIx_k, gLen_t, gLen_l, gLen_k, gNot_b, gFld_e, seqD_t, seqD_l, seqD_k, Nat.zero_le, Nat.reduceLeDiff, Nat.reduceLT, e2]
  have s3 : mSet 4 (mBin (gII cMul (· * ·)) (mCon (.int 12)) (mBin (gI0 (· + ·)) (mCon (.int 1)) (mCallB 0 m__law_pick (mCons (mCon (.int 8)) mNil)))) [some f2, some (.int (many : Int)), some (.lst (ws.map D.int)), some (.int base), none, none, none, none] = .ok (.nx, [some f3, some (.int (many : Int)), some (.lst (ws.map D.int)), some (.int base), some (.int (12 * (1 + sh))), none, none, none]) := by simp only [mSeq, mSkip, mSet, mRet, mRetN, mBrk, mCnt, mDrop, mIfS, mVar, mMov, mCon, mUn, mBin, mNil, mCons, mPrim, ofO, mVal, mAnd, mOr, mNot, mIf, mAndV, mOrV, mChain, mCall, mCallB, mCallK, mMake, mMakeK, mMeth, mFldN, mUnN, mBinN, mSl, mSlN, mPart, mNoP, mApp, mSetIx, mFldSet, mPar, mAsg, gtN, gtT, gtCons, gtNil, gTup, gLst, gOne, gTwo, gIs, isNon, gPut, gListOf, gTupOf, gCat, gRev, gSum, gAll, gIsi, okD, tyHas, permL, mTry, noEr, mFn, mFnB, R.bind_ok, R.bind_bad, R.bind_er, List.getElem?_cons_zero, List.getElem?_cons_succ, List.set_cons_zero, List.set_cons_succ, List.length_cons, List.length_nil, List.map_cons, List.map_nil, List.append_nil, List.cons_append, List.nil_append, Option.bind_some, Option.bind_none, Option.map_some, Option.map_none, List.lookup_cons, List.lookup_nil, List.any_cons, List.any_nil, List.contains_cons, List.contains_nil, Bool.or_false, Bool.false_and, Bool.and_false, Bool.false_or, Bool.or_true, Bool.true_or, Bool.and_true, Bool.true_and, Bool.not_true, Bool.not_false, decide_true, decide_false, if_true, if_false, reduceIte, Nat.reduceAdd, Nat.reduceSub, Nat.reduceEqDiff, Int.reduceLT, Int.reduceLE, Nat.reduceBEq, beq_self_eq_true, Bool.false_eq_true, List.replicate_succ, List.replicate_zero, Option.getD_some, Option.getD_none, gI0_e, gIB_e, gII_e, gU_e, gInt_i, gInt_b, gEq_ii, gNe_ii, gIx_t, gIx_l, gIx_k, gLen_t, gLen_l, gLen_k, gNot_b, gFld_e, seqD_t, seqD_l, seqD_k, Nat.zero_le, Nat.reduceLeDiff, Nat.reduceLT, e3, kc]
  refine ⟨rs, f3, mFnB_rt (ρ := [some f3, some (.int (many : Int)), some (.lst (ws.map D.int)), some (.int base), some (.int (12 * (1 + sh))), some (rowsD rs), t6, t7]) rfl (mSeq_nx (mSet_to s1 rfl) (mSeq_nx s2 (mSeq_nx s3 (mSeq_nx rfl (mSeq_nx fin (mRet_ok rfl)))))) rfl, hf3, by omega, by omega, hro, hra⟩
/-- weights that are drawn -/
theorem weights_ok {cs : List Int} {f : D} (many : Nat) (hf : Fd cs f) (h6 : many ≤ 6) : ∃ (ws : List Int) (f' : D), m__law_weights [f, .int (many : Int), .int 999] = .ok (.lst (ws.map D.int), f') ∧ Fd cs f' ∧ ws.length = many ∧ ∀ w ∈ ws, 1 ≤ w ∧ w ≤ (999 : Int) := by
  have rng : ∀ ρ : Env, ρ[1]? = some (some (.int (many : Int))) → mItR1 (mCons (mVar 1) mNil) ρ = .ok (intsFrom 0 many, ρ) := fun ρ hρ => by
    have z := mItR1_ok (fs := mCons (mVar 1) mNil) (ρ := ρ) (ρ1 := ρ) (j := (many : Int)) (by simp only [mSeq, mSkip, mSet, mRet, mRetN, mBrk, mCnt, mDrop, mIfS, mVar, mMov, mCon, mUn, mBin, mNil, mCons, mPrim, ofO, mVal, mAnd, mOr, mNot, mIf, mAndV, mOrV, mChain, mCall, mCallB, mCallK, mMake, mMakeK, mMeth, mFldN, mUnN, mBinN, mSl, mSlN, mPart, mNoP, mApp, mSetIx, mFldSet, mPar, mAsg, gtN, gtT, gtCons, gtNil, gTup, gLst, gOne, gTwo, gIs, isNon, gPut, gListOf, gTupOf, gCat, gRev, gSum, gAll, gIsi, okD, tyHas, permL, mTry, noEr, mFn, mFnB, R.bind_ok, R.bind_bad, R.bind_er, List.getElem?_cons_zero, List.getElem?_cons_succ, List.set_cons_zero, List.set_cons_succ, List.length_cons, List.length_nil, List.map_cons, List.map_nil, List.append_nil, List.cons_append, List.nil_append, Option.bind_some, Option.bind_none, Option.map_some, Option.map_none, List.lookup_cons, List.lookup_nil, List.any_cons, List.any_nil, List.contains_cons, List.contains_nil, Bool.or_false, Bool.false_and, Bool.and_false, Bool.false_or, Bool.or_true, Bool.true_or, Bool.and_true, Bool.true_and, Bool.not_true, Bool.not_false, decide_true, decide_false, if_true, if_false, reduceIte, Nat.reduceAdd, Nat.reduceSub, Nat.reduceEqDiff, Int.reduceLT, Int.reduceLE, Nat.reduceBEq, beq_self_eq_true, Bool.false_eq_true, List.replicate_succ, List.replicate_zero, Option.getD_some, Option.getD_none, gI0_e, gIB_e, gII_e, gU_e, gInt_i, gInt_b, gEq_ii, gNe_ii, gIx_t, gIx_l, gIx_k, gLen_t, gLen_l, gLen_k, gNot_b, gFld_e, seqD_t, seqD_l, seqD_k, Nat.zero_le, Nat.reduceLeDiff, Nat.reduceLT, hρ]) (inLine_ok (by omega) (by omega))
    rw [z, Int.toNat_natCast]
  obtain ⟨wide, f1, e1, hf1, w0, w1⟩ := pk 6 hf (by decide) (by decide)
  have s1 : mSet 3 (mCallB 0 m__law_pick (mCons (mCon (.int 6)) mNil)) [some f, some (.int (many : Int)), some (.int 999), none, none] = .ok (.nx, [some f1, some (.int (many : Int)), some (.int 999), some (.int wide), none]) := by simp only [mSeq, mSkip, mSet, mRet, mRetN, mBrk, mCnt, mDrop, mIfS, mVar, mMov, mCon, mUn, mBin, mNil, mCons, mPrim, ofO, mVal, mAnd, mOr, mNot, mIf, mAndV, mOrV, mChain, mCall, mCallB, mCallK, mMake, mMakeK, mMeth, mFldN, mUnN, mBinN, mSl, mSlN, mPart, mNoP, mApp, mSetIx, mFldSet, mPar, mAsg, gtN, gtT, gtCons, gtNil, gTup, gLst, gOne, gTwo, gIs, isNon, gPut, gListOf, gTupOf, gCat, gRev, gSum, gAll, gIsi, okD, tyHas, permL, mTry, noEr, mFn, mFnB, R.bind_ok, R.bind_bad, R.bind_er, List.getElem?_cons_zero, List.getElem?_cons_succ, List.set_cons_zero, List.set_cons_succ, List.length_cons, List.length_nil, List.map_cons, List.map_nil, List.append_nil, List.cons_append, List.nil_append, Option.bind_some, Option.bind_none, Option.map_some, Option.map_none, List.lookup_cons, List.lookup_nil, List.any_cons, List.any_nil, List.contains_cons, List.contains_nil, Bool.or_false, Bool.false_and, Bool.and_false, Bool.false_or, Bool.or_true, Bool.true_or, Bool.and_true, Bool.true_and, Bool.not_true, Bool.not_false, decide_true, decide_false, if_true, if_false, reduceIte, Nat.reduceAdd, Nat.reduceSub, Nat.reduceEqDiff, Int.reduceLT, Int.reduceLE, Nat.reduceBEq, beq_self_eq_true, Bool.false_eq_true, List.replicate_succ, List.replicate_zero, Option.getD_some, Option.getD_none, gI0_e, gIB_e, gII_e, gU_e, gInt_i, gInt_b, gEq_ii, gNe_ii, gIx_t, gIx_l, gIx_k, gLen_t, gLen_l, gLen_k, gNot_b, gFld_e, seqD_t, seqD_l, seqD_k, Nat.zero_le, Nat.reduceLeDiff, Nat.reduceLT, e1]
  -- a comprehension of drawn weights
  have comp : ∀ (fe : Env → R (D × Env)), (∀ f, Fd cs f → ∀ d, ∃ r f', fe [some f, some (.int (many : Int)), some (.int 999), some (.int wide), some d] = .ok (.int r, [some f', some (.int (many : Int)), some (.int 999), some (.int wide), some d]) ∧ Fd cs f' ∧ 1 ≤ r ∧ r ≤ 999) →
      ∃ (ws : List Int) (f' : D), mComp [4] (mItR1 (mCons (mVar 1) mNil)) (gtN 4) mYes fe [some f1, some (.int (many : Int)), some (.int 999), some (.int wide), none] = .ok (.lst (ws.map D.int), [some f', some (.int (many : Int)), some (.int 999), some (.int wide), none]) ∧ Fd cs f' ∧ ws.length = many ∧ ∀ w ∈ ws, 1 ≤ w ∧ w ≤ (999 : Int) := by
    intro fe hfe
    obtain ⟨ys, ρ', e, ⟨f2, ws, hf2, hρ, hys, hwl, hwb⟩⟩ := comp_inv (vs := [4]) (g := gtN 4) (ft := mYes) (fe := fe) (fun i acc ρ => ∃ (f : D) (ws : List Int), Fd cs f ∧ ρ = [some f, some (.int (many : Int)), some (.int 999), some (.int wide), none] ∧ acc = ws.map D.int ∧ ws.length = i ∧ ∀ w ∈ ws, 1 ≤ w ∧ w ≤ (999 : Int))
      (intsFrom 0 many) 0 [] [some f1, some (.int (many : Int)), some (.int 999), some (.int wide), none] ⟨f1, [], hf1, rfl, rfl, rfl, fun w h => by simp at h⟩ (by
        rintro i d acc ρ hd ⟨f, ws, hf, rfl, rfl, hl, hb⟩
        obtain ⟨r, f', e, hf', r0⟩ := hfe f hf d
        exact ⟨[some f, some (.int (many : Int)), some (.int 999), some (.int wide), some d], true, [some f, some (.int (many : Int)), some (.int 999), some (.int wide), some d], rfl, rfl, .inl ⟨rfl, .int r, _, e, f', ws ++ [r], hf', rfl, by rw [List.map_append]; rfl, by rw [List.length_append, hl]; rfl, wts_ok hb r0⟩⟩)
    rw [List.nil_append] at hys
    rw [intsFrom_length, Nat.zero_add] at hwl
    subst hρ
    subst hys
    exact ⟨ws, f2, mComp_ok (rng _ rfl) (by rw [intsFrom_length]; omega) e rfl, hf2, hwl, hwb⟩
  by_cases z0 : wide = 0
  · obtain ⟨ws, f2, e, hf2, hl, hb⟩ := comp l__law_weights_e3_15 fun f hf d => ⟨1, f, rfl, hf, by decide, by decide⟩
    refine ⟨ws, f2, mFnB_rt (ρ := [some f2, some (.int (many : Int)), some (.int 999), some (.int wide), none]) rfl (mSeq_nx s1 (mSeq_rt (mIfS_t (ρ' := [some f1, some (.int (many : Int)), some (.int 999), some (.int wide), none]) ?_ (mRet_ok e)))) rfl, hf2, hl, hb⟩
    simp only [mSeq, mSkip, mSet, mRet, mRetN, mBrk, mCnt, mDrop, mIfS, mVar, mMov, mCon, mUn, mBin, mNil, mCons, mPrim, ofO, mVal, mAnd, mOr, mNot, mIf, mAndV, mOrV, mChain, mCall, mCallB, mCallK, mMake, mMakeK, mMeth, mFldN, mUnN, mBinN, mSl, mSlN, mPart, mNoP, mApp, mSetIx, mFldSet, mPar, mAsg, gtN, gtT, gtCons, gtNil, gTup, gLst, gOne, gTwo, gIs, isNon, gPut, gListOf, gTupOf, gCat, gRev, gSum, gAll, gIsi, okD, tyHas, permL, mTry, noEr, mFn, mFnB, R.bind_ok, R.bind_bad, R.bind_er, List.getElem?_cons_zero, List.getElem?_cons_succ, List.set_cons_zero, List.set_cons_succ, List.length_cons, List.length_nil, List.map_cons, List.map_nil, List.append_nil, List.cons_append, List.nil_append, Option.bind_some, Option.bind_none, Option.map_some, Option.map_none, List.lookup_cons, List.lookup_nil, List.any_cons, List.any_nil, List.contains_cons, List.contains_nil, Bool.or_false, Bool.false_and, Bool.and_false, Bool.false_or, Bool.or_true, Bool.true_or, Bool.and_true, Bool.true_and, Bool.not_true, Bool.not_false, decide_true, decide_false, if_true, if_false, reduceIte, Nat.reduceAdd, Nat.reduceSub, Nat.reduceEqDiff, Int.reduceLT, Int.reduceLE, Nat.reduceBEq, beq_self_eq_true, Bool.false_eq_true, List.replicate_succ, List.replicate_zero, Option.getD_some, Option.getD_none, gI0_e, gIB_e, gII_e, gU_e, gInt_i, gInt_b, gEq_ii, gNe_ii, gIx_t, gIx_l, gIx_k, gLen_t, gLen_l, gLen_k, gNot_b, gFld_e, seqD_t, seqD_l, seqD_k, Nat.zero_le, Nat.reduceLeDiff, Nat.reduceLT, z0]
  · have t0 : mIfS (mVal (mBin (gEq) (mVar 3) (mCon (.int 0)))) (mRet (mComp [4] (mItR1 (mCons (mVar 1) mNil)) (gtN 4) mYes l__law_weights_e3_15)) mSkip [some f1, some (.int (many : Int)), some (.int 999), some (.int wide), none] = .ok (.nx, [some f1, some (.int (many : Int)), some (.int 999), some (.int wide), none]) := mIfS_f (ρ' := [some f1, some (.int (many : Int)), some (.int 999), some (.int wide), none]) (by simp only [mSeq, mSkip, mSet, mRet, mRetN, mBrk, mCnt, mDrop, mIfS, mVar, mMov, mCon, mUn, mBin, mNil, mCons, mPrim, ofO, mVal, mAnd, mOr, mNot, mIf, mAndV, mOrV, mChain, mCall, mCallB, mCallK, mMake, mMakeK, mMeth, mFldN, mUnN, mBinN, mSl, mSlN, mPart, mNoP, mApp, mSetIx, mFldSet, mPar, mAsg, gtN, gtT, gtCons, gtNil, gTup, gLst, gOne, gTwo, gIs, isNon, gPut, gListOf, gTupOf, gCat, gRev, gSum, gAll, gIsi, okD, tyHas, permL, mTry, noEr, mFn, mFnB, R.bind_ok, R.bind_bad, R.bind_er, List.getElem?_cons_zero, List.getElem?_cons_succ, List.set_cons_zero, List.set_cons_succ, List.length_cons, List.length_nil, List.map_cons, List.map_nil, List.append_nil, List.cons_append, List.nil_append, Option.bind_some, Option.bind_none, Option.map_some, Option.map_none, List.lookup_cons, List.lookup_nil, List.any_cons, List.any_nil, List.contains_cons, List.contains_nil, Bool.or_false, Bool.false_and, Bool.and_false, Bool.false_or, Bool.or_true, Bool.true_or, Bool.and_true, Bool.true_and, Bool.not_true, Bool.not_false, decide_true, decide_false, if_true, if_false, reduceIte, Nat.reduceAdd, Nat.reduceSub, Nat.reduceEqDiff, Int.reduceLT, Int.reduceLE, Nat.reduceBEq, beq_self_eq_true, Bool.false_eq_true, List.replicate_succ, List.replicate_zero, Option.getD_some, Option.getD_none, gI0_e, gIB_e, gII_e, gU_e, gInt_i, gInt_b, gEq_ii, gNe_ii, gIx_t, gIx_l, gIx_k, gLen_t, gLen_l, gLen_k, gNot_b, gFld_e, seqD_t, seqD_l, seqD_k, Nat.zero_le, Nat.reduceLeDiff, Nat.reduceLT, z0]) rfl
    by_cases z1 : wide = 1
    · obtain ⟨ws, f2, e, hf2, hl, hb⟩ := comp l__law_weights_e5_15 fun f hf d => by
        obtain ⟨r, f', e, hf', r0, r1⟩ := pk 999 hf (by decide) (by decide)
        exact ⟨1 + r, f', by simp only [l__law_weights_e5_15, mSeq, mSkip, mSet, mRet, mRetN, mBrk, mCnt, mDrop, mIfS, mVar, mMov, mCon, mUn, mBin, mNil, mCons, mPrim, ofO, mVal, mAnd, mOr, mNot, mIf, mAndV, mOrV, mChain, mCall, mCallB, mCallK, mMake, mMakeK, mMeth, mFldN, mUnN, mBinN, mSl, mSlN, mPart, mNoP, mApp, mSetIx, mFldSet, mPar, mAsg, gtN, gtT, gtCons, gtNil, gTup, gLst, gOne, gTwo, gIs, isNon, gPut, gListOf, gTupOf, gCat, gRev, gSum, gAll, gIsi, okD, tyHas, permL, mTry, noEr, mFn, mFnB, R.bind_ok, R.bind_bad, R.bind_er, List.getElem?_cons_zero, List.getElem?_cons_succ, List.set_cons_zero, List.set_cons_succ, List.length_cons, List.length_nil, List.map_cons, List.map_nil, List.append_nil, List.cons_append, List.nil_append, Option.bind_some, Option.bind_none, Option.map_some, Option.map_none, List.lookup_cons, List.lookup_nil, List.any_cons, List.any_nil, List.contains_cons, List.contains_nil, Bool.or_false, Bool.false_and, Bool.and_false, Bool.false_or, Bool.or_true, Bool.true_or, Bool.and_true, Bool.true_and, Bool.not_true, Bool.not_false, decide_true, decide_false, if_true, if_false, reduceIte, Nat.reduceAdd, Nat.reduceSub, Nat.reduceEqDiff, Int.reduceLT, Int.reduceLE, Nat.reduceBEq, beq_self_eq_true, Bool.false_eq_true, List.replicate_succ, List.replicate_zero, Option.getD_some, Option.getD_none, gI0_e, gIB_e, gII_e, gU_e, gInt_i, gInt_b, gEq_ii, gNe_ii, gIx_t, gIx_l, gIx_k, gLen_t, gLen_l, gLen_k, gNot_b, gFld_e, seqD_t, seqD_l, seqD_k, Nat.zero_le, Nat.reduceLeDiff, Nat.reduceLT, e], hf', by omega, by omega⟩
      refine ⟨ws, f2, mFnB_rt (ρ := [some f2, some (.int (many : Int)), some (.int 999), some (.int wide), none]) rfl (mSeq_nx s1 (mSeq_nx t0 (mSeq_rt (mIfS_t (ρ' := [some f1, some (.int (many : Int)), some (.int 999), some (.int wide), none]) ?_ (mRet_ok e))))) rfl, hf2, hl, hb⟩
      simp only [mSeq, mSkip, mSet, mRet, mRetN, mBrk, mCnt, mDrop, mIfS, mVar, mMov, mCon, mUn, mBin, mNil, mCons, mPrim, ofO, mVal, mAnd, mOr, mNot, mIf, mAndV, mOrV, mChain, mCall, mCallB, mCallK, mMake, mMakeK, mMeth, mFldN, mUnN, mBinN, mSl, mSlN, mPart, mNoP, mApp, mSetIx, mFldSet, mPar, mAsg, gtN, gtT, gtCons, gtNil, gTup, gLst, gOne, gTwo, gIs, isNon, gPut, gListOf, gTupOf, gCat, gRev, gSum, gAll, gIsi, okD, tyHas, permL, mTry, noEr, mFn, mFnB, R.bind_ok, R.bind_bad, R.bind_er, List.getElem?_cons_zero, List.getElem?_cons_succ, List.set_cons_zero, List.set_cons_succ, List.length_cons, List.length_nil, List.map_cons, List.map_nil, List.append_nil, List.cons_append, List.nil_append, Option.bind_some, Option.bind_none, Option.map_some, Option.map_none, List.lookup_cons, List.lookup_nil, List.any_cons, List.any_nil, List.contains_cons, List.contains_nil, Bool.or_false, Bool.false_and, Bool.and_false, Bool.false_or, Bool.or_true, Bool.true_or, Bool.and_true, Bool.true_and, Bool.not_true, Bool.not_false, decide_true, decide_false, if_true, if_false, reduceIte, Nat.reduceAdd, Nat.reduceSub, Nat.reduceEqDiff, Int.reduceLT, Int.reduceLE, Nat.reduceBEq, beq_self_eq_true, Bool.false_eq_true, List.replicate_succ, List.replicate_zero, Option.getD_some, Option.getD_none, gI0_e, gIB_e, gII_e, gU_e, gInt_i, gInt_b, gEq_ii, gNe_ii, gIx_t, gIx_l, gIx_k, gLen_t, gLen_l, gLen_k, gNot_b, gFld_e, seqD_t, seqD_l, seqD_k, Nat.zero_le, Nat.reduceLeDiff, Nat.reduceLT, z1]
    · obtain ⟨ws, f2, e, hf2, hl, hb⟩ := comp l__law_weights_e6_11 fun f hf d => by
        obtain ⟨r, f', e, hf', r0, r1⟩ := pk 4 hf (by decide) (by decide)
        exact ⟨1 + r, f', by simp only [l__law_weights_e6_11, mSeq, mSkip, mSet, mRet, mRetN, mBrk, mCnt, mDrop, mIfS, mVar, mMov, mCon, mUn, mBin, mNil, mCons, mPrim, ofO, mVal, mAnd, mOr, mNot, mIf, mAndV, mOrV, mChain, mCall, mCallB, mCallK, mMake, mMakeK, mMeth, mFldN, mUnN, mBinN, mSl, mSlN, mPart, mNoP, mApp, mSetIx, mFldSet, mPar, mAsg, gtN, gtT, gtCons, gtNil, gTup, gLst, gOne, gTwo, gIs, isNon, gPut, gListOf, gTupOf, gCat, gRev, gSum, gAll, gIsi, okD, tyHas, permL, mTry, noEr, mFn, mFnB, R.bind_ok, R.bind_bad, R.bind_er, List.getElem?_cons_zero, List.getElem?_cons_succ, List.set_cons_zero, List.set_cons_succ, List.length_cons, List.length_nil, List.map_cons, List.map_nil, List.append_nil, List.cons_append, List.nil_append, Option.bind_some, Option.bind_none, Option.map_some, Option.map_none, List.lookup_cons, List.lookup_nil, List.any_cons, List.any_nil, List.contains_cons, List.contains_nil, Bool.or_false, Bool.false_and, Bool.and_false, Bool.false_or, Bool.or_true, Bool.true_or, Bool.and_true, Bool.true_and, Bool.not_true, Bool.not_false, decide_true, decide_false, if_true, if_false, reduceIte, Nat.reduceAdd, Nat.reduceSub, Nat.reduceEqDiff, Int.reduceLT, Int.reduceLE, Nat.reduceBEq, beq_self_eq_true, Bool.false_eq_true, List.replicate_succ, List.replicate_zero, Option.getD_some, Option.getD_none, gI0_e, gIB_e, gII_e, gU_e, gInt_i, gInt_b, gEq_ii, gNe_ii, gIx_t, gIx_l, gIx_k, gLen_t, gLen_l, gLen_k, gNot_b, gFld_e, seqD_t, seqD_l, seqD_k, Nat.zero_le, Nat.reduceLeDiff, Nat.reduceLT, e], hf', by omega, by omega⟩
      refine ⟨ws, f2, mFnB_rt (ρ := [some f2, some (.int (many : Int)), some (.int 999), some (.int wide), none]) rfl (mSeq_nx s1 (mSeq_nx t0 (mSeq_nx (mIfS_f (ρ' := [some f1, some (.int (many : Int)), some (.int 999), some (.int wide), none]) ?_ rfl) (mRet_ok e)))) rfl, hf2, hl, hb⟩
      simp only [mSeq, mSkip, mSet, mRet, mRetN, mBrk, mCnt, mDrop, mIfS, mVar, mMov, mCon, mUn, mBin, mNil, mCons, mPrim, ofO, mVal, mAnd, mOr, mNot, mIf, mAndV, mOrV, mChain, mCall, mCallB, mCallK, mMake, mMakeK, mMeth, mFldN, mUnN, mBinN, mSl, mSlN, mPart, mNoP, mApp, mSetIx, mFldSet, mPar, mAsg, gtN, gtT, gtCons, gtNil, gTup, gLst, gOne, gTwo, gIs, isNon, gPut, gListOf, gTupOf, gCat, gRev, gSum, gAll, gIsi, okD, tyHas, permL, mTry, noEr, mFn, mFnB, R.bind_ok, R.bind_bad, R.bind_er, List.getElem?_cons_zero, List.getElem?_cons_succ, List.set_cons_zero, List.set_cons_succ, List.length_cons, List.length_nil, List.map_cons, List.map_nil, List.append_nil, List.cons_append, List.nil_append, Option.bind_some, Option.bind_none, Option.map_some, Option.map_none, List.lookup_cons, List.lookup_nil, List.any_cons, List.any_nil, List.contains_cons, List.contains_nil, Bool.or_false, Bool.false_and, Bool.and_false, Bool.false_or, Bool.or_true, Bool.true_or, Bool.and_true, Bool.true_and, Bool.not_true, Bool.not_false, decide_true, decide_false, if_true, if_false, reduceIte, Nat.reduceAdd, Nat.reduceSub, Nat.reduceEqDiff, Int.reduceLT, Int.reduceLE, Nat.reduceBEq, beq_self_eq_true, Bool.false_eq_true, List.replicate_succ, List.replicate_zero, Option.getD_some, Option.getD_none, gI0_e, gIB_e, gII_e, gU_e, gInt_i, gInt_b, gEq_ii, gNe_ii, gIx_t, gIx_l, gIx_k, gLen_t, gLen_l, gLen_k, gNot_b, gFld_e, seqD_t, seqD_l, seqD_k, Nat.zero_le, Nat.reduceLeDiff, Nat.reduceLT, z1]
end Z.L77
end
set_option Elab.async false
set_option linter.all false
set_option maxRecDepth 100000
noncomputable section
namespace Z.L77
open PySem PySem.Spec L2
theorem mCallB_ok {i : Nat} {m : List D → R (D × D)} {fs : Env → R (List D × Env)} {ρ ρ1 ρ2 : Env} {x d0 d d1 : D} {ds : List D} (h0 : ρ[i]? = some (some x)) (h : fs ρ = .ok (ds, ρ1)) (h1 : ρ1[i]? = some (some d0)) (h2 : m (d0 :: ds) = .ok (d, d1)) (h3 : ρ1.set i (some d1) = ρ2) : mCallB i m fs ρ = .ok (d, ρ2) := by
  subst h3
  unfold mCallB
  simp only [h0, h, R.bind_ok, h1, h2]
theorem rowsD_snoc (rs : List Row) (w n d : Int) : rowsD (rs ++ [lowR w n d]) = .lst (rs.map rowD ++ [.tup [.int w, .tup [.int (n / gcdI n d), .int (d / gcdI n d)]]]) := by
  unfold rowsD
  rw [List.map_append]; rfl
theorem offerL_ok {cs : List Int} {f : D} (hf : Fd cs f) : ∃ rs f', m__law_offer [f, .int 6, .int 999] = .ok (rowsD rs, f') ∧ Fd cs f' ∧ RowsOk rs := by
  obtain ⟨m0, f1, e1, hf1, m1, m2⟩ := pk 6 hf (by decide) (by decide)
  -- how many
  have s12 : ∃ (many : Nat) (f2 : D), mIfS (mAnd (mVal (mBin (gEq) (mVar 3) (mCon (.int 1)))) (mVal (mBin (gEq) (mCallB 0 m__law_pick (mCons (mCon (.int 2)) mNil)) (mCon (.int 1))))) (mSet 3 (mVar 1)) mSkip [some f1, some (.int 6), some (.int 999), some (.int (1 + m0)), none, none, none, none, none, none, none] = .ok (.nx, [some f2, some (.int 6), some (.int 999), some (.int (many : Int)), none, none, none, none, none, none, none]) ∧ Fd cs f2 ∧ 1 ≤ many ∧ many ≤ 6 := by
    obtain ⟨k, hk⟩ := Int.eq_ofNat_of_zero_le (show 0 ≤ 1 + m0 by omega)
    by_cases z : 1 + m0 = 1
    · obtain ⟨t, f2, e2, hf2, t0, t1⟩ := pk 2 hf1 (by decide) (by decide)
      by_cases z2 : t = 1
      · exact ⟨6, f2, by simp only [mSeq, mSkip, mSet, mRet, mRetN, mBrk, mCnt, mDrop, mIfS, mVar, mMov, mCon, mUn, mBin, mNil, mCons, mPrim, ofO, mVal, mAnd, mOr, mNot, mIf, mAndV, mOrV, mChain, mCall, mCallB, mCallK, mMake, mMakeK, mMeth, mFldN, mUnN, mBinN, mSl, mSlN, mPart, mNoP, mApp, mSetIx, mFldSet, mPar, mAsg, gtN, gtT, gtCons, gtNil, gTup, gLst, gOne, gTwo, gIs, isNon, gPut, gListOf, gTupOf, gCat, gRev, gSum, gAll, gIsi, okD, tyHas, permL, mTry, noEr, mFn, mFnB, R.bind_ok, R.bind_bad, R.bind_er, List.getElem?_cons_zero, List.getElem?_cons_succ, List.set_cons_zero, List.set_cons_succ, List.length_cons, List.length_nil, List.map_cons, List.map_nil, List.append_nil, List.cons_append, List.nil_append, Option.bind_some, Option.bind_none, Option.map_some, Option.map_none, List.lookup_cons, List.lookup_nil, List.any_cons, List.any_nil, List.contains_cons, List.contains_nil, Bool.or_false, Bool.false_and, Bool.and_false, Bool.false_or, Bool.or_true, Bool.true_or, Bool.and_true, Bool.true_and, Bool.not_true, Bool.not_false, decide_true, decide_false, if_true, if_false, reduceIte, Nat.reduceAdd, Nat.reduceSub, Nat.reduceEqDiff, Int.reduceLT, Int.reduceLE, Nat.reduceBEq, beq_self_eq_true, Bool.false_eq_true, List.replicate_succ, List.replicate_zero, Option.getD_some, Option.getD_none, gI0_e, gIB_e, gII_e, gU_e, gInt_i, gInt_b, gEq_ii, gNe_ii, gIx_t, gIx_l, gIx_k, gLen_t, gLen_l, gLen_k, gNot_b, gFld_e, seqD_t, seqD_l, seqD_k, Nat.zero_le, Nat.reduceLeDiff, Nat.reduceLT, z, e2, z2, Int.cast_ofNat_Int], hf2, by decide, by decide⟩
      · exact ⟨1, f2, by simp only [mSeq, mSkip, mSet, mRet, mRetN, mBrk, mCnt, mDrop, mIfS, mVar, mMov, mCon, mUn, mBin, mNil, mCons, mPrim, ofO, mVal, mAnd, mOr, mNot, mIf, mAndV, mOrV, mChain, mCall, mCallB, mCallK, mMake, mMakeK, mMeth, mFldN, mUnN, mBinN, mSl, mSlN, mPart, mNoP, mApp, mSetIx, mFldSet, mPar, mAsg, gtN, gtT, gtCons, gtNil, gTup, gLst, gOne, gTwo, gIs, isNon, gPut, gListOf, gTupOf, gCat, gRev, gSum, gAll, gIsi, okD, tyHas, permL, mTry, noEr, mFn, mFnB, R.bind_ok, R.bind_bad, R.bind_er, List.getElem?_cons_zero, List.getElem?_cons_succ, List.set_cons_zero, List.set_cons_succ, List.length_cons, List.length_nil, List.map_cons, List.map_nil, List.append_nil, List.cons_append, List.nil_append, Option.bind_some, Option.bind_none, Option.map_some, Option.map_none, List.lookup_cons, List.lookup_nil, List.any_cons, List.any_nil, List.contains_cons, List.contains_nil, Bool.or_false, Bool.false_and, Bool.and_false, Bool.false_or, Bool.or_true, Bool.true_or, Bool.and_true, Bool.true_and, Bool.not_true, Bool.not_false, decide_true, decide_false, if_true, if_false, reduceIte, Nat.reduceAdd, Nat.reduceSub, Nat.reduceEqDiff, Int.reduceLT, Int.reduceLE, Nat.reduceBEq, beq_self_eq_true, Bool.false_eq_true, List.replicate_succ, List.replicate_zero, Option.getD_some, Option.getD_none, gI0_e, gIB_e, gII_e, gU_e, gInt_i, gInt_b, gEq_ii, gNe_ii, gIx_t, gIx_l, gIx_k, gLen_t, gLen_l, gLen_k, gNot_b, gFld_e, seqD_t, seqD_l, seqD_k, Nat.zero_le, Nat.reduceLeDiff, Nat.reduceLT, z, e2, z2, Int.cast_ofNat_Int], hf2, by decide, by decide⟩
    · refine ⟨k, f1, ?_, hf1, by omega, by omega⟩
      rw [← hk]
      simp only [mSeq, mSkip, mSet, mRet, mRetN, mBrk, mCnt, mDrop, mIfS, mVar, mMov, mCon, mUn, mBin, mNil, mCons, mPrim, ofO, mVal, mAnd, mOr, mNot, mIf, mAndV, mOrV, mChain, mCall, mCallB, mCallK, mMake, mMakeK, mMeth, mFldN, mUnN, mBinN, mSl, mSlN, mPart, mNoP, mApp, mSetIx, mFldSet, mPar, mAsg, gtN, gtT, gtCons, gtNil, gTup, gLst, gOne, gTwo, gIs, isNon, gPut, gListOf, gTupOf, gCat, gRev, gSum, gAll, gIsi, okD, tyHas, permL, mTry, noEr, mFn, mFnB, R.bind_ok, R.bind_bad, R.bind_er, List.getElem?_cons_zero, List.getElem?_cons_succ, List.set_cons_zero, List.set_cons_succ, List.length_cons, List.length_nil, List.map_cons, List.map_nil, List.append_nil, List.cons_append, List.nil_append, Option.bind_some, Option.bind_none, Option.map_some, Option.map_none, List.lookup_cons, List.lookup_nil, List.any_cons, List.any_nil, List.contains_cons, List.contains_nil, Bool.or_false, Bool.false_and, Bool.and_false, Bool.false_or, Bool.or_true, Bool.true_or, Bool.and_true, Bool.true_and, Bool.not_true, Bool.not_false, decide_true, decide_false, if_true, if_false, reduceIte, Nat.reduceAdd, Nat.reduceSub, Nat.reduceEqDiff, Int.reduceLT, Int.reduceLE, Nat.reduceBEq, beq_self_eq_true, Bool.false_eq_true, List.replicate_succ, List.replicate_zero, Option.getD_some, Option.getD_none, gI0_e, gIB_e, gII_e, gU_e, gInt_i, gInt_b, gEq_ii, gNe_ii, gIx_t, gIx_l, gIx_k, gLen_t, gLen_l, gLen_k, gNot_b, gFld_e, seqD_t, seqD_l, seqD_k, Nat.zero_le, Nat.reduceLeDiff, Nat.reduceLT, z]
  obtain ⟨many, f2, s2, hf2, l1, l6⟩ := s12
  have s1 : mSet 3 (mBin (gI0 (· + ·)) (mCon (.int 1)) (mCallB 0 m__law_pick (mCons (mVar 1) mNil))) [some f, some (.int 6), some (.int 999), none, none, none, none, none, none, none, none] = .ok (.nx, [some f1, some (.int 6), some (.int 999), some (.int (1 + m0)), none, none, none, none, none, none, none]) := by simp only [mSeq, mSkip, mSet, mRet, mRetN, mBrk, mCnt, mDrop, mIfS, mVar, mMov, mCon, mUn, mBin, mNil, mCons, mPrim, ofO, mVal, mAnd, mOr, mNot, mIf, mAndV, mOrV, mChain, mCall, mCallB, mCallK, mMake, mMakeK, mMeth, mFldN, mUnN, mBinN, mSl, mSlN, mPart, mNoP, mApp, mSetIx, mFldSet, mPar, mAsg, gtN, gtT, gtCons, gtNil, gTup, gLst, gOne, gTwo, gIs, isNon, gPut, gListOf, gTupOf, gCat, gRev, gSum, gAll, gIsi, okD, tyHas, permL, mTry, noEr, mFn, mFnB, R.bind_ok, R.bind_bad, R.bind_er, List.getElem?_cons_zero, List.getElem?_cons_succ, List.set_cons_zero, List.set_cons_succ, List.length_cons, List.length_nil, List.map_cons, List.map_nil, List.append_nil, List.cons_append, List.nil_append, Option.bind_some, Option.bind_none, Option.map_some, Option.map_none, List.lookup_cons, List.lookup_nil, List.any_cons, List.any_nil, List.contains_cons, List.contains_nil, Bool.or_false, Bool.false_and, Bool.and_false, Bool.false_or, Bool.or_true, Bool.true_or, Bool.and_true, Bool.true_and, Bool.not_true, Bool.not_false, decide_true, decide_false, if_true, if_false, reduceIte, Nat.reduceAdd, Nat.reduceSub, Nat.reduceEqDiff, Int.reduceLT, Int.reduceLE, Nat.reduceBEq, beq_self_eq_true, Bool.false_eq_true, List.replicate_succ, List.replicate_zero, Option.getD_some, Option.getD_none, gI0_e, gIB_e, gII_e, gU_e, gInt_i, gInt_b, gEq_ii, gNe_ii, gIx_t, gIx_l, gIx_k, gLen_t, gLen_l, gLen_k, gNot_b, gFld_e, seqD_t, seqD_l, seqD_k, Nat.zero_le, Nat.reduceLeDiff, Nat.reduceLT, e1]
  obtain ⟨kind, f3, e3, hf3, k0, k1⟩ := pk 16 hf2 (by decide) (by decide)
  have s3 : mSet 4 (mCallB 0 m__law_pick (mCons (mCon (.int 16)) mNil)) [some f2, some (.int 6), some (.int 999), some (.int (many : Int)), none, none, none, none, none, none, none] = .ok (.nx, [some f3, some (.int 6), some (.int 999), some (.int (many : Int)), some (.int kind), none, none, none, none, none, none]) := by simp only [mSeq, mSkip, mSet, mRet, mRetN, mBrk, mCnt, mDrop, mIfS, mVar, mMov, mCon, mUn, mBin, mNil, mCons, mPrim, ofO, mVal, mAnd, mOr, mNot, mIf, mAndV, mOrV, mChain, mCall, mCallB, mCallK, mMake, mMakeK, mMeth, mFldN, mUnN, mBinN, mSl, mSlN, mPart, mNoP, mApp, mSetIx, mFldSet, mPar, mAsg, gtN, gtT, gtCons, gtNil, gTup, gLst, gOne, gTwo, gIs, isNon, gPut, gListOf, gTupOf, gCat, gRev, gSum, gAll, gIsi, okD, tyHas, permL, mTry, noEr, mFn, mFnB, R.bind_ok, R.bind_bad, R.bind_er, List.getElem?_cons_zero, List.getElem?_cons_succ, List.set_cons_zero, List.set_cons_succ, List.length_cons, List.length_nil, List.map_cons, List.map_nil, List.append_nil, List.cons_append, List.nil_append, Option.bind_some, Option.bind_none, Option.map_some, Option.map_none, List.lookup_cons, List.lookup_nil, List.any_cons, List.any_nil, List.contains_cons, List.contains_nil, Bool.or_false, Bool.false_and, Bool.and_false, Bool.false_or, Bool.or_true, Bool.true_or, Bool.and_true, Bool.true_and, Bool.not_true, Bool.not_false, decide_true, decide_false, if_true, if_false, reduceIte, Nat.reduceAdd, Nat.reduceSub, Nat.reduceEqDiff, Int.reduceLT, Int.reduceLE, Nat.reduceBEq, beq_self_eq_true, Bool.false_eq_true, List.replicate_succ, List.replicate_zero, Option.getD_some, Option.getD_none, gI0_e, gIB_e, gII_e, gU_e, gInt_i, gInt_b, gEq_ii, gNe_ii, gIx_t, gIx_l, gIx_k, gLen_t, gLen_l, gLen_k, gNot_b, gFld_e, seqD_t, seqD_l, seqD_k, Nat.zero_le, Nat.reduceLeDiff, Nat.reduceLT, e3]
  by_cases hk : kind < 3
  · obtain ⟨rs, f4, e4, hf4, ok⟩ := level_ok many hf3 l1 l6
    refine ⟨rs, f4, mFnB_rt (ρ := [some f4, some (.int 6), some (.int 999), some (.int (many : Int)), some (.int kind), none, none, none, none, none, none]) rfl (mSeq_nx s1 (mSeq_nx s2 (mSeq_nx s3 (mSeq_rt (mIfS_t (ρ' := [some f3, some (.int 6), some (.int 999), some (.int (many : Int)), some (.int kind), none, none, none, none, none, none]) ?_ (mRet_ok ?_)))))) rfl, hf4, ok⟩
    · simp only [mSeq, mSkip, mSet, mRet, mRetN, mBrk, mCnt, mDrop, mIfS, mVar, mMov, mCon, mUn, mBin, mNil, mCons, mPrim, ofO, mVal, mAnd, mOr, mNot, mIf, mAndV, mOrV, mChain, mCall, mCallB, mCallK, mMake, mMakeK, mMeth, mFldN, mUnN, mBinN, mSl, mSlN, mPart, mNoP, mApp, mSetIx, mFldSet, mPar, mAsg, gtN, gtT, gtCons, gtNil, gTup, gLst, gOne, gTwo, gIs, isNon, gPut, gListOf, gTupOf, gCat, gRev, gSum, gAll, gIsi, okD, tyHas, permL, mTry, noEr, mFn, mFnB, R.bind_ok, R.bind_bad, R.bind_er, List.getElem?_cons_zero, List.getElem?_cons_succ, List.set_cons_zero, List.set_cons_succ, List.length_cons, List.length_nil, List.map_cons, List.map_nil, List.append_nil, List.cons_append, List.nil_append, Option.bind_some, Option.bind_none, Option.map_some, Option.map_none, List.lookup_cons, List.lookup_nil, List.any_cons, List.any_nil, List.contains_cons, List.contains_nil, Bool.or_false, Bool.false_and, Bool.and_false, Bool.false_or, Bool.or_true, Bool.true_or, Bool.and_true, Bool.true_and, Bool.not_true, Bool.not_false, decide_true, decide_false, if_true, if_false, reduceIte, Nat.reduceAdd, Nat.reduceSub, Nat.reduceEqDiff, Int.reduceLT, Int.reduceLE, Nat.reduceBEq, beq_self_eq_true, Bool.false_eq_true, List.replicate_succ, List.replicate_zero, Option.getD_some, Option.getD_none, gI0_e, gIB_e, gII_e, gU_e, gInt_i, gInt_b, gEq_ii, gNe_ii, gIx_t, gIx_l, gIx_k, gLen_t, gLen_l, gLen_k, gNot_b, gFld_e, seqD_t, seqD_l, seqD_k, Nat.zero_le, Nat.reduceLeDiff, Nat.reduceLT, hk]
    · exact mCallB_ok rfl rfl rfl e4 rfl
  · have s4 : mIfS (mVal (mBin (gIB fun i j => decide (i < j)) (mVar 4) (mCon (.int 3)))) (mRet (mCallB 0 m__law_level (mCons (mVar 3) mNil))) mSkip [some f3, some (.int 6), some (.int 999), some (.int (many : Int)), some (.int kind), none, none, none, none, none, none] = .ok (.nx, [some f3, some (.int 6), some (.int 999), some (.int (many : Int)), some (.int kind), none, none, none, none, none, none]) := mIfS_f (ρ' := [some f3, some (.int 6), some (.int 999), some (.int (many : Int)), some (.int kind), none, none, none, none, none, none]) (by simp only [mSeq, mSkip, mSet, mRet, mRetN, mBrk, mCnt, mDrop, mIfS, mVar, mMov, mCon, mUn, mBin, mNil, mCons, mPrim, ofO, mVal, mAnd, mOr, mNot, mIf, mAndV, mOrV, mChain, mCall, mCallB, mCallK, mMake, mMakeK, mMeth, mFldN, mUnN, mBinN, mSl, mSlN, mPart, mNoP, mApp, mSetIx, mFldSet, mPar, mAsg, gtN, gtT, gtCons, gtNil, gTup, gLst, gOne, gTwo, gIs, isNon, gPut, gListOf, gTupOf, gCat, gRev, gSum, gAll, gIsi, okD, tyHas, permL, mTry, noEr, mFn, mFnB, R.bind_ok, R.bind_bad, R.bind_er, List.getElem?_cons_zero, List.getElem?_cons_succ, List.set_cons_zero, List.set_cons_succ, List.length_cons, List.length_nil, List.map_cons, List.map_nil, List.append_nil, List.cons_append, List.nil_append, Option.bind_some, Option.bind_none, Option.map_some, Option.map_none, List.lookup_cons, List.lookup_nil, List.any_cons, List.any_nil, List.contains_cons, List.contains_nil, Bool.or_false, Bool.false_and, Bool.and_false, Bool.false_or, Bool.or_true, Bool.true_or, Bool.and_true, Bool.true_and, Bool.not_true, Bool.not_false, decide_true, decide_false, if_true, if_false, reduceIte, Nat.reduceAdd, Nat.reduceSub, Nat.reduceEqDiff, Int.reduceLT, Int.reduceLE, Nat.reduceBEq, beq_self_eq_true, Bool.false_eq_true, List.replicate_succ, List.replicate_zero, Option.getD_some, Option.getD_none, gI0_e, gIB_e, gII_e, gU_e, gInt_i, gInt_b, gEq_ii, gNe_ii, gIx_t, gIx_l, gIx_k, gLen_t, gLen_l, gLen_k, gNot_b, gFld_e, seqD_t, seqD_l, seqD_k, Nat.zero_le, Nat.reduceLeDiff, Nat.reduceLT, hk]) rfl
    obtain ⟨ws, f4, e4, hf4, hwl, hwb⟩ := weights_ok many hf3 l6
    have s5 : mSet 5 (mCallB 0 m__law_weights (mCons (mVar 3) (mCons (mVar 2) mNil))) [some f3, some (.int 6), some (.int 999), some (.int (many : Int)), some (.int kind), none, none, none, none, none, none] = .ok (.nx, [some f4, some (.int 6), some (.int 999), some (.int (many : Int)), some (.int kind), some (.lst (ws.map D.int)), none, none, none, none, none]) := by simp only [mSeq, mSkip, mSet, mRet, mRetN, mBrk, mCnt, mDrop, mIfS, mVar, mMov, mCon, mUn, mBin, mNil, mCons, mPrim, ofO, mVal, mAnd, mOr, mNot, mIf, mAndV, mOrV, mChain, mCall, mCallB, mCallK, mMake, mMakeK, mMeth, mFldN, mUnN, mBinN, mSl, mSlN, mPart, mNoP, mApp, mSetIx, mFldSet, mPar, mAsg, gtN, gtT, gtCons, gtNil, gTup, gLst, gOne, gTwo, gIs, isNon, gPut, gListOf, gTupOf, gCat, gRev, gSum, gAll, gIsi, okD, tyHas, permL, mTry, noEr, mFn, mFnB, R.bind_ok, R.bind_bad, R.bind_er, List.getElem?_cons_zero, List.getElem?_cons_succ, List.set_cons_zero, List.set_cons_succ, List.length_cons, List.length_nil, List.map_cons, List.map_nil, List.append_nil, List.cons_append, List.nil_append, Option.bind_some, Option.bind_none, Option.map_some, Option.map_none, List.lookup_cons, List.lookup_nil, List.any_cons, List.any_nil, List.contains_cons, List.contains_nil, Bool.or_false, Bool.false_and, Bool.and_false, Bool.false_or, Bool.or_true, Bool.true_or, Bool.and_true, Bool.true_and, Bool.not_true, Bool.not_false, decide_true, decide_false, if_true, if_false, reduceIte, Nat.reduceAdd, Nat.reduceSub, Nat.reduceEqDiff, Int.reduceLT, Int.reduceLE, Nat.reduceBEq, beq_self_eq_true, Bool.false_eq_true, List.replicate_succ, List.replicate_zero, Option.getD_some, Option.getD_none, gI0_e, gIB_e, gII_e, gU_e, gInt_i, gInt_b, gEq_ii, gNe_ii, gIx_t, gIx_l, gIx_k, gLen_t, gLen_l, gLen_k, gNot_b, gFld_e, seqD_t, seqD_l, seqD_k, Nat.zero_le, Nat.reduceLeDiff, Nat.reduceLT, e4]
    obtain ⟨gi, f5, e5, hf5, g0, g1⟩ := pk 4 hf4 (by decide) (by decide)
    obtain ⟨gap0, eg, gb⟩ : ∃ gap : Int, atI [D.int 9, D.int 9, D.int 3, D.int 40] gi = some (.int gap) ∧ 1 ≤ gap ∧ gap ≤ 40 := by
      have : gi = 0 ∨ gi = 1 ∨ gi = 2 ∨ gi = 3 := by omega
      rcases this with rfl | rfl | rfl | rfl
      · exact ⟨9, rfl, by decide, by decide⟩
      · exact ⟨9, rfl, by decide, by decide⟩
      · exact ⟨3, rfl, by decide, by decide⟩
      · exact ⟨40, rfl, by decide, by decide⟩
    have s6 : mSet 6 (mBin gIx (mPrim gLst (mCons (mCon (.int 9)) (mCons (mCon (.int 9)) (mCons (mCon (.int 3)) (mCons (mCon (.int 40)) mNil))))) (mCallB 0 m__law_pick (mCons (mCon (.int 4)) mNil))) [some f4, some (.int 6), some (.int 999), some (.int (many : Int)), some (.int kind), some (.lst (ws.map D.int)), none, none, none, none, none] = .ok (.nx, [some f5, some (.int 6), some (.int 999), some (.int (many : Int)), some (.int kind), some (.lst (ws.map D.int)), some (.int gap0), none, none, none, none]) := by simp only [mSeq, mSkip, mSet, mRet, mRetN, mBrk, mCnt, mDrop, mIfS, mVar, mMov, mCon, mUn, mBin, mNil, mCons, mPrim, ofO, mVal, mAnd, mOr, mNot, mIf, mAndV, mOrV, mChain, mCall, mCallB, mCallK, mMake, mMakeK, mMeth, mFldN, mUnN, mBinN, mSl, mSlN, mPart, mNoP, mApp, mSetIx, mFldSet, mPar, mAsg, gtN, gtT, gtCons, gtNil, gTup, gLst, gOne, gTwo, gIs, isNon, gPut, gListOf, gTupOf, gCat, gRev, gSum, gAll, gIsi, okD, tyHas, permL, mTry, noEr, mFn, mFnB, R.bind_ok, R.bind_bad, R.bind_er, List.getElem?_cons_zero, List.getElem?_cons_succ, List.set_cons_zero, List.set_cons_succ, List.length_cons, List.length_nil, List.map_cons, List.map_nil, List.append_nil, List.cons_append, List.nil_append, Option.bind_some, Option.bind_none, Option.map_some, Option.map_none, List.lookup_cons, List.lookup_nil, List.any_cons, List.any_nil, List.contains_cons, List.contains_nil, Bool.or_false, Bool.false_and, Bool.and_false, Bool.false_or, Bool.or_true, Bool.true_or, Bool.and_true, Bool.true_and, Bool.not_true, Bool.not_false, decide_true, decide_false, if_true, if_false, reduceIte, Nat.reduceAdd, Nat.reduceSub, Nat.reduceEqDiff, Int.reduceLT, Int.reduceLE, Nat.reduceBEq, beq_self_eq_true, Bool.false_eq_true, List.replicate_succ, List.replicate_zero, Option.getD_some, Option.getD_none, gI0_e, gIB_e, gII_e, gU_e, gInt_i, gInt_b, gEq_ii, gNe_ii, gIx_t, gIx_l, gIx_k, gLen_t, gLen_l, gLen_k, gNot_b, gFld_e, seqD_t, seqD_l, seqD_k, Nat.zero_le, Nat.reduceLeDiff, Nat.reduceLT, e5, eg]
    -- the den
    have s8 : ∃ (den : Int) (f6 : D), mIfS (mVal (mBin (gIB fun i j => decide (j < i)) (mVar 4) (mCon (.int 11)))) (mSet 7 (mBin (gI0 (· + ·)) (mCon (.int 2)) (mCallB 0 m__law_pick (mCons (mCon (.int 3)) mNil)))) mSkip [some f5, some (.int 6), some (.int 999), some (.int (many : Int)), some (.int kind), some (.lst (ws.map D.int)), some (.int gap0), some (.int 1), none, none, none] = .ok (.nx, [some f6, some (.int 6), some (.int 999), some (.int (many : Int)), some (.int kind), some (.lst (ws.map D.int)), some (.int gap0), some (.int den), none, none, none]) ∧ Fd cs f6 ∧ 1 ≤ den ∧ den ≤ 99 := by
      by_cases z : 11 < kind
      · obtain ⟨r, f6, e6, hf6, r0, r1⟩ := pk 3 hf5 (by decide) (by decide)
        exact ⟨2 + r, f6, by simp only [mSeq, mSkip, mSet, mRet, mRetN, mBrk, mCnt, mDrop, mIfS, mVar, mMov, mCon, mUn, mBin, mNil, mCons, mPrim, ofO, mVal, mAnd, mOr, mNot, mIf, mAndV, mOrV, mChain, mCall, mCallB, mCallK, mMake, mMakeK, mMeth, mFldN, mUnN, mBinN, mSl, mSlN, mPart, mNoP, mApp, mSetIx, mFldSet, mPar, mAsg, gtN, gtT, gtCons, gtNil, gTup, gLst, gOne, gTwo, gIs, isNon, gPut, gListOf, gTupOf, gCat, gRev, gSum, gAll, gIsi, okD, tyHas, permL, mTry, noEr, mFn, mFnB, R.bind_ok, R.bind_bad, R.bind_er, List.getElem?_cons_zero, List.getElem?_cons_succ, List.set_cons_zero, List.set_cons_succ, List.length_cons, List.length_nil, List.map_cons, List.map_nil, List.append_nil, List.cons_append, List.nil_append, Option.bind_some, Option.bind_none, Option.map_some, Option.map_none, List.lookup_cons, List.lookup_nil, List.any_cons, List.any_nil, List.contains_cons, List.contains_nil, Bool.or_false, Bool.false_and, Bool.and_false, Bool.false_or, Bool.or_true, Bool.true_or, Bool.and_true, Bool.true_and, Bool.not_true, Bool.not_false, decide_true, decide_false, if_true, if_false, reduceIte, Nat.reduceAdd, Nat.reduceSub, Nat.reduceEqDiff, Int.reduceLT, Int.reduceLE, Nat.reduceBEq, beq_self_eq_true, Bool.false_eq_true, List.replicate_succ, List.replicate_zero, Option.getD_some, Option.getD_none, gI0_e, gIB_e, gII_e, gU_e, gInt_i, gInt_b, gEq_ii, gNe_ii, gIx_t, gIx_l, gIx_k, gLen_t, gLen_l, gLen_k, gNot_b, gFld_e, seqD_t, seqD_l, seqD_k, Nat.zero_le, Nat.reduceLeDiff, Nat.reduceLT, z, e6], hf6, by omega, by omega⟩
      · exact ⟨1, f5, by simp only [mSeq, mSkip, mSet, mRet, mRetN, mBrk, mCnt, mDrop, mIfS, mVar, mMov, mCon, mUn, mBin, mNil, mCons, mPrim, ofO, mVal, mAnd, mOr, mNot, mIf, mAndV, mOrV, mChain, mCall, mCallB, mCallK, mMake, mMakeK, mMeth, mFldN, mUnN, mBinN, mSl, mSlN, mPart, mNoP, mApp, mSetIx, mFldSet, mPar, mAsg, gtN, gtT, gtCons, gtNil, gTup, gLst, gOne, gTwo, gIs, isNon, gPut, gListOf, gTupOf, gCat, gRev, gSum, gAll, gIsi, okD, tyHas, permL, mTry, noEr, mFn, mFnB, R.bind_ok, R.bind_bad, R.bind_er, List.getElem?_cons_zero, List.getElem?_cons_succ, List.set_cons_zero, List.set_cons_succ, List.length_cons, List.length_nil, List.map_cons, List.map_nil, List.append_nil, List.cons_append, List.nil_append, Option.bind_some, Option.bind_none, Option.map_some, Option.map_none, List.lookup_cons, List.lookup_nil, List.any_cons, List.any_nil, List.contains_cons, List.contains_nil, Bool.or_false, Bool.false_and, Bool.and_false, Bool.false_or, Bool.or_true, Bool.true_or, Bool.and_true, Bool.true_and, Bool.not_true, Bool.not_false, decide_true, decide_false, if_true, if_false, reduceIte, Nat.reduceAdd, Nat.reduceSub, Nat.reduceEqDiff, Int.reduceLT, Int.reduceLE, Nat.reduceBEq, beq_self_eq_true, Bool.false_eq_true, List.replicate_succ, List.replicate_zero, Option.getD_some, Option.getD_none, gI0_e, gIB_e, gII_e, gU_e, gInt_i, gInt_b, gEq_ii, gNe_ii, gIx_t, gIx_l, gIx_k, gLen_t, gLen_l, gLen_k, gNot_b, gFld_e, seqD_t, seqD_l, seqD_k, Nat.zero_le, Nat.reduceLeDiff, Nat.reduceLT, z], hf5, by decide, by decide⟩
    obtain ⟨den0, f6, s8, hf6, d0, d1⟩ := s8
    have s9 : ∃ (den gap : Int) (f7 : D), mIfS (mVal (mBin (gEq) (mVar 4) (mCon (.int 3)))) (mSeq (mSet 6 (mCon (.int 1600))) (mSet 7 (mBin (gI0 (· + ·)) (mCon (.int 1)) (mCallB 0 m__law_pick (mCons (mCon (.int 99)) mNil))))) mSkip [some f6, some (.int 6), some (.int 999), some (.int (many : Int)), some (.int kind), some (.lst (ws.map D.int)), some (.int gap0), some (.int den0), none, none, none] = .ok (.nx, [some f7, some (.int 6), some (.int 999), some (.int (many : Int)), some (.int kind), some (.lst (ws.map D.int)), some (.int gap), some (.int den), none, none, none]) ∧ Fd cs f7 ∧ 1 ≤ den ∧ den ≤ 99 ∧ 1 ≤ gap ∧ gap ≤ 1600 ∧ (kind = 4 → gap ≤ 40) := by
      by_cases z : kind = 3
      · obtain ⟨r, f7, e7, hf7, r0, r1⟩ := pk 99 hf6 (by decide) (by decide)
        exact ⟨1 + r, 1600, f7, by simp only [mSeq, mSkip, mSet, mRet, mRetN, mBrk, mCnt, mDrop, mIfS, mVar, mMov, mCon, mUn, mBin, mNil, mCons, mPrim, ofO, mVal, mAnd, mOr, mNot, mIf, mAndV, mOrV, mChain, mCall, mCallB, mCallK, mMake, mMakeK, mMeth, mFldN, mUnN, mBinN, mSl, mSlN, mPart, mNoP, mApp, mSetIx, mFldSet, mPar, mAsg, gtN, gtT, gtCons, gtNil, gTup, gLst, gOne, gTwo, gIs, isNon, gPut, gListOf, gTupOf, gCat, gRev, gSum, gAll, gIsi, okD, tyHas, permL, mTry, noEr, mFn, mFnB, R.bind_ok, R.bind_bad, R.bind_er, List.getElem?_cons_zero, List.getElem?_cons_succ, List.set_cons_zero, List.set_cons_succ, List.length_cons, List.length_nil, List.map_cons, List.map_nil, List.append_nil, List.cons_append, List.nil_append, Option.bind_some, Option.bind_none, Option.map_some, Option.map_none, List.lookup_cons, List.lookup_nil, List.any_cons, List.any_nil, List.contains_cons, List.contains_nil, Bool.or_false, Bool.false_and, Bool.and_false, Bool.false_or, Bool.or_true, Bool.true_or, Bool.and_true, Bool.true_and, Bool.not_true, Bool.not_false, decide_true, decide_false, if_true, if_false, reduceIte, Nat.reduceAdd, Nat.reduceSub, Nat.reduceEqDiff, Int.reduceLT, Int.reduceLE, Nat.reduceBEq, beq_self_eq_true, Bool.false_eq_true, List.replicate_succ, List.replicate_zero, Option.getD_some, Option.getD_none, gI0_e, gIB_e, gII_e, gU_e, gInt_i, gInt_b, gEq_ii, gNe_ii, gIx_t, gIx_l, gIx_k, gLen_t, gLen_l, gLen_k, gNot_b, gFld_e, seqD_t, seqD_l, seqD_k, Nat.zero_le, Nat.reduceLeDiff, Nat.reduceLT, z, e7], hf7, by omega, by omega, by decide, by decide, fun h => by omega⟩
      · exact ⟨den0, gap0, f6, by simp only [mSeq, mSkip, mSet, mRet, mRetN, mBrk, mCnt, mDrop, mIfS, mVar, mMov, mCon, mUn, mBin, mNil, mCons, mPrim, ofO, mVal, mAnd, mOr, mNot, mIf, mAndV, mOrV, mChain, mCall, mCallB, mCallK, mMake, mMakeK, mMeth, mFldN, mUnN, mBinN, mSl, mSlN, mPart, mNoP, mApp, mSetIx, mFldSet, mPar, mAsg, gtN, gtT, gtCons, gtNil, gTup, gLst, gOne, gTwo, gIs, isNon, gPut, gListOf, gTupOf, gCat, gRev, gSum, gAll, gIsi, okD, tyHas, permL, mTry, noEr, mFn, mFnB, R.bind_ok, R.bind_bad, R.bind_er, List.getElem?_cons_zero, List.getElem?_cons_succ, List.set_cons_zero, List.set_cons_succ, List.length_cons, List.length_nil, List.map_cons, List.map_nil, List.append_nil, List.cons_append, List.nil_append, Option.bind_some, Option.bind_none, Option.map_some, Option.map_none, List.lookup_cons, List.lookup_nil, List.any_cons, List.any_nil, List.contains_cons, List.contains_nil, Bool.or_false, Bool.false_and, Bool.and_false, Bool.false_or, Bool.or_true, Bool.true_or, Bool.and_true, Bool.true_and, Bool.not_true, Bool.not_false, decide_true, decide_false, if_true, if_false, reduceIte, Nat.reduceAdd, Nat.reduceSub, Nat.reduceEqDiff, Int.reduceLT, Int.reduceLE, Nat.reduceBEq, beq_self_eq_true, Bool.false_eq_true, List.replicate_succ, List.replicate_zero, Option.getD_some, Option.getD_none, gI0_e, gIB_e, gII_e, gU_e, gInt_i, gInt_b, gEq_ii, gNe_ii, gIx_t, gIx_l, gIx_k, gLen_t, gLen_l, gLen_k, gNot_b, gFld_e, seqD_t, seqD_l, seqD_k, Nat.zero_le, Nat.reduceLeDiff, Nat.reduceLT, z], hf6, d0, d1, by omega, by omega, fun _ => by omega⟩
    obtain ⟨den, gap, f7, s9, hf7, d2, d3, g2, g3, g4⟩ := s9
    obtain ⟨u, f8, e8, hf8, u0, u1⟩ := pk 2 hf7 (by decide) (by decide)
    obtain ⟨v, f9, e9, hf9, v0, v1⟩ := pk 20 hf8 (by decide) (by decide)
    have ku : cMul u v = true := cMul_l (by omega)
    have uv : 0 ≤ u * v ∧ u * v ≤ 19 := by
      have : u = 0 ∨ u = 1 := by omega
      rcases this with rfl | rfl <;> omega
    have s10 : mSet 8 (mBin (gI0 (· - ·)) (mBin (gII cMul (· * ·)) (mCallB 0 m__law_pick (mCons (mCon (.int 2)) mNil)) (mCallB 0 m__law_pick (mCons (mCon (.int 20)) mNil))) (mCon (.int 1))) [some f7, some (.int 6), some (.int 999), some (.int (many : Int)), some (.int kind), some (.lst (ws.map D.int)), some (.int gap), some (.int den), none, none, none] = .ok (.nx, [some f9, some (.int 6), some (.int 999), some (.int (many : Int)), some (.int kind), some (.lst (ws.map D.int)), some (.int gap), some (.int den), some (.int (u * v - 1)), none, none]) := by simp only [mSeq, mSkip, mSet, mRet, mRetN, mBrk, mCnt, mDrop, mIfS, mVar, mMov, mCon, mUn, mBin, mNil, mCons, mPrim, ofO, mVal, mAnd, mOr, mNot, mIf, mAndV, mOrV, mChain, mCall, mCallB, mCallK, mMake, mMakeK, mMeth, mFldN, mUnN, mBinN, mSl, mSlN, mPart, mNoP, mApp, mSetIx, mFldSet, mPar, mAsg, gtN, gtT, gtCons, gtNil, gTup, gLst, gOne, gTwo, gIs, isNon, gPut, gListOf, gTupOf, gCat, gRev, gSum, gAll, gIsi, okD, tyHas, permL, mTry, noEr, mFn, mFnB, R.bind_ok, R.bind_bad, R.bind_er, List.getElem?_cons_zero, List.getElem?_cons_succ, List.set_cons_zero, List.set_cons_succ, List.length_cons, List.length_nil, List.map_cons, List.map_nil, List.append_nil, List.cons_append, List.nil_append, Option.bind_some, Option.bind_none, Option.map_some, Option.map_none, List.lookup_cons, List.lookup_nil, List.any_cons, List.any_nil, List.contains_cons, List.contains_nil, Bool.or_false, Bool.false_and, Bool.and_false, Bool.false_or, Bool.or_true, Bool.true_or, Bool.and_true, Bool.true_and, Bool.not_true, Bool.not_false, decide_true, decide_false, if_true, if_false, reduceIte, Nat.reduceAdd, Nat.reduceSub, Nat.reduceEqDiff, Int.reduceLT, Int.reduceLE, Nat.reduceBEq, beq_self_eq_true, Bool.false_eq_true, List.replicate_succ, List.replicate_zero, Option.getD_some, Option.getD_none, gI0_e, gIB_e, gII_e, gU_e, gInt_i, gInt_b, gEq_ii, gNe_ii, gIx_t, gIx_l, gIx_k, gLen_t, gLen_l, gLen_k, gNot_b, gFld_e, seqD_t, seqD_l, seqD_k, Nat.zero_le, Nat.reduceLeDiff, Nat.reduceLT, e8, e9, ku]
    let E : D → Int → List Row → Option D → Env := fun f last rs k => [some f, some (.int 6), some (.int 999), some (.int (many : Int)), some (.int kind), some (.lst (ws.map D.int)), some (.int gap), some (.int den), some (.int last), some (rowsD rs), k]
    have rng : ∀ ρ : Env, ρ[3]? = some (some (.int (many : Int))) → mItR1 (mCons (mVar 3) mNil) ρ = .ok (intsFrom 0 many, ρ) := fun ρ hρ => by
      have z := mItR1_ok (fs := mCons (mVar 3) mNil) (ρ := ρ) (ρ1 := ρ) (j := (many : Int)) (by simp only [mSeq, mSkip, mSet, mRet, mRetN, mBrk, mCnt, mDrop, mIfS, mVar, mMov, mCon, mUn, mBin, mNil, mCons, mPrim, ofO, mVal, mAnd, mOr, mNot, mIf, mAndV, mOrV, mChain, mCall, mCallB, mCallK, mMake, mMakeK, mMeth, mFldN, mUnN, mBinN, mSl, mSlN, mPart, mNoP, mApp, mSetIx, mFldSet, mPar, mAsg, gtN, gtT, gtCons, gtNil, gTup, gLst, gOne, gTwo, gIs, isNon, gPut, gListOf, gTupOf, gCat, gRev, gSum, gAll, gIsi, okD, tyHas, permL, mTry, noEr, mFn, mFnB, R.bind_ok, R.bind_bad, R.bind_er, List.getElem?_cons_zero, List.getElem?_cons_succ, List.set_cons_zero, List.set_cons_succ, List.length_cons, List.length_nil, List.map_cons, List.map_nil, List.append_nil, List.cons_append, List.nil_append, Option.bind_some, Option.bind_none, Option.map_some, Option.map_none, List.lookup_cons, List.lookup_nil, List.any_cons, List.any_nil, List.contains_cons, List.contains_nil, Bool.or_false, Bool.false_and, Bool.and_false, Bool.false_or, Bool.or_true, Bool.true_or, Bool.and_true, Bool.true_and, Bool.not_true, Bool.not_false, decide_true, decide_false, if_true, if_false, reduceIte, Nat.reduceAdd, Nat.reduceSub, Nat.reduceEqDiff, Int.reduceLT, Int.reduceLE, Nat.reduceBEq, beq_self_eq_true, Bool.false_eq_true, List.replicate_succ, List.replicate_zero, Option.getD_some, Option.getD_none, gI0_e, gIB_e, gII_e, gU_e, gInt_i, gInt_b, gEq_ii, gNe_ii, gIx_t, gIx_l, gIx_k, gLen_t, gLen_l, gLen_k, gNot_b, gFld_e, seqD_t, seqD_l, seqD_k, Nat.zero_le, Nat.reduceLeDiff, Nat.reduceLT, hρ]) (inLine_ok (by omega) (by omega))
      rw [z, Int.toNat_natCast]
    obtain ⟨ρ4, e4', ⟨fl, last, rs, k, hρ4, hfl, hrl, hro, hra, hrb, hl0, hl1⟩⟩ := for_list (src := mItR1 (mCons (mVar 3) mNil)) (g := gtN 10) (fb := l__law_offer_b17)
      (fun i ρ => ∃ (f : D) (last : Int) (rs : List Row) (k : Option D), ρ = E f last rs k ∧ Fd cs f ∧ rs.length = i ∧ (∀ r ∈ rs, RowOk r) ∧ Asc rs ∧ (∀ r ∈ rs, r.2.1 * den ≤ last * r.2.2) ∧ -1 ≤ last ∧ last ≤ 318 + 1600 * (i : Int))
      (rng (E f9 (u * v - 1) [] none) rfl) ⟨f9, u * v - 1, [], none, rfl, hf9, rfl, fun r h => by simp at h, Asc.nil, fun r h => by simp at h, by omega, by omega⟩ (by
        rintro i d ρ hd ⟨f, last, rs, k, rfl, hf, hrl, hro, hra, hrb, hl0, hl1⟩
        obtain ⟨hil, rfl⟩ := intsFrom_at hd
        rw [Int.zero_add]
        have q : ws[i]? = some ws[i] := List.getElem?_eq_getElem (by omega)
        have wm := hwb ws[i] (List.getElem_mem ..)
        generalize ws[i] = w at q wm
        have wa : atI (ws.map D.int) (i : Int) = some (.int w) := atI_nat (by rw [List.getElem?_map, q]; rfl)
        obtain ⟨t, f', e, hf', t0, t1⟩ := pk gap hf g2 (by omega)
        have k3 : (rs.map rowD).length < 100000 := by rw [List.length_map]; omega
        -- the next value
        have step : ∀ (nx : Int), last < nx → nx ≤ 318 + 1600 * ((i : Int) + 1) → 0 ≤ nx ∧ nx ≤ 9999 ∧ RowOk (lowR w nx den) ∧ Asc (rs ++ [lowR w nx den]) ∧ ∀ r ∈ rs ++ [lowR w nx den], r.2.1 * den ≤ nx * r.2.2 := fun nx h1 h2 => by
          have new : RowOk (lowR w nx den) := lowR_ok ⟨wm.1, by omega⟩ ⟨by omega, by omega⟩ ⟨d2, d3⟩
          have up : ∀ r ∈ rs, r.2.1 * den < nx * r.2.2 := fun r hr => by
            have a := hrb r hr
            have b := (hro r hr).d1
            have : last * r.2.2 < nx * r.2.2 := Int.mul_lt_mul_of_pos_right h1 (by omega)
            omega
          refine ⟨by omega, by omega, new, hra.snoc fun r hr => lt_low (by omega) (up r hr), fun r hr => ?_⟩
          rcases List.mem_append.mp hr with z | z
          · exact Int.le_of_lt (up r z)
          · simp at z
            subst z
            show nx / gcdI nx den * den ≤ nx * (den / gcdI nx den)
            have gp := gcdI_pos (a := nx) (show 0 < den by omega)
            have x1 := Int.ediv_mul_cancel (gcdI_dvd_l nx den)
            have x2 := Int.ediv_mul_cancel (gcdI_dvd_r nx den)
            have : nx / gcdI nx den * den = nx * (den / gcdI nx den) := by
              generalize nx / gcdI nx den = a at x1 ⊢
              generalize den / gcdI nx den = b at x2 ⊢
              generalize gcdI nx den = g at x1 x2
              calc a * den = a * (b * g) := by rw [x2]
                _ = a * g * b := by rw [Int.mul_comm b g, Int.mul_assoc]
                _ = nx * b := by rw [x1]
            omega
        by_cases hc : kind = 4 ∧ (i : Int) = (many : Int) - 1
        · have g5 := g4 hc.1
          have l5 : last ≤ 9999 := by omega
          obtain ⟨n0, n1, new, asc, bd⟩ := step (last + 1 + t + 300) (by omega) (by omega)
          have lo := lowest_ok (last + 1 + t + 300) den (by omega) (by omega)
          refine ⟨_, _, rfl, .inl ?_, f', last + 1 + t + 300, rs ++ [lowR w (last + 1 + t + 300) den], some (.int (i : Int)), rfl, hf', by rw [List.length_append, hrl]; rfl, ?_, asc, bd, by omega, by omega⟩
          · simp only [E, rowsD_snoc]
            have z1 := hc.1
            have z2 : decide ((i : Int) = (many : Int) - 1) = true := decide_eq_true hc.2
            simp only [l__law_offer_b17, rowsD, mSeq, mSkip, mSet, mRet, mRetN, mBrk, mCnt, mDrop, mIfS, mVar, mMov, mCon, mUn, mBin, mNil, mCons, mPrim, ofO, mVal, mAnd, mOr, mNot, mIf, mAndV, mOrV, mChain, mCall, mCallB, mCallK, mMake, mMakeK, mMeth, mFldN, mUnN, mBinN, mSl, mSlN, mPart, mNoP, mApp, mSetIx, mFldSet, mPar, mAsg, gtN, gtT, gtCons, gtNil, gTup, gLst, gOne, gTwo, gIs, isNon, gPut, gListOf, gTupOf, gCat, gRev, gSum, gAll, gIsi, okD, tyHas, permL, mTry, noEr, mFn, mFnB, R.bind_ok, R.bind_bad, R.bind_er, List.getElem?_cons_zero, List.getElem?_cons_succ, List.set_cons_zero, List.set_cons_succ, List.length_cons, List.length_nil, List.map_cons, List.map_nil, List.append_nil, List.cons_append, List.nil_append, Option.bind_some, Option.bind_none, Option.map_some, Option.map_none, List.lookup_cons, List.lookup_nil, List.any_cons, List.any_nil, List.contains_cons, List.contains_nil, Bool.or_false, Bool.false_and, Bool.and_false, Bool.false_or, Bool.or_true, Bool.true_or, Bool.and_true, Bool.true_and, Bool.not_true, Bool.not_false, decide_true, decide_false, if_true, if_false, reduceIte, Nat.reduceAdd, Nat.reduceSub, Nat.reduceEqDiff, Int.reduceLT, Int.reduceLE, Nat.reduceBEq, beq_self_eq_true, Bool.false_eq_true, List.replicate_succ, List.replicate_zero, Option.getD_some, Option.getD_none, gI0_e, gIB_e, gII_e, gU_e, gInt_i, gInt_b, gEq_ii, gNe_ii, gIx_t, gIx_l, gIx_k, gLen_t, gLen_l, gLen_k, gNot_b, gFld_e, seqD_t, seqD_l, seqD_k, Nat.zero_le, Nat.reduceLeDiff, Nat.reduceLT, wa, e, z1, z2, lo, k3]
          · intro r hr
            rcases List.mem_append.mp hr with z | z
            · exact hro r z
            · simp at z; subst z; exact new
        · obtain ⟨n0, n1, new, asc, bd⟩ := step (last + 1 + t) (by omega) (by omega)
          have lo := lowest_ok (last + 1 + t) den (by omega) (by omega)
          refine ⟨_, _, rfl, .inl ?_, f', last + 1 + t, rs ++ [lowR w (last + 1 + t) den], some (.int (i : Int)), rfl, hf', by rw [List.length_append, hrl]; rfl, ?_, asc, bd, by omega, by omega⟩
          · simp only [E, rowsD_snoc]
            by_cases z1 : kind = 4
            · have z2 : ¬ (i : Int) = (many : Int) - 1 := fun z => hc ⟨z1, z⟩
              simp only [l__law_offer_b17, rowsD, mSeq, mSkip, mSet, mRet, mRetN, mBrk, mCnt, mDrop, mIfS, mVar, mMov, mCon, mUn, mBin, mNil, mCons, mPrim, ofO, mVal, mAnd, mOr, mNot, mIf, mAndV, mOrV, mChain, mCall, mCallB, mCallK, mMake, mMakeK, mMeth, mFldN, mUnN, mBinN, mSl, mSlN, mPart, mNoP, mApp, mSetIx, mFldSet, mPar, mAsg, gtN, gtT, gtCons, gtNil, gTup, gLst, gOne, gTwo, gIs, isNon, gPut, gListOf, gTupOf, gCat, gRev, gSum, gAll, gIsi, okD, tyHas, permL, mTry, noEr, mFn, mFnB, R.bind_ok, R.bind_bad, R.bind_er, List.getElem?_cons_zero, List.getElem?_cons_succ, List.set_cons_zero, List.set_cons_succ, List.length_cons, List.length_nil, List.map_cons, List.map_nil, List.append_nil, List.cons_append, List.nil_append, Option.bind_some, Option.bind_none, Option.map_some, Option.map_none, List.lookup_cons, List.lookup_nil, List.any_cons, List.any_nil, List.contains_cons, List.contains_nil, Bool.or_false, Bool.false_and, Bool.and_false, Bool.false_or, Bool.or_true, Bool.true_or, Bool.and_true, Bool.true_and, Bool.not_true, Bool.not_false, decide_true, decide_false, if_true, if_false, reduceIte, Nat.reduceAdd, Nat.reduceSub, Nat.reduceEqDiff, Int.reduceLT, Int.reduceLE, Nat.reduceBEq, beq_self_eq_true, Bool.false_eq_true, List.replicate_succ, List.replicate_zero, Option.getD_some, Option.getD_none, gI0_e, gIB_e, gII_e, gU_e, gInt_i, gInt_b, gEq_ii, gNe_ii, gIx_t, gIx_l, gIx_k, gLen_t, gLen_l, gLen_k, gNot_b, gFld_e, seqD_t, seqD_l, seqD_k, Nat.zero_le, Nat.reduceLeDiff, Nat.reduceLT, wa, e, z1, z2, lo, k3]
            · simp only [l__law_offer_b17, rowsD, mSeq, mSkip, mSet, mRet, mRetN, mBrk, mCnt, mDrop, mIfS, mVar, mMov, mCon, mUn, mBin, mNil, mCons, mPrim, ofO, mVal, mAnd, mOr, mNot, mIf, mAndV, mOrV, mChain, mCall, mCallB, mCallK, mMake, mMakeK, mMeth, mFldN, mUnN, mBinN, mSl, mSlN, mPart, mNoP, mApp, mSetIx, mFldSet, mPar, mAsg, gtN, gtT, gtCons, gtNil, gTup, gLst, gOne, gTwo, gIs, isNon, gPut, gListOf, gTupOf, gCat, gRev, gSum, gAll, gIsi, okD, tyHas, permL, mTry, noEr, mFn, mFnB, R.bind_ok, R.bind_bad, R.bind_er, List.getElem?_cons_zero, List.getElem?_cons_succ, List.set_cons_zero, List.set_cons_succ, List.length_cons, List.length_nil, List.map_cons, List.map_nil, List.append_nil, List.cons_append, List.nil_append, Option.bind_some, Option.bind_none, Option.map_some, Option.map_none, List.lookup_cons, List.lookup_nil, List.any_cons, List.any_nil, List.contains_cons, List.contains_nil, Bool.or_false, Bool.false_and, Bool.and_false, Bool.false_or, Bool.or_true, Bool.true_or, Bool.and_true, Bool.true_and, Bool.not_true, Bool.not_false, decide_true, decide_false, if_true, if_false, reduceIte, Nat.reduceAdd, Nat.reduceSub, Nat.reduceEqDiff, Int.reduceLT, Int.reduceLE, Nat.reduceBEq, beq_self_eq_true, Bool.false_eq_true, List.replicate_succ, List.replicate_zero, Option.getD_some, Option.getD_none, gI0_e, gIB_e, gII_e, gU_e, gInt_i, gInt_b, gEq_ii, gNe_ii, gIx_t, gIx_l, gIx_k, gLen_t, gLen_l, gLen_k, gNot_b, gFld_e, seqD_t, seqD_l, seqD_k, Nat.zero_le, Nat.reduceLeDiff, Nat.reduceLT, wa, e, z1, lo, k3]
          · intro r hr
            rcases List.mem_append.mp hr with z | z
            · exact hro r z
            · simp at z; subst z; exact new)
    rw [intsFrom_length] at hrl
    subst hρ4
    refine ⟨rs, fl, mFnB_rt (ρ := E fl last rs k) rfl (mSeq_nx s1 (mSeq_nx s2 (mSeq_nx s3 (mSeq_nx s4 (mSeq_nx s5 (mSeq_nx s6 (mSeq_nx rfl (mSeq_nx s8 (mSeq_nx s9 (mSeq_nx s10 (mSeq_nx rfl (mSeq_nx e4' (mRet_ok rfl))))))))))))) rfl, hfl, by omega, by omega, hro, hra⟩
end Z.L77
end
set_option Elab.async false
set_option linter.all false
set_option maxRecDepth 100000
noncomputable section
namespace Z.L77
open PySem PySem.Spec L2
/-- two tuples, all pairs right -/
theorem fits_all (j : Nat) (xs ys : List D) (hl : xs.length = ys.length) (h6 : ys.length ≤ 1000) (h : ∀ (i : Nat) a b, xs[i]? = some a → ys[i]? = some b → m__law_fits (j + 1) [a, b] = .ok (.bl true)) : m__law_fits (j + 2) [.tup xs, .tup ys] = .ok (.bl true) := by
  have k1 : m__law_fits (j + 2) [.tup xs, .tup ys] = mFn 2 3 (b__law_fits (m__law_fits (j + 1))) [.tup xs, .tup ys] := rfl
  have cmp : mComp [2] (mItR1 (mCons (mPrim (gOne gLen) (mCons (mVar 1) mNil)) mNil)) (gtN 2) mYes (l__law_fits_e6_19 (m__law_fits (j + 1))) [some (.tup xs), some (.tup ys), none] = .ok (.lst ((intsFrom 0 ys.length).map fun _ => D.bl true), [some (.tup xs), some (.tup ys), none]) := by
    refine mComp_ok (ds := intsFrom 0 ys.length) (ρ1 := [some (.tup xs), some (.tup ys), none]) (by
      have z := mItR1_ok (fs := mCons (mPrim (gOne gLen) (mCons (mVar 1) mNil)) mNil) (ρ := [some (.tup xs), some (.tup ys), none]) (ρ1 := [some (.tup xs), some (.tup ys), none]) (j := (ys.length : Int)) (by simp only [mSeq, mSkip, mSet, mRet, mRetN, mBrk, mCnt, mDrop, mIfS, mVar, mMov, mCon, mUn, mBin, mNil, mCons, mPrim, ofO, mVal, mAnd, mOr, mNot, mIf, mAndV, mOrV, mChain, mCall, mCallB, mCallK, mMake, mMakeK, mMeth, mFldN, mUnN, mBinN, mSl, mSlN, mPart, mNoP, mApp, mSetIx, mFldSet, mPar, mAsg, gtN, gtT, gtCons, gtNil, gTup, gLst, gOne, gTwo, gIs, isNon, gPut, gListOf, gTupOf, gCat, gRev, gSum, gAll, gIsi, okD, tyHas, permL, mTry, noEr, mFn, mFnB, R.bind_ok, R.bind_bad, R.bind_er, List.getElem?_cons_zero, List.getElem?_cons_succ, List.set_cons_zero, List.set_cons_succ, List.length_cons, List.length_nil, List.map_cons, List.map_nil, List.append_nil, List.cons_append, List.nil_append, Option.bind_some, Option.bind_none, Option.map_some, Option.map_none, List.lookup_cons, List.lookup_nil, List.any_cons, List.any_nil, List.contains_cons, List.contains_nil, Bool.or_false, Bool.false_and, Bool.and_false, Bool.false_or, Bool.or_true, Bool.true_or, Bool.and_true, Bool.true_and, Bool.not_true, Bool.not_false, decide_true, decide_false, if_true, if_false, reduceIte, Nat.reduceAdd, Nat.reduceSub, Nat.reduceEqDiff, Int.reduceLT, Int.reduceLE, Nat.reduceBEq, beq_self_eq_true, Bool.false_eq_true, List.replicate_succ, List.replicate_zero, Option.getD_some, Option.getD_none, gI0_e, gIB_e, gII_e, gU_e, gInt_i, gInt_b, gEq_ii, gNe_ii, gIx_t, gIx_l, gIx_k, gLen_t, gLen_l, gLen_k, gNot_b, gFld_e, seqD_t, seqD_l, seqD_k, Nat.zero_le, Nat.reduceLeDiff, Nat.reduceLT]) (inLine_ok (by omega) (by omega))
      rw [z, Int.toNat_natCast]) (by rw [intsFrom_length]; omega) (ρ2 := [some (.tup xs), some (.tup ys), none]) ?_ rfl
    exact comp_map (vs := [2]) (g := gtN 2) (fe := l__law_fits_e6_19 (m__law_fits (j + 1))) (ρ := [some (.tup xs), some (.tup ys), none]) (h := fun _ => D.bl true) (intsFrom 0 ys.length) (by
      intro d hd
      obtain ⟨i, hi⟩ := List.getElem?_of_mem hd
      obtain ⟨hil, rfl⟩ := intsFrom_at hi
      rw [Int.zero_add]
      have qx : xs[i]? = some xs[i] := List.getElem?_eq_getElem (by omega)
      have qy : ys[i]? = some ys[i] := List.getElem?_eq_getElem hil
      have f := h i _ _ qx qy
      have ax := atI_nat qx
      have ay := atI_nat qy
      refine ⟨[some (.tup xs), some (.tup ys), some (.int (i : Int))], [some (.tup xs), some (.tup ys), some (.int (i : Int))], rfl, ?_, rfl⟩
      simp only [l__law_fits_e6_19, mSeq, mSkip, mSet, mRet, mRetN, mBrk, mCnt, mDrop, mIfS, mVar, mMov, mCon, mUn, mBin, mNil, mCons, mPrim, ofO, mVal, mAnd, mOr, mNot, mIf, mAndV, mOrV, mChain, mCall, mCallB, mCallK, mMake, mMakeK, mMeth, mFldN, mUnN, mBinN, mSl, mSlN, mPart, mNoP, mApp, mSetIx, mFldSet, mPar, mAsg, gtN, gtT, gtCons, gtNil, gTup, gLst, gOne, gTwo, gIs, isNon, gPut, gListOf, gTupOf, gCat, gRev, gSum, gAll, gIsi, okD, tyHas, permL, mTry, noEr, mFn, mFnB, R.bind_ok, R.bind_bad, R.bind_er, List.getElem?_cons_zero, List.getElem?_cons_succ, List.set_cons_zero, List.set_cons_succ, List.length_cons, List.length_nil, List.map_cons, List.map_nil, List.append_nil, List.cons_append, List.nil_append, Option.bind_some, Option.bind_none, Option.map_some, Option.map_none, List.lookup_cons, List.lookup_nil, List.any_cons, List.any_nil, List.contains_cons, List.contains_nil, Bool.or_false, Bool.false_and, Bool.and_false, Bool.false_or, Bool.or_true, Bool.true_or, Bool.and_true, Bool.true_and, Bool.not_true, Bool.not_false, decide_true, decide_false, if_true, if_false, reduceIte, Nat.reduceAdd, Nat.reduceSub, Nat.reduceEqDiff, Int.reduceLT, Int.reduceLE, Nat.reduceBEq, beq_self_eq_true, Bool.false_eq_true, List.replicate_succ, List.replicate_zero, Option.getD_some, Option.getD_none, gI0_e, gIB_e, gII_e, gU_e, gInt_i, gInt_b, gEq_ii, gNe_ii, gIx_t, gIx_l, gIx_k, gLen_t, gLen_l, gLen_k, gNot_b, gFld_e, seqD_t, seqD_l, seqD_k, Nat.zero_le, Nat.reduceLeDiff, Nat.reduceLT, ax, ay, f])
  have al : ∀ zs : List D, blsOf (zs.map fun _ => D.bl true) = some (zs.map fun _ => true) := fun zs => by
    induction zs with
    | nil => rfl
    | cons z zs ih =>
      show (blsOf (zs.map fun _ => D.bl true)).map _ = _
      rw [ih]; rfl
  have at_ : ∀ zs : List D, (zs.map fun _ => true).all id = true := fun zs => by
    induction zs with
    | nil => rfl
    | cons z zs ih => simpa using ih
  have hl2 : decide ((xs.length : Int) = (ys.length : Int)) = true := decide_eq_true (by omega)
  rw [k1]
  refine mFn_rt (ρ := [some (.tup xs), some (.tup ys), none]) rfl (mSeq_nx (mIfS_f (ρ' := [some (.tup xs), some (.tup ys), none]) rfl rfl) (mSeq_rt (mIfS_t (ρ' := [some (.tup xs), some (.tup ys), none]) rfl (mSeq_nx (mIfS_f (ρ' := [some (.tup xs), some (.tup ys), none]) ?_ rfl) (mRet_ok (mPrim_ok (mCons_ok cmp rfl) ?_))))))
  · simp only [mSeq, mSkip, mSet, mRet, mRetN, mBrk, mCnt, mDrop, mIfS, mVar, mMov, mCon, mUn, mBin, mNil, mCons, mPrim, ofO, mVal, mAnd, mOr, mNot, mIf, mAndV, mOrV, mChain, mCall, mCallB, mCallK, mMake, mMakeK, mMeth, mFldN, mUnN, mBinN, mSl, mSlN, mPart, mNoP, mApp, mSetIx, mFldSet, mPar, mAsg, gtN, gtT, gtCons, gtNil, gTup, gLst, gOne, gTwo, gIs, isNon, gPut, gListOf, gTupOf, gCat, gRev, gSum, gAll, gIsi, okD, tyHas, permL, mTry, noEr, mFn, mFnB, R.bind_ok, R.bind_bad, R.bind_er, List.getElem?_cons_zero, List.getElem?_cons_succ, List.set_cons_zero, List.set_cons_succ, List.length_cons, List.length_nil, List.map_cons, List.map_nil, List.append_nil, List.cons_append, List.nil_append, Option.bind_some, Option.bind_none, Option.map_some, Option.map_none, List.lookup_cons, List.lookup_nil, List.any_cons, List.any_nil, List.contains_cons, List.contains_nil, Bool.or_false, Bool.false_and, Bool.and_false, Bool.false_or, Bool.or_true, Bool.true_or, Bool.and_true, Bool.true_and, Bool.not_true, Bool.not_false, decide_true, decide_false, if_true, if_false, reduceIte, Nat.reduceAdd, Nat.reduceSub, Nat.reduceEqDiff, Int.reduceLT, Int.reduceLE, Nat.reduceBEq, beq_self_eq_true, Bool.false_eq_true, List.replicate_succ, List.replicate_zero, Option.getD_some, Option.getD_none, gI0_e, gIB_e, gII_e, gU_e, gInt_i, gInt_b, gEq_ii, gNe_ii, gIx_t, gIx_l, gIx_k, gLen_t, gLen_l, gLen_k, gNot_b, gFld_e, seqD_t, seqD_l, seqD_k, Nat.zero_le, Nat.reduceLeDiff, Nat.reduceLT, hl2]
  · simp only [mSeq, mSkip, mSet, mRet, mRetN, mBrk, mCnt, mDrop, mIfS, mVar, mMov, mCon, mUn, mBin, mNil, mCons, mPrim, ofO, mVal, mAnd, mOr, mNot, mIf, mAndV, mOrV, mChain, mCall, mCallB, mCallK, mMake, mMakeK, mMeth, mFldN, mUnN, mBinN, mSl, mSlN, mPart, mNoP, mApp, mSetIx, mFldSet, mPar, mAsg, gtN, gtT, gtCons, gtNil, gTup, gLst, gOne, gTwo, gIs, isNon, gPut, gListOf, gTupOf, gCat, gRev, gSum, gAll, gIsi, okD, tyHas, permL, mTry, noEr, mFn, mFnB, R.bind_ok, R.bind_bad, R.bind_er, List.getElem?_cons_zero, List.getElem?_cons_succ, List.set_cons_zero, List.set_cons_succ, List.length_cons, List.length_nil, List.map_cons, List.map_nil, List.append_nil, List.cons_append, List.nil_append, Option.bind_some, Option.bind_none, Option.map_some, Option.map_none, List.lookup_cons, List.lookup_nil, List.any_cons, List.any_nil, List.contains_cons, List.contains_nil, Bool.or_false, Bool.false_and, Bool.and_false, Bool.false_or, Bool.or_true, Bool.true_or, Bool.and_true, Bool.true_and, Bool.not_true, Bool.not_false, decide_true, decide_false, if_true, if_false, reduceIte, Nat.reduceAdd, Nat.reduceSub, Nat.reduceEqDiff, Int.reduceLT, Int.reduceLE, Nat.reduceBEq, beq_self_eq_true, Bool.false_eq_true, List.replicate_succ, List.replicate_zero, Option.getD_some, Option.getD_none, gI0_e, gIB_e, gII_e, gU_e, gInt_i, gInt_b, gEq_ii, gNe_ii, gIx_t, gIx_l, gIx_k, gLen_t, gLen_l, gLen_k, gNot_b, gFld_e, seqD_t, seqD_l, seqD_k, Nat.zero_le, Nat.reduceLeDiff, Nat.reduceLT, al, at_]
theorem fits_int (j : Nat) (n : Int) : m__law_fits (j + 1) [.int n, .int n] = .ok (.bl true) := by
  have k1 : m__law_fits (j + 1) [.int n, .int n] = mFn 2 3 (b__law_fits (m__law_fits j)) [.int n, .int n] := rfl
  rw [k1]
  simp only [b__law_fits, mSeq, mSkip, mSet, mRet, mRetN, mBrk, mCnt, mDrop, mIfS, mVar, mMov, mCon, mUn, mBin, mNil, mCons, mPrim, ofO, mVal, mAnd, mOr, mNot, mIf, mAndV, mOrV, mChain, mCall, mCallB, mCallK, mMake, mMakeK, mMeth, mFldN, mUnN, mBinN, mSl, mSlN, mPart, mNoP, mApp, mSetIx, mFldSet, mPar, mAsg, gtN, gtT, gtCons, gtNil, gTup, gLst, gOne, gTwo, gIs, isNon, gPut, gListOf, gTupOf, gCat, gRev, gSum, gAll, gIsi, okD, tyHas, permL, mTry, noEr, mFn, mFnB, R.bind_ok, R.bind_bad, R.bind_er, List.getElem?_cons_zero, List.getElem?_cons_succ, List.set_cons_zero, List.set_cons_succ, List.length_cons, List.length_nil, List.map_cons, List.map_nil, List.append_nil, List.cons_append, List.nil_append, Option.bind_some, Option.bind_none, Option.map_some, Option.map_none, List.lookup_cons, List.lookup_nil, List.any_cons, List.any_nil, List.contains_cons, List.contains_nil, Bool.or_false, Bool.false_and, Bool.and_false, Bool.false_or, Bool.or_true, Bool.true_or, Bool.and_true, Bool.true_and, Bool.not_true, Bool.not_false, decide_true, decide_false, if_true, if_false, reduceIte, Nat.reduceAdd, Nat.reduceSub, Nat.reduceEqDiff, Int.reduceLT, Int.reduceLE, Nat.reduceBEq, beq_self_eq_true, Bool.false_eq_true, List.replicate_succ, List.replicate_zero, Option.getD_some, Option.getD_none, gI0_e, gIB_e, gII_e, gU_e, gInt_i, gInt_b, gEq_ii, gNe_ii, gIx_t, gIx_l, gIx_k, gLen_t, gLen_l, gLen_k, gNot_b, gFld_e, seqD_t, seqD_l, seqD_k, Nat.zero_le, Nat.reduceLeDiff, Nat.reduceLT, whole_ok, gIs, isNon, id]
abbrev TT (rs : List Row) (k : Nat) : Int := (tailsL (wsL rs)).getD k 0
def ptD (rs : List Row) (j : Nat) : D := .tup [.int (TT rs (rs.length - j)), .int (inc rs (rs.length - j))]
theorem TT_n {rs : List Row} : TT rs rs.length = 0 := by
  unfold TT
  rw [tailsL_get (by rw [wsL_len]; exact Nat.le_refl _), List.drop_eq_nil_of_le (by rw [wsL_len]; exact Nat.le_refl _)]
  rfl
theorem inc_n {rs : List Row} : inc rs rs.length = 0 := by
  unfold inc
  have := TT_n (rs := rs)
  unfold TT at this
  rw [this, Int.mul_zero]
theorem points_ok (rs : List Row) (h : RowsOk rs) : m_Buyer_income_points [buyD rs] = .ok (.lst ((List.range (rs.length + 1)).map (ptD rs))) := by
  have l1 := h.l1
  have l6 := h.l2
  have src : mItR3 (mCons (mBin (gI0 (· - ·)) (mPrim (gOne gLen) (mCons (mUn (gFld [(2, 2)]) (mVar 0)) mNil)) (mCon (.int 1))) (mCons (mUn (gU fun i => -i) (mCon (.int 1))) (mCons (mUn (gU fun i => -i) (mCon (.int 1))) mNil))) [some (buyD rs), some (.lst [.tup [.int 0, .int 0]]), none] = .ok (intsDown ((rs.length : Int) - 1) rs.length, [some (buyD rs), some (.lst [.tup [.int 0, .int 0]]), none]) := by
    have z := mItR3_ok (fs := mCons (mBin (gI0 (· - ·)) (mPrim (gOne gLen) (mCons (mUn (gFld [(2, 2)]) (mVar 0)) mNil)) (mCon (.int 1))) (mCons (mUn (gU fun i => -i) (mCon (.int 1))) (mCons (mUn (gU fun i => -i) (mCon (.int 1))) mNil))) (ρ := [some (buyD rs), some (.lst [.tup [.int 0, .int 0]]), none]) (ρ1 := [some (buyD rs), some (.lst [.tup [.int 0, .int 0]]), none]) (i := (rs.length : Int) - 1) (j := -1) (by
      simp only [buyD, mSeq, mSkip, mSet, mRet, mRetN, mBrk, mCnt, mDrop, mIfS, mVar, mMov, mCon, mUn, mBin, mNil, mCons, mPrim, ofO, mVal, mAnd, mOr, mNot, mIf, mAndV, mOrV, mChain, mCall, mCallB, mCallK, mMake, mMakeK, mMeth, mFldN, mUnN, mBinN, mSl, mSlN, mPart, mNoP, mApp, mSetIx, mFldSet, mPar, mAsg, gtN, gtT, gtCons, gtNil, gTup, gLst, gOne, gTwo, gIs, isNon, gPut, gListOf, gTupOf, gCat, gRev, gSum, gAll, gIsi, okD, tyHas, permL, mTry, noEr, mFn, mFnB, R.bind_ok, R.bind_bad, R.bind_er, List.getElem?_cons_zero, List.getElem?_cons_succ, List.set_cons_zero, List.set_cons_succ, List.length_cons, List.length_nil, List.map_cons, List.map_nil, List.append_nil, List.cons_append, List.nil_append, Option.bind_some, Option.bind_none, Option.map_some, Option.map_none, List.lookup_cons, List.lookup_nil, List.any_cons, List.any_nil, List.contains_cons, List.contains_nil, Bool.or_false, Bool.false_and, Bool.and_false, Bool.false_or, Bool.or_true, Bool.true_or, Bool.and_true, Bool.true_and, Bool.not_true, Bool.not_false, decide_true, decide_false, if_true, if_false, reduceIte, Nat.reduceAdd, Nat.reduceSub, Nat.reduceEqDiff, Int.reduceLT, Int.reduceLE, Nat.reduceBEq, beq_self_eq_true, Bool.false_eq_true, List.replicate_succ, List.replicate_zero, Option.getD_some, Option.getD_none, gI0_e, gIB_e, gII_e, gU_e, gInt_i, gInt_b, gEq_ii, gNe_ii, gIx_t, gIx_l, gIx_k, gLen_t, gLen_l, gLen_k, gNot_b, gFld_e, seqD_t, seqD_l, seqD_k, Nat.zero_le, Nat.reduceLeDiff, Nat.reduceLT, List.length_map, worthsL_len]) (inLine_ok (by omega) (by omega)) (inLine_ok (by decide) (by decide))
    rw [z, show ((rs.length : Int) - 1 - -1).toNat = rs.length by omega]
  obtain ⟨ρ', e, t, hi⟩ := for_list (src := mItR3 (mCons (mBin (gI0 (· - ·)) (mPrim (gOne gLen) (mCons (mUn (gFld [(2, 2)]) (mVar 0)) mNil)) (mCon (.int 1))) (mCons (mUn (gU fun i => -i) (mCon (.int 1))) (mCons (mUn (gU fun i => -i) (mCon (.int 1))) mNil)))) (g := gtN 2) (fb := l_Buyer_income_points_b2)
    (fun i ρ => ∃ t, ρ = [some (buyD rs), some (.lst ((List.range (i + 1)).map (ptD rs))), t]) src ⟨none, by
      show _ = [some (buyD rs), some (.lst [.tup [.int (TT rs rs.length), .int (inc rs rs.length)]]), none]
      rw [TT_n, inc_n]⟩ (by
      rintro i d ρ hd ⟨t, rfl⟩
      obtain ⟨hil, rfl⟩ := intsDown_at hd
      have ek : (rs.length : Int) - 1 - (i : Int) = ((rs.length - (i + 1) : Nat) : Int) := by omega
      rw [ek]
      have hk : rs.length - (i + 1) < rs.length := by omega
      have i1 := income_ok rs h (rs.length - (i + 1)) hk
      have a2 := atI_map (xs := tailsL (wsL rs)) (k := rs.length - (i + 1)) (by rw [tailsL_len, wsL_len]; omega)
      have k3 : ((List.range (i + 1)).map (ptD rs)).length < 100000 := by rw [List.length_map, List.length_range]; omega
      refine ⟨_, _, rfl, .inl ?_, some (.int ((rs.length - (i + 1) : Nat) : Int)), rfl⟩
      have er : (List.range (i + 1 + 1)).map (ptD rs) = (List.range (i + 1)).map (ptD rs) ++ [.tup [.int (TT rs (rs.length - (i + 1))), .int (inc rs (rs.length - (i + 1)))]] := by
        rw [List.range_succ, List.map_append]; rfl
      rw [er]
      unfold buyD at i1 ⊢
      simp only [l_Buyer_income_points_b2, mSeq, mSkip, mSet, mRet, mRetN, mBrk, mCnt, mDrop, mIfS, mVar, mMov, mCon, mUn, mBin, mNil, mCons, mPrim, ofO, mVal, mAnd, mOr, mNot, mIf, mAndV, mOrV, mChain, mCall, mCallB, mCallK, mMake, mMakeK, mMeth, mFldN, mUnN, mBinN, mSl, mSlN, mPart, mNoP, mApp, mSetIx, mFldSet, mPar, mAsg, gtN, gtT, gtCons, gtNil, gTup, gLst, gOne, gTwo, gIs, isNon, gPut, gListOf, gTupOf, gCat, gRev, gSum, gAll, gIsi, okD, tyHas, permL, mTry, noEr, mFn, mFnB, R.bind_ok, R.bind_bad, R.bind_er, List.getElem?_cons_zero, List.getElem?_cons_succ, List.set_cons_zero, List.set_cons_succ, List.length_cons, List.length_nil, List.map_cons, List.map_nil, List.append_nil, List.cons_append, List.nil_append, Option.bind_some, Option.bind_none, Option.map_some, Option.map_none, List.lookup_cons, List.lookup_nil, List.any_cons, List.any_nil, List.contains_cons, List.contains_nil, Bool.or_false, Bool.false_and, Bool.and_false, Bool.false_or, Bool.or_true, Bool.true_or, Bool.and_true, Bool.true_and, Bool.not_true, Bool.not_false, decide_true, decide_false, if_true, if_false, reduceIte, Nat.reduceAdd, Nat.reduceSub, Nat.reduceEqDiff, Int.reduceLT, Int.reduceLE, Nat.reduceBEq, beq_self_eq_true, Bool.false_eq_true, List.replicate_succ, List.replicate_zero, Option.getD_some, Option.getD_none, gI0_e, gIB_e, gII_e, gU_e, gInt_i, gInt_b, gEq_ii, gNe_ii, gIx_t, gIx_l, gIx_k, gLen_t, gLen_l, gLen_k, gNot_b, gFld_e, seqD_t, seqD_l, seqD_k, Nat.zero_le, Nat.reduceLeDiff, Nat.reduceLT, i1, a2, k3])
  have ll : (intsDown ((rs.length : Int) - 1) rs.length).length = rs.length := by simp [intsDown]
  rw [ll] at hi
  subst hi
  exact mFn_rt rfl (mSeq_nx rfl (mSeq_nx e (mRet_ok rfl)))
end Z.L77
end
set_option Elab.async false
set_option linter.all false
set_option maxRecDepth 100000
noncomputable section
namespace Z.L77
open PySem PySem.Spec L2
def rise (rs : List Row) (k : Nat) : Int := inc rs k - inc rs (k + 1)
def widt (rs : List Row) (k : Nat) : Int := TT rs k - TT rs (k + 1)
def numD (rs : List Row) (k : Nat) : D := fracD (rise rs k / gcdI (rise rs k) (widt rs k * lcmL (dsL rs))) (widt rs k * lcmL (dsL rs) / gcdI (rise rs k) (widt rs k * lcmL (dsL rs)))
theorem widt_eq {rs : List Row} {k : Nat} {r : Row} (q : rs[k]? = some r) : widt rs k = r.1 := by
  have hk : k < rs.length := (List.getElem?_eq_some_iff.mp q).1
  unfold widt TT
  rw [tailsL_get (by rw [wsL_len]; omega), tailsL_get (by rw [wsL_len]; omega)]
  have s := sum_drop (ws := wsL rs) (k := k) (w := r.1) (by unfold wsL; rw [List.getElem?_map, q]; rfl)
  omega
theorem slope_ok (rs : List Row) (k : Nat) (hk : k < rs.length) : m_slope_parts [.lst ((List.range (rs.length + 1)).map (ptD rs)), .int (((rs.length - k : Nat) : Int) - 1), .int ((rs.length - k : Nat) : Int)] = .ok (.tup [.int (rise rs k), .int (widt rs k)]) := by
  have a1 : atI ((List.range (rs.length + 1)).map (ptD rs)) ((rs.length - k : Nat) : Int) = some (ptD rs (rs.length - k)) := atI_nat (by rw [List.getElem?_map, List.getElem?_range (by omega)]; rfl)
  have a2 : atI ((List.range (rs.length + 1)).map (ptD rs)) (((rs.length - k : Nat) : Int) - 1) = some (ptD rs (rs.length - k - 1)) := by
    rw [show ((rs.length - k : Nat) : Int) - 1 = ((rs.length - k - 1 : Nat) : Int) by omega]
    exact atI_nat (by rw [List.getElem?_map, List.getElem?_range (by omega)]; rfl)
  have e1 : rs.length - (rs.length - k) = k := by omega
  have e2 : rs.length - (rs.length - k - 1) = k + 1 := by omega
  simp only [m_slope_parts, b_slope_parts, mSeq, mSkip, mSet, mRet, mRetN, mBrk, mCnt, mDrop, mIfS, mVar, mMov, mCon, mUn, mBin, mNil, mCons, mPrim, ofO, mVal, mAnd, mOr, mNot, mIf, mAndV, mOrV, mChain, mCall, mCallB, mCallK, mMake, mMakeK, mMeth, mFldN, mUnN, mBinN, mSl, mSlN, mPart, mNoP, mApp, mSetIx, mFldSet, mPar, mAsg, gtN, gtT, gtCons, gtNil, gTup, gLst, gOne, gTwo, gIs, isNon, gPut, gListOf, gTupOf, gCat, gRev, gSum, gAll, gIsi, okD, tyHas, permL, mTry, noEr, mFn, mFnB, R.bind_ok, R.bind_bad, R.bind_er, List.getElem?_cons_zero, List.getElem?_cons_succ, List.set_cons_zero, List.set_cons_succ, List.length_cons, List.length_nil, List.map_cons, List.map_nil, List.append_nil, List.cons_append, List.nil_append, Option.bind_some, Option.bind_none, Option.map_some, Option.map_none, List.lookup_cons, List.lookup_nil, List.any_cons, List.any_nil, List.contains_cons, List.contains_nil, Bool.or_false, Bool.false_and, Bool.and_false, Bool.false_or, Bool.or_true, Bool.true_or, Bool.and_true, Bool.true_and, Bool.not_true, Bool.not_false, decide_true, decide_false, if_true, if_false, reduceIte, Nat.reduceAdd, Nat.reduceSub, Nat.reduceEqDiff, Int.reduceLT, Int.reduceLE, Nat.reduceBEq, beq_self_eq_true, Bool.false_eq_true, List.replicate_succ, List.replicate_zero, Option.getD_some, Option.getD_none, gI0_e, gIB_e, gII_e, gU_e, gInt_i, gInt_b, gEq_ii, gNe_ii, gIx_t, gIx_l, gIx_k, gLen_t, gLen_l, gLen_k, gNot_b, gFld_e, seqD_t, seqD_l, seqD_k, Nat.zero_le, Nat.reduceLeDiff, Nat.reduceLT, a1, a2, ptD, e1, e2, p0, p1, rise, widt]
theorem plain_ok (rs : List Row) (h : RowsOk rs) : m_plain_numbers [offD rs] = .ok (.tup ((List.range rs.length).map (numD rs))) := by
  have l1 := h.l1
  have l6 := h.l2
  have bk := buyer_ok rs h
  have po := points_ok rs h
  have s1 : mSet 1 (mMake 2 (fun xs => m_Buyer___init__ (xs ++ [])) (mCons (mVar 0) mNil)) [some (offD rs), none, none, none, none, none, none] = .ok (.nx, [some (offD rs), some (buyD rs), none, none, none, none, none]) := by simp only [mSeq, mSkip, mSet, mRet, mRetN, mBrk, mCnt, mDrop, mIfS, mVar, mMov, mCon, mUn, mBin, mNil, mCons, mPrim, ofO, mVal, mAnd, mOr, mNot, mIf, mAndV, mOrV, mChain, mCall, mCallB, mCallK, mMake, mMakeK, mMeth, mFldN, mUnN, mBinN, mSl, mSlN, mPart, mNoP, mApp, mSetIx, mFldSet, mPar, mAsg, gtN, gtT, gtCons, gtNil, gTup, gLst, gOne, gTwo, gIs, isNon, gPut, gListOf, gTupOf, gCat, gRev, gSum, gAll, gIsi, okD, tyHas, permL, mTry, noEr, mFn, mFnB, R.bind_ok, R.bind_bad, R.bind_er, List.getElem?_cons_zero, List.getElem?_cons_succ, List.set_cons_zero, List.set_cons_succ, List.length_cons, List.length_nil, List.map_cons, List.map_nil, List.append_nil, List.cons_append, List.nil_append, Option.bind_some, Option.bind_none, Option.map_some, Option.map_none, List.lookup_cons, List.lookup_nil, List.any_cons, List.any_nil, List.contains_cons, List.contains_nil, Bool.or_false, Bool.false_and, Bool.and_false, Bool.false_or, Bool.or_true, Bool.true_or, Bool.and_true, Bool.true_and, Bool.not_true, Bool.not_false, decide_true, decide_false, if_true, if_false, reduceIte, Nat.reduceAdd, Nat.reduceSub, Nat.reduceEqDiff, Int.reduceLT, Int.reduceLE, Nat.reduceBEq, beq_self_eq_true, Bool.false_eq_true, List.replicate_succ, List.replicate_zero, Option.getD_some, Option.getD_none, gI0_e, gIB_e, gII_e, gU_e, gInt_i, gInt_b, gEq_ii, gNe_ii, gIx_t, gIx_l, gIx_k, gLen_t, gLen_l, gLen_k, gNot_b, gFld_e, seqD_t, seqD_l, seqD_k, Nat.zero_le, Nat.reduceLeDiff, Nat.reduceLT, bk]
  have s2 : mSet 2 (mMeth 2 (fun xs => m_Buyer_income_points (xs ++ [])) (mVar 1) mNil) [some (offD rs), some (buyD rs), none, none, none, none, none] = .ok (.nx, [some (offD rs), some (buyD rs), some (.lst ((List.range (rs.length + 1)).map (ptD rs))), none, none, none, none]) := by
    unfold buyD at po ⊢
    simp only [mSeq, mSkip, mSet, mRet, mRetN, mBrk, mCnt, mDrop, mIfS, mVar, mMov, mCon, mUn, mBin, mNil, mCons, mPrim, ofO, mVal, mAnd, mOr, mNot, mIf, mAndV, mOrV, mChain, mCall, mCallB, mCallK, mMake, mMakeK, mMeth, mFldN, mUnN, mBinN, mSl, mSlN, mPart, mNoP, mApp, mSetIx, mFldSet, mPar, mAsg, gtN, gtT, gtCons, gtNil, gTup, gLst, gOne, gTwo, gIs, isNon, gPut, gListOf, gTupOf, gCat, gRev, gSum, gAll, gIsi, okD, tyHas, permL, mTry, noEr, mFn, mFnB, R.bind_ok, R.bind_bad, R.bind_er, List.getElem?_cons_zero, List.getElem?_cons_succ, List.set_cons_zero, List.set_cons_succ, List.length_cons, List.length_nil, List.map_cons, List.map_nil, List.append_nil, List.cons_append, List.nil_append, Option.bind_some, Option.bind_none, Option.map_some, Option.map_none, List.lookup_cons, List.lookup_nil, List.any_cons, List.any_nil, List.contains_cons, List.contains_nil, Bool.or_false, Bool.false_and, Bool.and_false, Bool.false_or, Bool.or_true, Bool.true_or, Bool.and_true, Bool.true_and, Bool.not_true, Bool.not_false, decide_true, decide_false, if_true, if_false, reduceIte, Nat.reduceAdd, Nat.reduceSub, Nat.reduceEqDiff, Int.reduceLT, Int.reduceLE, Nat.reduceBEq, beq_self_eq_true, Bool.false_eq_true, List.replicate_succ, List.replicate_zero, Option.getD_some, Option.getD_none, gI0_e, gIB_e, gII_e, gU_e, gInt_i, gInt_b, gEq_ii, gNe_ii, gIx_t, gIx_l, gIx_k, gLen_t, gLen_l, gLen_k, gNot_b, gFld_e, seqD_t, seqD_l, seqD_k, Nat.zero_le, Nat.reduceLeDiff, Nat.reduceLT, po]
  let E : List D → Option D → Option D → Option D → Env := fun xs a b c => [some (offD rs), some (buyD rs), some (.lst ((List.range (rs.length + 1)).map (ptD rs))), some (.lst xs), a, b, c]
  have src : mItR3 (mCons (mBin (gI0 (· - ·)) (mPrim (gOne gLen) (mCons (mVar 2) mNil)) (mCon (.int 1))) (mCons (mCon (.int 0)) (mCons (mUn (gU fun i => -i) (mCon (.int 1))) mNil))) (E [] none none none) = .ok (intsDown (rs.length : Int) rs.length, E [] none none none) := by
    have z := mItR3_ok (fs := mCons (mBin (gI0 (· - ·)) (mPrim (gOne gLen) (mCons (mVar 2) mNil)) (mCon (.int 1))) (mCons (mCon (.int 0)) (mCons (mUn (gU fun i => -i) (mCon (.int 1))) mNil))) (ρ := E [] none none none) (ρ1 := E [] none none none) (i := (rs.length : Int)) (j := 0) (by
      have e : (((List.range (rs.length + 1)).map (ptD rs)).length : Int) - 1 = (rs.length : Int) := by rw [List.length_map, List.length_range]; omega
      simp only [E, mSeq, mSkip, mSet, mRet, mRetN, mBrk, mCnt, mDrop, mIfS, mVar, mMov, mCon, mUn, mBin, mNil, mCons, mPrim, ofO, mVal, mAnd, mOr, mNot, mIf, mAndV, mOrV, mChain, mCall, mCallB, mCallK, mMake, mMakeK, mMeth, mFldN, mUnN, mBinN, mSl, mSlN, mPart, mNoP, mApp, mSetIx, mFldSet, mPar, mAsg, gtN, gtT, gtCons, gtNil, gTup, gLst, gOne, gTwo, gIs, isNon, gPut, gListOf, gTupOf, gCat, gRev, gSum, gAll, gIsi, okD, tyHas, permL, mTry, noEr, mFn, mFnB, R.bind_ok, R.bind_bad, R.bind_er, List.getElem?_cons_zero, List.getElem?_cons_succ, List.set_cons_zero, List.set_cons_succ, List.length_cons, List.length_nil, List.map_cons, List.map_nil, List.append_nil, List.cons_append, List.nil_append, Option.bind_some, Option.bind_none, Option.map_some, Option.map_none, List.lookup_cons, List.lookup_nil, List.any_cons, List.any_nil, List.contains_cons, List.contains_nil, Bool.or_false, Bool.false_and, Bool.and_false, Bool.false_or, Bool.or_true, Bool.true_or, Bool.and_true, Bool.true_and, Bool.not_true, Bool.not_false, decide_true, decide_false, if_true, if_false, reduceIte, Nat.reduceAdd, Nat.reduceSub, Nat.reduceEqDiff, Int.reduceLT, Int.reduceLE, Nat.reduceBEq, beq_self_eq_true, Bool.false_eq_true, List.replicate_succ, List.replicate_zero, Option.getD_some, Option.getD_none, gI0_e, gIB_e, gII_e, gU_e, gInt_i, gInt_b, gEq_ii, gNe_ii, gIx_t, gIx_l, gIx_k, gLen_t, gLen_l, gLen_k, gNot_b, gFld_e, seqD_t, seqD_l, seqD_k, Nat.zero_le, Nat.reduceLeDiff, Nat.reduceLT, e]) (inLine_ok (by omega) (by omega)) (inLine_ok (by decide) (by decide))
    rw [z, show ((rs.length : Int) - 0).toNat = rs.length by omega]
  obtain ⟨ρ', e, a, b, c, hi⟩ := for_list (src := mItR3 (mCons (mBin (gI0 (· - ·)) (mPrim (gOne gLen) (mCons (mVar 2) mNil)) (mCon (.int 1))) (mCons (mCon (.int 0)) (mCons (mUn (gU fun i => -i) (mCon (.int 1))) mNil)))) (g := gtN 4) (fb := l_plain_numbers_b4)
    (fun i ρ => ∃ a b c, ρ = E ((List.range i).map (numD rs)) a b c) src ⟨none, none, none, rfl⟩ (by
      rintro i d ρ hd ⟨a, b, c, rfl⟩
      obtain ⟨hil, rfl⟩ := intsDown_at hd
      have ek : (rs.length : Int) - (i : Int) = ((rs.length - i : Nat) : Int) := by omega
      rw [ek]
      have sl := slope_ok rs i hil
      have q : rs[i]? = some rs[i] := List.getElem?_eq_getElem hil
      have w := widt_eq q
      have ro := h.ok rs[i] (List.getElem_mem ..)
      have nu := number_ok rs (rise rs i) (widt rs i) h (by have := ro.w1; omega) (by have := ro.w2; omega)
      have nu : m_Buyer_number [buyD rs, .int (rise rs i), .int (widt rs i)] = .ok (numD rs i) := nu
      have k3 : ((List.range i).map (numD rs)).length < 100000 := by rw [List.length_map, List.length_range]; omega
      have er : (List.range (i + 1)).map (numD rs) = (List.range i).map (numD rs) ++ [numD rs i] := by
        rw [List.range_succ, List.map_append]; rfl
      refine ⟨_, _, rfl, .inl ?_, some (.int ((rs.length - i : Nat) : Int)), some (.int (rise rs i)), some (.int (widt rs i)), rfl⟩
      rw [er]
      generalize numD rs i = nd at *
      unfold buyD at nu
      simp only [l_plain_numbers_b4, E, buyD, mSeq, mSkip, mSet, mRet, mRetN, mBrk, mCnt, mDrop, mIfS, mVar, mMov, mCon, mUn, mBin, mNil, mCons, mPrim, ofO, mVal, mAnd, mOr, mNot, mIf, mAndV, mOrV, mChain, mCall, mCallB, mCallK, mMake, mMakeK, mMeth, mFldN, mUnN, mBinN, mSl, mSlN, mPart, mNoP, mApp, mSetIx, mFldSet, mPar, mAsg, gtN, gtT, gtCons, gtNil, gTup, gLst, gOne, gTwo, gIs, isNon, gPut, gListOf, gTupOf, gCat, gRev, gSum, gAll, gIsi, okD, tyHas, permL, mTry, noEr, mFn, mFnB, R.bind_ok, R.bind_bad, R.bind_er, List.getElem?_cons_zero, List.getElem?_cons_succ, List.set_cons_zero, List.set_cons_succ, List.length_cons, List.length_nil, List.map_cons, List.map_nil, List.append_nil, List.cons_append, List.nil_append, Option.bind_some, Option.bind_none, Option.map_some, Option.map_none, List.lookup_cons, List.lookup_nil, List.any_cons, List.any_nil, List.contains_cons, List.contains_nil, Bool.or_false, Bool.false_and, Bool.and_false, Bool.false_or, Bool.or_true, Bool.true_or, Bool.and_true, Bool.true_and, Bool.not_true, Bool.not_false, decide_true, decide_false, if_true, if_false, reduceIte, Nat.reduceAdd, Nat.reduceSub, Nat.reduceEqDiff, Int.reduceLT, Int.reduceLE, Nat.reduceBEq, beq_self_eq_true, Bool.false_eq_true, List.replicate_succ, List.replicate_zero, Option.getD_some, Option.getD_none, gI0_e, gIB_e, gII_e, gU_e, gInt_i, gInt_b, gEq_ii, gNe_ii, gIx_t, gIx_l, gIx_k, gLen_t, gLen_l, gLen_k, gNot_b, gFld_e, seqD_t, seqD_l, seqD_k, Nat.zero_le, Nat.reduceLeDiff, Nat.reduceLT, sl, nu, k3, mAsg, gtT, gtCons, gtNil])
  have ll : (intsDown (rs.length : Int) rs.length).length = rs.length := by simp [intsDown]
  rw [ll] at hi
  subst hi
  exact mFn_rt (ρ := E ((List.range rs.length).map (numD rs)) a b c) rfl (mSeq_nx s1 (mSeq_nx s2 (mSeq_nx rfl (mSeq_nx e (mRet_ok rfl)))))
/-! the law's own numbers -/
def WW (rs : List Row) (k : Nat) : Int := (worthsL rs (lcmL (dsL rs))).getD k 0
def ownN (rs : List Row) (k : Nat) : Int := if k + 1 = rs.length then WW rs k else WW rs k * widt rs k - (WW rs (k + 1) - WW rs k) * TT rs (k + 1)
def ownM (rs : List Row) (k : Nat) : Int := if k + 1 = rs.length then lcmL (dsL rs) else lcmL (dsL rs) * widt rs k
def ownD (rs : List Row) (k : Nat) : D := .tup [.int (ownN rs k), .int (ownM rs k)]
theorem lplain_ok (rs : List Row) (h : RowsOk rs) : m__law_plain [rowsD rs] = .ok (.lst ((List.range rs.length).map (ownD rs))) := by
  have l1 := h.l1
  have l6 := h.l2
  obtain ⟨L1, L2⟩ := lcmL_bound (ds_ok h) (by rw [dsL_len]; exact l6)
  have c1 := common_ok (dsL rs) (ds_ok h) (by rw [dsL_len]; exact l6)
  have lw := lworths_ok rs (lcmL (dsL rs)) h
  have e1 : mComp [8] (mItL (mVar 0)) (gtN 8) mYes l__law_plain_e1_24 [some (rowsD rs), none, none, none, none, none, none, none, none] = .ok (.lst ((dsL rs).map D.int), [some (rowsD rs), none, none, none, none, none, none, none, none]) := by
    refine mComp_ok (ds := rs.map rowD) (ρ1 := [some (rowsD rs), none, none, none, none, none, none, none, none]) rfl (by rw [List.length_map]; omega) (ρ2 := [some (rowsD rs), none, none, none, none, none, none, none, none]) ?_ rfl
    have z := comp_map (vs := [8]) (g := gtN 8) (fe := l__law_plain_e1_24) (ρ := [some (rowsD rs), none, none, none, none, none, none, none, none]) (h := fun d => match d with
      | .tup [_, .tup [_, d]] => d
      | _ => .non) (rs.map rowD) (by
        intro d hd
        obtain ⟨r, hr, rfl⟩ := List.mem_map.mp hd
        exact ⟨[some (rowsD rs), none, none, none, none, none, none, none, some (rowD r)], [some (rowsD rs), none, none, none, none, none, none, none, some (rowD r)], rfl, rfl, rfl⟩)
    rw [List.map_map] at z
    refine Eq.trans z ?_
    unfold dsL
    rw [List.map_map]
    rfl
  let E : List D → Int → Option D → Option D → Option D → Env := fun xs ab a b c => [some (rowsD rs), some (.int (lcmL (dsL rs))), some (.lst ((worthsL rs (lcmL (dsL rs))).map D.int)), some (.lst xs), some (.int ab), a, b, c, none]
  have s1 : mSet 1 (mCall m__law_common (mCons (mComp [8] (mItL (mVar 0)) (gtN 8) mYes l__law_plain_e1_24) mNil)) [some (rowsD rs), none, none, none, none, none, none, none, none] = .ok (.nx, [some (rowsD rs), some (.int (lcmL (dsL rs))), none, none, none, none, none, none, none]) := mSet_to (mCall_ok (mCons_ok e1 rfl) c1) rfl
  have s2 : mSet 2 (mCall m__law_worths (mCons (mVar 0) (mCons (mVar 1) mNil))) [some (rowsD rs), some (.int (lcmL (dsL rs))), none, none, none, none, none, none, none] = .ok (.nx, [some (rowsD rs), some (.int (lcmL (dsL rs))), some (.lst ((worthsL rs (lcmL (dsL rs))).map D.int)), none, none, none, none, none, none]) := mSet_to (mCall_ok rfl lw) rfl
  have src : mItR1 (mCons (mPrim (gOne gLen) (mCons (mVar 0) mNil)) mNil) (E [] 0 none none none) = .ok (intsFrom 0 rs.length, E [] 0 none none none) := by
    have z := mItR1_ok (fs := mCons (mPrim (gOne gLen) (mCons (mVar 0) mNil)) mNil) (ρ := E [] 0 none none none) (ρ1 := E [] 0 none none none) (j := (rs.length : Int)) (by simp only [E, rowsD, mSeq, mSkip, mSet, mRet, mRetN, mBrk, mCnt, mDrop, mIfS, mVar, mMov, mCon, mUn, mBin, mNil, mCons, mPrim, ofO, mVal, mAnd, mOr, mNot, mIf, mAndV, mOrV, mChain, mCall, mCallB, mCallK, mMake, mMakeK, mMeth, mFldN, mUnN, mBinN, mSl, mSlN, mPart, mNoP, mApp, mSetIx, mFldSet, mPar, mAsg, gtN, gtT, gtCons, gtNil, gTup, gLst, gOne, gTwo, gIs, isNon, gPut, gListOf, gTupOf, gCat, gRev, gSum, gAll, gIsi, okD, tyHas, permL, mTry, noEr, mFn, mFnB, R.bind_ok, R.bind_bad, R.bind_er, List.getElem?_cons_zero, List.getElem?_cons_succ, List.set_cons_zero, List.set_cons_succ, List.length_cons, List.length_nil, List.map_cons, List.map_nil, List.append_nil, List.cons_append, List.nil_append, Option.bind_some, Option.bind_none, Option.map_some, Option.map_none, List.lookup_cons, List.lookup_nil, List.any_cons, List.any_nil, List.contains_cons, List.contains_nil, Bool.or_false, Bool.false_and, Bool.and_false, Bool.false_or, Bool.or_true, Bool.true_or, Bool.and_true, Bool.true_and, Bool.not_true, Bool.not_false, decide_true, decide_false, if_true, if_false, reduceIte, Nat.reduceAdd, Nat.reduceSub, Nat.reduceEqDiff, Int.reduceLT, Int.reduceLE, Nat.reduceBEq, beq_self_eq_true, Bool.false_eq_true, List.replicate_succ, List.replicate_zero, Option.getD_some, Option.getD_none, gI0_e, gIB_e, gII_e, gU_e, gInt_i, gInt_b, gEq_ii, gNe_ii, gIx_t, gIx_l, gIx_k, gLen_t, gLen_l, gLen_k, gNot_b, gFld_e, seqD_t, seqD_l, seqD_k, Nat.zero_le, Nat.reduceLeDiff, Nat.reduceLT, List.length_map]) (inLine_ok (by omega) (by omega))
    rw [z, Int.toNat_natCast]
  obtain ⟨ρ', e, a, b, c, hi⟩ := for_list (src := mItR1 (mCons (mPrim (gOne gLen) (mCons (mVar 0) mNil)) mNil)) (g := gtN 5) (fb := l__law_plain_b5)
    (fun i ρ => ∃ a b c, ρ = E (((List.range rs.length).drop (rs.length - i)).map (ownD rs)) (TT rs (rs.length - i)) a b c) src ⟨none, none, none, by
      rw [Nat.sub_zero, TT_n, List.drop_eq_nil_of_le (by rw [List.length_range]; exact Nat.le_refl _)]; rfl⟩ (by
      rintro i d ρ hd ⟨a, b, c, rfl⟩
      obtain ⟨hil, rfl⟩ := intsFrom_at hd
      rw [Int.zero_add]
      obtain ⟨k, hk⟩ : ∃ k, k = rs.length - (i + 1) := ⟨_, rfl⟩
      have ei : rs.length - i = k + 1 := by omega
      rw [ei, ← hk]
      have ek : (rs.length : Int) - 1 - (i : Int) = (k : Int) := by omega
      have hkl : k < rs.length := by omega
      have q : rs[k]? = some rs[k] := List.getElem?_eq_getElem hkl
      have w := widt_eq q
      have ro := h.ok rs[k] (List.getElem_mem ..)
      generalize rs[k] = r at q w ro
      have ra : atI (rs.map rowD) (k : Int) = some (rowD r) := atI_nat (by rw [List.getElem?_map, q]; rfl)
      have wa : atI ((worthsL rs (lcmL (dsL rs))).map D.int) (k : Int) = some (.int (WW rs k)) := atI_map (by rw [worthsL_len]; exact hkl)
      have er : ((List.range rs.length).drop k).map (ownD rs) = ownD rs k :: ((List.range rs.length).drop (k + 1)).map (ownD rs) := by
        rw [List.drop_eq_getElem_cons (by rw [List.length_range]; exact hkl), List.getElem_range]; rfl
      have tk : TT rs k = TT rs (k + 1) + r.1 := by
        have : widt rs k = TT rs k - TT rs (k + 1) := rfl
        omega
      rw [er, tk]
      have len : ((rs.map rowD).length : Int) = (rs.length : Int) := by rw [List.length_map]
      refine ⟨_, _, rfl, .inl ?_, some (.int (i : Int)), some (.int (k : Int)), if i = 0 then c else some (.int (ownN rs k)), rfl⟩
      by_cases h0 : i = 0
      · have hk1 : k + 1 = rs.length := by omega
        have z0 : decide ((i : Int) = 0) = true := decide_eq_true (by omega)
        have en : ownD rs k = .tup [.int (WW rs k), .int (lcmL (dsL rs))] := by unfold ownD ownN ownM; rw [if_pos hk1, if_pos hk1]
        have e0 : ((List.range rs.length).drop (k + 1)).map (ownD rs) = [] := by rw [hk1, List.drop_eq_nil_of_le (by rw [List.length_range]; exact Nat.le_refl _)]; rfl
        rw [en, e0, if_pos h0]
        simp only [l__law_plain_b5, E, rowsD, mSeq, mSkip, mSet, mRet, mRetN, mBrk, mCnt, mDrop, mIfS, mVar, mMov, mCon, mUn, mBin, mNil, mCons, mPrim, ofO, mVal, mAnd, mOr, mNot, mIf, mAndV, mOrV, mChain, mCall, mCallB, mCallK, mMake, mMakeK, mMeth, mFldN, mUnN, mBinN, mSl, mSlN, mPart, mNoP, mApp, mSetIx, mFldSet, mPar, mAsg, gtN, gtT, gtCons, gtNil, gTup, gLst, gOne, gTwo, gIs, isNon, gPut, gListOf, gTupOf, gCat, gRev, gSum, gAll, gIsi, okD, tyHas, permL, mTry, noEr, mFn, mFnB, R.bind_ok, R.bind_bad, R.bind_er, List.getElem?_cons_zero, List.getElem?_cons_succ, List.set_cons_zero, List.set_cons_succ, List.length_cons, List.length_nil, List.map_cons, List.map_nil, List.append_nil, List.cons_append, List.nil_append, Option.bind_some, Option.bind_none, Option.map_some, Option.map_none, List.lookup_cons, List.lookup_nil, List.any_cons, List.any_nil, List.contains_cons, List.contains_nil, Bool.or_false, Bool.false_and, Bool.and_false, Bool.false_or, Bool.or_true, Bool.true_or, Bool.and_true, Bool.true_and, Bool.not_true, Bool.not_false, decide_true, decide_false, if_true, if_false, reduceIte, Nat.reduceAdd, Nat.reduceSub, Nat.reduceEqDiff, Int.reduceLT, Int.reduceLE, Nat.reduceBEq, beq_self_eq_true, Bool.false_eq_true, List.replicate_succ, List.replicate_zero, Option.getD_some, Option.getD_none, gI0_e, gIB_e, gII_e, gU_e, gInt_i, gInt_b, gEq_ii, gNe_ii, gIx_t, gIx_l, gIx_k, gLen_t, gLen_l, gLen_k, gNot_b, gFld_e, seqD_t, seqD_l, seqD_k, Nat.zero_le, Nat.reduceLeDiff, Nat.reduceLT, len, ek, z0, wa, ra, rowD, p0]
      · have hk1 : ¬ k + 1 = rs.length := by omega
        have z0 : decide ((i : Int) = 0) = false := decide_eq_false (by omega)
        have wa2 : atI ((worthsL rs (lcmL (dsL rs))).map D.int) ((k : Int) + 1) = some (.int (WW rs (k + 1))) := by
          rw [show (k : Int) + 1 = ((k + 1 : Nat) : Int) by omega]
          exact atI_map (by rw [worthsL_len]; omega)
        have tb := tl_bound h (k := k + 1) (by omega)
        have m1 : ∀ x, cMul x r.1 = true := fun x => cMul_r (by have := ro.w1; have := ro.w2; omega)
        have m2 : ∀ x, cMul x (TT rs (k + 1)) = true := fun x => cMul_r (by unfold TT; omega)
        have en : ownD rs k = .tup [.int (WW rs k * r.1 - (WW rs (k + 1) - WW rs k) * TT rs (k + 1)), .int (lcmL (dsL rs) * r.1)] := by unfold ownD ownN ownM; rw [if_neg hk1, if_neg hk1, w]
        have en2 : ownN rs k = WW rs k * r.1 - (WW rs (k + 1) - WW rs k) * TT rs (k + 1) := by unfold ownN; rw [if_neg hk1, w]
        have cl : ([ownD rs k] : List D).length + (((List.range rs.length).drop (k + 1)).map (ownD rs)).length ≤ 1000 := by
          rw [List.length_map, List.length_drop, List.length_range]; simp; omega
        rw [en] at cl
        rw [en, en2, if_neg h0]
        generalize ((List.range rs.length).drop (k + 1)).map (ownD rs) = rest at *
        generalize TT rs (k + 1) = tk1 at *
        have cl' : 1 + rest.length ≤ 1000 := by simpa using cl
        simp only [l__law_plain_b5, E, rowsD, mSeq, mSkip, mSet, mRet, mRetN, mBrk, mCnt, mDrop, mIfS, mVar, mMov, mCon, mUn, mBin, mNil, mCons, mPrim, ofO, mVal, mAnd, mOr, mNot, mIf, mAndV, mOrV, mChain, mCall, mCallB, mCallK, mMake, mMakeK, mMeth, mFldN, mUnN, mBinN, mSl, mSlN, mPart, mNoP, mApp, mSetIx, mFldSet, mPar, mAsg, gtN, gtT, gtCons, gtNil, gTup, gLst, gOne, gTwo, gIs, isNon, gPut, gListOf, gTupOf, gCat, gRev, gSum, gAll, gIsi, okD, tyHas, permL, mTry, noEr, mFn, mFnB, R.bind_ok, R.bind_bad, R.bind_er, List.getElem?_cons_zero, List.getElem?_cons_succ, List.set_cons_zero, List.set_cons_succ, List.length_cons, List.length_nil, List.map_cons, List.map_nil, List.append_nil, List.cons_append, List.nil_append, Option.bind_some, Option.bind_none, Option.map_some, Option.map_none, List.lookup_cons, List.lookup_nil, List.any_cons, List.any_nil, List.contains_cons, List.contains_nil, Bool.or_false, Bool.false_and, Bool.and_false, Bool.false_or, Bool.or_true, Bool.true_or, Bool.and_true, Bool.true_and, Bool.not_true, Bool.not_false, decide_true, decide_false, if_true, if_false, reduceIte, Nat.reduceAdd, Nat.reduceSub, Nat.reduceEqDiff, Int.reduceLT, Int.reduceLE, Nat.reduceBEq, beq_self_eq_true, Bool.false_eq_true, List.replicate_succ, List.replicate_zero, Option.getD_some, Option.getD_none, gI0_e, gIB_e, gII_e, gU_e, gInt_i, gInt_b, gEq_ii, gNe_ii, gIx_t, gIx_l, gIx_k, gLen_t, gLen_l, gLen_k, gNot_b, gFld_e, seqD_t, seqD_l, seqD_k, Nat.zero_le, Nat.reduceLeDiff, Nat.reduceLT, len, ek, z0, wa, wa2, ra, rowD, p0, m1, m2, gCat, Nat.zero_add, cl'])
  rw [intsFrom_length, Nat.sub_self, List.drop_zero] at hi
  subst hi
  exact mFn_rt (ρ := E ((List.range rs.length).map (ownD rs)) (TT rs 0) a b c) rfl (mSeq_nx s1 (mSeq_nx s2 (mSeq_nx rfl (mSeq_nx rfl (mSeq_nx e (mRet_ok rfl))))))
end Z.L77
end
set_option Elab.async false
set_option linter.all false
set_option maxRecDepth 100000
noncomputable section
namespace Z.L77
open PySem PySem.Spec L2
def dueL (rs : List Row) (k : Nat) : D := .lst [.int (ownN rs k), .int (ownM rs k)]
theorem gcdI_mul (w a b : Int) (hw : 0 < w) : gcdI (a * w) (w * b) = w * gcdI a b := by
  obtain ⟨x, rfl⟩ := Int.eq_ofNat_of_zero_le (Int.le_of_lt hw)
  rw [gcdI_def, gcdI_def, Int.mul_comm a, Int.natAbs_mul, Int.natAbs_mul, Nat.gcd_mul_left, Int.natAbs_natCast, Int.natCast_mul]
theorem num_fits (rs : List Row) (h : RowsOk rs) (j k : Nat) (hk : k < rs.length) : m__law_fits (j + 1) [numD rs k, dueL rs k] = .ok (.bl true) := by
  have l6 := h.l2
  obtain ⟨L1, L2⟩ := lcmL_bound (ds_ok h) (by rw [dsL_len]; exact l6)
  have q : rs[k]? = some rs[k] := List.getElem?_eq_getElem hk
  have w := widt_eq q
  have ro := h.ok rs[k] (List.getElem_mem ..)
  have tk : TT rs k = TT rs (k + 1) + widt rs k := by
    have : widt rs k = TT rs k - TT rs (k + 1) := rfl
    omega
  have wb : 1 ≤ widt rs k ∧ widt rs k ≤ 999 := by rw [w]; exact ⟨ro.w1, ro.w2⟩
  have e1 : inc rs k = WW rs k * TT rs k := rfl
  have e2 : inc rs (k + 1) = WW rs (k + 1) * TT rs (k + 1) := rfl
  unfold numD dueL
  by_cases hk1 : k + 1 = rs.length
  · have t0 : TT rs (k + 1) = 0 := by rw [hk1]; exact TT_n
    have er : rise rs k = WW rs k * widt rs k := by
      unfold rise
      rw [e1, e2, tk, t0, Int.zero_add, Int.mul_zero, Int.sub_zero]
    have en : ownN rs k = WW rs k := if_pos hk1
    have em : ownM rs k = lcmL (dsL rs) := if_pos hk1
    rw [en, em, er, gcdI_mul _ _ _ (by omega)]
    have z := fits_l j (WW rs k / gcdI (WW rs k) (lcmL (dsL rs))) (lcmL (dsL rs) / gcdI (WW rs k) (lcmL (dsL rs))) (WW rs k) (lcmL (dsL rs)) L1 (by omega)
    rw [decide_eq_true rfl, decide_eq_true rfl] at z
    rw [Int.mul_comm (WW rs k), Int.mul_ediv_mul_of_pos _ _ (by omega), Int.mul_ediv_mul_of_pos _ _ (by omega)]
    exact z
  · have en : ownN rs k = rise rs k := by
      unfold ownN rise
      rw [if_neg hk1, e1, e2, tk, Int.mul_add, Int.sub_mul]
      omega
    have em : ownM rs k = widt rs k * lcmL (dsL rs) := by unfold ownM; rw [if_neg hk1, Int.mul_comm]
    have pM : 0 < widt rs k * lcmL (dsL rs) := Int.mul_pos (by omega) L1
    have pM2 : widt rs k * lcmL (dsL rs) ≤ 999 * 941480149401 := Int.mul_le_mul wb.2 L2 (Int.le_of_lt L1) (by decide)
    rw [en, em]
    have z := fits_l j (rise rs k / gcdI (rise rs k) (widt rs k * lcmL (dsL rs))) (widt rs k * lcmL (dsL rs) / gcdI (rise rs k) (widt rs k * lcmL (dsL rs))) (rise rs k) (widt rs k * lcmL (dsL rs)) pM (by omega)
    rw [decide_eq_true rfl, decide_eq_true rfl] at z
    exact z
end Z.L77
end
set_option Elab.async false
set_option linter.all false
set_option maxRecDepth 100000
noncomputable section
namespace Z.L77
section hull
variable (X Y : Nat → Int)
/-- the point j is not above the line through p and c -/
def below (p c j : Nat) : Prop := (Y j - Y p) * (X c - X p) ≤ (Y c - Y p) * (X j - X p)
def bendsD (r p c : Nat) : Prop := (Y c - Y p) * (X p - X r) < (Y p - Y r) * (X c - X p)
/-- the lid's places, the last one first -/
def HullR : List Nat → Prop
  | [] => False
  | [b] => b = 0
  | c :: p :: rest => p < c ∧ (∀ j, p ≤ j → j ≤ c → below X Y p c j) ∧ (∀ r, rest.head? = some r → bendsD X Y r p c) ∧ HullR (p :: rest)
variable {X Y} {m : Nat}
theorem pop_lo (a b u v y x : Int) (h : u * b ≤ v * a) (h2 : y * a ≤ u * x) (ha : 0 < a) (hb : 0 < b) (hx : 0 ≤ x) : y * (a + b) ≤ (u + v) * x := by
  have e1 : y * a * (a + b) ≤ u * x * (a + b) := Int.mul_le_mul_of_nonneg_right h2 (by omega)
  have e2 : u * b * x ≤ v * a * x := Int.mul_le_mul_of_nonneg_right h hx
  have e3 : (y * (a + b)) * a ≤ ((u + v) * x) * a := by grind
  exact Int.le_of_mul_le_mul_right e3 ha
theorem pop_hi (a b u v y x : Int) (h : u * b ≤ v * a) (h2 : y * b ≤ v * x) (ha : 0 < a) (hb : 0 < b) (hx : x ≤ b) : (u + y) * (a + b) ≤ (u + v) * (a + x) := by
  have e1 : y * b * (a + b) ≤ v * x * (a + b) := Int.mul_le_mul_of_nonneg_right h2 (by omega)
  have e2 : u * b * (b - x) ≤ v * a * (b - x) := Int.mul_le_mul_of_nonneg_right h (by omega)
  have e3 : ((u + y) * (a + b)) * b ≤ ((u + v) * (a + x)) * b := by grind
  exact Int.le_of_mul_le_mul_right e3 hb
theorem mono_le (hX : ∀ i j, i < j → j ≤ m → X i < X j) {i j : Nat} (h : i ≤ j) (hj : j ≤ m) : X i ≤ X j := by
  rcases Nat.lt_or_eq_of_le h with z | z
  · exact Int.le_of_lt (hX i j z hj)
  · rw [z]; exact Int.le_refl _
theorem hull_pop (hX : ∀ i j, i < j → j ≤ m → X i < X j) {q p at' : Nat} {rest : List Nat} (h : HullR X Y (q :: p :: rest)) (hq : q < at') (hm : at' ≤ m) (hb : ∀ j, q ≤ j → j ≤ at' → below X Y q at' j) (nb : ¬ bendsD X Y p q at') :
    HullR X Y (p :: rest) ∧ p < at' ∧ ∀ j, p ≤ j → j ≤ at' → below X Y p at' j := by
  obtain ⟨h1, h2, h3, h4⟩ := h
  refine ⟨h4, by omega, fun j j1 j2 => ?_⟩
  unfold bendsD at nb
  have xa := hX p q h1 (by omega)
  have xb := hX q at' hq hm
  by_cases c : j ≤ q
  · have z := h2 j j1 c
    unfold below at z ⊢
    have x0 := mono_le hX j1 (show j ≤ m by omega)
    have k := pop_lo (X q - X p) (X at' - X q) (Y q - Y p) (Y at' - Y q) (Y j - Y p) (X j - X p) (by omega) z (by omega) (by omega) (by omega)
    grind
  · have z := hb j (by omega) j2
    unfold below at z ⊢
    have x0 := mono_le hX j2 hm
    have k := pop_hi (X q - X p) (X at' - X q) (Y q - Y p) (Y at' - Y q) (Y j - Y q) (X j - X q) (by omega) z (by omega) (by omega) (by omega)
    grind
/-! sums -/
def pre (f : Nat → Int) : Nat → Int
  | 0 => 0
  | t + 1 => pre f t + f (t + 1)
theorem pre_succ {f : Nat → Int} {t : Nat} : pre f (t + 1) = pre f t + f (t + 1) := rfl
theorem pre_congr {f g : Nat → Int} : ∀ {t : Nat}, (∀ j, 1 ≤ j → j ≤ t → f j = g j) → pre f t = pre g t
  | 0, _ => rfl
  | t + 1, h => by
    rw [pre_succ, pre_succ, pre_congr fun j h1 h2 => h j h1 (by omega), h (t + 1) (by omega) (Nat.le_refl _)]
/-- the piece in which j lies -/
def blk : List Nat → Nat → Nat × Nat
  | c :: p :: rest, j => if p < j then (p, c) else blk (p :: rest) j
  | _, _ => (0, 0)
variable {Nv : Nat → Nat → Int} {L s : Int}
def VV (Nv : Nat → Nat → Int) (C : List Nat) (j : Nat) : Int := Nv (blk C j).1 (blk C j).2
theorem blk_hi {c p : Nat} {rest : List Nat} {j : Nat} (h : p < j) : blk (c :: p :: rest) j = (p, c) := by rw [blk, if_pos h]
theorem blk_lo {c p : Nat} {rest : List Nat} {j : Nat} (h : j ≤ p) : blk (c :: p :: rest) j = blk (p :: rest) j := by rw [blk, if_neg (by omega)]
theorem blk_in : ∀ {rest : List Nat} {c j : Nat}, HullR X Y (c :: rest) → 1 ≤ j → j ≤ c → (blk (c :: rest) j).1 < j ∧ j ≤ (blk (c :: rest) j).2 ∧ (blk (c :: rest) j).2 ≤ c ∧ ∀ i, (blk (c :: rest) j).1 ≤ i → i ≤ (blk (c :: rest) j).2 → below X Y (blk (c :: rest) j).1 (blk (c :: rest) j).2 i
  | [], c, j, h, h1, h2 => by
    simp only [HullR] at h; omega
  | p :: rest, c, j, h, h1, h2 => by
    obtain ⟨a1, a2, a3, a4⟩ := h
    by_cases z : p < j
    · rw [blk_hi z]; exact ⟨z, h2, Nat.le_refl _, a2⟩
    · rw [blk_lo (by omega)]
      obtain ⟨b1, b2, b3, b4⟩ := blk_in a4 h1 (by omega)
      exact ⟨b1, b2, by omega, b4⟩
theorem pre_tail {c p : Nat} {rest : List Nat} {t : Nat} (h : t ≤ p) : pre (fun j => (X j - X (j - 1)) * VV Nv (c :: p :: rest) j) t = pre (fun j => (X j - X (j - 1)) * VV Nv (p :: rest) j) t :=
  pre_congr fun j h1 h2 => by unfold VV; rw [blk_lo (by omega)]
theorem pre_blk {c p : Nat} {rest : List Nat} : ∀ (d : Nat), p + d ≤ c → pre (fun j => (X j - X (j - 1)) * VV Nv (c :: p :: rest) j) (p + d) = pre (fun j => (X j - X (j - 1)) * VV Nv (p :: rest) j) p + (X (p + d) - X p) * Nv p c
  | 0, _ => by rw [Nat.add_zero, pre_tail (Nat.le_refl _)]; grind
  | d + 1, h => by
    have ih : pre (fun j => (X j - X (j - 1)) * VV Nv (c :: p :: rest) j) (p + d) = pre (fun j => (X j - X (j - 1)) * VV Nv (p :: rest) j) p + (X (p + d) - X p) * Nv p c := pre_blk d (by omega)
    rw [show p + (d + 1) = (p + d) + 1 by omega]
    rw [pre_succ, ih]
    have e : VV Nv (c :: p :: rest) (p + d + 1) = Nv p c := by unfold VV; rw [blk_hi (by omega)]
    rw [e, show p + d + 1 - 1 = p + d by omega]
    grind
variable {A : Nat → Nat → Prop}
/-- what holds of all neighbours -/
def AdjL (A : Nat → Nat → Prop) : List Nat → Prop
  | c :: p :: rest => A p c ∧ AdjL A (p :: rest)
  | _ => True
theorem adj_of : ∀ {rest : List Nat} {c : Nat}, HullR X Y (c :: rest) → (∀ j, 1 ≤ j → j ≤ c → A (blk (c :: rest) j).1 (blk (c :: rest) j).2) → AdjL A (c :: rest)
  | [], c, _, _ => trivial
  | p :: rest, c, h, ha => by
    refine ⟨?_, adj_of h.2.2.2 fun j h1 h2 => ?_⟩
    · have z := ha c (by have := h.1; omega) (Nat.le_refl _)
      rw [blk_hi h.1] at z; exact z
    · have z := ha j h1 (by have := h.1; omega)
      rw [blk_lo h2] at z; exact z
theorem pre_V (hN : ∀ p c, A p c → p < c → c ≤ m → Nv p c * ((X c - X p) * L) = s * (Y c - Y p)) : ∀ {rest : List Nat} {c : Nat}, HullR X Y (c :: rest) → AdjL A (c :: rest) → c ≤ m → L * pre (fun j => (X j - X (j - 1)) * VV Nv (c :: rest) j) c = s * (Y c - Y 0)
  | [], c, h, _, _ => by
    simp only [HullR] at h; subst h
    simp [pre]
  | p :: rest, c, h, ⟨aj, al⟩, hm => by
    obtain ⟨a1, a2, a3, a4⟩ := h
    have ih := pre_V hN a4 al (by omega)
    have e := pre_blk (X := X) (Nv := Nv) (rest := rest) (c := c) (p := p) (c - p) (by omega)
    rw [show p + (c - p) = c by omega] at e
    rw [e]
    have n := hN p c aj a1 hm
    grind
/-- what the lid's sums are below -/
theorem pre_ge (hX : ∀ i j, i < j → j ≤ m → X i < X j) (hs : 0 < s) (hN : ∀ p c, A p c → p < c → c ≤ m → Nv p c * ((X c - X p) * L) = s * (Y c - Y p)) : ∀ {rest : List Nat} {c t : Nat}, HullR X Y (c :: rest) → AdjL A (c :: rest) → c ≤ m → t ≤ c → s * (Y t - Y 0) ≤ L * pre (fun j => (X j - X (j - 1)) * VV Nv (c :: rest) j) t
  | [], c, t, h, _, _, ht => by
    simp only [HullR] at h; subst h
    have : t = 0 := by omega
    subst this
    simp [pre]
  | p :: rest, c, t, h, ⟨aj, al⟩, hm, ht => by
    obtain ⟨a1, a2, a3, a4⟩ := h
    by_cases z : t ≤ p
    · rw [pre_tail z]
      exact pre_ge hX hs hN a4 al (by omega) z
    · have e := pre_blk (X := X) (Nv := Nv) (rest := rest) (c := c) (p := p) (t - p) (by omega)
      rw [show p + (t - p) = t by omega] at e
      rw [e]
      have v := pre_V hN a4 al (show p ≤ m by omega)
      have n := hN p c aj a1 hm
      have b := a2 t (by omega) ht
      unfold below at b
      have w := hX p c a1 hm
      have b2 : s * ((Y t - Y p) * (X c - X p)) ≤ s * ((Y c - Y p) * (X t - X p)) := Int.mul_le_mul_of_nonneg_left b (by omega)
      have b3 : (s * (Y t - Y p)) * (X c - X p) ≤ (L * ((X t - X p) * Nv p c)) * (X c - X p) := by
        have : s * (Y c - Y p) * (X t - X p) = Nv p c * ((X c - X p) * L) * (X t - X p) := by rw [n]
        grind
      have b4 := Int.le_of_mul_le_mul_right b3 (by omega)
      grind
/-- the numbers fall from piece to piece -/
theorem nv_lt (hX : ∀ i j, i < j → j ≤ m → X i < X j) (hs : 0 < s) (hL : 0 < L) (hN : ∀ p c, A p c → p < c → c ≤ m → Nv p c * ((X c - X p) * L) = s * (Y c - Y p)) {r p c : Nat} (j1 : A r p) (j2 : A p c) (h1 : r < p) (h2 : p < c) (hm : c ≤ m) (h : bendsD X Y r p c) : Nv p c < Nv r p := by
  unfold bendsD at h
  have n1 := hN r p j1 h1 (by omega)
  have n2 := hN p c j2 h2 hm
  have w1 := hX r p h1 (by omega)
  have w2 := hX p c h2 hm
  have g : s * ((Y c - Y p) * (X p - X r)) < s * ((Y p - Y r) * (X c - X p)) := Int.mul_lt_mul_of_pos_left h hs
  have k : Nv p c * ((X c - X p) * (X p - X r) * L) < Nv r p * ((X c - X p) * (X p - X r) * L) := by
    have e1 : Nv p c * ((X c - X p) * (X p - X r) * L) = s * ((Y c - Y p) * (X p - X r)) := by
      have : Nv p c * ((X c - X p) * L) * (X p - X r) = s * (Y c - Y p) * (X p - X r) := by rw [n2]
      grind
    have e2 : Nv r p * ((X c - X p) * (X p - X r) * L) = s * ((Y p - Y r) * (X c - X p)) := by
      have : Nv r p * ((X p - X r) * L) * (X c - X p) = s * (Y p - Y r) * (X c - X p) := by rw [n1]
      grind
    rw [e1, e2]; exact g
  exact Int.lt_of_mul_lt_mul_right k (Int.le_of_lt (Int.mul_pos (Int.mul_pos (by omega) (by omega)) hL))
theorem vv_anti (hX : ∀ i j, i < j → j ≤ m → X i < X j) (hs : 0 < s) (hL : 0 < L) (hN : ∀ p c, A p c → p < c → c ≤ m → Nv p c * ((X c - X p) * L) = s * (Y c - Y p)) : ∀ {rest : List Nat} {c j j' : Nat}, HullR X Y (c :: rest) → AdjL A (c :: rest) → c ≤ m → 1 ≤ j → j ≤ j' → j' ≤ c → blk (c :: rest) j = blk (c :: rest) j' ∨ VV Nv (c :: rest) j' < VV Nv (c :: rest) j
  | [], c, j, j', h, _, _, h1, h2, h3 => by
    simp only [HullR] at h; omega
  | p :: rest, c, j, j', h, ⟨aj, al⟩, hm, h1, h2, h3 => by
    have hh := h
    obtain ⟨a1, a2, a3, a4⟩ := h
    by_cases z : p < j
    · left; rw [blk_hi z, blk_hi (by omega)]
    · have ej : blk (c :: p :: rest) j = blk (p :: rest) j := blk_lo (by omega)
      by_cases z' : p < j'
      · right
        have e' : VV Nv (c :: p :: rest) j' = Nv p c := by unfold VV; rw [blk_hi z']
        have e2 : VV Nv (c :: p :: rest) j = VV Nv (p :: rest) j := by unfold VV; rw [ej]
        rw [e', e2]
        cases rest with
        | nil => simp only [HullR] at a4; omega
        | cons r rest =>
          have q := nv_lt hX hs hL hN al.1 aj a4.1 a1 hm (a3 r rfl)
          have e3 : VV Nv (p :: r :: rest) p = Nv r p := by unfold VV; rw [blk_hi a4.1]
          rcases vv_anti hX hs hL hN a4 al (by omega) h1 (show j ≤ p by omega) (Nat.le_refl _) with w | w
          · have : VV Nv (p :: r :: rest) j = Nv r p := by
              rw [← e3]; unfold VV; rw [w]
            omega
          · omega
      · have ej' : blk (c :: p :: rest) j' = blk (p :: rest) j' := blk_lo (by omega)
        unfold VV
        rw [ej, ej']
        exact vv_anti hX hs hL hN a4 al (by omega) h1 h2 (by omega)
theorem pre_cut {f : Nat → Int} {q : Nat → Bool} {p c : Nat} (hpc : p ≤ c) : ∀ {n : Nat}, c ≤ n → (∀ j, 1 ≤ j → j ≤ n → (q j = true ↔ p < j ∧ j ≤ c)) → pre (fun j => if q j = true then f j else 0) n = pre f c - pre f p := by
  have low : ∀ {n : Nat}, n ≤ p → (∀ j, 1 ≤ j → j ≤ n → (q j = true ↔ p < j ∧ j ≤ c)) → pre (fun j => if q j = true then f j else 0) n = 0 := by
    intro n
    induction n with
    | zero => intro _ _; rfl
    | succ n ih =>
      intro h hq
      rw [pre_succ, ih (by omega) fun j h1 h2 => hq j h1 (by omega)]
      have : ¬ q (n + 1) = true := fun z => by have := (hq (n + 1) (by omega) (Nat.le_refl _)).mp z; omega
      simp [this]
  have mid : ∀ {n : Nat}, p ≤ n → n ≤ c → (∀ j, 1 ≤ j → j ≤ n → (q j = true ↔ p < j ∧ j ≤ c)) → pre (fun j => if q j = true then f j else 0) n = pre f n - pre f p := by
    intro n
    induction n with
    | zero =>
      intro h _ _
      have : p = 0 := by omega
      subst this; simp [pre]
    | succ n ih =>
      intro h h' hq
      by_cases e : p = n + 1
      · rw [low (by omega) hq, e]; omega
      · have i := ih (by omega) (by omega) fun j h1 h2 => hq j h1 (by omega)
        rw [pre_succ, pre_succ, i]
        have : q (n + 1) = true := (hq (n + 1) (by omega) (Nat.le_refl _)).mpr (by omega)
        simp [this]; omega
  intro n
  induction n with
  | zero =>
    intro h hq
    exact mid (by omega) (by omega) hq |>.trans (by rw [show c = 0 by omega])
  | succ n ih =>
    intro h hq
    by_cases e : c = n + 1
    · rw [e]; exact mid (by omega) (by omega) hq
    · have i := ih (by omega) fun j h1 h2 => hq j h1 (by omega)
      show pre (fun j => if q j = true then f j else 0) n + _ = _
      rw [i]
      have : ¬ q (n + 1) = true := fun z => by have := (hq (n + 1) (by omega) (Nat.le_refl _)).mp z; omega
      simp [this]
/-- what the law asks of the numbers -/
theorem hull_law {n : Nat} {rest : List Nat} {Du : Nat → Int} (hX : ∀ i j, i < j → j ≤ n → X i < X j) (hs : 0 < s) (hL : 0 < L) (hN : ∀ p c, A p c → p < c → c ≤ n → Nv p c * ((X c - X p) * L) = s * (Y c - Y p)) (h : HullR X Y (n :: rest)) (hA : AdjL A (n :: rest))
    (hD : ∀ j, 1 ≤ j → j ≤ n → Du j * L = s * (Y j - Y (j - 1))) :
    (∀ j j', 1 ≤ j → j ≤ j' → j' ≤ n → VV Nv (n :: rest) j' ≤ VV Nv (n :: rest) j) ∧
    (∀ t, t ≤ n → pre Du t ≤ pre (fun j => (X j - X (j - 1)) * VV Nv (n :: rest) j) t) ∧
    (∀ j0, 1 ≤ j0 → j0 ≤ n → pre (fun j => if decide (VV Nv (n :: rest) j = VV Nv (n :: rest) j0) = true then Du j else 0) n = pre (fun j => if decide (VV Nv (n :: rest) j = VV Nv (n :: rest) j0) = true then (X j - X (j - 1)) * VV Nv (n :: rest) j else 0) n) ∧
    pre Du n = pre (fun j => (X j - X (j - 1)) * VV Nv (n :: rest) j) n := by
  have dsum : ∀ t, t ≤ n → L * pre Du t = s * (Y t - Y 0) := by
    intro t
    induction t with
    | zero => intro _; simp [pre]
    | succ t ih =>
      intro ht
      rw [pre_succ]
      have a := ih (by omega)
      have b := hD (t + 1) (by omega) ht
      rw [show t + 1 - 1 = t by omega] at b
      grind
  have le1 : ∀ t, t ≤ n → pre Du t ≤ pre (fun j => (X j - X (j - 1)) * VV Nv (n :: rest) j) t := fun t ht => by
    have a := pre_ge hX hs hN h hA (Nat.le_refl _) ht
    rw [← dsum t ht] at a
    exact Int.le_of_mul_le_mul_left a hL
  have eqn : pre Du n = pre (fun j => (X j - X (j - 1)) * VV Nv (n :: rest) j) n := by
    have a := pre_V hN h hA (Nat.le_refl _)
    rw [← dsum n (Nat.le_refl _)] at a
    exact (Int.eq_of_mul_eq_mul_left (by omega) a).symm
  refine ⟨fun j j' h1 h2 h3 => ?_, le1, fun j0 h1 h2 => ?_, eqn⟩
  · rcases vv_anti hX hs hL hN h hA (Nat.le_refl _) h1 h2 h3 with w | w
    · unfold VV; rw [w]; exact Int.le_refl _
    · omega
  · obtain ⟨b1, b2, b3, b4⟩ := blk_in h h1 h2
    have key : ∀ j, 1 ≤ j → j ≤ n → (decide (VV Nv (n :: rest) j = VV Nv (n :: rest) j0) = true ↔ (blk (n :: rest) j0).1 < j ∧ j ≤ (blk (n :: rest) j0).2) := by
      intro j j1 j2
      rw [decide_eq_true_eq]
      obtain ⟨d1, d2, d3, d4⟩ := blk_in h j1 j2
      constructor
      · intro e
        rcases Nat.le_total j j0 with z | z
        · rcases vv_anti hX hs hL hN h hA (Nat.le_refl _) j1 z h2 with w | w
          · rw [← w]; exact ⟨d1, d2⟩
          · omega
        · rcases vv_anti hX hs hL hN h hA (Nat.le_refl _) h1 z j2 with w | w
          · rw [w]; exact ⟨d1, d2⟩
          · omega
      · intro ⟨e1, e2⟩
        have same : ∀ {rest : List Nat} {c : Nat}, HullR X Y (c :: rest) → j ≤ c → j0 ≤ c → (blk (c :: rest) j0).1 < j → j ≤ (blk (c :: rest) j0).2 → blk (c :: rest) j = blk (c :: rest) j0 := by
          intro rest
          induction rest with
          | nil => intro c h _ _ _ _; rfl
          | cons p rest ih =>
            intro c h jc j0c e1 e2
            obtain ⟨a1, a2, a3, a4⟩ := h
            by_cases z : p < j0
            · rw [blk_hi z] at e1 e2 ⊢
              exact blk_hi e1
            · have ej0 : blk (c :: p :: rest) j0 = blk (p :: rest) j0 := blk_lo (by omega)
              rw [ej0] at e1 e2 ⊢
              obtain ⟨f1, f2, f3, f4⟩ := blk_in a4 h1 (show j0 ≤ p by omega)
              have ej : blk (c :: p :: rest) j = blk (p :: rest) j := blk_lo (by omega)
              rw [ej]
              exact ih a4 (by omega) (by omega) e1 e2
        unfold VV
        rw [same h j2 h2 e1 e2]
    rw [pre_cut (by omega) b3 key, pre_cut (by omega) b3 key]
    -- both are the piece's income
    have at1 : ∀ t, (t = (blk (n :: rest) j0).1 ∨ t = (blk (n :: rest) j0).2) → L * pre (fun j => (X j - X (j - 1)) * VV Nv (n :: rest) j) t = s * (Y t - Y 0) := by
      have go : ∀ {rest : List Nat} {c : Nat}, HullR X Y (c :: rest) → AdjL A (c :: rest) → c ≤ n → j0 ≤ c → ∀ t, (t = (blk (c :: rest) j0).1 ∨ t = (blk (c :: rest) j0).2) → L * pre (fun j => (X j - X (j - 1)) * VV Nv (c :: rest) j) t = s * (Y t - Y 0) := by
        intro rest
        induction rest with
        | nil =>
          intro c h _ _ _ t _
          simp only [HullR] at h; omega
        | cons p rest ih =>
          intro c h ⟨aj, al⟩ hc j0c t ht
          have hh := h
          obtain ⟨a1, a2, a3, a4⟩ := h
          by_cases z : p < j0
          · rw [blk_hi z] at ht
            rcases ht with ht | ht
            · rw [ht]
              show L * pre _ p = _
              rw [pre_tail (Nat.le_refl _)]
              exact pre_V hN a4 al (by omega)
            · rw [ht]
              exact pre_V hN hh ⟨aj, al⟩ hc
          · rw [blk_lo (by omega)] at ht
            obtain ⟨f1, f2, f3, f4⟩ := blk_in a4 h1 (show j0 ≤ p by omega)
            have tp : t ≤ p := by rcases ht with z | z <;> omega
            rw [pre_tail tp]
            exact ih a4 al (by omega) (by omega) t ht
      exact go h hA (Nat.le_refl _) h2
    have q1 := at1 _ (.inl rfl)
    have q2 := at1 _ (.inr rfl)
    rw [← dsum _ (by omega)] at q1
    rw [← dsum _ b3] at q2
    have r1 := Int.eq_of_mul_eq_mul_left (by omega) q1
    have r2 := Int.eq_of_mul_eq_mul_left (by omega) q2
    rw [r1, r2]
end hull
end Z.L77
end
set_option Elab.async false
set_option linter.all false
set_option maxRecDepth 100000
noncomputable section
namespace Z.L77
open PySem PySem.Spec L2
local macro_rules | `(tactic| infer_instance) => `(tactic| first
  | with_reducible refine we_var ?_ | with_reducible refine we_con ?_ | with_reducible refine wa_cons ?_ | with_reducible refine wa_nil ?_
  | with_reducible refine we_bin ?_ | with_reducible refine we_un ?_ | with_reducible refine we_prim ?_
  | with_reducible refine sm_I0 ?_ | with_reducible refine sm_IB ?_ | with_reducible refine sm_eq ?_ | with_reducible refine sm_ne ?_ | with_reducible refine sm_not ?_ | with_reducible refine sm_U ?_
  | with_reducible refine sm_one ?_ | with_reducible refine sm_two ?_ | with_reducible refine sm_ixl ?_ | with_reducible refine sm_ixt ?_ | with_reducible refine sm_ixk ?_
  | with_reducible refine sm_II (by first | assumption | exact cNz_r (by omega) | exact cDiv_r (by omega) (by omega) | exact cMul_l (by omega) | exact cMul_r (by omega) | decide) ?_
  | with_reducible refine sm_tup (by first | decide | (simp only [List.length_cons, List.length_nil]; omega)) ?_ | with_reducible refine sm_lst (by first | decide | (simp only [List.length_cons, List.length_nil]; omega)) ?_
  | with_reducible refine sm_lenl ?_ | with_reducible refine sm_lent ?_ | with_reducible refine sm_lenk ?_
  | with_reducible refine sm_fld (by with_unfolding_all exact rfl) ?_ | with_reducible refine sm_atc (by with_unfolding_all exact rfl) ?_
  | with_reducible refine sm_isT (by with_unfolding_all exact rfl) ?_ | with_reducible refine sm_isF (by with_unfolding_all exact rfl) ?_ | with_reducible refine sm_nnT (by with_unfolding_all exact rfl) ?_ | with_reducible refine sm_nnF (by with_unfolding_all exact rfl) ?_
  | with_reducible refine setN_of ?_ | with_reducible refine lk_of ?_
  | with_reducible refine bl_of ?_ | with_reducible refine in_of ?_ | with_reducible refine lst_of ?_ | with_reducible refine tup_of ?_ | with_reducible refine ins_of ?_ | with_reducible refine non_of ?_
  | with_reducible refine is1_of ?_ | with_reducible refine is2_of ?_ | with_reducible refine is3_of ?_ | with_reducible refine two_of ?_
  | with_reducible refine ws_seq ?_ | with_reducible refine ws_set ?_ | with_reducible refine ws_if ?_ | with_reducible refine ws_ret ?_ | with_reducible refine ws_retN ?_ | with_reducible refine ws_skip ?_
  | with_reducible refine ws_brk ?_ | with_reducible refine ws_cnt ?_ | with_reducible refine ws_drop ?_ | with_reducible refine ws_asg ?_ | with_reducible refine ws_app ?_ | with_reducible refine ws_ext ?_ | with_reducible refine ws_setix ?_
  | with_reducible refine ws_fset ?_ | with_reducible refine ws_par ?_ | with_reducible refine ws_aug ?_ | with_reducible refine ws_for ?_ | with_reducible refine ws_try ?_
  | with_reducible refine sm_gtN ?_ | with_reducible refine sm_gtT rfl ?_ | with_reducible refine sm_gtCons ?_ | with_reducible refine sm_gtNil ?_
  | with_reducible refine we_call ?_ | with_reducible refine we_callB ?_ | with_reducible refine we_meth ?_ | with_reducible refine we_make ?_ | with_reducible refine we_callK ?_ | with_reducible refine we_makeK ?_ | with_reducible refine we_makeL ?_
  | with_reducible refine we_fldN ?_ | with_reducible refine we_unN ?_ | with_reducible refine we_binN ?_ | with_reducible refine we_sl ?_ | with_reducible refine we_slN ?_ | with_reducible refine we_mov ?_ | with_reducible refine we_pop ?_
  | with_reducible refine we_if ?_ | with_reducible refine we_and ?_ | with_reducible refine we_or ?_ | with_reducible refine we_chain ?_ | with_reducible refine we_comp ?_
  | with_reducible refine wt_val ?_ | with_reducible refine wt_and ?_ | with_reducible refine wt_or ?_ | with_reducible refine wt_not ?_ | with_reducible refine wt_yes ?_
  | with_reducible refine wo_none ?_ | with_reducible refine wo_part ?_
  | with_reducible refine wa_itL ?_ | with_reducible refine wa_itT ?_ | with_reducible refine wa_seqD ?_ | with_reducible refine wa_r1 ?_ | with_reducible refine wa_r2 ?_ | with_reducible refine wa_r3 ?_
  | with_reducible refine br_t ?_ | with_reducible refine br_f ?_ | with_reducible refine br_n ?_ | with_reducible refine br_dt (by assumption) ?_ | with_reducible refine br_df (by assumption) ?_)
theorem bends_w {Q : D → Prop} {E : Er} (x1 y1 x2 y2 x3 y3 : Int) (h1 : 0 ≤ x1 ∧ x1 ≤ 9999) (h2 : 0 ≤ x2 ∧ x2 ≤ 9999) (h3 : 0 ≤ x3 ∧ x3 ≤ 9999) (q : Q (.bl (decide ((y3 - y2) * (x2 - x1) < (y2 - y1) * (x3 - x2))))) :
    WR (m_bends_down [.tup [.int x1, .int y1], .tup [.int x2, .int y2], .tup [.int x3, .int y3]]) Q E := by
  unfold m_bends_down
  refine wr_fn (by simp only [List.map_cons, List.map_nil, List.cons_append, List.nil_append, Nat.reduceSub, List.replicate_succ, List.replicate_zero]; rfl) ?_
  unfold b_bends_down
  repeat infer_instance
  exact q
def iD (b : Nat) : D := .int (b : Int)
abbrev kD (C : List Nat) : List D := C.reverse.map iD
theorem kD_len {C : List Nat} : (kD C).length = C.length := by simp [kD]
theorem kD_cons {c : Nat} {C : List Nat} : kD (c :: C) = kD C ++ [.int (c : Int)] := by simp [kD, iD]
theorem kD_1 {c : Nat} {C : List Nat} : atI (kD (c :: C)) (-1) = some (.int (c : Int)) := atI_last (by rw [kD_cons]; simp)
theorem kD_2 {c p : Nat} {C : List Nat} : atI (kD (c :: p :: C)) (-2) = some (.int (p : Int)) := by
  unfold atI ixN
  rw [if_neg (by decide), kD_len, if_pos (by simp; omega)]
  simp only [Option.bind_some]
  rw [kD_cons, kD_cons, List.append_assoc, List.getElem?_append_right (by rw [kD_len]; simp; omega), kD_len]
  rw [show (-2 + ((c :: p :: C).length : Int)).toNat - C.length = 0 by simp; omega]
  rfl
theorem kD_drop {c : Nat} {C : List Nat} : (kD (c :: C)).dropLast = kD C := by rw [kD_cons]; simp
theorem kD_get {c : Nat} {C : List Nat} : (kD (c :: C)).getLast? = some (.int (c : Int)) := by rw [kD_cons]; simp
def pt (X Y : Nat → Int) (j : Nat) : D := .tup [.int (X j), .int (Y j)]
abbrev pts (X Y : Nat → Int) (m : Nat) : D := .lst ((List.range (m + 1)).map (pt X Y))
theorem pts_at {X Y : Nat → Int} {m j : Nat} (h : j ≤ m) : ((List.range (m + 1)).map (pt X Y))[j]? = some (pt X Y j) := by
  rw [List.getElem?_map, List.getElem?_range (by omega)]; rfl
theorem sm_pt {X Y : Nat → Int} {m j : Nat} {K : D → Prop} (h : j ≤ m) (k : K (.tup [.int (X j), .int (Y j)])) : Sm (atI ((List.range (m + 1)).map (pt X Y)) (j : Int)) K := ⟨_, atI_nat (pts_at h), k⟩
/-- what stands ahead of the place at -/
def Ahead (X Y : Nat → Int) (at' : Nat) (C : List Nat) : Prop := (at' = 0 ∧ C = []) ∨ ∃ q rest, C = q :: rest ∧ HullR X Y (q :: rest) ∧ q < at' ∧ ∀ j, q ≤ j → j ≤ at' → below X Y q at' j
theorem lid_w {Q : D → Prop} {E : Er} (X Y : Nat → Int) (m : Nat) (hm : m ≤ 20) (hX : ∀ i j, i < j → j ≤ m → X i < X j) (hb : ∀ j, j ≤ m → 0 ≤ X j ∧ X j ≤ 9999)
    (q : ∀ rest, HullR X Y (m :: rest) → rest.length ≤ m → Q (.lst (kD (m :: rest)))) : WR (m_lid_places [pts X Y m]) Q E := by
  unfold m_lid_places
  refine wr_fn (by simp only [List.map_cons, List.map_nil, List.cons_append, List.nil_append, Nat.reduceSub, List.replicate_succ, List.replicate_zero]; rfl) ?_
  unfold b_lid_places
  repeat infer_instance
  refine ⟨_, rfl, ?_⟩
  refine wf_inv (fun i ρ => ∃ C a b, ρ = [some (pts X Y m), some (.lst (kD C)), a, b] ∧ C.length ≤ i ∧ ((i = 0 ∧ C = []) ∨ ∃ k rest, i = k + 1 ∧ C = k :: rest ∧ HullR X Y (k :: rest))) ⟨[], none, none, rfl, by simp, .inl ⟨rfl, rfl⟩⟩ ?_ ?_
  · rintro i d ρ hd ⟨C, a, b, rfl, hl, hC⟩
    obtain ⟨x, hx, rfl⟩ := enum_at _ _ _ _ hd
    have hi : i < m + 1 := by
      have := (List.getElem?_eq_some_iff.mp hx).1
      simpa using this
    rw [pts_at (by omega)] at hx
    cases hx
    rw [Nat.zero_add]
    unfold pt
    repeat infer_instance
    unfold l_lid_places_b2
    repeat infer_instance
    have h0 : Ahead X Y i C := by
      rcases hC with ⟨e1, e2⟩ | ⟨k, rest, e1, e2, e3⟩
      · exact .inl ⟨e1, e2⟩
      · refine .inr ⟨k, rest, e2, e3, by omega, fun j h1 h2 => ?_⟩
        have : j = k ∨ j = i := by omega
        unfold below
        rcases this with rfl | rfl
        · grind
        · rw [Int.mul_comm]; grind
    refine ws_while (fun k ρ => ∃ C : List Nat, k = C.length ∧ C.length ≤ i ∧ ρ = [some (pts X Y m), some (.lst (kD C)), some (.int (i : Int)), some (.tup [.int (X i), .int (Y i)])] ∧ Ahead X Y i C) 100 C.length _ (by omega) ⟨C, rfl, hl, rfl, h0⟩ ?_
    rintro k ρ ⟨C, rfl, hl, rfl, hA⟩
    unfold l_lid_places_t3
    have push : ∀ C, C.length ≤ i → Ahead X Y i C → (∀ q p rest, C = q :: p :: rest → bendsD X Y p q i) → (kD C).length < 100000 ∧ SetN [some (pts X Y m), some (.lst (kD C)), some (.int (i : Int)), some (.tup [.int (X i), .int (Y i)])] 1 (some (.lst (kD C ++ [.int (i : Int)])))
        (fun ρ => ∃ C a b, ρ = [some (pts X Y m), some (.lst (kD C)), a, b] ∧ C.length ≤ i + 1 ∧ ((i + 1 = 0 ∧ C = []) ∨ ∃ k rest, i + 1 = k + 1 ∧ C = k :: rest ∧ HullR X Y (k :: rest))) := by
      intro C hl hA hb
      refine ⟨by rw [kD_len]; omega, ?_⟩
      repeat infer_instance
      refine ⟨i :: C, _, _, by rw [kD_cons], by simp; omega, .inr ⟨i, C, rfl, rfl, ?_⟩⟩
      rcases hA with ⟨e1, e2⟩ | ⟨q, rest, rfl, e2, e3, e4⟩
      · subst e1 e2; rfl
      · refine ⟨e3, e4, fun r hr => ?_, e2⟩
        cases rest with
        | nil => simp at hr
        | cons p rest => simp at hr; subst hr; exact hb q p rest rfl
    match C, hl, hA with
    | [], hl, hA =>
      repeat infer_instance
      rw [kD_len]
      refine br_df (by simp) ?_
      repeat infer_instance
      exact push [] hl hA fun q p rest h => by cases h
    | [q], hl, hA =>
      repeat infer_instance
      rw [kD_len]
      refine br_df (by simp) ?_
      repeat infer_instance
      exact push [q] hl hA fun q p rest h => by cases h
    | q :: p :: rest, hl, hA =>
      repeat infer_instance
      rw [kD_len]
      refine br_dt (by simp; omega) ?_
      repeat infer_instance
      refine sm_of kD_2 ?_
      repeat infer_instance
      obtain ⟨q', rest', e1, e2, e3, e4⟩ : ∃ q' rest', q :: p :: rest = q' :: rest' ∧ HullR X Y (q' :: rest') ∧ q' < i ∧ ∀ j, q' ≤ j → j ≤ i → below X Y q' i j := by
        rcases hA with ⟨_, z⟩ | z
        · cases z
        · exact z
      cases e1
      have pq : p < q := e2.1
      refine sm_pt (by omega) ?_
      repeat infer_instance
      refine sm_of kD_1 ?_
      repeat infer_instance
      refine sm_pt (by omega) ?_
      repeat infer_instance
      refine bends_w _ _ _ _ _ _ (hb _ (by omega)) (hb _ (by omega)) (hb _ (by omega)) ?_
      repeat infer_instance
      refine br_d (fun bd => ?_) fun bd => ?_
      · repeat infer_instance
        exact push _ hl hA fun q' p' rest' h => by cases h; exact bd
      · unfold l_lid_places_b3
        repeat infer_instance
        refine sm_of kD_get ?_
        repeat infer_instance
        rw [kD_drop]
        obtain ⟨f1, f2, f3⟩ := hull_pop hX e2 e3 (by omega) e4 bd
        exact ⟨(p :: rest).length, by simp, p :: rest, rfl, by simp at hl ⊢; omega, rfl, .inr ⟨p, rest, rfl, f1, f2, f3⟩⟩
  · rintro ρ ⟨C, a, b, rfl, hl, hC⟩
    have le : (enumD 0 ((List.range (m + 1)).map (pt X Y))).length = m + 1 := by
      rw [enumD_length]; simp
    rw [le] at hl hC
    rcases hC with ⟨e1, _⟩ | ⟨k, rest, e1, e2, e3⟩
    · omega
    · have : k = m := by omega
      subst this
      subst e2
      repeat infer_instance
      exact q rest e3 (by simpa using hl)
end Z.L77
end
set_option Elab.async false
set_option linter.all false
set_option maxRecDepth 100000
noncomputable section
namespace Z.L77
open PySem PySem.Spec L2
local macro_rules | `(tactic| infer_instance) => `(tactic| first
  | with_reducible refine we_var ?_ | with_reducible refine we_con ?_ | with_reducible refine wa_cons ?_ | with_reducible refine wa_nil ?_
  | with_reducible refine we_bin ?_ | with_reducible refine we_un ?_ | with_reducible refine we_prim ?_
  | with_reducible refine sm_I0 ?_ | with_reducible refine sm_IB ?_ | with_reducible refine sm_eq ?_ | with_reducible refine sm_ne ?_ | with_reducible refine sm_not ?_ | with_reducible refine sm_U ?_
  | with_reducible refine sm_one ?_ | with_reducible refine sm_two ?_ | with_reducible refine sm_ixl ?_ | with_reducible refine sm_ixt ?_ | with_reducible refine sm_ixk ?_
  | with_reducible refine sm_II (by first | assumption | exact cNz_r (by omega) | exact cDiv_r (by omega) (by omega) | exact cMul_l (by omega) | exact cMul_r (by omega) | decide) ?_
  | with_reducible refine sm_tup (by first | decide | (simp only [List.length_cons, List.length_nil]; omega)) ?_ | with_reducible refine sm_lst (by first | decide | (simp only [List.length_cons, List.length_nil]; omega)) ?_
  | with_reducible refine sm_lenl ?_ | with_reducible refine sm_lent ?_ | with_reducible refine sm_lenk ?_
  | with_reducible refine sm_fld (by with_unfolding_all exact rfl) ?_ | with_reducible refine sm_atc (by with_unfolding_all exact rfl) ?_
  | with_reducible refine sm_isT (by with_unfolding_all exact rfl) ?_ | with_reducible refine sm_isF (by with_unfolding_all exact rfl) ?_ | with_reducible refine sm_nnT (by with_unfolding_all exact rfl) ?_ | with_reducible refine sm_nnF (by with_unfolding_all exact rfl) ?_
  | with_reducible refine setN_of ?_ | with_reducible refine lk_of ?_
  | with_reducible refine bl_of ?_ | with_reducible refine in_of ?_ | with_reducible refine lst_of ?_ | with_reducible refine tup_of ?_ | with_reducible refine ins_of ?_ | with_reducible refine non_of ?_
  | with_reducible refine is1_of ?_ | with_reducible refine is2_of ?_ | with_reducible refine is3_of ?_ | with_reducible refine two_of ?_
  | with_reducible refine ws_seq ?_ | with_reducible refine ws_set ?_ | with_reducible refine ws_if ?_ | with_reducible refine ws_ret ?_ | with_reducible refine ws_retN ?_ | with_reducible refine ws_skip ?_
  | with_reducible refine ws_brk ?_ | with_reducible refine ws_cnt ?_ | with_reducible refine ws_drop ?_ | with_reducible refine ws_asg ?_ | with_reducible refine ws_app ?_ | with_reducible refine ws_ext ?_ | with_reducible refine ws_setix ?_
  | with_reducible refine ws_fset ?_ | with_reducible refine ws_par ?_ | with_reducible refine ws_aug ?_ | with_reducible refine ws_for ?_ | with_reducible refine ws_try ?_
  | with_reducible refine sm_gtN ?_ | with_reducible refine sm_gtT rfl ?_ | with_reducible refine sm_gtCons ?_ | with_reducible refine sm_gtNil ?_
  | with_reducible refine we_call ?_ | with_reducible refine we_callB ?_ | with_reducible refine we_meth ?_ | with_reducible refine we_make ?_ | with_reducible refine we_callK ?_ | with_reducible refine we_makeK ?_ | with_reducible refine we_makeL ?_
  | with_reducible refine we_fldN ?_ | with_reducible refine we_unN ?_ | with_reducible refine we_binN ?_ | with_reducible refine we_sl ?_ | with_reducible refine we_slN ?_ | with_reducible refine we_mov ?_ | with_reducible refine we_pop ?_
  | with_reducible refine we_if ?_ | with_reducible refine we_and ?_ | with_reducible refine we_or ?_ | with_reducible refine we_chain ?_ | with_reducible refine we_comp ?_
  | with_reducible refine wt_val ?_ | with_reducible refine wt_and ?_ | with_reducible refine wt_or ?_ | with_reducible refine wt_not ?_ | with_reducible refine wt_yes ?_
  | with_reducible refine wo_none ?_ | with_reducible refine wo_part ?_
  | with_reducible refine wa_itL ?_ | with_reducible refine wa_itT ?_ | with_reducible refine wa_seqD ?_ | with_reducible refine wa_r1 ?_ | with_reducible refine wa_r2 ?_ | with_reducible refine wa_r3 ?_
  | with_reducible refine br_t ?_ | with_reducible refine br_f ?_ | with_reducible refine br_n ?_ | with_reducible refine br_dt (by assumption) ?_ | with_reducible refine br_df (by assumption) ?_)
abbrev XX (rs : List Row) (j : Nat) : Int := TT rs (rs.length - j)
abbrev YY (rs : List Row) (j : Nat) : Int := inc rs (rs.length - j)
theorem ptD_eq {rs : List Row} : ptD rs = pt (XX rs) (YY rs) := rfl
theorem XX_lt {rs : List Row} (h : RowsOk rs) : ∀ i j, i < j → j ≤ rs.length → XX rs i < XX rs j := fun i j hij hj => by
  show (tailsL (wsL rs)).getD (rs.length - i) 0 < (tailsL (wsL rs)).getD (rs.length - j) 0
  rw [tailsL_get (by rw [wsL_len]; omega), tailsL_get (by rw [wsL_len]; omega)]
  by_cases e : i = 0
  · subst e
    rw [Nat.sub_zero, List.drop_eq_nil_of_le (by rw [wsL_len]; exact Nat.le_refl _)]
    exact tail_pos (ws_ok h) (by rw [wsL_len]; omega)
  · exact tail_dec (fun w hw => (ws_ok h w hw).1) (by omega) (by rw [wsL_len]; omega)
theorem XX_b {rs : List Row} (h : RowsOk rs) : ∀ j, j ≤ rs.length → 0 ≤ XX rs j ∧ XX rs j ≤ 9999 := fun j hj => by
  have := tl_bound h (show rs.length - j ≤ rs.length by omega)
  exact ⟨this.1, by show (tailsL (wsL rs)).getD (rs.length - j) 0 ≤ _; omega⟩
theorem kD_at {C : List Nat} {i : Nat} (h : i < C.length) : atI (kD C) ((C.length : Int) - 1 - (i : Int)) = some (.int ((C.getD i 0 : Nat) : Int)) := by
  have e : (C.length : Int) - 1 - (i : Int) = ((C.length - 1 - i : Nat) : Int) := by omega
  rw [e]
  refine atI_nat ?_
  rw [List.getElem?_map, List.getElem?_reverse (by omega), show C.length - 1 - (C.length - 1 - i) = i by omega]
  rw [List.getD_eq_getElem?_getD, List.getElem?_eq_getElem h]; rfl
theorem hull_le {X Y : Nat → Int} : ∀ {rest : List Nat} {c : Nat}, HullR X Y (c :: rest) → ∀ i, i < (c :: rest).length → (c :: rest).getD i 0 ≤ c
  | [], c, h, i, hi => by
    have : i = 0 := by simpa using hi
    subst this; exact Nat.le_refl _
  | p :: rest, c, h, 0, hi => Nat.le_refl _
  | p :: rest, c, h, i + 1, hi => by
    have := hull_le h.2.2.2 i (by simpa using hi)
    have := h.1
    show (p :: rest).getD i 0 ≤ c
    omega
theorem hull_dec {X Y : Nat → Int} : ∀ {rest : List Nat} {c : Nat}, HullR X Y (c :: rest) → ∀ i, i + 1 < (c :: rest).length → (c :: rest).getD (i + 1) 0 < (c :: rest).getD i 0
  | [], c, h, i, hi => by simp at hi
  | p :: rest, c, h, 0, hi => h.1
  | p :: rest, c, h, i + 1, hi => hull_dec h.2.2.2 i (by simpa using hi)
/-- the mean of a piece -/
def mn (rs : List Row) (p c : Nat) : D := fracD ((YY rs c - YY rs p) / gcdI (YY rs c - YY rs p) ((XX rs c - XX rs p) * lcmL (dsL rs))) ((XX rs c - XX rs p) * lcmL (dsL rs) / gcdI (YY rs c - YY rs p) ((XX rs c - XX rs p) * lcmL (dsL rs)))
def runE (rs : List Row) (C : List Nat) (i : Nat) : D := .tup [.int ((rs.length : Int) - (C.getD i 0 : Nat)), .int ((rs.length : Int) - (C.getD (i + 1) 0 : Nat)), mn rs (C.getD (i + 1) 0) (C.getD i 0)]
theorem slope_w {Q : D → Prop} {E : Er} (X Y : Nat → Int) (m p c : Nat) (hp : p ≤ m) (hc : c ≤ m) (q : Q (.tup [.int (Y c - Y p), .int (X c - X p)])) : WR (m_slope_parts [pts X Y m, .int (p : Int), .int (c : Int)]) Q E := by
  unfold m_slope_parts
  refine wr_fn (by simp only [List.map_cons, List.map_nil, List.cons_append, List.nil_append, Nat.reduceSub, List.replicate_succ, List.replicate_zero]; rfl) ?_
  unfold b_slope_parts
  repeat infer_instance
  refine sm_pt hc ?_
  repeat infer_instance
  refine sm_pt hp ?_
  repeat infer_instance
  refine sm_pt hc ?_
  repeat infer_instance
  refine sm_pt hp ?_
  repeat infer_instance
  exact q
theorem runs_w {Q : D → Prop} {E : Er} (rs : List Row) (h : RowsOk rs) (q : ∀ rest, HullR (XX rs) (YY rs) (rs.length :: rest) → rest.length ≤ rs.length → Q (.tup ((List.range rest.length).map (runE rs (rs.length :: rest))))) : WR (m_smooth_runs [offD rs]) Q E := by
  have l6 := h.l2
  unfold m_smooth_runs
  refine wr_fn (by simp only [List.map_cons, List.map_nil, List.cons_append, List.nil_append, Nat.reduceSub, List.replicate_succ, List.replicate_zero]; rfl) ?_
  unfold b_smooth_runs
  repeat infer_instance
  refine wb_eq (buyer_ok rs h) ?_
  repeat infer_instance
  refine ⟨_, rfl, ?_⟩
  repeat infer_instance
  refine wr_eq (points_ok rs h) ?_
  repeat infer_instance
  rw [ptD_eq]
  refine lid_w (XX rs) (YY rs) rs.length (by omega) (XX_lt h) (XX_b h) fun rest hC hl => ?_
  repeat infer_instance
  have len : (kD (rs.length :: rest)).length = rest.length + 1 := by rw [kD_len]; rfl
  rw [len]
  refine ⟨⟨by unfold Rng; omega, by unfold Rng; omega⟩, ?_⟩
  rw [show (((rest.length + 1 : Nat) : Int) - 1 - 0).toNat = rest.length by omega, show ((rest.length + 1 : Nat) : Int) - 1 = (rest.length : Int) by omega]
  refine wf_down (fun i ρ => ∃ a b c d e, ρ = [some (offD rs), some (buyD rs), some (pts (XX rs) (YY rs) rs.length), some (.lst (kD (rs.length :: rest))), some (.lst ((List.range i).map (runE rs (rs.length :: rest)))), a, b, c, d, e]) ⟨none, none, none, none, none, rfl⟩ ?_ ?_
  · rintro i ρ hi ⟨a, b, c, d, e, rfl⟩
    repeat infer_instance
    unfold l_smooth_runs_b5
    have a1 : atI (kD (rs.length :: rest)) ((rest.length : Int) - (i : Int) - 1) = some (.int (((rs.length :: rest).getD (i + 1) 0 : Nat) : Int)) := by
      have z := kD_at (C := rs.length :: rest) (i := i + 1) (by simp; omega)
      rw [← z]; congr 1; simp <;> omega
    have a2 : atI (kD (rs.length :: rest)) ((rest.length : Int) - (i : Int)) = some (.int (((rs.length :: rest).getD i 0 : Nat) : Int)) := by
      have z := kD_at (C := rs.length :: rest) (i := i) (by simp; omega)
      rw [← z]; congr 1; simp <;> omega
    have p1 := hull_le hC i (by simp; omega)
    have p2 := hull_le hC (i + 1) (by simp; omega)
    have p3 := hull_dec hC i (by simp; omega)
    have px := XX_lt h _ _ p3 p1
    have pb := XX_b h _ p1
    have pb2 := XX_b h _ p2
    have xb : XX rs ((rs.length :: rest).getD i 0) ≤ 5994 := (tl_bound h (show rs.length - (rs.length :: rest).getD i 0 ≤ rs.length by omega)).2
    generalize e1 : (rs.length :: rest).getD i 0 = cc at *
    generalize e2 : (rs.length :: rest).getD (i + 1) 0 = pp at *
    repeat infer_instance
    refine sm_of a1 ?_
    repeat infer_instance
    refine sm_of a2 ?_
    repeat infer_instance
    refine slope_w (XX rs) (YY rs) rs.length pp cc p2 p1 ?_
    repeat infer_instance
    refine sm_of a2 ?_
    repeat infer_instance
    refine sm_of a1 ?_
    repeat infer_instance
    refine ⟨_, rfl, ?_⟩
    repeat infer_instance
    refine wr_eq (number_ok rs _ _ h (by omega) (by omega)) ?_
    repeat infer_instance
    refine ⟨by simp; omega, ?_⟩
    repeat infer_instance
    have stp : (List.range (i + 1)).map (runE rs (rs.length :: rest)) = (List.range i).map (runE rs (rs.length :: rest)) ++ [.tup [.int (((List.map (pt (XX rs) (YY rs)) (List.range (rs.length + 1))).length : Int) - 1 - (cc : Int)), .int (((List.map (pt (XX rs) (YY rs)) (List.range (rs.length + 1))).length : Int) - 1 - (pp : Int)), mn rs pp cc]] := by
      rw [List.range_succ, List.map_append]
      congr 1
      simp only [List.map_cons, List.map_nil, List.length_map, List.length_range]
      unfold runE
      rw [e1, e2, show ((rs.length + 1 : Nat) : Int) - 1 = (rs.length : Int) by omega]
    unfold mn at stp
    rw [← stp]
    exact ⟨_, _, _, _, _, rfl⟩
  · rintro ρ ⟨a, b, c, d, e, rfl⟩
    repeat infer_instance
    exact ⟨_, rfl, q rest hC hl⟩
end Z.L77
end
set_option Elab.async false
set_option linter.all false
set_option maxRecDepth 100000
noncomputable section
namespace Z.L77
open PySem PySem.Spec L2
local macro_rules | `(tactic| infer_instance) => `(tactic| first
  | with_reducible refine we_var ?_ | with_reducible refine we_con ?_ | with_reducible refine wa_cons ?_ | with_reducible refine wa_nil ?_
  | with_reducible refine we_bin ?_ | with_reducible refine we_un ?_ | with_reducible refine we_prim ?_
  | with_reducible refine sm_I0 ?_ | with_reducible refine sm_IB ?_ | with_reducible refine sm_eq ?_ | with_reducible refine sm_ne ?_ | with_reducible refine sm_not ?_ | with_reducible refine sm_U ?_
  | with_reducible refine sm_one ?_ | with_reducible refine sm_two ?_ | with_reducible refine sm_ixl ?_ | with_reducible refine sm_ixt ?_ | with_reducible refine sm_ixk ?_
  | with_reducible refine sm_II (by first | assumption | exact cNz_r (by omega) | exact cDiv_r (by omega) (by omega) | exact cMul_l (by omega) | exact cMul_r (by omega) | decide) ?_
  | with_reducible refine sm_tup (by first | decide | (simp only [List.length_cons, List.length_nil]; omega)) ?_ | with_reducible refine sm_lst (by first | decide | (simp only [List.length_cons, List.length_nil]; omega)) ?_
  | with_reducible refine sm_lenl ?_ | with_reducible refine sm_lent ?_ | with_reducible refine sm_lenk ?_
  | with_reducible refine sm_fld (by with_unfolding_all exact rfl) ?_ | with_reducible refine sm_atc (by with_unfolding_all exact rfl) ?_
  | with_reducible refine sm_isT (by with_unfolding_all exact rfl) ?_ | with_reducible refine sm_isF (by with_unfolding_all exact rfl) ?_ | with_reducible refine sm_nnT (by with_unfolding_all exact rfl) ?_ | with_reducible refine sm_nnF (by with_unfolding_all exact rfl) ?_
  | with_reducible refine setN_of ?_ | with_reducible refine lk_of ?_
  | with_reducible refine bl_of ?_ | with_reducible refine in_of ?_ | with_reducible refine lst_of ?_ | with_reducible refine tup_of ?_ | with_reducible refine ins_of ?_ | with_reducible refine non_of ?_
  | with_reducible refine is1_of ?_ | with_reducible refine is2_of ?_ | with_reducible refine is3_of ?_ | with_reducible refine two_of ?_
  | with_reducible refine ws_seq ?_ | with_reducible refine ws_set ?_ | with_reducible refine ws_if ?_ | with_reducible refine ws_ret ?_ | with_reducible refine ws_retN ?_ | with_reducible refine ws_skip ?_
  | with_reducible refine ws_brk ?_ | with_reducible refine ws_cnt ?_ | with_reducible refine ws_drop ?_ | with_reducible refine ws_asg ?_ | with_reducible refine ws_app ?_ | with_reducible refine ws_ext ?_ | with_reducible refine ws_setix ?_
  | with_reducible refine ws_fset ?_ | with_reducible refine ws_par ?_ | with_reducible refine ws_aug ?_ | with_reducible refine ws_for ?_ | with_reducible refine ws_try ?_
  | with_reducible refine sm_gtN ?_ | with_reducible refine sm_gtT rfl ?_ | with_reducible refine sm_gtCons ?_ | with_reducible refine sm_gtNil ?_
  | with_reducible refine we_call ?_ | with_reducible refine we_callB ?_ | with_reducible refine we_meth ?_ | with_reducible refine we_make ?_ | with_reducible refine we_callK ?_ | with_reducible refine we_makeK ?_ | with_reducible refine we_makeL ?_
  | with_reducible refine we_fldN ?_ | with_reducible refine we_unN ?_ | with_reducible refine we_binN ?_ | with_reducible refine we_sl ?_ | with_reducible refine we_slN ?_ | with_reducible refine we_mov ?_ | with_reducible refine we_pop ?_
  | with_reducible refine we_if ?_ | with_reducible refine we_and ?_ | with_reducible refine we_or ?_ | with_reducible refine we_chain ?_ | with_reducible refine we_comp ?_
  | with_reducible refine wt_val ?_ | with_reducible refine wt_and ?_ | with_reducible refine wt_or ?_ | with_reducible refine wt_not ?_ | with_reducible refine wt_yes ?_
  | with_reducible refine wo_none ?_ | with_reducible refine wo_part ?_
  | with_reducible refine wa_itL ?_ | with_reducible refine wa_itT ?_ | with_reducible refine wa_seqD ?_ | with_reducible refine wa_r1 ?_ | with_reducible refine wa_r2 ?_ | with_reducible refine wa_r3 ?_
  | with_reducible refine br_t ?_ | with_reducible refine br_f ?_ | with_reducible refine br_n ?_ | with_reducible refine br_dt (by assumption) ?_ | with_reducible refine br_df (by assumption) ?_)
/-- the number of the prize k -/
def numE (rs : List Row) (C : List Nat) (k : Nat) : D := mn rs (blk C (rs.length - k)).1 (blk C (rs.length - k)).2
theorem blk_at {X Y : Nat → Int} : ∀ {rest : List Nat} {c : Nat}, HullR X Y (c :: rest) → ∀ i, i + 1 < (c :: rest).length → ∀ j, (c :: rest).getD (i + 1) 0 < j → j ≤ (c :: rest).getD i 0 → blk (c :: rest) j = ((c :: rest).getD (i + 1) 0, (c :: rest).getD i 0)
  | [], c, h, i, hi, j, h1, h2 => by simp at hi
  | p :: rest, c, h, 0, hi, j, h1, h2 => blk_hi h1
  | p :: rest, c, h, i + 1, hi, j, h1, h2 => by
    have h1' : (p :: rest).getD (i + 1) 0 < j := h1
    have h2' : j ≤ (p :: rest).getD i 0 := h2
    have := hull_le h.2.2.2 i (by simp at hi ⊢; omega)
    rw [blk_lo (by omega), blk_at h.2.2.2 i (by simpa using hi) j h1' h2']
    rfl
theorem hull_last {X Y : Nat → Int} : ∀ {rest : List Nat} {c : Nat}, HullR X Y (c :: rest) → (c :: rest).getD rest.length 0 = 0
  | [], c, h => by simp only [HullR] at h; subst h; rfl
  | p :: rest, c, h => by
    have z := hull_last h.2.2.2
    exact z
theorem range_cat {α : Type} {f : Nat → α} {x : α} {a b : Nat} (hab : a ≤ b) (h : ∀ k, a ≤ k → k < b → f k = x) : (List.range a).map f ++ (List.range (b - a)).map (fun _ => x) = (List.range b).map f := by
  rw [show b = a + (b - a) by omega, List.range_add, List.map_append, show a + (b - a) - a = b - a by omega]
  congr 1
  rw [List.map_map]
  refine List.map_congr_left fun k hk => ?_
  have := List.mem_range.mp hk
  show x = f (a + k)
  rw [h _ (by omega) (by omega)]
theorem numbers_w {Q : D → Prop} {E : Er} (rs : List Row) (h : RowsOk rs) (q : ∀ rest, HullR (XX rs) (YY rs) (rs.length :: rest) → rest.length ≤ rs.length → Q (.tup ((List.range rs.length).map (numE rs (rs.length :: rest))))) : WR (m_smooth_numbers [offD rs]) Q E := by
  have l6 := h.l2
  unfold m_smooth_numbers
  refine wr_fn (by simp only [List.map_cons, List.map_nil, List.cons_append, List.nil_append, Nat.reduceSub, List.replicate_succ, List.replicate_zero]; rfl) ?_
  unfold b_smooth_numbers
  repeat infer_instance
  refine runs_w rs h fun rest hC hl => ?_
  repeat infer_instance
  refine wf_map (fun i ρ => ∃ a b c d, ρ = [some (offD rs), some (.lst ((List.range (rs.length - (rs.length :: rest).getD i 0)).map (numE rs (rs.length :: rest)))), a, b, c, d]) ⟨none, none, none, none, by simp⟩ ?_ ?_
  · rintro i a ρ hi ⟨x1, x2, x3, x4, rfl⟩
    have hil : i < rest.length := by simpa using (List.getElem?_eq_some_iff.mp hi).1
    have : a = i := by
      rw [List.getElem?_range hil] at hi; simpa using hi.symm
    subst this
    unfold runE
    have p1 := hull_le hC a (by simp; omega)
    have p2 := hull_le hC (a + 1) (by simp; omega)
    have p3 := hull_dec hC a (by simp; omega)
    have pb := blk_at hC a (by simp; omega)
    generalize e1 : (rs.length :: rest).getD a 0 = cc at *
    generalize e2 : (rs.length :: rest).getD (a + 1) 0 = pp at *
    repeat infer_instance
    unfold l_smooth_numbers_b2
    repeat infer_instance
    refine ⟨⟨by unfold Rng; omega, by unfold Rng; omega⟩, ?_⟩
    refine ⟨by rw [intsFrom_length]; omega, ?_⟩
    refine wc_rng (fun _ => mn rs pp cc) (fun k hk => ?_) ?_
    · repeat infer_instance
      exact ⟨rfl, rfl⟩
    · repeat infer_instance
      refine ⟨by simp; omega, ?_⟩
      repeat infer_instance
      rw [show ((rs.length : Int) - (pp : Int) - ((rs.length : Int) - (cc : Int))).toNat = (rs.length - pp) - (rs.length - cc) by omega]
      rw [range_cat (by omega) fun k k1 k2 => by unfold numE; rw [pb (rs.length - k) (by omega) (by omega)]]
      exact ⟨_, _, _, _, rfl⟩
  · rintro ρ ⟨a, b, c, d, rfl⟩
    rw [List.length_range, hull_last hC, Nat.sub_zero]
    repeat infer_instance
    exact ⟨_, rfl, q rest hC hl⟩
end Z.L77
end
set_option Elab.async false
set_option linter.all false
set_option maxRecDepth 100000
noncomputable section
namespace Z.L77
open PySem PySem.Spec L2
/-! ### the lid by least and greatest slopes, in plain words -/
section
variable {X Y : Nat → Int} {m : Nat}
/-- fractions: a/b ≤ c/d -/
theorem fr_trans {a b c d e f : Int} (hd : 0 < d) (hb : 0 < b) (hf : 0 < f) (h1 : a * d ≤ c * b) (h2 : c * f ≤ e * d) : a * f ≤ e * b := by
  have e1 : a * d * f ≤ c * b * f := Int.mul_le_mul_of_nonneg_right h1 (by omega)
  have e2 : c * f * b ≤ e * d * b := Int.mul_le_mul_of_nonneg_right h2 (by omega)
  have e3 : a * f * d ≤ e * b * d := by grind
  exact Int.le_of_mul_le_mul_right e3 hd
/-- the line through a piece is above all points, and no piece rises less than the first one -/
theorem line_all (hX : ∀ i j, i < j → j ≤ m → X i < X j) : ∀ {rest : List Nat} {c : Nat}, HullR X Y (c :: rest) → c ≤ m → ∀ j, 1 ≤ j → j ≤ c →
    (∀ i, i ≤ c → below X Y (blk (c :: rest) j).1 (blk (c :: rest) j).2 i) ∧
    (Y (blk (c :: rest) c).2 - Y (blk (c :: rest) c).1) * (X (blk (c :: rest) j).2 - X (blk (c :: rest) j).1) ≤ (Y (blk (c :: rest) j).2 - Y (blk (c :: rest) j).1) * (X (blk (c :: rest) c).2 - X (blk (c :: rest) c).1)
  | [], c, h, hm, j, h1, h2 => by
    simp only [HullR] at h; omega
  | p :: rest, c, h, hm, j, h1, h2 => by
    obtain ⟨a1, a2, a3, a4⟩ := h
    have xc := hX p c a1 hm
    have ec : blk (c :: p :: rest) c = (p, c) := blk_hi a1
    rw [ec]
    by_cases z : p < j
    · rw [blk_hi z]
      refine ⟨fun i hi => ?_, Int.le_refl _⟩
      by_cases zi : p ≤ i
      · exact a2 i zi hi
      · cases rest with
        | nil => simp only [HullR] at a4; omega
        | cons r rest =>
          have t := (line_all hX a4 (by omega) p (by have := a4.1; omega) (Nat.le_refl _)).1 i (by omega)
          have er : blk (p :: r :: rest) p = (r, p) := blk_hi a4.1
          rw [er] at t
          have bd := a3 r rfl
          unfold bendsD at bd
          unfold below at t ⊢
          have xr := hX r p a4.1 (by omega)
          have xi := hX i p (by omega) (by omega)
          show (Y i - Y p) * (X c - X p) ≤ (Y c - Y p) * (X i - X p)
          have t : (Y i - Y r) * (X p - X r) ≤ (Y p - Y r) * (X i - X r) := t
          have e1 : ((Y i - Y p) * (X p - X r)) * (X c - X p) ≤ ((Y p - Y r) * (X i - X p)) * (X c - X p) := Int.mul_le_mul_of_nonneg_right (by grind) (by omega)
          have e2 : ((Y c - Y p) * (X p - X r)) * (X p - X i) ≤ ((Y p - Y r) * (X c - X p)) * (X p - X i) := Int.mul_le_mul_of_nonneg_right (Int.le_of_lt bd) (by omega)
          have e3 : ((Y i - Y p) * (X c - X p)) * (X p - X r) ≤ ((Y c - Y p) * (X i - X p)) * (X p - X r) := by grind
          exact Int.le_of_mul_le_mul_right e3 (by omega)
    · have ej : blk (c :: p :: rest) j = blk (p :: rest) j := blk_lo (by omega)
      rw [ej]
      obtain ⟨t1, t2⟩ := line_all hX a4 (by omega) j h1 (by omega)
      obtain ⟨b1, b2, b3, _⟩ := blk_in a4 h1 (show j ≤ p by omega)
      cases rest with
      | nil => simp only [HullR] at a4; omega
      | cons r rest =>
        have er : blk (p :: r :: rest) p = (r, p) := blk_hi a4.1
        rw [er] at t2
        have bd := a3 r rfl
        unfold bendsD at bd
        have xr := hX r p a4.1 (by omega)
        generalize blk (p :: r :: rest) j = q at *
        obtain ⟨u, v⟩ := q
        dsimp only at *
        have xv := hX u v (by omega) (by omega)
        -- the piece's slope is at least that of p, c
        have s1 : (Y c - Y p) * (X v - X u) ≤ (Y v - Y u) * (X c - X p) := fr_trans (c := Y p - Y r) (d := X p - X r) (by omega) (by omega) (by omega) (Int.le_of_lt bd) t2
        refine ⟨fun i hi => ?_, s1⟩
        by_cases zi : i ≤ p
        · exact t1 i zi
        · have tp := t1 p (Nat.le_refl _)
          have ti := a2 i (by omega) hi
          unfold below at tp ti ⊢
          have xi := hX p i (by omega) (by omega)
          have k := fr_trans (c := Y c - Y p) (d := X c - X p) (by omega) (show 0 < X i - X p by omega) (by omega) ti s1
          grind
/-- what least and greatest slopes give -/
theorem minmax {rest : List Nat} (hX : ∀ i j, i < j → j ≤ m → X i < X j) (h : HullR X Y (m :: rest)) {j : Nat} (h1 : 1 ≤ j) (h2 : j ≤ m) {a b : Int} (hb : 0 < b)
    (lo : ∃ l, l < j ∧ ∀ u, j ≤ u → u ≤ m → (Y u - Y l) * b ≤ a * (X u - X l)) (all : ∀ l, l < j → ∃ u, j ≤ u ∧ u ≤ m ∧ a * (X u - X l) ≤ (Y u - Y l) * b) :
    a * (X (blk (m :: rest) j).2 - X (blk (m :: rest) j).1) = (Y (blk (m :: rest) j).2 - Y (blk (m :: rest) j).1) * b := by
  obtain ⟨t1, _⟩ := line_all hX h (Nat.le_refl _) j h1 h2
  obtain ⟨b1, b2, b3, _⟩ := blk_in h h1 h2
  generalize blk (m :: rest) j = q at *
  obtain ⟨p, c⟩ := q
  dsimp only at *
  have xc := hX p c (by omega) b3
  refine Int.le_antisymm ?_ ?_
  · obtain ⟨u, u1, u2, u3⟩ := all p (by omega)
    have xu := hX p u (by omega) u2
    have t := t1 u u2
    unfold below at t
    exact fr_trans (c := Y u - Y p) (d := X u - X p) (by omega) hb (by omega) u3 t
  · obtain ⟨l, l1, l2⟩ := lo
    have z := l2 c b2 b3
    have xl := hX l c (by omega) b3
    have t := t1 l (by omega)
    unfold below at t
    -- the line is above l: seen from c
    have t' : (Y c - Y p) * (X c - X l) ≤ (Y c - Y l) * (X c - X p) := by grind
    exact fr_trans (c := Y c - Y l) (d := X c - X l) (by omega) (by omega) hb t' z
/-- if the slopes of neighbours fall weakly, each is its piece's -/
theorem rise_eq {rest : List Nat} (hX : ∀ i j, i < j → j ≤ m → X i < X j) (h : HullR X Y (m :: rest)) (hr : ∀ j, 1 ≤ j → j + 1 ≤ m → (Y (j + 1) - Y j) * (X j - X (j - 1)) ≤ (Y j - Y (j - 1)) * (X (j + 1) - X j)) {j : Nat} (h1 : 1 ≤ j) (h2 : j ≤ m) :
    (Y j - Y (j - 1)) * (X (blk (m :: rest) j).2 - X (blk (m :: rest) j).1) = (Y (blk (m :: rest) j).2 - Y (blk (m :: rest) j).1) * (X j - X (j - 1)) := by
  obtain ⟨t1, _⟩ := line_all hX h (Nat.le_refl _) j h1 h2
  obtain ⟨b1, b2, b3, _⟩ := blk_in h h1 h2
  generalize blk (m :: rest) j = q at *
  obtain ⟨p, c⟩ := q
  dsimp only at *
  have xc := hX p c (by omega) b3
  have xj := hX (j - 1) j (by omega) h2
  -- earlier slopes are not less
  have back : ∀ d, d ≤ j - 1 → (Y j - Y (j - 1)) * (X (j - d) - X (j - d - 1)) ≤ (Y (j - d) - Y (j - d - 1)) * (X j - X (j - 1)) := by
    intro d
    induction d with
    | zero => intro _; rw [Nat.sub_zero]; exact Int.le_refl _
    | succ d ih =>
      intro hd
      have z := hr (j - d - 1) (by omega) (by omega)
      rw [show j - d - 1 + 1 = j - d by omega] at z
      have x1 := hX (j - d - 1) (j - d) (by omega) (by omega)
      have x2 := hX (j - d - 1 - 1) (j - d - 1) (by omega) (by omega)
      have k := fr_trans (c := Y (j - d) - Y (j - d - 1)) (d := X (j - d) - X (j - d - 1)) (by omega) (by omega) (by omega) (ih (by omega)) z
      rw [show j - (d + 1) = j - d - 1 by omega]
      exact k
  have forw : ∀ d, j + d ≤ m → (Y (j + d) - Y (j + d - 1)) * (X j - X (j - 1)) ≤ (Y j - Y (j - 1)) * (X (j + d) - X (j + d - 1)) := by
    intro d
    induction d with
    | zero => intro _; exact Int.le_refl _
    | succ d ih =>
      intro hd
      have z := hr (j + d) (by omega) (by omega)
      have x1 := hX (j + d - 1) (j + d) (by omega) (by omega)
      have x2 := hX (j + d) (j + d + 1) (by omega) (by omega)
      have k := fr_trans (c := Y (j + d) - Y (j + d - 1)) (d := X (j + d) - X (j + d - 1)) (by omega) (by omega) (by omega) z (ih (by omega))
      rw [show j + (d + 1) - 1 = j + d by omega, show j + (d + 1) = j + d + 1 by omega]
      exact k
  -- sums of them
  have sb : ∀ d, d ≤ j → (Y j - Y (j - 1)) * (X j - X (j - d)) ≤ (Y j - Y (j - d)) * (X j - X (j - 1)) := by
    intro d
    induction d with
    | zero => intro _; simp
    | succ d ih =>
      intro hd
      have a := ih (by omega)
      have b := back d (by omega)
      rw [show j - (d + 1) = j - d - 1 by omega]
      grind
  have sf : ∀ d, j + d ≤ m → (Y (j + d) - Y (j - 1)) * (X j - X (j - 1)) ≤ (Y j - Y (j - 1)) * (X (j + d) - X (j - 1)) := by
    intro d
    induction d with
    | zero => intro _; exact Int.le_refl _
    | succ d ih =>
      intro hd
      have a := ih (by omega)
      have b := forw (d + 1) hd
      rw [show j + (d + 1) - 1 = j + d by omega] at b
      grind
  refine Int.le_antisymm ?_ ?_
  · -- from p to j
    have z := sb (j - p) (by omega)
    rw [show j - (j - p) = p by omega] at z
    have t := t1 j h2
    unfold below at t
    have xp := hX p j (by omega) h2
    exact fr_trans (c := Y j - Y p) (d := X j - X p) (by omega) (by omega) (by omega) z t
  · have z := sf (c - j) (by omega)
    rw [show j + (c - j) = c by omega] at z
    have t := t1 (j - 1) (by omega)
    unfold below at t
    have xp := hX (j - 1) c (by omega) b3
    have t' : (Y c - Y p) * (X c - X (j - 1)) ≤ (Y c - Y (j - 1)) * (X c - X p) := by grind
    exact fr_trans (c := Y c - Y (j - 1)) (d := X c - X (j - 1)) (by omega) (by omega) (by omega) t' z
/-- pieces' slopes fall -/
theorem slopes_fall (hX : ∀ i j, i < j → j ≤ m → X i < X j) : ∀ {rest : List Nat} {c : Nat}, HullR X Y (c :: rest) → c ≤ m → ∀ j j', 1 ≤ j → j ≤ j' → j' ≤ c →
    (Y (blk (c :: rest) j').2 - Y (blk (c :: rest) j').1) * (X (blk (c :: rest) j).2 - X (blk (c :: rest) j).1) ≤ (Y (blk (c :: rest) j).2 - Y (blk (c :: rest) j).1) * (X (blk (c :: rest) j').2 - X (blk (c :: rest) j').1)
  | [], c, h, hm, j, j', h1, h2, h3 => by
    simp only [HullR] at h; omega
  | p :: rest, c, h, hm, j, j', h1, h2, h3 => by
    by_cases z : p < j'
    · have t := (line_all hX h hm j h1 (by omega)).2
      have e : blk (c :: p :: rest) j' = blk (c :: p :: rest) c := by rw [blk_hi z, blk_hi h.1]
      rw [e]; exact t
    · rw [blk_lo (j := j) (by omega), blk_lo (j := j') (by omega)]
      exact slopes_fall hX h.2.2.2 (by have := h.1; omega) j j' h1 h2 (by omega)
/-- equal fractions have equal lowest terms -/
theorem low_eq {a b c d : Int} (hb : 0 < b) (hd : 0 < d) (h : a * d = c * b) : a / gcdI a b = c / gcdI c d ∧ b / gcdI a b = d / gcdI c d := by
  have g1 := gcdI_pos (a := a) hb
  have g2 := gcdI_pos (a := c) hd
  have l1 := gcdI_lowest (a := a) hb
  have l2 := gcdI_lowest (a := c) hd
  have e1 := Int.ediv_mul_cancel (gcdI_dvd_l a b)
  have e2 := Int.ediv_mul_cancel (gcdI_dvd_r a b)
  have e3 := Int.ediv_mul_cancel (gcdI_dvd_l c d)
  have e4 := Int.ediv_mul_cancel (gcdI_dvd_r c d)
  have p2 : 0 < b / gcdI a b := Int.ediv_pos_of_pos_of_dvd hb (Int.le_of_lt g1) (gcdI_dvd_r a b)
  have p4 : 0 < d / gcdI c d := Int.ediv_pos_of_pos_of_dvd hd (Int.le_of_lt g2) (gcdI_dvd_r c d)
  generalize a / gcdI a b = x at *
  generalize b / gcdI a b = y at *
  generalize c / gcdI c d = u at *
  generalize d / gcdI c d = v at *
  generalize gcdI a b = g at *
  generalize gcdI c d = k at *
  have hc : x * v = u * y := by
    have : (x * v) * (g * k) = (u * y) * (g * k) := by
      rw [← e1, ← e2, ← e3, ← e4] at h
      grind
    exact Int.eq_of_mul_eq_mul_right (by have := Int.mul_pos g1 g2; omega) this
  rw [gcdI_def] at l1 l2
  have c1 : Nat.Coprime x.natAbs y.natAbs := by unfold Nat.Coprime; omega
  have c2 : Nat.Coprime u.natAbs v.natAbs := by unfold Nat.Coprime; omega
  have hn : x.natAbs * v.natAbs = u.natAbs * y.natAbs := by rw [← Int.natAbs_mul, ← Int.natAbs_mul, hc]
  have d1 : y.natAbs ∣ v.natAbs := c1.symm.dvd_of_dvd_mul_left (by rw [hn]; exact Nat.dvd_mul_left _ _)
  have d2 : v.natAbs ∣ y.natAbs := c2.symm.dvd_of_dvd_mul_left (by rw [← hn]; exact Nat.dvd_mul_left _ _)
  have ey := Nat.dvd_antisymm d1 d2
  have ev : y = v := by omega
  refine ⟨?_, ev⟩
  subst ev
  exact Int.eq_of_mul_eq_mul_right (by omega) hc
end
end Z.L77
end
set_option Elab.async false
set_option linter.all false
set_option maxRecDepth 100000
noncomputable section
namespace Z.L77
open PySem PySem.Spec L2
set_option maxHeartbeats 4000000
local macro_rules | `(tactic| infer_instance) => `(tactic| first
  | with_reducible refine we_var ?_ | with_reducible refine we_con ?_ | with_reducible refine wa_cons ?_ | with_reducible refine wa_nil ?_
  | with_reducible refine we_bin ?_ | with_reducible refine we_un ?_ | with_reducible refine we_prim ?_
  | with_reducible refine sm_I0 ?_ | with_reducible refine sm_IB ?_ | with_reducible refine sm_eq ?_ | with_reducible refine sm_ne ?_ | with_reducible refine sm_not ?_ | with_reducible refine sm_U ?_
  | with_reducible refine sm_one ?_ | with_reducible refine sm_two ?_ | with_reducible refine sm_ixl ?_ | with_reducible refine sm_ixt ?_ | with_reducible refine sm_ixk ?_
  | with_reducible refine sm_II (by first | assumption | exact cNz_r (by omega) | exact cDiv_r (by omega) (by omega) | exact cMul_l (by omega) | exact cMul_r (by omega) | decide) ?_
  | with_reducible refine sm_tup (by first | decide | (simp only [List.length_cons, List.length_nil]; omega)) ?_ | with_reducible refine sm_lst (by first | decide | (simp only [List.length_cons, List.length_nil]; omega)) ?_
  | with_reducible refine sm_lenl ?_ | with_reducible refine sm_lent ?_ | with_reducible refine sm_lenk ?_
  | with_reducible refine sm_fld (by with_unfolding_all exact rfl) ?_ | with_reducible refine sm_atc (by with_unfolding_all exact rfl) ?_
  | with_reducible refine sm_isT (by with_unfolding_all exact rfl) ?_ | with_reducible refine sm_isF (by with_unfolding_all exact rfl) ?_ | with_reducible refine sm_nnT (by with_unfolding_all exact rfl) ?_ | with_reducible refine sm_nnF (by with_unfolding_all exact rfl) ?_
  | with_reducible refine setN_of ?_ | with_reducible refine lk_of ?_
  | with_reducible refine bl_of ?_ | with_reducible refine in_of ?_ | with_reducible refine lst_of ?_ | with_reducible refine tup_of ?_ | with_reducible refine ins_of ?_ | with_reducible refine non_of ?_
  | with_reducible refine is1_of ?_ | with_reducible refine is2_of ?_ | with_reducible refine is3_of ?_ | with_reducible refine two_of ?_
  | with_reducible refine ws_seq ?_ | with_reducible refine ws_set ?_ | with_reducible refine ws_if ?_ | with_reducible refine ws_ret ?_ | with_reducible refine ws_retN ?_ | with_reducible refine ws_skip ?_
  | with_reducible refine ws_brk ?_ | with_reducible refine ws_cnt ?_ | with_reducible refine ws_drop ?_ | with_reducible refine ws_asg ?_ | with_reducible refine ws_app ?_ | with_reducible refine ws_ext ?_ | with_reducible refine ws_setix ?_
  | with_reducible refine ws_fset ?_ | with_reducible refine ws_par ?_ | with_reducible refine ws_aug ?_ | with_reducible refine ws_for ?_ | with_reducible refine ws_try ?_
  | with_reducible refine sm_gtN ?_ | with_reducible refine sm_gtT rfl ?_ | with_reducible refine sm_gtCons ?_ | with_reducible refine sm_gtNil ?_
  | with_reducible refine we_call ?_ | with_reducible refine we_callB ?_ | with_reducible refine we_meth ?_ | with_reducible refine we_make ?_ | with_reducible refine we_callK ?_ | with_reducible refine we_makeK ?_ | with_reducible refine we_makeL ?_
  | with_reducible refine we_fldN ?_ | with_reducible refine we_unN ?_ | with_reducible refine we_binN ?_ | with_reducible refine we_sl ?_ | with_reducible refine we_slN ?_ | with_reducible refine we_mov ?_ | with_reducible refine we_pop ?_
  | with_reducible refine we_if ?_ | with_reducible refine we_and ?_ | with_reducible refine we_or ?_ | with_reducible refine we_chain ?_ | with_reducible refine we_comp ?_
  | with_reducible refine wt_val ?_ | with_reducible refine wt_and ?_ | with_reducible refine wt_or ?_ | with_reducible refine wt_not ?_ | with_reducible refine wt_yes ?_
  | with_reducible refine wo_none ?_ | with_reducible refine wo_part ?_
  | with_reducible refine wa_itL ?_ | with_reducible refine wa_itT ?_ | with_reducible refine wa_seqD ?_ | with_reducible refine wa_r1 ?_ | with_reducible refine wa_r2 ?_ | with_reducible refine wa_r3 ?_
  | with_reducible refine br_t ?_ | with_reducible refine br_f ?_ | with_reducible refine br_n ?_ | with_reducible refine br_dt (by assumption) ?_ | with_reducible refine br_df (by assumption) ?_)
theorem rg_at {n k : Nat} (h : k < n) : (List.range n)[k]? = some k := List.getElem?_range h
theorem ltails_w {Q : D → Prop} {E : Er} (rs : List Row) (h : RowsOk rs) (q : Q (.lst ((List.range (rs.length + 1)).map fun k => .int (TT rs k)))) : WR (m__law_tails [rowsD rs]) Q E := by
  have l6 := h.l2
  unfold m__law_tails rowsD
  refine wr_fn (by simp only [List.map_cons, List.map_nil, List.cons_append, List.nil_append, Nat.reduceSub, List.replicate_succ, List.replicate_zero]; rfl) ?_
  unfold b__law_tails
  repeat infer_instance
  rw [List.length_map]
  refine ⟨by unfold Rng; omega, ?_⟩
  rw [show ((rs.length : Int) + 1).toNat = rs.length + 1 by omega]
  refine ⟨by rw [intsFrom_length]; omega, ?_⟩
  refine wc_rng (fun k => .int (TT rs k)) (fun k hk => ?_) ?_
  · rw [Int.zero_add]
    repeat infer_instance
    unfold l__law_tails_e1_11
    repeat infer_instance
    refine sm_of rfl ?_
    rw [cut_drop (by simp; omega), ← List.map_drop]
    repeat infer_instance
    refine ⟨by simp; omega, ?_⟩
    refine wc_map (fun r => .int r.1) (fun r hr => ?_) ?_
    · unfold rowD
      repeat infer_instance
      unfold l__law_tails_e1_16
      repeat infer_instance
      exact ⟨rfl, rfl⟩
    repeat infer_instance
    refine sm_sum ?_
    refine ⟨?_, rfl⟩
    show D.int _ = D.int ((tailsL (wsL rs)).getD k 0)
    rw [tailsL_get (by rw [wsL_len]; omega)]
    unfold wsL
    rw [List.map_drop]
  exact q
structure MaxU (rs : List Row) (low i : Nat) (a b : Int) : Prop where
  b0 : 0 < b
  b1 : b ≤ 5994
  at1 : ∃ u, u < i ∧ a = inc rs u - inc rs low ∧ b = TT rs u - TT rs low
  all : ∀ v, v < i → (inc rs v - inc rs low) * b ≤ a * (TT rs v - TT rs low)
structure MinL (rs : List Row) (k i : Nat) (a b : Int) : Prop where
  b0 : 0 < b
  b1 : b ≤ 5994
  at1 : ∃ low, k + 1 ≤ low ∧ low < k + 1 + i ∧ ∀ u, u ≤ k → (inc rs u - inc rs low) * b ≤ a * (TT rs u - TT rs low)
  all : ∀ low, k + 1 ≤ low → low < k + 1 + i → ∃ u, u ≤ k ∧ a * (TT rs u - TT rs low) ≤ (inc rs u - inc rs low) * b
def encL (L : Int) (p : Int × Int) : D := .tup [.int p.1, .int (p.2 * L)]
theorem TT_lt {rs : List Row} (h : RowsOk rs) {u l : Nat} (hul : u < l) (hl : l ≤ rs.length) : TT rs l < TT rs u := by
  have z := XX_lt h (rs.length - l) (rs.length - u) (by omega) (by omega)
  unfold XX at z
  rwa [show rs.length - (rs.length - l) = l by omega, show rs.length - (rs.length - u) = u by omega] at z
theorem TT_b {rs : List Row} (h : RowsOk rs) {k : Nat} (hk : k ≤ rs.length) : 0 ≤ TT rs k ∧ TT rs k ≤ 5994 := tl_bound h hk
theorem dsD_eq {rs : List Row} : rs.map (fun r => D.int r.2.2) = (dsL rs).map D.int := by unfold dsL; rw [List.map_map]; rfl
theorem llid_w {Q : D → Prop} {E : Er} (rs : List Row) (h : RowsOk rs) (q : ∀ ab : List (Int × Int), ab.length = rs.length → (∀ k p, ab[k]? = some p → MinL rs k (rs.length - k) p.1 p.2) → Q (.lst (ab.map (encL (lcmL (dsL rs)))))) : WR (m__law_lid [rowsD rs]) Q E := by
  have l6 := h.l2
  have lb := lcmL_bound (ds_ok h) (by rw [dsL_len]; exact h.l2)
  unfold m__law_lid rowsD
  refine wr_fn (by simp only [List.map_cons, List.map_nil, List.cons_append, List.nil_append, Nat.reduceSub, List.replicate_succ, List.replicate_zero]; rfl) ?_
  unfold b__law_lid
  repeat infer_instance
  refine ⟨by simp; omega, ?_⟩
  refine wc_map (fun r => .int r.2.2) (fun r hr => ?_) ?_
  · unfold rowD
    repeat infer_instance
    unfold l__law_lid_e1_24
    repeat infer_instance
    exact ⟨rfl, rfl⟩
  repeat infer_instance
  rw [dsD_eq]
  refine wr_eq (common_ok (dsL rs) (ds_ok h) (by rw [dsL_len]; omega)) ?_
  repeat infer_instance
  refine wr_eq (lworths_ok rs _ h) ?_
  repeat infer_instance
  refine ltails_w rs h ?_
  repeat infer_instance
  rw [List.length_map]
  refine ⟨by unfold Rng; omega, ?_⟩
  rw [Int.toNat_natCast]
  refine ⟨by rw [intsFrom_length]; omega, ?_⟩
  refine wc_rng (fun k => .int (inc rs k)) (fun k hk => ?_) ?_
  · have t := TT_b h (show k ≤ rs.length by omega)
    have w : atI ((worthsL rs (lcmL (dsL rs))).map D.int) (k : Int) = some (.int ((worthsL rs (lcmL (dsL rs))).getD k 0)) := atI_map (by rw [worthsL_len]; exact hk)
    rw [Int.zero_add]
    repeat infer_instance
    unfold l__law_lid_e4_12
    repeat infer_instance
    refine sm_of w ?_
    repeat infer_instance
    refine sm_at (rg_at (by omega)) ?_
    repeat infer_instance
    exact ⟨rfl, rfl⟩
  repeat infer_instance
  refine sm_of (if_pos (by simp; omega)) ?_
  have eg : (List.range rs.length).map (fun k => D.int (inc rs k)) ++ [.int 0] = (List.range (rs.length + 1)).map fun k => D.int (inc rs k) := by
    rw [List.range_succ, List.map_append]
    show _ = _ ++ [D.int (inc rs rs.length)]
    rw [inc_n]
  rw [eg]
  repeat infer_instance
  rw [List.length_map]
  refine ⟨by unfold Rng; omega, ?_⟩
  rw [Int.toNat_natCast]
  refine wf_rng (fun i ρ => ∃ (ab : List (Int × Int)) (x6 x7 x8 x9 x10 x11 : Option D), ρ = [some (.lst (rs.map rowD)), some (.int (lcmL (dsL rs))), some (.lst ((worthsL rs (lcmL (dsL rs))).map D.int)), some (.lst ((List.range (rs.length + 1)).map fun k => .int (TT rs k))), some (.lst ((List.range (rs.length + 1)).map fun k => .int (inc rs k))),
      some (.lst (ab.map (encL (lcmL (dsL rs))))), x6, x7, x8, x9, x10, x11, none] ∧ ab.length = i ∧ ∀ k p, ab[k]? = some p → MinL rs k (rs.length - k) p.1 p.2) ⟨[], none, none, none, none, none, none, rfl, rfl, fun k p hp => by simp at hp⟩ ?_ ?_
  · rintro k ρ hk ⟨ab, x6, x7, x8, x9, x10, x11, rfl, hl, hab⟩
    rw [Int.zero_add]
    repeat infer_instance
    unfold l__law_lid_b6
    repeat infer_instance
    rw [List.length_map]
    refine ⟨⟨by unfold Rng; omega, by unfold Rng; omega⟩, ?_⟩
    rw [show ((rs.length : Int) + 1 - ((k : Int) + 1)).toNat = rs.length - k by omega]
    refine wf_rng (fun i ρ => ∃ (le : D) (x8 x9 x10 x11 : Option D), ρ = [some (.lst (rs.map rowD)), some (.int (lcmL (dsL rs))), some (.lst ((worthsL rs (lcmL (dsL rs))).map D.int)), some (.lst ((List.range (rs.length + 1)).map fun k => .int (TT rs k))), some (.lst ((List.range (rs.length + 1)).map fun k => .int (inc rs k))),
      some (.lst (ab.map (encL (lcmL (dsL rs))))), some (.int (k : Int)), some le, x8, x9, x10, x11, none] ∧ ((i = 0 ∧ le = .non) ∨ ∃ a b, le = .tup [.int a, .int b] ∧ MinL rs k i a b)) ⟨_, _, _, _, _, rfl, .inl ⟨rfl, rfl⟩⟩ ?_ ?_
    · rintro i ρ hi ⟨le, x8, x9, x10, x11, rfl, hle⟩
      rw [show (k : Int) + 1 + (i : Int) = ((k + 1 + i : Nat) : Int) by omega]
      generalize hlow : k + 1 + i = low
      have lowle : low ≤ rs.length := by omega
      repeat infer_instance
      unfold l__law_lid_b8
      repeat infer_instance
      refine ⟨by unfold Rng; omega, ?_⟩
      rw [show ((k : Int) + 1).toNat = k + 1 by omega]
      refine wf_rng (fun u ρ => ∃ (mo : D) (x10 x11 : Option D), ρ = [some (.lst (rs.map rowD)), some (.int (lcmL (dsL rs))), some (.lst ((worthsL rs (lcmL (dsL rs))).map D.int)), some (.lst ((List.range (rs.length + 1)).map fun k => .int (TT rs k))), some (.lst ((List.range (rs.length + 1)).map fun k => .int (inc rs k))),
        some (.lst (ab.map (encL (lcmL (dsL rs))))), some (.int (k : Int)), some le, some (.int (low : Int)), some mo, x10, x11, none] ∧ ((u = 0 ∧ mo = .non) ∨ ∃ a b, mo = .tup [.int a, .int b] ∧ MaxU rs low u a b)) ⟨_, _, _, rfl, .inl ⟨rfl, rfl⟩⟩ ?_ ?_
      · rintro u ρ hu ⟨mo, x10, x11, rfl, hmo⟩
        have tu := TT_b h (show u ≤ rs.length by omega)
        have tl := TT_b h lowle
        have tlt := TT_lt h (show u < low by omega) lowle
        rw [Int.zero_add]
        repeat infer_instance
        unfold l__law_lid_b10
        repeat infer_instance
        refine sm_at (rg_at (by omega)) ?_
        repeat infer_instance
        refine sm_at (rg_at (by omega)) ?_
        repeat infer_instance
        refine sm_at (rg_at (by omega)) ?_
        repeat infer_instance
        refine sm_at (rg_at (by omega)) ?_
        repeat infer_instance
        rcases hmo with ⟨hu0, rfl⟩ | ⟨a, b, rfl, hm⟩
        · repeat infer_instance
          refine ⟨_, _, _, rfl, .inr ⟨_, _, rfl, ⟨by omega, by omega, ⟨u, by omega, rfl, rfl⟩, fun v hv => ?_⟩⟩⟩
          have : v = u := by omega
          subst this
          exact Int.le_refl _
        · have hb0 := hm.b0
          have hb1 := hm.b1
          repeat infer_instance
          refine br_d (fun hc => ?_) fun hc => ?_
          · repeat infer_instance
            refine ⟨_, _, _, rfl, .inr ⟨_, _, rfl, ⟨by omega, by omega, ⟨u, by omega, rfl, rfl⟩, fun v hv => ?_⟩⟩⟩
            by_cases e : v = u
            · subst e; exact Int.le_refl _
            · have z := hm.all v (by omega)
              have tv := TT_lt h (show v < low by omega) lowle
              exact fr_trans (c := a) (d := b) (by omega) (by omega) (by omega) z (by omega)
          · repeat infer_instance
            refine ⟨_, _, _, rfl, .inr ⟨_, _, rfl, ⟨hb0, hb1, ?_, fun v hv => ?_⟩⟩⟩
            · obtain ⟨w, w1, w2, w3⟩ := hm.at1
              exact ⟨w, by omega, w2, w3⟩
            · by_cases e : v = u
              · subst e; omega
              · exact hm.all v (by omega)
      · rintro ρ ⟨mo, x10, x11, rfl, hmo⟩
        rcases hmo with ⟨z, _⟩ | ⟨a, b, rfl, hm⟩
        · omega
        · have hb0 := hm.b0
          have hb1 := hm.b1
          have new : ∀ i', i' ≤ i + 1 → True := fun _ _ => trivial
          rcases hle with ⟨hi0, rfl⟩ | ⟨a', b', rfl, hn⟩
          · repeat infer_instance
            refine ⟨_, _, _, _, _, rfl, .inr ⟨_, _, rfl, ⟨hb0, hb1, ⟨low, by omega, by omega, fun u hu => hm.all u (by omega)⟩, fun l h1 h2 => ?_⟩⟩⟩
            have : l = low := by omega
            subst this
            obtain ⟨w, w1, w2, w3⟩ := hm.at1
            exact ⟨w, by omega, by rw [← w2, ← w3]; exact Int.le_refl _⟩
          · have hb0' := hn.b0
            have hb1' := hn.b1
            repeat infer_instance
            refine br_d (fun hc => ?_) fun hc => ?_
            · repeat infer_instance
              refine ⟨_, _, _, _, _, rfl, .inr ⟨_, _, rfl, ⟨hb0, hb1, ⟨low, by omega, by omega, fun u hu => hm.all u (by omega)⟩, fun l h1 h2 => ?_⟩⟩⟩
              by_cases e : l = low
              · subst e
                obtain ⟨w, w1, w2, w3⟩ := hm.at1
                exact ⟨w, by omega, by rw [← w2, ← w3]; exact Int.le_refl _⟩
              · obtain ⟨u, u1, u2⟩ := hn.all l h1 (by omega)
                have tv := TT_lt h (show u < l by omega) (by omega)
                exact ⟨u, u1, fr_trans (c := a') (d := b') (by omega) (by omega) (by omega) (Int.le_of_lt hc) u2⟩
            · repeat infer_instance
              refine ⟨_, _, _, _, _, rfl, .inr ⟨_, _, rfl, ⟨hb0', hb1', ?_, fun l h1 h2 => ?_⟩⟩⟩
              · obtain ⟨l, l1, l2, l3⟩ := hn.at1
                exact ⟨l, l1, by omega, l3⟩
              · by_cases e : l = low
                · subst e
                  obtain ⟨w, w1, w2, w3⟩ := hm.at1
                  exact ⟨w, by omega, by rw [← w2, ← w3]; omega⟩
                · exact hn.all l h1 (by omega)
    · rintro ρ ⟨le, x8, x9, x10, x11, rfl, hle⟩
      rcases hle with ⟨z, _⟩ | ⟨a, b, rfl, hn⟩
      · omega
      · have hb0 := hn.b0
        have hb1 := hn.b1
        repeat infer_instance
        refine ⟨by rw [List.length_map]; omega, ?_⟩
        repeat infer_instance
        refine ⟨ab ++ [(a, b)], _, _, _, _, _, _, by rw [List.map_append]; rfl, by simp [hl], fun k' p hp => ?_⟩
        by_cases e : k' < ab.length
        · rw [List.getElem?_append_left e] at hp
          exact hab k' p hp
        · rw [List.getElem?_append_right (by omega)] at hp
          have : k' - ab.length = 0 := by
            have := (List.getElem?_eq_some_iff.mp hp).1
            simp at this; omega
          rw [this] at hp
          simp at hp
          subst hp
          have : k' = k := by omega
          subst this
          exact hn
  · rintro ρ ⟨ab, x6, x7, x8, x9, x10, x11, rfl, hl, hab⟩
    repeat infer_instance
    exact q ab hl hab
end Z.L77
end
set_option Elab.async false
set_option linter.all false
set_option maxRecDepth 100000
noncomputable section
namespace Z.L77
open PySem PySem.Spec L2
set_option maxHeartbeats 4000000
local macro_rules | `(tactic| infer_instance) => `(tactic| first
  | with_reducible refine we_var ?_ | with_reducible refine we_con ?_ | with_reducible refine wa_cons ?_ | with_reducible refine wa_nil ?_
  | with_reducible refine we_bin ?_ | with_reducible refine we_un ?_ | with_reducible refine we_prim ?_
  | with_reducible refine sm_I0 ?_ | with_reducible refine sm_IB ?_ | with_reducible refine sm_eq ?_ | with_reducible refine sm_ne ?_ | with_reducible refine sm_not ?_ | with_reducible refine sm_U ?_
  | with_reducible refine sm_one ?_ | with_reducible refine sm_two ?_ | with_reducible refine sm_ixl ?_ | with_reducible refine sm_ixt ?_ | with_reducible refine sm_ixk ?_
  | with_reducible refine sm_II (by first | assumption | exact cNz_r (by omega) | exact cDiv_r (by omega) (by omega) | exact cMul_l (by omega) | exact cMul_r (by omega) | decide) ?_
  | with_reducible refine sm_tup (by first | decide | (simp only [List.length_cons, List.length_nil]; omega)) ?_ | with_reducible refine sm_lst (by first | decide | (simp only [List.length_cons, List.length_nil]; omega)) ?_
  | with_reducible refine sm_lenl ?_ | with_reducible refine sm_lent ?_ | with_reducible refine sm_lenk ?_
  | with_reducible refine sm_fld (by with_unfolding_all exact rfl) ?_ | with_reducible refine sm_atc (by with_unfolding_all exact rfl) ?_
  | with_reducible refine sm_isT (by with_unfolding_all exact rfl) ?_ | with_reducible refine sm_isF (by with_unfolding_all exact rfl) ?_ | with_reducible refine sm_nnT (by with_unfolding_all exact rfl) ?_ | with_reducible refine sm_nnF (by with_unfolding_all exact rfl) ?_
  | with_reducible refine setN_of ?_ | with_reducible refine lk_of ?_
  | with_reducible refine bl_of ?_ | with_reducible refine in_of ?_ | with_reducible refine lst_of ?_ | with_reducible refine tup_of ?_ | with_reducible refine ins_of ?_ | with_reducible refine non_of ?_
  | with_reducible refine is1_of ?_ | with_reducible refine is2_of ?_ | with_reducible refine is3_of ?_ | with_reducible refine two_of ?_
  | with_reducible refine ws_seq ?_ | with_reducible refine ws_set ?_ | with_reducible refine ws_if ?_ | with_reducible refine ws_ret ?_ | with_reducible refine ws_retN ?_ | with_reducible refine ws_skip ?_
  | with_reducible refine ws_brk ?_ | with_reducible refine ws_cnt ?_ | with_reducible refine ws_drop ?_ | with_reducible refine ws_asg ?_ | with_reducible refine ws_app ?_ | with_reducible refine ws_ext ?_ | with_reducible refine ws_setix ?_
  | with_reducible refine ws_fset ?_ | with_reducible refine ws_par ?_ | with_reducible refine ws_aug ?_ | with_reducible refine ws_for ?_ | with_reducible refine ws_try ?_
  | with_reducible refine sm_gtN ?_ | with_reducible refine sm_gtT rfl ?_ | with_reducible refine sm_gtCons ?_ | with_reducible refine sm_gtNil ?_
  | with_reducible refine we_call ?_ | with_reducible refine we_callB ?_ | with_reducible refine we_meth ?_ | with_reducible refine we_make ?_ | with_reducible refine we_callK ?_ | with_reducible refine we_makeK ?_ | with_reducible refine we_makeL ?_
  | with_reducible refine we_fldN ?_ | with_reducible refine we_unN ?_ | with_reducible refine we_binN ?_ | with_reducible refine we_sl ?_ | with_reducible refine we_slN ?_ | with_reducible refine we_mov ?_ | with_reducible refine we_pop ?_
  | with_reducible refine we_if ?_ | with_reducible refine we_and ?_ | with_reducible refine we_or ?_ | with_reducible refine we_chain ?_ | with_reducible refine we_comp ?_
  | with_reducible refine wt_val ?_ | with_reducible refine wt_and ?_ | with_reducible refine wt_or ?_ | with_reducible refine wt_not ?_ | with_reducible refine wt_yes ?_
  | with_reducible refine wo_none ?_ | with_reducible refine wo_part ?_
  | with_reducible refine wa_itL ?_ | with_reducible refine wa_itT ?_ | with_reducible refine wa_seqD ?_ | with_reducible refine wa_r1 ?_ | with_reducible refine wa_r2 ?_ | with_reducible refine wa_r3 ?_
  | with_reducible refine br_t ?_ | with_reducible refine br_f ?_ | with_reducible refine br_n ?_ | with_reducible refine br_dt (by assumption) ?_ | with_reducible refine br_df (by assumption) ?_)
theorem ww_b {rs : List Row} (h : RowsOk rs) (k : Nat) : 0 ≤ WW rs k ∧ WW rs k ≤ 9999 * 941480149401 := by
  unfold WW worthsL
  rw [List.getD_eq_getElem?_getD, List.getElem?_map]
  cases q : rs[k]? with
  | none => simp
  | some r =>
    have ok := h.ok r (List.mem_of_getElem? q)
    have lb := lcmL_bound (ds_ok h) (by rw [dsL_len]; exact h.l2)
    have a := Int.ediv_le_self r.2.2 (show 0 ≤ lcmL (dsL rs) by omega)
    have b := Int.ediv_nonneg (show 0 ≤ lcmL (dsL rs) by omega) (show 0 ≤ r.2.2 by have := ok.d1; omega)
    have := ok.n1
    have := ok.n2
    simp only [Option.map_some, Option.getD_some]
    exact ⟨Int.mul_nonneg (by omega) b, Int.mul_le_mul (by omega) (by omega) b (by decide)⟩
theorem own_ok {rs : List Row} (h : RowsOk rs) {k : Nat} (hk : k < rs.length) : (0 < ownM rs k ∧ ownM rs k < 1152921504606846976) ∧ Bit 70 (ownN rs k) ∧ widt rs k * ownN rs k * lcmL (dsL rs) = ownM rs k * rise rs k ∧ 1 ≤ widt rs k ∧ widt rs k ≤ 999 := by
  have q : rs[k]? = some rs[k] := List.getElem?_eq_getElem hk
  have ok := h.ok rs[k] (List.getElem_mem ..)
  have we := widt_eq q
  have w1 := ok.w1
  have w2 := ok.w2
  have lb := lcmL_bound (ds_ok h) (by rw [dsL_len]; exact h.l2)
  have t0 := tl_bound h (show k ≤ rs.length by omega)
  have t1 := tl_bound h (show k + 1 ≤ rs.length by omega)
  have b0 := ww_b h k
  have b1 := ww_b h (k + 1)
  have W0 : Bit 54 (WW rs k) := Bit.lit 18014398509481984 (by omega)
  have W1 : Bit 54 (WW rs (k + 1)) := Bit.lit 18014398509481984 (by omega)
  have bw : Bit 10 (widt rs k) := Bit.lit 1024 (by omega)
  have bt : Bit 13 (TT rs (k + 1)) := Bit.lit 8192 (by show ((tailsL (wsL rs)).getD (k + 1) 0).natAbs < 8192; omega)
  have inc_eq : ∀ i, inc rs i = WW rs i * TT rs i := fun i => rfl
  refine ⟨?_, ?_, ?_, by omega, by omega⟩
  · unfold ownM
    split
    · omega
    · have := Int.mul_pos lb.1 (show 0 < widt rs k by omega)
      have := Int.mul_le_mul lb.2 (show widt rs k ≤ 999 by omega) (by omega) (by decide)
      omega
  · unfold ownN
    split
    · exact W0.mono (by decide)
    · exact ((W0.mul bw).mono (by decide : 54 + 10 ≤ 69)).sub (((W1.sub W0).mul bt).mono (by decide : 55 + 13 ≤ 69))
  · unfold ownN ownM rise
    rw [inc_eq, inc_eq]
    split
    · rename_i e
      have z : TT rs (k + 1) = 0 := by rw [e]; exact TT_n
      have : TT rs k = widt rs k := by unfold widt; omega
      rw [z, this]; grind
    · have : TT rs k = widt rs k + TT rs (k + 1) := by unfold widt; omega
      rw [this]; grind

/-- equal fractions give equal comparisons -/
theorem fr_cong {a b a' b' c d c' d' : Int} (hb : 0 < b) (hb' : 0 < b') (hd : 0 < d) (hd' : 0 < d') (e1 : a * b' = a' * b) (e2 : c * d' = c' * d) (h : a' * d' ≤ c' * b') : a * d ≤ c * b := by
  have k1 : a * d' ≤ c' * b := fr_trans (c := a') (d := b') hb' hb hd' (by omega) h
  exact fr_trans (c := c') (d := d') hd' hb hd k1 (by omega)
theorem rise_w {Q : D → Prop} {E : Er} (rs : List Row) (h : RowsOk rs) (q : ∀ b, (b = true ↔ ∀ k, k + 1 < rs.length → ownN rs k * ownM rs (k + 1) ≤ ownN rs (k + 1) * ownM rs k) → Q (.bl b)) : WR (m__law_rise [.lst ((List.range rs.length).map (ownD rs))]) Q E := by
  have l6 := h.l2
  have l1 := h.l1
  unfold m__law_rise
  refine wr_fn (by simp only [List.map_cons, List.map_nil, List.cons_append, List.nil_append, Nat.reduceSub, List.replicate_succ, List.replicate_zero]; rfl) ?_
  unfold b__law_rise
  repeat infer_instance
  rw [List.length_map, List.length_range]
  refine ⟨by unfold Rng; omega, ?_⟩
  rw [show ((rs.length : Int) - 1).toNat = rs.length - 1 by omega]
  refine wf_rng (fun i ρ => (∃ x, ρ = [some (.lst ((List.range rs.length).map (ownD rs))), x]) ∧ ∀ k, k < i → ownN rs k * ownM rs (k + 1) ≤ ownN rs (k + 1) * ownM rs k) ⟨⟨_, rfl⟩, fun k hk => by omega⟩ ?_ ?_
  · rintro k ρ hk ⟨⟨x, rfl⟩, hi⟩
    obtain ⟨o1, _⟩ := own_ok h (show k < rs.length by omega)
    obtain ⟨o2, _⟩ := own_ok h (show k + 1 < rs.length by omega)
    rw [Int.zero_add]
    repeat infer_instance
    unfold l__law_rise_b1
    repeat infer_instance
    rw [show (k : Int) + 1 = ((k + 1 : Nat) : Int) by omega]
    refine sm_at (rg_at (by omega)) ?_
    unfold ownD
    repeat infer_instance
    refine sm_at (rg_at (by omega)) ?_
    repeat infer_instance
    refine sm_at (rg_at (by omega)) ?_
    repeat infer_instance
    rw [show (k : Int) + 1 = ((k + 1 : Nat) : Int) by omega]
    refine sm_at (rg_at (by omega)) ?_
    repeat infer_instance
    refine br_d (fun hc => ?_) fun hc => ?_
    · repeat infer_instance
      refine q false ⟨fun z => (nomatch z), fun z => ?_⟩
      have := z k (by omega)
      omega
    · repeat infer_instance
      refine ⟨⟨_, rfl⟩, fun k' hk' => ?_⟩
      by_cases e : k' = k
      · subst e; omega
      · exact hi k' (by omega)
  · rintro ρ ⟨⟨x, rfl⟩, hi⟩
    repeat infer_instance
    exact q true ⟨fun _ k hk => hi k (by omega), fun _ => rfl⟩
theorem alike_w {Q : D → Prop} {E : Er} (rs : List Row) (h : RowsOk rs) (ab : List (Int × Int)) (hl : ab.length = rs.length) (hb : ∀ (k : Nat) (p : Int × Int), ab[k]? = some p → 0 < p.2 ∧ p.2 ≤ 5994)
    (q : ∀ b, (b = true ↔ ∀ (k : Nat) (p : Int × Int), ab[k]? = some p → p.1 * ownM rs k = ownN rs k * (p.2 * lcmL (dsL rs))) → Q (.bl b)) : WR (m__law_alike [.lst (ab.map (encL (lcmL (dsL rs)))), .lst ((List.range rs.length).map (ownD rs))]) Q E := by
  have l6 := h.l2
  have lb := lcmL_bound (ds_ok h) (by rw [dsL_len]; exact h.l2)
  unfold m__law_alike
  refine wr_fn (by simp only [List.map_cons, List.map_nil, List.cons_append, List.nil_append, Nat.reduceSub, List.replicate_succ, List.replicate_zero]; rfl) ?_
  unfold b__law_alike
  repeat infer_instance
  rw [List.length_map]
  refine ⟨by unfold Rng; omega, ?_⟩
  rw [Int.toNat_natCast]
  refine ⟨by rw [intsFrom_length]; omega, ?_⟩
  refine wc_rng (fun k => .bl (decide ((ab.getD k (0, 0)).1 * ownM rs k = ownN rs k * ((ab.getD k (0, 0)).2 * lcmL (dsL rs))))) (fun k hk => ?_) ?_
  · have qk : ab[k]? = some ab[k] := List.getElem?_eq_getElem hk
    have eg : ab.getD k (0, 0) = ab[k] := by rw [List.getD_eq_getElem?_getD, qk]; rfl
    rw [eg]
    obtain ⟨b0, b1⟩ := hb k _ qk
    generalize ab[k] = p at *
    obtain ⟨o1, _⟩ := own_ok h (show k < rs.length by omega)
    have m1 : 0 < p.2 * lcmL (dsL rs) := Int.mul_pos b0 lb.1
    have m2 : p.2 * lcmL (dsL rs) ≤ 5994 * 941480149401 := Int.mul_le_mul b1 lb.2 (by omega) (by decide)
    rw [Int.zero_add]
    repeat infer_instance
    unfold l__law_alike_e1_15
    repeat infer_instance
    refine sm_at qk ?_
    unfold encL
    repeat infer_instance
    refine sm_at (rg_at (by omega)) ?_
    unfold ownD
    repeat infer_instance
    refine sm_at (rg_at (by omega)) ?_
    repeat infer_instance
    refine sm_at qk ?_
    repeat infer_instance
    exact ⟨rfl, rfl⟩
  repeat infer_instance
  refine sm_all ?_
  repeat infer_instance
  refine q _ ?_
  rw [List.all_eq_true]
  constructor
  · intro z k p hp
    have hk := (List.getElem?_eq_some_iff.mp hp).1
    have := z k (List.mem_range.mpr hk)
    rw [decide_eq_true_eq, List.getD_eq_getElem?_getD, hp] at this
    exact this
  · intro z k hk
    have hk := List.mem_range.mp hk
    have qk : ab[k]? = some ab[k] := List.getElem?_eq_getElem hk
    rw [decide_eq_true_eq, List.getD_eq_getElem?_getD, qk]
    exact z k _ qk
end Z.L77
end
set_option Elab.async false
set_option linter.all false
set_option maxRecDepth 100000
noncomputable section
namespace Z.L77
open PySem PySem.Spec L2
set_option maxHeartbeats 4000000
local macro_rules | `(tactic| infer_instance) => `(tactic| first
  | with_reducible refine we_var ?_ | with_reducible refine we_con ?_ | with_reducible refine wa_cons ?_ | with_reducible refine wa_nil ?_
  | with_reducible refine we_bin ?_ | with_reducible refine we_un ?_ | with_reducible refine we_prim ?_
  | with_reducible refine sm_I0 ?_ | with_reducible refine sm_IB ?_ | with_reducible refine sm_eq ?_ | with_reducible refine sm_ne ?_ | with_reducible refine sm_not ?_ | with_reducible refine sm_U ?_
  | with_reducible refine sm_one ?_ | with_reducible refine sm_two ?_ | with_reducible refine sm_ixl ?_ | with_reducible refine sm_ixt ?_ | with_reducible refine sm_ixk ?_
  | with_reducible refine sm_II (by first | assumption | exact cNz_r (by omega) | exact cDiv_r (by omega) (by omega) | exact cMul_l (by omega) | exact cMul_r (by omega) | decide) ?_
  | with_reducible refine sm_tup (by first | decide | (simp only [List.length_cons, List.length_nil]; omega)) ?_ | with_reducible refine sm_lst (by first | decide | (simp only [List.length_cons, List.length_nil]; omega)) ?_
  | with_reducible refine sm_lenl ?_ | with_reducible refine sm_lent ?_ | with_reducible refine sm_lenk ?_
  | with_reducible refine sm_fld (by with_unfolding_all exact rfl) ?_ | with_reducible refine sm_atc (by with_unfolding_all exact rfl) ?_
  | with_reducible refine sm_isT (by with_unfolding_all exact rfl) ?_ | with_reducible refine sm_isF (by with_unfolding_all exact rfl) ?_ | with_reducible refine sm_nnT (by with_unfolding_all exact rfl) ?_ | with_reducible refine sm_nnF (by with_unfolding_all exact rfl) ?_
  | with_reducible refine setN_of ?_ | with_reducible refine lk_of ?_
  | with_reducible refine bl_of ?_ | with_reducible refine in_of ?_ | with_reducible refine lst_of ?_ | with_reducible refine tup_of ?_ | with_reducible refine ins_of ?_ | with_reducible refine non_of ?_
  | with_reducible refine is1_of ?_ | with_reducible refine is2_of ?_ | with_reducible refine is3_of ?_ | with_reducible refine two_of ?_
  | with_reducible refine ws_seq ?_ | with_reducible refine ws_set ?_ | with_reducible refine ws_if ?_ | with_reducible refine ws_ret ?_ | with_reducible refine ws_retN ?_ | with_reducible refine ws_skip ?_
  | with_reducible refine ws_brk ?_ | with_reducible refine ws_cnt ?_ | with_reducible refine ws_drop ?_ | with_reducible refine ws_asg ?_ | with_reducible refine ws_app ?_ | with_reducible refine ws_ext ?_ | with_reducible refine ws_setix ?_
  | with_reducible refine ws_fset ?_ | with_reducible refine ws_par ?_ | with_reducible refine ws_aug ?_ | with_reducible refine ws_for ?_ | with_reducible refine ws_try ?_
  | with_reducible refine sm_gtN ?_ | with_reducible refine sm_gtT rfl ?_ | with_reducible refine sm_gtCons ?_ | with_reducible refine sm_gtNil ?_
  | with_reducible refine we_call ?_ | with_reducible refine we_callB ?_ | with_reducible refine we_meth ?_ | with_reducible refine we_make ?_ | with_reducible refine we_callK ?_ | with_reducible refine we_makeK ?_ | with_reducible refine we_makeL ?_
  | with_reducible refine we_fldN ?_ | with_reducible refine we_unN ?_ | with_reducible refine we_binN ?_ | with_reducible refine we_sl ?_ | with_reducible refine we_slN ?_ | with_reducible refine we_mov ?_ | with_reducible refine we_pop ?_
  | with_reducible refine we_if ?_ | with_reducible refine we_and ?_ | with_reducible refine we_or ?_ | with_reducible refine we_chain ?_ | with_reducible refine we_comp ?_
  | with_reducible refine wt_val ?_ | with_reducible refine wt_and ?_ | with_reducible refine wt_or ?_ | with_reducible refine wt_not ?_ | with_reducible refine wt_yes ?_
  | with_reducible refine wo_none ?_ | with_reducible refine wo_part ?_
  | with_reducible refine wa_itL ?_ | with_reducible refine wa_itT ?_ | with_reducible refine wa_seqD ?_ | with_reducible refine wa_r1 ?_ | with_reducible refine wa_r2 ?_ | with_reducible refine wa_r3 ?_
  | with_reducible refine br_t ?_ | with_reducible refine br_f ?_ | with_reducible refine br_n ?_ | with_reducible refine br_dt (by assumption) ?_ | with_reducible refine br_df (by assumption) ?_)
theorem sm_neB {a b : Bool} {K : D → Prop} (h : K (.bl (!decide (a = b)))) : Sm (gNe (.bl a) (.bl b)) K := ⟨_, rfl, h⟩
theorem lidL_w {Q : D → Prop} {E : Er} {ab : List (Int × Int)} {n : Nat} {L : Int} (q : Q (.tup (ab.map fun p => .lst [.int p.1, .int (p.2 * L)]))) : Q (.tup (ab.map fun p => .lst [.int p.1, .int (p.2 * L)])) := q
/-- lists of pairs made of tuples -/
theorem numbers_hold_w {Q : D → Prop} {E : Er} (rs : List Row) (form : Int) (h : RowsOk rs) (h0 : 0 ≤ form) (h3 : form ≤ 3) (q : Q (.bl true)) : WR (m__law_numbers_hold [rowsD rs, .int form]) Q E := by
  have l6 := h.l2
  have lb := lcmL_bound (ds_ok h) (by rw [dsL_len]; exact h.l2)
  unfold m__law_numbers_hold
  refine wr_fn (by simp only [List.map_cons, List.map_nil, List.cons_append, List.nil_append, Nat.reduceSub, List.replicate_succ, List.replicate_zero]; rfl) ?_
  unfold b__law_numbers_hold
  repeat infer_instance
  refine llid_w rs h fun ab hl hab => ?_
  repeat infer_instance
  refine wr_eq (lplain_ok rs h) ?_
  repeat infer_instance
  refine rise_w rs h fun b1 hb1 => ?_
  repeat infer_instance
  refine alike_w rs h ab hl (fun k p hp => ⟨(hab k p hp).b0, (hab k p hp).b1⟩) fun b2 hb2 => ?_
  -- each own number is its piece's slope
  have piece : ∀ rest, HullR (XX rs) (YY rs) (rs.length :: rest) → ∀ (k : Nat) (p : Int × Int), ab[k]? = some p →
      p.1 * (XX rs (blk (rs.length :: rest) (rs.length - k)).2 - XX rs (blk (rs.length :: rest) (rs.length - k)).1) = (YY rs (blk (rs.length :: rest) (rs.length - k)).2 - YY rs (blk (rs.length :: rest) (rs.length - k)).1) * p.2 := by
    intro rest hC k p hp
    have hk : k < rs.length := by
      have := (List.getElem?_eq_some_iff.mp hp).1
      omega
    have m := hab k p hp
    refine minmax (XX_lt h) hC (show 1 ≤ rs.length - k by omega) (by omega) m.b0 ?_ ?_
    · obtain ⟨low, l1, l2, l3⟩ := m.at1
      refine ⟨rs.length - low, by omega, fun u u1 u2 => ?_⟩
      have z := l3 (rs.length - u) (by omega)
      show (inc rs (rs.length - u) - inc rs (rs.length - (rs.length - low))) * p.2 ≤ p.1 * (TT rs (rs.length - u) - TT rs (rs.length - (rs.length - low)))
      rw [show rs.length - (rs.length - low) = low by omega]
      exact z
    · intro l hl'
      obtain ⟨u, u1, u2⟩ := m.all (rs.length - l) (by omega) (by omega)
      refine ⟨rs.length - u, by omega, by omega, ?_⟩
      show p.1 * (TT rs (rs.length - (rs.length - u)) - TT rs (rs.length - l)) ≤ (inc rs (rs.length - (rs.length - u)) - inc rs (rs.length - l)) * p.2
      rw [show rs.length - (rs.length - u) = u by omega]
      exact u2
  have fits : ∀ rest, HullR (XX rs) (YY rs) (rs.length :: rest) → m__law_fits 4 [.tup ((List.range rs.length).map (numE rs (rs.length :: rest))), .tup (ab.map fun p => .lst [.int p.1, .int (p.2 * lcmL (dsL rs))])] = .ok (.bl true) := by
    intro rest hC
    refine fits_all 2 _ _ (by simp [hl]) (by simp; omega) fun i a b ha hb => ?_
    rw [List.getElem?_map] at ha hb
    have hi : i < rs.length := by
      cases z : (List.range rs.length)[i]? with
      | none => rw [z] at ha; cases ha
      | some w => simpa using (List.getElem?_eq_some_iff.mp z).1
    rw [rg_at hi] at ha
    have qk : ab[i]? = some ab[i] := List.getElem?_eq_getElem (by omega)
    rw [qk] at hb
    cases ha
    cases hb
    have pc := piece rest hC i _ qk
    have m := hab i _ qk
    have b0 := m.b0
    have bb1 := m.b1
    generalize ab[i] = p at *
    obtain ⟨i1, i2, i3, _⟩ := blk_in hC (show 1 ≤ rs.length - i by omega) (by omega)
    have xlt := XX_lt h _ _ (show (blk (rs.length :: rest) (rs.length - i)).1 < (blk (rs.length :: rest) (rs.length - i)).2 by omega) i3
    have D0 : 0 < p.2 * lcmL (dsL rs) := Int.mul_pos b0 lb.1
    have D1 : p.2 * lcmL (dsL rs) ≤ 5994 * 941480149401 := Int.mul_le_mul bb1 lb.2 (by omega) (by decide)
    show m__law_fits 3 [numE rs (rs.length :: rest) i, _] = _
    unfold numE mn
    generalize blk (rs.length :: rest) (rs.length - i) = pc' at *
    obtain ⟨u, v⟩ := pc'
    dsimp only at *
    have W0 : 0 < (XX rs v - XX rs u) * lcmL (dsL rs) := Int.mul_pos (by omega) lb.1
    have lo := low_eq (a := YY rs v - YY rs u) (b := (XX rs v - XX rs u) * lcmL (dsL rs)) (c := p.1) (d := p.2 * lcmL (dsL rs)) W0 D0 (by
      have : p.1 * (XX rs v - XX rs u) * lcmL (dsL rs) = (YY rs v - YY rs u) * p.2 * lcmL (dsL rs) := by rw [pc]
      grind)
    rw [fits_l 2 _ _ _ _ D0 (by omega), lo.1, lo.2]
    simp
  -- rising plain numbers are the lid
  have same : b1 = b2 := by
    obtain ⟨rest, hC⟩ : ∃ rest, HullR (XX rs) (YY rs) (rs.length :: rest) := by
      have w : WR (m_lid_places [pts (XX rs) (YY rs) rs.length]) (fun _ => ∃ rest, HullR (XX rs) (YY rs) (rs.length :: rest)) E0 := lid_w (XX rs) (YY rs) rs.length (by omega) (XX_lt h) (XX_b h) fun rest hC _ => ⟨rest, hC⟩
      obtain ⟨_, _, z⟩ := w.get
      exact z
    have frac : ∀ k, k < rs.length → 0 < ownM rs k ∧ 0 < widt rs k ∧ ownN rs k * (widt rs k * lcmL (dsL rs)) = rise rs k * ownM rs k := fun k hk => by
      obtain ⟨o1, o2, o3, o4, o5⟩ := own_ok h hk
      exact ⟨o1.1, by omega, by grind⟩
    have wl : ∀ k, k < rs.length → 0 < widt rs k * lcmL (dsL rs) := fun k hk => Int.mul_pos (frac k hk).2.1 lb.1
    have sl : ∀ j, 1 ≤ j → j ≤ rs.length → YY rs j - YY rs (j - 1) = rise rs (rs.length - j) ∧ XX rs j - XX rs (j - 1) = widt rs (rs.length - j) := fun j j1 j2 => by
      constructor
      · show inc rs (rs.length - j) - inc rs (rs.length - (j - 1)) = inc rs (rs.length - j) - inc rs (rs.length - j + 1)
        rw [show rs.length - j + 1 = rs.length - (j - 1) by omega]
      · show TT rs (rs.length - j) - TT rs (rs.length - (j - 1)) = TT rs (rs.length - j) - TT rs (rs.length - j + 1)
        rw [show rs.length - j + 1 = rs.length - (j - 1) by omega]
    have pab : ∀ k, k < rs.length → ∃ p, ab[k]? = some p := fun k hk => ⟨_, List.getElem?_eq_getElem (show k < ab.length by omega)⟩
    have blkD : ∀ k, k < rs.length → 0 < XX rs (blk (rs.length :: rest) (rs.length - k)).2 - XX rs (blk (rs.length :: rest) (rs.length - k)).1 := fun k hk => by
      obtain ⟨i1, i2, i3, _⟩ := blk_in hC (show 1 ≤ rs.length - k by omega) (by omega)
      have := XX_lt h _ _ (show (blk (rs.length :: rest) (rs.length - k)).1 < (blk (rs.length :: rest) (rs.length - k)).2 by omega) i3
      omega
    have ri : (∀ k, k + 1 < rs.length → ownN rs k * ownM rs (k + 1) ≤ ownN rs (k + 1) * ownM rs k) ↔ (∀ k, k + 1 < rs.length → rise rs k * widt rs (k + 1) ≤ rise rs (k + 1) * widt rs k) := by
      constructor
      · intro z k hk
        obtain ⟨f1, f2, f3⟩ := frac k (by omega)
        obtain ⟨g1, g2, g3⟩ := frac (k + 1) hk
        have k1 := fr_cong (a := rise rs k) (b := widt rs k * lcmL (dsL rs)) (c := rise rs (k + 1)) (d := widt rs (k + 1) * lcmL (dsL rs)) (wl k (by omega)) f1 (wl _ hk) g1 f3.symm g3.symm (z k hk)
        have k2 : (rise rs k * widt rs (k + 1)) * lcmL (dsL rs) ≤ (rise rs (k + 1) * widt rs k) * lcmL (dsL rs) := by grind
        exact Int.le_of_mul_le_mul_right k2 lb.1
      · intro z k hk
        obtain ⟨f1, f2, f3⟩ := frac k (by omega)
        obtain ⟨g1, g2, g3⟩ := frac (k + 1) hk
        have k2 : (rise rs k * widt rs (k + 1)) * lcmL (dsL rs) ≤ (rise rs (k + 1) * widt rs k) * lcmL (dsL rs) := Int.mul_le_mul_of_nonneg_right (z k hk) (by omega)
        exact fr_cong (a' := rise rs k) (b' := widt rs k * lcmL (dsL rs)) (c' := rise rs (k + 1)) (d' := widt rs (k + 1) * lcmL (dsL rs)) f1 (wl k (by omega)) g1 (wl _ hk) f3 g3 (by grind)
    have al : (∀ (k : Nat) (p : Int × Int), ab[k]? = some p → p.1 * ownM rs k = ownN rs k * (p.2 * lcmL (dsL rs))) ↔ ∀ k, k < rs.length → rise rs k * (XX rs (blk (rs.length :: rest) (rs.length - k)).2 - XX rs (blk (rs.length :: rest) (rs.length - k)).1) = (YY rs (blk (rs.length :: rest) (rs.length - k)).2 - YY rs (blk (rs.length :: rest) (rs.length - k)).1) * widt rs k := by
      have one : ∀ (k : Nat) (p : Int × Int), k < rs.length → ab[k]? = some p → (p.1 * ownM rs k = ownN rs k * (p.2 * lcmL (dsL rs)) ↔ rise rs k * (XX rs (blk (rs.length :: rest) (rs.length - k)).2 - XX rs (blk (rs.length :: rest) (rs.length - k)).1) = (YY rs (blk (rs.length :: rest) (rs.length - k)).2 - YY rs (blk (rs.length :: rest) (rs.length - k)).1) * widt rs k) := by
        intro k p hk hp
        have pc := piece rest hC k p hp
        have bd := blkD k hk
        obtain ⟨f1, f2, f3⟩ := frac k hk
        have b0 := (hab k p hp).b0
        generalize blk (rs.length :: rest) (rs.length - k) = q at *
        obtain ⟨u, v⟩ := q
        dsimp only at *
        generalize XX rs v - XX rs u = Dd at *
        generalize YY rs v - YY rs u = Rr at *
        generalize ownN rs k = N at *
        generalize ownM rs k = M at *
        generalize rise rs k = r at *
        generalize widt rs k = w at *
        generalize lcmL (dsL rs) = L at *
        obtain ⟨A, B⟩ := p
        dsimp only at *
        -- A/B = Rr/Dd, N/M = r/(w L)
        constructor
        · intro z
          have e : (r * Dd) * (M * B * L) = (Rr * w) * (M * B * L) := by
            have e1 : r * M = N * (w * L) := f3.symm
            have : (r * M) * (Dd * B * L) = (Rr * B) * (w * M * L) := by rw [e1, ← pc]; grind
            grind
          exact Int.eq_of_mul_eq_mul_right (by have := Int.mul_pos (Int.mul_pos f1 b0) lb.1; omega) e
        · intro z
          have e : (A * M) * (Dd * w) = (N * (B * L)) * (Dd * w) := by
            have : (A * Dd) * (M * w) = (N * (w * L)) * (B * Dd) := by rw [pc, f3]; grind
            grind
          exact Int.eq_of_mul_eq_mul_right (by have := Int.mul_pos bd f2; omega) e
      constructor
      · intro z k hk
        obtain ⟨p, hp⟩ := pab k hk
        exact (one k p hk hp).mp (z k p hp)
      · intro z k p hp
        have hk : k < rs.length := by
          have := (List.getElem?_eq_some_iff.mp hp).1
          omega
        exact (one k p hk hp).mpr (z k hk)
    have key : (∀ k, k + 1 < rs.length → rise rs k * widt rs (k + 1) ≤ rise rs (k + 1) * widt rs k) ↔ ∀ k, k < rs.length → rise rs k * (XX rs (blk (rs.length :: rest) (rs.length - k)).2 - XX rs (blk (rs.length :: rest) (rs.length - k)).1) = (YY rs (blk (rs.length :: rest) (rs.length - k)).2 - YY rs (blk (rs.length :: rest) (rs.length - k)).1) * widt rs k := by
      constructor
      · intro z k hk
        have r := rise_eq (XX_lt h) hC (fun j j1 j2 => by
          obtain ⟨s1, s2⟩ := sl j j1 (by omega)
          obtain ⟨s3, s4⟩ := sl (j + 1) (by omega) j2
          rw [show j + 1 - 1 = j by omega] at s3 s4
          rw [s1, s2, s3, s4]
          have t := z (rs.length - (j + 1)) (by omega)
          rw [show rs.length - (j + 1) + 1 = rs.length - j by omega] at t
          exact t) (show 1 ≤ rs.length - k by omega) (by omega)
        obtain ⟨s1, s2⟩ := sl (rs.length - k) (by omega) (by omega)
        rw [s1, s2, show rs.length - (rs.length - k) = k by omega] at r
        exact r
      · intro z k hk
        have z1 := z k (by omega)
        have z2 := z (k + 1) hk
        have sf := slopes_fall (XX_lt h) hC (Nat.le_refl _) (rs.length - (k + 1)) (rs.length - k) (by omega) (by omega) (by omega)
        exact fr_cong (a' := YY rs (blk (rs.length :: rest) (rs.length - k)).2 - YY rs (blk (rs.length :: rest) (rs.length - k)).1) (b' := XX rs (blk (rs.length :: rest) (rs.length - k)).2 - XX rs (blk (rs.length :: rest) (rs.length - k)).1)
          (c' := YY rs (blk (rs.length :: rest) (rs.length - (k + 1))).2 - YY rs (blk (rs.length :: rest) (rs.length - (k + 1))).1) (d' := XX rs (blk (rs.length :: rest) (rs.length - (k + 1))).2 - XX rs (blk (rs.length :: rest) (rs.length - (k + 1))).1)
          (frac k (by omega)).2.1 (blkD k (by omega)) (frac _ hk).2.1 (blkD _ hk) z1 z2 sf
    have : b1 = true ↔ b2 = true := hb1.trans (ri.trans (key.trans (al.symm.trans hb2.symm)))
    cases b1 <;> cases b2 <;> simp_all
  subst same
  refine sm_neB ?_
  repeat infer_instance
  refine br_dt rfl ?_
  repeat infer_instance
  refine wr_eq (built_ok rs form h h0 h3) ?_
  repeat infer_instance
  refine numbers_w rs h fun rest hC hl2 => ?_
  repeat infer_instance
  refine ⟨by simp; omega, ?_⟩
  refine wc_map (fun p => .lst [.int p.1, .int (p.2 * lcmL (dsL rs))]) (fun p hp => ?_) ?_
  · repeat infer_instance
    unfold l__law_numbers_hold_e6_50 encL
    repeat infer_instance
    refine sm_of rfl ?_
    exact ⟨rfl, rfl⟩
  repeat infer_instance
  refine sm_of rfl ?_
  repeat infer_instance
  refine wr_eq (fits rest hC) ?_
  repeat infer_instance
  refine wr_eq (plain_ok rs h) ?_
  repeat infer_instance
  refine ⟨by simp; omega, ?_⟩
  refine wc_map (fun k => dueL rs k) (fun k hk => ?_) ?_
  · repeat infer_instance
    unfold l__law_numbers_hold_e8_49 ownD
    repeat infer_instance
    refine sm_of rfl ?_
    exact ⟨rfl, rfl⟩
  repeat infer_instance
  refine sm_of rfl ?_
  repeat infer_instance
  have pf : m__law_fits 4 [.tup ((List.range rs.length).map (numD rs)), .tup ((List.range rs.length).map (dueL rs))] = .ok (.bl true) := by
    refine fits_all 2 _ _ (by simp) (by simp; omega) fun i a b ha hb => ?_
    rw [List.getElem?_map] at ha hb
    have hi : i < rs.length := by
      cases z : (List.range rs.length)[i]? with
      | none => rw [z] at ha; cases ha
      | some w => simpa using (List.getElem?_eq_some_iff.mp z).1
    rw [rg_at hi] at ha hb
    cases ha
    cases hb
    exact num_fits rs h 2 i hi
  refine wr_eq pf ?_
  repeat infer_instance
  refine wr_eq (built_ok rs (3 - form) h (by omega) (by omega)) ?_
  repeat infer_instance
  refine ⟨rfl, ?_⟩
  refine numbers_w rs h fun rest2 hC2 hl3 => ?_
  repeat infer_instance
  refine ⟨by simp; omega, ?_⟩
  refine wc_map (fun p => .lst [.int p.1, .int (p.2 * lcmL (dsL rs))]) (fun p hp => ?_) ?_
  · repeat infer_instance
    unfold l__law_numbers_hold_e10_77 encL
    repeat infer_instance
    refine sm_of rfl ?_
    exact ⟨rfl, rfl⟩
  repeat infer_instance
  refine sm_of rfl ?_
  repeat infer_instance
  refine wr_eq (fits rest2 hC2) ?_
  exact q
theorem pick_w {QB : D → D → Prop} {E : Er} {cs : List Int} {f : D} (many : Int) (hf : Fd cs f) (h1 : 1 ≤ many) (h2 : many < 1000000) (q : ∀ r f', Fd cs f' → 0 ≤ r → r < many → QB (.int r) f') : WB (m__law_pick [f, .int many]) QB E := by
  obtain ⟨r, f', e, hf', r0, r1⟩ := pk many hf h1 h2
  exact wb_eq e (q r f' hf' r0 r1)
theorem law_true (ns : List Int) (_ : ns.length ≤ 63) : m_law [.kls (ns.map D.int)] = .ok (.bl true) := by
  have key : WR (m_law [.kls (ns.map D.int)]) (fun d => d = .bl true) E0 := by
    unfold m_law
    refine wr_fn (by simp only [List.map_cons, List.map_nil, List.cons_append, List.nil_append, Nat.reduceSub, List.replicate_succ, List.replicate_zero]; rfl) ?_
    unfold b_law
    repeat infer_instance
    unfold m__law_asked
    refine wr_fn (by simp only [List.map_cons, List.map_nil, List.cons_append, List.nil_append, Nat.reduceSub, List.replicate_succ, List.replicate_zero]; rfl) ?_
    unfold b__law_asked
    repeat infer_instance
    refine sm_of rfl ?_
    repeat infer_instance
    have fd0 : Fd ns (fd ns 0 0 0) := ⟨0, 0, 0, rfl⟩
    obtain ⟨rs1, f1, e1, hf1, ok1⟩ := offerL_ok fd0
    refine wb_eq e1 ?_
    repeat infer_instance
    obtain ⟨rs2, f2, e2, hf2, ok2⟩ := offerL_ok hf1
    refine wb_eq e2 ?_
    repeat infer_instance
    refine pick_w 4 hf2 (by decide) (by decide) fun form f3 hf3 a0 a1 => ?_
    repeat infer_instance
    refine numbers_hold_w rs1 form ok1 a0 (by omega) ?_
    repeat infer_instance
    refine numbers_hold_w rs2 (3 - form) ok2 (by omega) (by omega) ?_
    repeat infer_instance
    refine numbers_hold_w rs1 (3 - form) ok1 (by omega) (by omega) ?_
    rfl
  obtain ⟨a, e, h⟩ := key.get
  rw [e, h]
end Z.L77
end
open PySem PySem.W PyProof.Rows
set_option maxRecDepth 100000 in
set_option maxHeartbeats 0 in
theorem PySem.Challenge.cw_choicerealm_k77_smooth_numbers_by_lids_holds : PySem.Challenge.rw_choicerealm_k77_smooth_numbers_by_lids.Holds := by
  w_on; o_law; k_head; (case hw => w_witness2)
  k_fill
  refine Z.walk (l := PySem.Challenge.rw_choicerealm_k77_smooth_numbers_by_lids) (k := 13) rfl rfl ⟨rfl, by decide, by decide⟩ (fun w h Y => PySem.W.kIn_of Y) ?F
  case F =>
    intro w mg fa h KX G hmg
    refine' Z.L77.all_mk Z.L77.law_true KX G hmg ?hc_Frac ?hc_Offer ?hc_Buyer ?a__law_pick ?l__law_pick ?c__law_pick ?k__law_pick ?a__law_gcd ?l__law_gcd ?c__law_gcd ?k__law_gcd ?a__law_lowest ?l__law_lowest ?c__law_lowest ?k__law_lowest ?a__law_level ?l__law_level ?c__law_level ?k__law_level ?a__law_weights ?l__law_weights ?c__law_weights ?k__law_weights ?a__law_offer ?l__law_offer ?c__law_offer ?k__law_offer ?a__law_common ?l__law_common ?c__law_common ?k__law_common ?a__law_worths ?l__law_worths ?c__law_worths ?k__law_worths ?a__law_tails ?l__law_tails ?c__law_tails ?k__law_tails ?a__law_lid ?l__law_lid ?c__law_lid ?k__law_lid ?a__law_plain ?l__law_plain ?c__law_plain ?k__law_plain ?a__law_rise ?l__law_rise ?c__law_rise ?k__law_rise ?a__law_alike ?l__law_alike ?c__law_alike ?k__law_alike ?a_is_integer ?l_is_integer ?c_is_integer ?k_is_integer ?a_Frac___init__ ?i_Frac___init__ ?l_Frac___init__ ?lt_Frac___init__ ?c_Frac___init__ ?k_Frac___init__ ?a__law_given ?l__law_given ?c__law_given ?k__law_given ?a_is_sequence ?l_is_sequence ?c_is_sequence ?k_is_sequence ?a_is_between ?l_is_between ?c_is_between ?k_is_between ?a_as_frac ?l_as_frac ?c_as_frac ?k_as_frac ?a_is_amount ?l_is_amount ?c_is_amount ?k_is_amount ?a_is_prize ?l_is_prize ?c_is_prize ?k_is_prize ?a_Frac_is_below ?i_Frac_is_below ?l_Frac_is_below ?c_Frac_is_below ?k_Frac_is_below ?a_kept_prizes ?l_kept_prizes ?c_kept_prizes ?k_kept_prizes ?a_Offer___init__ ?i_Offer___init__ ?l_Offer___init__ ?c_Offer___init__ ?k_Offer___init__ ?a__law_built ?l__law_built ?c__law_built ?k__law_built ?a__law_whole ?l__law_whole ?c__law_whole ?k__law_whole ?a__law_frac ?l__law_frac ?c__law_frac ?k__law_frac ?a__law_fits ?l__law_fits ?c__law_fits ?k__law_fits ?a_common_under ?l_common_under ?c_common_under ?k_common_under ?a_scaled ?l_scaled ?c_scaled ?k_scaled ?a_tail_sums ?l_tail_sums ?c_tail_sums ?k_tail_sums ?a_Buyer___init__ ?i_Buyer___init__ ?l_Buyer___init__ ?c_Buyer___init__ ?k_Buyer___init__ ?a_Buyer_income ?i_Buyer_income ?l_Buyer_income ?c_Buyer_income ?k_Buyer_income ?a_Buyer_income_points ?i_Buyer_income_points ?l_Buyer_income_points ?c_Buyer_income_points ?k_Buyer_income_points ?a_bends_down ?l_bends_down ?c_bends_down ?k_bends_down ?a_lid_places ?l_lid_places ?c_lid_places ?k_lid_places ?a_slope_parts ?l_slope_parts ?c_slope_parts ?k_slope_parts ?a_Buyer_number ?i_Buyer_number ?l_Buyer_number ?c_Buyer_number ?k_Buyer_number ?a_smooth_runs ?l_smooth_runs ?c_smooth_runs ?k_smooth_runs ?a_smooth_numbers ?l_smooth_numbers ?c_smooth_numbers ?k_smooth_numbers ?a_plain_numbers ?l_plain_numbers ?c_plain_numbers ?k_plain_numbers ?a__law_numbers_hold ?l__law_numbers_hold ?c__law_numbers_hold ?k__law_numbers_hold ?a__law_asked ?l__law_asked ?c__law_asked ?k__law_asked ?a_law ?l_law ?c_law ?k_law ?pg_Frac ?hd_Frac ?po_Frac ?sa_Frac ?mk_Frac ?kc_Frac ?na_Frac_num ?na_Frac_den ?y0_Frac ?y1_Frac ?y2_Frac ?y3_Frac ?yb0_Frac ?yb1_Frac ?yb2_Frac ?yb3_Frac ?yb4_Frac ?yb5_Frac ?yo0_Frac ?yo1_Frac ?yo2_Frac ?yo3_Frac ?yo4_Frac ?ne_Frac_Offer ?su_Frac_Offer ?ne_Frac_Buyer ?su_Frac_Buyer ?pg_Offer ?hd_Offer ?po_Offer ?sa_Offer ?mk_Offer ?kc_Offer ?na_Offer_prizes ?y0_Offer ?y1_Offer ?y2_Offer ?y3_Offer ?yb0_Offer ?yb1_Offer ?yb2_Offer ?yb3_Offer ?yb4_Offer ?yb5_Offer ?yo0_Offer ?yo1_Offer ?yo2_Offer ?yo3_Offer ?yo4_Offer ?ne_Offer_Frac ?su_Offer_Frac ?ne_Offer_Buyer ?su_Offer_Buyer ?pg_Buyer ?hd_Buyer ?po_Buyer ?sa_Buyer ?mk_Buyer ?kc_Buyer ?na_Buyer_under ?na_Buyer_weights ?na_Buyer_worths ?na_Buyer_tails ?y0_Buyer ?y1_Buyer ?y2_Buyer ?y3_Buyer ?yb0_Buyer ?yb1_Buyer ?yb2_Buyer ?yb3_Buyer ?yb4_Buyer ?yb5_Buyer ?yo0_Buyer ?yo1_Buyer ?yo2_Buyer ?yo3_Buyer ?yo4_Buyer ?ne_Buyer_Frac ?su_Buyer_Frac ?ne_Buyer_Offer ?su_Buyer_Offer ?hget ?htk ?hn_abs ?hn_all ?hn_bool ?hn_enumerate ?hn_int ?hn_isinstance ?hn_len ?hn_list ?hn_range ?hn_reversed ?hn_str ?hn_sum ?hn_tuple ?hm_gcd ?hm_lcm ?hk_MOST_OVER ?hk_MOST_UNDER ?hk_MOST_WEIGHT ?hk_MOST_PRIZES
    (case hc_Frac => k_is)
    (case hc_Offer => k_is)
    (case hc_Buyer => k_is)
    (case a__law_pick => k_is)
    (case l__law_pick => k_is)
    (case c__law_pick => k_is)
    (case k__law_pick => k_is)
    (case a__law_gcd => k_is)
    (case l__law_gcd => k_is)
    (case c__law_gcd => k_is)
    (case k__law_gcd => k_is)
    (case a__law_lowest => k_is)
    (case l__law_lowest => k_is)
    (case c__law_lowest => k_is)
    (case k__law_lowest => k_is)
    (case a__law_level => k_is)
    (case l__law_level => k_is)
    (case c__law_level => k_is)
    (case k__law_level => k_is)
    (case a__law_weights => k_is)
    (case l__law_weights => k_is)
    (case c__law_weights => k_is)
    (case k__law_weights => k_is)
    (case a__law_offer => k_is)
    (case l__law_offer => k_is)
    (case c__law_offer => k_is)
    (case k__law_offer => k_is)
    (case a__law_common => k_is)
    (case l__law_common => k_is)
    (case c__law_common => k_is)
    (case k__law_common => k_is)
    (case a__law_worths => k_is)
    (case l__law_worths => k_is)
    (case c__law_worths => k_is)
    (case k__law_worths => k_is)
    (case a__law_tails => k_is)
    (case l__law_tails => k_is)
    (case c__law_tails => k_is)
    (case k__law_tails => k_is)
    (case a__law_lid => k_is)
    (case l__law_lid => k_is)
    (case c__law_lid => k_is)
    (case k__law_lid => k_is)
    (case a__law_plain => k_is)
    (case l__law_plain => k_is)
    (case c__law_plain => k_is)
    (case k__law_plain => k_is)
    (case a__law_rise => k_is)
    (case l__law_rise => k_is)
    (case c__law_rise => k_is)
    (case k__law_rise => k_is)
    (case a__law_alike => k_is)
    (case l__law_alike => k_is)
    (case c__law_alike => k_is)
    (case k__law_alike => k_is)
    (case a_is_integer => k_is)
    (case l_is_integer => k_is)
    (case c_is_integer => k_is)
    (case k_is_integer => k_is)
    (case a_Frac___init__ => k_is)
    (case i_Frac___init__ => k_is)
    (case l_Frac___init__ => k_is)
    (case lt_Frac___init__ => k_is)
    (case c_Frac___init__ => k_is)
    (case k_Frac___init__ => k_is)
    (case a__law_given => k_is)
    (case l__law_given => k_is)
    (case c__law_given => k_is)
    (case k__law_given => k_is)
    (case a_is_sequence => k_is)
    (case l_is_sequence => k_is)
    (case c_is_sequence => k_is)
    (case k_is_sequence => k_is)
    (case a_is_between => k_is)
    (case l_is_between => k_is)
    (case c_is_between => k_is)
    (case k_is_between => k_is)
    (case a_as_frac => k_is)
    (case l_as_frac => k_is)
    (case c_as_frac => k_is)
    (case k_as_frac => k_is)
    (case a_is_amount => k_is)
    (case l_is_amount => k_is)
    (case c_is_amount => k_is)
    (case k_is_amount => k_is)
    (case a_is_prize => k_is)
    (case l_is_prize => k_is)
    (case c_is_prize => k_is)
    (case k_is_prize => k_is)
    (case a_Frac_is_below => k_is)
    (case i_Frac_is_below => k_is)
    (case l_Frac_is_below => k_is)
    (case c_Frac_is_below => k_is)
    (case k_Frac_is_below => k_is)
    (case a_kept_prizes => k_is)
    (case l_kept_prizes => k_is)
    (case c_kept_prizes => k_is)
    (case k_kept_prizes => k_is)
    (case a_Offer___init__ => k_is)
    (case i_Offer___init__ => k_is)
    (case l_Offer___init__ => k_is)
    (case c_Offer___init__ => k_is)
    (case k_Offer___init__ => k_is)
    (case a__law_built => k_is)
    (case l__law_built => k_is)
    (case c__law_built => k_is)
    (case k__law_built => k_is)
    (case a__law_whole => k_is)
    (case l__law_whole => k_is)
    (case c__law_whole => k_is)
    (case k__law_whole => k_is)
    (case a__law_frac => k_is)
    (case l__law_frac => k_is)
    (case c__law_frac => k_is)
    (case k__law_frac => k_is)
    (case a__law_fits => k_is)
    (case l__law_fits => k_is)
    (case c__law_fits => k_is)
    (case k__law_fits => k_is)
    (case a_common_under => k_is)
    (case l_common_under => k_is)
    (case c_common_under => k_is)
    (case k_common_under => k_is)
    (case a_scaled => k_is)
    (case l_scaled => k_is)
    (case c_scaled => k_is)
    (case k_scaled => k_is)
    (case a_tail_sums => k_is)
    (case l_tail_sums => k_is)
    (case c_tail_sums => k_is)
    (case k_tail_sums => k_is)
    (case a_Buyer___init__ => k_is)
    (case i_Buyer___init__ => k_is)
    (case l_Buyer___init__ => k_is)
    (case c_Buyer___init__ => k_is)
    (case k_Buyer___init__ => k_is)
    (case a_Buyer_income => k_is)
    (case i_Buyer_income => k_is)
    (case l_Buyer_income => k_is)
    (case c_Buyer_income => k_is)
    (case k_Buyer_income => k_is)
    (case a_Buyer_income_points => k_is)
    (case i_Buyer_income_points => k_is)
    (case l_Buyer_income_points => k_is)
    (case c_Buyer_income_points => k_is)
    (case k_Buyer_income_points => k_is)
    (case a_bends_down => k_is)
    (case l_bends_down => k_is)
    (case c_bends_down => k_is)
    (case k_bends_down => k_is)
    (case a_lid_places => k_is)
    (case l_lid_places => k_is)
    (case c_lid_places => k_is)
    (case k_lid_places => k_is)
    (case a_slope_parts => k_is)
    (case l_slope_parts => k_is)
    (case c_slope_parts => k_is)
    (case k_slope_parts => k_is)
    (case a_Buyer_number => k_is)
    (case i_Buyer_number => k_is)
    (case l_Buyer_number => k_is)
    (case c_Buyer_number => k_is)
    (case k_Buyer_number => k_is)
    (case a_smooth_runs => k_is)
    (case l_smooth_runs => k_is)
    (case c_smooth_runs => k_is)
    (case k_smooth_runs => k_is)
    (case a_smooth_numbers => k_is)
    (case l_smooth_numbers => k_is)
    (case c_smooth_numbers => k_is)
    (case k_smooth_numbers => k_is)
    (case a_plain_numbers => k_is)
    (case l_plain_numbers => k_is)
    (case c_plain_numbers => k_is)
    (case k_plain_numbers => k_is)
    (case a__law_numbers_hold => k_is)
    (case l__law_numbers_hold => k_is)
    (case c__law_numbers_hold => k_is)
    (case k__law_numbers_hold => k_is)
    (case a__law_asked => k_is)
    (case l__law_asked => k_is)
    (case c__law_asked => k_is)
    (case k__law_asked => k_is)
    (case a_law => k_is)
    (case l_law => k_is)
    (case c_law => k_is)
    (case k_law => k_is)
    (case pg_Frac => k_is)
    (case hd_Frac => k_is)
    (case po_Frac => k_is)
    (case sa_Frac => k_is)
    (case mk_Frac => k_is)
    (case kc_Frac => k_is)
    (case na_Frac_num => k_is)
    (case na_Frac_den => k_is)
    (case y0_Frac => k_is)
    (case y1_Frac => k_is)
    (case y2_Frac => k_is)
    (case y3_Frac => k_is)
    (case yb0_Frac => k_is)
    (case yb1_Frac => k_is)
    (case yb2_Frac => k_is)
    (case yb3_Frac => k_is)
    (case yb4_Frac => k_is)
    (case yb5_Frac => k_is)
    (case yo0_Frac => k_is)
    (case yo1_Frac => k_is)
    (case yo2_Frac => k_is)
    (case yo3_Frac => k_is)
    (case yo4_Frac => k_is)
    (case ne_Frac_Offer => rfl)
    (case su_Frac_Offer => k_is)
    (case ne_Frac_Buyer => rfl)
    (case su_Frac_Buyer => k_is)
    (case pg_Offer => k_is)
    (case hd_Offer => k_is)
    (case po_Offer => k_is)
    (case sa_Offer => k_is)
    (case mk_Offer => k_is)
    (case kc_Offer => k_is)
    (case na_Offer_prizes => k_is)
    (case y0_Offer => k_is)
    (case y1_Offer => k_is)
    (case y2_Offer => k_is)
    (case y3_Offer => k_is)
    (case yb0_Offer => k_is)
    (case yb1_Offer => k_is)
    (case yb2_Offer => k_is)
    (case yb3_Offer => k_is)
    (case yb4_Offer => k_is)
    (case yb5_Offer => k_is)
    (case yo0_Offer => k_is)
    (case yo1_Offer => k_is)
    (case yo2_Offer => k_is)
    (case yo3_Offer => k_is)
    (case yo4_Offer => k_is)
    (case ne_Offer_Frac => rfl)
    (case su_Offer_Frac => k_is)
    (case ne_Offer_Buyer => rfl)
    (case su_Offer_Buyer => k_is)
    (case pg_Buyer => k_is)
    (case hd_Buyer => k_is)
    (case po_Buyer => k_is)
    (case sa_Buyer => k_is)
    (case mk_Buyer => k_is)
    (case kc_Buyer => k_is)
    (case na_Buyer_under => k_is)
    (case na_Buyer_weights => k_is)
    (case na_Buyer_worths => k_is)
    (case na_Buyer_tails => k_is)
    (case y0_Buyer => k_is)
    (case y1_Buyer => k_is)
    (case y2_Buyer => k_is)
    (case y3_Buyer => k_is)
    (case yb0_Buyer => k_is)
    (case yb1_Buyer => k_is)
    (case yb2_Buyer => k_is)
    (case yb3_Buyer => k_is)
    (case yb4_Buyer => k_is)
    (case yb5_Buyer => k_is)
    (case yo0_Buyer => k_is)
    (case yo1_Buyer => k_is)
    (case yo2_Buyer => k_is)
    (case yo3_Buyer => k_is)
    (case yo4_Buyer => k_is)
    (case ne_Buyer_Frac => rfl)
    (case su_Buyer_Frac => k_is)
    (case ne_Buyer_Offer => rfl)
    (case su_Buyer_Offer => k_is)
    (case hget => k_is)
    (case htk => k_is)
    (case hn_abs => k_is)
    (case hn_all => k_is)
    (case hn_bool => k_is)
    (case hn_enumerate => k_is)
    (case hn_int => k_is)
    (case hn_isinstance => k_is)
    (case hn_len => k_is)
    (case hn_list => k_is)
    (case hn_range => k_is)
    (case hn_reversed => k_is)
    (case hn_str => k_is)
    (case hn_sum => k_is)
    (case hn_tuple => k_is)
    (case hm_gcd => k_is)
    (case hm_lcm => k_is)
    (case hk_MOST_OVER => k_is)
    (case hk_MOST_UNDER => k_is)
    (case hk_MOST_WEIGHT => k_is)
    (case hk_MOST_PRIZES => k_is)
