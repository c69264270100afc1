import PyProof.Rows.All
import Wide.All
import OpenK.AllK
import Wide.FinOn
import PySem.Challenge.RW_choicerealm_k50_heights_judged
import HandS.ForMost
import HandS.ForExc
import HandS.CallSlots
import HandS.IsInst
import HandS.Gcd
import HandS.Wide
import HandS.WideBits
import HandS.ExcInit
import HandS.ExcIs
import HandS.ExcField
import HandS.TupAny
import HandS.Defaults
import HandS.MakeKwOnly
import HandS.Style
import HandS.Rev
import HandS.RevRange
import HandS.Zip
import HandS.ClsMeth
import KE.GoesEnum
import KE.GoesMore
import HandS.Lambda
import HandS.CallLocal

set_option Elab.async false
set_option linter.all false
set_option maxRecDepth 100000
/-! Z0: data (D), how data lies in the abstract heap (Rep, Own), what a piece of code keeps (Fra), a frame's state (Stt) -/
namespace Z
open PySem PySem.Spec L2
open PyProof.Rows hiding St

/-- values as trees -/
inductive D where
  | non | bl (b : Bool) | int (i : Int) | str (x : Str)
  | lst (xs : List D) | tup (xs : List D) | ins (c : Nat) (fs : List D)
  /-- a list of the outside or of the module: read, never changed -/
  | kls (xs : List D)
  /-- an own class -/
  | cls (c : Nat)

/-- own classes: where they stand, their attributes' names -/
structure Tab where
  cm : Nat → Addr
  fl : Nat → List Str

abbrev Env := List (Option D)

/-- a list that stands beyond reach -/
def KsL (K : PySem.W.Frag) (H : Hp) (a : Addr) (vs : List V) : Prop :=
  (∃ o, H a = some (.frz o (.lst vs))) ∨
    ∃ (o : Obj) (its : Array Value) (n : Nat), K.lookup a = some o ∧ o.cls = .type "list" ∧ o.dict = none ∧ o.data = .seq its n ∧ its.size ≤ sizeLine ∧ Vals vs its.toList
theorem KsL.sql {K : PySem.W.Frag} {H : Hp} {a : Addr} {vs : List V} (h : KsL K H a vs) : SqL K H a vs := by
  rcases h with h | h
  · exact .inl (.inr h)
  · exact .inr h

mutual
def Rep (K : PySem.W.Frag) (T : Tab) (H : Hp) (S : Addr → Prop) : D → V → Prop
  | .non, v => v = .non
  | .bl b, v => v = .bl b
  | .int i, v => v = .int i
  | .str x, v => v = .str x
  | .cls c, v => v = .ref (T.cm c)
  | .lst xs, v => ∃ a vs, v = .ref a ∧ H a = some (.lst vs) ∧ S a ∧ Reps K T H S xs vs
  | .kls xs, v => ∃ a vs, v = .ref a ∧ KsL K H a vs ∧ Reps K T H S xs vs
  | .tup xs, v => ∃ a vs, v = .ref a ∧ SqT K H a vs ∧ Reps K T H S xs vs
  | .ins c fs, v => ∃ a dx vs, v = .ref a ∧ H a = some (.ins (T.cm c) dx ((T.fl c).zip vs)) ∧ S a ∧ fs.length ≤ (T.fl c).length ∧ Reps K T H S fs vs
def Reps (K : PySem.W.Frag) (T : Tab) (H : Hp) (S : Addr → Prop) : List D → List V → Prop
  | [], vs => vs = []
  | d :: ds, vs => ∃ v ws, vs = v :: ws ∧ Rep K T H S d v ∧ Reps K T H S ds ws
end

section
variable {K : PySem.W.Frag} {T : Tab} {H H' : Hp} {S S' : Addr → Prop}

mutual
theorem Rep.mono (k1 : ∀ a vs, H a = some (.lst vs) → S a → H' a = some (.lst vs) ∧ S' a) (k0 : ∀ a vs, KsL K H a vs → KsL K H' a vs) (k2 : ∀ a vs, SqT K H a vs → SqT K H' a vs) (k3 : ∀ a C dx fs, H a = some (.ins C dx fs) → S a → H' a = some (.ins C dx fs) ∧ S' a) :
    ∀ (d : D) (v : V), Rep K T H S d v → Rep K T H' S' d v
  | .non, v, h => by simp only [Rep] at h ⊢; exact h
  | .bl b, v, h => by simp only [Rep] at h ⊢; exact h
  | .int i, v, h => by simp only [Rep] at h ⊢; exact h
  | .str x, v, h => by simp only [Rep] at h ⊢; exact h
  | .cls c, v, h => by simp only [Rep] at h ⊢; exact h
  | .lst xs, v, h => by
    simp only [Rep] at h ⊢
    obtain ⟨a, vs, e, f, s, r⟩ := h
    obtain ⟨f', s'⟩ := k1 _ _ f s
    exact ⟨a, vs, e, f', s', Reps.mono k1 k0 k2 k3 xs vs r⟩
  | .kls xs, v, h => by
    simp only [Rep] at h ⊢
    obtain ⟨a, vs, e, f, r⟩ := h
    exact ⟨a, vs, e, k0 _ _ f, Reps.mono k1 k0 k2 k3 xs vs r⟩
  | .tup xs, v, h => by
    simp only [Rep] at h ⊢
    obtain ⟨a, vs, e, f, r⟩ := h
    exact ⟨a, vs, e, k2 _ _ f, Reps.mono k1 k0 k2 k3 xs vs r⟩
  | .ins c fs, v, h => by
    simp only [Rep] at h ⊢
    obtain ⟨a, dx, vs, e, f, s, l, r⟩ := h
    obtain ⟨f', s'⟩ := k3 _ _ _ _ f s
    exact ⟨a, dx, vs, e, f', s', l, Reps.mono k1 k0 k2 k3 fs vs r⟩
theorem Reps.mono (k1 : ∀ a vs, H a = some (.lst vs) → S a → H' a = some (.lst vs) ∧ S' a) (k0 : ∀ a vs, KsL K H a vs → KsL K H' a vs) (k2 : ∀ a vs, SqT K H a vs → SqT K H' a vs) (k3 : ∀ a C dx fs, H a = some (.ins C dx fs) → S a → H' a = some (.ins C dx fs) ∧ S' a) :
    ∀ (ds : List D) (vs : List V), Reps K T H S ds vs → Reps K T H' S' ds vs
  | [], vs, h => by simp only [Reps] at h ⊢; exact h
  | d :: ds, vs, h => by
    simp only [Reps] at h ⊢
    obtain ⟨v, ws, e, r1, r2⟩ := h
    exact ⟨v, ws, e, Rep.mono k1 k0 k2 k3 d v r1, Reps.mono k1 k0 k2 k3 ds ws r2⟩
end
theorem Reps.length : ∀ {ds : List D} {vs : List V}, Reps K T H S ds vs → ds.length = vs.length
  | [], vs, h => by simp only [Reps] at h; subst h; rfl
  | d :: ds, vs, h => by
    simp only [Reps] at h
    obtain ⟨v, ws, rfl, _, r⟩ := h
    simp [Reps.length r]
theorem Reps.get : ∀ {ds : List D} {vs : List V} {i : Nat} {d : D}, Reps K T H S ds vs → ds[i]? = some d → ∃ v, vs[i]? = some v ∧ Rep K T H S d v
  | [], vs, i, d, h, e => by simp at e
  | d0 :: ds, vs, 0, d, h, e => by
    simp only [Reps] at h
    obtain ⟨v, ws, rfl, r, _⟩ := h
    simp at e; subst e
    exact ⟨v, rfl, r⟩
  | d0 :: ds, vs, i + 1, d, h, e => by
    simp only [Reps] at h
    obtain ⟨v, ws, rfl, _, r⟩ := h
    simpa using Reps.get r (i := i) (by simpa using e)
theorem Reps.getV : ∀ {ds : List D} {vs : List V} {i : Nat} {v : V}, Reps K T H S ds vs → vs[i]? = some v → ∃ d, ds[i]? = some d ∧ Rep K T H S d v
  | [], vs, i, d, h, e => by simp only [Reps] at h; subst h; simp at e
  | d0 :: ds, vs, 0, v, h, e => by
    simp only [Reps] at h
    obtain ⟨v', ws, rfl, r, _⟩ := h
    simp at e; subst e
    exact ⟨d0, rfl, r⟩
  | d0 :: ds, vs, i + 1, v, h, e => by
    simp only [Reps] at h
    obtain ⟨v', ws, rfl, _, r⟩ := h
    simpa using Reps.getV r (i := i) (by simpa using e)
theorem Reps.append : ∀ {ds es : List D} {vs ws : List V}, Reps K T H S ds vs → Reps K T H S es ws → Reps K T H S (ds ++ es) (vs ++ ws)
  | [], es, vs, ws, h, g => by simp only [Reps] at h; subst h; exact g
  | d :: ds, es, vs, ws, h, g => by
    simp only [Reps] at h
    obtain ⟨v, us, rfl, r1, r2⟩ := h
    simp only [List.cons_append, Reps]
    exact ⟨v, us ++ ws, rfl, r1, Reps.append r2 g⟩
theorem Reps.take : ∀ {ds : List D} {vs : List V} (n : Nat), Reps K T H S ds vs → Reps K T H S (ds.take n) (vs.take n)
  | ds, vs, 0, h => by simp [Reps]
  | [], vs, n + 1, h => by simp only [Reps] at h; subst h; simp [Reps]
  | d :: ds, vs, n + 1, h => by
    simp only [Reps] at h
    obtain ⟨v, us, rfl, r1, r2⟩ := h
    simp only [List.take_succ_cons, Reps]
    exact ⟨v, us.take n, rfl, r1, Reps.take n r2⟩
theorem Reps.drop : ∀ {ds : List D} {vs : List V} (n : Nat), Reps K T H S ds vs → Reps K T H S (ds.drop n) (vs.drop n)
  | ds, vs, 0, h => by simpa using h
  | [], vs, n + 1, h => by simp only [Reps] at h; subst h; simp [Reps]
  | d :: ds, vs, n + 1, h => by
    simp only [Reps] at h
    obtain ⟨v, us, rfl, r1, r2⟩ := h
    simpa using Reps.drop n r2
theorem Reps.set : ∀ {ds : List D} {vs : List V} (i : Nat) {d : D} {v : V}, Reps K T H S ds vs → Rep K T H S d v → Reps K T H S (ds.set i d) (vs.set i v)
  | [], vs, i, d, v, h, r => by simp only [Reps] at h; subst h; simp [Reps]
  | d0 :: ds, vs, 0, d, v, h, r => by
    simp only [Reps] at h
    obtain ⟨v', us, rfl, r1, r2⟩ := h
    simp only [List.set_cons_zero, Reps]
    exact ⟨v, us, rfl, r, r2⟩
  | d0 :: ds, vs, i + 1, d, v, h, r => by
    simp only [Reps] at h
    obtain ⟨v', us, rfl, r1, r2⟩ := h
    simp only [List.set_cons_succ, Reps]
    exact ⟨v', us.set i v, rfl, r1, Reps.set i r2 r⟩
theorem Reps.reverse : ∀ {ds : List D} {vs : List V}, Reps K T H S ds vs → Reps K T H S ds.reverse vs.reverse
  | [], vs, h => by simp only [Reps] at h; subst h; simp [Reps]
  | d :: ds, vs, h => by
    simp only [Reps] at h
    obtain ⟨v, us, rfl, r1, r2⟩ := h
    simp only [List.reverse_cons]
    exact Reps.append (Reps.reverse r2) (by simp only [Reps]; exact ⟨v, [], rfl, r1, rfl⟩)
theorem Reps.dropLast {ds : List D} {vs : List V} (h : Reps K T H S ds vs) : Reps K T H S ds.dropLast vs.dropLast := by
  rw [List.dropLast_eq_take, List.dropLast_eq_take, ← h.length]
  exact h.take _
end

/-- three lists, place by place -/
inductive O3 (P : D → V → List Addr → Prop) : List D → List V → List (List Addr) → Prop where
  | nil : O3 P [] [] []
  | cons {d v F ds vs Fs} : P d v F → O3 P ds vs Fs → O3 P (d :: ds) (v :: vs) (F :: Fs)

/-- data of which the upper k levels are owned: F the owned objects -/
def Own (K : PySem.W.Frag) (T : Tab) (H : Hp) (S : Addr → Prop) : Nat → D → V → List Addr → Prop
  | 0, d, v, F => F = [] ∧ Rep K T H S d v
  | k + 1, .lst xs, v, F => ∃ a vs Fs, v = .ref a ∧ H a = some (.lst vs) ∧ F = a :: Fs.flatten ∧ O3 (Own K T H S k) xs vs Fs
  | k + 1, .ins c fs, v, F => ∃ a dx vs Fs, v = .ref a ∧ H a = some (.ins (T.cm c) dx ((T.fl c).zip vs)) ∧ F = a :: Fs.flatten ∧ fs.length ≤ (T.fl c).length ∧ O3 (Own K T H S k) fs vs Fs
  | _ + 1, d, v, F => F = [] ∧ Rep K T H S d v

section
variable {K : PySem.W.Frag} {T : Tab} {H H' : Hp} {S S' : Addr → Prop}
theorem O3.mono {P P' : D → V → List Addr → Prop} : ∀ {ds : List D} {vs : List V} {Fs : List (List Addr)}, O3 P ds vs Fs → (∀ d v F, F ∈ Fs → P d v F → P' d v F) → O3 P' ds vs Fs
  | _, _, _, .nil, _ => .nil
  | _, _, _, .cons p r, h => .cons (h _ _ _ List.mem_cons_self p) (O3.mono r fun d v F m q => h d v F (List.mem_cons_of_mem _ m) q)
theorem O3.length {P : D → V → List Addr → Prop} : ∀ {ds : List D} {vs : List V} {Fs : List (List Addr)}, O3 P ds vs Fs → ds.length = vs.length ∧ Fs.length = vs.length
  | _, _, _, .nil => ⟨rfl, rfl⟩
  | _, _, _, .cons p r => by obtain ⟨a, b⟩ := O3.length r; simp [a, b]
/-- data that is not owned is owned at any level, if it holds no object that may be owned -/
theorem Own.rep0 {d : D} {v : V} (h : Rep K T H S d v) : Own K T H S 0 d v [] := by simp only [Own]; exact ⟨trivial, h⟩
theorem own_zero {d : D} {v : V} {F : List Addr} : Own K T H S 0 d v F ↔ F = [] ∧ Rep K T H S d v := by simp only [Own]
theorem o3_rep : ∀ {ds : List D} {vs : List V} {Fs : List (List Addr)}, O3 (Own K T H S 0) ds vs Fs → Reps K T H S ds vs ∧ Fs.flatten = []
  | _, _, _, .nil => by simp [Reps]
  | _, _, _, .cons p r => by
    obtain ⟨r1, r2⟩ := o3_rep r
    obtain ⟨e, q⟩ := own_zero.mp p
    subst e
    simp only [Reps, List.flatten_cons, List.nil_append]
    exact ⟨⟨_, _, rfl, q, r1⟩, r2⟩
theorem rep_o3 : ∀ {ds : List D} {vs : List V}, Reps K T H S ds vs → ∃ Fs, O3 (Own K T H S 0) ds vs Fs ∧ Fs.flatten = []
  | [], vs, h => by simp only [Reps] at h; subst h; exact ⟨[], .nil, rfl⟩
  | d :: ds, vs, h => by
    simp only [Reps] at h
    obtain ⟨v, ws, rfl, r1, r2⟩ := h
    obtain ⟨Fs, o, e⟩ := rep_o3 r2
    exact ⟨[] :: Fs, .cons (own_zero.mpr ⟨rfl, r1⟩) o, by simpa using e⟩
/-- an owned list whose items are not owned -/
theorem own_lst1 {xs : List D} {v : V} {F : List Addr} : Own K T H S 1 (.lst xs) v F ↔ ∃ a vs, v = .ref a ∧ H a = some (.lst vs) ∧ F = [a] ∧ Reps K T H S xs vs := by
  simp only [Own]
  constructor
  · rintro ⟨a, vs, Fs, rfl, h, rfl, o⟩
    obtain ⟨r, e⟩ := o3_rep o
    exact ⟨a, vs, rfl, h, by rw [e], r⟩
  · rintro ⟨a, vs, rfl, h, rfl, r⟩
    obtain ⟨Fs, o, e⟩ := rep_o3 r
    exact ⟨a, vs, Fs, rfl, h, by rw [e], o⟩
theorem own_ins1 {c : Nat} {fs : List D} {v : V} {F : List Addr} : Own K T H S 1 (.ins c fs) v F ↔ ∃ a dx vs, v = .ref a ∧ H a = some (.ins (T.cm c) dx ((T.fl c).zip vs)) ∧ F = [a] ∧ fs.length ≤ (T.fl c).length ∧ Reps K T H S fs vs := by
  simp only [Own]
  constructor
  · rintro ⟨a, dx, vs, Fs, rfl, h, rfl, l, o⟩
    obtain ⟨r, e⟩ := o3_rep o
    exact ⟨a, dx, vs, rfl, h, by rw [e], l, r⟩
  · rintro ⟨a, dx, vs, rfl, h, rfl, l, r⟩
    obtain ⟨Fs, o, e⟩ := rep_o3 r
    exact ⟨a, dx, vs, Fs, rfl, h, by rw [e], l, o⟩
end

/-- what a piece of code keeps: O what it owned before, O' what is owned behind -/
structure Fra (H : Hp) (S O : Addr → Prop) (H' : Hp) (S' O' : Addr → Prop) : Prop where
  kp : ∀ b o, H b = some o → ¬ O b → H' b = some o
  sm : ∀ b, S b → S' b
  so : ∀ b, S' b → S b ∨ O b ∨ H b = none
  oo : ∀ b, O' b → O b ∨ H b = none
section
variable {H H1 H2 : Hp} {S S1 S2 O O1 O2 : Addr → Prop}
theorem Fra.refl : Fra H S O H S O := ⟨fun _ _ h _ => h, fun _ h => h, fun _ h => .inl h, fun _ h => .inl h⟩
theorem Fra.none_of (f : Fra H S O H1 S1 O1) {b : Addr} (h : H1 b = none) : O b ∨ H b = none := by
  cases q : H b with
  | none => exact .inr rfl
  | some o =>
    by_cases z : O b
    · exact .inl z
    · rw [f.kp b o q z] at h; cases h
theorem Fra.trans (f : Fra H S O H1 S1 O1) (g : Fra H1 S1 O1 H2 S2 O2) : Fra H S O H2 S2 O2 where
  kp := fun b o h n => g.kp b o (f.kp b o h n) fun z => by
    rcases f.oo b z with q | q
    · exact n q
    · rw [h] at q; cases q
  sm := fun b h => g.sm b (f.sm b h)
  so := fun b h => by
    rcases g.so b h with z | z | z
    · exact f.so b z
    · exact .inr (f.oo b z)
    · exact .inr (f.none_of z)
  oo := fun b h => by
    rcases g.oo b h with z | z
    · exact f.oo b z
    · exact f.none_of z
/-- less is owned behind -/
theorem Fra.less (f : Fra H S O H1 S1 O1) (h : ∀ b, O2 b → O1 b) : Fra H S O H1 S1 O2 := ⟨f.kp, f.sm, f.so, fun b z => f.oo b (h b z)⟩
/-- more was owned before -/
theorem Fra.more (f : Fra H S O H1 S1 O1) (h : ∀ b, O b → O2 b) : Fra H S O2 H1 S1 O1 :=
  ⟨fun b o e n => f.kp b o e fun z => n (h b z), f.sm, fun b z => (f.so b z).imp id (Or.imp_left (h b)), fun b z => (f.oo b z).imp_left (h b)⟩
end

/-- the owned objects: no two names own the same, none of them is among the shared ones; the shared ones are there -/
structure Sep (S : Addr → Prop) (H : Hp) (fp : Nat → List Addr) : Prop where
  mu : ∀ i a, a ∈ fp i → Mut (H a)
  nd : ∀ i, (fp i).Nodup
  dj : ∀ i j a, a ∈ fp i → a ∈ fp j → i = j
  ns : ∀ i a, a ∈ fp i → ¬ S a
  al : ∀ a, S a → ∃ o, H a = some o
def Ow (fp : Nat → List Addr) (a : Addr) : Prop := ∃ i, a ∈ fp i

section
variable {K : PySem.W.Frag} {T : Tab} {H H' : Hp} {S S' O' : Addr → Prop} {fp : Nat → List Addr}
theorem not_ow_of {P : Addr → Prop} {a : Addr} {o : HO} (mu : ∀ a, P a → Mut (H a)) (h : H a = some o) (n : ¬ Mut (some o)) : ¬ P a := fun z => by
  have q := mu a z
  rw [h] at q
  exact n q
/-- a stable place: what is not owned by P stays -/
structure Stay (K : PySem.W.Frag) (H : Hp) (S : Addr → Prop) (H' : Hp) (S' : Addr → Prop) : Prop where
  l : ∀ a vs, H a = some (.lst vs) → S a → H' a = some (.lst vs) ∧ S' a
  c : ∀ a vs, KsL K H a vs → KsL K H' a vs
  t : ∀ a vs, SqT K H a vs → SqT K H' a vs
  i : ∀ a C dx fs, H a = some (.ins C dx fs) → S a → H' a = some (.ins C dx fs) ∧ S' a
theorem Stay.of {O : Addr → Prop} (mu : ∀ a, O a → Mut (H a)) (ns : ∀ a, O a → ¬ S a) (f : Fra H S O H' S' O') : Stay K H S H' S' := by
  refine ⟨fun a vs h s => ⟨f.kp a _ h fun z => ns a z s, f.sm a s⟩, fun a vs h => ?_, fun a vs h => ?_, fun a C dx fs h s => ⟨f.kp a _ h fun z => ns a z s, f.sm a s⟩⟩
  · rcases h with ⟨o, h⟩ | h
    · exact .inl ⟨o, f.kp a _ h (not_ow_of mu h fun z => z)⟩
    · exact .inr h
  · rcases h with (h | ⟨o, h⟩) | h
    · exact .inl (.inl (f.kp a _ h (not_ow_of mu h fun z => z)))
    · exact .inl (.inr ⟨o, f.kp a _ h (not_ow_of mu h fun z => z)⟩)
    · exact .inr h
theorem Stay.rep (s : Stay K H S H' S') {d : D} {v : V} (h : Rep K T H S d v) : Rep K T H' S' d v := Rep.mono s.l s.c s.t s.i d v h
theorem Stay.reps (s : Stay K H S H' S') {d : List D} {v : List V} (h : Reps K T H S d v) : Reps K T H' S' d v := Reps.mono s.l s.c s.t s.i d v h
theorem Sep.stay (p : Sep S H fp) (f : Fra H S (Ow fp) H' S' O') : Stay K H S H' S' := .of (fun a ⟨i, h⟩ => p.mu i a h) (fun a ⟨i, h⟩ => p.ns i a h) f
/-- owned data stays where the shared stays and its own objects stay -/
theorem Own.stay (s : Stay K H S H' S') : ∀ {k : Nat} {d : D} {v : V} {F : List Addr}, Own K T H S k d v F → (∀ a ∈ F, ∀ o, H a = some o → H' a = some o) → Own K T H' S' k d v F := by
  intro k
  induction k with
  | zero => intro d v F h _; simp only [Own] at h ⊢; exact ⟨h.1, s.rep h.2⟩
  | succ k ih =>
    intro d v F h kp
    cases d with
    | lst xs =>
      simp only [Own] at h ⊢
      obtain ⟨a, vs, Fs, e, h1, rfl, o⟩ := h
      refine ⟨a, vs, Fs, e, kp a List.mem_cons_self _ h1, rfl, o.mono fun d v F m q => ih q fun b hb => kp b (List.mem_cons_of_mem _ (List.mem_flatten.mpr ⟨F, m, hb⟩))⟩
    | ins c fs =>
      simp only [Own] at h ⊢
      obtain ⟨a, dx, vs, Fs, e, h1, rfl, l, o⟩ := h
      refine ⟨a, dx, vs, Fs, e, kp a List.mem_cons_self _ h1, rfl, l, o.mono fun d v F m q => ih q fun b hb => kp b (List.mem_cons_of_mem _ (List.mem_flatten.mpr ⟨F, m, hb⟩))⟩
    | _ => simp only [Own] at h ⊢; exact ⟨h.1, s.rep h.2⟩
/-- an owned object is a list or an instance that stands in H -/
theorem Own.mut : ∀ {k : Nat} {d : D} {v : V} {F : List Addr}, Own K T H S k d v F → ∀ a ∈ F, Mut (H a) := by
  intro k
  induction k with
  | zero => intro d v F h a m; simp only [Own] at h; rw [h.1] at m; cases m
  | succ k ih =>
    have go : ∀ {ds : List D} {vs : List V} {Fs : List (List Addr)}, O3 (Own K T H S k) ds vs Fs → ∀ a ∈ Fs.flatten, Mut (H a) := by
      intro ds vs Fs o
      induction o with
      | nil => intro a m; simp at m
      | cons p _ ih2 =>
        intro a m
        simp only [List.flatten_cons, List.mem_append] at m
        rcases m with m | m
        · exact ih p a m
        · exact ih2 a m
    intro d v F h a m
    cases d with
    | lst xs =>
      simp only [Own] at h
      obtain ⟨b, vs, Fs, e, h1, rfl, o⟩ := h
      rcases List.mem_cons.mp m with q | q
      · rw [q, h1]; exact trivial
      · exact go o a q
    | ins c fs =>
      simp only [Own] at h
      obtain ⟨b, dx, vs, Fs, e, h1, rfl, l, o⟩ := h
      rcases List.mem_cons.mp m with q | q
      · rw [q, h1]; exact trivial
      · exact go o a q
    | _ => simp only [Own] at h; rw [h.1] at m; cases m
/-- owned data is given away to the shared -/
theorem Own.freeze : ∀ {k : Nat} {d : D} {v : V} {F : List Addr}, Own K T H S k d v F → Rep K T H (fun a => S a ∨ a ∈ F) d v := by
  have stay : ∀ {S1 S2 : Addr → Prop}, (∀ a, S1 a → S2 a) → Stay K H S1 H S2 := fun {S1 S2} h => ⟨fun a vs z s => ⟨z, h a s⟩, fun _ _ z => z, fun _ _ z => z, fun a _ _ _ z s => ⟨z, h a s⟩⟩
  intro k
  induction k with
  | zero => intro d v F h; simp only [Own] at h; exact (stay fun a s => .inl s).rep h.2
  | succ k ih =>
    have go : ∀ {ds : List D} {vs : List V} {Fs : List (List Addr)}, O3 (Own K T H S k) ds vs Fs → Reps K T H (fun a => S a ∨ a ∈ Fs.flatten) ds vs := by
      intro ds vs Fs o
      induction o with
      | nil => simp [Reps]
      | @cons d v F ds vs Fs p _ ih2 =>
        simp only [Reps]
        refine ⟨v, vs, rfl, ?_, ?_⟩
        · exact (stay fun a s => by rcases s with s | s; exact .inl s; exact .inr (by simp [s])).rep (ih p)
        · exact (stay fun a s => by rcases s with s | s; exact .inl s; exact .inr (List.mem_append_right _ s)).reps ih2
    intro d v F h
    cases d with
    | lst xs =>
      simp only [Own] at h
      obtain ⟨b, vs, Fs, e, h1, rfl, o⟩ := h
      simp only [Rep]
      exact ⟨b, vs, e, h1, .inr List.mem_cons_self, (stay fun a s => s.imp id (List.mem_cons_of_mem _)).reps (go o)⟩
    | ins c fs =>
      simp only [Own] at h
      obtain ⟨b, dx, vs, Fs, e, h1, rfl, l, o⟩ := h
      simp only [Rep]
      exact ⟨b, dx, vs, e, h1, .inr List.mem_cons_self, l, (stay fun a s => s.imp id (List.mem_cons_of_mem _)).reps (go o)⟩
    | _ => simp only [Own] at h; exact (stay fun a s => .inl s).rep h.2
theorem Stay.more {S1 S2 : Addr → Prop} (h : ∀ a, S1 a → S2 a) : Stay K H S1 H S2 := ⟨fun a vs z s => ⟨z, h a s⟩, fun _ _ z => z, fun _ _ z => z, fun a _ _ _ z s => ⟨z, h a s⟩⟩
end
end Z
set_option Elab.async false
set_option linter.all false
set_option maxRecDepth 100000
/-! Z1: results (R), the state of a frame (Stt), the judgements over data -/
namespace Z
open PySem PySem.Spec L2
open PyProof.Rows hiding St

/-- how a piece of code ends: with a value; with an own error; or nothing is said -/
inductive R (α : Type) where
  | ok (a : α) | er (c : Nat) (fs : List D) | bad
@[inline] def R.bind {α β : Type} (x : R α) (f : α → R β) : R β := match x with
  | .ok a => f a
  | .er c fs => .er c fs
  | .bad => .bad
instance : Monad R where
  pure := .ok
  bind := R.bind
theorem R.bind_ok {α β : Type} {a : α} {f : α → R β} : (R.ok a).bind f = f a := rfl
theorem R.bind_er {α β : Type} {c : Nat} {fs : List D} {f : α → R β} : (R.er c fs).bind f = .er c fs := rfl
theorem R.bind_bad {α β : Type} {f : α → R β} : (R.bad : R α).bind f = .bad := rfl

structure Stt (K : PySem.W.Frag) (T : Tab) (Γ : List Nat) (S : Addr → Prop) (σ : St) (H : Hp) (ρ : Env) (fp : Nat → List Addr) : Prop where
  sep : Sep S H fp
  len : ρ.length = σ.length
  gl : Γ.length = σ.length
  sl : ∀ i d, ρ[i]? = some (some d) → ∃ v, σ[i]? = some (some v) ∧ Own K T H S (Γ.getD i 0) d v (fp i)

/-- a value at hand -/
structure Val (K : PySem.W.Frag) (T : Tab) (S : Addr → Prop) (H : Hp) (fp : Nat → List Addr) (k : Nat) (d : D) (v : V) (Fv : List Addr) : Prop where
  own : Own K T H S k d v Fv
  nd : Fv.Nodup
  ns : ∀ a ∈ Fv, ¬ S a
  dj : ∀ a ∈ Fv, ∀ i, a ∉ fp i

/-- an exception of the class c with these attributes -/
def OutX (K : PySem.W.Frag) (T : Tab) (W : WX) (σ : St) (H : Hp) (S O : Addr → Prop) (c : Nat) (fs : List D) : Prop :=
  ∀ (dx : Addr) (xs : List (Str × V)) (vs : List V) (H' : Hp) (S' : Addr → Prop), H' dx = some (.xd xs) → (∀ (j : Nat) (f : Str), (T.fl c)[j]? = some f → xs.lookup f = vs[j]?) → Reps K T H' S' fs vs →
    Fra H S O H' S' (fun _ => False) → (∀ a, S' a → ∃ o, H' a = some o) → W (.ref (T.cm c)) (some dx) σ H'

def OutE (K : PySem.W.Frag) (T : Tab) (W : WX) (Γ' : List Nat) (k : Nat) (σ : St) (H : Hp) (S : Addr → Prop) (fp : Nat → List Addr) (Q : VK) : R (D × Env) → Prop
  | .ok (d, ρ') => ∀ v H' S' fp' Fv, Stt K T Γ' S' σ H' ρ' fp' → Val K T S' H' fp' k d v Fv → Fra H S (Ow fp) H' S' (fun a => Ow fp' a ∨ a ∈ Fv) → Q v H'
  | .er c fs => OutX K T W σ H S (Ow fp) c fs
  | .bad => False
def OutT (K : PySem.W.Frag) (T : Tab) (W : WX) (Γ' : List Nat) (σ : St) (H : Hp) (S : Addr → Prop) (fp : Nat → List Addr) (Q : Bool → Hp → Prop) : R (Bool × Env) → Prop
  | .ok (b, ρ') => ∀ H' S' fp', Stt K T Γ' S' σ H' ρ' fp' → Fra H S (Ow fp) H' S' (Ow fp') → Q b H'
  | .er c fs => OutX K T W σ H S (Ow fp) c fs
  | .bad => False
def OutA (K : PySem.W.Frag) (T : Tab) (W : WX) (Γ' : List Nat) (σ : St) (H : Hp) (S : Addr → Prop) (fp : Nat → List Addr) (Q : List V → Hp → Prop) : R (List D × Env) → Prop
  | .ok (ds, ρ') => ∀ vs H' S' fp', Stt K T Γ' S' σ H' ρ' fp' → Reps K T H' S' ds vs → Fra H S (Ow fp) H' S' (Ow fp') → Q vs H'
  | .er c fs => OutX K T W σ H S (Ow fp) c fs
  | .bad => False
def tE (K : PySem.W.Frag) (T : Tab) (W : WX) (Γ Γ' : List Nat) (k : Nat) (f : Env → R (D × Env)) : TE := fun σ H Q => ∃ S ρ fp, Stt K T Γ S σ H ρ fp ∧ OutE K T W Γ' k σ H S fp Q (f ρ)
def tT (K : PySem.W.Frag) (T : Tab) (W : WX) (Γ Γ' : List Nat) (f : Env → R (Bool × Env)) : TT := fun σ H Q => ∃ S ρ fp, Stt K T Γ S σ H ρ fp ∧ OutT K T W Γ' σ H S fp Q (f ρ)
def tA (K : PySem.W.Frag) (T : Tab) (W : WX) (Γ Γ' : List Nat) (f : Env → R (List D × Env)) : TA := fun σ H Q => ∃ S ρ fp, Stt K T Γ S σ H ρ fp ∧ OutA K T W Γ' σ H S fp Q (f ρ)

/-- the code around: the own classes, what is wanted of errors -/
structure Cz where
  T : Tab
  W : WX
abbrev DE (X : Cx) (Z : Cz) (Γ : List Nat) (e : Expr) (Γ' : List Nat) (k : Nat) (f : Env → R (D × Env)) : Prop := PE X e (tE X.K Z.T Z.W Γ Γ' k f)
abbrev DT (X : Cx) (Z : Cz) (Γ : List Nat) (e : Expr) (Γ' : List Nat) (f : Env → R (Bool × Env)) : Prop := PT X e (tT X.K Z.T Z.W Γ Γ' f)
abbrev DA (X : Cx) (Z : Cz) (Γ : List Nat) (es : List Expr) (Γ' : List Nat) (f : Env → R (List D × Env)) : Prop := PA X es (tA X.K Z.T Z.W Γ Γ' f)

section
variable {X : Cx} {e : Expr} {es : List Expr} {t t' : TE} {u u' : TT} {r r' : TA}
theorem pe_imp (h : PE X e t) (i : ∀ σ H Q, t' σ H Q → t σ H Q) : PE X e t' := ⟨fun pins s σ H Q I q => h.run pins s σ H Q I (i σ H Q q)⟩
theorem pt_imp (h : PT X e u) (i : ∀ σ H Q, u' σ H Q → u σ H Q) : PT X e u' := ⟨fun pins s σ H Q I q => h.run pins s σ H Q I (i σ H Q q)⟩
theorem pw_imp (h : PW X e u) (i : ∀ σ H Q, u' σ H Q → u σ H Q) : PW X e u' := ⟨fun whole pins s σ H Q I q => h.run whole pins s σ H Q I (i σ H Q q)⟩
theorem pa_imp (h : PA X es r) (i : ∀ σ H Q, r' σ H Q → r σ H Q) : PA X es r' := ⟨fun pos pins s σ H Q I q => h.run pos pins s σ H Q I (i σ H Q q)⟩
end

section
variable {K : PySem.W.Frag} {T : Tab} {W : WX} {Γ Γ1 Γ2 : List Nat} {k : Nat} {σ : St} {H H1 : Hp} {S S1 : Addr → Prop} {fp fp1 : Nat → List Addr} {ρ ρ1 : Env} {Q : VK}
theorem Fra.ow {O : Addr → Prop} {H' : Hp} {S' : Addr → Prop} {fp' : Nat → List Addr} (f : Fra H S O H' S' (fun a => Ow fp' a ∨ a ∈ ([] : List Addr))) : Fra H S O H' S' (Ow fp') := f.less fun b z => .inl z
theorem Fra.ow' {O : Addr → Prop} {H' : Hp} {S' : Addr → Prop} {fp' : Nat → List Addr} (f : Fra H S O H' S' (Ow fp')) : Fra H S O H' S' (fun a => Ow fp' a ∨ a ∈ ([] : List Addr)) := f.less fun b z => z.elim id fun q => nomatch q
theorem OutX.before {c : Nat} {fs : List D} {O O1 : Addr → Prop} (f : Fra H S O H1 S1 O1) (h : OutX K T W σ H S O c fs) : OutX K T W σ H1 S1 O1 c fs :=
  fun dx xs vs H' S' e1 e2 r g al => h dx xs vs H' S' e1 e2 r (f.trans g) al
theorem OutE.before {r : R (D × Env)} {Γ' : List Nat} (f : Fra H S (Ow fp) H1 S1 (Ow fp1)) (h : OutE K T W Γ' k σ H S fp Q r) : OutE K T W Γ' k σ H1 S1 fp1 Q r := by
  cases r with
  | ok a => exact fun v H' S' fp' Fv s x g => h v H' S' fp' Fv s x (f.trans g)
  | er c fs => exact OutX.before f h
  | bad => exact h
theorem OutT.before {r : R (Bool × Env)} {Γ' : List Nat} {Q : Bool → Hp → Prop} (f : Fra H S (Ow fp) H1 S1 (Ow fp1)) (h : OutT K T W Γ' σ H S fp Q r) : OutT K T W Γ' σ H1 S1 fp1 Q r := by
  cases r with
  | ok a => exact fun H' S' fp' s g => h H' S' fp' s (f.trans g)
  | er c fs => exact OutX.before f h
  | bad => exact h
theorem OutA.before {r : R (List D × Env)} {Γ' : List Nat} {Q : List V → Hp → Prop} (f : Fra H S (Ow fp) H1 S1 (Ow fp1)) (h : OutA K T W Γ' σ H S fp Q r) : OutA K T W Γ' σ H1 S1 fp1 Q r := by
  cases r with
  | ok a => exact fun vs H' S' fp' s r g => h vs H' S' fp' s r (f.trans g)
  | er c fs => exact OutX.before f h
  | bad => exact h
/-- a value without owned objects -/
theorem Val.rep {d : D} {v : V} {F : List Addr} (x : Val K T S H fp 0 d v F) : F = [] ∧ Rep K T H S d v := own_zero.mp x.own
theorem Val.of {d : D} {v : V} (r : Rep K T H S d v) : Val K T S H fp 0 d v [] := ⟨own_zero.mpr ⟨rfl, r⟩, List.nodup_nil, fun a h => (nomatch h), fun a h => (nomatch h)⟩
/-- THE STEP: an expression's value goes on to what follows -/
theorem OutE.then0 {r : R (D × Env)} {Γ' : List Nat} {Q' : VK} {g : D × Env → R (D × Env)} (h : OutE K T W Γ2 k σ H S fp Q (r.bind g))
    (go : ∀ d ρ1 v H1 S1 fp1, r = .ok (d, ρ1) → Stt K T Γ' S1 σ H1 ρ1 fp1 → Rep K T H1 S1 d v → Fra H S (Ow fp) H1 S1 (Ow fp1) → OutE K T W Γ2 k σ H1 S1 fp1 Q (g (d, ρ1)) → Q' v H1) : OutE K T W Γ' 0 σ H S fp Q' r := by
  cases r with
  | ok a =>
    obtain ⟨d, ρ1⟩ := a
    intro v H' S' fp' Fv s x f
    obtain ⟨e, rr⟩ := x.rep
    subst e
    exact go d ρ1 v H' S' fp' rfl s rr f.ow (OutE.before f.ow h)
  | er c fs => exact h
  | bad => exact h
theorem OutE.thenA {r : R (D × Env)} {Γ' : List Nat} {Q' : VK} {Q2 : List V → Hp → Prop} {g : D × Env → R (List D × Env)} (h : OutA K T W Γ2 σ H S fp Q2 (r.bind g))
    (go : ∀ d ρ1 v H1 S1 fp1, r = .ok (d, ρ1) → Stt K T Γ' S1 σ H1 ρ1 fp1 → Rep K T H1 S1 d v → Fra H S (Ow fp) H1 S1 (Ow fp1) → OutA K T W Γ2 σ H1 S1 fp1 Q2 (g (d, ρ1)) → Q' v H1) : OutE K T W Γ' 0 σ H S fp Q' r := by
  cases r with
  | ok a =>
    obtain ⟨d, ρ1⟩ := a
    intro v H' S' fp' Fv s x f
    obtain ⟨e, rr⟩ := x.rep
    subst e
    exact go d ρ1 v H' S' fp' rfl s rr f.ow (OutA.before f.ow h)
  | er c fs => exact h
  | bad => exact h
theorem OutE.thenT {r : R (D × Env)} {Γ' : List Nat} {Q' : VK} {Q2 : Bool → Hp → Prop} {g : D × Env → R (Bool × Env)} (h : OutT K T W Γ2 σ H S fp Q2 (r.bind g))
    (go : ∀ d ρ1 v H1 S1 fp1, r = .ok (d, ρ1) → Stt K T Γ' S1 σ H1 ρ1 fp1 → Rep K T H1 S1 d v → Fra H S (Ow fp) H1 S1 (Ow fp1) → OutT K T W Γ2 σ H1 S1 fp1 Q2 (g (d, ρ1)) → Q' v H1) : OutE K T W Γ' 0 σ H S fp Q' r := by
  cases r with
  | ok a =>
    obtain ⟨d, ρ1⟩ := a
    intro v H' S' fp' Fv s x f
    obtain ⟨e, rr⟩ := x.rep
    subst e
    exact go d ρ1 v H' S' fp' rfl s rr f.ow (OutT.before f.ow h)
  | er c fs => exact h
  | bad => exact h
theorem OutT.thenE {r : R (Bool × Env)} {Γ' : List Nat} {Q' : Bool → Hp → Prop} {g : Bool × Env → R (D × Env)} (h : OutE K T W Γ2 k σ H S fp Q (r.bind g))
    (go : ∀ b ρ1 H1 S1 fp1, r = .ok (b, ρ1) → Stt K T Γ' S1 σ H1 ρ1 fp1 → Fra H S (Ow fp) H1 S1 (Ow fp1) → OutE K T W Γ2 k σ H1 S1 fp1 Q (g (b, ρ1)) → Q' b H1) : OutT K T W Γ' σ H S fp Q' r := by
  cases r with
  | ok a =>
    obtain ⟨d, ρ1⟩ := a
    intro H' S' fp' s f
    exact go d ρ1 H' S' fp' rfl s f (OutE.before f h)
  | er c fs => exact h
  | bad => exact h
theorem OutT.thenT {r : R (Bool × Env)} {Γ' : List Nat} {Q' Q2 : Bool → Hp → Prop} {g : Bool × Env → R (Bool × Env)} (h : OutT K T W Γ2 σ H S fp Q2 (r.bind g))
    (go : ∀ b ρ1 H1 S1 fp1, r = .ok (b, ρ1) → Stt K T Γ' S1 σ H1 ρ1 fp1 → Fra H S (Ow fp) H1 S1 (Ow fp1) → OutT K T W Γ2 σ H1 S1 fp1 Q2 (g (b, ρ1)) → Q' b H1) : OutT K T W Γ' σ H S fp Q' r := by
  cases r with
  | ok a =>
    obtain ⟨d, ρ1⟩ := a
    intro H' S' fp' s f
    exact go d ρ1 H' S' fp' rfl s f (OutT.before f h)
  | er c fs => exact h
  | bad => exact h
theorem OutA.thenE {r : R (List D × Env)} {Γ' : List Nat} {Q' : List V → Hp → Prop} {g : List D × Env → R (D × Env)} (h : OutE K T W Γ2 k σ H S fp Q (r.bind g))
    (go : ∀ ds ρ1 vs H1 S1 fp1, r = .ok (ds, ρ1) → Stt K T Γ' S1 σ H1 ρ1 fp1 → Reps K T H1 S1 ds vs → Fra H S (Ow fp) H1 S1 (Ow fp1) → OutE K T W Γ2 k σ H1 S1 fp1 Q (g (ds, ρ1)) → Q' vs H1) : OutA K T W Γ' σ H S fp Q' r := by
  cases r with
  | ok a =>
    obtain ⟨d, ρ1⟩ := a
    intro vs H' S' fp' s rr f
    exact go d ρ1 vs H' S' fp' rfl s rr f (OutE.before f h)
  | er c fs => exact h
  | bad => exact h
theorem OutA.thenA {r : R (List D × Env)} {Γ' : List Nat} {Q' Q2 : List V → Hp → Prop} {g : List D × Env → R (List D × Env)} (h : OutA K T W Γ2 σ H S fp Q2 (r.bind g))
    (go : ∀ ds ρ1 vs H1 S1 fp1, r = .ok (ds, ρ1) → Stt K T Γ' S1 σ H1 ρ1 fp1 → Reps K T H1 S1 ds vs → Fra H S (Ow fp) H1 S1 (Ow fp1) → OutA K T W Γ2 σ H1 S1 fp1 Q2 (g (ds, ρ1)) → Q' vs H1) : OutA K T W Γ' σ H S fp Q' r := by
  cases r with
  | ok a =>
    obtain ⟨d, ρ1⟩ := a
    intro vs H' S' fp' s rr f
    exact go d ρ1 vs H' S' fp' rfl s rr f (OutA.before f h)
  | er c fs => exact h
  | bad => exact h
theorem Stt.rep_fra {d : D} {v : V} {ρ : Env} {O' : Addr → Prop} (s : Stt K T Γ S σ H ρ fp) (r : Rep K T H S d v) (f : Fra H S (Ow fp) H1 S1 O') : Rep K T H1 S1 d v := (s.sep.stay f).rep r
theorem Stt.reps_fra {d : List D} {v : List V} {ρ : Env} {O' : Addr → Prop} (s : Stt K T Γ S σ H ρ fp) (r : Reps K T H S d v) (f : Fra H S (Ow fp) H1 S1 O') : Reps K T H1 S1 d v := (s.sep.stay f).reps r
end
end Z
set_option Elab.async false
set_option linter.all false
set_option maxRecDepth 100000
/-! Z2: expressions: names, constants, operators on plain data, displays -/
namespace Z
open PySem PySem.Spec L2
open PyProof.Rows hiding St

/-! ### the mirror's words -/
def mVar (i : Nat) : Env → R (D × Env) := fun ρ => match ρ[i]? with
  | some (some d) => .ok (d, ρ)
  | _ => .bad
def mMov (i : Nat) : Env → R (D × Env) := fun ρ => match ρ[i]? with
  | some (some d) => .ok (d, ρ.set i none)
  | _ => .bad
def mCon (d : D) : Env → R (D × Env) := fun ρ => .ok (d, ρ)
def ofO {α : Type} : Option α → R α
  | some a => .ok a
  | none => .bad
def mUn (g : D → Option D) (fa : Env → R (D × Env)) : Env → R (D × Env) := fun ρ => (fa ρ).bind fun (x, ρ1) => (ofO (g x)).bind fun d => .ok (d, ρ1)
def mBin (g : D → D → Option D) (fa fb : Env → R (D × Env)) : Env → R (D × Env) := fun ρ => (fa ρ).bind fun (x, ρ1) => (fb ρ1).bind fun (y, ρ2) => (ofO (g x y)).bind fun d => .ok (d, ρ2)
def mNil : Env → R (List D × Env) := fun ρ => .ok ([], ρ)
def mCons (fa : Env → R (D × Env)) (fr : Env → R (List D × Env)) : Env → R (List D × Env) := fun ρ => (fa ρ).bind fun (x, ρ1) => (fr ρ1).bind fun (xs, ρ2) => .ok (x :: xs, ρ2)
def mPrim (g : List D → Option D) (f : Env → R (List D × Env)) : Env → R (D × Env) := fun ρ => (f ρ).bind fun (xs, ρ1) => (ofO (g xs)).bind fun d => .ok (d, ρ1)

def fpSet (fp : Nat → List Addr) (i : Nat) (F : List Addr) : Nat → List Addr := fun j => if j = i then F else fp j
theorem fpSet_same {fp : Nat → List Addr} {i : Nat} {F : List Addr} : fpSet fp i F i = F := if_pos rfl
theorem fpSet_ne {fp : Nat → List Addr} {i j : Nat} {F : List Addr} (h : j ≠ i) : fpSet fp i F j = fp j := if_neg h

section
variable {K : PySem.W.Frag} {T : Tab} {W : WX} {Γ Γ' : List Nat} {k : Nat} {σ : St} {H : Hp} {S : Addr → Prop} {fp : Nat → List Addr} {ρ : Env} {Q : VK}
theorem mem_fpSet {i : Nat} {F : List Addr} {j : Nat} {a : Addr} (h : a ∈ fpSet fp i F j) : (j = i ∧ a ∈ F) ∨ (j ≠ i ∧ a ∈ fp j) := by
  by_cases e : j = i
  · subst e; rw [fpSet_same] at h; exact .inl ⟨rfl, h⟩
  · rw [fpSet_ne e] at h; exact .inr ⟨e, h⟩
theorem Sep.set {i : Nat} {F : List Addr} (s : Sep S H fp) (mu : ∀ a ∈ F, Mut (H a)) (nd : F.Nodup) (ns : ∀ a ∈ F, ¬ S a) (dj : ∀ a ∈ F, ∀ j, j ≠ i → a ∉ fp j) : Sep S H (fpSet fp i F) where
  mu := fun j a h => by
    rcases mem_fpSet h with ⟨_, h⟩ | ⟨_, h⟩
    · exact mu a h
    · exact s.mu j a h
  nd := fun j => by
    by_cases e : j = i
    · subst e; rw [fpSet_same]; exact nd
    · rw [fpSet_ne e]; exact s.nd j
  dj := fun j l a h h' => by
    rcases mem_fpSet h with ⟨e, h⟩ | ⟨e, h⟩ <;> rcases mem_fpSet h' with ⟨e', h'⟩ | ⟨e', h'⟩
    · rw [e, e']
    · exact absurd h' (dj a h l e')
    · exact absurd h (dj a h' j e)
    · exact s.dj j l a h h'
  ns := fun j a h => by
    rcases mem_fpSet h with ⟨_, h⟩ | ⟨_, h⟩
    · exact ns a h
    · exact s.ns j a h
  al := s.al
/-- what i owned is given to the shared -/
theorem Sep.give (s : Sep S H fp) (i : Nat) : Sep (fun a => S a ∨ a ∈ fp i) H (fpSet fp i []) where
  mu := fun j a h => by
    rcases mem_fpSet h with ⟨_, h⟩ | ⟨_, h⟩
    · cases h
    · exact s.mu j a h
  nd := fun j => by
    by_cases e : j = i
    · subst e; rw [fpSet_same]; exact List.nodup_nil
    · rw [fpSet_ne e]; exact s.nd j
  dj := fun j l a h h' => by
    rcases mem_fpSet h with ⟨e, h⟩ | ⟨e, h⟩ <;> rcases mem_fpSet h' with ⟨e', h'⟩ | ⟨e', h'⟩
    · cases h
    · cases h
    · cases h'
    · exact s.dj j l a h h'
  ns := fun j a h => by
    rcases mem_fpSet h with ⟨_, h⟩ | ⟨e, h⟩
    · cases h
    · intro z
      rcases z with z | z
      · exact s.ns j a h z
      · exact e (s.dj j i a h z)
  al := fun a h => by
    rcases h with h | h
    · exact s.al a h
    · have m := s.mu i a h
      cases q : H a with
      | none => rw [q] at m; exact m.elim
      | some o => exact ⟨o, rfl⟩
theorem Fra.give (s : Sep S H fp) (i : Nat) : Fra H S (Ow fp) H (fun a => S a ∨ a ∈ fp i) (Ow (fpSet fp i [])) where
  kp := fun b o h _ => h
  sm := fun b h => .inl h
  so := fun b h => h.elim .inl fun z => .inr (.inl ⟨i, z⟩)
  oo := fun b ⟨j, h⟩ => by
    rcases mem_fpSet h with ⟨_, h⟩ | ⟨_, h⟩
    · cases h
    · exact .inl ⟨j, h⟩
theorem Stt.give (s : Stt K T Γ S σ H ρ fp) (i : Nat) : Stt K T (Γ.set i 0) (fun a => S a ∨ a ∈ fp i) σ H ρ (fpSet fp i []) := by
  refine ⟨s.sep.give i, s.len, by simp [s.gl], fun j d h => ?_⟩
  obtain ⟨v, hv, o⟩ := s.sl j d h
  refine ⟨v, hv, ?_⟩
  by_cases e : j = i
  · subst e
    rw [fpSet_same]
    have z : (Γ.set j 0).getD j 0 = 0 := by
      by_cases hh : j < Γ.length
      · simp [List.getD_eq_getElem?_getD, List.getElem?_set, hh]
      · rw [List.getD_eq_getElem?_getD, List.getElem?_eq_none (by simpa using hh)]; rfl
    rw [z]
    exact own_zero.mpr ⟨rfl, o.freeze⟩
  · rw [fpSet_ne e]
    have z : (Γ.set i 0).getD j 0 = Γ.getD j 0 := by
      simp only [List.getD_eq_getElem?_getD]
      rw [List.getElem?_set_ne (Ne.symm e)]
    rw [z]
    exact o.stay (Stay.more fun a h => .inl h) fun a _ o h => h
theorem getD_set_same {Γ : List Nat} {i k : Nat} (h : i < Γ.length) : (Γ.set i k).getD i 0 = k := by
  simp [List.getD_eq_getElem?_getD, List.getElem?_set, h]
theorem getD_set_ne {Γ : List Nat} {i j k : Nat} (e : j ≠ i) : (Γ.set i k).getD j 0 = Γ.getD j 0 := by
  simp only [List.getD_eq_getElem?_getD]
  rw [List.getElem?_set_ne (Ne.symm e)]
/-- a name takes a value -/
theorem Stt.put {i : Nat} {d : D} {v : V} {Fv : List Addr} (s : Stt K T Γ S σ H ρ fp) (hi : i < Γ.length) (x : Val K T S H fp k d v Fv) : Stt K T (Γ.set i k) S (σ.set i (some v)) H (ρ.set i (some d)) (fpSet fp i Fv) := by
  have hl : i < σ.length := by rw [← s.gl]; exact hi
  refine ⟨s.sep.set x.own.mut x.nd x.ns fun a h j _ => x.dj a h j, by simp [s.len], by simp [s.gl], fun j e h => ?_⟩
  by_cases q : j = i
  · subst q
    rw [List.getElem?_set_self (by rw [s.len]; exact hl)] at h
    cases h
    exact ⟨v, by rw [List.getElem?_set_self hl], by rw [getD_set_same hi, fpSet_same]; exact x.own⟩
  · rw [List.getElem?_set_ne (Ne.symm q)] at h
    obtain ⟨u, hu, o⟩ := s.sl j e h
    exact ⟨u, by rw [List.getElem?_set_ne (Ne.symm q)]; exact hu, by rw [getD_set_ne q, fpSet_ne q]; exact o⟩
theorem Fra.put {i : Nat} {Fv : List Addr} : Fra H S (fun a => Ow fp a ∨ a ∈ Fv) H S (Ow (fpSet fp i Fv)) :=
  ⟨fun _ _ h _ => h, fun _ h => h, fun _ h => .inl h, fun b ⟨j, h⟩ => by
    rcases mem_fpSet h with ⟨_, h⟩ | ⟨_, h⟩
    · exact .inl (.inr h)
    · exact .inl (.inl ⟨j, h⟩)⟩
/-- a name's value is forgotten; what it owned is let go -/
theorem Stt.drop (s : Stt K T Γ S σ H ρ fp) (i : Nat) : Stt K T Γ S σ H (ρ.set i none) (fpSet fp i []) := by
  refine ⟨s.sep.set (fun a h => (nomatch h)) List.nodup_nil (fun a h => (nomatch h)) (fun a h => (nomatch h)), by simp [s.len], s.gl, fun j e h => ?_⟩
  by_cases q : j = i
  · subst q
    by_cases hl : j < ρ.length
    · rw [List.getElem?_set_self hl] at h; cases h
    · rw [List.getElem?_eq_none (by simpa using hl)] at h; cases h
  · rw [List.getElem?_set_ne (Ne.symm q)] at h
    obtain ⟨u, hu, o⟩ := s.sl j e h
    exact ⟨u, hu, by rw [fpSet_ne q]; exact o⟩
theorem Fra.drop (i : Nat) : Fra H S (Ow fp) H S (Ow (fpSet fp i [])) :=
  ⟨fun _ _ h _ => h, fun _ h => h, fun _ h => .inl h, fun b ⟨j, h⟩ => by
    rcases mem_fpSet h with ⟨_, h⟩ | ⟨_, h⟩
    · cases h
    · exact .inl ⟨j, h⟩⟩
end

/-! ### names, constants -/
section
variable {X : Cx} {C : Cz} {Γ Γ' Γ1 Γ2 : List Nat} {k i : Nat} {x : Str} {pos : Pos} {a b e : Expr} {es : List Expr} {fa fb : Env → R (D × Env)} {fs : Env → R (List D × Env)}
theorem mVar_ok {ρ : Env} {d : D} {ρ' : Env} (h : mVar i ρ = .ok (d, ρ')) : ρ[i]? = some (some d) ∧ ρ' = ρ := by
  unfold mVar at h
  split at h
  · rename_i q; cases h; exact ⟨q, rfl⟩
  · cases h
/-- a name that owns nothing -/
theorem de_var (hv : PE X (.Name x pos) (tVar i)) (hk : Γ.getD i 0 = 0 := by rfl) : DE X C Γ (.Name x pos) Γ 0 (mVar i) := by
  refine pe_imp hv fun σ H Q h => ?_
  obtain ⟨S, ρ, fp, s, h⟩ := h
  unfold mVar at h
  split at h
  · rename_i d q
    obtain ⟨v, hv, o⟩ := s.sl i d q
    rw [hk] at o
    obtain ⟨e, r⟩ := own_zero.mp o
    exact ⟨v, hv, h v H S fp [] s (.of r) Fra.refl.ow'⟩
  · exact h.elim
/-- a name whose objects become shared -/
theorem de_frz (hv : PE X (.Name x pos) (tVar i)) (hΓ : Γ.set i 0 = Γ' := by rfl) : DE X C Γ (.Name x pos) Γ' 0 (mVar i) := by
  subst hΓ
  refine pe_imp hv fun σ H Q h => ?_
  obtain ⟨S, ρ, fp, s, h⟩ := h
  unfold mVar at h
  split at h
  · rename_i d q
    obtain ⟨v, hv, o⟩ := s.sl i d q
    exact ⟨v, hv, h v H _ _ [] (s.give i) (.of o.freeze) (Fra.give s.sep i).ow'⟩
  · exact h.elim
/-- a name's last use: its objects go with the value -/
theorem de_mov (hv : PE X (.Name x pos) (tVar i)) (hk : Γ.getD i 0 = k := by rfl) : DE X C Γ (.Name x pos) Γ k (mMov i) := by
  refine pe_imp hv fun σ H Q h => ?_
  obtain ⟨S, ρ, fp, s, h⟩ := h
  unfold mMov at h
  split at h
  · rename_i d q
    obtain ⟨v, hv, o⟩ := s.sl i d q
    rw [hk] at o
    refine ⟨v, hv, h v H S (fpSet fp i []) (fp i) (s.drop i) ⟨o, s.sep.nd i, fun a h => s.sep.ns i a h, fun a h j z => ?_⟩ ⟨fun _ _ h _ => h, fun _ h => h, fun _ h => .inl h, fun b z => ?_⟩⟩
    · rcases mem_fpSet z with ⟨_, z⟩ | ⟨e, z⟩
      · cases z
      · exact e (s.sep.dj j i a z h)
    · rcases z with ⟨j, z⟩ | z
      · rcases mem_fpSet z with ⟨_, z⟩ | ⟨_, z⟩
        · cases z
        · exact .inl ⟨j, z⟩
      · exact .inl ⟨i, z⟩
  · exact h.elim
theorem de_con {v : V} {d : D} (h : PE X e (tC v)) (r : ∀ S H, Rep X.K C.T H S d v) : DE X C Γ e Γ 0 (mCon d) := by
  refine pe_imp h fun σ H Q h => ?_
  obtain ⟨S, ρ, fp, s, h⟩ := h
  exact h v H S fp [] s (.of (r S H)) Fra.refl.ow'
theorem de_int {j : Int} {n : Nat} : DE X C Γ (.Constant (.int j) n pos) Γ 0 (mCon (.int j)) := de_con pe_int fun S H => by simp [Rep]
theorem de_str {j : Str} {n : Nat} : DE X C Γ (.Constant (.str j) n pos) Γ 0 (mCon (.str j)) := de_con pe_str fun S H => by simp [Rep]
theorem de_bl {j : Bool} {n : Nat} : DE X C Γ (.Constant (.bool j) n pos) Γ 0 (mCon (.bl j)) := de_con pe_bl fun S H => by simp [Rep]
theorem de_non {n : Nat} : DE X C Γ (.Constant .none n pos) Γ 0 (mCon .non) := de_con pe_non fun S H => by simp [Rep]
/-- a module's constant -/
theorem de_glob {v : V} {u : Value} {d : D} (hg : Gl X x) (hm : X.mg x = some u) (r : RelV v u) (rd : ∀ S H, Rep X.K C.T H S d v) (hd : (x == ("__debug__" : Str)) = false := by decide) : DE X C Γ (.Name x pos) Γ 0 (mCon d) := de_con (pe_glob hg hm r hd) rd
end

/-! ### what an operation on plain data gives -/
/-- rd: what is asked of the operation; d: what it gives: a value that stands, or a new list or tuple -/
def Gives (K : PySem.W.Frag) (T : Tab) (S : Addr → Prop) (H : Hp) (k : Nat) (d : D) (rd : VK → Prop) : Prop :=
  (∃ v, Rep K T H S d v ∧ k = 0 ∧ ∀ Q, Q v H → rd Q) ∨
  (∃ xs vs, d = .lst xs ∧ k ≤ 1 ∧ Reps K T H S xs vs ∧ ∀ Q : VK, (∀ p, H p = none → Q (.ref p) (upd H p (.lst vs))) → rd Q) ∨
  (∃ xs vs, d = .tup xs ∧ k ≤ 1 ∧ Reps K T H S xs vs ∧ ∀ Q : VK, (∀ p, H p = none → Q (.ref p) (upd H p (.tup vs))) → rd Q)
section
variable {K : PySem.W.Frag} {T : Tab} {W : WX} {Γ Γ' : List Nat} {k : Nat} {σ : St} {H : Hp} {S : Addr → Prop} {fp : Nat → List Addr} {ρ : Env} {Q : VK} {rd : VK → Prop} {d : D}
theorem Sep.fresh (s : Sep S H fp) {p : Addr} (hp : H p = none) : ¬ S p ∧ ∀ i, p ∉ fp i := by
  refine ⟨fun z => ?_, fun i z => ?_⟩
  · obtain ⟨o, e⟩ := s.al p z; rw [hp] at e; cases e
  · have m := s.mu i p z; rw [hp] at m; exact m
theorem kept_upd {p : Addr} {u : HO} (hp : H p = none) : ∀ b o, H b = some o → upd H p u b = some o := fun b o h => by rw [upd_ne (ne_of_none h hp)]; exact h
theorem Sep.grow (s : Sep S H fp) {H' : Hp} (k : ∀ b o, H b = some o → H' b = some o) : Sep S H' fp :=
  ⟨fun i a h => by
    have m := s.mu i a h
    cases q : H a with
    | none => rw [q] at m; exact m.elim
    | some o => rw [k a o q]; rw [q] at m; exact m, s.nd, s.dj, s.ns, fun a h => let ⟨o, e⟩ := s.al a h; ⟨o, k a o e⟩⟩
theorem Stay.grow {H' : Hp} (kk : ∀ b o, H b = some o → H' b = some o) : Stay K H S H' S :=
  ⟨fun a vs h s => ⟨kk _ _ h, s⟩, fun a vs h => by
    rcases h with ⟨o, h⟩ | h
    · exact .inl ⟨o, kk _ _ h⟩
    · exact .inr h, fun a vs h => by
    rcases h with (h | ⟨o, h⟩) | h
    · exact .inl (.inl (kk _ _ h))
    · exact .inl (.inr ⟨o, kk _ _ h⟩)
    · exact .inr h, fun a C dx fs h s => ⟨kk _ _ h, s⟩⟩
theorem Stt.grow (s : Stt K T Γ S σ H ρ fp) {H' : Hp} (kk : ∀ b o, H b = some o → H' b = some o) : Stt K T Γ S σ H' ρ fp :=
  ⟨s.sep.grow kk, s.len, s.gl, fun i d h => let ⟨v, hv, o⟩ := s.sl i d h; ⟨v, hv, o.stay (Stay.grow kk) fun a _ o h => kk a o h⟩⟩
/-- a new place becomes shared -/
theorem Stt.share (s : Stt K T Γ S σ H ρ fp) {p : Addr} {u : HO} (hp : H p = none) : Stt K T Γ (fun a => S a ∨ a = p) σ (upd H p u) ρ fp := by
  have f := s.sep.fresh hp
  have g := s.grow (kept_upd (u := u) hp)
  refine ⟨⟨g.sep.mu, g.sep.nd, g.sep.dj, fun i a h z => ?_, fun a z => ?_⟩, g.len, g.gl, fun i d h => ?_⟩
  · rcases z with z | z
    · exact g.sep.ns i a h z
    · subst z; exact f.2 i h
  · rcases z with z | z
    · exact g.sep.al a z
    · subst z; exact ⟨u, upd_same⟩
  · obtain ⟨v, hv, o⟩ := g.sl i d h
    exact ⟨v, hv, o.stay (Stay.more fun a h => .inl h) fun a _ o h => h⟩
theorem gives_out (s : Stt K T Γ S σ H ρ fp) (g : Gives K T S H k d rd) (h : OutE K T W Γ k σ H S fp Q (.ok (d, ρ))) : rd Q := by
  rcases g with ⟨v, r, e, q⟩ | ⟨xs, vs, e, hk, r, q⟩ | ⟨xs, vs, e, hk, r, q⟩
  · subst e
    exact q Q (h v H S fp [] s (.of r) Fra.refl.ow')
  · subst e
    refine q Q fun p hp => ?_
    have f := s.sep.fresh hp
    have kk := kept_upd (u := .lst vs) hp
    match k, hk with
    | 0, _ =>
      refine h _ _ (fun a => S a ∨ a = p) fp [] (s.share hp) (.of ?_) ⟨fun b o h _ => kk b o h, fun b z => .inl z, fun b z => z.elim .inl fun e => by subst e; exact .inr (.inr hp), fun b z => z.elim .inl fun z => nomatch z⟩
      simp only [Rep]
      exact ⟨p, vs, rfl, upd_same, .inr rfl, (Stay.more fun a h => .inl h).reps ((Stay.grow kk).reps r)⟩
    | 1, _ =>
      refine h _ _ S fp [p] (s.grow kk) ⟨own_lst1.mpr ⟨p, vs, rfl, upd_same, rfl, (Stay.grow kk).reps r⟩, by simp, fun a m => ?_, fun a m i => ?_⟩ ⟨fun b o h _ => kk b o h, fun b z => z, fun b z => .inl z, fun b z => ?_⟩
      · rw [List.mem_singleton] at m; subst m; exact f.1
      · rw [List.mem_singleton] at m; subst m; exact f.2 i
      · rcases z with z | z
        · exact .inl z
        · rw [List.mem_singleton] at z; subst z; exact .inr hp
  · subst e
    refine q Q fun p hp => ?_
    have kk := kept_upd (u := .tup vs) hp
    have rr : Rep K T (upd H p (.tup vs)) S (.tup xs) (.ref p) := by
      simp only [Rep]
      exact ⟨p, vs, rfl, .inl (.inl upd_same), (Stay.grow kk).reps r⟩
    have fr : Fra H S (Ow fp) (upd H p (.tup vs)) S (fun a => Ow fp a ∨ a ∈ ([] : List Addr)) := ⟨fun b o h _ => kk b o h, fun b z => z, fun b z => .inl z, fun b z => z.elim .inl fun z => nomatch z⟩
    match k, hk with
    | 0, _ => exact h _ _ S fp [] (s.grow kk) (.of rr) fr
    | 1, _ => exact h _ _ S fp [] (s.grow kk) ⟨by simp only [Own]; exact ⟨trivial, rr⟩, List.nodup_nil, fun a h => (nomatch h), fun a h => (nomatch h)⟩ fr
end

def PrimR (K : PySem.W.Frag) (T : Tab) (k : Nat) (r : List V → Hp → VK → Prop) (g : List D → Option D) : Prop :=
  ∀ S H ds vs d, Reps K T H S ds vs → g ds = some d → Gives K T S H k d (r vs H)
def Prim2 (K : PySem.W.Frag) (T : Tab) (k : Nat) (r : R2) (g : D → D → Option D) : Prop :=
  ∀ S H x y v w d, Rep K T H S x v → Rep K T H S y w → g x y = some d → Gives K T S H k d (r v w H)
def Prim1 (K : PySem.W.Frag) (T : Tab) (k : Nat) (r : V → Hp → VK → Prop) (g : D → Option D) : Prop :=
  ∀ S H x v d, Rep K T H S x v → g x = some d → Gives K T S H k d (r v H)

section
variable {X : Cx} {C : Cz} {Γ Γ' Γ1 Γ2 : List Nat} {k i : Nat} {x : Str} {pos p : Pos} {a b e : Expr} {es : List Expr} {fa fb : Env → R (D × Env)} {fs : Env → R (List D × Env)}
theorem bin_data {r : R2} {g : D → D → Option D} {σ : St} {H : Hp} {Q : VK} (hr : Prim2 X.K C.T k r g) (h : tE X.K C.T C.W Γ Γ2 k (mBin g fa fb) σ H Q) :
    tE X.K C.T C.W Γ Γ1 0 fa σ H (fun x H1 => tE X.K C.T C.W Γ1 Γ2 0 fb σ H1 (fun y H2 => r x y H2 Q)) := by
  obtain ⟨S, ρ, fp, s, h⟩ := h
  refine ⟨S, ρ, fp, s, OutE.then0 h fun d1 ρ1 v1 H1 S1 fp1 e1 s1 r1 f1 h1 => ?_⟩
  refine ⟨S1, ρ1, fp1, s1, OutE.then0 h1 fun d2 ρ2 v2 H2 S2 fp2 e2 s2 r2 f2 h2 => ?_⟩
  dsimp only at h2
  cases q : g d1 d2 with
  | none => rw [q] at h2; exact h2.elim
  | some d =>
    rw [q] at h2
    exact gives_out s2 (hr S2 H2 d1 d2 v1 v2 d (s1.rep_fra r1 f2) r2 q) h2
theorem de_op {op : Operator} {r : R2} {g : D → D → Option D} (ho : OpR X (binaryOp op) r) (hr : Prim2 X.K C.T k r g) (ha : DE X C Γ a Γ1 0 fa) (hb : DE X C Γ1 b Γ2 0 fb) : DE X C Γ (.BinOp a op b pos) Γ2 k (mBin g fa fb) :=
  pe_imp (pe_op ho ha hb) fun σ H Q h => bin_data hr h
theorem de_cmp {op : CmpOp} {r : R2} {g : D → D → Option D} (ho : OpR X (compareOp op) r) (hr : Prim2 X.K C.T k r g) (ha : DE X C Γ a Γ1 0 fa) (hb : DE X C Γ1 b Γ2 0 fb) (hn : behindInMarks op b = false) :
    DE X C Γ (.Compare a [op] [b] pos) Γ2 k (mBin g fa fb) :=
  pe_imp (pe_cmpR ho ha hb hn) fun σ H Q h => bin_data hr h
theorem de_ix {r : R2} {g : D → D → Option D} (ho : IxR X r) (hr : Prim2 X.K C.T k r g) (ha : DE X C Γ a Γ1 0 fa) (hb : DE X C Γ1 b Γ2 0 fb) (hs : PlainIx b := by exact fun _ _ => rfl) : DE X C Γ (.Subscript a b pos) Γ2 k (mBin g fa fb) :=
  pe_imp (pe_ix ho ha hb hs) fun σ H Q h => bin_data hr h
theorem un_data {r : V → Hp → VK → Prop} {g : D → Option D} {σ : St} {H : Hp} {Q : VK} (hr : Prim1 X.K C.T k r g) (h : tE X.K C.T C.W Γ Γ1 k (mUn g fa) σ H Q) : tE X.K C.T C.W Γ Γ1 0 fa σ H (fun x H1 => r x H1 Q) := by
  obtain ⟨S, ρ, fp, s, h⟩ := h
  refine ⟨S, ρ, fp, s, OutE.then0 h fun d1 ρ1 v1 H1 S1 fp1 e1 s1 r1 f1 h1 => ?_⟩
  dsimp only at h1
  cases q : g d1 with
  | none => rw [q] at h1; exact h1.elim
  | some d =>
    rw [q] at h1
    exact gives_out s1 (hr S1 H1 d1 v1 d r1 q) h1
theorem de_un {op : UnaryOp} {r : V → Hp → VK → Prop} {g : D → Option D} (ho : UnR X (unaryOp op) r) (hr : Prim1 X.K C.T k r g) (ha : DE X C Γ a Γ1 0 fa) : DE X C Γ (.UnaryOp op a pos) Γ1 k (mUn g fa) :=
  pe_imp (pe_un ho ha) fun σ H Q h => un_data hr h
/-! arguments -/
theorem da_nil : DA X C Γ [] Γ mNil := pa_imp pa_nil fun σ H Q h => by
  obtain ⟨S, ρ, fp, s, h⟩ := h
  exact h [] H S fp s (by simp [Reps]) Fra.refl
theorem da_cons (ha : DE X C Γ a Γ1 0 fa) (hr : DA X C Γ1 es Γ2 fs) (hs : starEach (a :: es) X.env = (false, eval a X.env) :: starEach es X.env := by rfl) : DA X C Γ (a :: es) Γ2 (mCons fa fs) := by
  refine pa_imp (pa_cons ha hr hs) fun σ H Q h => ?_
  obtain ⟨S, ρ, fp, s, h⟩ := h
  refine ⟨S, ρ, fp, s, OutE.thenA h fun d1 ρ1 v1 H1 S1 fp1 e1 s1 r1 f1 h1 => ?_⟩
  refine ⟨S1, ρ1, fp1, s1, OutA.thenA h1 fun ds ρ2 vs H2 S2 fp2 e2 s2 r2 f2 h2 => ?_⟩
  refine h2 (v1 :: vs) H2 S2 fp2 s2 ?_ Fra.refl
  simp only [Reps]
  exact ⟨v1, vs, rfl, s1.rep_fra r1 f2, r2⟩
theorem args_data {r : List V → Hp → VK → Prop} {g : List D → Option D} {σ : St} {H : Hp} {Q : VK} (hr : PrimR X.K C.T k r g) (h : tE X.K C.T C.W Γ Γ1 k (mPrim g fs) σ H Q) : tA X.K C.T C.W Γ Γ1 fs σ H (fun vs H1 => r vs H1 Q) := by
  obtain ⟨S, ρ, fp, s, h⟩ := h
  refine ⟨S, ρ, fp, s, OutA.thenE h fun ds ρ1 vs H1 S1 fp1 e1 s1 r1 f1 h1 => ?_⟩
  dsimp only at h1
  cases q : g ds with
  | none => rw [q] at h1; exact h1.elim
  | some d =>
    rw [q] at h1
    exact gives_out s1 (hr S1 H1 ds vs d r1 q) h1
/-- a built-in function by its name -/
theorem de_callB {id : String} {r : List V → Hp → VK → Prop} {g : List D → Option D} (hc : CallR X (.builtin id) r) (hr : PrimR X.K C.T k r g) (hg : Gl X x) (hm : X.mg x = none) (hv : bootBuiltins x = some (.builtin id)) (ha : DA X C Γ (e :: es) Γ1 fs) (hn : x ≠ "__name__" := by decide) (hdb : (x == ("__debug__" : Str)) = false := by decide)
    (he : starEach (e :: es) X.env = (false, eval e X.env) :: starEach es X.env := by rfl) (hpl : (backTo pos (starEach es X.env)).any (·.1) = false := by rfl) : DE X C Γ (.Call (.Name x p) (e :: es) [] pos) Γ1 k (mPrim g fs) :=
  pe_imp (pe_callB hc hg hm hv ha hn hdb he hpl) fun σ H Q h => args_data hr h
/-- a built-in function under a module's name (from math import gcd) -/
theorem de_callM {id : String} {r : List V → Hp → VK → Prop} {g : List D → Option D} (hc : CallR X (.builtin id) r) (hr : PrimR X.K C.T k r g) (hg : Gl X x) (hm : X.mg x = some (.builtin id)) (ha : DA X C Γ (e :: es) Γ1 fs) (hdb : (x == ("__debug__" : Str)) = false := by decide)
    (he : starEach (e :: es) X.env = (false, eval e X.env) :: starEach es X.env := by rfl) (hpl : (backTo pos (starEach es X.env)).any (·.1) = false := by rfl) : DE X C Γ (.Call (.Name x p) (e :: es) [] pos) Γ1 k (mPrim g fs) := by
  refine pe_imp (t := tCB r (tA X.K C.T C.W Γ Γ1 fs)) ⟨fun pins s σ H Q I h => ?_⟩ fun σ H Q h => args_data hr h
  refine wpAny_Call_Name_kw (ld_glob I hg hm ?_ hdb)
  exact PyProof.Rows.callWith_builtin1 (thn (ha.run pos pins s σ H _ I h) fun us s1 ⟨vs, H1, I1, r1, q1⟩ => hc pins s1 σ H1 vs us Q I1 r1 q1) he hpl
theorem de_callTy {t : String} {r : List V → Hp → VK → Prop} {g : List D → Option D} (hc : CallR X (.type t) r) (hr : PrimR X.K C.T k r g) (hg : Gl X x) (hm : X.mg x = none) (hv : bootBuiltins x = some (.type t)) (ha : DA X C Γ (e :: es) Γ1 fs) (hn : x ≠ "__name__" := by decide) (hdb : (x == ("__debug__" : Str)) = false := by decide)
    (he : starEach (e :: es) X.env = (false, eval e X.env) :: starEach es X.env := by rfl) (hpl : (backTo pos (starEach es X.env)).any (·.1) = false := by rfl) : DE X C Γ (.Call (.Name x p) (e :: es) [] pos) Γ1 k (mPrim g fs) :=
  pe_imp (pe_callTy hc hg hm hv ha hn hdb he hpl) fun σ H Q h => args_data hr h
/-! displays -/
def gTup (xs : List D) : Option D := if xs.length ≤ 1000 then some (.tup xs) else none
def gLst (xs : List D) : Option D := if xs.length ≤ 1000 then some (.lst xs) else none
theorem line_of {n : Nat} (h : n ≤ 1000) : n ≤ sizeLine := by rw [sizeLine_eq]; omega
theorem de_tup {n : Nat} (h : DA X C Γ es Γ1 fs) (hk : k ≤ 1 := by decide) : DE X C Γ (.Tuple es n pos) Γ1 k (mPrim gTup fs) := by
  refine pe_imp (pe_tup h) fun σ H Q h => args_data (r := fun vs H1 Q => vs.length ≤ sizeLine ∧ ∀ p, H1 p = none → Q (.ref p) (upd H1 p (.tup vs))) (fun S H ds vs d r e => ?_) h
  unfold gTup at e
  split at e
  · rename_i hl
    cases e
    exact .inr (.inr ⟨ds, vs, rfl, hk, r, fun Q q => ⟨line_of (by rw [← r.length]; exact hl), q⟩⟩)
  · cases e
theorem de_lst (h : DA X C Γ es Γ1 fs) (hk : k ≤ 1 := by decide) : DE X C Γ (.List es pos) Γ1 k (mPrim gLst fs) := by
  refine pe_imp (pe_lst h) fun σ H Q h => args_data (r := fun vs H1 Q => vs.length ≤ sizeLine ∧ ∀ p, H1 p = none → Q (.ref p) (upd H1 p (.lst vs))) (fun S H ds vs d r e => ?_) h
  unfold gLst at e
  split at e
  · rename_i hl
    cases e
    exact .inr (.inl ⟨ds, vs, rfl, hk, r, fun Q q => ⟨line_of (by rw [← r.length]; exact hl), q⟩⟩)
  · cases e
end
end Z
set_option Elab.async false
set_option linter.all false
set_option maxRecDepth 100000
/-! Z3: contracts and calls of defs, fields, tests -/
namespace Z
open PySem PySem.Spec L2
open PyProof.Rows hiding St

/-! ### contracts -/
def OutC (K : PySem.W.Frag) (T : Tab) (E : XK) (H : Hp) (S O : Addr → Prop) (c : Nat) (fs : List D) : Prop :=
  ∀ (dx : Addr) (xs : List (Str × V)) (vs : List V) (H' : Hp) (S' : Addr → Prop), H' dx = some (.xd xs) → (∀ (j : Nat) (f : Str), (T.fl c)[j]? = some f → xs.lookup f = vs[j]?) → Reps K T H' S' fs vs →
    Fra H S O H' S' (fun _ => False) → (∀ a, S' a → ∃ o, H' a = some o) → E (.ref (T.cm c)) (some dx) H'
/-- a def whose arguments are not changed: m what it computes, kr how far its value is new -/
def OutF (K : PySem.W.Frag) (T : Tab) (kr : Nat) (H : Hp) (S : Addr → Prop) (Q : VK) (E : XK) : R D → Prop
  | .ok d => ∀ v H' S' Fv, Own K T H' S' kr d v Fv → Fv.Nodup → (∀ a ∈ Fv, ¬ S' a) → (∀ a, S' a → ∃ o, H' a = some o) → Fra H S (fun _ => False) H' S' (fun a => a ∈ Fv) → Q v H'
  | .er c fs => OutC K T E H S (fun _ => False) c fs
  | .bad => False
def spF (K : PySem.W.Frag) (T : Tab) (kr : Nat) (m : List D → R D) : Sp := fun vs H Q E => ∃ S ds, Reps K T H S ds vs ∧ (∀ a, S a → ∃ o, H a = some o) ∧ OutF K T kr H S Q E (m ds)
/-- a def that may change its first argument (k1 levels of it) -/
def OutB (K : PySem.W.Frag) (T : Tab) (k1 kr : Nat) (v0 : V) (F0 : List Addr) (H : Hp) (S : Addr → Prop) (Q : VK) (E : XK) : R (D × D) → Prop
  | .ok (d, d0) => ∀ v H' S' Fv F0', Own K T H' S' k1 d0 v0 F0' → Own K T H' S' kr d v Fv → (F0' ++ Fv).Nodup → (∀ a ∈ F0' ++ Fv, ¬ S' a) → (∀ a, S' a → ∃ o, H' a = some o) →
      Fra H S (fun a => a ∈ F0) H' S' (fun a => a ∈ F0' ∨ a ∈ Fv) → Q v H'
  | .er c fs => OutC K T E H S (fun a => a ∈ F0) c fs
  | .bad => False
def spB (K : PySem.W.Frag) (T : Tab) (k1 kr : Nat) (m : List D → R (D × D)) : Sp := fun vs H Q E => ∃ S d0 v0 F0 ds vs', vs = v0 :: vs' ∧ Own K T H S k1 d0 v0 F0 ∧ F0.Nodup ∧ (∀ a ∈ F0, ¬ S a) ∧ Reps K T H S ds vs' ∧ (∀ a, S a → ∃ o, H a = some o) ∧
  OutB K T k1 kr v0 F0 H S Q E (m (d0 :: ds))

section
variable {K : PySem.W.Frag} {T : Tab} {W : WX} {Γ Γ' : List Nat} {k : Nat} {σ : St} {H H' : Hp} {S S' O' : Addr → Prop} {fp : Nat → List Addr} {ρ : Env} {Q : VK}
/-- a state behind code that owns nothing of it -/
theorem Stt.after0 (s : Stt K T Γ S σ H ρ fp) (f : Fra H S (fun _ => False) H' S' O') (al : ∀ a, S' a → ∃ o, H' a = some o) : Stt K T Γ S' σ H' ρ fp := by
  have st : Stay K H S H' S' := .of (fun _ z => z.elim) (fun _ z => z.elim) f
  refine ⟨⟨fun i a h => ?_, s.sep.nd, s.sep.dj, fun i a h z => ?_, al⟩, s.len, s.gl, fun i d h => ?_⟩
  · have m := s.sep.mu i a h
    cases q : H a with
    | none => rw [q] at m; exact m.elim
    | some o => rw [f.kp a o q fun z => z]; rw [q] at m; exact m
  · rcases f.so a z with z | z | z
    · exact s.sep.ns i a h z
    · exact z
    · have m := s.sep.mu i a h; rw [z] at m; exact m
  · obtain ⟨v, hv, o⟩ := s.sl i d h
    exact ⟨v, hv, o.stay st fun a _ o h => f.kp a o h fun z => z⟩
/-- .. behind code that was handed what i owned, and handed it back as F0' -/
theorem Stt.after1 {i k1 : Nat} {d0 : D} {v0 : V} {F0' : List Addr} (s : Stt K T Γ S σ H ρ fp) (hv : σ[i]? = some (some v0)) (hi : i < Γ.length) (hk : Γ.getD i 0 = k1) (f : Fra H S (fun a => a ∈ fp i) H' S' O') (al : ∀ a, S' a → ∃ o, H' a = some o)
    (o : Own K T H' S' k1 d0 v0 F0') (nd : F0'.Nodup) (ns : ∀ a ∈ F0', ¬ S' a) (oo : ∀ a ∈ F0', O' a) : Stt K T Γ S' σ H' (ρ.set i (some d0)) (fpSet fp i F0') := by
  have hl : i < σ.length := by
    rcases Nat.lt_or_ge i σ.length with h | h
    · exact h
    · rw [List.getElem?_eq_none h] at hv; cases hv
  have st : Stay K H S H' S' := .of (fun a z => s.sep.mu i a z) (fun a z => s.sep.ns i a z) f
  have mu : ∀ j a, j ≠ i → a ∈ fp j → ∀ o, H a = some o → H' a = some o := fun j a e h o q => f.kp a o q fun z => e (s.sep.dj j i a h z)
  have new : ∀ a ∈ F0', ∀ j, j ≠ i → a ∉ fp j := fun a h j e z => by
    rcases f.oo a (oo a h) with q | q
    · exact e (s.sep.dj j i a z q)
    · have m := s.sep.mu j a z; rw [q] at m; exact m
  refine ⟨⟨fun j a h => ?_, fun j => ?_, fun j l a h h' => ?_, fun j a h z => ?_, al⟩, by simp [s.len], s.gl, fun j d h => ?_⟩
  · rcases mem_fpSet h with ⟨_, h⟩ | ⟨e, h⟩
    · exact o.mut a h
    · have m := s.sep.mu j a h
      cases q : H a with
      | none => rw [q] at m; exact m.elim
      | some o => rw [mu j a e h o q]; rw [q] at m; exact m
  · by_cases e : j = i
    · subst e; rw [fpSet_same]; exact nd
    · rw [fpSet_ne e]; exact s.sep.nd j
  · rcases mem_fpSet h with ⟨e, h⟩ | ⟨e, h⟩ <;> rcases mem_fpSet h' with ⟨e', h'⟩ | ⟨e', h'⟩
    · rw [e, e']
    · exact absurd h' (new a h l e')
    · exact absurd h (new a h' j e)
    · exact s.sep.dj j l a h h'
  · rcases mem_fpSet h with ⟨_, h⟩ | ⟨e, h⟩
    · exact ns a h z
    · rcases f.so a z with z | z | z
      · exact s.sep.ns j a h z
      · exact e (s.sep.dj j i a h z)
      · have m := s.sep.mu j a h; rw [z] at m; exact m
  · by_cases q : j = i
    · subst q
      rw [List.getElem?_set_self (by rw [s.len]; exact hl)] at h
      cases h
      exact ⟨v0, hv, by rw [hk, fpSet_same]; exact o⟩
    · rw [List.getElem?_set_ne (Ne.symm q)] at h
      obtain ⟨v, hv', o'⟩ := s.sl j d h
      exact ⟨v, hv', by rw [fpSet_ne q]; exact o'.stay st fun a m o h => mu j a q m o h⟩
theorem OutX.of_call {E : XK} {c : Nat} {fs : List D} {O O1 : Addr → Prop} (h : OutX K T W σ H S O c fs) (hE : ∀ cls d H', W cls d σ H' → E cls d H') (hO : ∀ a, O1 a → O a) : OutC K T E H S O1 c fs :=
  fun dx xs vs H' S' e1 e2 r f al => hE _ _ _ (h dx xs vs H' S' e1 e2 r (f.more hO) al)
end

/-! ### calls -/
def mCall (m : List D → R D) (fs : Env → R (List D × Env)) : Env → R (D × Env) := fun ρ => (fs ρ).bind fun (xs, ρ1) => (m xs).bind fun d => .ok (d, ρ1)
def mCallB (i : Nat) (m : List D → R (D × D)) (fs : Env → R (List D × Env)) : Env → R (D × Env) := fun ρ => match ρ[i]? with
  | some (some _) => (fs ρ).bind fun (xs, ρ1) => match ρ1[i]? with
    | some (some d0) => (m (d0 :: xs)).bind fun (d, d1) => .ok (d, ρ1.set i (some d1))
    | _ => .bad
  | _ => .bad
section
variable {X : Cx} {C : Cz} {Γ Γ' Γ1 Γ2 : List Nat} {k kr k1 lv i : Nat} {x y : Str} {pos p p2 : Pos} {a b e : Expr} {es : List Expr} {fa fb : Env → R (D × Env)} {fs : Env → R (List D × Env)} {m : List D → R D} {mB : List D → R (D × D)}
  {f : Addr} {fd : FuncData} {ps : List Str} {ds : List Value} {dvs : List V}
/-- the call itself, at the arguments' data -/
theorem call_data {σ : St} {H : Hp} {S : Addr → Prop} {ρ : Env} {fp : Nat → List Addr} {Q : VK} {xs : List D} {vs : List V} (s : Stt X.K C.T Γ S σ H ρ fp) (r : Reps X.K C.T H S xs vs)
    (h : OutE X.K C.T C.W Γ k σ H S fp Q ((m xs).bind fun d => .ok (d, ρ))) : spF X.K C.T k m vs H Q (WE C.W σ) := by
  refine ⟨S, xs, r, s.sep.al, ?_⟩
  cases q : m xs with
  | ok d =>
    rw [q] at h
    intro v H' S' Fv o nd ns al fr
    refine h v H' S' fp Fv (s.after0 fr al) ⟨o, nd, ns, fun a ma j z => ?_⟩ ?_
    · rcases fr.oo a ma with w | w
      · exact w
      · have m := s.sep.mu j a z; rw [w] at m; exact m
    · refine ⟨fun b o h _ => fr.kp b o h fun z => z, fr.sm, fun b z => ?_, fun b z => ?_⟩
      · rcases fr.so b z with z | z | z
        · exact .inl z
        · exact z.elim
        · exact .inr (.inr z)
      · rcases z with z | z
        · exact .inl z
        · rcases fr.oo b z with z | z
          · exact z.elim
          · exact .inr z
  | er c fs => rw [q] at h; exact OutX.of_call h (fun _ _ _ w => w) fun a z => z.elim
  | bad => rw [q] at h; exact h
/-- f(e, ..), an own def that keeps its arguments; ds: defaults that fill up, as data xd -/
theorem de_call {xd : List D} (F : FnOk X.prog X.w X.K X.mg X.base (L2.CX X.prog X.w) lv f fd ps (spF X.K C.T kr m)) (hr : Room lv X.A) (tk : Takes X C.W) (hg : Gl X x) (hm : X.mg x = some (.ref f)) (hk : PySem.W.keepIn X.K (.ref f) = true) (hb : Binds X.K fd ps ds) (hd : Vals dvs ds)
    (hxd : ∀ S H, Reps X.K C.T H S xd dvs) (ha : DA X C Γ (e :: es) Γ1 fs) (hdb : (x == ("__debug__" : Str)) = false := by decide) (he : starEach (e :: es) X.env = (false, eval e X.env) :: starEach es X.env := by rfl) (hpl : (backTo pos (starEach es X.env)).any (·.1) = false := by rfl) :
    DE X C Γ (.Call (.Name x p) (e :: es) [] pos) Γ1 kr (mCall (fun xs => m (xs ++ xd)) fs) := by
  refine pe_imp (pe_callSD (E := WE C.W) F hr hg hm hk hb hd (fun σ => passAt tk σ) ha hdb he hpl) fun σ H Q h => ?_
  obtain ⟨S, ρ, fp, s, h⟩ := h
  refine ⟨S, ρ, fp, s, OutA.thenE h fun xs ρ1 vs H1 S1 fp1 e1 s1 r1 f1 h1 => ?_⟩
  exact call_data s1 (r1.append (hxd S1 H1)) h1
theorem callB_data {σ : St} {H : Hp} {S : Addr → Prop} {ρ : Env} {fp : Nat → List Addr} {Q : VK} {xs : List D} {vs : List V} {d0 : D} {v0 : V} (s : Stt X.K C.T Γ S σ H ρ fp) (r : Reps X.K C.T H S xs vs) (hd : ρ[i]? = some (some d0)) (hv : σ[i]? = some (some v0))
    (hi : i < Γ.length) (hk : Γ.getD i 0 = k1) (h : OutE X.K C.T C.W Γ k σ H S fp Q ((mB (d0 :: xs)).bind fun (d, d1) => .ok (d, ρ.set i (some d1)))) : spB X.K C.T k1 k mB (v0 :: vs) H Q (WE C.W σ) := by
  obtain ⟨v0', hv', o⟩ := s.sl i d0 hd
  rw [hv] at hv'; cases hv'
  rw [hk] at o
  refine ⟨S, d0, v0, fp i, xs, vs, rfl, o, s.sep.nd i, fun a z => s.sep.ns i a z, r, s.sep.al, ?_⟩
  cases q : mB (d0 :: xs) with
  | ok a =>
    obtain ⟨d, d1⟩ := a
    rw [q] at h
    intro v H' S' Fv F0' o0 o1 nd ns al fr
    obtain ⟨nd0, nd1, nd2⟩ := List.nodup_append.mp nd
    refine h v H' S' (fpSet fp i F0') Fv (s.after1 hv hi hk fr al o0 nd0 (fun a z => ns a (List.mem_append_left _ z)) fun a z => .inl z) ⟨o1, nd1, fun a z => ns a (List.mem_append_right _ z), fun a ma j z => ?_⟩ ?_
    · rcases mem_fpSet z with ⟨_, z⟩ | ⟨e, z⟩
      · exact nd2 a z a ma rfl
      · rcases fr.oo a (.inr ma) with w | w
        · exact e (s.sep.dj j i a z w)
        · have m := s.sep.mu j a z; rw [w] at m; exact m
    · refine ⟨fun b o h n => fr.kp b o h fun z => n ⟨i, z⟩, fr.sm, fun b z => ?_, fun b z => ?_⟩
      · rcases fr.so b z with z | z | z
        · exact .inl z
        · exact .inr (.inl ⟨i, z⟩)
        · exact .inr (.inr z)
      · have up : ∀ b, b ∈ F0' ∨ b ∈ Fv → Ow fp b ∨ H b = none := fun b z => (fr.oo b z).imp_left fun z => ⟨i, z⟩
        rcases z with ⟨j, z⟩ | z
        · rcases mem_fpSet z with ⟨_, z⟩ | ⟨e, z⟩
          · exact up b (.inl z)
          · exact .inl ⟨j, z⟩
        · exact up b (.inr z)
  | er c fs => rw [q] at h; exact OutX.of_call h (fun _ _ _ w => w) fun a z => ⟨i, z⟩
  | bad => rw [q] at h; exact h
/-- f(y, e, ..): y's objects may be changed -/
theorem de_callBr (F : FnOk X.prog X.w X.K X.mg X.base (L2.CX X.prog X.w) lv f fd ps (spB X.K C.T k1 kr mB)) (hr : Room lv X.A) (tk : Takes X C.W) (hg : Gl X x) (hm : X.mg x = some (.ref f)) (hk : PySem.W.keepIn X.K (.ref f) = true) (hb : Binds X.K fd ps [])
    (hy : PE X (.Name y p2) (tVar i)) (ha : DA X C Γ es Γ1 fs) (hΓ : Γ1.getD i 0 = k1 := by rfl) (hi : i < Γ1.length := by decide) (hdb : (x == ("__debug__" : Str)) = false := by decide)
    (he : starEach (.Name y p2 :: es) X.env = (false, eval (.Name y p2) X.env) :: starEach es X.env := by rfl) (hpl : (backTo pos (starEach es X.env)).any (·.1) = false := by rfl) :
    DE X C Γ (.Call (.Name x p) (.Name y p2 :: es) [] pos) Γ1 kr (mCallB i mB fs) := by
  refine pe_imp (pe_callSD (E := WE C.W) (dvs := []) F hr hg hm hk hb .nil (fun σ => passAt tk σ) (pa_cons hy ha he) hdb he hpl) fun σ H Q h => ?_
  obtain ⟨S, ρ, fp, s, h⟩ := h
  show ∃ v, σ[i]? = some (some v) ∧ tA X.K C.T C.W Γ Γ1 fs σ H (fun vs H1 => spB X.K C.T k1 kr mB (v :: vs ++ []) H1 Q (WE C.W σ))
  unfold mCallB at h
  split at h
  · rename_i d0 q0
    obtain ⟨v0, hv0, _⟩ := s.sl i d0 q0
    refine ⟨v0, hv0, S, ρ, fp, s, OutA.thenE h fun xs ρ1 vs H1 S1 fp1 e1 s1 r1 f1 h1 => ?_⟩
    rw [List.append_nil]
    dsimp only at h1
    split at h1
    · rename_i d1 q1
      exact callB_data s1 r1 q1 hv0 hi hΓ h1
    · exact h1.elim
  · exact h.elim
/-- f(y) -/
theorem de_callBr0 (F : FnOk X.prog X.w X.K X.mg X.base (L2.CX X.prog X.w) lv f fd ps (spB X.K C.T k1 kr mB)) (hr : Room lv X.A) (tk : Takes X C.W) (hg : Gl X x) (hm : X.mg x = some (.ref f)) (hk : PySem.W.keepIn X.K (.ref f) = true) (hb : Binds X.K fd ps [])
    (hy : PE X (.Name y p2) (tVar i)) (hΓ : Γ.getD i 0 = k1 := by rfl) (hi : i < Γ.length := by decide) (hdb : (x == ("__debug__" : Str)) = false := by decide) :
    DE X C Γ (.Call (.Name x p) [.Name y p2] [] pos) Γ kr (mCallB i mB mNil) := de_callBr F hr tk hg hm hk hb hy da_nil hΓ hi hdb

/-! ### fields -/
def gFld (ix : List (Nat × Nat)) : D → Option D
  | .ins c fs => (ix.lookup c).bind fun j => fs[j]?
  | _ => none
/-- what of the own classes must be known where an attribute f is read: at c it is the j-th -/
structure FldOk (K : PySem.W.Frag) (T : Tab) (f : Str) (ix : List (Nat × Nat)) : Prop where
  ok : ∀ c j, ix.lookup c = some j → Cls K (T.cm c) ∧ NoAttr K (T.cm c) f ∧ (T.fl c)[j]? = some f ∧ (T.fl c).Nodup
theorem lookup_zip : ∀ {ns : List Str} {vs : List V} {j : Nat} {f : Str}, ns.Nodup → ns[j]? = some f → vs.length ≤ ns.length → (ns.zip vs).lookup f = vs[j]?
  | [], vs, j, f, _, h, _ => by simp at h
  | n :: ns, [], j, f, _, h, _ => by simp
  | n :: ns, v :: vs, 0, f, _, h, _ => by
    simp at h; subst h; simp [List.lookup]
  | n :: ns, v :: vs, j + 1, f, nd, h, l => by
    have h' : ns[j]? = some f := by simpa using h
    have ne : f ≠ n := fun e => (List.nodup_cons.mp nd).1 (e ▸ List.mem_of_getElem? h')
    have e : (f == n) = false := by simpa using ne
    simp only [List.zip_cons_cons, List.lookup_cons, e]
    simpa using lookup_zip (List.nodup_cons.mp nd).2 h' (by simpa using l)
def rFld (K : PySem.W.Frag) (f : Str) : V → Hp → VK → Prop := fun x H1 Q => ∃ a C dx fs v, x = .ref a ∧ H1 a = some (.ins C dx fs) ∧ Cls K C ∧ NoAttr K C f ∧ fs.lookup f = some v ∧ Q v H1
theorem fld_at {K : PySem.W.Frag} {T : Tab} {H : Hp} {f : Str} {ix : List (Nat × Nat)} (ok : FldOk K T f ix) {c j : Nat} {fs : List D} {vs : List V} {a dx : Addr} {S : Addr → Prop} {d : D} (h : H a = some (.ins (T.cm c) dx ((T.fl c).zip vs)))
    (hl : fs.length ≤ (T.fl c).length) (r : Reps K T H S fs vs) (hj : ix.lookup c = some j) (hd : fs[j]? = some d) : ∃ v, Rep K T H S d v ∧ ∀ Q : VK, Q v H → rFld K f (.ref a) H Q := by
  obtain ⟨c1, c2, c3, c4⟩ := ok.ok c j hj
  obtain ⟨v, hv, rv⟩ := r.get hd
  exact ⟨v, rv, fun Q q => ⟨a, _, dx, _, v, rfl, h, c1, c2, by rw [lookup_zip c4 c3 (by rw [← r.length]; exact hl)]; exact hv, q⟩⟩
theorem de_fld {fn : Str} {ix : List (Nat × Nat)} (ok : FldOk X.K C.T fn ix) (ha : DE X C Γ a Γ1 0 fa) (hb : attributeBase a fn X.env (eval a X.env) = eval a X.env := by rfl) : DE X C Γ (.Attribute a fn pos) Γ1 0 (mUn (gFld ix) fa) := by
  refine pe_imp (pe_fld ha hb) fun σ H Q h => un_data (r := rFld X.K fn) (fun S H d v d' r e => ?_) h
  cases d with
  | ins c fs =>
    simp only [Rep] at r
    obtain ⟨b, dx, vs, rfl, h1, s, hl, r⟩ := r
    simp only [gFld] at e
    cases q : ix.lookup c with
    | none => rw [q] at e; cases e
    | some j =>
      rw [q] at e
      obtain ⟨v, rv, g⟩ := fld_at ok h1 hl r q e
      exact .inl ⟨v, rv, rfl, g⟩
  | _ => cases e
/-- at a name: what it owns stays its own -/
def mFldN (i : Nat) (ix : List (Nat × Nat)) : Env → R (D × Env) := fun ρ => match ρ[i]? with
  | some (some d) => (ofO (gFld ix d)).bind fun e => .ok (e, ρ)
  | _ => .bad
theorem peek_ins {K : PySem.W.Frag} {T : Tab} {H : Hp} {S : Addr → Prop} {k : Nat} {c : Nat} {fs : List D} {v : V} {F : List Addr} (h : Own K T H S k (.ins c fs) v F) (hk : k ≤ 1) : ∃ a dx vs, v = .ref a ∧ H a = some (.ins (T.cm c) dx ((T.fl c).zip vs)) ∧ fs.length ≤ (T.fl c).length ∧ Reps K T H S fs vs := by
  match k, hk with
  | 0, _ =>
    obtain ⟨_, r⟩ := own_zero.mp h
    simp only [Rep] at r
    obtain ⟨b, dx, vs, e, h1, s, hl, r⟩ := r
    exact ⟨b, dx, vs, e, h1, hl, r⟩
  | 1, _ =>
    obtain ⟨b, dx, vs, e, h1, _, hl, r⟩ := own_ins1.mp h
    exact ⟨b, dx, vs, e, h1, hl, r⟩
theorem peek_lst {K : PySem.W.Frag} {T : Tab} {H : Hp} {S : Addr → Prop} {k : Nat} {xs : List D} {v : V} {F : List Addr} (h : Own K T H S k (.lst xs) v F) (hk : k ≤ 1) : ∃ a vs, v = .ref a ∧ H a = some (.lst vs) ∧ Reps K T H S xs vs := by
  match k, hk with
  | 0, _ =>
    obtain ⟨_, r⟩ := own_zero.mp h
    simp only [Rep] at r
    obtain ⟨b, vs, e, h1, s, r⟩ := r
    exact ⟨b, vs, e, h1, r⟩
  | 1, _ =>
    obtain ⟨b, vs, e, h1, _, r⟩ := own_lst1.mp h
    exact ⟨b, vs, e, h1, r⟩
theorem de_fldN {fn : Str} {ix : List (Nat × Nat)} (ok : FldOk X.K C.T fn ix) (hv : PE X (.Name x p) (tVar i)) (hk : Γ.getD i 0 ≤ 1 := by decide) (hb : attributeBase (.Name x p) fn X.env (eval (.Name x p) X.env) = eval (.Name x p) X.env := by rfl) :
    DE X C Γ (.Attribute (.Name x p) fn pos) Γ 0 (mFldN i ix) := by
  refine pe_imp (pe_fld hv hb) fun σ H Q h => ?_
  obtain ⟨S, ρ, fp, s, h⟩ := h
  unfold mFldN at h
  split at h
  · rename_i d q
    obtain ⟨v, hv, o⟩ := s.sl i d q
    refine ⟨v, hv, ?_⟩
    show rFld X.K fn v H Q
    cases d with
    | ins c fs =>
      obtain ⟨b, dx, vs, rfl, h1, hl, r⟩ := peek_ins o hk
      simp only [gFld] at h
      cases q1 : ix.lookup c with
      | none => rw [q1] at h; exact h.elim
      | some j =>
        rw [q1] at h
        cases q2 : fs[j]? with
        | none => dsimp only [Option.bind_some] at h; rw [q2] at h; exact h.elim
        | some e =>
          dsimp only [Option.bind_some] at h
          rw [q2] at h
          obtain ⟨w, rv, g⟩ := fld_at ok h1 hl r q1 q2
          exact g Q (h w H S fp [] s (.of rv) Fra.refl.ow')
    | _ => exact h.elim
  · exact h.elim
end

/-! ### tests -/
def mVal (fa : Env → R (D × Env)) : Env → R (Bool × Env) := fun ρ => (fa ρ).bind fun (x, ρ1) => match x with
  | .bl b => .ok (b, ρ1)
  | _ => .bad
def mAnd (fa fb : Env → R (Bool × Env)) : Env → R (Bool × Env) := fun ρ => (fa ρ).bind fun (b, ρ1) => if b = true then fb ρ1 else .ok (false, ρ1)
def mOr (fa fb : Env → R (Bool × Env)) : Env → R (Bool × Env) := fun ρ => (fa ρ).bind fun (b, ρ1) => if b = true then .ok (true, ρ1) else fb ρ1
def mNot (fa : Env → R (Bool × Env)) : Env → R (Bool × Env) := fun ρ => (fa ρ).bind fun (b, ρ1) => .ok (!b, ρ1)
def mIf (ft : Env → R (Bool × Env)) (fa fb : Env → R (D × Env)) : Env → R (D × Env) := fun ρ => (ft ρ).bind fun (b, ρ1) => if b = true then fa ρ1 else fb ρ1
def mAndV (fa fb : Env → R (D × Env)) : Env → R (D × Env) := fun ρ => (fa ρ).bind fun (x, ρ1) => match x with
  | .bl b => if b = true then fb ρ1 else .ok (.bl false, ρ1)
  | _ => .bad
def mOrV (fa fb : Env → R (D × Env)) : Env → R (D × Env) := fun ρ => (fa ρ).bind fun (x, ρ1) => match x with
  | .bl b => if b = true then .ok (.bl true, ρ1) else fb ρ1
  | _ => .bad
def gNot : D → Option D
  | .bl b => some (.bl (!b))
  | _ => none
def mChain (g g' : D → D → Option D) (fa fb fc : Env → R (D × Env)) : Env → R (D × Env) := fun ρ => (fa ρ).bind fun (x, ρ1) => (fb ρ1).bind fun (y, ρ2) => (ofO (g x y)).bind fun z => match z with
  | .bl b => if b = true then (fc ρ2).bind fun (w, ρ3) => (ofO (g' y w)).bind fun d => .ok (d, ρ3) else .ok (.bl false, ρ2)
  | _ => .bad
section
variable {X : Cx} {C : Cz} {Γ Γ' Γ1 Γ2 : List Nat} {k i : Nat} {x : Str} {pos p : Pos} {a b c e : Expr} {es : List Expr} {fa fb fc : Env → R (D × Env)} {ta tb : Env → R (Bool × Env)} {fs : Env → R (List D × Env)}
theorem rep_bl {K : PySem.W.Frag} {T : Tab} {H : Hp} {S : Addr → Prop} {b : Bool} {v : V} (h : Rep K T H S (.bl b) v) : v = .bl b := by simpa [Rep] using h
theorem rep_int {K : PySem.W.Frag} {T : Tab} {H : Hp} {S : Addr → Prop} {b : Int} {v : V} (h : Rep K T H S (.int b) v) : v = .int b := by simpa [Rep] using h
theorem rep_str {K : PySem.W.Frag} {T : Tab} {H : Hp} {S : Addr → Prop} {b : Str} {v : V} (h : Rep K T H S (.str b) v) : v = .str b := by simpa [Rep] using h
theorem rep_non {K : PySem.W.Frag} {T : Tab} {H : Hp} {S : Addr → Prop} {v : V} (h : Rep K T H S .non v) : v = .non := by simpa [Rep] using h
theorem val_data {σ : St} {H : Hp} {Q : Bool → Hp → Prop} (h : tT X.K C.T C.W Γ Γ1 (mVal fa) σ H Q) : tE X.K C.T C.W Γ Γ1 0 fa σ H (fun x H1 => ∃ c, x = .bl c ∧ Q c H1) := by
  obtain ⟨S, ρ, fp, s, h⟩ := h
  refine ⟨S, ρ, fp, s, OutE.thenT h fun d1 ρ1 v1 H1 S1 fp1 e1 s1 r1 f1 h1 => ?_⟩
  cases d1 with
  | bl b => exact ⟨b, rep_bl r1, h1 H1 S1 fp1 s1 Fra.refl⟩
  | _ => exact h1.elim
theorem dt_val (h : DE X C Γ e Γ1 0 fa) (he : ∀ whole, isTrue e X.env whole = (do let v ← whole; standAt e.pos; holding [v] (truthy v)) := by intro _; rfl) : DT X C Γ e Γ1 (mVal fa) :=
  pt_imp (pt_val h he) fun σ H Q h => val_data h
theorem dt_cmp {op : CmpOp} {r : R2} {g : D → D → Option D} (ho : OpR X (compareOp op) r) (hr : Prim2 X.K C.T 0 r g) (ha : DE X C Γ a Γ1 0 fa) (hb : DE X C Γ1 b Γ2 0 fb) (hn : behindInMarks op b = false) : DT X C Γ (.Compare a [op] [b] pos) Γ2 (mVal (mBin g fa fb)) :=
  pt_imp (pt_cmpR ho ha hb hn) fun σ H Q h => bin_data hr (val_data h)
abbrev DW (X : Cx) (Z : Cz) (Γ : List Nat) (e : Expr) (Γ' : List Nat) (f : Env → R (Bool × Env)) : Prop := PW X e (tT X.K Z.T Z.W Γ Γ' f)
theorem dw_and1 (ha : DT X C Γ a Γ1 ta) : DW X C Γ (.BoolOp .And [a] pos) Γ1 ta := pw_and1 ha
theorem dw_or1 (ha : DT X C Γ a Γ1 ta) : DW X C Γ (.BoolOp .Or [a] pos) Γ1 ta := pw_or1 ha
theorem dw_and (ha : DT X C Γ a Γ1 ta) (hb : DW X C Γ1 (.BoolOp .And (b :: es) pos) Γ1 tb) : DW X C Γ (.BoolOp .And (a :: b :: es) pos) Γ1 (mAnd ta tb) :=
  pw_imp (pw_and ha hb) fun σ H Q h => by
    obtain ⟨S, ρ, fp, s, h⟩ := h
    refine ⟨S, ρ, fp, s, OutT.thenT h fun b ρ1 H1 S1 fp1 e1 s1 f1 h1 => ?_⟩
    cases b with
    | true => exact ⟨S1, ρ1, fp1, s1, h1⟩
    | false => exact h1 H1 S1 fp1 s1 Fra.refl
theorem dw_or (ha : DT X C Γ a Γ1 ta) (hb : DW X C Γ1 (.BoolOp .Or (b :: es) pos) Γ1 tb) : DW X C Γ (.BoolOp .Or (a :: b :: es) pos) Γ1 (mOr ta tb) :=
  pw_imp (pw_or ha hb) fun σ H Q h => by
    obtain ⟨S, ρ, fp, s, h⟩ := h
    refine ⟨S, ρ, fp, s, OutT.thenT h fun b ρ1 H1 S1 fp1 e1 s1 f1 h1 => ?_⟩
    cases b with
    | false => exact ⟨S1, ρ1, fp1, s1, h1⟩
    | true => exact h1 H1 S1 fp1 s1 Fra.refl
theorem dt_w (h : DW X C Γ e Γ1 ta) : DT X C Γ e Γ1 ta := PW.pt h
theorem dt_not (ha : DT X C Γ a Γ1 ta) : DT X C Γ (.UnaryOp .Not a pos) Γ1 (mNot ta) :=
  pt_imp (pt_not ha) fun σ H Q h => by
    obtain ⟨S, ρ, fp, s, h⟩ := h
    exact ⟨S, ρ, fp, s, OutT.thenT h fun b ρ1 H1 S1 fp1 e1 s1 f1 h1 => h1 H1 S1 fp1 s1 Fra.refl⟩
theorem de_if (hc : DT X C Γ c Γ1 ta) (ha : DE X C Γ1 a Γ2 k fa) (hb : DE X C Γ1 b Γ2 k fb) : DE X C Γ (.IfExp c a b pos) Γ2 k (mIf ta fa fb) :=
  pe_imp (pe_ifExp hc ha hb) fun σ H Q h => by
    obtain ⟨S, ρ, fp, s, h⟩ := h
    refine ⟨S, ρ, fp, s, OutT.thenE h fun b ρ1 H1 S1 fp1 e1 s1 f1 h1 => ?_⟩
    cases b with
    | true => exact ⟨S1, ρ1, fp1, s1, h1⟩
    | false => exact ⟨S1, ρ1, fp1, s1, h1⟩
theorem de_one {op : BoolOp} (ha : DE X C Γ a Γ1 k fa) : DE X C Γ (.BoolOp op [a] pos) Γ1 k fa := pe_one ha
theorem de_and (ha : DE X C Γ a Γ1 0 fa) (hb : DE X C Γ1 (.BoolOp .And (b :: es) pos) Γ1 0 fb) : DE X C Γ (.BoolOp .And (a :: b :: es) pos) Γ1 0 (mAndV fa fb) :=
  pe_imp (pe_and ha hb) fun σ H Q h => by
    obtain ⟨S, ρ, fp, s, h⟩ := h
    refine ⟨S, ρ, fp, s, OutE.then0 h fun d ρ1 v H1 S1 fp1 e1 s1 r1 f1 h1 => ?_⟩
    cases d with
    | bl b =>
      refine ⟨b, rep_bl r1, ?_⟩
      cases b with
      | true => exact ⟨S1, ρ1, fp1, s1, h1⟩
      | false => exact h1 _ H1 S1 fp1 [] s1 (.of (by simp [Rep])) Fra.refl.ow'
    | _ => exact h1.elim
theorem de_or (ha : DE X C Γ a Γ1 0 fa) (hb : DE X C Γ1 (.BoolOp .Or (b :: es) pos) Γ1 0 fb) : DE X C Γ (.BoolOp .Or (a :: b :: es) pos) Γ1 0 (mOrV fa fb) :=
  pe_imp (pe_or ha hb) fun σ H Q h => by
    obtain ⟨S, ρ, fp, s, h⟩ := h
    refine ⟨S, ρ, fp, s, OutE.then0 h fun d ρ1 v H1 S1 fp1 e1 s1 r1 f1 h1 => ?_⟩
    cases d with
    | bl b =>
      refine ⟨b, rep_bl r1, ?_⟩
      cases b with
      | false => exact ⟨S1, ρ1, fp1, s1, h1⟩
      | true => exact h1 _ H1 S1 fp1 [] s1 (.of (by simp [Rep])) Fra.refl.ow'
    | _ => exact h1.elim
theorem de_not (ha : DE X C Γ a Γ1 0 fa) : DE X C Γ (.UnaryOp .Not a pos) Γ1 0 (mUn gNot fa) :=
  pe_imp (pe_not ha) fun σ H Q h => un_data (r := fun x H1 Q => ∃ c, x = .bl c ∧ Q (.bl (!c)) H1) (fun S H d v d' r e => by
    cases d with
    | bl b => cases e; exact .inl ⟨.bl (!b), by simp [Rep], rfl, fun Q q => ⟨b, rep_bl r, q⟩⟩
    | _ => cases e) h
theorem chain_data {r r' : R2} {g g' : D → D → Option D} {σ : St} {H : Hp} {Q : VK} (hr : Prim2 X.K C.T 0 r g) (hr' : Prim2 X.K C.T 0 r' g') (h : tE X.K C.T C.W Γ Γ 0 (mChain g g' fa fb fc) σ H Q) :
    tChain r r' (tE X.K C.T C.W Γ Γ 0 fa) (tE X.K C.T C.W Γ Γ 0 fb) (tE X.K C.T C.W Γ Γ 0 fc) σ H Q := by
  obtain ⟨S, ρ, fp, s, h⟩ := h
  refine ⟨S, ρ, fp, s, OutE.then0 h fun d1 ρ1 v1 H1 S1 fp1 e1 s1 r1 f1 h1 => ?_⟩
  refine ⟨S1, ρ1, fp1, s1, OutE.then0 h1 fun d2 ρ2 v2 H2 S2 fp2 e2 s2 r2 f2 h2 => ?_⟩
  dsimp only at h2
  cases q : g d1 d2 with
  | none => rw [q] at h2; exact h2.elim
  | some d =>
    rw [q] at h2
    refine gives_out (Γ := Γ) (k := 0) (W := C.W) (ρ := ρ2) s2 (hr S2 H2 d1 d2 v1 v2 d (s1.rep_fra r1 f2) r2 q) ?_
    intro v3 H3 S3 fp3 Fv s3 x3 f3
    obtain ⟨e3, r3⟩ := x3.rep
    subst e3
    cases d with
    | bl b =>
      refine ⟨b, rep_bl r3, ?_⟩
      have h3 := OutE.before f3.ow h2
      cases b with
      | true =>
        refine ⟨S3, ρ2, fp3, s3, OutE.then0 h3 fun d4 ρ4 v4 H4 S4 fp4 e4 s4 r4 f4 h4 => ?_⟩
        dsimp only at h4
        cases q' : g' d2 d4 with
        | none => rw [q'] at h4; exact h4.elim
        | some d' =>
          rw [q'] at h4
          exact gives_out s4 (hr' S4 H4 d2 d4 v2 v4 d' (s3.rep_fra (s2.rep_fra r2 f3) f4) r4 q') h4
      | false => exact h3 _ H3 S3 fp3 [] s3 (.of (by simp [Rep])) Fra.refl.ow'
    | _ => exact h2.elim
theorem de_chain {op op' : CmpOp} {r r' : R2} {g g' : D → D → Option D} (ho : OpR X (compareOp op) r) (ho' : OpR X (compareOp op') r') (hr : Prim2 X.K C.T 0 r g) (hr' : Prim2 X.K C.T 0 r' g') (ha : DE X C Γ a Γ 0 fa) (hb : DE X C Γ b Γ 0 fb) (hc : DE X C Γ c Γ 0 fc)
    (hm : lastMarks [op, op'] [b, c] = false := by with_unfolding_all rfl) : DE X C Γ (.Compare a [op, op'] [b, c] pos) Γ 0 (mChain g g' fa fb fc) :=
  pe_imp (pe_chain ho ho' ha hb hc hm) fun σ H Q h => chain_data hr hr' h
theorem dt_chain {op op' : CmpOp} {r r' : R2} {g g' : D → D → Option D} (ho : OpR X (compareOp op) r) (ho' : OpR X (compareOp op') r') (hr : Prim2 X.K C.T 0 r g) (hr' : Prim2 X.K C.T 0 r' g') (ha : DE X C Γ a Γ 0 fa) (hb : DE X C Γ b Γ 0 fb) (hc : DE X C Γ c Γ 0 fc)
    (hm : lastMarks [op, op'] [b, c] = false := by with_unfolding_all rfl) : DT X C Γ (.Compare a [op, op'] [b, c] pos) Γ (mVal (mChain g g' fa fb fc)) :=
  pt_imp (pt_chain ho ho' ha hb hc hm) fun σ H Q h => chain_data hr hr' (val_data h)
end
end Z
set_option Elab.async false
set_option linter.all false
set_option maxRecDepth 100000
/-! Z4: statements -/
namespace Z
open PySem PySem.Spec L2
open PyProof.Rows hiding St

/-- how a block ends -/
inductive Fl where
  | nx | bk | ct | rt (d : D)
/-- what is owned at each end; kr: how far a returned value is new -/
structure Js where
  nx : List Nat
  bk : List Nat
  ct : List Nat
  rt : List Nat
  kr : Nat
/-- the slots of P are not stored to -/
def Kp (P : List Nat) (σ σ' : St) : Prop := ∀ i ∈ P, σ'[i]? = σ[i]?
theorem Kp.refl {P : List Nat} {σ : St} : Kp P σ σ := fun _ _ => rfl
theorem Kp.trans {P : List Nat} {σ σ1 σ2 : St} (a : Kp P σ σ1) (b : Kp P σ1 σ2) : Kp P σ σ2 := fun i h => (b i h).trans (a i h)
theorem Kp.set {P : List Nat} {σ : St} {i : Nat} {x : Option V} (h : i ∉ P) : Kp P σ (σ.set i x) := fun j hj => by
  rw [List.getElem?_set_ne]
  rintro rfl; exact h hj

def OutS (K : PySem.W.Frag) (T : Tab) (W : WX) (P : List Nat) (J : Js) (σ : St) (H : Hp) (S : Addr → Prop) (fp : Nat → List Addr) (E : Ends) : R (Fl × Env) → Prop
  | .ok (.nx, ρ') => ∀ σ' H' S' fp', Stt K T J.nx S' σ' H' ρ' fp' → Kp P σ σ' → Fra H S (Ow fp) H' S' (Ow fp') → E.nx σ' H'
  | .ok (.bk, ρ') => ∀ σ' H' S' fp', Stt K T J.bk S' σ' H' ρ' fp' → Kp P σ σ' → Fra H S (Ow fp) H' S' (Ow fp') → E.bk σ' H'
  | .ok (.ct, ρ') => ∀ σ' H' S' fp', Stt K T J.ct S' σ' H' ρ' fp' → Kp P σ σ' → Fra H S (Ow fp) H' S' (Ow fp') → E.ct σ' H'
  | .ok (.rt d, ρ') => ∀ v σ' H' S' fp' Fv, Stt K T J.rt S' σ' H' ρ' fp' → Val K T S' H' fp' J.kr d v Fv → Kp P σ σ' → Fra H S (Ow fp) H' S' (fun a => Ow fp' a ∨ a ∈ Fv) → E.rt v H'
  | .er c fs => ∀ σ', Kp P σ σ' → OutX K T W σ' H S (Ow fp) c fs
  | .bad => False
def tS (K : PySem.W.Frag) (T : Tab) (W : WX) (P : List Nat) (J : Js) (Γ : List Nat) (f : Env → R (Fl × Env)) : TS := fun E σ H => ∃ S ρ fp, Stt K T Γ S σ H ρ fp ∧ OutS K T W P J σ H S fp E (f ρ)
abbrev DS (X : Cx) (Z : Cz) (P : List Nat) (J : Js) (Γ : List Nat) (st : Stmt) (f : Env → R (Fl × Env)) : Prop := PS X st (tS X.K Z.T Z.W P J Γ f)
abbrev DSs (X : Cx) (Z : Cz) (P : List Nat) (J : Js) (Γ : List Nat) (st : List Stmt) (f : Env → R (Fl × Env)) : Prop := PSs X st (tS X.K Z.T Z.W P J Γ f)

section
variable {K : PySem.W.Frag} {T : Tab} {W : WX} {P : List Nat} {J J' : Js} {Γ Γ1 Γ2 : List Nat} {k : Nat} {σ σ1 : St} {H H1 : Hp} {S S1 : Addr → Prop} {fp fp1 : Nat → List Addr} {ρ ρ1 : Env} {E : Ends}
theorem OutX.stepσ {c : Nat} {fs : List D} {O : Addr → Prop} (h : OutX K T W σ H S O c fs) : OutX K T W σ H S O c fs := h
theorem OutS.before {r : R (Fl × Env)} (kp : Kp P σ σ1) (f : Fra H S (Ow fp) H1 S1 (Ow fp1)) (h : OutS K T W P J σ H S fp E r) : OutS K T W P J σ1 H1 S1 fp1 E r := by
  match r, h with
  | .ok (.nx, ρ'), h => exact fun σ' H' S' fp' s k g => h σ' H' S' fp' s (kp.trans k) (f.trans g)
  | .ok (.bk, ρ'), h => exact fun σ' H' S' fp' s k g => h σ' H' S' fp' s (kp.trans k) (f.trans g)
  | .ok (.ct, ρ'), h => exact fun σ' H' S' fp' s k g => h σ' H' S' fp' s (kp.trans k) (f.trans g)
  | .ok (.rt d, ρ'), h => exact fun v σ' H' S' fp' Fv s x k g => h v σ' H' S' fp' Fv s x (kp.trans k) (f.trans g)
  | .er c fs, h => exact fun σ' k => OutX.before f (h σ' (kp.trans k))
  | .bad, h => exact h
theorem OutS.er {c : Nat} {fs : List D} (h : OutS K T W P J σ H S fp E (.er c fs)) : OutX K T W σ H S (Ow fp) c fs := h σ Kp.refl
/-- an expression ahead of a statement's end -/
theorem OutE.thenS {r : R (D × Env)} {Γ' : List Nat} {Q' : VK} {g : D × Env → R (Fl × Env)} (h : OutS K T W P J σ H S fp E (r.bind g))
    (go : ∀ d ρ1 v H1 S1 fp1 Fv, r = .ok (d, ρ1) → Stt K T Γ' S1 σ H1 ρ1 fp1 → Val K T S1 H1 fp1 k d v Fv → Fra H S (Ow fp) H1 S1 (fun a => Ow fp1 a ∨ a ∈ Fv) → OutS K T W P J σ H S fp E (g (d, ρ1)) → Q' v H1) : OutE K T W Γ' k σ H S fp Q' r := by
  cases r with
  | ok a =>
    obtain ⟨d, ρ1⟩ := a
    intro v H' S' fp' Fv s x f
    exact go d ρ1 v H' S' fp' Fv rfl s x f h
  | er c fs => exact OutS.er h
  | bad => exact h
theorem OutT.thenS {r : R (Bool × Env)} {Γ' : List Nat} {Q' : Bool → Hp → Prop} {g : Bool × Env → R (Fl × Env)} (h : OutS K T W P J σ H S fp E (r.bind g))
    (go : ∀ b ρ1 H1 S1 fp1, r = .ok (b, ρ1) → Stt K T Γ' S1 σ H1 ρ1 fp1 → Fra H S (Ow fp) H1 S1 (Ow fp1) → OutS K T W P J σ H1 S1 fp1 E (g (b, ρ1)) → Q' b H1) : OutT K T W Γ' σ H S fp Q' r := by
  cases r with
  | ok a =>
    obtain ⟨d, ρ1⟩ := a
    intro H' S' fp' s f
    exact go d ρ1 H' S' fp' rfl s f (OutS.before Kp.refl f h)
  | er c fs => exact OutS.er h
  | bad => exact h
theorem OutA.thenS {r : R (List D × Env)} {Γ' : List Nat} {Q' : List V → Hp → Prop} {g : List D × Env → R (Fl × Env)} (h : OutS K T W P J σ H S fp E (r.bind g))
    (go : ∀ ds ρ1 vs H1 S1 fp1, r = .ok (ds, ρ1) → Stt K T Γ' S1 σ H1 ρ1 fp1 → Reps K T H1 S1 ds vs → Fra H S (Ow fp) H1 S1 (Ow fp1) → OutS K T W P J σ H1 S1 fp1 E (g (ds, ρ1)) → Q' vs H1) : OutA K T W Γ' σ H S fp Q' r := by
  cases r with
  | ok a =>
    obtain ⟨d, ρ1⟩ := a
    intro vs H' S' fp' s r f
    exact go d ρ1 vs H' S' fp' rfl s r f (OutS.before Kp.refl f h)
  | er c fs => exact OutS.er h
  | bad => exact h
/-- a statement ahead of what follows -/
theorem OutS.then {r : R (Fl × Env)} {g : Env → R (Fl × Env)} {nx' : St → Hp → Prop} (h : OutS K T W P J σ H S fp E (r.bind fun (fl, ρ1) => match fl with | .nx => g ρ1 | _ => .ok (fl, ρ1)))
    (go : ∀ ρ1 σ1 H1 S1 fp1, r = .ok (.nx, ρ1) → Stt K T Γ1 S1 σ1 H1 ρ1 fp1 → Kp P σ σ1 → OutS K T W P J σ1 H1 S1 fp1 E (g ρ1) → nx' σ1 H1) : OutS K T W P { J with nx := Γ1 } σ H S fp { E with nx := nx' } r := by
  match r, h with
  | .ok (.nx, ρ'), h => exact fun σ' H' S' fp' s k f => go ρ' σ' H' S' fp' rfl s k (OutS.before k f h)
  | .ok (.bk, ρ'), h => exact h
  | .ok (.ct, ρ'), h => exact h
  | .ok (.rt d, ρ'), h => exact h
  | .er c fs, h => exact h
  | .bad, h => exact h
end

def mSkip : Env → R (Fl × Env) := fun ρ => .ok (.nx, ρ)
def mSeq (f g : Env → R (Fl × Env)) : Env → R (Fl × Env) := fun ρ => (f ρ).bind fun (fl, ρ1) => match fl with
  | .nx => g ρ1
  | _ => .ok (fl, ρ1)
def mSet (i : Nat) (fa : Env → R (D × Env)) : Env → R (Fl × Env) := fun ρ => (fa ρ).bind fun (d, ρ1) => .ok (.nx, ρ1.set i (some d))
def mRet (fa : Env → R (D × Env)) : Env → R (Fl × Env) := fun ρ => (fa ρ).bind fun (d, ρ1) => .ok (.rt d, ρ1)
def mRetN : Env → R (Fl × Env) := fun ρ => .ok (.rt .non, ρ)
def mBrk : Env → R (Fl × Env) := fun ρ => .ok (.bk, ρ)
def mCnt : Env → R (Fl × Env) := fun ρ => .ok (.ct, ρ)
def mDrop (fa : Env → R (D × Env)) : Env → R (Fl × Env) := fun ρ => (fa ρ).bind fun (_, ρ1) => .ok (.nx, ρ1)
def mIfS (ft : Env → R (Bool × Env)) (fa fb : Env → R (Fl × Env)) : Env → R (Fl × Env) := fun ρ => (ft ρ).bind fun (b, ρ1) => if b = true then fa ρ1 else fb ρ1

section
variable {X : Cx} {C : Cz} {P : List Nat} {J : Js} {Γ Γ' Γ1 Γ2 : List Nat} {k i j : Nat} {x y : Str} {pos p p2 : Pos} {a b e : Expr} {es : List Expr} {fa fb : Env → R (D × Env)} {ta tb : Env → R (Bool × Env)} {fs : Env → R (List D × Env)} {st : Stmt} {sts s2 : List Stmt} {f g : Env → R (Fl × Env)}
theorem pss_imp {t t' : TS} (h : PSs X sts t) (i : ∀ E σ H, t' E σ H → t E σ H) : PSs X sts t' := ⟨fun pins s σ H E I q => h.run pins s σ H E I (i E σ H q)⟩
theorem ps_imp {t t' : TS} (h : PS X st t) (i : ∀ E σ H, t' E σ H → t E σ H) : PS X st t' := ⟨fun pins s σ H E I q => h.run pins s σ H E I (i E σ H q)⟩
theorem dss_nil (h : J.nx = Γ := by rfl) : DSs X C P J Γ [] mSkip := pss_imp pss_nil fun E σ H h' => by
  subst h
  obtain ⟨S, ρ, fp, s, h'⟩ := h'
  exact h' σ H S fp s Kp.refl Fra.refl
theorem dss_cons (ha : DS X C P { J with nx := Γ1 } Γ st f) (hb : DSs X C P J Γ1 sts g) : DSs X C P J Γ (st :: sts) (mSeq f g) := pss_imp (pss_cons ha hb) fun E σ H h => by
  obtain ⟨S, ρ, fp, s, h⟩ := h
  exact ⟨S, ρ, fp, s, OutS.then h fun ρ1 σ1 H1 S1 fp1 e1 s1 k1 h1 => ⟨S1, ρ1, fp1, s1, h1⟩⟩
theorem dss_one (ha : DS X C P J Γ st f) : DSs X C P J Γ [st] f := pss_one ha
theorem ds_pass (h : J.nx = Γ := by rfl) : DS X C P J Γ (.Pass pos) mSkip := ps_imp ps_pass fun E σ H h' => by
  subst h
  obtain ⟨S, ρ, fp, s, h'⟩ := h'
  exact h' σ H S fp s Kp.refl Fra.refl
theorem ds_brk (h : J.bk = Γ := by rfl) : DS X C P J Γ (.Break pos) mBrk := ps_imp ps_break fun E σ H h' => by
  subst h
  obtain ⟨S, ρ, fp, s, h'⟩ := h'
  exact h' σ H S fp s Kp.refl Fra.refl
theorem ds_cnt (h : J.ct = Γ := by rfl) : DS X C P J Γ (.Continue pos) mCnt := ps_imp ps_continue fun E σ H h' => by
  subst h
  obtain ⟨S, ρ, fp, s, h'⟩ := h'
  exact h' σ H S fp s Kp.refl Fra.refl
theorem ds_ret (ha : DE X C Γ e Γ1 k fa) (h1 : J.rt = Γ1 := by rfl) (h2 : J.kr = k := by rfl) : DS X C P J Γ (.Return (some e) pos) (mRet fa) := ps_imp (ps_ret ha) fun E σ H h => by
  subst h1 h2
  obtain ⟨S, ρ, fp, s, h⟩ := h
  exact ⟨S, ρ, fp, s, OutE.thenS h fun d ρ1 v H1 S1 fp1 Fv e1 s1 x1 f1 h1 => h1 v σ H1 S1 fp1 Fv s1 x1 Kp.refl f1⟩
theorem ds_retN (h1 : J.rt = Γ := by rfl) : DS X C P J Γ (.Return none pos) mRetN := ps_imp ps_retN fun E σ H h => by
  subst h1
  obtain ⟨S, ρ, fp, s, h⟩ := h
  refine h .non σ H S fp [] s ⟨?_, List.nodup_nil, fun a h => (nomatch h), fun a h => (nomatch h)⟩ Kp.refl Fra.refl.ow'
  cases J.kr with
  | zero => exact own_zero.mpr ⟨rfl, by simp [Rep]⟩
  | succ k => simp [Own, Rep]
theorem ds_drop (ha : DE X C Γ e Γ1 0 fa) (h1 : J.nx = Γ1 := by rfl) (hs : swapsWith e none pos.line X.env = pure false := by rfl) : DS X C P J Γ (.Expr e pos) (mDrop fa) := ps_imp (ps_expr ha hs) fun E σ H h => by
  subst h1
  obtain ⟨S, ρ, fp, s, h⟩ := h
  exact ⟨S, ρ, fp, s, OutE.thenS h fun d ρ1 v H1 S1 fp1 Fv e1 s1 x1 f1 h1 => h1 σ H1 S1 fp1 s1 Kp.refl (f1.less fun b z => .inl z)⟩
theorem ds_if {cnd : Expr} (hc : DT X C Γ cnd Γ1 ta) (ha : DSs X C P J Γ1 sts f) (hb : DSs X C P J Γ1 s2 g) : DS X C P J Γ (.If cnd sts s2 pos) (mIfS ta f g) := ps_imp (ps_if hc ha hb) fun E σ H h => by
  obtain ⟨S, ρ, fp, s, h⟩ := h
  refine ⟨S, ρ, fp, s, OutT.thenS h fun b ρ1 H1 S1 fp1 e1 s1 f1 h1 => ?_⟩
  cases b with
  | true => exact ⟨S1, ρ1, fp1, s1, h1⟩
  | false => exact ⟨S1, ρ1, fp1, s1, h1⟩
/-- at the end of a block what i owns is shared -/
theorem dss_wk (i : Nat) (Γn : List Nat) (h : DSs X C P { J with nx := Γn } Γ sts f) (e : J.nx = Γn.set i 0 := by rfl) : DSs X C P J Γ sts f := pss_imp h fun E σ H h => by
  obtain ⟨S, ρ, fp, s, h⟩ := h
  refine ⟨S, ρ, fp, s, ?_⟩
  revert h
  generalize f ρ = r
  intro h
  match r, h with
  | .ok (.nx, ρ'), h => exact fun σ' H' S' fp' s' k f' => h σ' H' _ _ (by rw [e]; exact s'.give i) k (f'.trans (Fra.give s'.sep i))
  | .ok (.bk, ρ'), h => exact h
  | .ok (.ct, ρ'), h => exact h
  | .ok (.rt d, ρ'), h => exact h
  | .er c fs, h => exact h
  | .bad, h => exact h
/-- x = e; t0: the reading of e that the store's rule has -/
theorem ds_set {t0 : TE} (hps : PS X (.Assign [.Name x p] e pos) (tAsg t0 (gName i))) (h0 : ∀ σ H Q, tE X.K C.T C.W Γ Γ1 k fa σ H Q → t0 σ H Q) (hi : i < Γ1.length := by decide) (hp : i ∉ P := by decide) (h1 : J.nx = Γ1.set i k := by rfl) :
    DS X C P J Γ (.Assign [.Name x p] e pos) (mSet i fa) := ps_imp hps fun E σ H h => by
  obtain ⟨S, ρ, fp, s, h⟩ := h
  refine h0 σ H _ ⟨S, ρ, fp, s, OutE.thenS h fun d ρ1 v H1 S1 fp1 Fv e1 s1 x1 f1 h2 => ?_⟩
  exact h2 _ H1 S1 _ (by rw [h1]; exact s1.put hi x1) (Kp.set hp) (f1.trans Fra.put)
end

/-! ### targets -/
def tGt (K : PySem.W.Frag) (T : Tab) (P Γ Γ' : List Nat) (g : D → Env → Option Env) : TG := fun v σ H Q => ∃ S ρ fp d, Stt K T Γ S σ H ρ fp ∧ Rep K T H S d v ∧ match g d ρ with
  | some ρ' => ∀ σ' H' S' fp', Stt K T Γ' S' σ' H' ρ' fp' → Kp P σ σ' → Fra H S (Ow fp) H' S' (Ow fp') → Q σ' H'
  | none => False
def tGs (K : PySem.W.Frag) (T : Tab) (P Γ Γ' : List Nat) (g : List D → Env → Option Env) : TGs := fun vs σ H Q => ∃ S ρ fp ds, Stt K T Γ S σ H ρ fp ∧ Reps K T H S ds vs ∧ match g ds ρ with
  | some ρ' => ∀ σ' H' S' fp', Stt K T Γ' S' σ' H' ρ' fp' → Kp P σ σ' → Fra H S (Ow fp) H' S' (Ow fp') → Q σ' H'
  | none => False
abbrev DG (X : Cx) (Z : Cz) (P Γ : List Nat) (tg : Expr) (Γ' : List Nat) (g : D → Env → Option Env) : Prop := PG X tg (tGt X.K Z.T P Γ Γ' g)
abbrev DGs (X : Cx) (Z : Cz) (P Γ : List Nat) (tg : List Expr) (Γ' : List Nat) (g : List D → Env → Option Env) : Prop := PGs X tg (tGs X.K Z.T P Γ Γ' g)
def gtN (i : Nat) : D → Env → Option Env := fun d ρ => some (ρ.set i (some d))
def gtT (n : Nat) (g : List D → Env → Option Env) : D → Env → Option Env := fun d ρ => match d with
  | .tup xs => if xs.length = n then g xs ρ else none
  | _ => none
def gtNil : List D → Env → Option Env := fun ds ρ => match ds with
  | [] => some ρ
  | _ => none
def gtCons (g : D → Env → Option Env) (gs : List D → Env → Option Env) : List D → Env → Option Env := fun ds ρ => match ds with
  | d :: r => (g d ρ).bind fun ρ1 => gs r ρ1
  | [] => none
def mAsg (g : D → Env → Option Env) (fa : Env → R (D × Env)) : Env → R (Fl × Env) := fun ρ => (fa ρ).bind fun (d, ρ1) => (ofO (g d ρ1)).bind fun ρ2 => .ok (.nx, ρ2)
def mPar (i j : Nat) (fs : Env → R (List D × Env)) : Env → R (Fl × Env) := fun ρ => (fs ρ).bind fun (ds, ρ1) => match ds with
  | [d, e] => .ok (.nx, (ρ1.set i (some d)).set j (some e))
  | _ => .bad
def mAug (i : Nat) (g : D → D → Option D) (fb : Env → R (D × Env)) : Env → R (Fl × Env) := fun ρ => match ρ[i]? with
  | some (some x) => (fb ρ).bind fun (y, ρ1) => (ofO (g x y)).bind fun d => .ok (.nx, ρ1.set i (some d))
  | _ => .bad
section
variable {X : Cx} {C : Cz} {P : List Nat} {J : Js} {Γ Γ' Γ1 Γ2 : List Nat} {k i j : Nat} {x y : Str} {pos p p2 : Pos} {a b e tg : Expr} {es : List Expr} {fa fb : Env → R (D × Env)} {ta tb : Env → R (Bool × Env)} {fs : Env → R (List D × Env)} {g1 : D → Env → Option Env} {gs : List D → Env → Option Env}
theorem pg_imp {t t' : TG} (h : PG X tg t) (i : ∀ v σ H Q, t' v σ H Q → t v σ H Q) : PG X tg t' := ⟨fun pins s σ H v u Q I r q => h.run pins s σ H v u Q I r (i v σ H Q q)⟩
theorem pgs_imp {t t' : TGs} (h : PGs X es t) (i : ∀ v σ H Q, t' v σ H Q → t v σ H Q) : PGs X es t' := ⟨fun pins s σ H v u Q I r q => h.run pins s σ H v u Q I r (i v σ H Q q)⟩
theorem dg_name (hn : PG X (.Name x p) (gName i)) (hi : i < Γ.length := by decide) (hp : i ∉ P := by decide) (hΓ : Γ.set i 0 = Γ' := by rfl) : DG X C P Γ (.Name x p) Γ' (gtN i) := pg_imp hn fun v σ H Q h => by
  subst hΓ
  obtain ⟨S, ρ, fp, d, s, r, h⟩ := h
  exact h _ H S _ (s.put hi (.of r)) (Kp.set hp) (Fra.trans (Fra.refl.ow') Fra.put)
theorem dgs_nil : DGs X C P Γ [] Γ gtNil := pgs_imp pgs_nil fun vs σ H Q h => by
  obtain ⟨S, ρ, fp, ds, s, r, h⟩ := h
  cases ds with
  | nil => simp only [Reps] at r; exact ⟨r, h σ H S fp s Kp.refl Fra.refl⟩
  | cons d r => exact h.elim
theorem dgs_cons (h1 : DG X C P Γ e Γ1 g1) (h2 : DGs X C P Γ1 es Γ2 gs) (hs : (assignEach (e :: es) X.env).map (·.2) = assign e X.env :: (assignEach es X.env).map (·.2) := by rfl) : DGs X C P Γ (e :: es) Γ2 (gtCons g1 gs) := pgs_imp (pgs_cons h1 h2 hs) fun vs σ H Q h => by
  obtain ⟨S, ρ, fp, ds, s, r, h⟩ := h
  cases ds with
  | nil => exact h.elim
  | cons d dr =>
    simp only [Reps] at r
    obtain ⟨v, ws, rfl, r1, r2⟩ := r
    refine ⟨v, ws, rfl, S, ρ, fp, d, s, r1, ?_⟩
    simp only [gtCons] at h
    cases q : g1 d ρ with
    | none => rw [q] at h; exact h.elim
    | some ρ1 =>
      rw [q] at h
      intro σ1 H1 S1 fp1 s1 k1 f1
      refine ⟨S1, ρ1, fp1, dr, s1, s.reps_fra r2 f1, ?_⟩
      dsimp only [Option.bind_some] at h
      cases q2 : gs dr ρ1 with
      | none => rw [q2] at h; exact h.elim
      | some ρ2 =>
        rw [q2] at h
        exact fun σ' H' S' fp' s' k' f' => h σ' H' S' fp' s' (k1.trans k') (f1.trans f')
theorem dg_tup {n m : Nat} (hc : X.calm = true) (h : DGs X C P Γ es Γ1 gs) (hn : (assignEach es X.env).length = n := by rfl) (hst : (assignEach es X.env).findIdx? (·.1) = none := by rfl) : DG X C P Γ (.Tuple es m pos) Γ1 (gtT n gs) := pg_imp (pg_tup hc h hn hst) fun v σ H Q h => by
  obtain ⟨S, ρ, fp, d, s, r, h⟩ := h
  cases d with
  | tup xs =>
    simp only [Rep] at r
    obtain ⟨a, vs, rfl, t, r⟩ := r
    by_cases hl : xs.length = n
    · simp only [gtT, if_pos hl] at h
      exact ⟨a, vs, rfl, t, by rw [← r.length]; exact hl, S, ρ, fp, xs, s, r, h⟩
    · simp only [gtT, if_neg hl] at h
  | _ => exact h.elim
theorem ds_asg (ha : DE X C Γ e Γ1 0 fa) (hg : DG X C P Γ1 tg Γ2 g1) (h1 : J.nx = Γ2 := by rfl) (hs : swapsWithSole [tg] e pos.line X.env = pure false := by rfl) (hw : swappedStores [tg] e X.env = pure none := by rfl)
    (hx : (assignEach [tg] X.env).map (·.2) = [assign tg X.env] := by rfl) : DS X C P J Γ (.Assign [tg] e pos) (mAsg g1 fa) := ps_imp (ps_asg ha hg hs hw hx) fun E σ H h => by
  subst h1
  obtain ⟨S, ρ, fp, s, h⟩ := h
  refine ⟨S, ρ, fp, s, OutE.thenS h fun d ρ1 v H1 S1 fp1 Fv e1 s1 x1 f1 h2 => ?_⟩
  obtain ⟨e2, r⟩ := x1.rep
  subst e2
  refine ⟨S1, ρ1, fp1, d, s1, r, ?_⟩
  dsimp only at h2
  cases q : g1 d ρ1 with
  | none => rw [q] at h2; exact h2.elim
  | some ρ2 =>
    rw [q] at h2
    exact fun σ' H' S' fp' s' k' f' => h2 σ' H' S' fp' s' k' (f1.ow.trans f')
/-- a, b = e1, e2 -/
theorem ds_par {px py pt : Pos} {kt k2 : Nat} {pt2 : Pos} (hps : PS X (.Assign [.Tuple [.Name x px, .Name y py] kt pt] (.Tuple [a, b] k2 pt2) pos) (tPar i j (tA X.K C.T C.W Γ Γ1 fs))) (hi : i < Γ1.length := by decide) (hj : j < Γ1.length := by decide)
    (hp : i ∉ P := by decide) (hq : j ∉ P := by decide) (h1 : J.nx = (Γ1.set i 0).set j 0 := by rfl) : DS X C P J Γ (.Assign [.Tuple [.Name x px, .Name y py] kt pt] (.Tuple [a, b] k2 pt2) pos) (mPar i j fs) := ps_imp hps fun E σ H h => by
  obtain ⟨S, ρ, fp, s, h⟩ := h
  refine ⟨S, ρ, fp, s, OutA.thenS h fun ds ρ1 vs H1 S1 fp1 e1 s1 r1 f1 h2 => ?_⟩
  dsimp only at h2
  match ds, r1, h2 with
  | [d, e], rr, hh =>
    simp only [Reps] at rr
    obtain ⟨v, ws, ev, q1, w, us, ew, q2, eu⟩ := rr
    subst ev ew eu
    refine ⟨v, w, rfl, ?_⟩
    have s2 := s1.put hi (.of q1)
    have s3 := s2.put (i := j) (by simpa using hj) (.of q2)
    exact hh _ H1 S1 _ (by rw [h1]; exact s3) (Kp.trans (Kp.set hp) (Kp.set hq)) ((Fra.trans Fra.refl.ow' Fra.put).trans (Fra.trans Fra.refl.ow' Fra.put))
theorem ds_aug {op : Operator} {r : R2} {g : D → D → Option D} (ho : OpR X (inplaceOp op) r) (hr : Prim2 X.K C.T 0 r g) (hps : ∀ te, PE X e te → PS X (.AugAssign (.Name x p) op e pos) (tAug i te r)) (hb : DE X C Γ e Γ1 0 fb) (hk : Γ.getD i 0 = 0 := by rfl) (hi : i < Γ1.length := by decide) (hp : i ∉ P := by decide)
    (h1 : J.nx = Γ1.set i 0 := by rfl) : DS X C P J Γ (.AugAssign (.Name x p) op e pos) (mAug i g fb) := ps_imp (hps _ hb) fun E σ H h => by
  obtain ⟨S, ρ, fp, s, h⟩ := h
  unfold mAug at h
  split at h
  · rename_i dx q
    obtain ⟨v, hv, o⟩ := s.sl i dx q
    rw [hk] at o
    obtain ⟨e0, rx⟩ := own_zero.mp o
    refine ⟨v, hv, S, ρ, fp, s, OutE.thenS h fun d ρ1 w H1 S1 fp1 Fv e1 s1 x1 f1 h2 => ?_⟩
    obtain ⟨e2, rw1⟩ := x1.rep
    subst e2
    dsimp only at h2
    cases q2 : g dx d with
    | none => rw [q2] at h2; exact h2.elim
    | some z =>
      rw [q2] at h2
      refine gives_out (Γ := Γ1) (k := 0) (W := C.W) (ρ := ρ1) s1 (hr S1 H1 dx d v w z (s.rep_fra rx f1) rw1 q2) ?_
      intro v3 H3 S3 fp3 F3 s3 x3 f3
      obtain ⟨e3, r3⟩ := x3.rep
      subst e3
      exact h2 _ H3 S3 _ (by rw [h1]; exact s3.put hi (.of r3)) (Kp.set hp) ((f1.ow.trans f3.ow).trans (Fra.trans Fra.refl.ow' Fra.put))
  · exact h.elim
end
end Z
set_option Elab.async false
set_option linter.all false
set_option maxRecDepth 100000
/-! Z5: loops and comprehensions -/
namespace Z
open PySem PySem.Spec L2
open PyProof.Rows hiding St

/-- an iterator that walks the data ds, wherever the shared stays -/
structure ItOk (K : PySem.W.Frag) (T : Tab) (S : Addr → Prop) (H : Hp) (J : It) (ds : List D) : Prop where
  stop : ∀ S' H', Stay K H S H' S' → ∀ i, ds.length ≤ i → J.stop i H'
  go : ∀ S' H', Stay K H S H' S' → ∀ (i : Nat) d, ds[i]? = some d → J.go i H'
  yld : ∀ S' H', Stay K H S H' S' → ∀ (i : Nat) d, ds[i]? = some d → ∀ x H2, J.yld i H' x H2 → (∀ b o, H' b = some o → H2 b = some o) ∧ Rep K T H2 S' d x
def OutI (K : PySem.W.Frag) (T : Tab) (W : WX) (Γ' : List Nat) (σ : St) (H : Hp) (S : Addr → Prop) (fp : Nat → List Addr) (Q : It → Hp → Prop) : R (List D × Env) → Prop
  | .ok (ds, ρ') => ∀ J H' S' fp', Stt K T Γ' S' σ H' ρ' fp' → ItOk K T S' H' J ds → Fra H S (Ow fp) H' S' (Ow fp') → Q J H'
  | .er c fs => OutX K T W σ H S (Ow fp) c fs
  | .bad => False
def tI (K : PySem.W.Frag) (T : Tab) (W : WX) (Γ Γ' : List Nat) (f : Env → R (List D × Env)) : TI := fun σ H Q => ∃ S ρ fp, Stt K T Γ S σ H ρ fp ∧ OutI K T W Γ' σ H S fp Q (f ρ)
abbrev DI (X : Cx) (Z : Cz) (tg : Expr) (Γ : List Nat) (e : Expr) (Γ' : List Nat) (f : Env → R (List D × Env)) : Prop := PI X tg e (tI X.K Z.T Z.W Γ Γ' f)

section
variable {K : PySem.W.Frag} {T : Tab} {S S1 S2 : Addr → Prop} {H H1 H2 : Hp} {J : It} {ds : List D}
theorem Stay.refl : Stay K H S H S := Stay.more fun _ h => h
theorem Stay.trans (a : Stay K H S H1 S1) (b : Stay K H1 S1 H2 S2) : Stay K H S H2 S2 :=
  ⟨fun x vs h s => let ⟨h', s'⟩ := a.l x vs h s; b.l x vs h' s', fun x vs h => b.c x vs (a.c x vs h), fun x vs h => b.t x vs (a.t x vs h), fun x C dx fs h s => let ⟨h', s'⟩ := a.i x C dx fs h s; b.i x C dx fs h' s'⟩
theorem it_list {a : Addr} {vs : List V} (r : Reps K T H S ds vs) (h : H a = some (.lst vs)) (s : S a) : ItOk K T S H (Itl K a) ds := by
  refine ⟨fun S' H' st i hi => ?_, fun S' H' st i d hd => ?_, fun S' H' st i d hd x H2 hy => ?_⟩
  · exact ⟨vs, .inl (.inl (st.l a vs h s).1), by rw [← r.length]; exact hi⟩
  · obtain ⟨v, hv, _⟩ := r.get hd
    exact ⟨vs, v, .inl (.inl (st.l a vs h s).1), hv⟩
  · obtain ⟨e, hy⟩ := hy
    subst e
    obtain ⟨v, hv, rv⟩ := r.get hd
    have := hy vs (.inl (.inl (st.l a vs h s).1))
    rw [hv] at this; cases this
    exact ⟨fun _ _ h => h, st.rep rv⟩
theorem it_tup {a : Addr} {vs : List V} (r : Reps K T H S ds vs) (h : SqT K H a vs) : ItOk K T S H (Itt K a) ds := by
  refine ⟨fun S' H' st i hi => ?_, fun S' H' st i d hd => ?_, fun S' H' st i d hd x H2 hy => ?_⟩
  · exact ⟨vs, st.t a vs h, by rw [← r.length]; exact hi⟩
  · obtain ⟨v, hv, _⟩ := r.get hd
    exact ⟨vs, v, st.t a vs h, hv⟩
  · obtain ⟨e, hy⟩ := hy
    subst e
    obtain ⟨v, hv, rv⟩ := r.get hd
    have := hy vs (st.t a vs h)
    rw [hv] at this; cases this
    exact ⟨fun _ _ h => h, st.rep rv⟩
def intsFrom (lo : Int) (n : Nat) : List D := (List.range n).map fun (i : Nat) => .int (lo + (i : Int))
theorem intsFrom_length {lo : Int} {n : Nat} : (intsFrom lo n).length = n := by simp [intsFrom]
theorem intsFrom_get {lo : Int} {n i : Nat} {d : D} (h : (intsFrom lo n)[i]? = some d) : i < n ∧ d = .int (lo + (i : Int)) := by
  unfold intsFrom at h
  rw [List.getElem?_map] at h
  cases q : (List.range n)[i]? with
  | none => rw [q] at h; cases h
  | some j =>
    rw [q] at h
    have hl : i < n := by
      have := (List.getElem?_eq_some_iff.mp q).1
      simpa using this
    rw [List.getElem?_range hl] at q
    cases q
    cases h
    exact ⟨hl, rfl⟩
theorem it_range {lo : Int} {n : Nat} : ItOk K T S H (Itr lo n) (intsFrom lo n) := by
  refine ⟨fun S' H' st i hi => by rw [intsFrom_length] at hi; exact hi, fun S' H' st i d hd => (intsFrom_get hd).1, fun S' H' st i d hd x H2 hy => ?_⟩
  obtain ⟨e, hy⟩ := hy
  subst e hy
  rw [(intsFrom_get hd).2]
  exact ⟨fun _ _ h => h, by simp [Rep]⟩
end

def mItL (fa : Env → R (D × Env)) : Env → R (List D × Env) := fun ρ => (fa ρ).bind fun (d, ρ1) => match d with
  | .lst xs => .ok (xs, ρ1)
  | _ => .bad
def mItT (fa : Env → R (D × Env)) : Env → R (List D × Env) := fun ρ => (fa ρ).bind fun (d, ρ1) => match d with
  | .tup xs => .ok (xs, ρ1)
  | _ => .bad
def inLine (i : Int) : Bool := decide (-(2 ^ 62) ≤ i) && decide (i < 2 ^ 62)
def asI1 : List D → Option Int
  | [.int j] => some j
  | _ => none
def asI2 : List D → Option (Int × Int)
  | [.int i, .int j] => some (i, j)
  | _ => none
theorem asI1_of : ∀ {ds : List D} {j : Int}, asI1 ds = some j → ds = [.int j]
  | [.int j], _, h => by cases h; rfl
theorem asI2_of : ∀ {ds : List D} {p : Int × Int}, asI2 ds = some p → ds = [.int p.1, .int p.2]
  | [.int i, .int j], _, h => by cases h; rfl
def mItR1 (fs : Env → R (List D × Env)) : Env → R (List D × Env) := fun ρ => (fs ρ).bind fun (ds, ρ1) => match asI1 ds with
  | some j => if inLine j = true then .ok (intsFrom 0 j.toNat, ρ1) else .bad
  | none => .bad
def mItR2 (fs : Env → R (List D × Env)) : Env → R (List D × Env) := fun ρ => (fs ρ).bind fun (ds, ρ1) => match asI2 ds with
  | some (i, j) => if (inLine i && inLine j) = true then .ok (intsFrom i (j - i).toNat, ρ1) else .bad
  | none => .bad

section
variable {X : Cx} {C : Cz} {P : List Nat} {J : Js} {Γ Γ' Γ1 Γ2 : List Nat} {k i j : Nat} {x y : Str} {pos p p2 : Pos} {a b e tg : Expr} {es : List Expr} {fa fb : Env → R (D × Env)} {ta tb : Env → R (Bool × Env)} {fs : Env → R (List D × Env)}
theorem pi_imp {t t' : TI} (h : PI X tg e t) (i : ∀ σ H Q, t' σ H Q → t σ H Q) : PI X tg e t' := ⟨fun pins s σ H Q I q => h.run pins s σ H Q I (i σ H Q q)⟩
theorem inLine_of {i : Int} (h : inLine i = true) : -(2 ^ 62) ≤ i ∧ i < 2 ^ 62 := by
  unfold inLine at h
  rw [Bool.and_eq_true] at h
  exact ⟨of_decide_eq_true h.1, of_decide_eq_true h.2⟩
theorem OutE.thenI {K : PySem.W.Frag} {T : Tab} {W : WX} {σ : St} {H : Hp} {S : Addr → Prop} {fp : Nat → List Addr} {r : R (D × Env)} {Q' : VK} {Q : It → Hp → Prop} {g : D × Env → R (List D × Env)} (h : OutI K T W Γ2 σ H S fp Q (r.bind g))
    (go : ∀ d ρ1 v H1 S1 fp1, r = .ok (d, ρ1) → Stt K T Γ' S1 σ H1 ρ1 fp1 → Rep K T H1 S1 d v → Fra H S (Ow fp) H1 S1 (Ow fp1) → OutI K T W Γ2 σ H S fp Q (g (d, ρ1)) → Q' v H1) : OutE K T W Γ' 0 σ H S fp Q' r := by
  cases r with
  | ok a =>
    obtain ⟨d, ρ1⟩ := a
    intro v H' S' fp' Fv s x f
    obtain ⟨e, rr⟩ := x.rep
    subst e
    exact go d ρ1 v H' S' fp' rfl s rr f.ow h
  | er c fs => exact h
  | bad => exact h
theorem OutA.thenI {K : PySem.W.Frag} {T : Tab} {W : WX} {σ : St} {H : Hp} {S : Addr → Prop} {fp : Nat → List Addr} {r : R (List D × Env)} {Q' : List V → Hp → Prop} {Q : It → Hp → Prop} {g : List D × Env → R (List D × Env)} (h : OutI K T W Γ2 σ H S fp Q (r.bind g))
    (go : ∀ d ρ1 v H1 S1 fp1, r = .ok (d, ρ1) → Stt K T Γ' S1 σ H1 ρ1 fp1 → Reps K T H1 S1 d v → Fra H S (Ow fp) H1 S1 (Ow fp1) → OutI K T W Γ2 σ H S fp Q (g (d, ρ1)) → Q' v H1) : OutA K T W Γ' σ H S fp Q' r := by
  cases r with
  | ok a =>
    obtain ⟨d, ρ1⟩ := a
    intro v H' S' fp' s rr f
    exact go d ρ1 v H' S' fp' rfl s rr f h
  | er c fs => exact h
  | bad => exact h
theorem di_list (ha : DE X C Γ e Γ1 0 fa) : DI X C tg Γ e Γ1 (mItL fa) := pi_imp (pi_list ha) fun σ H Q h => by
  obtain ⟨S, ρ, fp, s, h⟩ := h
  refine ⟨S, ρ, fp, s, OutE.thenI h fun d ρ1 v H1 S1 fp1 e1 s1 r1 f1 h1 => ?_⟩
  cases d with
  | lst xs =>
    simp only [Rep] at r1
    obtain ⟨a, vs, rfl, h2, sa, r⟩ := r1
    exact ⟨a, rfl, ⟨vs, .inl (.inl h2)⟩, h1 _ H1 S1 fp1 s1 (it_list r h2 sa) f1⟩
  | _ => exact h1.elim
theorem di_tup (ha : DE X C Γ e Γ1 0 fa) : DI X C tg Γ e Γ1 (mItT fa) := pi_imp (pi_tup ha) fun σ H Q h => by
  obtain ⟨S, ρ, fp, s, h⟩ := h
  refine ⟨S, ρ, fp, s, OutE.thenI h fun d ρ1 v H1 S1 fp1 e1 s1 r1 f1 h1 => ?_⟩
  cases d with
  | tup xs =>
    simp only [Rep] at r1
    obtain ⟨a, vs, rfl, h2, r⟩ := r1
    exact ⟨a, rfl, ⟨vs, h2⟩, h1 _ H1 S1 fp1 s1 (it_tup r h2) f1⟩
  | _ => exact h1.elim
theorem reps_ints1 {K : PySem.W.Frag} {T : Tab} {S : Addr → Prop} {H : Hp} {i : Int} {vs : List V} (h : Reps K T H S [.int i] vs) : vs = [.int i] := by
  simp only [Reps, Rep] at h
  obtain ⟨v, ws, rfl, rfl, rfl⟩ := h
  rfl
theorem reps_ints2 {K : PySem.W.Frag} {T : Tab} {S : Addr → Prop} {H : Hp} {i j : Int} {vs : List V} (h : Reps K T H S [.int i, .int j] vs) : vs = [.int i, .int j] := by
  simp only [Reps, Rep] at h
  obtain ⟨v, ws, rfl, rfl, v2, w2, rfl, rfl, rfl⟩ := h
  rfl
theorem di_range1 (hg : Gl X "range") (hm : X.mg "range" = none) (ha : DA X C Γ [a] Γ1 fs) (hs : starEach [a] X.env = [(false, eval a X.env)] := by rfl) : DI X C tg Γ (.Call (.Name "range" p) [a] [] pos) Γ1 (mItR1 fs) := pi_imp (pi_range1 hg hm ha hs) fun σ H Q h => by
  obtain ⟨S, ρ, fp, s, h⟩ := h
  refine ⟨S, ρ, fp, s, OutA.thenI h fun ds ρ1 vs H1 S1 fp1 e1 s1 r1 f1 h1 => ?_⟩
  dsimp only at h1
  cases q : asI1 ds with
  | none => rw [q] at h1; exact h1.elim
  | some j =>
    rw [q] at h1
    rw [asI1_of q] at r1
    have e := reps_ints1 r1
    subst e
    by_cases hl : inLine j = true
    · simp only [if_pos hl] at h1
      obtain ⟨l1, l2⟩ := inLine_of hl
      exact ⟨j, rfl, l1, l2, h1 _ H1 S1 fp1 s1 it_range f1⟩
    · simp only [if_neg hl] at h1; exact h1.elim
theorem di_range2 (hg : Gl X "range") (hm : X.mg "range" = none) (ha : DA X C Γ [a, b] Γ1 fs) (hs : starEach [a, b] X.env = [(false, eval a X.env), (false, eval b X.env)] := by rfl) (hs2 : starEach [b] X.env = [(false, eval b X.env)] := by rfl) :
    DI X C tg Γ (.Call (.Name "range" p) [a, b] [] pos) Γ1 (mItR2 fs) := pi_imp (pi_range2 hg hm ha hs hs2) fun σ H Q h => by
  obtain ⟨S, ρ, fp, s, h⟩ := h
  refine ⟨S, ρ, fp, s, OutA.thenI h fun ds ρ1 vs H1 S1 fp1 e1 s1 r1 f1 h1 => ?_⟩
  dsimp only at h1
  cases q : asI2 ds with
  | none => rw [q] at h1; exact h1.elim
  | some ij =>
    obtain ⟨i, j⟩ := ij
    rw [q] at h1
    rw [asI2_of q] at r1
    have e := reps_ints2 r1
    subst e
    by_cases hl : (inLine i && inLine j) = true
    · simp only [if_pos hl] at h1
      rw [Bool.and_eq_true] at hl
      obtain ⟨l1, l2⟩ := inLine_of hl.1
      obtain ⟨l3, l4⟩ := inLine_of hl.2
      exact ⟨i, j, rfl, ⟨l1, l2, l3, l4⟩, h1 _ H1 S1 fp1 s1 it_range f1⟩
    · simp only [if_neg hl] at h1; exact h1.elim
end

/-! ### for -/
def mForL (g : D → Env → Option Env) (fb : Env → R (Fl × Env)) : List D → Env → R (Fl × Env)
  | [], ρ => .ok (.nx, ρ)
  | d :: r, ρ => (ofO (g d ρ)).bind fun ρ1 => (fb ρ1).bind fun (fl, ρ2) => match fl with
    | .nx => mForL g fb r ρ2
    | .ct => mForL g fb r ρ2
    | .bk => .ok (.nx, ρ2)
    | .rt d => .ok (.rt d, ρ2)
def mFor (src : Env → R (List D × Env)) (g : D → Env → Option Env) (fb : Env → R (Fl × Env)) : Env → R (Fl × Env) := fun ρ => (src ρ).bind fun (ds, ρ1) => mForL g fb ds ρ1
def mWhile (n : Nat) (ft : Env → R (Bool × Env)) (fb : Env → R (Fl × Env)) : Env → R (Fl × Env) := match n with
  | 0 => fun _ => .bad
  | n + 1 => fun ρ => (ft ρ).bind fun (b, ρ1) => if b = true then (fb ρ1).bind fun (fl, ρ2) => match fl with
      | .nx => mWhile n ft fb ρ2
      | .ct => mWhile n ft fb ρ2
      | .bk => .ok (.nx, ρ2)
      | .rt d => .ok (.rt d, ρ2)
    else .ok (.nx, ρ1)
section
variable {X : Cx} {C : Cz} {P : List Nat} {J : Js} {Γ Γ' Γ1 Γ2 : List Nat} {k i j n : Nat} {x y : Str} {pos p p2 : Pos} {a b e tg iter : Expr} {es : List Expr} {ft : Env → R (Bool × Env)} {src : Env → R (List D × Env)} {g : D → Env → Option Env} {fb : Env → R (Fl × Env)} {body : List Stmt}
theorem drop_cons {α : Type} {l : List α} {i : Nat} {d : α} (h : l[i]? = some d) : l.drop i = d :: l.drop (i + 1) := by
  obtain ⟨hl, e⟩ := List.getElem?_eq_some_iff.mp h
  rw [List.drop_eq_getElem_cons hl, e]
theorem ds_for (hp : PassesOwn (model X.prog X.w) X.A X.env X.xe) (hc : X.calm = true) (hi : DI X C tg Γ iter Γ1 src) (hg : DG X C P Γ1 tg Γ2 g) (hb : DSs X C P { J with nx := Γ1, ct := Γ1, bk := J.nx } Γ2 body fb) (hΓ : J.nx = Γ1 := by rfl)
    (hs : ∀ x, foldedSetIterable iter X.env x = pure x := by intro _; rfl) : DS X C P J Γ (.For tg iter body [] pos) (mFor src g fb) := ps_imp (ps_for hp hc hi hg hb hs) fun E σ H h => by
  obtain ⟨S, ρ, fp, s, h⟩ := h
  refine ⟨S, ρ, fp, s, ?_⟩
  unfold mFor at h
  cases q : src ρ with
  | er c fs => rw [q] at h; exact OutS.er h
  | bad => rw [q] at h; exact h
  | ok ar =>
    obtain ⟨ds, ρ1⟩ := ar
    rw [q] at h
    intro Jt H1 S1 fp1 s1 it f1
    have h := OutS.before (σ1 := σ) Kp.refl f1 h
    refine ⟨fun i m σ' H' => m = ds.length - i ∧ i ≤ ds.length ∧ ∃ S' ρ' fp', Stt X.K C.T Γ1 S' σ' H' ρ' fp' ∧ Stay X.K H1 S1 H' S' ∧ OutS X.K C.T C.W P J σ' H' S' fp' E (mForL g fb (ds.drop i) ρ'), ⟨_, rfl, Nat.zero_le _, S1, ρ1, fp1, s1, .refl, h⟩, ?_⟩
    rintro i m σ2 H2 ⟨rfl, hle, S2, ρ2, fp2, s2, st2, h2⟩
    cases hd : ds[i]? with
    | none =>
      have hl : ds.length ≤ i := List.getElem?_eq_none_iff.mp hd
      refine .inl ⟨it.stop S2 H2 st2 i hl, ?_⟩
      rw [List.drop_eq_nil_of_le hl] at h2
      exact h2 σ2 H2 S2 fp2 (by rw [hΓ]; exact s2) Kp.refl Fra.refl
    | some d =>
      have hl : i < ds.length := (List.getElem?_eq_some_iff.mp hd).1
      rw [drop_cons hd] at h2
      refine .inr ⟨it.go S2 H2 st2 i d hd, fun σ' H' => ∃ S' ρ' fp', Stt X.K C.T Γ1 S' σ' H' ρ' fp' ∧ Stay X.K H1 S1 H' S' ∧ OutS X.K C.T C.W P J σ' H' S' fp' E (mForL g fb (ds.drop (i + 1)) ρ'), fun σ' H' z => ⟨ds.length - (i + 1), by omega, rfl, hl, z⟩, fun x H3 hy => ?_⟩
      obtain ⟨kk, r3⟩ := it.yld S2 H2 st2 i d hd x H3 hy
      have s3 := s2.grow kk
      have f3 : Fra H2 S2 (Ow fp2) H3 S2 (Ow fp2) := ⟨fun b o h _ => kk b o h, fun _ z => z, fun _ z => .inl z, fun _ z => .inl z⟩
      refine ⟨S2, ρ2, fp2, d, s3, r3, ?_⟩
      unfold mForL at h2
      cases qg : g d ρ2 with
      | none => rw [qg] at h2; exact h2.elim
      | some ρ3 =>
        rw [qg] at h2
        intro σ4 H4 S4 fp4 s4 k4 f4
        have h4 := OutS.before k4 (f3.trans f4) h2
        refine ⟨S4, ρ3, fp4, s4, ?_⟩
        have st4 : Stay X.K H1 S1 H4 S4 := (st2.trans (Stay.grow kk)).trans (s3.sep.stay f4)
        dsimp only [ofO, R.bind] at h4
        revert h4
        generalize fb ρ3 = r
        intro h4
        match r, h4 with
        | .ok (.nx, ρ5), h4 => exact fun σ5 H5 S5 fp5 s5 k5 f5 => ⟨S5, ρ5, fp5, s5, st4.trans (s4.sep.stay f5), OutS.before k5 f5 h4⟩
        | .ok (.ct, ρ5), h4 => exact fun σ5 H5 S5 fp5 s5 k5 f5 => ⟨S5, ρ5, fp5, s5, st4.trans (s4.sep.stay f5), OutS.before k5 f5 h4⟩
        | .ok (.bk, ρ5), h4 => exact h4
        | .ok (.rt v, ρ5), h4 => exact h4
        | .er c fs, h4 => exact h4
        | .bad, h4 => exact h4
theorem ds_while {cnd : Expr} (hp : PassesOwn (model X.prog X.w) X.A X.env X.xe) (hc : DT X C Γ cnd Γ ft) (hb : DSs X C P { J with nx := Γ, ct := Γ, bk := J.nx } Γ body fb) (hΓ : J.nx = Γ := by rfl) : DS X C P J Γ (.While cnd body [] pos) (mWhile n ft fb) := ps_imp (ps_while hp hc hb) fun E σ H h => by
  obtain ⟨S, ρ, fp, s, h⟩ := h
  refine ⟨fun m σ' H' => ∃ S' ρ' fp', Stt X.K C.T Γ S' σ' H' ρ' fp' ∧ OutS X.K C.T C.W P J σ' H' S' fp' E (mWhile m ft fb ρ'), ⟨n, S, ρ, fp, s, h⟩, ?_⟩
  rintro m σ2 H2 ⟨S2, ρ2, fp2, s2, h2⟩
  cases m with
  | zero => exact h2.elim
  | succ m =>
    refine ⟨S2, ρ2, fp2, s2, OutT.thenS h2 fun b ρ3 H3 S3 fp3 e3 s3 f3 h3 => ?_⟩
    cases b with
    | false => exact h3 σ2 H3 S3 fp3 (by rw [hΓ]; exact s3) Kp.refl Fra.refl
    | true =>
      dsimp only at h3
      rw [if_pos rfl] at h3
      rw [if_pos rfl]
      refine ⟨fun σ' H' => ∃ S' ρ' fp', Stt X.K C.T Γ S' σ' H' ρ' fp' ∧ OutS X.K C.T C.W P J σ' H' S' fp' E (mWhile m ft fb ρ'), fun σ' H' z => ⟨m, Nat.lt_succ_self m, z⟩, S3, ρ3, fp3, s3, ?_⟩
      revert h3
      generalize fb ρ3 = r
      intro h4
      match r, h4 with
      | .ok (.nx, ρ5), h4 => exact fun σ5 H5 S5 fp5 s5 k5 f5 => ⟨S5, ρ5, fp5, s5, OutS.before k5 f5 h4⟩
      | .ok (.ct, ρ5), h4 => exact fun σ5 H5 S5 fp5 s5 k5 f5 => ⟨S5, ρ5, fp5, s5, OutS.before k5 f5 h4⟩
      | .ok (.bk, ρ5), h4 => exact h4
      | .ok (.rt v, ρ5), h4 => exact h4
      | .er c fs, h4 => exact h4
      | .bad, h4 => exact h4
end

/-! ### comprehensions -/
def noEr {α : Type} : R α → R α
  | .er _ _ => .bad
  | r => r
def wipeE (ρ : Env) : List Nat → Env
  | [] => ρ
  | v :: vs => (wipeE ρ vs).set v none
/-- behind a comprehension its own names are as they were -/
def backE (ρ ρ' : Env) (vs : List Nat) : Env := vs.foldr (fun v r => r.set v ((ρ[v]?).getD none)) ρ'
def mCompL (vs : List Nat) (g : D → Env → Option Env) (ft : Env → R (Bool × Env)) (fe : Env → R (D × Env)) : List D → Env → R (List D × Env)
  | [], ρ => .ok ([], ρ)
  | d :: r, ρ => (ofO (g d ρ)).bind fun ρ1 => (noEr (ft ρ1)).bind fun (b, ρ2) => if b = true then
      (noEr (fe ρ2)).bind fun (y, ρ3) => (mCompL vs g ft fe r (wipeE ρ3 vs)).bind fun (ys, ρ4) => .ok (y :: ys, ρ4)
    else mCompL vs g ft fe r (wipeE ρ2 vs)
def mComp (vs : List Nat) (src : Env → R (List D × Env)) (g : D → Env → Option Env) (ft : Env → R (Bool × Env)) (fe : Env → R (D × Env)) : Env → R (D × Env) := fun ρ => (src ρ).bind fun (ds, ρ1) => if ds.length ≤ 100000 then
    (mCompL vs g ft fe ds (wipeE ρ1 vs)).bind fun (ys, ρ2) => .ok (.lst ys, backE ρ1 ρ2 vs)
  else .bad
def mYes : Env → R (Bool × Env) := fun ρ => .ok (true, ρ)
theorem wipeE_length {ρ : Env} : ∀ {vs : List Nat}, (wipeE ρ vs).length = ρ.length
  | [] => rfl
  | v :: vs => by unfold wipeE; rw [List.length_set, wipeE_length]
theorem wipeE_get {ρ : Env} {i : Nat} {d : D} : ∀ {vs : List Nat}, (wipeE ρ vs)[i]? = some (some d) → i ∉ vs ∧ ρ[i]? = some (some d)
  | [], h => ⟨by simp, h⟩
  | v :: vs, h => by
    unfold wipeE at h
    by_cases e : i = v
    · subst e
      rw [List.getElem?_set] at h
      simp at h
    · rw [List.getElem?_set_ne (Ne.symm e)] at h
      obtain ⟨a, b⟩ := wipeE_get h
      exact ⟨by simp [e, a], b⟩
theorem wipeV_get {σ : St} {i : Nat} : ∀ {vs : List Nat}, i ∉ vs → (wipe σ vs)[i]? = σ[i]?
  | [], _ => rfl
  | v :: vs, h => by
    unfold wipe
    rw [List.getElem?_set_ne (fun e => h (by simp [e]))]
    exact wipeV_get fun z => h (List.mem_cons_of_mem _ z)
theorem backE_length {ρ ρ' : Env} : ∀ {vs : List Nat}, (backE ρ ρ' vs).length = ρ'.length
  | [] => rfl
  | v :: vs => by
    show (List.set _ _ _).length = _
    rw [List.length_set]; exact backE_length
theorem backE_get {ρ ρ' : Env} {i : Nat} {d : D} : ∀ {vs : List Nat}, (backE ρ ρ' vs)[i]? = some (some d) → (i ∈ vs ∧ ρ[i]? = some (some d)) ∨ (i ∉ vs ∧ ρ'[i]? = some (some d))
  | [], h => .inr ⟨by simp, h⟩
  | v :: vs, h => by
    have h : ((backE ρ ρ' vs).set v ((ρ[v]?).getD none))[i]? = some (some d) := h
    by_cases e : i = v
    · subst e
      refine .inl ⟨by simp, ?_⟩
      rw [List.getElem?_set] at h
      simp only [if_true] at h
      split at h
      · cases q : ρ[i]? with
        | none => rw [q] at h; simp at h
        | some z => rw [q] at h; simpa using h
      · cases h
    · rw [List.getElem?_set_ne (Ne.symm e)] at h
      rcases backE_get h with ⟨a, b⟩ | ⟨a, b⟩
      · exact .inl ⟨List.mem_cons_of_mem _ a, b⟩
      · exact .inr ⟨by simp [e, a], b⟩
theorem wipe_eq {σ σ' : St} (hl : σ'.length = σ.length) : ∀ {vs : List Nat}, (∀ i, i ∉ vs → σ'[i]? = σ[i]?) → wipe σ' vs = wipe σ vs := fun {vs} h => by
  have z : ∀ (τ : St) (vs : List Nat) (i : Nat), i ∈ vs → i < τ.length → (wipe τ vs)[i]? = some none := by
    intro τ vs
    induction vs with
    | nil => intro i h; cases h
    | cons v vs ih =>
      intro i hi hl
      unfold wipe
      by_cases e : i = v
      · subst e
        rw [List.getElem?_set_self (by rw [wipe_length]; exact hl)]
      · rw [List.getElem?_set_ne (Ne.symm e)]
        exact ih i (by simpa [e] using hi) hl
  refine List.ext_getElem? fun i => ?_
  by_cases hi : i ∈ vs
  · by_cases hlt : i < σ.length
    · rw [z σ vs i hi hlt, z σ' vs i hi (by omega)]
    · rw [List.getElem?_eq_none (by rw [wipe_length]; omega), List.getElem?_eq_none (by rw [wipe_length]; omega)]
  · rw [wipeV_get hi, wipeV_get hi, h i hi]
section
variable {K : PySem.W.Frag} {T : Tab} {W : WX} {Γ : List Nat} {k : Nat} {σ : St} {H : Hp} {S : Addr → Prop} {fp : Nat → List Addr} {ρ : Env} {vs : List Nat}
theorem Stt.wipe (s : Stt K T Γ S σ H ρ fp) : Stt K T Γ S (wipe σ vs) H (wipeE ρ vs) fp := by
  refine ⟨s.sep, by rw [wipeE_length, wipe_length]; exact s.len, by rw [wipe_length]; exact s.gl, fun i d h => ?_⟩
  obtain ⟨n, h⟩ := wipeE_get h
  obtain ⟨v, hv, o⟩ := s.sl i d h
  exact ⟨v, by rw [wipeV_get n]; exact hv, o⟩
end
/-- in a comprehension's block no error goes out -/
abbrev Cz.in (C : Cz) : Cz := ⟨C.T, fun _ _ _ _ => False⟩
section
variable {X : Cx} {C : Cz} {P : List Nat} {J : Js} {Γ Γ' Γ1 Γ2 : List Nat} {k i j n : Nat} {x y : Str} {pos p p2 : Pos} {elt e tg iter : Expr} {ifs : List Expr} {ft : Env → R (Bool × Env)} {fe : Env → R (D × Env)} {src : Env → R (List D × Env)} {g : D → Env → Option Env} {vs : List Nat}
theorem neS {S : Addr → Prop} {a p : Addr} (s : S a) (n : ¬ S p) : a ≠ p := fun z => n (by rw [← z]; exact s)
theorem Stay.poke {K : PySem.W.Frag} {H : Hp} {S : Addr → Prop} {p : Addr} {av aw : List V} (h : H p = some (.lst av)) (n : ¬ S p) : Stay K H S (upd H p (.lst aw)) S := by
  have ne : ∀ {b : Addr} {o : HO}, H b = some o → (∀ xs, o ≠ .lst xs) → b ≠ p := fun {b o} e z q => by subst q; rw [h] at e; cases e; exact z _ rfl
  refine ⟨fun a vs e s => ⟨by rw [upd_ne (neS s n)]; exact e, s⟩, fun a vs e => ?_, fun a vs e => ?_, fun a C dx fs e s => ⟨by rw [upd_ne (neS s n)]; exact e, s⟩⟩
  · rcases e with ⟨o, e⟩ | e
    · exact .inl ⟨o, by rw [upd_ne (ne e fun xs z => by cases z)]; exact e⟩
    · exact .inr e
  · rcases e with (e | ⟨o, e⟩) | e
    · exact .inl (.inl (by rw [upd_ne (ne e fun xs z => by cases z)]; exact e))
    · exact .inl (.inr ⟨o, by rw [upd_ne (ne e fun xs z => by cases z)]; exact e⟩)
    · exact .inr e
theorem Stt.poke {K : PySem.W.Frag} {T : Tab} {Γ : List Nat} {S : Addr → Prop} {σ : St} {H : Hp} {ρ : Env} {fp : Nat → List Addr} {p : Addr} {av aw : List V} (s : Stt K T Γ S σ H ρ fp) (h : H p = some (.lst av)) (n : ¬ S p) (nf : ∀ i, p ∉ fp i) : Stt K T Γ S σ (upd H p (.lst aw)) ρ fp := by
  have ne : ∀ i a, a ∈ fp i → a ≠ p := fun i a m z => nf i (z ▸ m)
  refine ⟨⟨fun i a m => by rw [upd_ne (ne i a m)]; exact s.sep.mu i a m, s.sep.nd, s.sep.dj, s.sep.ns, fun a m => ?_⟩, s.len, s.gl, fun i d e => ?_⟩
  · obtain ⟨o, e⟩ := s.sep.al a m
    exact ⟨o, by rw [upd_ne (neS m n)]; exact e⟩
  · obtain ⟨v, hv, o⟩ := s.sl i d e
    exact ⟨v, hv, o.stay (Stay.poke h n) fun a m o q => by rw [upd_ne (ne i a m)]; exact q⟩
def fpOff (fp : Nat → List Addr) (vs : List Nat) : Nat → List Addr := fun i => if i ∈ vs then [] else fp i
theorem mem_fpOff {fp : Nat → List Addr} {vs : List Nat} {i : Nat} {a : Addr} (h : a ∈ fpOff fp vs i) : i ∉ vs ∧ a ∈ fp i := by
  unfold fpOff at h
  split at h
  · cases h
  · rename_i n; exact ⟨n, h⟩
theorem Sep.off {S : Addr → Prop} {H : Hp} {fp : Nat → List Addr} (s : Sep S H fp) (vs : List Nat) : Sep S H (fpOff fp vs) :=
  ⟨fun i a h => s.mu i a (mem_fpOff h).2, fun i => by unfold fpOff; split; exact List.nodup_nil; exact s.nd i, fun i j a h h' => s.dj i j a (mem_fpOff h).2 (mem_fpOff h').2, fun i a h => s.ns i a (mem_fpOff h).2, s.al⟩
theorem bind_asc {α β γ : Type} {x : R α} {f : α → R β} {g : β → R γ} : (x.bind f).bind g = x.bind fun a => (f a).bind g := by cases x <;> rfl
theorem lc_data {σ : St} {H : Hp} {Q : VK} (hv : ∀ i ∈ vs, Γ1.getD i 0 = 0) (hP : ∀ i, i < Γ1.length → i ∉ vs → i ∈ P) (hk : k ≤ 1) (h : tE X.K C.T C.W Γ Γ1 k (mComp vs src g ft fe) σ H Q) :
    tLc (tI X.K C.T C.W Γ Γ1 src) (tGt X.K C.T P Γ1 Γ1 g) (tT X.K C.T (fun _ _ _ _ => False) Γ1 Γ1 ft) (tE X.K C.T (fun _ _ _ _ => False) Γ1 Γ1 0 fe) vs σ H Q := by
  obtain ⟨S, ρ, fp, s, h⟩ := h
  refine ⟨S, ρ, fp, s, ?_⟩
  unfold mComp at h
  cases q : src ρ with
  | er c fs => rw [q] at h; exact h
  | bad => rw [q] at h; exact h
  | ok ar =>
    obtain ⟨ds, ρ1⟩ := ar
    rw [q] at h
    intro Jt H1 S1 fp1 s1 it f1 Dl hD
    have h := OutE.before f1 h
    simp only [R.bind_ok] at h
    by_cases hlen : ds.length ≤ 100000
    · rw [if_pos hlen] at h
      have kk := kept_upd (u := .lst []) hD
      have hDf := s1.sep.fresh hD
      -- the word: behind i turns the new list holds what was made; the rest makes the rest
      let Wc : Nat → Hp → Prop := fun i H' => ∃ S' ρ' fp' acc av, Stt X.K C.T Γ1 S' (wipe σ vs) H' ρ' fp' ∧ Stay X.K H1 S1 H' S' ∧ Fra H1 S1 (Ow fp1) H' S' (Ow fp') ∧ H' Dl = some (.lst av) ∧ ¬ S' Dl ∧ (∀ i, Dl ∉ fp' i) ∧
        Reps X.K C.T H' S' acc av ∧ acc.length ≤ i ∧ OutE X.K C.T C.W Γ1 k σ H1 S1 fp1 Q ((mCompL vs g ft fe (ds.drop i) ρ').bind fun (ys, ρ2) => .ok (.lst (acc ++ ys), backE ρ1 ρ2 vs))
      refine ⟨fun i m H' => m = ds.length - i ∧ i ≤ ds.length ∧ Wc i H', ⟨_, rfl, Nat.zero_le _, S1, _, fp1, [], [], s1.wipe.grow kk, Stay.grow kk, ⟨fun b o h _ => kk b o h, fun _ z => z, fun _ z => .inl z, fun _ z => .inl z⟩, upd_same, hDf.1, hDf.2, by simp [Reps], by simp, h⟩, ?_⟩
      rintro i m H2 ⟨rfl, hle, S2, ρ2, fp2, acc, av, s2, st2, fr2, hD2, nS2, nf2, ra2, ha2, h2⟩
      cases hd : ds[i]? with
      | none =>
        have hl : ds.length ≤ i := List.getElem?_eq_none_iff.mp hd
        refine .inl ⟨it.stop S2 H2 st2 i hl, ?_⟩
        rw [List.drop_eq_nil_of_le hl] at h2
        simp only [mCompL, R.bind_ok, List.append_nil] at h2
        -- the frame's own names come back
        have back : Stt X.K C.T Γ1 S2 σ H2 (backE ρ1 ρ2 vs) (fpOff fp2 vs) := by
          refine ⟨s2.sep.off vs, by rw [backE_length, s2.len, wipe_length], s1.gl, fun i d h => ?_⟩
          rcases backE_get h with ⟨m, h⟩ | ⟨m, h⟩
          · obtain ⟨v, hv1, o⟩ := s1.sl i d h
            rw [hv i m] at o ⊢
            obtain ⟨ef, r⟩ := own_zero.mp o
            refine ⟨v, hv1, ?_⟩
            have hf : fpOff fp2 vs i = [] := if_pos m
            rw [hf]
            exact own_zero.mpr ⟨rfl, st2.rep r⟩
          · obtain ⟨v, hv1, o⟩ := s2.sl i d h
            rw [wipeV_get m] at hv1
            have hf : fpOff fp2 vs i = fp2 i := if_neg m
            rw [hf]
            exact ⟨v, hv1, o⟩
        have lessO : ∀ b, Ow (fpOff fp2 vs) b → Ow fp2 b := fun b ⟨i, z⟩ => ⟨i, (mem_fpOff z).2⟩
        match k, hk with
        | 0, _ =>
          have frS : Fra H1 S1 (Ow fp1) H2 (fun a => S2 a ∨ a = Dl) (Ow (fpOff fp2 vs)) := ⟨fr2.kp, fun b z => .inl (fr2.sm b z), fun b z => by
            rcases z with z | z
            · exact fr2.so b z
            · subst z; exact .inr (.inr hD), fun b z => fr2.oo b (lessO b z)⟩
          refine h2 _ H2 (fun a => S2 a ∨ a = Dl) (fpOff fp2 vs) [] ⟨⟨back.sep.mu, back.sep.nd, back.sep.dj, fun i a h z => ?_, fun a z => ?_⟩, back.len, back.gl, fun i d h => ?_⟩ (.of ?_) frS.ow'
          · rcases z with z | z
            · exact back.sep.ns i a h z
            · subst z; exact nf2 i (mem_fpOff h).2
          · rcases z with z | z
            · exact back.sep.al a z
            · subst z; exact ⟨_, hD2⟩
          · obtain ⟨v, hv, o⟩ := back.sl i d h
            exact ⟨v, hv, o.stay (Stay.more fun a h => .inl h) fun a _ o h => h⟩
          · simp only [Rep]
            exact ⟨Dl, av, rfl, hD2, .inr rfl, (Stay.more fun a h => .inl h).reps ra2⟩
        | 1, _ =>
          refine h2 _ H2 S2 (fpOff fp2 vs) [Dl] back ⟨own_lst1.mpr ⟨Dl, av, rfl, hD2, rfl, ra2⟩, by simp, fun a m => ?_, fun a m i z => ?_⟩ ⟨fr2.kp, fr2.sm, fr2.so, fun b z => ?_⟩
          · rw [List.mem_singleton] at m; subst m; exact nS2
          · rw [List.mem_singleton] at m; subst m; exact nf2 i (mem_fpOff z).2
          · rcases z with z | z
            · exact fr2.oo b (lessO b z)
            · rw [List.mem_singleton] at z; subst z; exact .inr hD
      | some d =>
        have hl : i < ds.length := (List.getElem?_eq_some_iff.mp hd).1
        rw [drop_cons hd] at h2
        refine .inr ⟨it.go S2 H2 st2 i d hd, Wc (i + 1), fun H' z => ⟨ds.length - (i + 1), by omega, rfl, hl, z⟩, fun x H3 hy => ?_⟩
        obtain ⟨kk3, r3⟩ := it.yld S2 H2 st2 i d hd x H3 hy
        refine ⟨S2, ρ2, fp2, d, s2.grow kk3, r3, ?_⟩
        unfold mCompL at h2
        cases qg : g d ρ2 with
        | none => rw [qg] at h2; exact h2.elim
        | some ρ3 =>
          rw [qg] at h2
          simp only [ofO, R.bind_ok] at h2
          intro σ4 H4 S4 fp4 s4 k4 f4
          have hl4 : σ4.length = σ.length := by rw [← s4.gl, ← s1.gl]
          have hw4 : wipe σ4 vs = wipe σ vs := by
            refine wipe_eq hl4 fun j nj => ?_
            by_cases hj : j < Γ1.length
            · rw [k4 j (hP j hj nj), wipeV_get nj]
            · rw [List.getElem?_eq_none (by rw [← s4.gl]; omega), List.getElem?_eq_none (by rw [← s1.gl]; omega)]
          refine ⟨hw4, S4, ρ3, fp4, s4, ?_⟩
          have fr3 : Fra H2 S2 (Ow fp2) H3 S2 (Ow fp2) := ⟨fun b o h _ => kk3 b o h, fun _ z => z, fun _ z => .inl z, fun _ z => .inl z⟩
          -- what any later state of the turn keeps of the new list
          have fin : ∀ {H' : Hp} {S' : Addr → Prop} {fp' : Nat → List Addr}, Fra H2 S2 (Ow fp2) H' S' (Ow fp') → H' Dl = some (.lst av) ∧ ¬ S' Dl ∧ ∀ i, Dl ∉ fp' i := fun {H' S' fp'} f => by
            have nO : ¬ Ow fp2 Dl := fun ⟨i, z⟩ => nf2 i z
            refine ⟨f.kp Dl _ hD2 nO, fun z => ?_, fun i z => ?_⟩
            · rcases f.so Dl z with z | z | z
              · exact nS2 z
              · exact nO z
              · rw [hD2] at z; cases z
            · rcases f.oo Dl ⟨i, z⟩ with z | z
              · exact nO z
              · rw [hD2] at z; cases z
          cases qt : ft ρ3 with
          | er c fs => rw [qt] at h2; exact h2.elim
          | bad => rw [qt] at h2; exact h2.elim
          | ok br =>
            obtain ⟨b, ρ5⟩ := br
            rw [qt] at h2
            simp only [noEr, R.bind_ok] at h2
            intro H5 S5 fp5 s5 f5
            have fr5 := (fr3.trans f4).trans f5
            cases b with
            | false =>
              rw [if_neg (by decide)] at h2
              rw [if_neg (by decide)]
              obtain ⟨d1, d2, d3⟩ := fin fr5
              refine ⟨S5, _, fp5, acc, av, by rw [← hw4]; exact s5.wipe, st2.trans (s2.sep.stay fr5), fr2.trans fr5, d1, d2, d3, s2.reps_fra ra2 fr5, by omega, h2⟩
            | true =>
              rw [if_pos rfl] at h2
              rw [if_pos rfl]
              refine ⟨S5, ρ5, fp5, s5, ?_⟩
              cases qe : fe ρ5 with
              | er c fs => rw [qe] at h2; exact h2.elim
              | bad => rw [qe] at h2; exact h2.elim
              | ok yr =>
                obtain ⟨y, ρ6⟩ := yr
                rw [qe] at h2
                simp only [noEr, R.bind_ok, bind_asc] at h2
                intro v H6 S6 fp6 Fv s6 x6 f6
                obtain ⟨eF, r6⟩ := x6.rep
                subst eF
                have fr6 := fr5.trans f6.ow
                obtain ⟨d1, d2, d3⟩ := fin fr6
                have ra6 := s2.reps_fra ra2 fr6
                have pk : Stay X.K H6 S6 (upd H6 Dl (.lst (av ++ [v]))) S6 := Stay.poke d1 d2
                have lav : av.length = acc.length := ra2.length.symm
                refine ⟨av, d1, by rw [sizeLine_eq]; omega, S6, _, fp6, acc ++ [y], av ++ [v], by rw [← hw4]; exact s6.wipe.poke d1 d2 d3, (st2.trans (s2.sep.stay fr6)).trans pk, ?_, upd_same, d2, d3, pk.reps (ra6.append ?_), by simp; omega, ?_⟩
                · have fr7 := fr2.trans fr6
                  exact ⟨fun b o h n => by rw [upd_ne (fun z => by rw [z, hD] at h; cases h)]; exact fr7.kp b o h n, fr7.sm, fr7.so, fr7.oo⟩
                · simp only [Reps]
                  exact ⟨v, [], rfl, r6, rfl⟩
                · simp only [List.append_assoc, List.singleton_append]
                  exact h2
    · rw [if_neg hlen] at h; exact h.elim
end
end Z
set_option Elab.async false
set_option linter.all false
set_option maxRecDepth 100000
/-! Z6: comprehensions as expressions; what is changed in place; contracts from bodies; instances; methods -/
namespace Z
open PySem PySem.Spec L2
open PyProof.Rows hiding St

/-! ### code that is not come to -/
section
variable {X : Cx} {C : Cz} {P : List Nat} {J : Js} {Γ Γ' : List Nat} {k : Nat} {e : Expr} {es : List Expr} {st : Stmt} {sts : List Stmt}
theorem de_never : DE X C Γ e Γ' k (fun _ => .bad) := ⟨fun _ _ _ _ _ _ h => by obtain ⟨_, _, _, _, h⟩ := h; exact h.elim⟩
theorem dt_never : DT X C Γ e Γ' (fun _ => .bad) := ⟨fun _ _ _ _ _ _ h => by obtain ⟨_, _, _, _, h⟩ := h; exact h.elim⟩
theorem ds_never : DS X C P J Γ st (fun _ => .bad) := ⟨fun _ _ _ _ _ _ h => by obtain ⟨_, _, _, _, h⟩ := h; exact h.elim⟩
theorem dss_never : DSs X C P J Γ sts (fun _ => .bad) := ⟨fun _ _ _ _ _ _ h => by obtain ⟨_, _, _, _, h⟩ := h; exact h.elim⟩
end

/-! ### comprehensions -/
section
variable {X : Cx} {C : Cz} {P : List Nat} {J : Js} {Γ Γ' Γ1 Γ2 : List Nat} {k i j n : Nat} {x y : Str} {pos p p2 spos : Pos} {elt e tg iter : Expr} {ifs : List Expr} {ft : Env → R (Bool × Env)} {fe : Env → R (D × Env)} {src : Env → R (List D × Env)} {g : D → Env → Option Env} {scope : Scope} {own : List (Str × Nat)}
abbrev DTs (X : Cx) (Z : Cz) (Γ : List Nat) (ifs : List Expr) (f : Env → R (Bool × Env)) : Prop := PTs X ifs (tT X.K Z.T Z.W Γ Γ f)
theorem dts_nil : DTs X C Γ [] mYes := ⟨fun pins s σ H Q I h => by
  obtain ⟨S, ρ, fp, st, h⟩ := h
  exact PySem.wpAny_tests_nil ⟨H, I, h H S fp st Fra.refl⟩⟩
theorem dts_one {c : Expr} (h : DT X C Γ c Γ ft) : DTs X C Γ [c] ft := pts_one h
theorem de_lc (hc : X.calm = true) (hN : X.N.Nodup) (hi : DI X C tg Γ iter Γ1 src) (ok : BlkOk X.N X.env.scope scope own)
    (hg : ∀ (s : Shared) (H : Hp) (A : Addr) (cl : List (Str × Addr)) (fp : List Addr), DG (X.blk s H scope (compEnvC scope cl A X.env) fp) C.in P Γ1 tg Γ1 g)
    (ht : ∀ (s : Shared) (H : Hp) (A : Addr) (cl : List (Str × Addr)) (fp : List Addr), DTs (X.blk s H scope (compEnvC scope cl A X.env) fp) C.in Γ1 ifs ft)
    (he : ∀ (s : Shared) (H : Hp) (A : Addr) (cl : List (Str × Addr)) (fp : List Addr), DE (X.blk s H scope (compEnvC scope cl A X.env) fp) C.in Γ1 elt Γ1 0 fe)
    (hv : ∀ i ∈ own.map (·.2), Γ1.getD i 0 = 0 := by decide) (hP : ∀ i, i < Γ1.length → i ∉ own.map (·.2) → i ∈ P := by decide) (hk : k ≤ 1 := by decide) (hs : ∀ x, foldedSetIterable iter X.env x = pure x := by intro _; rfl) :
    DE X C Γ (.ListComp elt [⟨tg, iter, ifs, 0⟩] scope pos) Γ1 k (mComp (own.map (·.2)) src g ft fe) :=
  pe_imp (pe_lc hc hN hi ok hg ht he hs) fun σ H Q h => lc_data hv hP hk h
theorem ds_setLc {P2 : List Nat} (hc : X.calm = true) (hN : X.N.Nodup) (hy : X.N[i]? = some y) (hyl : X.env.scope.names.lookup y = some .local)
    (hsw : swapsWith (.ListComp elt [⟨tg, iter, ifs, 0⟩] scope pos) (some (.Name y p)) spos.line X.env = pure true) (hi : DI X C tg Γ iter Γ1 src) (ok : BlkOk X.N X.env.scope scope own)
    (hg : ∀ (s : Shared) (H : Hp) (A : Addr) (cl : List (Str × Addr)) (fp : List Addr), DG (X.blk s H scope (compEnvC scope cl A X.env) fp) C.in P Γ1 tg Γ1 g)
    (ht : ∀ (s : Shared) (H : Hp) (A : Addr) (cl : List (Str × Addr)) (fp : List Addr), DTs (X.blk s H scope (compEnvC scope cl A X.env) fp) C.in Γ1 ifs ft)
    (he : ∀ (s : Shared) (H : Hp) (A : Addr) (cl : List (Str × Addr)) (fp : List Addr), DE (X.blk s H scope (compEnvC scope cl A X.env) fp) C.in Γ1 elt Γ1 0 fe)
    (hv : ∀ i ∈ own.map (·.2), Γ1.getD i 0 = 0 := by decide) (hP : ∀ i, i < Γ1.length → i ∉ own.map (·.2) → i ∈ P := by decide) (hk : k ≤ 1 := by decide) (hs : ∀ x, foldedSetIterable iter X.env x = pure x := by intro _; rfl)
    (hil : i < Γ1.length := by decide) (hp : i ∉ P2 := by decide) (h1 : J.nx = Γ1.set i k := by rfl) :
    DS X C P2 J Γ (.Assign [.Name y p] (.ListComp elt [⟨tg, iter, ifs, 0⟩] scope pos) spos) (mSet i (mComp (own.map (·.2)) src g ft fe)) :=
  ds_set (ps_setLc hc hN hy hyl hsw hi ok hg ht he hs) (fun σ H Q h => lc_data hv hP hk h) hil hp h1
end

/-! ### changes in place, at a name -/
def mApp (i : Nat) (fe : Env → R (D × Env)) : Env → R (Fl × Env) := fun ρ => match ρ[i]? with
  | some (some (.lst _)) => (fe ρ).bind fun (d, ρ1) => match ρ1[i]? with
    | some (some (.lst xs)) => if xs.length < 100000 then .ok (.nx, ρ1.set i (some (.lst (xs ++ [d])))) else .bad
    | _ => .bad
  | _ => .bad
/-- o[j] = d -/
def gPut (xs : List D) (j : Int) (d : D) : Option (List D) := (ixN xs.length j).map fun n => xs.set n d
def mSetIx (i : Nat) (fe fi : Env → R (D × Env)) : Env → R (Fl × Env) := fun ρ => (fe ρ).bind fun (d, ρ1) => match ρ1[i]? with
  | some (some (.lst _)) => (fi ρ1).bind fun (j, ρ2) => match j, ρ2[i]? with
    | .int j, some (some (.lst xs)) => (ofO (gPut xs j d)).bind fun ys => .ok (.nx, ρ2.set i (some (.lst ys)))
    | _, _ => .bad
  | _ => .bad
def mPop (i : Nat) : Env → R (D × Env) := fun ρ => match ρ[i]? with
  | some (some (.lst xs)) => match xs.getLast? with
    | some d => .ok (d, ρ.set i (some (.lst xs.dropLast)))
    | none => .bad
  | _ => .bad
def mFldSet (i c j : Nat) (fe : Env → R (D × Env)) : Env → R (Fl × Env) := fun ρ => (fe ρ).bind fun (d, ρ1) => match ρ1[i]? with
  | some (some (.ins c' fs)) => if c' = c then (if j = fs.length then .ok (.nx, ρ1.set i (some (.ins c (fs ++ [d])))) else if j < fs.length then .ok (.nx, ρ1.set i (some (.ins c (fs.set j d)))) else .bad) else .bad
  | _ => .bad
section
variable {K : PySem.W.Frag} {T : Tab} {Γ : List Nat} {σ : St} {H : Hp} {S : Addr → Prop} {fp : Nat → List Addr} {ρ : Env} {i : Nat}
theorem upd_kept {a : Addr} {u o : HO} {b : Addr} (h : H b = some o) (n : b ≠ a) : upd H a u b = some o := by rw [upd_ne n]; exact h
/-- what i owns is written anew: its list -/
theorem Stt.relist {a : Addr} {vs ws : List V} {ys : List D} {xs : List D} (s : Stt K T Γ S σ H ρ fp) (hi : ρ[i]? = some (some (.lst xs))) (hk : Γ.getD i 0 = 1) (hv : σ[i]? = some (some (.ref a))) (h : H a = some (.lst vs)) (r : Reps K T H S ys ws) :
    fp i = [a] ∧ Stt K T Γ S σ (upd H a (.lst ws)) (ρ.set i (some (.lst ys))) fp ∧ Fra H S (Ow fp) (upd H a (.lst ws)) S (Ow fp) := by
  obtain ⟨v, hv', o⟩ := s.sl i _ hi
  rw [hv] at hv'; cases hv'
  rw [hk] at o
  obtain ⟨a', vs', e, h', ef, _⟩ := own_lst1.mp o
  cases e
  have nS : ¬ S a := s.sep.ns i a (by rw [ef]; simp)
  have other : ∀ j b, j ≠ i → b ∈ fp j → b ≠ a := fun j b ne m z => ne (s.sep.dj j i b m (by rw [ef, z]; simp))
  have st : Stay K H S (upd H a (.lst ws)) S := Stay.poke h nS
  refine ⟨ef, ⟨⟨fun j b m => ?_, s.sep.nd, s.sep.dj, s.sep.ns, fun b m => ?_⟩, by simp [s.len], s.gl, fun j d e => ?_⟩, ⟨fun b o e n => ?_, fun _ z => z, fun _ z => .inl z, fun _ z => .inl z⟩⟩
  · by_cases e : b = a
    · subst e; rw [upd_same]; trivial
    · rw [upd_ne e]; exact s.sep.mu j b m
  · obtain ⟨o, e⟩ := s.sep.al b m
    exact ⟨o, upd_kept e (neS m nS)⟩
  · by_cases q : j = i
    · subst q
      rw [List.getElem?_set_self (List.getElem?_eq_some_iff.mp hi).1] at e
      cases e
      refine ⟨_, hv, ?_⟩
      rw [hk]
      exact own_lst1.mpr ⟨a, ws, rfl, upd_same, ef, st.reps r⟩
    · rw [List.getElem?_set_ne (Ne.symm q)] at e
      obtain ⟨v, hv, o⟩ := s.sl j d e
      exact ⟨v, hv, o.stay st fun b m o e => upd_kept e (other j b q m)⟩
  · exact upd_kept e fun z => n (by rw [z]; exact ⟨i, by rw [ef]; simp⟩)
/-- .. its instance -/
theorem Stt.refield {a dx : Addr} {c : Nat} {vs ws : List V} {ys fs : List D} (s : Stt K T Γ S σ H ρ fp) (hi : ρ[i]? = some (some (.ins c fs))) (hk : Γ.getD i 0 = 1) (hv : σ[i]? = some (some (.ref a))) (h : H a = some (.ins (T.cm c) dx ((T.fl c).zip vs)))
    (hl : ys.length ≤ (T.fl c).length) (r : Reps K T H S ys ws) :
    Stt K T Γ S σ (upd H a (.ins (T.cm c) dx ((T.fl c).zip ws))) (ρ.set i (some (.ins c ys))) fp ∧ Fra H S (Ow fp) (upd H a (.ins (T.cm c) dx ((T.fl c).zip ws))) S (Ow fp) := by
  obtain ⟨v, hv', o⟩ := s.sl i _ hi
  rw [hv] at hv'; cases hv'
  rw [hk] at o
  obtain ⟨a', dx', vs', e, h', ef, _⟩ := own_ins1.mp o
  cases e
  have nS : ¬ S a := s.sep.ns i a (by rw [ef]; simp)
  have other : ∀ j b, j ≠ i → b ∈ fp j → b ≠ a := fun j b ne m z => ne (s.sep.dj j i b m (by rw [ef, z]; simp))
  have ne : ∀ {b : Addr} {o : HO}, H b = some o → (∀ C d xs, o ≠ .ins C d xs) → b ≠ a := fun {b o} e z q => by subst q; rw [h] at e; cases e; exact z _ _ _ rfl
  have st : Stay K H S (upd H a (.ins (T.cm c) dx ((T.fl c).zip ws))) S := by
    refine ⟨fun b vs e s => ⟨upd_kept e (neS s nS), s⟩, fun b vs e => ?_, fun b vs e => ?_, fun b C dx fs e s => ⟨upd_kept e (neS s nS), s⟩⟩
    · rcases e with ⟨o, e⟩ | e
      · exact .inl ⟨o, upd_kept e (ne e fun _ _ _ z => by cases z)⟩
      · exact .inr e
    · rcases e with (e | ⟨o, e⟩) | e
      · exact .inl (.inl (upd_kept e (ne e fun _ _ _ z => by cases z)))
      · exact .inl (.inr ⟨o, upd_kept e (ne e fun _ _ _ z => by cases z)⟩)
      · exact .inr e
  refine ⟨⟨⟨fun j b m => ?_, s.sep.nd, s.sep.dj, s.sep.ns, fun b m => ?_⟩, by simp [s.len], s.gl, fun j d e => ?_⟩, ⟨fun b o e n => ?_, fun _ z => z, fun _ z => .inl z, fun _ z => .inl z⟩⟩
  · by_cases e : b = a
    · subst e; rw [upd_same]; trivial
    · rw [upd_ne e]; exact s.sep.mu j b m
  · obtain ⟨o, e⟩ := s.sep.al b m
    exact ⟨o, upd_kept e (neS m nS)⟩
  · by_cases q : j = i
    · subst q
      rw [List.getElem?_set_self (List.getElem?_eq_some_iff.mp hi).1] at e
      cases e
      refine ⟨_, hv, ?_⟩
      rw [hk]
      exact own_ins1.mpr ⟨a, dx, ws, rfl, upd_same, ef, hl, st.reps r⟩
    · rw [List.getElem?_set_ne (Ne.symm q)] at e
      obtain ⟨v, hv, o⟩ := s.sl j d e
      exact ⟨v, hv, o.stay st fun b m o e => upd_kept e (other j b q m)⟩
  · exact upd_kept e fun z => n (by rw [z]; exact ⟨i, by rw [ef]; simp⟩)
/-- an owned list at a name -/
theorem Stt.lst_at {xs : List D} (s : Stt K T Γ S σ H ρ fp) (hi : ρ[i]? = some (some (.lst xs))) (hk : Γ.getD i 0 = 1) : ∃ a vs, σ[i]? = some (some (.ref a)) ∧ H a = some (.lst vs) ∧ Reps K T H S xs vs := by
  obtain ⟨v, hv, o⟩ := s.sl i _ hi
  rw [hk] at o
  obtain ⟨a, vs, rfl, h, _, r⟩ := own_lst1.mp o
  exact ⟨a, vs, hv, h, r⟩
theorem zip_snoc : ∀ {ns : List Str} {vs : List V} {f : Str} {y : V}, ns.Nodup → ns[vs.length]? = some f → putF f y (ns.zip vs) = ns.zip (vs ++ [y])
  | [], vs, f, y, _, h => by simp at h
  | n :: ns, [], f, y, _, h => by
    simp at h; subst h; simp [putF]
  | n :: ns, v :: vs, f, y, nd, h => by
    have h' : ns[vs.length]? = some f := by simpa using h
    have ne : ¬ n = f := fun e => (List.nodup_cons.mp nd).1 (e ▸ List.mem_of_getElem? h')
    simp only [List.zip_cons_cons, List.cons_append]
    show (if n = f then (n, y) :: ns.zip vs else (n, v) :: putF f y (ns.zip vs)) = _
    rw [if_neg ne, zip_snoc (List.nodup_cons.mp nd).2 h']
theorem zip_set : ∀ {ns : List Str} {vs : List V} {j : Nat} {f : Str} {y : V}, ns.Nodup → ns[j]? = some f → j < vs.length → putF f y (ns.zip vs) = ns.zip (vs.set j y)
  | [], vs, j, f, y, _, h, _ => by simp at h
  | n :: ns, [], j, f, y, _, h, l => by simp at l
  | n :: ns, v :: vs, 0, f, y, nd, h, _ => by
    simp at h; subst h; simp [putF]
  | n :: ns, v :: vs, j + 1, f, y, nd, h, l => by
    have h' : ns[j]? = some f := by simpa using h
    have ne : ¬ n = f := fun e => (List.nodup_cons.mp nd).1 (e ▸ List.mem_of_getElem? h')
    simp only [List.zip_cons_cons, List.set_cons_succ]
    show (if n = f then (n, y) :: ns.zip vs else (n, v) :: putF f y (ns.zip vs)) = _
    rw [if_neg ne, zip_set (List.nodup_cons.mp nd).2 h' (by simpa using l)]
end
section
variable {X : Cx} {C : Cz} {P : List Nat} {J : Js} {Γ Γ' Γ1 Γ2 : List Nat} {k i j n : Nat} {x y : Str} {pos p p2 p3 spos : Pos} {a e ix : Expr} {fe fi : Env → R (D × Env)}
/-- x.append(e) -/
theorem ds_app (hv : PE X (.Name x p) (tVar i)) (ha : DE X C Γ e Γ1 0 fe) (hk0 : Γ.getD i 0 = 1 := by rfl) (hk : Γ1.getD i 0 = 1 := by rfl) (h1 : J.nx = Γ1 := by rfl)
    (hs : starEach (e :: []) X.env = (false, eval e X.env) :: starEach [] X.env := by rfl) (hpl : (backTo p3 (starEach [] X.env)).any (·.1) = false := by rfl) (hbase : attributeBase (.Name x p) "append" X.env (eval (.Name x p) X.env) = eval (.Name x p) X.env := by rfl) (hline : (p2.endLine == p3.line) = true := by rfl)
    (hfew : ((backTo p3 (starEach (e :: []) X.env)).all (fun x => !x.1) && (backToKw p3 (keywordEach [] X.env)).all (fun x => x.1.isSome)
      && decide ((e :: ([] : List Expr)).length + ([] : List Keyword).length + (if ([] : List Keyword).isEmpty then 0 else 1) < 30)) = true := by rfl)
    (hsw : swapsWith (.Call (.Attribute (.Name x p) "append" p2) [e] [] p3) none spos.line X.env = pure false := by rfl) :
    DS X C P J Γ (.Expr (.Call (.Attribute (.Name x p) "append" p2) [e] [] p3) spos) (mApp i fe) :=
  ps_imp (ps_expr (pe_bm PySem.F.plainAttrs_list PySem.F.slot_list_append PySem.F.type_list_append mt_append hv (pa_cons ha pa_nil hs) hbase hfew hline hs hpl) hsw) fun E σ H h => by
  obtain ⟨S, ρ, fp, s, h⟩ := h
  unfold mApp at h
  split at h
  · rename_i xs0 q0
    obtain ⟨a, vs0, hv0, h0, _⟩ := s.lst_at q0 hk0
    refine ⟨_, hv0, .inl ⟨rfl, vs0, .inl (.inl h0)⟩, S, ρ, fp, s, OutE.thenS h fun d ρ1 v H1 S1 fp1 Fv e1 s1 x1 f1 h2 => ?_⟩
    obtain ⟨ef, rd⟩ := x1.rep
    subst ef
    dsimp only at h2
    split at h2
    · rename_i xs q1
      split at h2
      · rename_i hl
        obtain ⟨a', vs, hv1, h1', r⟩ := s1.lst_at q1 hk
        rw [hv0] at hv1; cases hv1
        have rr : Reps X.K C.T H1 S1 (xs ++ [d]) (vs ++ [v]) := r.append (by simp only [Reps]; exact ⟨v, [], rfl, rd, rfl⟩)
        obtain ⟨_, s2, f2⟩ := s1.relist q1 hk hv0 h1' rr
        refine ⟨a, vs, v, rfl, rfl, h1', by rw [sizeLine_eq, ← r.length]; omega, ?_⟩
        exact h2 σ _ S1 fp1 (by rw [h1]; exact s2) Kp.refl (f1.ow.trans f2)
      · exact h2.elim
    · exact h2.elim
  · exact h.elim
/-- x[ix] = e -/
theorem ds_setix (hv : PE X (.Name x p) (tVar i)) (ha : DE X C Γ e Γ1 0 fe) (hi : DE X C Γ1 ix Γ2 0 fi) (hk0 : Γ1.getD i 0 = 1 := by rfl) (hk : Γ2.getD i 0 = 1 := by rfl) (h1 : J.nx = Γ2 := by rfl)
    (has : ∀ v, assign (.Subscript (.Name x p) ix p2) X.env v = (do
      let ov ← holding [v] (eval (.Name x p) X.env)
      let iv ← holding [v, ov] (eval ix X.env)
      standAt p2
      holding [v, ov, iv] (setItem ov iv v)
      release [v, ov, iv] []) := by intro _; rfl)
    (hs : swapsWithSole [.Subscript (.Name x p) ix p2] e spos.line X.env = pure false := by rfl) (hw : swappedStores [.Subscript (.Name x p) ix p2] e X.env = pure none := by rfl)
    (hx : (assignEach [.Subscript (.Name x p) ix p2] X.env).map (·.2) = [assign (.Subscript (.Name x p) ix p2) X.env] := by rfl) :
    DS X C P J Γ (.Assign [.Subscript (.Name x p) ix p2] e spos) (mSetIx i fe fi) :=
  ps_imp (ps_asg ha (pg_sub hv hi set_list has) hs hw hx) fun E σ H h => by
  obtain ⟨S, ρ, fp, s, h⟩ := h
  refine ⟨S, ρ, fp, s, OutE.thenS h fun d ρ1 v H1 S1 fp1 Fv e1 s1 x1 f1 h2 => ?_⟩
  obtain ⟨ef, rd⟩ := x1.rep
  subst ef
  dsimp only at h2
  split at h2
  · rename_i xs0 q0
    obtain ⟨a, vs0, hv0, h0, _⟩ := s1.lst_at q0 hk0
    have h2 := OutS.before (σ1 := σ) Kp.refl f1.ow h2
    refine ⟨_, hv0, S1, ρ1, fp1, s1, OutE.thenS h2 fun dj ρ2 vj H2 S2 fp2 Fj e2 s2 x2 f2 h3 => ?_⟩
    obtain ⟨ej, rj⟩ := x2.rep
    subst ej
    dsimp only at h3
    split at h3
    · rename_i j xs q1
      have ej := rep_int rj
      subst ej
      obtain ⟨a', vs, hv1, h1', r⟩ := s2.lst_at q1 hk
      rw [hv0] at hv1; cases hv1
      unfold gPut at h3
      cases qn : ixN xs.length j with
      | none => rw [qn] at h3; exact h3.elim
      | some m =>
        rw [qn] at h3
        have rr : Reps X.K C.T H2 S2 (xs.set m d) (vs.set m v) := r.set m (s1.rep_fra rd f2)
        obtain ⟨_, s3, f3⟩ := s2.relist q1 hk hv0 h1' rr
        refine ⟨a, vs, j, m, rfl, rfl, h1', by rw [← r.length]; exact qn, ?_⟩
        exact h3 σ _ S2 fp2 (by rw [h1]; exact s3) Kp.refl (f2.ow.trans f3)
    · exact h3.elim
  · exact h2.elim
/-- x.pop() -/
theorem de_pop (hv : PE X (.Name x p) (tVar i)) (hk : Γ.getD i 0 = 1 := by rfl) (hbase : attributeBase (.Name x p) "pop" X.env (eval (.Name x p) X.env) = eval (.Name x p) X.env := by rfl) (hline : (p2.endLine == p3.line) = true := by rfl) :
    DE X C Γ (.Call (.Attribute (.Name x p) "pop" p2) [] [] p3) Γ 0 (mPop i) :=
  pe_imp (pe_bm0 PySem.F.plainAttrs_list PySem.F.slot_list_pop PySem.F.type_list_pop mt_pop hv hbase hline) fun σ H Q h => by
  obtain ⟨S, ρ, fp, s, h⟩ := h
  unfold mPop at h
  split at h
  · rename_i xs q0
    obtain ⟨a, vs, hv0, h0, r⟩ := s.lst_at q0 hk
    split at h
    · rename_i d qd
      have hd : xs[xs.length - 1]? = some d := by rw [← List.getLast?_eq_getElem?]; exact qd
      obtain ⟨v, hvv, rv⟩ := r.get hd
      obtain ⟨_, s2, f2⟩ := s.relist q0 hk hv0 h0 r.dropLast
      refine ⟨_, hv0, .inl ⟨rfl, vs, .inl (.inl h0)⟩, a, vs, v, rfl, rfl, h0, by rw [← r.length]; exact hvv, ?_⟩
      exact h v _ S fp [] s2 (.of (s.rep_fra rv f2)) f2.ow'
    · exact h.elim
  · exact h.elim
/-- self.f = e -/
theorem ds_fldset {c : Nat} {f : Str} (hcl : Cls X.K (C.T.cm c)) (hna : NoAttr X.K (C.T.cm c) f) (hf : (C.T.fl c)[j]? = some f) (hnd : (C.T.fl c).Nodup) (hsm : (C.T.fl c).length < 1000) (hv : PE X (.Name x p) (tVar i)) (ha : DE X C Γ e Γ1 0 fe) (hk : Γ1.getD i 0 = 1 := by rfl) (h1 : J.nx = Γ1 := by rfl)
    (hs : swapsWith e (some (.Attribute (.Name x p) f p2)) spos.line X.env = pure false := by rfl) : DS X C P J Γ (.Assign [.Attribute (.Name x p) f p2] e spos) (mFldSet i c j fe) :=
  ps_imp (ps_fld hv ha hs) fun E σ H h => by
  obtain ⟨S, ρ, fp, s, h⟩ := h
  refine ⟨S, ρ, fp, s, OutE.thenS h fun d ρ1 v H1 S1 fp1 Fv e1 s1 x1 f1 h2 => ?_⟩
  obtain ⟨ef, rd⟩ := x1.rep
  subst ef
  dsimp only at h2
  split at h2
  · rename_i c' fs q0
    split at h2
    · rename_i ec
      subst ec
      obtain ⟨v0, hv0, o⟩ := s1.sl i _ q0
      rw [hk] at o
      obtain ⟨a, dx, vs, rfl, h0, _, hl, r⟩ := own_ins1.mp o
      have hzl : ((C.T.fl c').zip vs).length < 1000 := by rw [List.length_zip]; omega
      split at h2
      · rename_i ej
        have rr : Reps X.K C.T H1 S1 (fs ++ [d]) (vs ++ [v]) := r.append (by simp only [Reps]; exact ⟨v, [], rfl, rd, rfl⟩)
        have hj : j < (C.T.fl c').length := (List.getElem?_eq_some_iff.mp hf).1
        obtain ⟨s2, f2⟩ := s1.refield (dx := dx) q0 hk hv0 h0 (ys := fs ++ [d]) (by simp; omega) rr
        refine ⟨_, hv0, a, _, dx, _, rfl, h0, hcl, hna, hzl, ?_⟩
        rw [zip_snoc hnd (by rw [← r.length, ← ej]; exact hf)]
        exact h2 σ _ S1 fp1 (by rw [h1]; exact s2) Kp.refl (f1.ow.trans f2)
      · split at h2
        · rename_i lj
          have rr : Reps X.K C.T H1 S1 (fs.set j d) (vs.set j v) := r.set j rd
          obtain ⟨s2, f2⟩ := s1.refield (dx := dx) q0 hk hv0 h0 (ys := fs.set j d) (by simpa using hl) rr
          refine ⟨_, hv0, a, _, dx, _, rfl, h0, hcl, hna, hzl, ?_⟩
          rw [zip_set hnd hf (by rw [← r.length]; exact lj)]
          exact h2 σ _ S1 fp1 (by rw [h1]; exact s2) Kp.refl (f1.ow.trans f2)
        · exact h2.elim
    · exact h2.elim
  · exact h2.elim
end

/-! ### contracts from bodies -/
def mFn (n N : Nat) (fb : Env → R (Fl × Env)) (ds : List D) : R D := if ds.length = n then (fb (ds.map some ++ List.replicate (N - n) none)).bind fun (fl, _) => match fl with
    | .rt d => .ok d
    | .nx => .ok .non
    | _ => .bad
  else .bad
def mFnB (n N : Nat) (fb : Env → R (Fl × Env)) (ds : List D) : R (D × D) := if ds.length = n then (fb (ds.map some ++ List.replicate (N - n) none)).bind fun (fl, ρ) => match ρ[0]? with
    | some (some d0) => (match fl with
      | .rt d => .ok (d, d0)
      | .nx => .ok (.non, d0)
      | _ => .bad)
    | _ => .bad
  else .bad
section
variable {P : Program} {w : World} {K : PySem.W.Frag} {T : Tab} {mg : Str → Option Value} {base : Heap} {x qual : Str} {params : Arguments} {body : List Stmt} {scope : Scope} {dvs : List V} {kws : List (Str × V)} {f : Addr} {fd : FuncData} {N ps : List Str} {k kr k1 n : Nat} {Pk : List Nat} {J : Js} {Γ : List Nat} {fb : Env → R (Fl × Env)}
theorem spF_len {m : List D → R D} (hm : ∀ ds, ds.length ≠ n → m ds = .bad) : ∀ vs H Q E, spF K T kr m vs H Q E → vs.length = n := fun vs H Q E h => by
  obtain ⟨S, ds, r, al, h⟩ := h
  by_cases e : ds.length = n
  · rw [← r.length]; exact e
  · rw [hm ds e] at h; exact h.elim
theorem mFn_len {N : Nat} : ∀ ds, ds.length ≠ n → mFn n N fb ds = .bad := fun ds h => if_neg h
theorem start_len {vs : List V} (h : vs.length ≤ N.length) : (L2.start N vs).length = N.length := by
  simp [L2.start]; omega
theorem start_get {vs : List V} {i : Nat} {v : V} (h : vs[i]? = some v) : (L2.start N vs)[i]? = some (some v) := by
  unfold L2.start
  have hl : i < vs.length := (List.getElem?_eq_some_iff.mp h).1
  rw [List.getElem?_append_left (by simpa using hl), List.getElem?_map, h]; rfl
theorem env_get {ds : List D} {m i : Nat} {d : D} (h : (ds.map some ++ List.replicate m none)[i]? = some (some d)) : i < ds.length ∧ ds[i]? = some d := by
  by_cases hl : i < ds.length
  · rw [List.getElem?_append_left (by simpa using hl), List.getElem?_map] at h
    cases q : ds[i]? with
    | none => rw [q] at h; cases h
    | some e => rw [q] at h; cases h; exact ⟨hl, rfl⟩
  · rw [List.getElem?_append_right (by simpa using hl), List.getElem?_replicate] at h
    split at h <;> cases h
theorem stt_start {S : Addr → Prop} {H : Hp} {ds : List D} {vs : List V} (r : Reps K T H S ds vs) (al : ∀ a, S a → ∃ o, H a = some o) (hn : ds.length = n) (hN : n ≤ N.length) (hΓ : Γ.length = N.length) (h0 : ∀ i, i < n → Γ.getD i 0 = 0) :
    Stt K T Γ S (L2.start N vs) H (ds.map some ++ List.replicate (N.length - n) none) (fun _ => []) := by
  have lv : vs.length = n := by rw [← r.length]; exact hn
  refine ⟨⟨fun i a h => (nomatch h), fun i => List.nodup_nil, fun i j a h => (nomatch h), fun i a h => (nomatch h), al⟩, by simp [L2.start, lv, hn], by simp [L2.start, lv, hΓ]; omega, fun i d h => ?_⟩
  obtain ⟨hl, h⟩ := env_get h
  obtain ⟨v, hv, rv⟩ := r.get h
  exact ⟨v, start_get hv, by rw [h0 i (by omega)]; exact own_zero.mpr ⟨rfl, rv⟩⟩
/-- a def keeps its contract, by its body -/
theorem okF (F : FunD K x qual params body scope dvs kws f fd) (S : FnScope N ps scope) (hn : ps.length = n) (hΓ : Γ.length = N.length) (h0 : ∀ i, i < n → Γ.getD i 0 = 0) (hkr : J.kr = kr)
    (hbody : ∀ (cdv : Value) (A : Around) (outer : List PySem.Env) (s : Shared) (H : Hp) (E : XK), Room k (A.deeper (envOfC qual scope s.heap.objs.size f cdv)) →
      Takes (cxOf (L2.CX P w) P w K mg base N qual scope f cdv A outer s H E) (fun cls d _ H => E cls d H) →
      DSs (cxOf (L2.CX P w) P w K mg base N qual scope f cdv A outer s H E) ⟨T, fun cls d _ H => E cls d H⟩ Pk J Γ body fb) : FnOk P w K mg base (L2.CX P w) (k + 1) f fd ps (spF K T kr (mFn n N.length fb)) := by
  have hN : n ≤ N.length := by
    have := congrArg List.length S.pre
    rw [List.length_take, hn] at this
    omega
  refine F.ok S (fun vs H Q E h => by rw [hn]; exact spF_len mFn_len vs H Q E h) fun cdv A outer s H vs Q E hr h => ⟨_, hbody cdv A outer s H E hr (takes_of rfl rfl rfl rfl), ?_⟩
  obtain ⟨S1, ds, r, al, h⟩ := h
  unfold mFn at h
  by_cases e : ds.length = n
  · rw [if_pos e] at h
    refine ⟨S1, _, _, stt_start r al e hN hΓ h0, ?_⟩
    have ow0 : ∀ b, Ow (fun _ => []) b → False := fun b ⟨_, z⟩ => nomatch z
    have fr : ∀ {H' : Hp} {S' O' : Addr → Prop}, Fra H S1 (Ow fun _ => []) H' S' O' → Fra H S1 (fun _ => False) H' S' O' := fun f =>
      ⟨fun b o h _ => f.kp b o h (ow0 b), f.sm, fun b z => (f.so b z).imp id (Or.imp_left (ow0 b)), fun b z => (f.oo b z).imp_left (ow0 b)⟩
    revert h
    generalize fb (ds.map some ++ List.replicate (N.length - n) none) = res
    intro h
    match res, h with
    | .ok (.nx, ρ'), h =>
      intro σ' H' S' fp' s' k f
      refine h .non H' S' [] ?_ List.nodup_nil (fun a z => (nomatch z)) s'.sep.al ((fr f).less fun b z => (nomatch z))
      cases kr with
      | zero => exact own_zero.mpr ⟨rfl, by simp [Rep]⟩
      | succ k => simp [Own, Rep]
    | .ok (.bk, ρ'), h => exact h.elim
    | .ok (.ct, ρ'), h => exact h.elim
    | .ok (.rt d, ρ'), h =>
      intro v σ' H' S' fp' Fv s' x' k f
      rw [hkr] at x'
      exact h v H' S' Fv x'.own x'.nd x'.ns s'.sep.al ((fr f).less fun b z => .inr z)
    | .er c fs, h => exact fun σ' k dx xs vs H' S' e1 e2 r f al => h dx xs vs H' S' e1 e2 r (fr f) al
    | .bad, h => exact h.elim
  · rw [if_neg e] at h; exact h.elim
/-- .. where it may change its first argument -/
theorem okB (F : FunD K x qual params body scope dvs kws f fd) (S : FnScope N ps scope) (hn : ps.length = n) (hn1 : 1 ≤ n) (hΓ : Γ.length = N.length) (hk1 : Γ.getD 0 0 = k1) (h0 : ∀ i, 1 ≤ i → i < n → Γ.getD i 0 = 0) (hkr : J.kr = kr) (hP : 0 ∈ Pk) (hrt : J.rt.getD 0 0 = k1) (hnx : J.nx.getD 0 0 = k1)
    (hbody : ∀ (cdv : Value) (A : Around) (outer : List PySem.Env) (s : Shared) (H : Hp) (E : XK), Room k (A.deeper (envOfC qual scope s.heap.objs.size f cdv)) →
      Takes (cxOf (L2.CX P w) P w K mg base N qual scope f cdv A outer s H E) (fun cls d _ H => E cls d H) →
      DSs (cxOf (L2.CX P w) P w K mg base N qual scope f cdv A outer s H E) ⟨T, fun cls d _ H => E cls d H⟩ Pk J Γ body fb) : FnOk P w K mg base (L2.CX P w) (k + 1) f fd ps (spB K T k1 kr (mFnB n N.length fb)) := by
  have hN : n ≤ N.length := by
    have := congrArg List.length S.pre
    rw [List.length_take, hn] at this
    omega
  refine F.ok S (fun vs H Q E h => ?_) fun cdv A outer s H vs Q E hr h => ⟨_, hbody cdv A outer s H E hr (takes_of rfl rfl rfl rfl), ?_⟩
  · obtain ⟨S1, d0, v0, F0, ds, vs', rfl, o, nd, ns, r, al, h⟩ := h
    unfold mFnB at h
    by_cases e : (d0 :: ds).length = n
    · rw [hn, List.length_cons, ← r.length]; exact e
    · rw [if_neg e] at h; exact h.elim
  · obtain ⟨S1, d0, v0, F0, ds, vs', rfl, o, nd, ns, r, al, h⟩ := h
    unfold mFnB at h
    by_cases e : (d0 :: ds).length = n
    · rw [if_pos e] at h
      have lv : (v0 :: vs').length = n := by rw [List.length_cons, ← r.length]; exact e
      have st : Stt K T Γ S1 (L2.start N (v0 :: vs')) H ((d0 :: ds).map some ++ List.replicate (N.length - n) none) (fun i => if i = 0 then F0 else []) := by
        have mem : ∀ {i : Nat} {a : Addr}, a ∈ (if i = 0 then F0 else []) → i = 0 ∧ a ∈ F0 := fun {i a} h => by
          split at h
          · rename_i z; exact ⟨z, h⟩
          · cases h
        refine ⟨⟨fun i a h => o.mut a (mem h).2, fun i => ?_, fun i j a h h' => by rw [(mem h).1, (mem h').1], fun i a h => ns a (mem h).2, al⟩, by rw [start_len (by omega)]; simp at e ⊢; omega, by rw [start_len (by omega)]; exact hΓ, fun i d h => ?_⟩
        · split
          · exact nd
          · exact List.nodup_nil
        · obtain ⟨hl, h⟩ := env_get h
          cases i with
          | zero =>
            simp at h; subst h
            exact ⟨v0, start_get rfl, by rw [hk1]; exact o⟩
          | succ i =>
            have h' : ds[i]? = some d := by simpa using h
            obtain ⟨v, hv, rv⟩ := r.get h'
            refine ⟨v, start_get (by simpa using hv), ?_⟩
            rw [h0 (i + 1) (by omega) (by omega)]
            exact own_zero.mpr ⟨rfl, rv⟩
      refine ⟨S1, _, _, st, ?_⟩
      have ow0 : ∀ b, Ow (fun i => if i = 0 then F0 else []) b → b ∈ F0 := fun b ⟨i, z⟩ => by
        dsimp only at z
        split at z
        · exact z
        · cases z
      have fr : ∀ {H' : Hp} {S' O' : Addr → Prop}, Fra H S1 (Ow fun i => if i = 0 then F0 else []) H' S' O' → Fra H S1 (fun a => a ∈ F0) H' S' O' := fun f => f.more ow0
      have hv0 : (L2.start N (v0 :: vs'))[0]? = some (some v0) := start_get rfl
      revert h
      generalize fb ((d0 :: ds).map some ++ List.replicate (N.length - n) none) = res
      intro h
      have get0 : ∀ {ρ' : Env} {σ' : St} {H' : Hp} {S' : Addr → Prop} {fp' : Nat → List Addr} {Γ' : List Nat} {d1 : D}, Stt K T Γ' S' σ' H' ρ' fp' → Γ'.getD 0 0 = k1 → Kp Pk (L2.start N (v0 :: vs')) σ' → ρ'[0]? = some (some d1) → Own K T H' S' k1 d1 v0 (fp' 0) := by
        intro ρ' σ' H' S' fp' Γ' d1 s' e1 kp e2
        obtain ⟨v, hv, o⟩ := s'.sl 0 d1 e2
        rw [kp 0 hP, hv0] at hv
        cases hv
        rw [e1] at o
        exact o
      match res, h with
      | .ok (.nx, ρ'), h =>
        intro σ' H' S' fp' s' kp f
        cases q : ρ'[0]? with
        | none => simp only [R.bind_ok, q] at h; exact h.elim
        | some od =>
          cases od with
          | none => simp only [R.bind_ok, q] at h; exact h.elim
          | some d1 =>
            simp only [R.bind_ok, q] at h
            refine h .non H' S' [] (fp' 0) (get0 s' hnx kp q) ?_ (by simpa using s'.sep.nd 0) (fun a z => by simp at z; exact s'.sep.ns 0 a z) s'.sep.al ((fr f).less fun b z => z.elim (fun z => ⟨0, z⟩) fun z => nomatch z)
            cases kr with
            | zero => exact own_zero.mpr ⟨rfl, by simp [Rep]⟩
            | succ k => simp [Own, Rep]
      | .ok (.bk, ρ'), h =>
        simp only [R.bind_ok] at h
        split at h <;> exact h.elim
      | .ok (.ct, ρ'), h =>
        simp only [R.bind_ok] at h
        split at h <;> exact h.elim
      | .ok (.rt d, ρ'), h =>
        intro v σ' H' S' fp' Fv s' x' kp f
        cases q : ρ'[0]? with
        | none => simp only [R.bind_ok, q] at h; exact h.elim
        | some od =>
          cases od with
          | none => simp only [R.bind_ok, q] at h; exact h.elim
          | some d1 =>
            simp only [R.bind_ok, q] at h
            rw [hkr] at x'
            refine h v H' S' Fv (fp' 0) (get0 s' hrt kp q) x'.own (List.nodup_append.mpr ⟨s'.sep.nd 0, x'.nd, fun a h1 b h2 e => x'.dj b h2 0 (e ▸ h1)⟩) (fun a z => ?_) s'.sep.al ((fr f).less fun b z => z.elim (fun z => .inl ⟨0, z⟩) .inr)
            rcases List.mem_append.mp z with z | z
            · exact s'.sep.ns 0 a z
            · exact x'.ns a z
      | .er c fs, h => exact fun σ' k dx xs vs H' S' e1 e2 r f al => h dx xs vs H' S' e1 e2 r (fr f) al
      | .bad, h => exact h.elim
    · rw [if_neg e] at h; exact h.elim
end
end Z
set_option Elab.async false
set_option linter.all false
set_option maxRecDepth 100000
/-! Z7: instances are made; methods; keywords -/
namespace Z
open PySem PySem.Spec L2
open PyProof.Rows hiding St

section
variable {K : PySem.W.Frag} {T : Tab} {W : WX} {Γ Γ' : List Nat} {k : Nat} {σ : St} {H H' : Hp} {S S' O O' : Addr → Prop} {fp : Nat → List Addr} {ρ : Env} {Q : VK}
/-- a value's own objects become shared -/
theorem Stt.mix {d : D} {v : V} {Fv : List Addr} (s : Stt K T Γ S σ H ρ fp) (x : Val K T S H fp k d v Fv) : Stt K T Γ (fun a => S a ∨ a ∈ Fv) σ H ρ fp := by
  refine ⟨⟨s.sep.mu, s.sep.nd, s.sep.dj, fun i a h z => ?_, fun a z => ?_⟩, s.len, s.gl, fun i d h => ?_⟩
  · rcases z with z | z
    · exact s.sep.ns i a h z
    · exact x.dj a z i h
  · rcases z with z | z
    · exact s.sep.al a z
    · have m := x.own.mut a z
      cases q : H a with
      | none => rw [q] at m; exact m.elim
      | some o => exact ⟨o, rfl⟩
  · obtain ⟨v, hv, o⟩ := s.sl i d h
    exact ⟨v, hv, o.stay (Stay.more fun a h => .inl h) fun a _ o h => h⟩
theorem Fra.mix {fp' : Nat → List Addr} {Fv : List Addr} (f : Fra H S O H' S' (fun a => Ow fp' a ∨ a ∈ Fv)) : Fra H S O H' (fun a => S' a ∨ a ∈ Fv) (Ow fp') :=
  ⟨f.kp, fun b z => .inl (f.sm b z), fun b z => z.elim (f.so b) fun z => .inr (f.oo b (.inr z)), fun b z => f.oo b (.inl z)⟩
/-- a state behind code whose own objects are none of the frame's -/
theorem Stt.afterO (s : Stt K T Γ S σ H ρ fp) (mO : ∀ a, O a → Mut (H a)) (nO : ∀ a, O a → ¬ S a ∧ ∀ i, a ∉ fp i) (f : Fra H S O H' S' O') (al : ∀ a, S' a → ∃ o, H' a = some o) : Stt K T Γ S' σ H' ρ fp := by
  have st : Stay K H S H' S' := .of mO (fun a z => (nO a z).1) f
  have keep : ∀ i a, a ∈ fp i → ∀ o, H a = some o → H' a = some o := fun i a m o h => f.kp a o h fun z => (nO a z).2 i m
  refine ⟨⟨fun i a h => ?_, s.sep.nd, s.sep.dj, fun i a h z => ?_, al⟩, s.len, s.gl, fun i d h => ?_⟩
  · have m := s.sep.mu i a h
    cases q : H a with
    | none => rw [q] at m; exact m.elim
    | some o => rw [keep i a h o q]; rw [q] at m; exact m
  · rcases f.so a z with z | z | z
    · exact s.sep.ns i a h z
    · exact (nO a z).2 i h
    · have m := s.sep.mu i a h; rw [z] at m; exact m
  · obtain ⟨v, hv, o⟩ := s.sl i d h
    exact ⟨v, hv, o.stay st fun a m o h => keep i a m o h⟩
end

section
variable {X : Cx} {C : Cz} {Γ Γ' Γ1 Γ2 : List Nat} {k kr k1 lv i : Nat} {x y mn : Str} {pos p p2 apos : Pos} {a b e o : Expr} {es : List Expr} {kws : List Keyword} {fa fb : Env → R (D × Env)} {fs fk : Env → R (List D × Env)} {m : List D → R D} {mB : List D → R (D × D)}
  {f cl : Addr} {fd : FuncData} {ps ks : List Str} {ds : List Value} {dvs : List V} {E : XK}
/-- an owned value is used as a shared one -/
theorem de_sh (h : DE X C Γ e Γ1 k fa) : DE X C Γ e Γ1 0 fa := pe_imp h fun σ H Q h => by
  obtain ⟨S, ρ, fp, s, h⟩ := h
  refine ⟨S, ρ, fp, s, ?_⟩
  revert h
  generalize fa ρ = r
  intro h
  match r, h with
  | .ok (d, ρ'), h => exact fun v H' S' fp' Fv s' x' f' => h v H' _ fp' [] (s'.mix x') (.of x'.own.freeze) f'.mix.ow'
  | .er c fs, h => exact h
  | .bad, h => exact h

/-! ### C(..) -/
def mMake (c : Nat) (m : List D → R (D × D)) (fs : Env → R (List D × Env)) : Env → R (D × Env) := fun ρ => (fs ρ).bind fun (xs, ρ1) => (m (.ins c [] :: xs)).bind fun (d, d0) => match d with
  | .non => .ok (d0, ρ1)
  | _ => .bad
theorem make_data {c : Nat} {σ : St} {H : Hp} {S : Addr → Prop} {ρ : Env} {fp : Nat → List Addr} {Q : VK} {xs : List D} {vs : List V} {E : XK} (hW : ∀ cls d H', C.W cls d σ H' → E cls d H') (s : Stt X.K C.T Γ S σ H ρ fp) (r : Reps X.K C.T H S xs vs)
    (h : OutE X.K C.T C.W Γ 1 σ H S fp Q ((mB (.ins c [] :: xs)).bind fun (d, d0) => match d with | .non => .ok (d0, ρ) | _ => .bad)) (p dx : Addr) (hp : H p = none) (hdx : H dx = none) (hne : dx ≠ p) :
    spB X.K C.T 1 0 mB (.ref p :: vs) (upd (upd H dx (.own p)) p (.ins (C.T.cm c) dx [])) (fun v H2 => v = .non ∧ Q (.ref p) H2) E := by
  have k1 : ∀ b o, H b = some o → upd (upd H dx (.own p)) p (.ins (C.T.cm c) dx []) b = some o := fun b o e => by
    rw [upd_ne (ne_of_none e hp), upd_ne (ne_of_none e hdx)]; exact e
  have s1 := s.grow k1
  have fr := s.sep.fresh hp
  refine ⟨S, .ins c [], .ref p, [p], xs, vs, rfl, own_ins1.mpr ⟨p, dx, [], rfl, by simp [upd_same], rfl, by simp, by simp [Reps]⟩, by simp, fun a m => by rw [List.mem_singleton] at m; subst m; exact fr.1, (Stay.grow k1).reps r, s1.sep.al, ?_⟩
  have g0 : Fra H S (Ow fp) (upd (upd H dx (.own p)) p (.ins (C.T.cm c) dx [])) S (fun a => a ∈ [p]) := ⟨fun b o e _ => k1 b o e, fun _ z => z, fun _ z => .inl z, fun b z => by rw [List.mem_singleton] at z; subst z; exact .inr hp⟩
  cases q : mB (.ins c [] :: xs) with
  | ok ar =>
    obtain ⟨d, d0⟩ := ar
    rw [q] at h
    simp only [R.bind_ok] at h
    intro v H' S' Fv F0' o0 o1 nd ns al f
    cases d with
    | non =>
      obtain ⟨e1, e2⟩ := own_zero.mp o1
      subst e1
      rw [List.append_nil] at nd ns
      refine ⟨rep_non e2, ?_⟩
      refine h _ H' S' fp F0' (s1.afterO (fun a m => ?_) (fun a m => ?_) f al) ⟨o0, nd, ns, fun a m j z => ?_⟩ ?_
      · rw [List.mem_singleton] at m; subst m; rw [upd_same]; trivial
      · rw [List.mem_singleton] at m; subst m; exact fr
      · rcases f.oo a (.inl m) with w | w
        · rw [List.mem_singleton] at w; subst w; exact fr.2 j z
        · have mm := s1.sep.mu j a z; rw [w] at mm; exact mm
      · refine ⟨fun b o e n => f.kp b o (k1 b o e) fun z => ?_, f.sm, fun b z => ?_, fun b z => ?_⟩
        · rw [List.mem_singleton] at z; subst z; rw [hp] at e; cases e
        · exact (g0.trans f).so b z
        · rcases z with z | z
          · exact .inl z
          · exact (g0.trans f).oo b (.inl z)
    | _ => exact h.elim
  | er c' fs' =>
    rw [q] at h
    intro dx' xs' vs' H' S' e1 e2 r' f al
    exact hW _ _ _ (h dx' xs' vs' H' S' e1 e2 r' (g0.trans f) al)
  | bad => rw [q] at h; exact h
theorem de_make {c : Nat} {xd : List D} (hW : C.W = fun cls d _ H => E cls d H) (M : Mk X.K (C.T.cm c) f) (F : FnOk X.prog X.w X.K X.mg X.base (L2.CX X.prog X.w) lv f fd ps (spB X.K C.T 1 0 mB)) (hr : Room (lv + 1) X.A) (tk : Takes X C.W) (hg : Gl X x) (hm : X.mg x = some (.ref (C.T.cm c))) (hb : Binds X.K fd ps ds) (hd : Vals dvs ds)
    (hxd : ∀ S H, Reps X.K C.T H S xd dvs) (ha : DA X C Γ (e :: es) Γ1 fs) (hdb : (x == ("__debug__" : Str)) = false := by decide) (he : starEach (e :: es) X.env = (false, eval e X.env) :: starEach es X.env := by rfl) (hpl : (backTo pos (starEach es X.env)).any (·.1) = false := by rfl) :
    DE X C Γ (.Call (.Name x p) (e :: es) [] pos) Γ1 1 (mMake c (fun xs => mB (xs ++ xd)) fs) := by
  refine pe_imp (pe_make (E := E) M F hr hg hm hb hd (passes_call tk fun cls d σ H z => by rw [hW]; exact z) ha hdb he hpl) fun σ H Q h => ?_
  obtain ⟨S, ρ, fp, s, h⟩ := h
  refine ⟨S, ρ, fp, s, OutA.thenE h fun xs ρ1 vs H1 S1 fp1 e1 s1 r1 f1 h1 => ?_⟩
  intro p dx hp hdx hne
  exact make_data (fun cls d H' z => by rw [hW] at z; exact z) s1 (r1.append (hxd S1 H1)) h1 p dx hp hdx hne

/-! ### keywords -/
/-- the keywords' values in the parameters' order -/
def permL {α : Type} (ix : List Nat) (ws : List α) : List α := ix.filterMap fun j => ws[j]?
theorem vals_perm {vs : List V} {us : List Value} (h : Vals vs us) : ∀ {ix : List Nat}, Vals (permL ix vs) (permL ix us)
  | [] => .nil
  | j :: ix => by
    unfold permL
    simp only [List.filterMap_cons]
    cases q : vs[j]? with
    | none =>
      have q2 : us[j]? = none := by
        rw [List.getElem?_eq_none_iff] at q ⊢
        rw [← h.length]; exact q
      rw [q2]
      exact vals_perm h (ix := ix)
    | some v =>
      obtain ⟨u, e, r⟩ := h.get q
      rw [e]
      exact .cons r (vals_perm h (ix := ix))
theorem reps_perm {K : PySem.W.Frag} {T : Tab} {H : Hp} {S : Addr → Prop} {vs : List D} {us : List V} (h : Reps K T H S vs us) : ∀ {ix : List Nat}, Reps K T H S (permL ix vs) (permL ix us)
  | [] => by simp [permL, Reps]
  | j :: ix => by
    unfold permL
    simp only [List.filterMap_cons]
    cases q : vs[j]? with
    | none =>
      have q2 : us[j]? = none := by
        rw [List.getElem?_eq_none_iff] at q ⊢
        rw [← h.length]; exact q
      rw [q2]
      exact reps_perm h (ix := ix)
    | some v =>
      obtain ⟨u, e, r⟩ := h.get q
      rw [e]
      simp only [Reps]
      exact ⟨u, _, rfl, r, reps_perm h (ix := ix)⟩
/-- n positional values, then the keywords ks -/
theorem kbn_of {n : Nat} {ix : List Nat} (h : ∀ us ws : List Value, us.length = n → ws.length = ks.length → bindArgs fd ⟨us, ks.zip ws⟩ = pure (ps.zip (us ++ permL ix ws))) : KBn X.K fd ps n ks (fun us ws => us ++ permL ix ws) (fun us ws => us ++ permL ix ws) :=
  ⟨fun s us ws _ l1 l2 => BindsTo.of_eq (h us ws l1 l2), fun r1 r2 => r1.append (vals_perm r2)⟩
abbrev DK (X : Cx) (Z : Cz) (Γ : List Nat) (kws : List Keyword) (Γ' : List Nat) (f : Env → R (List D × Env)) : Prop := PK X kws (tA X.K Z.T Z.W Γ Γ' f)
theorem pk_imp {t t' : TA} (h : PK X kws t) (i : ∀ σ H Q, t' σ H Q → t σ H Q) : PK X kws t' := ⟨fun pos pins s σ H Q I q => h.run pos pins s σ H Q I (i σ H Q q)⟩
theorem dk_nil : DK X C Γ [] Γ mNil := pk_imp pk_nil fun σ H Q h => by
  obtain ⟨S, ρ, fp, s, h⟩ := h
  exact h [] H S fp s (by simp [Reps]) Fra.refl
theorem dk_cons {nm : Option Str} {kpos : Pos} (ha : DE X C Γ a Γ1 0 fa) (hr : DK X C Γ1 kws Γ2 fk) : DK X C Γ (⟨nm, a, kpos⟩ :: kws) Γ2 (mCons fa fk) := by
  refine pk_imp (pk_cons ha hr) fun σ H Q h => ?_
  obtain ⟨S, ρ, fp, s, h⟩ := h
  refine ⟨S, ρ, fp, s, OutE.thenA h fun d1 ρ1 v1 H1 S1 fp1 e1 s1 r1 f1 h1 => ?_⟩
  refine ⟨S1, ρ1, fp1, s1, OutA.thenA h1 fun ds ρ2 vs H2 S2 fp2 e2 s2 r2 f2 h2 => ?_⟩
  refine h2 (v1 :: vs) H2 S2 fp2 s2 ?_ Fra.refl
  simp only [Reps]
  exact ⟨v1, vs, rfl, s1.rep_fra r1 f2, r2⟩
def mLen (n : Nat) (f : Env → R (List D × Env)) : Env → R (List D × Env) := fun ρ => (f ρ).bind fun (xs, ρ1) => if xs.length = n then .ok (xs, ρ1) else .bad
/-- f(k = v, ..), no positional values; n: how many keywords -/
def mCallK (m : List D → R D) (n : Nat) (ix : List Nat) (fs : Env → R (List D × Env)) : Env → R (D × Env) := fun ρ => (fs ρ).bind fun (xs, ρ1) => if xs.length = n then (m (permL ix xs)).bind fun d => .ok (d, ρ1) else .bad
theorem de_callK {ix : List Nat} (hW : C.W = fun cls d _ H => E cls d H) (F : FnOk X.prog X.w X.K X.mg X.base (L2.CX X.prog X.w) lv f fd ps (spF X.K C.T kr m)) (hr : Room lv X.A) (tk : Takes X C.W) (hg : Gl X x) (hm : X.mg x = some (.ref f)) (hk : PySem.W.keepIn X.K (.ref f) = true)
    (hb : KBn X.K fd ps 0 ks (fun us ws => us ++ permL ix ws) (fun us ws => us ++ permL ix ws)) (hkw : DK X C Γ kws Γ1 fk) (hall : (backToKw pos (keywordEach kws X.env)).all (·.1.isSome) = true := by rfl) (hks : (backToKw pos (keywordEach kws X.env)).filterMap (·.1) = ks := by rfl)
    (hdb : (x == ("__debug__" : Str)) = false := by decide) (hpl : ((backTo pos (starEach [] X.env)).any (·.1) || (backToKw pos (keywordEach kws X.env)).any (·.1.isNone)) = false := by rfl) :
    DE X C Γ (.Call (.Name x p) [] kws pos) Γ1 kr (mCallK m ks.length ix fk) := by
  refine ⟨fun pins s σ H Q I h => ?_⟩
  refine wpAny_Call_Name_kw (ld_glob I hg hm ?_ hdb)
  have go : tA X.K C.T C.W Γ Γ1 fk σ H (fun zs H1 => zs.length = ks.length ∧ spF X.K C.T kr m ([] ++ permL ix zs) H1 Q E) := by
    obtain ⟨S, ρ, fp, st, h⟩ := h
    refine ⟨S, ρ, fp, st, OutA.thenE h fun xs ρ1 vs H1 S1 fp1 e1 s1 r1 f1 h1 => ?_⟩
    dsimp only at h1
    by_cases hl : xs.length = ks.length
    · rw [if_pos hl] at h1
      refine ⟨by rw [← r1.length]; exact hl, ?_⟩
      have z := call_data (m := m) (C := C) s1 (reps_perm r1 (ix := ix)) h1
      rw [hW] at z
      exact z
    · rw [if_neg hl] at h1; exact h1.elim
  refine PySem.W.callWith_KW0 (h₀ := X.base) I.ok.mod.kin hk hall ?_ hpl
  refine thn (hkw.run pos pins s σ H _ I go) fun ws s2 ⟨zs, H2, I2, rz, l2, q2⟩ => ⟨I2.kIn, ?_⟩
  rw [hks]
  exact run_fnN (us := []) (vs := []) F hr hb (passes_call tk fun cls d σ H z => by rw [hW]; exact z) I2 .nil rz rfl l2 q2
/-- C(k = v, ..) -/
def mMakeK (c : Nat) (m : List D → R (D × D)) (n : Nat) (ix : List Nat) (fs : Env → R (List D × Env)) : Env → R (D × Env) := mMake c m (fun ρ => (fs ρ).bind fun (xs, ρ1) => if xs.length = n then .ok (permL ix xs, ρ1) else .bad)
theorem de_makeK {c : Nat} {ix : List Nat} (hW : C.W = fun cls d _ H => E cls d H) (M : Mk X.K (C.T.cm c) f) (F : FnOk X.prog X.w X.K X.mg X.base (L2.CX X.prog X.w) lv f fd ps (spB X.K C.T 1 0 mB)) (hr : Room (lv + 1) X.A) (tk : Takes X C.W) (hg : Gl X x) (hm : X.mg x = some (.ref (C.T.cm c)))
    (hb : KBn X.K fd ps 1 ks (fun us ws => us ++ permL ix ws) (fun us ws => us ++ permL ix ws)) (hkw : DK X C Γ kws Γ1 fk) (hall : (backToKw pos (keywordEach kws X.env)).all (·.1.isSome) = true := by rfl) (hks : (backToKw pos (keywordEach kws X.env)).filterMap (·.1) = ks := by rfl)
    (hdb : (x == ("__debug__" : Str)) = false := by decide) (hpl : ((backTo pos (starEach [] X.env)).any (·.1) || (backToKw pos (keywordEach kws X.env)).any (·.1.isNone)) = false := by rfl) :
    DE X C Γ (.Call (.Name x p) [] kws pos) Γ1 1 (mMakeK c mB ks.length ix fk) := by
  refine pe_imp (pe_makeK0 (E := E) M F hr hg hm hb (passes_call tk fun cls d σ H z => by rw [hW]; exact z) hkw hall hks hdb hpl) fun σ H Q h => ?_
  obtain ⟨S, ρ, fp, s, h⟩ := h
  refine ⟨S, ρ, fp, s, ?_⟩
  unfold mMakeK mMake at h
  rw [bind_asc] at h
  refine OutA.thenE h fun xs ρ1 vs H1 S1 fp1 e1 s1 r1 f1 h1 => ?_
  dsimp only at h1
  by_cases hl : xs.length = ks.length
  · rw [if_pos hl] at h1
    refine ⟨rfl, by rw [← r1.length]; exact hl, ?_⟩
    intro p dx hp hdx hne
    exact make_data (fun cls d H' z => by rw [hW] at z; exact z) s1 (reps_perm r1 (ix := ix)) h1 p dx hp hdx hne
  · rw [if_neg hl] at h1; exact h1.elim
end
end Z
set_option Elab.async false
set_option linter.all false
set_option maxRecDepth 100000
/-! Z8: operations on plain data -/
namespace Z
open PySem PySem.Spec L2
open PyProof.Rows hiding St

/-! ### what may be read: shared data, or a list that a name owns -/
/-- the items of a list (true) or a tuple (false) -/
def seqD : D → Option (Bool × List D)
  | .lst xs => some (true, xs)
  | .kls xs => some (true, xs)
  | .tup xs => some (false, xs)
  | _ => none
structure Pe (K : PySem.W.Frag) (T : Tab) (H : Hp) (S : Addr → Prop) (d : D) (v : V) : Prop where
  sq : ∀ b xs, seqD d = some (b, xs) → ∃ a vs, v = .ref a ∧ (b = true → SqL K H a vs) ∧ (b = false → SqT K H a vs) ∧ Reps K T H S xs vs
  st : ∀ x, d = .str x → v = .str x
  lh : ∀ xs, d = .lst xs → ∃ a vs, v = .ref a ∧ H a = some (.lst vs) ∧ Reps K T H S xs vs
section
variable {K : PySem.W.Frag} {T : Tab} {H : Hp} {S : Addr → Prop} {d : D} {v : V} {xs : List D} {k : Nat} {F : List Addr}
theorem Pe.of (h : Rep K T H S d v) : Pe K T H S d v := by
  refine ⟨fun b xs e => ?_, fun x e => ?_, fun xs e => ?_⟩
  · cases d with
    | lst ys =>
      cases e
      simp only [Rep] at h
      obtain ⟨a, vs, e, h1, _, r⟩ := h
      exact ⟨a, vs, e, fun _ => .inl (.inl h1), fun z => (nomatch z), r⟩
    | kls ys =>
      cases e
      simp only [Rep] at h
      obtain ⟨a, vs, e, h1, r⟩ := h
      exact ⟨a, vs, e, fun _ => h1.sql, fun z => (nomatch z), r⟩
    | tup ys =>
      cases e
      simp only [Rep] at h
      obtain ⟨a, vs, e, h1, r⟩ := h
      exact ⟨a, vs, e, fun z => (nomatch z), fun _ => h1, r⟩
    | _ => cases e
  · subst e; exact rep_str h
  · subst e
    simp only [Rep] at h
    obtain ⟨a, vs, e, h1, _, r⟩ := h
    exact ⟨a, vs, e, h1, r⟩
theorem Pe.own (h : Own K T H S k d v F) (hk : k ≤ 1) : Pe K T H S d v := by
  match k, hk with
  | 0, _ => exact .of (own_zero.mp h).2
  | 1, _ =>
    cases d with
    | lst ys =>
      obtain ⟨a, vs, e, h1, r⟩ := peek_lst h (Nat.le_refl _)
      refine ⟨fun b xs e2 => ?_, fun x e => (nomatch e), fun xs e2 => ?_⟩
      · cases e2; exact ⟨a, vs, e, fun _ => .inl (.inl h1), fun z => (nomatch z), r⟩
      · cases e2; exact ⟨a, vs, e, h1, r⟩
    | ins c fs => exact ⟨fun b xs e => (nomatch e), fun x e => (nomatch e), fun x e => (nomatch e)⟩
    | _ => simp only [Own] at h; exact .of h.2
theorem at_len {α β : Type} {xs : List α} {ys : List β} {i : Int} {a : α} (hl : xs.length = ys.length) (h : atI xs i = some a) : ∃ j, ixN ys.length i = some j ∧ xs[j]? = some a := by
  unfold atI at h
  rw [hl] at h
  cases q : ixN ys.length i with
  | none => rw [q] at h; cases h
  | some j => rw [q] at h; exact ⟨j, rfl, h⟩
end
def Prim2P (K : PySem.W.Frag) (T : Tab) (k : Nat) (r : R2) (g : D → D → Option D) : Prop :=
  ∀ S H x y v w d, Pe K T H S x v → Rep K T H S y w → g x y = some d → Gives K T S H k d (r v w H)
def Prim1P (K : PySem.W.Frag) (T : Tab) (k : Nat) (r : V → Hp → VK → Prop) (g : D → Option D) : Prop :=
  ∀ S H x v d, Pe K T H S x v → g x = some d → Gives K T S H k d (r v H)
theorem Prim2P.to {K : PySem.W.Frag} {T : Tab} {k : Nat} {r : R2} {g : D → D → Option D} (h : Prim2P K T k r g) : Prim2 K T k r g := fun S H x y v w d r1 r2 e => h S H x y v w d (.of r1) r2 e
theorem Prim1P.to {K : PySem.W.Frag} {T : Tab} {k : Nat} {r : V → Hp → VK → Prop} {g : D → Option D} (h : Prim1P K T k r g) : Prim1 K T k r g := fun S H x v d r1 e => h S H x v d (.of r1) e
/-- one argument, by the list of arguments -/
def rOne (r : List V → Hp → VK → Prop) : V → Hp → VK → Prop := fun v H Q => r [v] H Q
def gOne (g : D → Option D) : List D → Option D
  | [x] => g x
  | _ => none
def gTwo (g : D → D → Option D) : List D → Option D
  | [x, y] => g x y
  | _ => none
theorem gOne_some {g : D → Option D} {ds : List D} {d : D} (h : gOne g ds = some d) : ∃ x, ds = [x] ∧ g x = some d := by
  cases ds with
  | nil => cases h
  | cons x r =>
    cases r with
    | nil => exact ⟨x, rfl, h⟩
    | cons y r => cases h
theorem gTwo_some {g : D → D → Option D} {ds : List D} {d : D} (h : gTwo g ds = some d) : ∃ x y, ds = [x, y] ∧ g x y = some d := by
  cases ds with
  | nil => cases h
  | cons x r =>
    cases r with
    | nil => cases h
    | cons y r =>
      cases r with
      | nil => exact ⟨x, y, rfl, h⟩
      | cons z r => cases h
theorem Prim1.args {K : PySem.W.Frag} {T : Tab} {k : Nat} {r : List V → Hp → VK → Prop} {g : D → Option D} (h : Prim1 K T k (rOne r) g) : PrimR K T k r (gOne g) := fun S H ds vs d r1 e => by
  obtain ⟨x, rfl, e⟩ := gOne_some e
  simp only [Reps] at r1
  obtain ⟨v, ws, rfl, r1, rfl⟩ := r1
  exact h S H x v d r1 e
theorem Prim2.args {K : PySem.W.Frag} {T : Tab} {k : Nat} {r : List V → Hp → VK → Prop} {g : D → D → Option D} (h : Prim2 K T k (fun v w H Q => r [v, w] H Q) g) : PrimR K T k r (gTwo g) := fun S H ds vs d r1 e => by
  obtain ⟨x, y, rfl, e⟩ := gTwo_some e
  simp only [Reps] at r1
  obtain ⟨v, ws, rfl, r1, w, us, rfl, r2, rfl⟩ := r1
  exact h S H x y v w d r1 r2 e

/-! ### whole numbers -/
def gII (c : Int → Int → Bool) (f : Int → Int → Int) : D → D → Option D
  | .int i, .int j => if c i j = true then some (.int (f i j)) else none
  | _, _ => none
def gI0 (f : Int → Int → Int) : D → D → Option D
  | .int i, .int j => some (.int (f i j))
  | _, _ => none
def gIB (f : Int → Int → Bool) : D → D → Option D
  | .int i, .int j => some (.bl (f i j))
  | _, _ => none
def gU (f : Int → Int) : D → Option D
  | .int i => some (.int (f i))
  | _ => none
theorem gII_some {c : Int → Int → Bool} {f : Int → Int → Int} {x y d : D} (h : gII c f x y = some d) : ∃ i j, x = .int i ∧ y = .int j ∧ c i j = true ∧ d = .int (f i j) := by
  cases x with
  | int i =>
    cases y with
    | int j =>
      simp only [gII] at h
      split at h
      · rename_i q; cases h; exact ⟨i, j, rfl, rfl, q, rfl⟩
      · cases h
    | _ => cases h
  | _ => cases h
theorem gI0_some {f : Int → Int → Int} {x y d : D} (h : gI0 f x y = some d) : ∃ i j, x = .int i ∧ y = .int j ∧ d = .int (f i j) := by
  cases x with
  | int i =>
    cases y with
    | int j => cases h; exact ⟨i, j, rfl, rfl, rfl⟩
    | _ => cases h
  | _ => cases h
theorem gIB_some {f : Int → Int → Bool} {x y d : D} (h : gIB f x y = some d) : ∃ i j, x = .int i ∧ y = .int j ∧ d = .bl (f i j) := by
  cases x with
  | int i =>
    cases y with
    | int j => cases h; exact ⟨i, j, rfl, rfl, rfl⟩
    | _ => cases h
  | _ => cases h
theorem gU_some {f : Int → Int} {x d : D} (h : gU f x = some d) : ∃ i, x = .int i ∧ d = .int (f i) := by
  cases x with
  | int i => cases h; exact ⟨i, rfl, rfl⟩
  | _ => cases h
section
variable {K : PySem.W.Frag} {T : Tab} {X : Cx}
theorem gives_val {S : Addr → Prop} {H : Hp} {d : D} {v : V} {rd : VK → Prop} (r : Rep K T H S d v) (h : ∀ Q, Q v H → rd Q) : Gives K T S H 0 d rd := .inl ⟨v, r, rfl, h⟩
theorem p_i0 {f : Int → Int → Int} : Prim2 K T 0 (rI0 fun i j => .int (f i j)) (gI0 f) := fun S H x y v w d r1 r2 e => by
  obtain ⟨i, j, rfl, rfl, rfl⟩ := gI0_some e
  exact gives_val (by simp [Rep]) fun Q q => ⟨i, j, rep_int r1, rep_int r2, q⟩
theorem p_ib {f : Int → Int → Bool} : Prim2 K T 0 (rI0 fun i j => .bl (f i j)) (gIB f) := fun S H x y v w d r1 r2 e => by
  obtain ⟨i, j, rfl, rfl, rfl⟩ := gIB_some e
  exact gives_val (by simp [Rep]) fun Q q => ⟨i, j, rep_int r1, rep_int r2, q⟩
theorem p_ii {C : Int → Int → Prop} {c : Int → Int → Bool} {f : Int → Int → Int} (hc : ∀ i j, c i j = true → C i j) : Prim2 K T 0 (rI C fun i j => .int (f i j)) (gII c f) := fun S H x y v w d r1 r2 e => by
  obtain ⟨i, j, rfl, rfl, q, rfl⟩ := gII_some e
  exact gives_val (by simp [Rep]) fun Q q' => ⟨i, j, rep_int r1, rep_int r2, hc i j q, q'⟩
theorem p_u {f : Int → Int} : Prim1 K T 0 (rU fun i => .int (f i)) (gU f) := fun S H x v d r1 e => by
  obtain ⟨i, rfl, rfl⟩ := gU_some e
  exact gives_val (by simp [Rep]) fun Q q => ⟨i, rep_int r1, q⟩
theorem OpR.or2 {f : Value → Value → Sem Value} {r r' : R2} (a : OpR X f r) (b : OpR X f r') : OpR X f (fun x y H Q => r x y H Q ∨ r' x y H Q) := fun pins s σ H x y v u Q I rx ry h => h.elim (a pins s σ H x y v u Q I rx ry) (b pins s σ H x y v u Q I rx ry)
theorem Gives.imp {S : Addr → Prop} {H : Hp} {k : Nat} {d : D} {rd rd' : VK → Prop} (h : Gives K T S H k d rd) (i : ∀ Q, rd Q → rd' Q) : Gives K T S H k d rd' := by
  rcases h with ⟨v, a, b, q⟩ | ⟨xs, vs, a, b, c, q⟩ | ⟨xs, vs, a, b, c, q⟩
  · exact .inl ⟨v, a, b, fun Q z => i Q (q Q z)⟩
  · exact .inr (.inl ⟨xs, vs, a, b, c, fun Q z => i Q (q Q z)⟩)
  · exact .inr (.inr ⟨xs, vs, a, b, c, fun Q z => i Q (q Q z)⟩)
/-! * -/
def small64 (i : Int) : Bool := decide (i.natAbs < 18446744073709551616)
def small5k (i : Int) : Bool := decide (i.natAbs.log2 < 9000)
theorem small64_of {i : Int} (h : small64 i = true) : -(2 ^ 64) < i ∧ i < 2 ^ 64 := by
  have z : i.natAbs < 18446744073709551616 := of_decide_eq_true h
  have e : (2 : Int) ^ 64 = 18446744073709551616 := by decide
  omega
def cMul (i j : Int) : Bool := small64 i || small64 j || (small5k i && small5k j)
def rMul : R2 := fun x y H Q => rI CMul (fun i j => .int (i * j)) x y H Q ∨ rI CMulW (fun i j => .int (i * j)) x y H Q
theorem o_mul : OpR X (binaryOp .Mult) rMul := OpR.or2 op_mul op_mulW
theorem p_mul : Prim2 K T 0 rMul (gII cMul (· * ·)) := fun S H x y v w d r1 r2 e => by
  obtain ⟨i, j, rfl, rfl, q, rfl⟩ := gII_some e
  refine gives_val (v := .int (i * j)) (by simp [Rep]) fun Q q' => ?_
  unfold cMul at q
  rw [Bool.or_eq_true, Bool.or_eq_true, Bool.and_eq_true] at q
  rcases q with (q | q) | ⟨q1, q2⟩
  · exact .inl ⟨i, j, rep_int r1, rep_int r2, .inl (small64_of q), q'⟩
  · exact .inl ⟨i, j, rep_int r1, rep_int r2, .inr (small64_of q), q'⟩
  · have z1 : i.natAbs.log2 < 9000 := of_decide_eq_true q1
    have z2 : j.natAbs.log2 < 9000 := of_decide_eq_true q2
    exact .inr ⟨i, j, rep_int r1, rep_int r2, by unfold CMulW; omega, q'⟩
/-! // -/
def cDiv (_ j : Int) : Bool := decide (j ≠ 0) && (decide (j.natAbs < 1073741824) || (decide (0 < j) && small5k j))
def rDiv : R2 := fun x y H Q => rI CDivN (fun i j => .int (i.fdiv j)) x y H Q ∨ rI CDivW (fun i j => .int (i / j)) x y H Q
theorem o_div : OpR X (binaryOp .FloorDiv) rDiv := OpR.or2 op_fdivN op_fdivW
theorem p_div : Prim2 K T 0 rDiv (gII cDiv Int.fdiv) := fun S H x y v w d r1 r2 e => by
  obtain ⟨i, j, rfl, rfl, q, rfl⟩ := gII_some e
  refine gives_val (v := .int (i.fdiv j)) (by simp [Rep]) fun Q q' => ?_
  unfold cDiv at q
  rw [Bool.and_eq_true, Bool.or_eq_true, Bool.and_eq_true] at q
  obtain ⟨n, q | ⟨q1, q2⟩⟩ := q
  · exact .inl ⟨i, j, rep_int r1, rep_int r2, ⟨of_decide_eq_true n, of_decide_eq_true q⟩, q'⟩
  · have z1 : 0 < j := of_decide_eq_true q1
    have z2 : j.natAbs.log2 < 9000 := of_decide_eq_true q2
    exact .inr ⟨i, j, rep_int r1, rep_int r2, ⟨z1, z2⟩, by show Q (.int (i / j)) H; rw [← Int.fdiv_eq_ediv_of_nonneg i (by omega)]; exact q'⟩
def cNz (_ j : Int) : Bool := decide (j ≠ 0)
theorem p_mod : Prim2 K T 0 (rI (fun _ j => j ≠ 0) fun i j => .int (i.fmod j)) (gII cNz Int.fmod) := p_ii fun i j h => of_decide_eq_true h
def cPow (i j : Int) : Bool := decide (0 ≤ j) && decide (j ≤ 10000) && small64 i
theorem p_pow : Prim2 K T 0 (rI CPow fun i j => .int (i ^ j.toNat)) (gII cPow fun i j => i ^ j.toNat) := p_ii fun i j h => by
  unfold cPow at h
  rw [Bool.and_eq_true, Bool.and_eq_true] at h
  have h1 : 0 ≤ j := of_decide_eq_true h.1.1
  have h2 : j ≤ 10000 := of_decide_eq_true h.1.2
  have h3 : i.natAbs < 18446744073709551616 := of_decide_eq_true h.2
  exact ⟨h1, by omega, by have e : (2 : Nat) ^ 64 = 18446744073709551616 := by decide
                          omega⟩
/-! functions of whole numbers -/
def gIntO : D → Option D
  | .int i => some (.int i)
  | .bl b => some (.int (if b = true then 1 else 0))
  | _ => none
theorem p_int : PrimR K T 0 (fun xs H Q => (∃ i, xs = [.int i] ∧ Q (.int i) H) ∨ ∃ k, xs = [.bl k] ∧ Q (.int (if k then 1 else 0)) H) (gOne gIntO) := Prim1.args fun S H x v d r e => by
  cases x with
  | int i => cases e; exact gives_val (by simp [Rep]) fun Q q => .inl ⟨i, by rw [rep_int r], q⟩
  | bl b => cases e; exact gives_val (by simp [Rep]) fun Q q => .inr ⟨b, by rw [rep_bl r], q⟩
  | _ => cases e
theorem p_abs : PrimR K T 0 (fun xs H Q => ∃ i, xs = [.int i] ∧ Q (.int (if i < 0 then -i else i)) H) (gOne (gU fun i => if i < 0 then -i else i)) := Prim1.args fun S H x v d r e => by
  obtain ⟨i, rfl, rfl⟩ := gU_some e
  exact gives_val (by simp [Rep]) fun Q q => ⟨i, by rw [rep_int r], q⟩
theorem p_two {f : Int → Int → Int} : PrimR K T 0 (fun xs H Q => ∃ i j, xs = [.int i, .int j] ∧ Q (.int (f i j)) H) (gTwo (gI0 f)) := Prim2.args fun S H x y v w d r1 r2 e => by
  obtain ⟨i, j, rfl, rfl, rfl⟩ := gI0_some e
  exact gives_val (by simp [Rep]) fun Q q => ⟨i, j, by rw [rep_int r1, rep_int r2], q⟩
/-- the kernel does not look into these -/
noncomputable def gcdI (a b : Int) : Int := Classical.choose (⟨_, rfl⟩ : ∃ j : Int, j = ((Nat.gcd a.natAbs b.natAbs : Nat) : Int))
theorem gcdI_def (a b : Int) : gcdI a b = ((Nat.gcd a.natAbs b.natAbs : Nat) : Int) := Classical.choose_spec (⟨_, rfl⟩ : ∃ j : Int, j = ((Nat.gcd a.natAbs b.natAbs : Nat) : Int))
theorem p_gcd : PrimR K T 0 rGcd (gTwo (gI0 gcdI)) := by
  have e : gcdI = fun a b => ((Nat.gcd a.natAbs b.natAbs : Nat) : Int) := funext fun a => funext fun b => gcdI_def a b
  rw [e]
  exact p_two (f := fun a b => ((Nat.gcd a.natAbs b.natAbs : Nat) : Int))
def cLcm (a b : Int) : Bool := small64 a && small64 b
noncomputable def lcmI (a b : Int) : Int := Classical.choose (⟨_, rfl⟩ : ∃ j : Int, j = ((Nat.lcm a.natAbs b.natAbs : Nat) : Int))
theorem lcmI_def (a b : Int) : lcmI a b = ((Nat.lcm a.natAbs b.natAbs : Nat) : Int) := Classical.choose_spec (⟨_, rfl⟩ : ∃ j : Int, j = ((Nat.lcm a.natAbs b.natAbs : Nat) : Int))
def rLcm : List V → Hp → VK → Prop := fun xs H Q => ∃ i j, xs = [.int i, .int j] ∧ cLcm i j = true ∧ Q (.int (lcmI i j)) H
theorem cr_lcm : CallR X (.builtin "math.lcm") rLcm := by
  intro pins s σ H vs us Q I r h
  obtain ⟨a, b, rfl, hc, q⟩ := h
  obtain ⟨t, u, rfl⟩ := Vals.int2 r
  unfold cLcm at hc
  rw [Bool.and_eq_true] at hc
  have h1 : a.natAbs < 18446744073709551616 := of_decide_eq_true hc.1
  have h2 : b.natAbs < 18446744073709551616 := of_decide_eq_true hc.2
  have e64 : (2 : Nat) ^ 64 = 18446744073709551616 := by decide
  have el : ((Nat.lcm 1 a.natAbs).lcm b.natAbs : Nat) = Nat.lcm a.natAbs b.natAbs := by rw [Nat.lcm_one_left]
  refine PySem.W.mg_lcm_v (c := lcmI a b) (by omega) (by omega) (by rw [el, lcmI_def]) ?_ ⟨.int _, H, I.tok _, ⟨_, rfl⟩, q⟩
  have eb : bitsLine = 134217728 := by decide
  rw [eb]
  have hle : (lcmI a b).natAbs < 2 ^ 128 := by
    rw [lcmI_def, Int.natAbs_natCast]
    by_cases z : a.natAbs = 0
    · rw [z, Nat.lcm_zero_left]; decide
    · have : Nat.lcm a.natAbs b.natAbs ≤ a.natAbs * b.natAbs := by
        unfold Nat.lcm; exact Nat.div_le_self _ _
      have : a.natAbs * b.natAbs < 18446744073709551616 * 18446744073709551616 := Nat.mul_lt_mul'' h1 h2
      have e : (2 : Nat) ^ 128 = 18446744073709551616 * 18446744073709551616 := by decide
      omega
  have := PySem.Flt.log2_lt_of (n := (lcmI a b).natAbs) (k := 128) (by decide) hle
  omega
theorem p_lcm : PrimR K T 0 rLcm (gTwo (gII cLcm lcmI)) := Prim2.args fun S H x y v w d r1 r2 e => by
  obtain ⟨i, j, rfl, rfl, q, rfl⟩ := gII_some e
  exact gives_val (by simp [Rep]) fun Q q' => ⟨i, j, by rw [rep_int r1, rep_int r2], q, q'⟩
end
/-- x.bit_length() -/
noncomputable def bitLen (i : Int) : Int := Classical.choose (⟨_, rfl⟩ : ∃ j : Int, j = ((Builtin.Int.intBits i : Nat) : Int))
theorem bitLen_def (i : Int) : bitLen i = ((Builtin.Int.intBits i : Nat) : Int) := Classical.choose_spec (⟨_, rfl⟩ : ∃ j : Int, j = ((Builtin.Int.intBits i : Nat) : Int))
section
variable {X : Cx} {C : Cz} {Γ Γ' Γ1 Γ2 : List Nat} {k i : Nat} {x : Str} {pos p apos : Pos} {a b e o : Expr} {es : List Expr} {fa fb : Env → R (D × Env)} {fs : Env → R (List D × Env)}
theorem de_bits (ha : DE X C Γ o Γ1 0 fa) (hbase : attributeBase o "bit_length" X.env (eval o X.env) = eval o X.env := by rfl) (hline : (apos.endLine == pos.line) = true := by rfl) : DE X C Γ (.Call (.Attribute o "bit_length" apos) [] [] pos) Γ1 0 (mUn (gU bitLen) fa) :=
  pe_imp (pe_bits ha hbase hline) fun σ H Q h => un_data (r := fun x H1 Q => ∃ i, x = .int i ∧ Q (.int (Builtin.Int.intBits i : Nat)) H1) (fun S H x v d r e => by
    obtain ⟨i, rfl, rfl⟩ := gU_some e
    rw [bitLen_def]
    exact gives_val (by simp [Rep]) fun Q q => ⟨i, rep_int r, q⟩) h

/-! ### names that own a list: what is read of it -/
def mUnN (i : Nat) (g : D → Option D) : Env → R (D × Env) := fun ρ => match ρ[i]? with
  | some (some d) => (ofO (g d)).bind fun e => .ok (e, ρ)
  | _ => .bad
def mBinN (i : Nat) (g : D → D → Option D) (fb : Env → R (D × Env)) : Env → R (D × Env) := fun ρ => match ρ[i]? with
  | some (some _) => (fb ρ).bind fun (y, ρ1) => (match ρ1[i]? with
    | some (some d) => (ofO (g d y)).bind fun e => .ok (e, ρ1)
    | _ => .bad)
  | _ => .bad
theorem unN_data {r : V → Hp → VK → Prop} {g : D → Option D} {σ : St} {H : Hp} {Q : VK} (hk : Γ.getD i 0 ≤ 1) (hr : Prim1P X.K C.T k r g) (h : tE X.K C.T C.W Γ Γ k (mUnN i g) σ H Q) : tVar i σ H (fun v H1 => r v H1 Q) := by
  obtain ⟨S, ρ, fp, s, h⟩ := h
  unfold mUnN at h
  split at h
  · rename_i d q
    obtain ⟨v, hv, o⟩ := s.sl i d q
    refine ⟨v, hv, ?_⟩
    cases q2 : g d with
    | none => rw [q2] at h; exact h.elim
    | some e =>
      rw [q2] at h
      exact gives_out s (hr S H d v e (.own o hk) q2) h
  · exact h.elim
theorem binN_data {r : R2} {g : D → D → Option D} {σ : St} {H : Hp} {Q : VK} (hk : Γ1.getD i 0 ≤ 1) (hr : Prim2P X.K C.T k r g) (h : tE X.K C.T C.W Γ Γ1 k (mBinN i g fb) σ H Q) :
    tVar i σ H (fun v H1 => tE X.K C.T C.W Γ Γ1 0 fb σ H1 (fun y H2 => r v y H2 Q)) := by
  obtain ⟨S, ρ, fp, s, h⟩ := h
  unfold mBinN at h
  split at h
  · rename_i d0 q0
    obtain ⟨v, hv, _⟩ := s.sl i d0 q0
    refine ⟨v, hv, S, ρ, fp, s, OutE.then0 h fun y ρ1 w H1 S1 fp1 e1 s1 r1 f1 h1 => ?_⟩
    dsimp only at h1
    split at h1
    · rename_i d q
      obtain ⟨v', hv', o⟩ := s1.sl i d q
      rw [hv] at hv'; cases hv'
      cases q2 : g d y with
      | none => rw [q2] at h1; exact h1.elim
      | some e =>
        rw [q2] at h1
        exact gives_out s1 (hr S1 H1 d y v w e (.own o hk) r1 q2) h1
    · exact h1.elim
  · exact h.elim
theorem de_ixN {r : R2} {g : D → D → Option D} (ho : IxR X r) (hr : Prim2P X.K C.T k r g) (hv : PE X (.Name x p) (tVar i)) (hb : DE X C Γ b Γ1 0 fb) (hk : Γ1.getD i 0 ≤ 1 := by decide) (hs : PlainIx b := by exact fun _ _ => rfl) : DE X C Γ (.Subscript (.Name x p) b pos) Γ1 k (mBinN i g fb) :=
  pe_imp (pe_ix ho hv hb hs) fun σ H Q h => binN_data hk hr h
theorem de_opN {op : Operator} {r : R2} {g : D → D → Option D} (ho : OpR X (binaryOp op) r) (hr : Prim2P X.K C.T k r g) (hv : PE X (.Name x p) (tVar i)) (hb : DE X C Γ b Γ1 0 fb) (hk : Γ1.getD i 0 ≤ 1 := by decide) : DE X C Γ (.BinOp (.Name x p) op b pos) Γ1 k (mBinN i g fb) :=
  pe_imp (pe_op ho hv hb) fun σ H Q h => binN_data hk hr h
/-- f(x), f a built-in function, x a name -/
theorem de_callBN {id : String} {y : Str} {p2 : Pos} {r : List V → Hp → VK → Prop} {g : D → Option D} (hc : CallR X (.builtin id) r) (hr : Prim1P X.K C.T k (rOne r) g) (hg : Gl X y) (hm : X.mg y = none) (hv : bootBuiltins y = some (.builtin id)) (ha : PE X (.Name x p) (tVar i)) (hk : Γ.getD i 0 ≤ 1 := by decide) (hn : y ≠ "__name__" := by decide) (hdb : (y == ("__debug__" : Str)) = false := by decide)
    (he : starEach [.Name x p] X.env = (false, eval (.Name x p) X.env) :: starEach [] X.env := by rfl) (hpl : (backTo pos (starEach [] X.env)).any (·.1) = false := by rfl) : DE X C Γ (.Call (.Name y p2) [.Name x p] [] pos) Γ k (mUnN i g) :=
  pe_imp (pe_callB hc hg hm hv (pa_cons ha pa_nil he) hn hdb he hpl) fun σ H Q h => unN_data hk hr h
theorem de_callTyN {id : String} {y : Str} {p2 : Pos} {r : List V → Hp → VK → Prop} {g : D → Option D} (hc : CallR X (.type id) r) (hr : Prim1P X.K C.T k (rOne r) g) (hg : Gl X y) (hm : X.mg y = none) (hv : bootBuiltins y = some (.type id)) (ha : PE X (.Name x p) (tVar i)) (hk : Γ.getD i 0 ≤ 1 := by decide) (hn : y ≠ "__name__" := by decide) (hdb : (y == ("__debug__" : Str)) = false := by decide)
    (he : starEach [.Name x p] X.env = (false, eval (.Name x p) X.env) :: starEach [] X.env := by rfl) (hpl : (backTo pos (starEach [] X.env)).any (·.1) = false := by rfl) : DE X C Γ (.Call (.Name y p2) [.Name x p] [] pos) Γ k (mUnN i g) :=
  pe_imp (pe_callTy hc hg hm hv (pa_cons ha pa_nil he) hn hdb he hpl) fun σ H Q h => unN_data hk hr h
end

/-! ### subscripts, len, list(), tuple(), + -/
def gIx : D → D → Option D
  | .str z, .int i => if z.length ≤ 1000 then (atI z.cps.toList i).map fun c => .str ⟨#[c]⟩ else none
  | x, .int i => (seqD x).bind fun p => atI p.2 i
  | _, _ => none
def gLen : D → Option D
  | .str z => if z.length ≤ 1000 then some (.int z.length) else none
  | x => (seqD x).map fun p => .int p.2.length
def gListOf (x : D) : Option D := (seqD x).map fun p => .lst p.2
def gTupOf (x : D) : Option D := (seqD x).map fun p => .tup p.2
section
variable {K : PySem.W.Frag} {T : Tab} {X : Cx}
theorem p_ix : Prim2P K T 0 (rIx K) gIx := fun S H x y v w d r1 r2 e => by
  have seq : ∀ b xs i, y = .int i → seqD x = some (b, xs) → atI xs i = some d → Gives K T S H 0 d (rIx K v w H) := by
    intro b xs i ey e1 e2
    subst ey
    obtain ⟨a, vs, ev, hl, ht, r⟩ := r1.sq b xs e1
    obtain ⟨j, q1, q2⟩ := at_len r.length e2
    obtain ⟨u, hu, ru⟩ := r.get q2
    have hat : atI vs i = some u := by unfold atI; rw [q1]; exact hu
    refine gives_val ru fun Q q => ?_
    cases b with
    | true => exact .inl ⟨a, vs, i, u, ev, rep_int r2, hl rfl, hat, q⟩
    | false => exact .inr (.inl ⟨a, vs, i, u, ev, rep_int r2, ht rfl, hat, q⟩)
  cases y with
  | int i =>
    cases x with
    | str z =>
      simp only [gIx] at e
      split at e
      · rename_i hl
        cases q : atI z.cps.toList i with
        | none => rw [q] at e; cases e
        | some c =>
          rw [q] at e
          cases e
          exact gives_val (by simp [Rep]) fun Q q' => .inr (.inr ⟨z, i, c, r1.st z rfl, rep_int r2, line_of hl, q, q'⟩)
      · cases e
    | lst xs => exact seq true xs i rfl rfl (by simpa [gIx, seqD] using e)
    | kls xs => exact seq true xs i rfl rfl (by simpa [gIx, seqD] using e)
    | tup xs => exact seq false xs i rfl rfl (by simpa [gIx, seqD] using e)
    | _ => simp [gIx, seqD] at e
  | _ => cases x <;> simp [gIx] at e
def rLen (K : PySem.W.Frag) : List V → Hp → VK → Prop := fun xs H Q => ∃ x n, xs = [x] ∧ LenV K x H n ∧ Q (.int n) H
theorem p_len : Prim1P K T 0 (rOne (rLen K)) gLen := fun S H x v d r1 e => by
  have seq : ∀ b xs, seqD x = some (b, xs) → Gives K T S H 0 (.int xs.length) (rOne (rLen K) v H) := fun b xs e1 => by
    obtain ⟨a, vs, ev, hl, ht, r⟩ := r1.sq b xs e1
    subst ev
    refine gives_val (v := .int (xs.length : Int)) (by simp [Rep]) fun Q q => ⟨.ref a, xs.length, rfl, ?_, q⟩
    cases b with
    | true => exact .inl ⟨vs, hl rfl, r.length⟩
    | false => exact .inr ⟨vs, ht rfl, r.length⟩
  cases x with
  | str z =>
    simp only [gLen] at e
    split at e
    · rename_i hl
      cases e
      exact gives_val (v := .int (z.length : Int)) (by simp [Rep]) fun Q q => ⟨.str z, z.length, by rw [r1.st z rfl], ⟨line_of hl, rfl⟩, q⟩
    · cases e
  | lst xs => cases e; exact seq true xs rfl
  | kls xs => cases e; exact seq true xs rfl
  | tup xs => cases e; exact seq false xs rfl
  | _ => simp [gLen, seqD] at e
theorem o_len : CallR X (.builtin "len") (rLen X.K) := call_len
def rListOf (K : PySem.W.Frag) : List V → Hp → VK → Prop := fun xs H Q => ∃ p ys, xs = [.ref p] ∧ (SqL K H p ys ∨ SqT K H p ys) ∧ ∀ l, H l = none → Q (.ref l) (upd H l (.lst ys))
theorem o_list : CallR X (.type "list") (rListOf X.K) := call_list_of
theorem p_list {k : Nat} (hk : k ≤ 1 := by decide) : Prim1P K T k (rOne (rListOf K)) gListOf := fun S H x v d r1 e => by
  unfold gListOf at e
  cases q : seqD x with
  | none => rw [q] at e; cases e
  | some p =>
    obtain ⟨b, xs⟩ := p
    rw [q] at e
    cases e
    obtain ⟨a, vs, ev, hl, ht, r⟩ := r1.sq b xs q
    subst ev
    refine .inr (.inl ⟨xs, vs, rfl, hk, r, fun Q q => ⟨a, vs, rfl, ?_, q⟩⟩)
    cases b with
    | true => exact .inl (hl rfl)
    | false => exact .inr (ht rfl)
def rTupOf (K : PySem.W.Frag) : List V → Hp → VK → Prop := fun xs H Q => ∃ p ys, xs = [.ref p] ∧ ((SqL K H p ys ∧ ∀ l, H l = none → Q (.ref l) (upd H l (.tup ys))) ∨ (SqT K H p ys ∧ Q (.ref p) H))
theorem o_tuple : CallR X (.type "tuple") (rTupOf X.K) := call_tuple_of
theorem p_tuple : Prim1P K T 0 (rOne (rTupOf K)) gTupOf := fun S H x v d r1 e => by
  unfold gTupOf at e
  cases q : seqD x with
  | none => rw [q] at e; cases e
  | some p =>
    obtain ⟨b, xs⟩ := p
    rw [q] at e
    cases e
    obtain ⟨a, vs, ev, hl, ht, r⟩ := r1.sq b xs q
    subst ev
    cases b with
    | true => exact .inr (.inr ⟨xs, vs, rfl, by decide, r, fun Q q => ⟨a, vs, rfl, .inl ⟨hl rfl, q⟩⟩⟩)
    | false =>
      refine gives_val (v := .ref a) ?_ fun Q q => ⟨a, vs, rfl, .inr ⟨ht rfl, q⟩⟩
      simp only [Rep]
      exact ⟨a, vs, rfl, ht rfl, r⟩
/-! xs + ys -/
def gCat : D → D → Option D
  | .lst xs, .lst ys => if xs.length + ys.length ≤ 1000 then some (.lst (xs ++ ys)) else none
  | _, _ => none
theorem gCat_some {x y d : D} (h : gCat x y = some d) : ∃ xs ys, x = .lst xs ∧ y = .lst ys ∧ xs.length + ys.length ≤ 1000 ∧ d = .lst (xs ++ ys) := by
  cases x with
  | lst xs =>
    cases y with
    | lst ys =>
      simp only [gCat] at h
      split at h
      · rename_i q; cases h; exact ⟨xs, ys, rfl, rfl, q, rfl⟩
      · cases h
    | _ => cases h
  | _ => cases h
theorem p_cat {k : Nat} (hk : k ≤ 1 := by decide) : Prim2P K T k rCat gCat := fun S H x y v w d r1 r2 e => by
  obtain ⟨xs, ys, rfl, rfl, hl, rfl⟩ := gCat_some e
  obtain ⟨a, vs, rfl, h1, r⟩ := r1.lh xs rfl
  simp only [Rep] at r2
  obtain ⟨b, ws, rfl, h2, _, r'⟩ := r2
  exact .inr (.inl ⟨xs ++ ys, vs ++ ws, rfl, hk, r.append r', fun Q q => ⟨a, b, vs, ws, rfl, rfl, h1, h2, line_of (by rw [← r.length, ← r'.length]; exact hl), q⟩⟩)
def gCatT : D → D → Option D
  | .tup xs, .tup ys => if xs.length + ys.length ≤ 1000 ∧ xs ≠ [] then some (.tup (xs ++ ys)) else none
  | _, _ => none
theorem gCatT_some {x y d : D} (h : gCatT x y = some d) : ∃ xs ys, x = .tup xs ∧ y = .tup ys ∧ (xs.length + ys.length ≤ 1000 ∧ xs ≠ []) ∧ d = .tup (xs ++ ys) := by
  cases x with
  | tup xs =>
    cases y with
    | tup ys =>
      simp only [gCatT] at h
      split at h
      · rename_i q; cases h; exact ⟨xs, ys, rfl, rfl, q, rfl⟩
      · cases h
    | _ => cases h
  | _ => cases h
theorem p_catT : Prim2 K T 0 (rCatT K) gCatT := fun S H x y v w d r1 r2 e => by
  obtain ⟨xs, ys, rfl, rfl, hl, rfl⟩ := gCatT_some e
  simp only [Rep] at r1 r2
  obtain ⟨a, vs, rfl, h1, r⟩ := r1
  obtain ⟨b, ws, rfl, h2, r'⟩ := r2
  have ne : vs ≠ [] := fun z => hl.2 (by have := r.length; rw [z] at this; exact List.length_eq_zero_iff.mp this)
  have ll : vs.length + ws.length ≤ sizeLine := line_of (by rw [← r.length, ← r'.length]; exact hl.1)
  by_cases hy : ys = []
  · subst hy
    simp only [Reps] at r'
    subst r'
    refine gives_val (v := .ref a) ?_ fun Q q => ⟨a, b, vs, [], rfl, rfl, h1, h2, ne, ll, fun _ => q, fun z => absurd rfl z⟩
    simp only [Rep, List.append_nil]
    exact ⟨a, vs, rfl, h1, r⟩
  · have nw : ws ≠ [] := fun z => hy (by have := r'.length; rw [z] at this; exact List.length_eq_zero_iff.mp this)
    exact .inr (.inr ⟨xs ++ ys, vs ++ ws, rfl, by decide, r.append r', fun Q q => ⟨a, b, vs, ws, rfl, rfl, h1, h2, ne, ll, fun z => absurd z nw, fun _ => q⟩⟩)
/-- xs * n -/
def gRep : D → D → Option D
  | .lst xs, .int i => if i < 1000 ∧ -1000 < i ∧ xs.length * i.toNat ≤ 1000 then some (.lst (List.replicate i.toNat xs).flatten) else none
  | _, _ => none
theorem gRep_some {x y d : D} (h : gRep x y = some d) : ∃ xs i, x = .lst xs ∧ y = .int i ∧ (i < 1000 ∧ -1000 < i ∧ xs.length * i.toNat ≤ 1000) ∧ d = .lst (List.replicate i.toNat xs).flatten := by
  cases x with
  | lst xs =>
    cases y with
    | int i =>
      simp only [gRep] at h
      split at h
      · rename_i q; cases h; exact ⟨xs, i, rfl, rfl, q, rfl⟩
      · cases h
    | _ => cases h
  | _ => cases h
theorem reps_replicate {S : Addr → Prop} {H : Hp} {xs : List D} {vs : List V} (r : Reps K T H S xs vs) : ∀ n, Reps K T H S (List.replicate n xs).flatten (List.replicate n vs).flatten
  | 0 => by simp [Reps]
  | n + 1 => by
    simp only [List.replicate_succ, List.flatten_cons]
    exact r.append (reps_replicate r n)
theorem p_rep {k : Nat} (hk : k ≤ 1 := by decide) : Prim2P K T k rRep gRep := fun S H x y v w d r1 r2 e => by
  obtain ⟨xs, i, rfl, rfl, hl, rfl⟩ := gRep_some e
  obtain ⟨a, vs, rfl, h1, r⟩ := r1.lh xs rfl
  have e2 := rep_int r2
  have e63 : (2 : Int) ^ 63 = 9223372036854775808 := by decide
  exact .inr (.inl ⟨_, _, rfl, hk, reps_replicate r i.toNat, fun Q q => ⟨a, i, vs, rfl, e2, h1, by omega, by omega, line_of (by rw [← r.length]; exact hl.2.2), q⟩⟩)
/-! sum, all, any -/
def intsOf : List D → Option (List Int)
  | [] => some []
  | .int i :: r => (intsOf r).map (i :: ·)
  | _ => none
def blsOf : List D → Option (List Bool)
  | [] => some []
  | .bl i :: r => (blsOf r).map (i :: ·)
  | _ => none
theorem reps_ints {S : Addr → Prop} {H : Hp} : ∀ {xs : List D} {vs : List V} {ns : List Int}, Reps K T H S xs vs → intsOf xs = some ns → vs = ns.map V.int
  | [], vs, ns, r, e => by
    simp only [Reps] at r
    cases e; exact r
  | d :: xs, vs, ns, r, e => by
    simp only [Reps] at r
    obtain ⟨v, ws, rfl, r1, r2⟩ := r
    cases d with
    | int i =>
      simp only [intsOf] at e
      cases q : intsOf xs with
      | none => rw [q] at e; cases e
      | some l => rw [q] at e; cases e; rw [reps_ints r2 q, rep_int r1]; rfl
    | _ => cases e
theorem reps_bls {S : Addr → Prop} {H : Hp} : ∀ {xs : List D} {vs : List V} {ns : List Bool}, Reps K T H S xs vs → blsOf xs = some ns → vs = ns.map V.bl
  | [], vs, ns, r, e => by
    simp only [Reps] at r
    cases e; exact r
  | d :: xs, vs, ns, r, e => by
    simp only [Reps] at r
    obtain ⟨v, ws, rfl, r1, r2⟩ := r
    cases d with
    | bl i =>
      simp only [blsOf] at e
      cases q : blsOf xs with
      | none => rw [q] at e; cases e
      | some l => rw [q] at e; cases e; rw [reps_bls r2 q, rep_bl r1]; rfl
    | _ => cases e
def gSum (x : D) : Option D := (seqD x).bind fun p => if p.1 = true then (intsOf p.2).map fun ns => .int ns.sum else none
def gAll (x : D) : Option D := (seqD x).bind fun p => if p.1 = true then (blsOf p.2).map fun ns => .bl (ns.all id) else none
def gAny (x : D) : Option D := (seqD x).bind fun p => if p.1 = true then (blsOf p.2).map fun ns => .bl (ns.any id) else none
theorem p_sum : Prim1P K T 0 (rOne (rSum K)) gSum := fun S H x v d r1 e => by
  unfold gSum at e
  cases q : seqD x with
  | none => rw [q] at e; cases e
  | some p =>
    obtain ⟨b, xs⟩ := p
    rw [q] at e
    simp only [Option.bind_some] at e
    cases b with
    | false => cases e
    | true =>
      rw [if_pos rfl] at e
      cases q2 : intsOf xs with
      | none => rw [q2] at e; cases e
      | some ns =>
        rw [q2] at e
        cases e
        obtain ⟨a, vs, ev, hl, ht, r⟩ := r1.sq true xs q
        subst ev
        exact gives_val (v := .int ns.sum) (by simp [Rep]) fun Q q => ⟨a, ns, rfl, by rw [← reps_ints r q2]; exact hl rfl, q⟩
theorem p_all : Prim1P K T 0 (rOne (rAll K)) gAll := fun S H x v d r1 e => by
  unfold gAll at e
  cases q : seqD x with
  | none => rw [q] at e; cases e
  | some p =>
    obtain ⟨b, xs⟩ := p
    rw [q] at e
    simp only [Option.bind_some] at e
    cases b with
    | false => cases e
    | true =>
      rw [if_pos rfl] at e
      cases q2 : blsOf xs with
      | none => rw [q2] at e; cases e
      | some ns =>
        rw [q2] at e
        cases e
        obtain ⟨a, vs, ev, hl, ht, r⟩ := r1.sq true xs q
        subst ev
        exact gives_val (v := .bl (ns.all id)) (by simp [Rep]) fun Q q => ⟨a, ns, rfl, by rw [← reps_bls r q2]; exact hl rfl, q⟩
theorem p_any : Prim1P K T 0 (rOne (rAny K)) gAny := fun S H x v d r1 e => by
  unfold gAny at e
  cases q : seqD x with
  | none => rw [q] at e; cases e
  | some p =>
    obtain ⟨b, xs⟩ := p
    rw [q] at e
    simp only [Option.bind_some] at e
    cases b with
    | false => cases e
    | true =>
      rw [if_pos rfl] at e
      cases q2 : blsOf xs with
      | none => rw [q2] at e; cases e
      | some ns =>
        rw [q2] at e
        cases e
        obtain ⟨a, vs, ev, hl, ht, r⟩ := r1.sq true xs q
        subst ev
        exact gives_val (v := .bl (ns.any id)) (by simp [Rep]) fun Q q => ⟨a, ns, rfl, by rw [← reps_bls r q2]; exact hl rfl, q⟩
/-! ==, is None -/
def gEq : D → D → Option D
  | .non, .non => some (.bl true)
  | .non, .int _ => some (.bl false) | .int _, .non => some (.bl false) | .non, .bl _ => some (.bl false) | .bl _, .non => some (.bl false) | .non, .str _ => some (.bl false) | .str _, .non => some (.bl false)
  | .int i, .int j => some (.bl (decide (i = j)))
  | .bl i, .bl j => some (.bl (decide (i = j)))
  | .str i, .str j => some (.bl (decide (i = j)))
  | .int _, .str _ => some (.bl false) | .str _, .int _ => some (.bl false) | .bl _, .str _ => some (.bl false) | .str _, .bl _ => some (.bl false)
  | _, _ => none
def gNe (x y : D) : Option D := (gEq x y).bind gNot
theorem eq_rep {S : Addr → Prop} {H : Hp} {x y d : D} {v w : V} (r1 : Rep K T H S x v) (r2 : Rep K T H S y w) (e : gEq x y = some d) : scal v w = true ∧ d = .bl (decide (v = w)) := by
  cases x <;> cases y <;> simp only [gEq] at e <;> first
    | (cases e; simp only [Rep] at r1 r2; subst r1; subst r2; simp [scal]; done)
    | (cases e; done)
theorem p_eq : Prim2 K T 0 rEq gEq := fun S H x y v w d r1 r2 e => by
  obtain ⟨h1, h2⟩ := eq_rep r1 r2 e
  subst h2
  exact gives_val (by simp [Rep]) fun Q q => ⟨h1, q⟩
theorem p_ne : Prim2 K T 0 rNe gNe := fun S H x y v w d r1 r2 e => by
  unfold gNe at e
  cases q : gEq x y with
  | none => rw [q] at e; cases e
  | some z =>
    rw [q] at e
    obtain ⟨h1, h2⟩ := eq_rep r1 r2 q
    subst h2
    cases e
    exact gives_val (by simp [Rep]) fun Q q => ⟨h1, q⟩
def isNon : D → Bool
  | .non => true
  | _ => false
theorem isNon_rep {S : Addr → Prop} {H : Hp} {x : D} {v : V} (r : Rep K T H S x v) : decide (v = .non) = isNon x := by
  cases x <;> simp only [Rep] at r <;> first
    | (subst r; simp [isNon])
    | (obtain ⟨a, z⟩ := r; obtain ⟨vs, z⟩ := z; first | (obtain ⟨rfl, _⟩ := z; simp [isNon]) | (obtain ⟨vs2, rfl, _⟩ := z; simp [isNon]))
def gIs (f : Bool → Bool) : D → D → Option D
  | x, .non => some (.bl (f (isNon x)))
  | _, _ => none
theorem p_isN : Prim2 K T 0 (fun x y H Q => y = .non ∧ Q (.bl (decide (x = .non))) H) (gIs id) := fun S H x y v w d r1 r2 e => by
  cases y with
  | non => cases e; exact gives_val (v := .bl (isNon x)) (by simp [Rep]) fun Q q => ⟨rep_non r2, by rw [isNon_rep r1]; exact q⟩
  | _ => simp [gIs] at e
theorem p_notN : Prim2 K T 0 (fun x y H Q => y = .non ∧ Q (.bl (!decide (x = .non))) H) (gIs not) := fun S H x y v w d r1 r2 e => by
  cases y with
  | non => cases e; exact gives_val (v := .bl (!isNon x)) (by simp [Rep]) fun Q q => ⟨rep_non r2, by rw [isNon_rep r1]; exact q⟩
  | _ => simp [gIs] at e
end
end Z
set_option Elab.async false
set_option linter.all false
set_option maxRecDepth 100000
/-! Y1: enumerate over a tuple -/
namespace Z
open PySem PySem.Spec
open PyProof.Rows hiding St

abbrev tupIt (t : Addr) : Obj := { cls := .type "tuple_iterator", data := .fields #[.ref t, .int 0 0] }
abbrev enumOf (it : Addr) : Obj := { cls := .type "enumerate", data := .fields #[.none, .bool false, .ref it, rawInt 0, .none, .none] }
set_option maxHeartbeats 1000000 in
theorem enum_new_tup (t : Addr) (its : Array Value) :
    Meets (Builtin.«enumerate.__new__» ⟨[.type "enumerate", .ref t], []⟩) (fun _ G s => s.heap.IsTuple t its ∧ G (.ok (.ret (.ref (s.heap.push (tupIt t)).objs.size))) { s with heap := (s.heap.push (tupIt t)).push (enumOf s.heap.objs.size) }) :=
  .of_wp fun prog w A G s hg => by
    obtain ⟨hp, gl, dd, tk, os⟩ := s
    obtain ⟨ht, hg⟩ := hg
    have sb := sub_enumerate
    have go : ∀ {A' : Around} {E : Value → Shared → Prop} {Q : Value → Shared → Prop}, Q (.ref hp.objs.size) ⟨hp.push (tupIt t), gl, dd, tk, os⟩ → wpAny (model prog w) A' (pyIter (.ref t)) Q E ⟨hp, gl, dd, tk, os⟩ := fun q => wpAny_pyIter_tuple (s := ⟨hp, gl, dd, tk, os⟩) ht q
    wp_walk using go
    refine wpAny_stack_any fun stk => wpAny_pure ?_
    split
    · rename_i cc _ _ _ _ _
      by_cases z : (cc == Value.type "enumerate") = true
      · rw [z]
        wp_walk using go
        exact Exists.intro _ ⟨rfl, hg⟩
      · rw [Bool.not_eq_true] at z
        rw [z]
        wp_walk using go
        exact Exists.intro _ ⟨rfl, hg⟩
    · wp_walk using go
      exact Exists.intro _ ⟨rfl, hg⟩
theorem enum_tup {prog : Program} {w : World} {A : Around} {E : Value → Shared → Prop} {s : Shared} {t : Addr} {its : Array Value} {Q : Value → Shared → Prop} (ht : s.heap.IsTuple t its)
    (h : ∀ h', IsEnum h' (s.heap.objs.size + 1) s.heap.objs.size 0 .none → h'.IsTupleIter s.heap.objs.size t 0 → (∀ b o, s.heap.get? b = some o → h'.get? b = some o) → Q (.ref (s.heap.objs.size + 1)) { s with heap := h' }) :
    wpAny (model prog w) A (call (.type "enumerate") [.ref t]) Q E s := by
  refine callType_new F.called_enumerate (by decide) (F.typeCall_enumerate_1 _) (F.newCall_enumerate_1 _) (fun b => F.args_object_init_2 b _) F.entry_enumerate_new (enum_new_tup t its) (And.intro ht ?_)
  have sz : (s.heap.push (tupIt t)).objs.size = s.heap.objs.size + 1 := Heap.size_push ..
  have he : IsEnum ((s.heap.push (tupIt t)).push (enumOf s.heap.objs.size)) (s.heap.objs.size + 1) s.heap.objs.size 0 .none := by
    have z := Heap.get?_push_size (s.heap.push (tupIt t)) (o := enumOf s.heap.objs.size) rfl
    rw [sz] at z
    exact z
  show _ ∧ _
  rw [sz]
  exact ⟨⟨_, he, rfl⟩, h _ he ⟨_, Heap.get?_push_of_some _ (Heap.get?_push_size _ rfl), rfl, rfl⟩ fun b o x => Heap.get?_push_of_some _ (Heap.get?_push_of_some _ x)⟩
theorem enum_tup_end {prog : Program} {w : World} {A : Around} {E : Value → Shared → Prop} {s : Shared} {e it t : Addr} {j : Nat} {c : Int} {its : Array Value} {old : Value} {Q : Option Value → Shared → Prop} (hh : A.in1.handled = none) (hen : IsEnum s.heap e it c old)
    (hti : s.heap.IsTupleIter it t j) (htu : s.heap.IsTuple t its) (gone : its[j]? = none) (q : ∀ h', Heap.ExtBut it s.heap h' → Q none { s with heap := h' }) : wpAny (model prog w) A (pyNext (.ref e)) Q E s := by
  have ty : s.TypeIs (.ref e) "enumerate" := ⟨_, hen, rfl⟩
  unfold pyNext
  refine wpAny_bind (wpAny_attempt (wpAny_callSpecial?_slot (name := Str.ofString "__next__") ty F.slot_enumerate_next (wpAny_call_entry F.slot_enumerate_next ty F.entry_enumerate_next ?_ (F.args_enumerate_next_1 _))))
  refine wpAny_bind (m := field (.ref e) 2) (wpAny_field hen rfl (x := .ref it) rfl ?_)
  refine wpAny_bind (wpAny_nextOf_tuple_end hh hti htu gone fun h' x eb ex => ?_)
  refine wpAny_bind (wpAny_isInstance (T := "StopIteration") (b := true) (let ⟨ob, h1, h2⟩ := ex; ⟨ob, h1, h2⟩) isSubtype_stop ?_)
  exact wpAny_pure (q _ eb)
open L2
/-- the tuple at a, each item in a new pair -/
def ItEt (K : PySem.W.Frag) (a : Addr) : It :=
  ⟨fun i H => ∃ (xs : List V) (x : V), SqT K H a xs ∧ xs[i]? = some x, fun i H v H' => ∃ T x, v = .ref T ∧ H T = none ∧ H' = upd H T (.tup [.int (i : Nat), x]) ∧ ∀ ys, SqT K H a ys → ys[i]? = some x, fun i H => ∃ ys : List V, SqT K H a ys ∧ ys.length ≤ i⟩
theorem turn_enumT {P : Program} {w : World} {K : PySem.W.Frag} {elts : List Expr} {kk : Nat} {tpos : Pos} (a e it : Addr) (na : a ≠ it) (nea : e ≠ a) :
    Turn P w K (.Tuple elts kk tpos) (ItEt K a) [e, it] e (fun j hp => (∃ old, IsEnum hp e it ((j : Nat) : Int) old) ∧ hp.IsTupleIter it a j ∧ e ≠ it) where
  mem := List.mem_cons_self
  obj := fun j hp st b hb => by
    obtain ⟨⟨old, he⟩, ⟨o, ho, hc, hd⟩, _⟩ := st
    rcases (show b = e ∨ b = it by simpa using hb) with z | z
    · subst z; exact ⟨_, he, fun v q => nomatch q⟩
    · subst z; exact ⟨o, ho, fun v q => by rw [hd] at q; cases q⟩
  keep := fun j hp hp' st kk => ⟨⟨st.1.choose, kk e (by simp) _ st.1.choose_spec⟩, st.2.1.at fun o q => kk it (by simp) o q, st.2.2⟩
  item := by
    intro X hP hw hK hc j pins s σ H E I hf st hg
    subst hP hw hK
    obtain ⟨⟨old, he⟩, hit, hne⟩ := st
    obtain ⟨xs, x, hq, hx⟩ := hg
    obtain ⟨its, rv, pt, _⟩ := I.tuple hq
    obtain ⟨u, hu, ru⟩ := rv.get hx
    have hel : e < s.heap.objs.size := Heap.lt_size he
    have hil : it < s.heap.objs.size := by obtain ⟨_, q, _⟩ := hit; exact Heap.lt_size q
    have ptt : s.heap.IsTuple a its.toArray := pt
    have hjl : j < its.toArray.size := by
      rw [List.size_toArray]
      exact (List.getElem?_eq_some_iff.mp hu).1
    refine wpAny_pyNext_enum_itemD (Draws.tuple (A := X.A.in1) (show X.A.in1.handled = none from I.ok.hd hc) it a na its.toArray) he ⟨hit, ptt⟩ hjl hne (by simp [hne, nea]) fun y h' tk hy ho hst' hT hsz hk => ?_
    have ey : y = u := by
      have : its.toArray[j]? = some u := by simpa using hu
      rw [this] at hy; cases hy; rfl
    subst ey
    refine ⟨_, rfl, wpAny_letOwnedTupleGo_enum (s := { s with heap := h', toks := tk + 1 }) ho fun h'' he' sb => ?_⟩
    have hT2 : h''.get? s.heap.objs.size = some { cls := .type "tuple", data := .seq #[.int j tk, y] } := (sb.2 _ (Nat.ne_of_gt hel)).trans hT
    have new : ObjOk X.prog X.w (upd H s.heap.objs.size (.tup [.int (j : Nat), x])) h'' s.heap.objs.size (.tup [.int (j : Nat), x]) :=
      ⟨by show 2 ≤ sizeLine; decide, [.int j tk, y], .cons ⟨_, rfl⟩ (.cons ru .nil), _, hT2, rfl, _, rfl⟩
    have I1 : Inv X pins σ (upd H s.heap.objs.size (.tup [.int (j : Nat), x])) { s with heap := h'', toks := tk + 1 } :=
      I.turnedNew (ch := [e, it]) (fun b ob hb q => (sb.2 b fun z => hb (by rw [z]; simp)).trans (hk b ob (fun z => hb (by rw [z]; simp)) (fun z => hb (by rw [z]; simp)) q)) hf (Nat.le_refl _) new
    refine ⟨.ref s.heap.objs.size, _, I1, rfl, ⟨_, x, rfl, I.hok.fresh (Nat.le_refl _), rfl, fun ys hy => by rw [I.tuple_inj hy hq]; exact hx⟩, ⟨⟨y, ?_⟩, hst'.1.at fun o q => (sb.2 it (Ne.symm hne)).trans q, hne⟩, fun b hb => ?_⟩
    · rw [show ((j + 1 : Nat) : Int) = (j : Int) + 1 by omega]; exact he'
    · have lb : b < s.heap.objs.size := by
        rcases (show b = e ∨ b = it by simpa using hb) with z | z
        · rw [z]; exact hel
        · rw [z]; exact hil
      rw [upd_ne (Nat.ne_of_lt lb)]
      exact (hf b hb).1
  done := by
    intro X hP hw hK hc j pins s σ H E I hf st hg
    subst hP hw hK
    obtain ⟨⟨old, he⟩, hit, hne⟩ := st
    obtain ⟨xs, hq, hx⟩ := hg
    obtain ⟨its, rv, pt, _⟩ := I.tuple hq
    have gone : its.toArray[j]? = none := by
      rw [Array.getElem?_eq_none]
      rw [List.size_toArray, ← rv.length]
      exact hx
    exact enum_tup_end (show X.A.in1.handled = none from I.ok.hd hc) he hit pt gone fun h' eb => ⟨rfl, I.turned (t' := s.toks) (fun b o hb q => eb b o hb q) (hf it (by simp)).1 (hf it (by simp)).2.1 (hf it (by simp)).2.2.2.1 (hf it (by simp)).2.2.2.2.1 (hf it (by simp)).2.2.2.2.2⟩
  self := fun A j s Q E st h => let ⟨⟨_, he⟩, _⟩ := st; wpAny_pyIter_enum he h
section
variable {X : Cx} {C : Cz} {Γ Γ1 : List Nat} {p pos tpos : Pos} {e : Expr} {elts : List Expr} {kk : Nat} {fa : Env → R (D × Env)}
def iEnumA (K : PySem.W.Frag) (te : TE) : TI := fun σ H G => te σ H fun v H1 => ∃ (a : Addr) (xs : List V), v = .ref a ∧ ((SqL K H1 a xs ∧ G (Ite K a) H1) ∨ (SqT K H1 a xs ∧ G (ItEt K a) H1))
theorem pi_enumA {te : TE} (hg : Gl X "enumerate") (hm : X.mg "enumerate" = none) (ha : PE X e te) (hs : starEach [e] X.env = (false, eval e X.env) :: starEach [] X.env := by rfl) : PI X (.Tuple elts kk tpos) (.Call (.Name "enumerate" p) [e] [] pos) (iEnumA X.K te) := by
  refine ⟨fun pins s σ H G I h => ?_⟩
  refine Call_ (ld_blt I hg hm boot_enumerate (PyProof.Rows.callWith_type1 (args_cons (thn (ha.run pins s σ H _ I h) fun u s1 ⟨v, H1, I1, r1, q1⟩ => args_nil ?_) hs) hs rfl))
  obtain ⟨a, xs, ev, q⟩ := q1
  subst ev
  obtain rfl : u = Value.ref a := r1
  rcases q with ⟨hq, q⟩ | ⟨hq, q⟩
  · obtain ⟨its, rv, pl, _⟩ := I1.list hq
    refine call_enumerate_list pl.isList fun h' he hit hsz hk => wpAny_pyIter_enum he ?_
    have I2 : Inv X pins σ H1 { s1 with heap := h' } := I1.kept (t' := s1.toks) hk
    refine ⟨s1.heap.objs.size + 1, [s1.heap.objs.size + 1, s1.heap.objs.size], _, _, H1, rfl, I2, turn_enum a (s1.heap.objs.size + 1) s1.heap.objs.size, ⟨⟨.none, he⟩, hit, Nat.succ_ne_self _⟩, fun b hb => ?_, q⟩
    have lb : s1.heap.objs.size ≤ b := by
      rcases (show b = s1.heap.objs.size + 1 ∨ b = s1.heap.objs.size by simpa using hb) with z | z <;> rw [z]
      · exact Nat.le_add_right _ _
      · exact Nat.le_refl _
    exact I1.fpOk lb (I1.hok.fresh lb)
  · obtain ⟨its, rv, pl, _⟩ := I1.tuple hq
    have al : a < s1.heap.objs.size := by
      obtain ⟨o, ho, _⟩ := pl
      exact Heap.lt_size ho
    refine enum_tup (its := its.toArray) pl fun h' he hit hk => wpAny_pyIter_enum he ?_
    have I2 : Inv X pins σ H1 { s1 with heap := h' } := I1.kept (t' := s1.toks) hk
    refine ⟨s1.heap.objs.size + 1, [s1.heap.objs.size + 1, s1.heap.objs.size], _, _, H1, rfl, I2, turn_enumT a (s1.heap.objs.size + 1) s1.heap.objs.size (Nat.ne_of_lt al) (Ne.symm (Nat.ne_of_lt (Nat.lt_succ_of_lt al))), ⟨⟨.none, he⟩, hit, Nat.succ_ne_self _⟩, fun b hb => ?_, q⟩
    have lb : s1.heap.objs.size ≤ b := by
      rcases (show b = s1.heap.objs.size + 1 ∨ b = s1.heap.objs.size by simpa using hb) with z | z <;> rw [z]
      · exact Nat.le_add_right _ _
      · exact Nat.le_refl _
    exact I1.fpOk lb (I1.hok.fresh lb)
def enumD (i : Nat) : List D → List D
  | [] => []
  | d :: r => .tup [.int (i : Nat), d] :: enumD (i + 1) r
theorem enumD_length : ∀ {ds : List D} {i : Nat}, (enumD i ds).length = ds.length
  | [], _ => rfl
  | d :: r, i => by simp [enumD, enumD_length]
theorem enumD_get : ∀ {ds : List D} {i j : Nat} {d : D}, (enumD i ds)[j]? = some d → ∃ x, ds[j]? = some x ∧ d = .tup [.int ((i + j : Nat) : Int), x]
  | [], i, j, d, h => by simp [enumD] at h
  | x :: r, i, 0, d, h => by
    simp [enumD] at h
    exact ⟨x, rfl, h.symm⟩
  | x :: r, i, j + 1, d, h => by
    simp only [enumD, List.getElem?_cons_succ] at h
    obtain ⟨y, h1, h2⟩ := enumD_get h
    exact ⟨y, by simpa using h1, by rw [h2]; congr 4; omega⟩
theorem it_enumL {K : PySem.W.Frag} {T : Tab} {S : Addr → Prop} {H : Hp} {ds : List D} {a : Addr} {vs : List V} (r : Reps K T H S ds vs) (st : ∀ H' S', Stay K H S H' S' → SqL K H' a vs) : ItOk K T S H (Ite K a) (enumD 0 ds) := by
  refine ⟨fun S' H' s i hi => ?_, fun S' H' s i d hd => ?_, fun S' H' s i d hd x H2 hy => ?_⟩
  · exact ⟨vs, st H' S' s, by rw [← r.length, ← enumD_length (i := 0)]; exact hi⟩
  · obtain ⟨y, h1, _⟩ := enumD_get hd
    obtain ⟨v, hv, _⟩ := r.get h1
    exact ⟨vs, v, st H' S' s, hv⟩
  · obtain ⟨y, h1, rfl⟩ := enumD_get hd
    obtain ⟨v, hv, rv⟩ := r.get h1
    obtain ⟨t, u, rfl, hn, rfl, hu⟩ := hy
    have e := hu vs (st H' S' s)
    rw [hv] at e; cases e
    refine ⟨kept_upd hn, ?_⟩
    simp only [Rep, Reps]
    exact ⟨t, _, rfl, .inl (.inl upd_same), .int _, _, rfl, by simp, v, [], rfl, (Stay.grow (kept_upd hn)).rep (s.rep rv), rfl⟩
theorem it_enumT {K : PySem.W.Frag} {T : Tab} {S : Addr → Prop} {H : Hp} {ds : List D} {a : Addr} {vs : List V} (r : Reps K T H S ds vs) (st : ∀ H' S', Stay K H S H' S' → SqT K H' a vs) : ItOk K T S H (ItEt K a) (enumD 0 ds) := by
  refine ⟨fun S' H' s i hi => ?_, fun S' H' s i d hd => ?_, fun S' H' s i d hd x H2 hy => ?_⟩
  · exact ⟨vs, st H' S' s, by rw [← r.length, ← enumD_length (i := 0)]; exact hi⟩
  · obtain ⟨y, h1, _⟩ := enumD_get hd
    obtain ⟨v, hv, _⟩ := r.get h1
    exact ⟨vs, v, st H' S' s, hv⟩
  · obtain ⟨y, h1, rfl⟩ := enumD_get hd
    obtain ⟨v, hv, rv⟩ := r.get h1
    obtain ⟨t, u, rfl, hn, rfl, hu⟩ := hy
    have e := hu vs (st H' S' s)
    rw [hv] at e; cases e
    refine ⟨kept_upd hn, ?_⟩
    simp only [Rep, Reps]
    exact ⟨t, _, rfl, .inl (.inl upd_same), .int _, _, rfl, by simp, v, [], rfl, (Stay.grow (kept_upd hn)).rep (s.rep rv), rfl⟩
/-- a shared sequence, wherever it stays -/
def mSeqD (h : List D → List D) (fa : Env → R (D × Env)) : Env → R (List D × Env) := fun ρ => (fa ρ).bind fun (d, ρ1) => match seqD d with
  | some (_, xs) => .ok (h xs, ρ1)
  | none => .bad
theorem seq_stay {K : PySem.W.Frag} {T : Tab} {S : Addr → Prop} {H : Hp} {d : D} {v : V} {b : Bool} {xs : List D} (r : Rep K T H S d v) (e : seqD d = some (b, xs)) : ∃ a vs, v = .ref a ∧ Reps K T H S xs vs ∧ (b = true → ∀ H' S', Stay K H S H' S' → SqL K H' a vs) ∧ (b = false → ∀ H' S', Stay K H S H' S' → SqT K H' a vs) := by
  cases d with
  | lst ys =>
    cases e
    simp only [Rep] at r
    obtain ⟨a, vs, e, h1, sa, r⟩ := r
    exact ⟨a, vs, e, r, fun _ H' S' s => .inl (.inl (s.l a vs h1 sa).1), fun z => (nomatch z)⟩
  | kls ys =>
    cases e
    simp only [Rep] at r
    obtain ⟨a, vs, e, h1, r⟩ := r
    exact ⟨a, vs, e, r, fun _ H' S' s => (s.c a vs h1).sql, fun z => (nomatch z)⟩
  | tup ys =>
    cases e
    simp only [Rep] at r
    obtain ⟨a, vs, e, h1, r⟩ := r
    exact ⟨a, vs, e, r, fun z => (nomatch z), fun _ H' S' s => s.t a vs h1⟩
  | _ => cases e
theorem di_enum (hg : Gl X "enumerate") (hm : X.mg "enumerate" = none) (ha : DE X C Γ e Γ1 0 fa) (hs : starEach [e] X.env = (false, eval e X.env) :: starEach [] X.env := by rfl) : DI X C (.Tuple elts kk tpos) Γ (.Call (.Name "enumerate" p) [e] [] pos) Γ1 (mSeqD (enumD 0) fa) :=
  pi_imp (pi_enumA hg hm ha hs) fun σ H Q h => by
  obtain ⟨S, ρ, fp, s, h⟩ := h
  refine ⟨S, ρ, fp, s, OutE.thenI h fun d ρ1 v H1 S1 fp1 e1 s1 r1 f1 h1 => ?_⟩
  dsimp only at h1
  cases q : seqD d with
  | none => rw [q] at h1; exact h1.elim
  | some bx =>
    obtain ⟨b, xs⟩ := bx
    rw [q] at h1
    obtain ⟨a, vs, rfl, r, hl, ht⟩ := seq_stay r1 q
    refine ⟨a, vs, rfl, ?_⟩
    cases b with
    | true => exact .inl ⟨hl rfl H1 S1 Stay.refl, h1 _ H1 S1 fp1 s1 (it_enumL r (hl rfl)) f1⟩
    | false => exact .inr ⟨ht rfl H1 S1 Stay.refl, h1 _ H1 S1 fp1 s1 (it_enumT r (ht rfl)) f1⟩
end
end Z
set_option Elab.async false
set_option linter.all false
set_option maxRecDepth 100000
/-! Y2: isinstance, slices, methods, more iterators -/
namespace Z
open PySem PySem.Spec L2
open PyProof.Rows hiding St

/-! ### isinstance -/
inductive Ty where
  | int | bool | list | tuple | str
  | own (c : Nat)
def Ty.v (T : Tab) : Ty → V
  | .int => .ty "int"
  | .bool => .ty "bool"
  | .list => .ty "list"
  | .tuple => .ty "tuple"
  | .str => .ty "str"
  | .own c => .ref (T.cm c)
def Ty.u (T : Tab) : Ty → Value
  | .int => .type "int"
  | .bool => .type "bool"
  | .list => .type "list"
  | .tuple => .type "tuple"
  | .str => .type "str"
  | .own c => .ref (T.cm c)
theorem Ty.cls (T : Tab) (t : Ty) : ClsV (t.v T) (t.u T) := by cases t <;> constructor
def tyHas : Ty → D → Bool
  | .int, .int _ => true
  | .int, .bl _ => true
  | .bool, .bl _ => true
  | .list, .lst _ => true
  | .list, .kls _ => true
  | .tuple, .tup _ => true
  | .str, .str _ => true
  | .own c, .ins c' _ => c' == c
  | _, _ => false
def kindT (T : Tab) : D → Value
  | .non => .type "NoneType"
  | .bl _ => .type "bool"
  | .int _ => .type "int"
  | .str _ => .type "str"
  | .lst _ => .type "list"
  | .kls _ => .type "list"
  | .tup _ => .type "tuple"
  | .ins c _ => .ref (T.cm c)
  | .cls _ => .type "type"
structure IsC (K : PySem.W.Frag) (C : Addr) : Prop where
  cl : Cls K C
  ha : PySem.W.findIn K (.ref C) "__class__" = some (some (.builtin "object.__class__"))
  hn : PySem.W.specialIn K (.builtin "object.__class__") "__get__" = some (some (.builtin "getset_descriptor.__get__"))
  tk : PySem.W.takesIn K (.builtin "object.__class__") = some true
  ob : PySem.W.mroIn K C (.type "object") = some true
structure TyOk (K : PySem.W.Frag) (T : Tab) (cs : List Nat) : Prop where
  is : ∀ c ∈ cs, IsC K (T.cm c)
  bo : ∀ c ∈ cs, ∀ n ∈ ["NoneType", "bool", "int", "str", "list", "tuple"], PySem.W.kitOne K (.type n) (.ref (T.cm c)) = some false
  ob : ∀ c ∈ cs, ∀ n ∈ ["int", "bool", "list", "tuple", "str"], PySem.W.kitOne K (.ref (T.cm c)) (.type n) = some false
  oo : ∀ c ∈ cs, ∀ c' ∈ cs, PySem.W.kitOne K (.ref (T.cm c)) (.ref (T.cm c')) = some (c == c')
def okD (cs : List Nat) : D → Bool
  | .ins c _ => cs.contains c
  | .cls _ => false
  | _ => true
def okTy (cs : List Nat) : Ty → Bool
  | .own c => cs.contains c
  | _ => true
section
variable {K : PySem.W.Frag} {T : Tab} {cs : List Nat}
theorem kit_bb {a b : String} {r : Bool} (h : kitB a b = some r) : PySem.W.kitOne K (.type a) (.type b) = some r := kit_ty h
theorem kit_all (ok : TyOk K T cs) {d : D} {t : Ty} (hd : okD cs d = true) (ht : okTy cs t = true) : PySem.W.kitOne K (kindT T d) (t.u T) = some (tyHas t d) := by
  cases t with
  | own c =>
    have hc : c ∈ cs := by simpa [okTy] using ht
    cases d with
    | ins c' fs => exact ok.oo c' (by simpa [okD] using hd) c hc
    | cls c' => cases hd
    | _ => exact ok.bo c hc _ (by simp)
  | _ =>
    cases d with
    | ins c' fs => exact ok.ob c' (by simpa [okD] using hd) _ (by simp)
    | cls c' => cases hd
    | _ => first | exact kit_bb (r := false) (by decide +kernel) | exact kit_bb (r := true) (by decide +kernel)
theorem kit_any (ok : TyOk K T cs) {d : D} (hd : okD cs d = true) : ∀ {ts : List Ty}, ts.all (okTy cs) = true → PySem.W.kitAny K (kindT T d) (ts.map fun t => t.u T) = some (ts.any fun t => tyHas t d)
  | [], _ => rfl
  | t :: ts, h => by
    rw [List.all_cons, Bool.and_eq_true] at h
    refine kitAny_cons (kit_all ok hd h.1) (fun e => ?_) fun e => ?_
    · rw [List.any_cons, e, Bool.false_or]; exact kit_any ok hd h.2
    · rw [List.any_cons, e, Bool.true_or]
theorem type_of {H : Hp} {S : Addr → Prop} {d : D} {v : V} (ok : TyOk K T cs) (hd : okD cs d = true) (r : Rep K T H S d v) : TyX K H v (kindT T d) := by
  cases d with
  | cls c => cases hd
  | non => rw [rep_non r]; exact .base .non
  | bl b => rw [rep_bl r]; exact .base (.bl b)
  | int b => rw [rep_int r]; exact .base (.int b)
  | str b => rw [rep_str r]; exact .base (.str b)
  | lst xs =>
    simp only [Rep] at r
    obtain ⟨a, vs, rfl, h, _⟩ := r
    exact .base (.lst h)
  | kls xs =>
    simp only [Rep] at r
    obtain ⟨a, vs, rfl, h, _⟩ := r
    rcases h with ⟨o, h⟩ | ⟨o, its, n, h1, h2, _⟩
    · exact .base (.frz h)
    · exact .kList h1 h2
  | tup xs =>
    simp only [Rep] at r
    obtain ⟨a, vs, rfl, h, _⟩ := r
    rcases h with (h | ⟨o, h⟩) | ⟨o, its, n, h1, h2, _⟩
    · exact .base (.tup h)
    · exact .fTuple h
    · exact .kTuple h1 h2
  | ins c fs =>
    simp only [Rep] at r
    obtain ⟨a, dx, vs, rfl, h, _⟩ := r
    have q := ok.is c (by simpa [okD] using hd)
    exact .base (.ins h q.cl q.ha q.hn q.tk q.ob)
end
def gIsi (cs : List Nat) (ts : List Ty) (d : D) : Option D := if okD cs d = true then some (.bl (ts.any fun t => tyHas t d)) else none
section
variable {X : Cx} {C : Cz} {Γ Γ' Γ1 Γ2 : List Nat} {k kr lv i : Nat} {x mn : Str} {p pos apos tpos : Pos} {a b e o te : Expr} {es : List Expr} {fa fb : Env → R (D × Env)} {fs : Env → R (List D × Env)} {cs : List Nat} {ts : List Ty} {t : Ty}
/-- the classes' expressions -/
structure PTy (X : Cx) (T : Tab) (es : List Expr) (ts : List Ty) : Prop where
  pa : ∃ q, PA X es q ∧ ∀ σ H (Q : List V → Hp → Prop), Q (ts.map fun t => t.v T) H → q σ H Q
theorem pty_nil {T : Tab} : PTy X T [] [] := ⟨_, pa_nil, fun σ H Q h => h⟩
theorem pty_cons {T : Tab} (h : PE X e (tC (t.v T))) (r : PTy X T es ts) (hs : starEach (e :: es) X.env = (false, eval e X.env) :: starEach es X.env := by rfl) : PTy X T (e :: es) (t :: ts) := by
  obtain ⟨q, pa, hq⟩ := r
  exact ⟨_, pa_cons h pa hs, fun σ H Q h => hq σ H _ h⟩
theorem pty_own {c : Nat} {T : Tab} (hg : Gl X x) (hm : X.mg x = some (.ref (T.cm c))) (hd : (x == ("__debug__" : Str)) = false := by decide) : PE X (.Name x pos) (tC ((Ty.own c).v T)) := pe_glob hg hm rfl hd
theorem pty_bt {T : Tab} {u : Value} (hg : Gl X x) (hm : X.mg x = none) (hv : bootBuiltins x = some u) (hu : t.u T = u) (ho : ∀ c, t ≠ .own c) (hn : x ≠ "__name__" := by decide) (hd : (x == ("__debug__" : Str)) = false := by decide) : PE X (.Name x pos) (tC (t.v T)) :=
  pe_bltn hg hm hv (by cases t <;> first | exact hu.symm | exact absurd rfl (ho _)) hn hd
theorem p_isi1 (ok : TyOk X.K C.T cs) (ht : okTy cs t = true) : Prim1 X.K C.T 0 (fun v H Q => rIsi X.K [v, t.v C.T] H Q) (gIsi cs [t]) := fun S H x v d r e => by
  unfold gIsi at e
  split at e
  · rename_i hd
    cases e
    refine gives_val (v := .bl (tyHas t x || false)) (by simp [Rep]) fun Q q => ⟨v, t.v C.T, kindT C.T x, t.u C.T, tyHas t x, rfl, t.cls C.T, type_of ok hd r, kit_all ok hd ht, by simpa using q⟩
  · cases e
/-- isinstance(e, C) -/
theorem de_isi (ok : TyOk X.K C.T cs) (ht : okTy cs t = true) (hte : PE X te (tC (t.v C.T))) (hg : Gl X "isinstance") (hm : X.mg "isinstance" = none) (ha : DE X C Γ e Γ1 0 fa) (he : starEach (e :: [te]) X.env = (false, eval e X.env) :: starEach [te] X.env := by rfl) (he2 : starEach (te :: []) X.env = (false, eval te X.env) :: starEach [] X.env := by rfl)
    (hpl : (backTo pos (starEach [te] X.env)).any (·.1) = false := by rfl) : DE X C Γ (.Call (.Name "isinstance" p) [e, te] [] pos) Γ1 0 (mUn (gIsi cs [t]) fa) :=
  pe_imp (pe_callB call_isi hg hm PyProof.Rows.boot_isinstance (pa_cons ha (pa_cons hte pa_nil he2) he) (by decide) (by decide) he hpl) fun σ H Q h => un_data (r := fun v H1 Q => rIsi X.K [v, t.v C.T] H1 Q) (p_isi1 ok ht) h
theorem paired_ty {T : Tab} : ∀ {ts : List Ty}, Paired ClsV (ts.map fun t => t.v T) (ts.map fun t => t.u T)
  | [] => .nil
  | t :: ts => .cons (t.cls T) paired_ty
/-- isinstance(e, (C1, C2, ..)) -/
theorem de_isiT {n : Nat} (ok : TyOk X.K C.T cs) (ht : ts.all (okTy cs) = true) (hl : ts.length ≤ 100) (hte : PTy X C.T es ts) (hg : Gl X "isinstance") (hm : X.mg "isinstance" = none) (ha : DE X C Γ e Γ1 0 fa) (he : starEach (e :: [.Tuple es n tpos]) X.env = (false, eval e X.env) :: starEach [.Tuple es n tpos] X.env := by rfl)
    (he2 : starEach (.Tuple es n tpos :: []) X.env = (false, eval (.Tuple es n tpos) X.env) :: starEach [] X.env := by rfl) (hpl : (backTo pos (starEach [.Tuple es n tpos] X.env)).any (·.1) = false := by rfl) : DE X C Γ (.Call (.Name "isinstance" p) [e, .Tuple es n tpos] [] pos) Γ1 0 (mUn (gIsi cs ts) fa) := by
  obtain ⟨q, pa, hq⟩ := hte.pa
  refine pe_imp (pe_callB call_isiT hg hm PyProof.Rows.boot_isinstance (pa_cons ha (pa_cons (pe_tup pa) pa_nil he2) he) (by decide) (by decide) he hpl) fun σ H Q h => ?_
  obtain ⟨S, ρ, fp, s, h⟩ := h
  refine ⟨S, ρ, fp, s, OutE.then0 h fun d ρ1 v H1 S1 fp1 e1 s1 r1 f1 h1 => hq σ H1 _ ?_⟩
  dsimp only at h1
  cases q2 : gIsi cs ts d with
  | none => rw [q2] at h1; exact h1.elim
  | some b =>
    rw [q2] at h1
    unfold gIsi at q2
    split at q2
    · rename_i hd
      cases q2
      refine ⟨line_of (by rw [List.length_map]; omega), fun tp hp => ?_⟩
      have kk := kept_upd (u := .tup (ts.map fun t => t.v C.T)) hp
      have s2 := s1.grow kk
      refine ⟨v, tp, _, kindT C.T d, _, _, rfl, upd_same, paired_ty, type_of ok hd ((Stay.grow kk).rep r1), kit_any ok hd ht, ?_⟩
      exact h1 _ _ S1 fp1 [] s2 (.of (by simp [Rep])) ⟨fun b o h _ => kk b o h, fun _ z => z, fun _ z => .inl z, fun b z => z.elim .inl fun z => nomatch z⟩
    · cases q2

/-! ### slices -/
abbrev DO (X : Cx) (Z : Cz) (Γ : List Nat) (e : Option Expr) (Γ' : List Nat) (f : Env → R (Option Int × Env)) : Prop :=
  PO X e (fun σ H Q => ∃ S ρ fp, Stt X.K Z.T Γ S σ H ρ fp ∧ match f ρ with
    | .ok (j, ρ') => ∀ H' S' fp', Stt X.K Z.T Γ' S' σ H' ρ' fp' → Fra H S (Ow fp) H' S' (Ow fp') → Q j H'
    | .er c fs => OutX X.K Z.T Z.W σ H S (Ow fp) c fs
    | .bad => False)
def mNoP : Env → R (Option Int × Env) := fun ρ => .ok (none, ρ)
def mPart (fa : Env → R (D × Env)) : Env → R (Option Int × Env) := fun ρ => (fa ρ).bind fun (d, ρ1) => match d with
  | .int j => .ok (some j, ρ1)
  | _ => .bad
theorem po_imp {e : Option Expr} {t t' : TO} (h : PO X e t) (i : ∀ σ H Q, t' σ H Q → t σ H Q) : PO X e t' := ⟨fun pins s σ H Q I q => h.run pins s σ H Q I (i σ H Q q)⟩
theorem do_none : DO X C Γ none Γ mNoP := po_imp po_none fun σ H Q h => by
  obtain ⟨S, ρ, fp, s, h⟩ := h
  exact h H S fp s Fra.refl
theorem do_some (ha : DE X C Γ e Γ1 0 fa) : DO X C Γ (some e) Γ1 (mPart fa) := po_imp (po_some ha) fun σ H Q h => by
  obtain ⟨S, ρ, fp, s, h⟩ := h
  refine ⟨S, ρ, fp, s, ?_⟩
  unfold mPart at h
  cases q : fa ρ with
  | ok ar =>
    obtain ⟨d, ρ1⟩ := ar
    rw [q] at h
    intro v H1 S1 fp1 Fv s1 x1 f1
    obtain ⟨ef, r1⟩ := x1.rep
    subst ef
    cases d with
    | int j => exact ⟨j, rep_int r1, h H1 S1 fp1 s1 f1.ow⟩
    | _ => exact h.elim
  | er c fs => rw [q] at h; exact h
  | bad => rw [q] at h; exact h.elim
/-- the cut of a list -/
def cutD (xs : List D) (lo hi : Option Int) : List D := (xs.drop (HT.sIx xs.length 0 lo)).take (HT.sIx xs.length xs.length hi - HT.sIx xs.length 0 lo)
def gSl (x : D) (lo hi : Option Int) : Option D := match x with
  | .lst xs => some (.lst (cutD xs lo hi))
  | .kls xs => some (.lst (cutD xs lo hi))
  | .tup xs => if HT.sIx xs.length 0 lo = 0 ∧ HT.sIx xs.length xs.length hi = xs.length then none else some (.tup (cutD xs lo hi))
  | _ => none
theorem reps_cut {K : PySem.W.Frag} {T : Tab} {S : Addr → Prop} {H : Hp} {xs : List D} {vs : List V} {lo hi : Option Int} (r : Reps K T H S xs vs) : Reps K T H S (cutD xs lo hi) (cutV vs lo hi) := by
  unfold cutD cutV
  rw [r.length]
  exact (r.drop _).take _
def rSl (K : PySem.W.Frag) : V → Option Int → Option Int → Hp → VK → Prop := fun x lo hi H Q => rSlL K x lo hi H Q ∨ rSlT K x lo hi H Q
theorem o_sl : SlR X (rSl X.K) := SlR.or sl_list sl_tup
theorem p_sl {K : PySem.W.Frag} {T : Tab} {S : Addr → Prop} {H : Hp} {x d : D} {v : V} {lo hi : Option Int} (hk : k ≤ 1) (pe : Pe K T H S x v) (e : gSl x lo hi = some d) : Gives K T S H k d (rSl K v lo hi H) := by
  have lst : ∀ xs, seqD x = some (true, xs) → Gives K T S H k (.lst (cutD xs lo hi)) (rSl K v lo hi H) := fun xs e1 => by
    obtain ⟨a, vs, ev, hl, ht, r⟩ := pe.sq true xs e1
    exact .inr (.inl ⟨_, _, rfl, hk, reps_cut r, fun Q q => .inl ⟨a, vs, ev, hl rfl, q⟩⟩)
  cases x with
  | lst xs => cases e; exact lst xs rfl
  | kls xs => cases e; exact lst xs rfl
  | tup xs =>
    simp only [gSl] at e
    split at e
    · cases e
    · rename_i hn
      cases e
      obtain ⟨a, vs, ev, hl, ht, r⟩ := pe.sq false xs rfl
      rw [r.length] at hn
      exact .inr (.inr ⟨_, _, rfl, hk, reps_cut r, fun Q q => .inr ⟨a, vs, ev, ht rfl, hn, q⟩⟩)
  | _ => cases e
def mSl (fa : Env → R (D × Env)) (fl fu : Env → R (Option Int × Env)) : Env → R (D × Env) := fun ρ => (fa ρ).bind fun (x, ρ1) => (fl ρ1).bind fun (l, ρ2) => (fu ρ2).bind fun (u, ρ3) => (ofO (gSl x l u)).bind fun d => .ok (d, ρ3)
/-- e[lo:hi] -/
theorem de_sl {lo hi : Option Expr} {fl fu : Env → R (Option Int × Env)} {Γ3 : List Nat} {p2 : Pos} (ha : DE X C Γ e Γ1 0 fa) (hl : DO X C Γ1 lo Γ2 fl) (hu : DO X C Γ2 hi Γ3 fu) (hk : k ≤ 1 := by decide) : DE X C Γ (.Subscript e (.Slice lo hi none p2) pos) Γ3 k (mSl fa fl fu) :=
  pe_imp (pe_slice o_sl ha hl hu) fun σ H Q h => by
  obtain ⟨S, ρ, fp, s, h⟩ := h
  refine ⟨S, ρ, fp, s, OutE.then0 h fun d ρ1 v H1 S1 fp1 e1 s1 r1 f1 h1 => ⟨S1, ρ1, fp1, s1, ?_⟩⟩
  dsimp only at h1
  cases ql : fl ρ1 with
  | er c fs => rw [ql] at h1; exact h1
  | bad => rw [ql] at h1; exact h1.elim
  | ok lr =>
    obtain ⟨l, ρ2⟩ := lr
    rw [ql] at h1
    intro H2 S2 fp2 s2 f2
    refine ⟨S2, ρ2, fp2, s2, ?_⟩
    simp only [R.bind_ok] at h1
    have h2 := OutE.before f2 h1
    cases qu : fu ρ2 with
    | er c fs => rw [qu] at h2; exact h2
    | bad => rw [qu] at h2; exact h2.elim
    | ok ur =>
      obtain ⟨u, ρ3⟩ := ur
      rw [qu] at h2
      intro H3 S3 fp3 s3 f3
      simp only [R.bind_ok] at h2
      have h3 := OutE.before f3 h2
      cases qd : gSl d l u with
      | none => rw [qd] at h3; exact h3.elim
      | some y =>
        rw [qd] at h3
        exact gives_out s3 (p_sl hk (.of (s2.rep_fra (s1.rep_fra r1 f2) f3)) qd) h3
/-- x[lo:hi], x a name that owns its list; lo and hi do not change it -/
def mSlN (i : Nat) (fl fu : Env → R (Option Int × Env)) : Env → R (D × Env) := fun ρ => match ρ[i]? with
  | some (some _) => (fl ρ).bind fun (l, ρ2) => (fu ρ2).bind fun (u, ρ3) => match ρ3[i]? with
    | some (some x) => (ofO (gSl x l u)).bind fun d => .ok (d, ρ3)
    | _ => .bad
  | _ => .bad
theorem de_slN {lo hi : Option Expr} {fl fu : Env → R (Option Int × Env)} {p2 : Pos} (hv : PE X (.Name x p) (tVar i)) (hl : DO X C Γ lo Γ1 fl) (hu : DO X C Γ1 hi Γ2 fu) (hk : k ≤ 1 := by decide) (hki : Γ2.getD i 0 ≤ 1 := by decide) : DE X C Γ (.Subscript (.Name x p) (.Slice lo hi none p2) pos) Γ2 k (mSlN i fl fu) :=
  pe_imp (pe_slice o_sl hv hl hu) fun σ H Q h => by
  obtain ⟨S, ρ, fp, s, h⟩ := h
  unfold mSlN at h
  split at h
  · rename_i d0 q0
    obtain ⟨v, hv0, _⟩ := s.sl i d0 q0
    refine ⟨v, hv0, S, ρ, fp, s, ?_⟩
    cases ql : fl ρ with
    | er c fs => rw [ql] at h; exact h
    | bad => rw [ql] at h; exact h.elim
    | ok lr =>
      obtain ⟨l, ρ2⟩ := lr
      rw [ql] at h
      intro H2 S2 fp2 s2 f2
      refine ⟨S2, ρ2, fp2, s2, ?_⟩
      simp only [R.bind_ok] at h
      have h2 := OutE.before f2 h
      cases qu : fu ρ2 with
      | er c fs => rw [qu] at h2; exact h2
      | bad => rw [qu] at h2; exact h2.elim
      | ok ur =>
        obtain ⟨u, ρ3⟩ := ur
        rw [qu] at h2
        intro H3 S3 fp3 s3 f3
        simp only [R.bind_ok] at h2
        have h3 := OutE.before f3 h2
        split at h3
        · rename_i d q3
          obtain ⟨v', hv3, o⟩ := s3.sl i d q3
          rw [hv0] at hv3; cases hv3
          cases qd : gSl d l u with
          | none => rw [qd] at h3; exact h3.elim
          | some y =>
            rw [qd] at h3
            exact gives_out s3 (p_sl hk (.own o hki) qd) h3
        · exact h3.elim
  · exact h.elim
/-- xs[::-1] -/
def gRev (x : D) : Option D := (seqD x).bind fun p => if p.1 = true then some (.lst p.2.reverse) else none
def rRevL (K : PySem.W.Frag) : V → Hp → VK → Prop := fun x H1 Q => ∃ a xs, x = .ref a ∧ SqL K H1 a xs ∧ ∀ p, H1 p = none → Q (.ref p) (upd H1 p (.lst xs.reverse))
theorem p_rev {K : PySem.W.Frag} {T : Tab} (hk : k ≤ 1 := by decide) : Prim1P K T k (rRevL K) gRev := fun S H x v d r e => by
  unfold gRev at e
  cases q : seqD x with
  | none => rw [q] at e; cases e
  | some p =>
    obtain ⟨b, xs⟩ := p
    rw [q] at e
    cases b with
    | false => cases e
    | true =>
      cases e
      obtain ⟨a, vs, ev, hl, ht, r⟩ := r.sq true xs q
      exact .inr (.inl ⟨_, _, rfl, hk, r.reverse, fun Q q => ⟨a, vs, ev, hl rfl, q⟩⟩)
theorem de_rev {n : Nat} {p1 p2 p3 : Pos} (ha : DE X C Γ e Γ1 0 fa) (hk : k ≤ 1 := by decide) : DE X C Γ (.Subscript e (.Slice none none (some (.UnaryOp .USub (.Constant (.int 1) n p1) p2)) p3) pos) Γ1 k (mUn gRev fa) :=
  pe_imp (pe_revL ha) fun σ H Q h => un_data (r := rRevL X.K) (p_rev hk).to h
theorem de_revN {n : Nat} {p1 p2 p3 : Pos} (hv : PE X (.Name x p) (tVar i)) (hi : Γ.getD i 0 ≤ 1 := by decide) (hk : k ≤ 1 := by decide) : DE X C Γ (.Subscript (.Name x p) (.Slice none none (some (.UnaryOp .USub (.Constant (.int 1) n p1) p2)) p3) pos) Γ k (mUnN i gRev) :=
  pe_imp (pe_revL hv) fun σ H Q h => unN_data (r := rRevL X.K) hi (p_rev hk) h

/-! ### methods that keep their receiver -/
def mMeth (c : Nat) (m : List D → R D) (fo : Env → R (D × Env)) (fs : Env → R (List D × Env)) : Env → R (D × Env) := fun ρ => (fo ρ).bind fun (x, ρ1) => match x with
  | .ins c' _ => if c' = c then (fs ρ1).bind fun (xs, ρ2) => (m (x :: xs)).bind fun d => .ok (d, ρ2) else .bad
  | _ => .bad
theorem lookup_out : ∀ {ns : List Str} {vs : List V} {f : Str}, f ∉ ns → (ns.zip vs).lookup f = none
  | [], _, _, _ => rfl
  | _ :: _, [], _, _ => rfl
  | n :: ns, v :: vs, f, h => by
    have e : (f == n) = false := by simpa using fun z => h (by rw [z]; exact List.mem_cons_self)
    simp only [List.zip_cons_cons, List.lookup_cons, e]
    exact lookup_out fun z => h (List.mem_cons_of_mem _ z)
section
variable {c : Nat} {f : Addr} {fd : FuncData} {ps : List Str} {ds : List Value} {dvs : List V} {xd : List D} {m : List D → R D} {E : XK} {pl : Sem Bool}
theorem meth_data {σ : St} {H : Hp} {Q : VK} (hW : C.W = fun cls d _ H => E cls d H) (hf : mn ∉ C.T.fl c) (hxd : ∀ S H, Reps X.K C.T H S xd dvs) (h : tE X.K C.T C.W Γ Γ2 kr (mMeth c (fun xs => m (xs ++ xd)) fa fs) σ H Q) :
    tMeth (C.T.cm c) mn (spF X.K C.T kr m) dvs E (tE X.K C.T C.W Γ Γ1 0 fa) (tA X.K C.T C.W Γ1 Γ2 fs) σ H Q := by
  obtain ⟨S, ρ, fp, s, h⟩ := h
  refine ⟨S, ρ, fp, s, OutE.then0 h fun d ρ1 v H1 S1 fp1 e1 s1 r1 f1 h1 => ?_⟩
  cases d with
  | ins c' fs' =>
    dsimp only at h1
    by_cases ec : c' = c
    · subst ec
      rw [if_pos rfl] at h1
      have r0 := r1
      simp only [Rep] at r0
      obtain ⟨a, dx, vs, rfl, h2, _⟩ := r0
      refine ⟨a, dx, _, rfl, h2, lookup_out hf, S1, ρ1, fp1, s1, OutA.thenE h1 fun xs ρ2 ws H2 S2 fp2 e2 s2 r2 f2 h3 => ?_⟩
      have rr : Reps X.K C.T H2 S2 (.ins c' fs' :: (xs ++ xd)) (.ref a :: (ws ++ dvs)) := by
        simp only [Reps]
        exact ⟨_, _, rfl, s1.rep_fra r1 f2, r2.append (hxd S2 H2)⟩
      have z := call_data (m := m) (C := C) s2 rr h3
      rw [hW] at z
      exact z
    · rw [if_neg ec] at h1; exact h1.elim
  | _ => exact h1.elim
/-- o.m(e, ..) -/
theorem de_meth (hW : C.W = fun cls d _ H => E cls d H) (hcl : Cls X.K (C.T.cm c)) (hm : Meth X.K (C.T.cm c) mn f) (hf : mn ∉ C.T.fl c) (F : FnOk X.prog X.w X.K X.mg X.base (L2.CX X.prog X.w) lv f fd ps (spF X.K C.T kr m)) (hr : Room lv X.A) (tk : Takes X C.W) (hb : Binds X.K fd ps ds) (hd : Vals dvs ds)
    (hxd : ∀ S H, Reps X.K C.T H S xd dvs) (ho : DE X C Γ o Γ1 0 fa) (ha : DA X C Γ1 (e :: es) Γ2 fs) (hst : starEach (e :: es) X.env = (false, eval e X.env) :: starEach es X.env := by rfl) (hpl : (backTo pos (starEach es X.env)).any (·.1) = false := by rfl)
    (ht : eval (.Call (.Attribute o mn apos) (e :: es) [] pos) X.env = (do
      let ov ← eval o X.env
      standAt apos.atName
      let (g, first) ← holding [ov] (getMethod ov mn pl)
      callWith pos g first (backTo pos (starEach (e :: es) X.env)) (backToKw pos (keywordEach [] X.env))) := by rfl) :
    DE X C Γ (.Call (.Attribute o mn apos) (e :: es) [] pos) Γ2 kr (mMeth c (fun xs => m (xs ++ xd)) fa fs) :=
  pe_imp (pe_meth (pl := pl) (E := E) ho hcl hm F hr hb hd (passes_call tk fun cls d σ H z => by rw [hW]; exact z) ha hst hpl ht) fun σ H Q h => meth_data hW hf hxd h
/-- o.m() -/
theorem de_meth0 (hW : C.W = fun cls d _ H => E cls d H) (hcl : Cls X.K (C.T.cm c)) (hm : Meth X.K (C.T.cm c) mn f) (hf : mn ∉ C.T.fl c) (F : FnOk X.prog X.w X.K X.mg X.base (L2.CX X.prog X.w) lv f fd ps (spF X.K C.T kr m)) (hr : Room lv X.A) (tk : Takes X C.W) (hb : Binds X.K fd ps ds) (hd : Vals dvs ds)
    (hxd : ∀ S H, Reps X.K C.T H S xd dvs) (ho : DE X C Γ o Γ1 0 fa) 
    (ht : eval (.Call (.Attribute o mn apos) [] [] pos) X.env = (do
      let ov ← eval o X.env
      standAt apos.atName
      let (g, first) ← holding [ov] (getMethod ov mn pl)
      callWith pos g first (backTo pos (starEach [] X.env)) (backToKw pos (keywordEach [] X.env))) := by rfl) :
    DE X C Γ (.Call (.Attribute o mn apos) [] [] pos) Γ1 kr (mMeth c (fun xs => m (xs ++ xd)) fa mNil) :=
  pe_imp (pe_meth0 (pl := pl) (E := E) ho hcl hm F hr hb hd (passes_call tk fun cls d σ H z => by rw [hW]; exact z) ht) fun σ H Q h => by
    have z := meth_data (Γ1 := Γ1) hW hf hxd h
    obtain ⟨S, ρ, fp, s, z⟩ := z
    refine ⟨S, ρ, fp, s, ?_⟩
    revert z
    generalize fa ρ = r
    intro z
    match r, z with
    | .ok (d, ρ'), z =>
      intro v H' S' fp' Fv s' x' f'
      obtain ⟨a, dx, gs, ev, hh, hl, z⟩ := z v H' S' fp' Fv s' x' f'
      obtain ⟨S2, ρ2, fp2, s2, z⟩ := z
      exact ⟨a, dx, gs, ev, hh, hl, z [] H' S2 fp2 s2 (by simp [Reps]) Fra.refl⟩
    | .er c fs, z => exact z
    | .bad, z => exact z
end

/-! ### reversed, ranges with a step -/
theorem it_revL {K : PySem.W.Frag} {T : Tab} {S : Addr → Prop} {H : Hp} {ds : List D} {a : Addr} {vs : List V} (r : Reps K T H S ds vs) (st : ∀ H' S', Stay K H S H' S' → SqL K H' a vs) : ItOk K T S H (Itv K a vs.length) ds.reverse := by
  have hl := r.length
  refine ⟨fun S' H' s i hi => ?_, fun S' H' s i d hd => ?_, fun S' H' s i d hd x H2 hy => ?_⟩
  · rw [List.length_reverse, hl] at hi; exact hi
  · have hi : i < ds.length := by have := (List.getElem?_eq_some_iff.mp hd).1; simpa using this
    rw [List.getElem?_reverse hi, hl] at hd
    obtain ⟨v, hv, _⟩ := r.get hd
    exact ⟨by omega, vs, v, st H' S' s, hv⟩
  · have hi : i < ds.length := by have := (List.getElem?_eq_some_iff.mp hd).1; simpa using this
    rw [List.getElem?_reverse hi, hl] at hd
    obtain ⟨v, hv, rv⟩ := r.get hd
    obtain ⟨rfl, hu⟩ := hy
    have q := hu vs (st H2 S' s)
    rw [hv] at q; cases q
    exact ⟨fun _ _ h => h, s.rep rv⟩
theorem it_revT {K : PySem.W.Frag} {T : Tab} {S : Addr → Prop} {H : Hp} {ds : List D} {a : Addr} {vs : List V} (r : Reps K T H S ds vs) (st : ∀ H' S', Stay K H S H' S' → SqT K H' a vs) : ItOk K T S H (RT.ItvT K a vs.length) ds.reverse := by
  have hl := r.length
  refine ⟨fun S' H' s i hi => ?_, fun S' H' s i d hd => ?_, fun S' H' s i d hd x H2 hy => ?_⟩
  · rw [List.length_reverse, hl] at hi; exact hi
  · have hi : i < ds.length := by have := (List.getElem?_eq_some_iff.mp hd).1; simpa using this
    rw [List.getElem?_reverse hi, hl] at hd
    obtain ⟨v, hv, _⟩ := r.get hd
    exact ⟨by omega, vs, v, st H' S' s, hv⟩
  · have hi : i < ds.length := by have := (List.getElem?_eq_some_iff.mp hd).1; simpa using this
    rw [List.getElem?_reverse hi, hl] at hd
    obtain ⟨v, hv, rv⟩ := r.get hd
    obtain ⟨rfl, hu⟩ := hy
    have q := hu vs (st H2 S' s)
    rw [hv] at q; cases q
    exact ⟨fun _ _ h => h, s.rep rv⟩
theorem di_revd {tg : Expr} (hg : Gl X "reversed") (hm : X.mg "reversed" = none) (ha : DE X C Γ e Γ1 0 fa) (hs : starEach [e] X.env = (false, eval e X.env) :: starEach [] X.env := by rfl) : DI X C tg Γ (.Call (.Name "reversed" p) [e] [] pos) Γ1 (mSeqD List.reverse fa) :=
  pi_imp (RT.pi_revA hg hm ha hs) fun σ H Q h => by
  obtain ⟨S, ρ, fp, s, h⟩ := h
  refine ⟨S, ρ, fp, s, OutE.thenI h fun d ρ1 v H1 S1 fp1 e1 s1 r1 f1 h1 => ?_⟩
  dsimp only at h1
  cases q : seqD d with
  | none => rw [q] at h1; exact h1.elim
  | some bx =>
    obtain ⟨b, xs⟩ := bx
    rw [q] at h1
    obtain ⟨a, vs, rfl, r, hl, ht⟩ := seq_stay r1 q
    refine ⟨a, vs, rfl, ?_⟩
    cases b with
    | true => exact .inl ⟨hl rfl H1 S1 Stay.refl, h1 _ H1 S1 fp1 s1 (it_revL r (hl rfl)) f1⟩
    | false => exact .inr ⟨ht rfl H1 S1 Stay.refl, h1 _ H1 S1 fp1 s1 (it_revT r (ht rfl)) f1⟩
/-- a shared list or tuple -/
theorem di_seq {tg : Expr} (hl : DI X C tg Γ e Γ1 (mItL fa)) : DI X C tg Γ e Γ1 (mItL fa) := hl
def intsDown (lo : Int) (n : Nat) : List D := (List.range n).map fun (i : Nat) => .int (lo - (i : Int))
theorem it_down {K : PySem.W.Frag} {T : Tab} {S : Addr → Prop} {H : Hp} {lo : Int} {n : Nat} : ItOk K T S H (Itc lo (-1) n) (intsDown lo n) := by
  have len : (intsDown lo n).length = n := by simp [intsDown]
  have get : ∀ {i : Nat} {d : D}, (intsDown lo n)[i]? = some d → i < n ∧ d = .int (lo - (i : Int)) := fun {i d} h => by
    have hi : i < n := by have := (List.getElem?_eq_some_iff.mp h).1; rw [len] at this; exact this
    unfold intsDown at h
    rw [List.getElem?_map, List.getElem?_range hi] at h
    cases h
    exact ⟨hi, rfl⟩
  refine ⟨fun S' H' st i hi => by rw [len] at hi; exact hi, fun S' H' st i d hd => (get hd).1, fun S' H' st i d hd x H2 hy => ?_⟩
  obtain ⟨rfl, rfl⟩ := hy
  rw [(get hd).2]
  refine ⟨fun _ _ h => h, ?_⟩
  simp only [Rep]
  congr 1; omega
def asI3 : List D → Option (Int × Int × Int)
  | [.int i, .int j, .int k] => some (i, j, k)
  | _ => none
theorem asI3_of {ds : List D} {q : Int × Int × Int} (h : asI3 ds = some q) : ds = [.int q.1, .int q.2.1, .int q.2.2] := by
  unfold asI3 at h
  split at h
  · cases h; rfl
  · cases h
/-- range(i, j, -1) -/
def mItR3 (fs : Env → R (List D × Env)) : Env → R (List D × Env) := fun ρ => (fs ρ).bind fun (ds, ρ1) => match asI3 ds with
  | some (i, j, k) => if (inLine i && inLine j && decide (k = -1)) = true then .ok (intsDown i (i - j).toNat, ρ1) else .bad
  | none => .bad
theorem di_range3 {tg c : Expr} (hg : Gl X "range") (hm : X.mg "range" = none) (ha : DA X C Γ [a, b, c] Γ1 fs) (hs : starEach [a, b, c] X.env = (false, eval a X.env) :: starEach [b, c] X.env := by rfl) (hpl : (backTo pos (starEach [b, c] X.env)).any (·.1) = false := by rfl) :
    DI X C tg Γ (.Call (.Name "range" p) [a, b, c] [] pos) Γ1 (mItR3 fs) := pi_imp (pi_range3 hg hm ha hs hpl) fun σ H Q h => by
  obtain ⟨S, ρ, fp, s, h⟩ := h
  refine ⟨S, ρ, fp, s, OutA.thenI h fun ds ρ1 vs H1 S1 fp1 e1 s1 r1 f1 h1 => ?_⟩
  dsimp only at h1
  cases q : asI3 ds with
  | none => rw [q] at h1; exact h1.elim
  | some j =>
    obtain ⟨i, j, k⟩ := j
    rw [q] at h1
    rw [asI3_of q] at r1
    simp only [Reps, Rep] at r1
    obtain ⟨_, _, rfl, rfl, _, _, rfl, rfl, _, _, rfl, rfl, rfl⟩ := r1
    by_cases hl : (inLine i && inLine j && decide (k = -1)) = true
    · simp only [if_pos hl] at h1
      rw [Bool.and_eq_true, Bool.and_eq_true] at hl
      obtain ⟨⟨hi, hj⟩, hk⟩ := hl
      have ek : k = -1 := of_decide_eq_true hk
      subst ek
      obtain ⟨i1, i2⟩ := inLine_of hi
      obtain ⟨j1, j2⟩ := inLine_of hj
      exact ⟨i, j, -1, _, rfl, RgC.neg i1 i2 j1 j2, h1 _ H1 S1 fp1 s1 it_down f1⟩
    · simp only [if_neg hl] at h1; exact h1.elim
end
end Z
set_option Elab.async false
set_option linter.all false
set_option maxRecDepth 100000
/-! Y3: short words for printed terms; the law's end -/
namespace Z
open PySem PySem.Spec L2
open PyProof.Rows hiding St

/-- a def of the module: its name's value, its binding -/
structure Gf (K : PySem.W.Frag) (mg : Str → Option Value) (x : Str) (f : Addr) (fd : FuncData) (ps : List Str) : Prop where
  mg : mg x = some (.ref f)
  kp : PySem.W.keepIn K (.ref f) = true
  bi : Binds K fd ps []
section
variable {X : Cx} {C : Cz} {P : List Nat} {J : Js} {Γ Γ' Γ1 Γ2 : List Nat} {k kr k1 lv i : Nat} {x y mn : Str} {pos p p2 apos : Pos} {a b e o : Expr} {es : List Expr} {kws : List Keyword} {fa fb : Env → R (D × Env)} {fs fk : Env → R (List D × Env)} {m : List D → R D} {mB : List D → R (D × D)}
  {f cl : Addr} {fd : FuncData} {ps ks : List Str} {E : XK} {ft : Env → R (Bool × Env)} {fst' : Env → R (Fl × Env)} {sts : List Stmt}
theorem de_fn (G : Gf X.K X.mg x f fd ps) (F : FnOk X.prog X.w X.K X.mg X.base (L2.CX X.prog X.w) lv f fd ps (spF X.K C.T kr m)) (hr : Room lv X.A) (tk : Takes X C.W) (hg : Gl X x) (ha : DA X C Γ (e :: es) Γ1 fs) (hdb : (x == ("__debug__" : Str)) = false := by decide)
    (he : starEach (e :: es) X.env = (false, eval e X.env) :: starEach es X.env := by rfl) (hpl : (backTo pos (starEach es X.env)).any (·.1) = false := by rfl) : DE X C Γ (.Call (.Name x p) (e :: es) [] pos) Γ1 kr (mCall m fs) := by
  have z := de_call (xd := []) (dvs := []) (ds := []) (p := p) (pos := pos) F hr tk hg G.mg G.kp G.bi .nil (fun S H => by simp [Reps]) ha hdb he hpl
  simpa using z
theorem de_fnB (G : Gf X.K X.mg x f fd ps) (F : FnOk X.prog X.w X.K X.mg X.base (L2.CX X.prog X.w) lv f fd ps (spB X.K C.T k1 kr mB)) (hr : Room lv X.A) (tk : Takes X C.W) (hg : Gl X x) (hy : PE X (.Name y p2) (tVar i)) (ha : DA X C Γ es Γ1 fs) (hΓ : Γ1.getD i 0 = k1 := by rfl) (hi : i < Γ1.length := by decide)
    (hdb : (x == ("__debug__" : Str)) = false := by decide) (he : starEach (.Name y p2 :: es) X.env = (false, eval (.Name y p2) X.env) :: starEach es X.env := by rfl) (hpl : (backTo pos (starEach es X.env)).any (·.1) = false := by rfl) :
    DE X C Γ (.Call (.Name x p) (.Name y p2 :: es) [] pos) Γ1 kr (mCallB i mB fs) := de_callBr F hr tk hg G.mg G.kp G.bi hy ha hΓ hi hdb he hpl
/-- f(k = v, ..) -/
theorem de_fnK {ix : List Nat} {n : Nat} (hW : C.W = fun cls d _ H => E cls d H) (G : Gf X.K X.mg x f fd ps) (hb : KBn X.K fd ps 0 ks (fun us ws => us ++ permL ix ws) (fun us ws => us ++ permL ix ws)) (F : FnOk X.prog X.w X.K X.mg X.base (L2.CX X.prog X.w) lv f fd ps (spF X.K C.T kr m)) (hr : Room lv X.A) (tk : Takes X C.W) (hg : Gl X x) (hkw : DK X C Γ kws Γ1 fk)
    (hall : (backToKw pos (keywordEach kws X.env)).all (·.1.isSome) = true := by rfl) (hks : (backToKw pos (keywordEach kws X.env)).filterMap (·.1) = ks := by rfl) (hn : ks.length = n := by rfl) (hdb : (x == ("__debug__" : Str)) = false := by decide)
    (hpl : ((backTo pos (starEach [] X.env)).any (·.1) || (backToKw pos (keywordEach kws X.env)).any (·.1.isNone)) = false := by rfl) : DE X C Γ (.Call (.Name x p) [] kws pos) Γ1 kr (mCallK m n ix fk) := by
  subst hn
  exact de_callK hW F hr tk hg G.mg G.kp hb hkw hall hks hdb hpl
/-- a class that is made: C(..) -/
structure Gc (K : PySem.W.Frag) (mg : Str → Option Value) (x : Str) (C f : Addr) : Prop where
  mg : mg x = some (.ref C)
  mkk : Mk K C f
/-- what is bound where arguments lack -/
structure Gd (K : PySem.W.Frag) (fd : FuncData) (ps : List Str) (dvs : List V) : Prop where
  bi : ∃ ds, Vals dvs ds ∧ Binds K fd ps ds
theorem Gd.all {K : PySem.W.Frag} (b : Binds K fd ps []) : Gd K fd ps [] := ⟨[], .nil, b⟩
theorem de_new {c : Nat} {xd : List D} {dvs : List V} (hW : C.W = fun cls d _ H => E cls d H) (M : Gc X.K X.mg x (C.T.cm c) f) (hb : Gd X.K fd ps dvs) (F : FnOk X.prog X.w X.K X.mg X.base (L2.CX X.prog X.w) lv f fd ps (spB X.K C.T 1 0 mB)) (hr : Room (lv + 1) X.A) (tk : Takes X C.W) (hg : Gl X x)
    (hxd : ∀ S H, Reps X.K C.T H S xd dvs) (ha : DA X C Γ (e :: es) Γ1 fs) (hdb : (x == ("__debug__" : Str)) = false := by decide) (he : starEach (e :: es) X.env = (false, eval e X.env) :: starEach es X.env := by rfl) (hpl : (backTo pos (starEach es X.env)).any (·.1) = false := by rfl) :
    DE X C Γ (.Call (.Name x p) (e :: es) [] pos) Γ1 1 (mMake c (fun xs => mB (xs ++ xd)) fs) := by
  obtain ⟨ds, hd, hb⟩ := hb.bi
  exact de_make hW M.mkk F hr tk hg M.mg hb hd hxd ha hdb he hpl
theorem de_newK {c : Nat} {ix : List Nat} {n : Nat} (hW : C.W = fun cls d _ H => E cls d H) (M : Gc X.K X.mg x (C.T.cm c) f) (hb : KBn X.K fd ps 1 ks (fun us ws => us ++ permL ix ws) (fun us ws => us ++ permL ix ws)) (F : FnOk X.prog X.w X.K X.mg X.base (L2.CX X.prog X.w) lv f fd ps (spB X.K C.T 1 0 mB)) (hr : Room (lv + 1) X.A) (tk : Takes X C.W)
    (hg : Gl X x) (hkw : DK X C Γ kws Γ1 fk) (hall : (backToKw pos (keywordEach kws X.env)).all (·.1.isSome) = true := by rfl) (hks : (backToKw pos (keywordEach kws X.env)).filterMap (·.1) = ks := by rfl) (hn : ks.length = n := by rfl) (hdb : (x == ("__debug__" : Str)) = false := by decide)
    (hpl : ((backTo pos (starEach [] X.env)).any (·.1) || (backToKw pos (keywordEach kws X.env)).any (·.1.isNone)) = false := by rfl) : DE X C Γ (.Call (.Name x p) [] kws pos) Γ1 1 (mMakeK c mB n ix fk) := by
  subst hn
  exact de_makeK hW M.mkk F hr tk hg M.mg hb hkw hall hks hdb hpl
theorem reps_nil {K : PySem.W.Frag} {T : Tab} : ∀ S H, Reps K T H S [] [] := fun S H => by simp [Reps]
theorem reps_one {K : PySem.W.Frag} {T : Tab} {n : Int} : ∀ S H, Reps K T H S [.int n] [.int n] := fun S H => by simp [Reps, Rep]
/-- ahead of a block i's objects become shared -/
theorem dss_frz (i : Nat) {Γ0 : List Nat} (h : DSs X C P J Γ0 sts fst') (e : Γ0 = Γ.set i 0 := by rfl) : DSs X C P J Γ sts fst' := pss_imp h fun E σ H h => by
  obtain ⟨S, ρ, fp, s, h⟩ := h
  exact ⟨_, ρ, _, by rw [e]; exact s.give i, OutS.before Kp.refl (Fra.give s.sep i) h⟩
/-- try .. where nothing is raised -/
def mTry (f : Env → R (Fl × Env)) : Env → R (Fl × Env) := fun ρ => noEr (f ρ)
theorem ds_try {h0 : ExceptHandler} {hs : List ExceptHandler} (hb : DSs X.nox C.in P J Γ sts fst') : DS X C P J Γ (.Try sts (h0 :: hs) [] [] pos) (mTry fst') := ps_imp (ps_try_thru0 hb) fun E σ H h => by
  obtain ⟨S, ρ, fp, s, h⟩ := h
  refine ⟨S, ρ, fp, s, ?_⟩
  unfold mTry at h
  revert h
  generalize fst' ρ = r
  intro h
  match r, h with
  | .ok (.nx, ρ'), h => exact h
  | .ok (.bk, ρ'), h => exact h
  | .ok (.ct, ρ'), h => exact h
  | .ok (.rt d, ρ'), h => exact h
  | .er c fs, h => exact h.elim
  | .bad, h => exact h.elim
end
/-- at a return what i owns is shared -/
theorem ds_wkR {X : Cx} {C : Cz} {P : List Nat} {J : Js} {Γ : List Nat} {st : Stmt} {f : Env → R (Fl × Env)} (i : Nat) (Γn : List Nat) (h : DS X C P { J with rt := Γn } Γ st f) (e : J.rt = Γn.set i 0 := by rfl) : DS X C P J Γ st f := ps_imp h fun E σ H h => by
  obtain ⟨S, ρ, fp, s, h⟩ := h
  refine ⟨S, ρ, fp, s, ?_⟩
  revert h
  generalize f ρ = r
  intro h
  match r, h with
  | .ok (.nx, ρ'), h => exact h
  | .ok (.bk, ρ'), h => exact h
  | .ok (.ct, ρ'), h => exact h
  | .ok (.rt d, ρ'), h =>
    intro v σ' H' S' fp' Fv s' x' k f'
    refine h v σ' H' (fun a => S' a ∨ a ∈ fp' i) (fpSet fp' i []) Fv (by rw [e]; exact s'.give i) ⟨x'.own.stay (Stay.more fun a h => .inl h) fun a _ o h => h, x'.nd, fun a m z => z.elim (x'.ns a m) (x'.dj a m i), fun a m j z => ?_⟩ k ⟨f'.kp, fun b z => .inl (f'.sm b z), fun b z => z.elim (f'.so b) fun z => .inr (f'.oo b (.inl ⟨i, z⟩)), fun b z => ?_⟩
    · rcases mem_fpSet z with ⟨_, z⟩ | ⟨_, z⟩
      · cases z
      · exact x'.dj a m j z
    · rcases z with ⟨j, z⟩ | z
      · rcases mem_fpSet z with ⟨_, z⟩ | ⟨_, z⟩
        · cases z
        · exact f'.oo b (.inl ⟨j, z⟩)
      · exact f'.oo b (.inr z)
  | .er c fs, h => exact h
  | .bad, h => exact h
theorem fn_bad {P : Program} {w : World} {K : PySem.W.Frag} {T : Tab} {mg : Str → Option Value} {base : Heap} {lv kr : Nat} {f : Addr} {fd : FuncData} {ps : List Str} : FnOk P w K mg base (L2.CX P w) lv f fd ps (spF K T kr fun _ => .bad) :=
  ⟨fun _ _ _ _ h => by obtain ⟨_, _, _, _, h⟩ := h; exact h.elim, fun _ _ _ _ _ _ _ _ _ _ _ _ _ h => by obtain ⟨_, _, _, _, h⟩ := h; exact h.elim⟩
theorem fn_badB {P : Program} {w : World} {K : PySem.W.Frag} {T : Tab} {mg : Str → Option Value} {base : Heap} {lv kr k1 : Nat} {f : Addr} {fd : FuncData} {ps : List Str} : FnOk P w K mg base (L2.CX P w) lv f fd ps (spB K T k1 kr fun _ => .bad) :=
  ⟨fun _ _ _ _ h => by obtain ⟨_, _, _, _, _, _, _, _, _, _, _, _, h⟩ := h; exact h.elim, fun _ _ _ _ _ _ _ _ _ _ _ _ _ h => by obtain ⟨_, _, _, _, _, _, _, _, _, _, _, _, h⟩ := h; exact h.elim⟩
theorem de_globE {X : Cx} {C : Cz} {Γ : List Nat} {x : Str} {pos : Pos} {v : V} {d : D} (h : ∃ u, X.mg x = some u ∧ RelV v u) (hg : Gl X x) (rd : ∀ S H, Rep X.K C.T H S d v) (hd : (x == ("__debug__" : Str)) = false := by decide) : DE X C Γ (.Name x pos) Γ 0 (mCon d) := by
  obtain ⟨u, h1, h2⟩ := h
  exact de_glob hg h1 h2 rd hd
section
variable {K : PySem.W.Frag} {x qual : Str} {st : Stmt} {f : Addr} {oc : Value} {od an : Option Addr} {osl : Array (Option Value)} {kV doc pm cdv ct : Value}
theorem funD_mk (l : K.lookup f = some ⟨oc, od, .func (PySem.W.fnOf x qual (defArgs st) (defBody st) (defScope st) .none kV doc pm an cdv ct), osl⟩) (c : PySem.W.codeIn K cdv qual = true) (k : PySem.W.keepIn K (.ref f) = true) :
    FunD K x qual (defArgs st) (defBody st) (defScope st) [] [] f (PySem.W.fnOf x qual (defArgs st) (defBody st) (defScope st) .none kV doc pm an cdv ct) := ⟨⟨oc, od, .none, kV, doc, pm, an, cdv, ct, osl, rfl, l, c, .inl ⟨rfl, rfl⟩, .inl rfl⟩, k⟩
/-- one default, an int -/
theorem funD_mk1 {T : Addr} {j : Int} {tj : Tok} {n : Nat} {tc : Value} {td : Option Addr} {tsl : Array (Option Value)} (l : K.lookup f = some ⟨oc, od, .func (PySem.W.fnOf x qual (defArgs st) (defBody st) (defScope st) (.ref T) kV doc pm an cdv ct), osl⟩) (c : PySem.W.codeIn K cdv qual = true) (k : PySem.W.keepIn K (.ref f) = true)
    (lT : K.lookup T = some ⟨tc, td, .seq #[.int j tj] n, tsl⟩) :
    FunD K x qual (defArgs st) (defBody st) (defScope st) [.int j] [] f (PySem.W.fnOf x qual (defArgs st) (defBody st) (defScope st) (.ref T) kV doc pm an cdv ct) :=
  ⟨⟨oc, od, .ref T, kV, doc, pm, an, cdv, ct, osl, rfl, l, c, .inr ⟨by simp, T, _, [.int j tj], n, rfl, lT, rfl, .cons ⟨tj, rfl⟩ .nil⟩, .inl rfl⟩, k⟩
end
section
variable {X : Cx} {C : Cz} {P : List Nat} {J : Js} {Γ Γ1 : List Nat} {k i j : Nat} {x y : Str} {pos p px py pt pt2 : Pos} {a b e : Expr} {kt k2 : Nat} {fa : Env → R (D × Env)} {fs : Env → R (List D × Env)}
/-- x = e -/
theorem ds_nm (hN : X.N.Nodup) (hi : X.N[i]? = some x) (hx : Loc X.env.scope x) (ha : DE X C Γ e Γ1 k fa) (hil : i < Γ1.length := by decide) (hp : i ∉ P := by decide) (h1 : J.nx = Γ1.set i k := by rfl) (hs : swapsWith e (some (.Name x p)) pos.line X.env = pure false := by rfl)
    (hf : X.fn x = true ∨ X.env.scope.names.lookup x = some .local := by first | exact .inl rfl | exact .inr rfl | assumption) : DS X C P J Γ (.Assign [.Name x p] e pos) (mSet i fa) := ds_set (ps_set hN hi hx ha hs hf) (fun _ _ _ h => h) hil hp h1
theorem ds_nm2 (hc : X.calm = true) (hN : X.N.Nodup) (hi : X.N[i]? = some x) (hj : X.N[j]? = some y) (hij : i ≠ j) (hx : X.env.scope.names.lookup x = some .local) (hy : X.env.scope.names.lookup y = some .local) (ha : DA X C Γ [a, b] Γ1 fs)
    (hw : swappedStores [.Tuple [.Name x px, .Name y py] kt pt] (.Tuple [a, b] k2 pt2) X.env = pure (some [x, y])) (hil : i < Γ1.length := by decide) (hjl : j < Γ1.length := by decide) (hp : i ∉ P := by decide) (hq : j ∉ P := by decide) (h1 : J.nx = (Γ1.set i 0).set j 0 := by rfl)
    (hs : swapsWithSole [.Tuple [.Name x px, .Name y py] kt pt] (.Tuple [a, b] k2 pt2) pos.line X.env = pure false := by rfl) :
    DS X C P J Γ (.Assign [.Tuple [.Name x px, .Name y py] kt pt] (.Tuple [a, b] k2 pt2) pos) (mPar i j fs) := ds_par (ps_par hc hN hi hj hij hx hy ha hw hs) hil hjl hp hq h1
end
/-- the script at the law's door -/
theorem law_start {K : PySem.W.Frag} {T : Tab} {H : Hp} {a : Addr} {ns : List Int} {m : List D → R D} (hO : Only H) (hS : SqL K H a (ns.map V.int)) (h : m [.kls (ns.map D.int)] = .ok (.bl true)) : spF K T 0 m [.ref a] H (fun v _ => v = .bl true) fun _ _ _ => False := by
  have reps : ∀ ns : List Int, Reps K T H (fun _ => False) (ns.map D.int) (ns.map V.int) := by
    intro ns
    induction ns with
    | nil => simp [Reps]
    | cons n r ih =>
      simp only [List.map_cons, Reps]
      exact ⟨_, _, rfl, by simp [Rep], ih⟩
  refine ⟨fun _ => False, [.kls (ns.map D.int)], ?_, fun _ z => z.elim, ?_⟩
  · simp only [Reps, Rep]
    refine ⟨.ref a, [], rfl, ⟨a, ns.map V.int, rfl, ?_, reps ns⟩, rfl⟩
    rcases hS with (h | ⟨o, h⟩) | h
    · rcases hO a with z | ⟨o, xs, z⟩
      · rw [h] at z; cases z
      · rw [h] at z; cases z
    · exact .inl ⟨o, h⟩
    · exact .inr h
  · rw [h]
    intro v H' S' Fv o _ _ _ _
    exact rep_bl (own_zero.mp o).2
end Z
set_option Elab.async false
set_option linter.all false
set_option maxRecDepth 100000
/-! Y4: the law's end: from facts of the written part to contracts -/
namespace Z
open PySem PySem.Spec L2
open PyProof.Rows hiding St

def spLaw (K : PySem.W.Frag) : Sp := fun vs H Q _ => ∃ (a : Addr) (ns : List Int), vs = [.ref a] ∧ SqL K H a (ns.map V.int) ∧ ns.length ≤ 63 ∧ Only H ∧ ∀ H', Q (.bl true) H'
theorem law_imp {K : PySem.W.Frag} {T : Tab} {m : List D → R D} (hm : ∀ ns : List Int, ns.length ≤ 63 → m [.kls (ns.map D.int)] = .ok (.bl true)) : ∀ vs H Q E, spLaw K vs H Q E → spF K T 0 m vs H Q E := by
  rintro vs H Q E ⟨a, ns, rfl, hS, hl, hO, q⟩
  have z := law_start (T := T) (m := m) hO hS (hm ns hl)
  obtain ⟨S, ds, r, al, h⟩ := z
  have reps : ∀ ns : List Int, Reps K T H (fun _ => False) (ns.map D.int) (ns.map V.int) := by
    intro ns
    induction ns with
    | nil => simp [Reps]
    | cons n r ih =>
      simp only [List.map_cons, Reps]
      exact ⟨_, _, rfl, by simp [Rep], ih⟩
  refine ⟨fun _ => False, [.kls (ns.map D.int)], ?_, fun _ z => z.elim, ?_⟩
  · simp only [Reps, Rep]
    refine ⟨.ref a, [], rfl, ⟨a, ns.map V.int, rfl, ?_, reps ns⟩, rfl⟩
    rcases hS with (h | ⟨o, h⟩) | h
    · rcases hO a with z | ⟨o, xs, z⟩
      · rw [h] at z; cases z
      · rw [h] at z; cases z
    · exact .inl ⟨o, h⟩
    · exact .inr h
  · rw [hm ns hl]
    intro v H' S' Fv o _ _ _ _
    rw [rep_bl (own_zero.mp o).2]
    exact q H'
theorem walk {l : PySem.W.OpenLaw} {q : Program} {loose : List Str} {XP : (Str → Option Value) → Heap → Prop} {YP : World → Heap → Prop} {d : DefRec} {K : Params → PySem.W.Frag} {k : Nat} (hn : l.most = some 63) (hdf : d.params.defaults = []) (hk : Room k callerA)
    (hY : ∀ (w : World) (h : Heap), YP w h → (K w.params).In h)
    (F : ∀ (w : World) (mg : Str → Option Value) (fa : Addr) (h : Heap), (K w.params).In h → h.Ns mainGlobals mg → mg d.name = some (.ref fa) →
      ∃ fd : FuncData, (∀ (s : Shared) (u : Value), BindsTo s fd ⟨[u], []⟩ [("script", u)]) ∧ ∀ base : Heap, (K w.params).In base → base.Ns mainGlobals mg → FnOk l.prog w (K w.params) mg base (L2.CX l.prog w) k fa fd ["script"] (spLaw (K w.params))) :
    PySem.W.WalkO q loose XP YP l.row.toRowW d [] (fun f vs => PySem.call f vs) :=
  L2.walk_of (n := 63) (k := k) (x := "script") (CX := fun w => L2.CX l.prog w) (sp := fun w => spLaw (K w.params)) hn (by decide) hdf hk hY F (fun _ _ a ns hl hO hS => ⟨a, ns, rfl, hS, hl, hO, fun _ => rfl⟩) fun _ _ _ _ _ ⟨_, _, _, _, _, _, _, _, _, _, _, _, z⟩ => z

section
variable {K : PySem.W.Frag}
theorem kit_bo {C : Addr} {n : String} (h1 : PySem.W.isClsIn K C = true) (h2 : PySem.W.typeIn K (.ref C) = some (.type "type")) (h3 : PySem.W.subIn K (.type n) (.ref C) = some false) : PySem.W.kitOne K (.type n) (.ref C) = some false := by
  unfold PySem.W.kitOne
  rw [if_neg (show ¬ ((Value.type n == Value.ref C) = true) from Bool.false_ne_true)]
  unfold PySem.W.kitCls
  dsimp only
  rw [if_pos (by rw [h2, show (PySem.W.clsIn K C).isSome = true from h1]; rfl)]
  exact h3
theorem kit_ob {C : Addr} {n : String} (hm : PySem.W.kitMeta n = true) (h3 : PySem.W.subIn K (.ref C) (.type n) = some false) : PySem.W.kitOne K (.ref C) (.type n) = some false := by
  unfold PySem.W.kitOne
  rw [if_neg (show ¬ ((Value.ref C == Value.type n) = true) from Bool.false_ne_true)]
  unfold PySem.W.kitCls
  dsimp only
  rw [if_pos hm]
  exact h3
theorem kit_oo {C C' : Addr} (hn : (C == C') = false) (h1 : PySem.W.isClsIn K C' = true) (h2 : PySem.W.typeIn K (.ref C') = some (.type "type")) (h3 : PySem.W.subIn K (.ref C) (.ref C') = some false) : PySem.W.kitOne K (.ref C) (.ref C') = some false := by
  unfold PySem.W.kitOne
  rw [if_neg (show ¬ ((Value.ref C == Value.ref C') = true) from fun z => by
    have e : Value.ref C = Value.ref C' := beq_iff_eq.mp z
    cases e
    rw [beq_self_eq_true] at hn; cases hn)]
  unfold PySem.W.kitCls
  dsimp only
  rw [if_pos (by rw [h2, show (PySem.W.clsIn K C').isSome = true from h1]; rfl)]
  exact h3
theorem kit_self {C : Addr} : PySem.W.kitOne K (.ref C) (.ref C) = some true := by
  unfold PySem.W.kitOne
  rw [if_pos (show (Value.ref C == Value.ref C) = true from beq_self_eq_true _)]
/-- a class's own facts about types -/
structure ClF (K : PySem.W.Frag) (C : Addr) : Prop where
  isc : PySem.W.isClsIn K C = true
  ty : PySem.W.typeIn K (.ref C) = some (.type "type")
  cl : PySem.W.findIn K (.ref C) "__class__" = some (some (.builtin "object.__class__"))
  mo : PySem.W.mroIn K C (.type "object") = some true
  b1 : PySem.W.subIn K (.type "NoneType") (.ref C) = some false
  b2 : PySem.W.subIn K (.type "bool") (.ref C) = some false
  b3 : PySem.W.subIn K (.type "int") (.ref C) = some false
  b4 : PySem.W.subIn K (.type "str") (.ref C) = some false
  b5 : PySem.W.subIn K (.type "list") (.ref C) = some false
  b6 : PySem.W.subIn K (.type "tuple") (.ref C) = some false
  o1 : PySem.W.subIn K (.ref C) (.type "int") = some false
  o2 : PySem.W.subIn K (.ref C) (.type "bool") = some false
  o3 : PySem.W.subIn K (.ref C) (.type "list") = some false
  o4 : PySem.W.subIn K (.ref C) (.type "tuple") = some false
  o5 : PySem.W.subIn K (.ref C) (.type "str") = some false
theorem tyOk_mk {T : Tab} {cs : List Nat} (hn : PySem.W.specialIn K (.builtin "object.__class__") "__get__" = some (some (.builtin "getset_descriptor.__get__"))) (tk : PySem.W.takesIn K (.builtin "object.__class__") = some true)
    (cl : ∀ c ∈ cs, Cls K (T.cm c) ∧ ClF K (T.cm c)) (oo : ∀ c ∈ cs, ∀ c' ∈ cs, (c == c') = false → (T.cm c == T.cm c') = false ∧ PySem.W.subIn K (.ref (T.cm c)) (.ref (T.cm c')) = some false) : TyOk K T cs := by
  refine ⟨fun c hc => ⟨(cl c hc).1, (cl c hc).2.cl, hn, tk, (cl c hc).2.mo⟩, fun c hc n h => ?_, fun c hc n h => ?_, fun c hc c' hc' => ?_⟩
  · have q := (cl c hc).2
    have z : PySem.W.subIn K (.type n) (.ref (T.cm c)) = some false := by
      simp only [List.mem_cons, List.mem_nil_iff, or_false] at h
      rcases h with rfl | rfl | rfl | rfl | rfl | rfl
      · exact q.b1
      · exact q.b2
      · exact q.b3
      · exact q.b4
      · exact q.b5
      · exact q.b6
    exact kit_bo q.isc q.ty z
  · have q := (cl c hc).2
    simp only [List.mem_cons, List.mem_nil_iff, or_false] at h
    rcases h with rfl | rfl | rfl | rfl | rfl
    · exact kit_ob (by decide +kernel) q.o1
    · exact kit_ob (by decide +kernel) q.o2
    · exact kit_ob (by decide +kernel) q.o3
    · exact kit_ob (by decide +kernel) q.o4
    · exact kit_ob (by decide +kernel) q.o5
  · cases e : c == c' with
    | true =>
      have : c = c' := by simpa using e
      subst this
      exact kit_self
    | false =>
      obtain ⟨h1, h2⟩ := oo c hc c' hc' e
      exact kit_oo h1 (cl c' hc').2.isc (cl c' hc').2.ty h2
theorem fld_mk {T : Tab} {f : Str} {ix : List (Nat × Nat)} (h : ∀ p ∈ ix, Cls K (T.cm p.1) ∧ NoAttr K (T.cm p.1) f ∧ (T.fl p.1)[p.2]? = some f ∧ (T.fl p.1).Nodup) : FldOk K T f ix := by
  refine ⟨fun c j e => ?_⟩
  have m : (c, j) ∈ ix := by
    clear h
    induction ix with
    | nil => cases e
    | cons p r ih =>
      obtain ⟨c', j'⟩ := p
      simp only [List.lookup_cons] at e
      split at e
      · rename_i z
        have : c = c' := by simpa using z
        cases e; subst this; exact List.mem_cons_self
      · exact List.mem_cons_of_mem _ (ih e)
  exact h _ m
theorem kbn_of2 {fd : FuncData} {ps ks : List Str} {n : Nat} {ix : List Nat} (h : ∀ us ws : List Value, us.length = n → ws.length = ks.length → bindArgs fd ⟨us, ks.zip ws⟩ = pure (ps.zip (us ++ permL ix ws))) : KBn K fd ps n ks (fun us ws => us ++ permL ix ws) (fun us ws => us ++ permL ix ws) :=
  ⟨fun s us ws _ l1 l2 => BindsTo.of_eq (h us ws l1 l2), fun r1 r2 => r1.append (vals_perm r2)⟩
theorem const_mk {h : Heap} {mg : Str → Option Value} {x : Str} {u : Value} {v : V} (X : K.In h) (G : h.Ns mainGlobals mg) (e : PySem.W.nsIn K mainGlobals x = some (some u)) (r : RelV v u) : ∃ u, mg x = some u ∧ RelV v u := ⟨u, PySem.W.mg_of X G e, r⟩
end
end Z
set_option Elab.async false
set_option linter.all false
set_option maxRecDepth 100000
/-! W1: plain reasoning about mirrors -/
namespace Z
open PySem PySem.Spec L2
open PyProof.Rows hiding St

theorem bind_ite {α β : Type} {c : Prop} [Decidable c] {a b : R α} {f : α → R β} : (if c then a else b).bind f = if c then a.bind f else b.bind f := by split <;> rfl
/-- a loop by its invariant -/
theorem for_inv {g : D → Env → Option Env} {fb : Env → R (Fl × Env)} (I : Nat → Env → Prop) : ∀ (ds : List D) (k : Nat) (ρ : Env), I k ρ →
    (∀ i d ρ, ds[i]? = some d → I (k + i) ρ → ∃ ρ1 ρ2, g d ρ = some ρ1 ∧ (fb ρ1 = .ok (.nx, ρ2) ∨ fb ρ1 = .ok (.ct, ρ2)) ∧ I (k + i + 1) ρ2) → ∃ ρ', mForL g fb ds ρ = .ok (.nx, ρ') ∧ I (k + ds.length) ρ'
  | [], k, ρ, h0, _ => ⟨ρ, rfl, h0⟩
  | d :: ds, k, ρ, h0, st => by
    obtain ⟨ρ1, ρ2, e1, e2, h1⟩ := st 0 d ρ rfl h0
    obtain ⟨ρ', e3, h3⟩ := for_inv I ds (k + 1) ρ2 h1 fun i d' ρ' hd hi => by
      have e : k + 1 + i = k + (i + 1) := by omega
      rw [e] at hi ⊢
      exact st (i + 1) d' ρ' (by simpa using hd) hi
    refine ⟨ρ', ?_, by have e : k + (d :: ds).length = k + 1 + ds.length := by simp; omega
                       rw [e]; exact h3⟩
    rw [mForL, e1]
    rcases e2 with e2 | e2
    · simp only [ofO, R.bind_ok, e2]; exact e3
    · simp only [ofO, R.bind_ok, e2]; exact e3
/-- a comprehension by its invariant -/
theorem comp_inv {vs : List Nat} {g : D → Env → Option Env} {ft : Env → R (Bool × Env)} {fe : Env → R (D × Env)} (I : Nat → List D → Env → Prop) : ∀ (ds : List D) (k : Nat) (acc : List D) (ρ : Env), I k acc ρ →
    (∀ i d acc ρ, ds[i]? = some d → I (k + i) acc ρ → ∃ ρ1 b ρ2, g d ρ = some ρ1 ∧ ft ρ1 = .ok (b, ρ2) ∧ ((b = true ∧ ∃ y ρ3, fe ρ2 = .ok (y, ρ3) ∧ I (k + i + 1) (acc ++ [y]) (wipeE ρ3 vs)) ∨ (b = false ∧ I (k + i + 1) acc (wipeE ρ2 vs)))) →
    ∃ ys ρ', mCompL vs g ft fe ds ρ = .ok (ys, ρ') ∧ I (k + ds.length) (acc ++ ys) ρ'
  | [], k, acc, ρ, h0, _ => ⟨[], ρ, rfl, by simpa using h0⟩
  | d :: ds, k, acc, ρ, h0, st => by
    obtain ⟨ρ1, b, ρ2, e1, e2, h1⟩ := st 0 d acc ρ rfl h0
    have next : ∀ acc' ρ3, I (k + 1) acc' ρ3 → ∃ ys ρ', mCompL vs g ft fe ds ρ3 = .ok (ys, ρ') ∧ I (k + 1 + ds.length) (acc' ++ ys) ρ' := fun acc' ρ3 h => comp_inv I ds (k + 1) acc' ρ3 h fun i d' a' ρ' hd hi => by
      have e : k + 1 + i = k + (i + 1) := by omega
      rw [e] at hi ⊢
      exact st (i + 1) d' a' ρ' (by simpa using hd) hi
    have el : k + (d :: ds).length = k + 1 + ds.length := by simp; omega
    rw [el]
    rcases h1 with ⟨rfl, y, ρ3, e3, h3⟩ | ⟨rfl, h3⟩
    · obtain ⟨ys, ρ', e4, h4⟩ := next _ _ h3
      refine ⟨y :: ys, ρ', ?_, by simpa using h4⟩
      unfold mCompL
      simp only [e1, e2, e3, e4, ofO, noEr, R.bind_ok, if_true]
    · obtain ⟨ys, ρ', e4, h4⟩ := next _ _ h3
      refine ⟨ys, ρ', ?_, h4⟩
      unfold mCompL
      simp only [e1, e2, e4, ofO, noEr, R.bind_ok, Bool.false_eq_true, if_false]
/-- a comprehension that changes nothing -/
theorem comp_map {vs : List Nat} {g : D → Env → Option Env} {fe : Env → R (D × Env)} {ρ : Env} {h : D → D} : ∀ (ds : List D), (∀ d ∈ ds, ∃ ρ1 ρ2, g d ρ = some ρ1 ∧ fe ρ1 = .ok (h d, ρ2) ∧ wipeE ρ2 vs = ρ) → mCompL vs g mYes fe ds ρ = .ok (ds.map h, ρ)
  | [], _ => rfl
  | d :: ds, st => by
    obtain ⟨ρ1, ρ2, e1, e2, e3⟩ := st d List.mem_cons_self
    have e4 := comp_map ds fun d' m => st d' (List.mem_cons_of_mem _ m)
    unfold mCompL
    simp only [e1, e2, e3, e4, ofO, noEr, mYes, R.bind_ok, if_true, List.map_cons]
theorem gII_eq {c : Int → Int → Bool} {f : Int → Int → Int} {i j : Int} (h : c i j = true) : gII c f (.int i) (.int j) = some (.int (f i j)) := if_pos h
theorem cMul_r {i j : Int} (h : j.natAbs < 18446744073709551616) : cMul i j = true := by
  have : small64 j = true := decide_eq_true h
  unfold cMul; rw [this, Bool.or_true, Bool.true_or]
theorem cMul_l {i j : Int} (h : i.natAbs < 18446744073709551616) : cMul i j = true := by
  have : small64 i = true := decide_eq_true h
  unfold cMul; rw [this, Bool.true_or, Bool.true_or]
theorem cDiv_r {i j : Int} (h0 : 0 < j) (h : j < 1073741824) : cDiv i j = true := by
  unfold cDiv
  rw [decide_eq_true (show j ≠ 0 by omega), decide_eq_true (show j.natAbs < 1073741824 by omega)]; rfl
theorem cDiv_p {i j : Int} (h0 : 0 < j) (h : j < 1180591620717411303424) : cDiv i j = true := by
  have l : j.natAbs.log2 < 9000 := by
    have e : (2 : Nat) ^ 70 = 1180591620717411303424 := by decide
    have := PySem.Flt.log2_lt_of (n := j.natAbs) (k := 70) (by decide) (by omega)
    omega
  unfold cDiv small5k
  rw [decide_eq_true (show j ≠ 0 by omega), decide_eq_true h0, decide_eq_true l, Bool.true_and, Bool.true_and, Bool.or_true]
theorem cNz_r {i j : Int} (h0 : j ≠ 0) : cNz i j = true := decide_eq_true h0
theorem cLcm_of {i j : Int} (h : i.natAbs < 18446744073709551616) (h' : j.natAbs < 18446744073709551616) : cLcm i j = true := by
  unfold cLcm small64
  rw [decide_eq_true h, decide_eq_true h']; rfl
theorem inLine_ok {i : Int} (h : -4611686018427387904 ≤ i) (h' : i < 4611686018427387904) : inLine i = true := by
  unfold inLine
  have e : (2 : Int) ^ 62 = 4611686018427387904 := by decide
  rw [e, decide_eq_true h, decide_eq_true h']; rfl
theorem fdiv_pos (a : Int) {b : Int} (h : 0 < b) : a.fdiv b = a / b := Int.fdiv_eq_ediv_of_nonneg a (Int.le_of_lt h)
theorem atI_nat {α : Type} {xs : List α} {i : Nat} {a : α} (h : xs[i]? = some a) : atI xs (i : Int) = some a := by
  have hl := (List.getElem?_eq_some_iff.mp h).1
  unfold atI ixN
  rw [if_pos (Int.natCast_nonneg i), if_pos (by omega)]
  simpa using h
theorem atI_of {α : Type} {xs : List α} {i : Int} {a : α} (h0 : 0 ≤ i) (h : xs[i.toNat]? = some a) : atI xs i = some a := by
  obtain ⟨n, rfl⟩ := Int.eq_ofNat_of_zero_le h0
  exact atI_nat (by simpa using h)
theorem atI_last {α : Type} {xs : List α} {a : α} (h : xs.getLast? = some a) : atI xs (-1) = some a := by
  rw [List.getLast?_eq_getElem?] at h
  have hl := (List.getElem?_eq_some_iff.mp h).1
  unfold atI ixN
  rw [if_neg (by decide), if_pos (by omega)]
  simp only [Option.bind_some]
  rw [show (-1 + (xs.length : Int)).toNat = xs.length - 1 by omega]
  exact h
/-! numbers -/
theorem gcdI_comm (a b : Int) : gcdI a b = gcdI b a := by rw [gcdI_def, gcdI_def, Nat.gcd_comm]
theorem gcdI_nn (a b : Int) : 0 ≤ gcdI a b := by rw [gcdI_def]; exact Int.natCast_nonneg _
theorem gcdI_pos {a b : Int} (h : 0 < b) : 0 < gcdI a b := by
  rw [gcdI_def]
  have := Nat.gcd_pos_of_pos_right a.natAbs (show 0 < b.natAbs by omega)
  omega
theorem gcdI_le {a b : Int} (h : 0 < b) : gcdI a b ≤ b := by
  rw [gcdI_def]
  have := Nat.gcd_le_right a.natAbs (show 0 < b.natAbs by omega)
  omega
theorem gcd_zero (a : Int) (ha : 0 ≤ a) : gcdI a 0 = a := by
  rw [gcdI_def]
  simp
  omega
theorem gcd_step (a b : Int) (ha : 0 ≤ a) (hb : 0 < b) : gcdI a b = gcdI b (a.fmod b) := by
  rw [gcdI_def, gcdI_def]
  obtain ⟨x, rfl⟩ := Int.eq_ofNat_of_zero_le ha
  obtain ⟨y, rfl⟩ := Int.eq_ofNat_of_zero_le (Int.le_of_lt hb)
  rw [Int.fmod_eq_emod_of_nonneg _ (by omega)]
  simp only [Int.natAbs_natCast, ← Int.natCast_emod]
  rw [Nat.gcd_comm x y, Nat.gcd_rec y x, Nat.gcd_comm (x % y) y]
theorem lcmI_eq {a b : Int} (ha : 0 < a) (hb : 0 < b) : a * (b / gcdI a b) = lcmI a b := by
  obtain ⟨x, rfl⟩ := Int.eq_ofNat_of_zero_le (Int.le_of_lt ha)
  obtain ⟨y, rfl⟩ := Int.eq_ofNat_of_zero_le (Int.le_of_lt hb)
  rw [gcdI_def, lcmI_def]
  unfold Nat.lcm
  simp only [Int.natAbs_natCast]
  rw [← Int.natCast_ediv, ← Int.natCast_mul, Nat.mul_div_assoc _ (Nat.gcd_dvd_right x y)]
theorem lcmI_le {a b : Int} (ha : 0 < a) (hb : 0 < b) : 0 < lcmI a b ∧ lcmI a b ≤ a * b := by
  obtain ⟨x, rfl⟩ := Int.eq_ofNat_of_zero_le (Int.le_of_lt ha)
  obtain ⟨y, rfl⟩ := Int.eq_ofNat_of_zero_le (Int.le_of_lt hb)
  rw [lcmI_def]
  simp only [Int.natAbs_natCast]
  have h1 : 0 < Nat.lcm x y := Nat.lcm_pos (by omega) (by omega)
  have h2 : Nat.lcm x y ≤ x * y := by unfold Nat.lcm; exact Nat.div_le_self _ _
  constructor
  · omega
  · rw [← Int.natCast_mul]; omega
theorem dvd_lcmI_l (a b : Int) : a ∣ lcmI a b := by
  rw [lcmI_def]
  exact Int.ofNat_dvd_right.mpr (Nat.dvd_lcm_left _ _)
theorem dvd_lcmI_r (a b : Int) : b ∣ lcmI a b := by
  rw [lcmI_def]
  exact Int.ofNat_dvd_right.mpr (Nat.dvd_lcm_right _ _)
/-- Frac's lowest terms: num / g, den / g -/
theorem gcdI_dvd_l (a b : Int) : gcdI a b ∣ a := by
  rw [gcdI_def]
  exact Int.ofNat_dvd_left.mpr (Nat.gcd_dvd_left _ _)
theorem gcdI_dvd_r (a b : Int) : gcdI a b ∣ b := by
  rw [gcdI_def]
  exact Int.ofNat_dvd_left.mpr (Nat.gcd_dvd_right _ _)
theorem gcdI_lowest {a b : Int} (hb : 0 < b) : gcdI (a / gcdI a b) (b / gcdI a b) = 1 := by
  have hp := gcdI_pos (a := a) hb
  have h1 := gcdI_dvd_l a b
  have h2 := gcdI_dvd_r a b
  rw [gcdI_def] at hp h1 h2
  rw [gcdI_def (a / gcdI a b), gcdI_def a b]
  have hg : 0 < a.natAbs.gcd b.natAbs := by omega
  have e1 : (a / ((a.natAbs.gcd b.natAbs : Nat) : Int)).natAbs = a.natAbs / a.natAbs.gcd b.natAbs := by
    rw [Int.natAbs_ediv_of_dvd h1, Int.natAbs_natCast]
  have e2 : (b / ((a.natAbs.gcd b.natAbs : Nat) : Int)).natAbs = b.natAbs / a.natAbs.gcd b.natAbs := by
    rw [Int.natAbs_ediv_of_dvd h2, Int.natAbs_natCast]
  rw [e1, e2, Nat.gcd_div (Nat.gcd_dvd_left _ _) (Nat.gcd_dvd_right _ _), Nat.div_self hg]
  rfl
end Z
namespace Z
open PySem PySem.Spec L2
theorem mItR1_ok {fs : Env → R (List D × Env)} {ρ ρ1 : Env} {j : Int} (h : fs ρ = .ok ([.int j], ρ1)) (hj : inLine j = true) : mItR1 fs ρ = .ok (intsFrom 0 j.toNat, ρ1) := by
  unfold mItR1
  rw [h]
  exact if_pos hj
theorem mItR2_ok {fs : Env → R (List D × Env)} {ρ ρ1 : Env} {i j : Int} (h : fs ρ = .ok ([.int i, .int j], ρ1)) (hi : inLine i = true) (hj : inLine j = true) : mItR2 fs ρ = .ok (intsFrom i (j - i).toNat, ρ1) := by
  unfold mItR2
  rw [h]
  exact if_pos (by rw [hi, hj]; rfl)
theorem mFor_ok {src : Env → R (List D × Env)} {g : D → Env → Option Env} {fb : Env → R (Fl × Env)} {ρ ρ1 : Env} {ds : List D} (h : src ρ = .ok (ds, ρ1)) : mFor src g fb ρ = mForL g fb ds ρ1 := by
  unfold mFor
  rw [h]; rfl
theorem mComp_ok {vs : List Nat} {src : Env → R (List D × Env)} {g : D → Env → Option Env} {ft : Env → R (Bool × Env)} {fe : Env → R (D × Env)} {ρ ρ1 ρ2 ρ3 : Env} {ds ys : List D} (h : src ρ = .ok (ds, ρ1)) (hl : ds.length ≤ 100000) (h2 : mCompL vs g ft fe ds (wipeE ρ1 vs) = .ok (ys, ρ2)) (h3 : backE ρ1 ρ2 vs = ρ3) :
    mComp vs src g ft fe ρ = .ok (.lst ys, ρ3) := by
  subst h3
  unfold mComp
  rw [h]
  simp only [R.bind_ok, if_pos hl, h2]
/-- a loop over a list, by its invariant -/
theorem for_list {src : Env → R (List D × Env)} {g : D → Env → Option Env} {fb : Env → R (Fl × Env)} {ρ ρ1 : Env} {ds : List D} (I : Nat → Env → Prop) (h : src ρ = .ok (ds, ρ1)) (h0 : I 0 ρ1)
    (st : ∀ i d ρ, ds[i]? = some d → I i ρ → ∃ ρ1 ρ2, g d ρ = some ρ1 ∧ (fb ρ1 = .ok (.nx, ρ2) ∨ fb ρ1 = .ok (.ct, ρ2)) ∧ I (i + 1) ρ2) : ∃ ρ', mFor src g fb ρ = .ok (.nx, ρ') ∧ I ds.length ρ' := by
  rw [mFor_ok h]
  have z := for_inv (g := g) (fb := fb) I ds 0 ρ1 h0 fun i d ρ hd hi => by
    rw [Nat.zero_add] at hi ⊢
    exact st i d ρ hd hi
  rwa [Nat.zero_add] at z
theorem intsFrom_at {lo : Int} {n i : Nat} {d : D} (h : (intsFrom lo n)[i]? = some d) : i < n ∧ d = .int (lo + (i : Int)) := intsFrom_get h
theorem foldl_take {α β : Type} {f : β → α → β} {xs : List α} {b : β} {i : Nat} {a : α} (h : xs[i]? = some a) : (xs.take (i + 1)).foldl f b = f ((xs.take i).foldl f b) a := by
  rw [List.take_add_one, h]
  simp
theorem lcm_bound : ∀ (ds : List Int) (acc : Int), 0 < acc → (∀ d ∈ ds, 1 ≤ d ∧ d ≤ 99) → 0 < ds.foldl lcmI acc ∧ ds.foldl lcmI acc ≤ acc * 99 ^ ds.length
  | [], acc, h, _ => by simp [h]
  | d :: ds, acc, h, hd => by
    obtain ⟨h1, h2⟩ := hd d List.mem_cons_self
    obtain ⟨p, q⟩ := lcmI_le h (show 0 < d by omega)
    obtain ⟨a, b⟩ := lcm_bound ds (lcmI acc d) p fun x hx => hd x (List.mem_cons_of_mem _ hx)
    refine ⟨a, Int.le_trans b ?_⟩
    have e : acc * 99 ^ (d :: ds).length = acc * 99 * 99 ^ ds.length := by
      rw [List.length_cons, Int.pow_succ, Int.mul_comm (99 ^ ds.length) 99, Int.mul_assoc]
    rw [e]
    refine Int.mul_le_mul_of_nonneg_right (Int.le_trans q (Int.mul_le_mul_of_nonneg_left h2 (Int.le_of_lt h))) ?_
    exact Int.le_of_lt (Int.pow_pos (by decide))
theorem pow99 {n : Nat} (h : n ≤ 6) : (99 : Int) ^ n ≤ 941480149401 := by
  match n, h with
  | 0, _ => decide
  | 1, _ => decide
  | 2, _ => decide
  | 3, _ => decide
  | 4, _ => decide
  | 5, _ => decide
  | 6, _ => decide
end Z
namespace Z
open PySem PySem.Spec L2
theorem gI0_e {f : Int → Int → Int} {i j : Int} : gI0 f (.int i) (.int j) = some (.int (f i j)) := rfl
theorem gIB_e {f : Int → Int → Bool} {i j : Int} : gIB f (.int i) (.int j) = some (.bl (f i j)) := rfl
theorem gII_e {c : Int → Int → Bool} {f : Int → Int → Int} {i j : Int} : gII c f (.int i) (.int j) = if c i j = true then some (.int (f i j)) else none := rfl
theorem gU_e {f : Int → Int} {i : Int} : gU f (.int i) = some (.int (f i)) := rfl
theorem gInt_i {i : Int} : gIntO (.int i) = some (.int i) := rfl
theorem gInt_b {b : Bool} : gIntO (.bl b) = some (.int (if b = true then 1 else 0)) := rfl
theorem gEq_ii {i j : Int} : gEq (.int i) (.int j) = some (.bl (decide (i = j))) := rfl
theorem gNe_ii {i j : Int} : gNe (.int i) (.int j) = some (.bl (!decide (i = j))) := rfl
theorem gIx_t {xs : List D} {i : Int} : gIx (.tup xs) (.int i) = atI xs i := rfl
theorem gIx_l {xs : List D} {i : Int} : gIx (.lst xs) (.int i) = atI xs i := rfl
theorem gIx_k {xs : List D} {i : Int} : gIx (.kls xs) (.int i) = atI xs i := rfl
theorem gLen_t {xs : List D} : gLen (.tup xs) = some (.int xs.length) := rfl
theorem gLen_l {xs : List D} : gLen (.lst xs) = some (.int xs.length) := rfl
theorem gLen_k {xs : List D} : gLen (.kls xs) = some (.int xs.length) := rfl
theorem gNot_b {b : Bool} : gNot (.bl b) = some (.bl (!b)) := rfl
theorem gFld_e {ix : List (Nat × Nat)} {c : Nat} {fs : List D} : gFld ix (.ins c fs) = (ix.lookup c).bind fun j => fs[j]? := rfl
theorem seqD_t {xs : List D} : seqD (.tup xs) = some (false, xs) := rfl
theorem seqD_l {xs : List D} : seqD (.lst xs) = some (true, xs) := rfl
theorem seqD_k {xs : List D} : seqD (.kls xs) = some (true, xs) := rfl
end Z
namespace Z
theorem mFn_rt {n N : Nat} {fb : Env → R (Fl × Env)} {ds : List D} {d : D} {ρ : Env} (hl : ds.length = n) (h : fb (ds.map some ++ List.replicate (N - n) none) = .ok (.rt d, ρ)) : mFn n N fb ds = .ok d := by
  unfold mFn
  rw [if_pos hl, h]; rfl
theorem mFnB_rt {n N : Nat} {fb : Env → R (Fl × Env)} {ds : List D} {d d0 : D} {ρ : Env} (hl : ds.length = n) (h : fb (ds.map some ++ List.replicate (N - n) none) = .ok (.rt d, ρ)) (h0 : ρ[0]? = some (some d0)) : mFnB n N fb ds = .ok (d, d0) := by
  unfold mFnB
  rw [if_pos hl, h]
  simp only [R.bind_ok, h0]
theorem mFnB_nx {n N : Nat} {fb : Env → R (Fl × Env)} {ds : List D} {d0 : D} {ρ : Env} (hl : ds.length = n) (h : fb (ds.map some ++ List.replicate (N - n) none) = .ok (.nx, ρ)) (h0 : ρ[0]? = some (some d0)) : mFnB n N fb ds = .ok (.non, d0) := by
  unfold mFnB
  rw [if_pos hl, h]
  simp only [R.bind_ok, h0]
theorem mSeq_nx {f g : Env → R (Fl × Env)} {ρ ρ' : Env} {r : R (Fl × Env)} (h : f ρ = .ok (.nx, ρ')) (h2 : g ρ' = r) : mSeq f g ρ = r := by
  unfold mSeq
  rw [h]; exact h2
theorem mSeq_rt {f g : Env → R (Fl × Env)} {ρ ρ' : Env} {d : D} (h : f ρ = .ok (.rt d, ρ')) : mSeq f g ρ = .ok (.rt d, ρ') := by
  unfold mSeq
  rw [h]; rfl
theorem mIfS_t {t : Env → R (Bool × Env)} {f g : Env → R (Fl × Env)} {ρ ρ' : Env} {r : R (Fl × Env)} (h : t ρ = .ok (true, ρ')) (h2 : f ρ' = r) : mIfS t f g ρ = r := by
  unfold mIfS
  rw [h]; exact h2
theorem mIfS_f {t : Env → R (Bool × Env)} {f g : Env → R (Fl × Env)} {ρ ρ' : Env} {r : R (Fl × Env)} (h : t ρ = .ok (false, ρ')) (h2 : g ρ' = r) : mIfS t f g ρ = r := by
  unfold mIfS
  rw [h]; exact h2
theorem mSet_ok {i : Nat} {fa : Env → R (D × Env)} {ρ ρ' : Env} {d : D} (h : fa ρ = .ok (d, ρ')) : mSet i fa ρ = .ok (.nx, ρ'.set i (some d)) := by
  unfold mSet
  rw [h]; rfl
theorem mRet_ok {fa : Env → R (D × Env)} {ρ ρ' : Env} {d : D} (h : fa ρ = .ok (d, ρ')) : mRet fa ρ = .ok (.rt d, ρ') := by
  unfold mRet
  rw [h]; rfl
theorem mCall_ok {m : List D → R D} {fs : Env → R (List D × Env)} {ρ ρ' : Env} {ds : List D} {d : D} (h : fs ρ = .ok (ds, ρ')) (h2 : m ds = .ok d) : mCall m fs ρ = .ok (d, ρ') := by
  unfold mCall
  rw [h]
  simp only [R.bind_ok, h2]
theorem mPrim_ok {g : List D → Option D} {fs : Env → R (List D × Env)} {ρ ρ' : Env} {ds : List D} {d : D} (h : fs ρ = .ok (ds, ρ')) (h2 : g ds = some d) : mPrim g fs ρ = .ok (d, ρ') := by
  unfold mPrim
  rw [h]
  simp only [R.bind_ok, h2, ofO]
theorem mCons_ok {fa : Env → R (D × Env)} {fr : Env → R (List D × Env)} {ρ ρ1 ρ2 : Env} {d : D} {ds : List D} (h : fa ρ = .ok (d, ρ1)) (h2 : fr ρ1 = .ok (ds, ρ2)) : mCons fa fr ρ = .ok (d :: ds, ρ2) := by
  unfold mCons
  rw [h]
  simp only [R.bind_ok, h2]
end Z
namespace Z
theorem mItR3_ok {fs : Env → R (List D × Env)} {ρ ρ1 : Env} {i j : Int} (h : fs ρ = .ok ([.int i, .int j, .int (-1)], ρ1)) (hi : inLine i = true) (hj : inLine j = true) : mItR3 fs ρ = .ok (intsDown i (i - j).toNat, ρ1) := by
  unfold mItR3
  rw [h]
  exact if_pos (by rw [hi, hj]; rfl)
theorem intsDown_at {lo : Int} {n i : Nat} {d : D} (h : (intsDown lo n)[i]? = some d) : i < n ∧ d = .int (lo - (i : Int)) := by
  have len : (intsDown lo n).length = n := by simp [intsDown]
  have hi : i < n := by have := (List.getElem?_eq_some_iff.mp h).1; rw [len] at this; exact this
  unfold intsDown at h
  rw [List.getElem?_map, List.getElem?_range hi] at h
  cases h
  exact ⟨hi, rfl⟩
end Z
set_option Elab.async false
set_option linter.all false
set_option maxRecDepth 100000
/-! Y5: classes as values: cls(..), C.m(..) -/
namespace Z
open PySem PySem.Spec L2
open PyProof.Rows hiding St

section
variable {X : Cx} {C : Cz} {Γ Γ' Γ1 Γ2 : List Nat} {k kr lv i c : Nat} {x mn : Str} {p pos apos p2 : Pos} {e : Expr} {es : List Expr} {fs : Env → R (List D × Env)} {m : List D → R D} {mB : List D → R (D × D)} {f g pr : Addr} {fd : FuncData} {ps : List Str} {dvs : List V} {xd : List D} {E : XK} {mc : Value} {pl : Sem Bool}
/-- the i-th slot holds the class c -/
def mMakeL (i c : Nat) (m : List D → R (D × D)) (fs : Env → R (List D × Env)) : Env → R (D × Env) := fun ρ => match ρ[i]? with
  | some (some (.cls c')) => if c' = c then mMake c m fs ρ else .bad
  | _ => .bad
theorem de_newL (hW : C.W = fun cls d _ H => E cls d H) (M : Mk X.K (C.T.cm c) f) (hb : Gd X.K fd ps dvs) (F : FnOk X.prog X.w X.K X.mg X.base (L2.CX X.prog X.w) lv f fd ps (spB X.K C.T 1 0 mB)) (hr : Room (lv + 1) X.A) (tk : Takes X C.W) (hv : PE X (.Name x p) (tVar i)) (hΓ : Γ.getD i 0 = 0)
    (hxd : ∀ S H, Reps X.K C.T H S xd dvs) (ha : DA X C Γ (e :: es) Γ1 fs) (he : starEach (e :: es) X.env = (false, eval e X.env) :: starEach es X.env := by rfl) (hpl : (backTo pos (starEach es X.env)).any (·.1) = false := by rfl) :
    DE X C Γ (.Call (.Name x p) (e :: es) [] pos) Γ1 1 (mMakeL i c (fun xs => mB (xs ++ xd)) fs) := by
  obtain ⟨ds, hd, hb⟩ := hb.bi
  refine ⟨fun pins s σ H Q I h => ?_⟩
  obtain ⟨S, ρ, fp, st, h⟩ := h
  unfold mMakeL at h
  split at h
  · rename_i c' q
    split at h
    · rename_i ec
      subst ec
      obtain ⟨v, hv0, o⟩ := st.sl i _ q
      rw [hΓ] at o
      have ev : v = .ref (C.T.cm c') := by
        have z := (own_zero.mp o).2
        simpa [Rep] using z
      subst ev
      refine wpAny_Call_Name_kw (thn (hv.run pins s σ H (fun v H1 => v = .ref (C.T.cm c') ∧ H1 = H) I ⟨_, hv0, rfl, rfl⟩) fun u s1 ⟨v, H1, I1, r1, q1⟩ => ?_)
      obtain ⟨rfl, rfl⟩ := q1
      cases r1
      have go : tA X.K C.T C.W Γ Γ1 fs σ H1 (fun vs H2 => ∀ y dy, H2 y = none → H2 dy = none → dy ≠ y → spB X.K C.T 1 0 mB (.ref y :: (vs ++ dvs)) (upd (upd H2 dy (.own y)) y (.ins (C.T.cm c') dy [])) (fun v H3 => v = .non ∧ Q (.ref y) H3) E) := by
        refine ⟨S, ρ, fp, st, ?_⟩
        unfold mMake at h
        refine OutA.thenE h fun xs ρ1 vs H2 S2 fp2 e2 s2 r2 f2 h2 => ?_
        intro y dy hy hdy hne
        exact make_data (fun cls d H' z => by rw [hW] at z; exact z) s2 (r2.append (hxd S2 H2)) h2 y dy hy hdy hne
      refine PySem.W.callWith_K (h₀ := X.base) I1.ok.mod.kin M.kp (thn (ha.run pos pins s1 σ _ _ I1 go) fun us s2 ⟨vs, H2, I2, r, q⟩ => ⟨I2.kIn, ?_⟩) he hpl
      exact run_make M F hr hb hd (passes_call tk fun cls d σ H z => by rw [hW]; exact z) I2 r q
    · exact h.elim
  · exact h.elim
/-- what must be known of a classmethod -/
structure Cm (K : PySem.W.Frag) (mg : Str → Option Value) (x : Str) (C : Addr) (m : Str) (g : Addr) (fd : FuncData) (ps : List Str) : Prop where
  mg : mg x = some (.ref C)
  rd : ∃ mc p, ClX.CRead K C mc ∧ ClX.CMet K C mc m p g
  bi : Binds K fd ps []
/-- C.m(..): the def's first argument is the class -/
theorem de_cmeth (hW : C.W = fun cls d _ H => E cls d H) (M : Cm X.K X.mg x (C.T.cm c) mn g fd ps) (F : FnOk X.prog X.w X.K X.mg X.base (L2.CX X.prog X.w) lv g fd ps (spF X.K C.T kr m)) (hr : Room lv X.A) (tk : Takes X C.W) (hg : Gl X x) (ha : DA X C Γ (e :: es) Γ1 fs) (hdb : (x == ("__debug__" : Str)) = false := by decide)
    (hst : starEach (e :: es) X.env = (false, eval e X.env) :: starEach es X.env := by rfl) (hpl : (backTo pos (starEach es X.env)).any (·.1) = false := by rfl)
    (ht : eval (.Call (.Attribute (.Name x p) mn apos) (e :: es) [] pos) X.env = (do
      let ov ← eval (.Name x p) X.env
      standAt apos.atName
      let (g, first) ← holding [ov] (getMethod ov mn pl)
      callWith pos g first (backTo pos (starEach (e :: es) X.env)) (backToKw pos (keywordEach [] X.env))) := by rfl) :
    DE X C Γ (.Call (.Attribute (.Name x p) mn apos) (e :: es) [] pos) Γ1 kr (mCall (fun xs => m (.cls c :: xs)) fs) := by
  obtain ⟨mc, pr, rd, cm⟩ := M.rd
  refine pe_imp (ClX.pe_cmeth (pl := pl) (E := E) (pe_glob hg M.mg (v := .ref (C.T.cm c)) rfl hdb) rd cm (FnOk.raw (dvs := []) F M.bi .nil) hr (passes_call tk fun cls d σ H z => by rw [hW]; exact z) ha hst hpl ht) fun σ H Q h => ?_
  refine ⟨rfl, ?_⟩
  obtain ⟨S, ρ, fp, s, h⟩ := h
  refine ⟨S, ρ, fp, s, OutA.thenE h fun xs ρ1 vs H1 S1 fp1 e1 s1 r1 f1 h1 => ?_⟩
  have r2 : Reps X.K C.T H1 S1 (.cls c :: xs) (.ref (C.T.cm c) :: vs) := by
    simp only [Reps, Rep]
    exact ⟨_, _, rfl, rfl, r1⟩
  have z := call_data (m := m) (C := C) s1 r2 h1
  rw [hW] at z
  show spF X.K C.T kr m ((.ref (C.T.cm c) :: vs) ++ []) H1 Q E
  rw [List.append_nil]
  exact z
end
end Z
set_option Elab.async false
set_option linter.all false
set_option maxRecDepth 100000
/-! Y6: x.extend(list) -/
namespace Z
open PySem PySem.Spec L2
open PyProof.Rows hiding St
def mExt (i : Nat) (fe : Env → R (D × Env)) : Env → R (Fl × Env) := fun ρ => match ρ[i]? with
  | some (some (.lst _)) => (fe ρ).bind fun (d, ρ1) => match ρ1[i]?, d with
    | some (some (.lst xs)), .lst ys => if xs.length + ys.length < 100000 then .ok (.nx, ρ1.set i (some (.lst (xs ++ ys)))) else .bad
    | _, _ => .bad
  | _ => .bad
section
variable {X : Cx} {C : Cz} {P : List Nat} {J : Js} {Γ Γ' Γ1 Γ2 : List Nat} {k i j n : Nat} {x y : Str} {pos p p2 p3 spos : Pos} {a e ix : Expr} {fe fi : Env → R (D × Env)}
theorem ds_ext (hv : PE X (.Name x p) (tVar i)) (hk2 : k = 0 ∨ k = 1) (ha : DE X C Γ e Γ1 k fe) (hk0 : Γ.getD i 0 = 1 := by rfl) (hk : Γ1.getD i 0 = 1 := by rfl) (h1 : J.nx = Γ1 := by rfl)
    (hs : starEach (e :: []) X.env = (false, eval e X.env) :: starEach [] X.env := by rfl) (hpl : (backTo p3 (starEach [] X.env)).any (·.1) = false := by rfl) (hbase : attributeBase (.Name x p) "extend" X.env (eval (.Name x p) X.env) = eval (.Name x p) X.env := by rfl) (hline : (p2.endLine == p3.line) = true := by rfl)
    (hfew : ((backTo p3 (starEach (e :: []) X.env)).all (fun x => !x.1) && (backToKw p3 (keywordEach [] X.env)).all (fun x => x.1.isSome)
      && decide ((e :: ([] : List Expr)).length + ([] : List Keyword).length + (if ([] : List Keyword).isEmpty then 0 else 1) < 30)) = true := by rfl)
    (hsw : swapsWith (.Call (.Attribute (.Name x p) "extend" p2) [e] [] p3) none spos.line X.env = pure false := by rfl) :
    DS X C P J Γ (.Expr (.Call (.Attribute (.Name x p) "extend" p2) [e] [] p3) spos) (mExt i fe) :=
  ps_imp (ps_expr (pe_bm PySem.F.plainAttrs_list PySem.F.slot_list_extend PySem.F.type_list_extend mt_extend hv (pa_cons ha pa_nil hs) hbase hfew hline hs hpl) hsw) fun E σ H h => by
  obtain ⟨S, ρ, fp, s, h⟩ := h
  unfold mExt at h
  split at h
  · rename_i xs0 q0
    obtain ⟨a, vs0, hv0, h0, _⟩ := s.lst_at q0 hk0
    refine ⟨_, hv0, .inl ⟨rfl, vs0, .inl (.inl h0)⟩, S, ρ, fp, s, OutE.thenS h fun d ρ1 v H1 S1 fp1 Fv e1 s1 x1 f1 h2 => ?_⟩
    have hl : ∀ ys, d = .lst ys → ∃ b zs, v = .ref b ∧ H1 b = some (.lst zs) ∧ Reps X.K C.T H1 S1 ys zs := by
      rintro ys rfl
      rcases hk2 with rfl | rfl
      · obtain ⟨_, rd⟩ := x1.rep
        simp only [Rep] at rd
        obtain ⟨b, zs, e1, e2, _, e3⟩ := rd
        exact ⟨b, zs, e1, e2, e3⟩
      · obtain ⟨b, zs, e1, e2, _, e3⟩ := own_lst1.mp x1.own
        exact ⟨b, zs, e1, e2, e3⟩
    dsimp only at h2
    split at h2
    · rename_i xs ys q1
      obtain ⟨b, zs, rfl, hb, rz⟩ := hl _ rfl
      split at h2
      · rename_i hl
        obtain ⟨a', vs, hv1, h1', r⟩ := s1.lst_at q1 hk
        rw [hv0] at hv1; cases hv1
        have rr : Reps X.K C.T H1 S1 (xs ++ ys) (vs ++ zs) := r.append rz
        obtain ⟨_, s2, f2⟩ := s1.relist q1 hk hv0 h1' rr
        refine ⟨a, b, vs, zs, rfl, rfl, h1', hb, by rw [sizeLine_eq, ← r.length, ← rz.length]; omega, ?_⟩
        exact h2 σ _ S1 fp1 (by rw [h1]; exact s2) Kp.refl ((f1.less fun b z => .inl z).trans f2)
      · exact h2.elim
    · exact h2.elim
  · exact h.elim
end
end Z
set_option Elab.async false
set_option linter.all false
set_option maxRecDepth 100000
/-! Y7: own binary operators; x.insert(i, y) -/
namespace Z
open PySem PySem.Spec L2
open PyProof.Rows hiding St
/-- a operator b by the class's own def -/
def mBinO (c : Nat) (m : List D → R D) (fa fb : Env → R (D × Env)) : Env → R (D × Env) := fun ρ => (fa ρ).bind fun (x, ρ1) => (fb ρ1).bind fun (y, ρ2) => match x, y with
  | .ins c1 _, .ins c2 _ => if c1 = c ∧ c2 = c then (m [x, y]).bind fun d => .ok (d, ρ2) else .bad
  | _, _ => .bad
/-- what of the class is asked -/
structure OpM (K : PySem.W.Frag) (C : Addr) (mn : Str) (f : Addr) (fd : FuncData) (ps : List Str) : Prop where
  at_ : PySem.W.findIn K (.ref C) mn = some (some (.ref f))
  fn : PySem.W.isFn K (.ref f) = true
  first : PySem.W.selfFirst K C = true
  bi : Binds K fd ps []
section
variable {X : Cx} {C : Cz} {P : List Nat} {J : Js} {Γ Γ' Γ1 Γ2 : List Nat} {k kr lv i j n c : Nat} {x y mn : Str} {pos p p2 p3 spos : Pos} {a b e e2 ix : Expr} {fa fb fe fi : Env → R (D × Env)} {m : List D → R D} {f : Addr} {fd : FuncData} {ps : List Str} {op : Operator}
theorem de_opO (hop : PySem.dunder op.info.2 = mn) (M : OpM X.K (C.T.cm c) mn f fd ps) (F : FnOk X.prog X.w X.K X.mg X.base (L2.CX X.prog X.w) lv f fd ps (spF X.K C.T kr m)) (hr : Room lv X.A) (tk : Takes X C.W) (ha : DE X C Γ a Γ1 0 fa) (hb : DE X C Γ1 b Γ2 0 fb) :
    DE X C Γ (.BinOp a op b pos) Γ2 kr (mBinO c m fa fb) := by
  refine ⟨fun pins s σ H Q I h => ?_⟩
  obtain ⟨S, ρ, fp, st, h⟩ := h
  have h' : tE X.K C.T C.W Γ Γ1 0 fa σ H (fun v1 H1 => tE X.K C.T C.W Γ1 Γ2 0 fb σ H1 (fun v2 H2 => ∃ a' b' dx dy fs gs, v1 = .ref a' ∧ v2 = .ref b' ∧ H2 a' = some (.ins (C.T.cm c) dx fs) ∧ H2 b' = some (.ins (C.T.cm c) dy gs) ∧ spF X.K C.T kr m [v1, v2] H2 Q (WE C.W σ))) := by
    refine ⟨S, ρ, fp, st, OutE.then0 h fun d1 ρ1 v1 H1 S1 fp1 e1 s1 r1 f1 h1 => ?_⟩
    refine ⟨S1, ρ1, fp1, s1, OutE.then0 h1 fun d2 ρ2 v2 H2 S2 fp2 e2 s2 r2 f2 h2 => ?_⟩
    dsimp only at h2
    have r1' := s1.rep_fra r1 f2
    split at h2
    · rename_i c1 fs1 c2 fs2
      split at h2
      · rename_i hc
        obtain ⟨ec1, ec2⟩ := hc
        subst ec1; subst ec2
        have rr : Reps X.K C.T H2 S2 [.ins c2 fs1, .ins c2 fs2] [v1, v2] := by
          simp only [Reps]
          exact ⟨_, _, rfl, r1', _, _, rfl, r2, rfl⟩
        have z := call_data (m := m) (C := C) s2 rr h2
        simp only [Rep] at r1' r2
        obtain ⟨a', dx, vs, rfl, q1, _⟩ := r1'
        obtain ⟨b', dy, ws, rfl, q2, _⟩ := r2
        exact ⟨a', b', dx, dy, _, _, rfl, rfl, q1, q2, z⟩
      · exact h2.elim
    · exact h2.elim
  refine wpAny_BinOp (binT ha hb I h' fun v u s2 x y H2 I2 rx ry q => ?_)
  obtain ⟨a', b', dx, dy, fs, gs, rfl, rfl, q1, q2, z⟩ := q
  obtain rfl : v = Value.ref a' := rx
  obtain rfl : u = Value.ref b' := ry
  obtain ⟨_, o1, _⟩ := ins_get I2.hok q1
  obtain ⟨_, o2, _⟩ := ins_get I2.hok q2
  obtain ⟨_, l1, _⟩ := o1.look
  obtain ⟨_, l2, _⟩ := o2.look
  obtain ⟨_, fr⟩ := I2.fr
  refine PySem.W.binop_K fr I2.ok.mod.kin l1 l2.type M.first (by rw [hop]; exact M.at_) M.fn ?_
  refine thn (run_fnSD (us := [.ref a', .ref b']) (vs := [.ref a', .ref b']) (dvs := []) (E := WE C.W) F hr M.bi .nil (passAt tk σ) I2 (.cons rfl (.cons rfl .nil)) z) fun r s3 hq => ?_
  obtain ⟨w, H3, I3, rw', qw⟩ := id hq
  cases w <;> simp only [L2.RelV] at rw'
  all_goals first
    | (subst rw'; exact hq)
    | (obtain ⟨t, rfl⟩ := rw'; exact hq)
end

def mInsr (i : Nat) (fi fe : Env → R (D × Env)) : Env → R (Fl × Env) := fun ρ => match ρ[i]? with
  | some (some (.lst _)) => (fi ρ).bind fun (j, ρ1) => (fe ρ1).bind fun (d, ρ2) => match ρ2[i]?, j with
    | some (some (.lst xs)), .int j => if xs.length < 100000 ∧ 0 ≤ j ∧ j < 100000 then .ok (.nx, ρ2.set i (some (.lst (xs.take j.toNat ++ [d] ++ xs.drop j.toNat)))) else .bad
    | _, _ => .bad
  | _ => .bad
section
variable {X : Cx} {C : Cz} {P : List Nat} {J : Js} {Γ Γ' Γ1 Γ2 : List Nat} {k i j n : Nat} {x y : Str} {pos p p2 p3 spos : Pos} {a e e2 ix : Expr} {fe fi : Env → R (D × Env)}
theorem ds_insr (hv : PE X (.Name x p) (tVar i)) (hi : DE X C Γ ix Γ1 0 fi) (ha : DE X C Γ1 e Γ2 0 fe) (hk0 : Γ.getD i 0 = 1 := by rfl) (hk : Γ2.getD i 0 = 1 := by rfl) (h1 : J.nx = Γ2 := by rfl)
    (hs : starEach (ix :: e :: []) X.env = (false, eval ix X.env) :: starEach [e] X.env := by rfl) (hs2 : starEach (e :: []) X.env = (false, eval e X.env) :: starEach [] X.env := by rfl) (hpl : (backTo p3 (starEach [e] X.env)).any (·.1) = false := by rfl) (hbase : attributeBase (.Name x p) "insert" X.env (eval (.Name x p) X.env) = eval (.Name x p) X.env := by rfl) (hline : (p2.endLine == p3.line) = true := by rfl)
    (hfew : ((backTo p3 (starEach (ix :: e :: []) X.env)).all (fun x => !x.1) && (backToKw p3 (keywordEach [] X.env)).all (fun x => x.1.isSome)
      && decide ((ix :: e :: ([] : List Expr)).length + ([] : List Keyword).length + (if ([] : List Keyword).isEmpty then 0 else 1) < 30)) = true := by rfl)
    (hsw : swapsWith (.Call (.Attribute (.Name x p) "insert" p2) [ix, e] [] p3) none spos.line X.env = pure false := by rfl) :
    DS X C P J Γ (.Expr (.Call (.Attribute (.Name x p) "insert" p2) [ix, e] [] p3) spos) (mInsr i fi fe) :=
  ps_imp (ps_expr (pe_bm PySem.F.plainAttrs_list PySem.F.slot_list_insert PySem.F.type_list_insert mt_insert hv (pa_cons hi (pa_cons ha pa_nil hs2) hs) hbase hfew hline hs hpl) hsw) fun E σ H h => by
  obtain ⟨S, ρ, fp, s, h⟩ := h
  unfold mInsr at h
  split at h
  · rename_i xs0 q0
    obtain ⟨a, vs0, hv0, h0, _⟩ := s.lst_at q0 hk0
    refine ⟨_, hv0, .inl ⟨rfl, vs0, .inl (.inl h0)⟩, S, ρ, fp, s, OutE.thenS h fun d0 ρ0 v0 H0 S0 fp0 F0 e0 s0 x0 f0 h2 => ?_⟩
    obtain ⟨ef0, rd0⟩ := x0.rep
    subst ef0
    refine ⟨S0, ρ0, fp0, s0, OutE.thenS (OutS.before Kp.refl f0.ow h2) fun d ρ1 v H1 S1 fp1 Fv e1 s1 x1 f1 h3 => ?_⟩
    obtain ⟨ef, rd⟩ := x1.rep
    subst ef
    dsimp only at h3
    split at h3
    · rename_i xs j q1
      split at h3
      · rename_i hl
        obtain ⟨hl, hj0, hj1⟩ := hl
        obtain ⟨a', vs, hv1, h1', r⟩ := s1.lst_at q1 hk
        rw [hv0] at hv1; cases hv1
        simp only [Rep] at rd0
        subst rd0
        have rr : Reps X.K C.T H1 S1 (xs.take j.toNat ++ [d] ++ xs.drop j.toNat) (vs.take j.toNat ++ [v] ++ vs.drop j.toNat) := ((r.take _).append (by simp only [Reps]; exact ⟨v, [], rfl, rd, rfl⟩)).append (r.drop _)
        obtain ⟨_, s2, f2⟩ := s1.relist q1 hk hv0 h1' rr
        refine ⟨a, vs, j, v, rfl, rfl, h1', by rw [sizeLine_eq, ← r.length]; omega, hj0, by omega, ?_⟩
        exact h3 σ _ S1 fp1 (by rw [h1]; exact s2) Kp.refl (f1.ow.trans f2)
      · exact h3.elim
    · exact h3.elim
  · exact h.elim
end

/-! a shared list or tuple is walked -/
section
variable {K : PySem.W.Frag} {T : Tab} {S : Addr → Prop} {H : Hp} {ds : List D} {a : Addr} {vs : List V}
theorem it_seqL (r : Reps K T H S ds vs) (st : ∀ H' S', Stay K H S H' S' → SqL K H' a vs) : ItOk K T S H (Itl K a) ds := by
  have hl := r.length
  refine ⟨fun S' H' s i hi => ⟨vs, st H' S' s, by omega⟩, fun S' H' s i d hd => ?_, fun S' H' s i d hd x H2 hy => ?_⟩
  · obtain ⟨v, hv, _⟩ := r.get hd
    exact ⟨vs, v, st H' S' s, hv⟩
  · obtain ⟨he, hu⟩ := hy
    subst he
    obtain ⟨v, hv, rv⟩ := r.get hd
    have q := hu vs (st _ S' s)
    rw [hv] at q; cases q
    exact ⟨fun _ _ h => h, s.rep rv⟩
theorem it_seqT (r : Reps K T H S ds vs) (st : ∀ H' S', Stay K H S H' S' → SqT K H' a vs) : ItOk K T S H (Itt K a) ds := by
  have hl := r.length
  refine ⟨fun S' H' s i hi => ⟨vs, st H' S' s, by omega⟩, fun S' H' s i d hd => ?_, fun S' H' s i d hd x H2 hy => ?_⟩
  · obtain ⟨v, hv, _⟩ := r.get hd
    exact ⟨vs, v, st H' S' s, hv⟩
  · obtain ⟨he, hu⟩ := hy
    subst he
    obtain ⟨v, hv, rv⟩ := r.get hd
    have q := hu vs (st _ S' s)
    rw [hv] at q; cases q
    exact ⟨fun _ _ h => h, s.rep rv⟩
end
section
variable {X : Cx} {C : Cz} {Γ Γ1 : List Nat} {k : Nat} {pos p p2 pos2 : Pos} {e tg : Expr} {fa : Env → R (D × Env)}
theorem seq_iter {pins : List (Addr × Obj)} {σ : St} {H : Hp} {s : Shared} {a : Addr} {vs : List V} {G : It → Hp → Prop} (I : L2.Inv X pins σ H s) (h : (SqL X.K H a vs ∧ G (Itl X.K a) H) ∨ (SqT X.K H a vs ∧ G (Itt X.K a) H)) :
    wpAny (model X.prog X.w) X.A (pyIter (.ref a)) (PIE X pins σ tg G) X.xe s := by
  have new := I.fpOk (H' := H) (b := s.heap.objs.size) (Nat.le_refl _) (I.hok.fresh (Nat.le_refl _))
  have one : ∀ b ∈ [s.heap.objs.size], b = s.heap.objs.size := fun b hb => by simpa using hb
  rcases h with ⟨hq, g⟩ | ⟨hq, g⟩
  · obtain ⟨its, _, q, _⟩ := I.list hq
    exact wpAny_pyIter_list q.isList ⟨_, [s.heap.objs.size], _, _, H, rfl, I.kept (t' := s.toks) (fun _ _ w => Heap.get?_push_of_some _ w), turn_list a _, ⟨_, Heap.get?_push_size _ rfl, rfl, rfl⟩, fun b hb => by rw [one b hb]; exact new, g⟩
  · obtain ⟨its, _, q, _⟩ := I.tuple hq
    have q' : s.heap.IsTuple a its.toArray := q
    exact wpAny_pyIter_tuple q' ⟨_, [s.heap.objs.size], _, _, H, rfl, I.kept (t' := s.toks) (fun _ _ w => Heap.get?_push_of_some _ w), turn_tuple a _, ⟨_, Heap.get?_push_size _ rfl, rfl, rfl⟩, fun b hb => by rw [one b hb]; exact new, g⟩
theorem di_any (ha : DE X C Γ e Γ1 0 fa) : DI X C tg Γ e Γ1 (mSeqD id fa) := by
  refine ⟨fun pins sh σ H Q I h => ?_⟩
  obtain ⟨S, ρ, fp, s, h⟩ := h
  have h' : tE X.K C.T C.W Γ Γ1 0 fa σ H (fun v H1 => ∃ a vs, v = .ref a ∧ ((SqL X.K H1 a vs ∧ Q (Itl X.K a) H1) ∨ (SqT X.K H1 a vs ∧ Q (Itt X.K a) H1))) := by
    refine ⟨S, ρ, fp, s, OutE.thenI h fun d ρ1 v H1 S1 fp1 e1 s1 r1 f1 h1 => ?_⟩
    dsimp only at h1
    cases q : seqD d with
    | none => rw [q] at h1; exact h1.elim
    | some bx =>
      obtain ⟨b, xs⟩ := bx
      rw [q] at h1
      obtain ⟨a, vs, rfl, r, hl, ht⟩ := seq_stay r1 q
      refine ⟨a, vs, rfl, ?_⟩
      cases b with
      | true => exact .inl ⟨hl rfl H1 S1 Stay.refl, h1 _ H1 S1 fp1 s1 (it_seqL r (hl rfl)) f1⟩
      | false => exact .inr ⟨ht rfl H1 S1 Stay.refl, h1 _ H1 S1 fp1 s1 (it_seqT r (ht rfl)) f1⟩
  refine thn (ha.run pins sh σ H _ I h') fun v s1 ⟨x, H1, I1, r1, a, vs, ex, q⟩ => ?_
  subst ex
  obtain rfl : v = Value.ref a := r1
  exact seq_iter I1 q
/-! tuple(reversed(a list)) -/
def gTupRev : D → Option D
  | .lst xs => some (.tup xs.reverse)
  | .kls xs => some (.tup xs.reverse)
  | _ => none
theorem de_tupRev (hc : X.calm = true) (hm : X.mg "tuple" = none) (hm2 : X.mg "reversed" = none) (hg : Gl X "tuple") (hg2 : Gl X "reversed") (ha : DE X C Γ e Γ1 0 fa) (hk : k ≤ 1 := by decide)
    (hs : starEach [e] X.env = (false, eval e X.env) :: starEach [] X.env := by rfl)
    (hs2 : starEach [.Call (.Name "reversed" p2) [e] [] pos2] X.env = (false, eval (.Call (.Name "reversed" p2) [e] [] pos2) X.env) :: starEach [] X.env := by rfl) :
    DE X C Γ (.Call (.Name "tuple" p) [.Call (.Name "reversed" p2) [e] [] pos2] [] pos) Γ1 k (mUn gTupRev fa) :=
  pe_imp (RT.pe_tupRev hc hg hm hg2 hm2 ha hs hs2) fun σ H Q h => un_data (r := fun v H1 G => ∃ a xs, v = .ref a ∧ SqL X.K H1 a xs ∧ ∀ b, H1 b = none → G (.ref b) (upd H1 b (.tup xs.reverse))) (fun S H d v d' r e => by
    cases d with
    | lst ys =>
      cases e
      simp only [Rep] at r
      obtain ⟨a, vs, rfl, h1, sa, r⟩ := r
      exact .inr (.inr ⟨_, vs.reverse, rfl, hk, r.reverse, fun G g => ⟨a, vs, rfl, .inl (.inl h1), g⟩⟩)
    | kls ys =>
      cases e
      simp only [Rep] at r
      obtain ⟨a, vs, rfl, h1, r⟩ := r
      exact .inr (.inr ⟨_, vs.reverse, rfl, hk, r.reverse, fun G g => ⟨a, vs, rfl, h1.sql, g⟩⟩)
    | _ => cases e) h
end
end Z
set_option Elab.async false
set_option linter.all false
set_option maxRecDepth 100000
/-! V1: what a mirror gives, by continuation (symbolic steps) -/
namespace Z
open PySem PySem.Spec L2
abbrev Er := Nat → List D → Prop
@[irreducible] def WR {α : Type} (r : R α) (Q : α → Prop) (E : Er) : Prop := match r with
  | .ok a => Q a
  | .er c fs => E c fs
  | .bad => False
@[irreducible] def WB (r : R (D × D)) (Q : D → D → Prop) (E : Er) : Prop := match r with
  | .ok (a, b) => Q a b
  | .er c fs => E c fs
  | .bad => False
@[irreducible] def WE (r : R (D × Env)) (Q : D → Env → Prop) (E : Er) : Prop := match r with
  | .ok (a, b) => Q a b
  | .er c fs => E c fs
  | .bad => False
@[irreducible] def WA (r : R (List D × Env)) (Q : List D → Env → Prop) (E : Er) : Prop := match r with
  | .ok (a, b) => Q a b
  | .er c fs => E c fs
  | .bad => False
@[irreducible] def WT (r : R (Bool × Env)) (Q : Bool → Env → Prop) (E : Er) : Prop := match r with
  | .ok (a, b) => Q a b
  | .er c fs => E c fs
  | .bad => False
@[irreducible] def WS (r : R (Fl × Env)) (N : Env → Prop) (Rt : D → Env → Prop) (B C : Env → Prop) (E : Er) : Prop := match r with
  | .ok (.nx, ρ) => N ρ
  | .ok (.rt d, ρ) => Rt d ρ
  | .ok (.bk, ρ) => B ρ
  | .ok (.ct, ρ) => C ρ
  | .er c fs => E c fs
  | .bad => False
@[irreducible] def WO (r : R (Option Int × Env)) (Q : Option Int → Env → Prop) (E : Er) : Prop := match r with
  | .ok (a, b) => Q a b
  | .er c fs => E c fs
  | .bad => False
abbrev E0 : Er := fun _ _ => False
/-- a part that must be there -/
def Sm {α : Type} (o : Option α) (Q : α → Prop) : Prop := ∃ a, o = some a ∧ Q a
def Lk (ρ : Env) (i : Nat) (Q : D → Prop) : Prop := ∃ d, ρ[i]? = some (some d) ∧ Q d
def SetN (ρ : Env) (i : Nat) (x : Option D) (N : Env → Prop) : Prop := N (ρ.set i x)
def Br (b : Bool) (P Q : Prop) : Prop := (b = true → P) ∧ (b = false → Q)
class SetEq (ρ : Env) (i : Nat) (x : Option D) (ρ' : outParam Env) : Prop where
  eq : ρ.set i x = ρ'
instance {a x : Option D} {r : Env} : SetEq (a :: r) 0 x (x :: r) := ⟨rfl⟩
instance {a x : Option D} {r r' : Env} {i : Nat} [h : SetEq r i x r'] : SetEq (a :: r) (i + 1) x (a :: r') := ⟨by rw [List.set_cons_succ, h.eq]⟩

class WipeEq (ρ : Env) (vs : List Nat) (ρ' : outParam Env) : Prop where
  eq : wipeE ρ vs = ρ'
instance {ρ : Env} : WipeEq ρ [] ρ := ⟨rfl⟩
instance {ρ ρ1 ρ2 : Env} {v : Nat} {vs : List Nat} [h : WipeEq ρ vs ρ1] [k : SetEq ρ1 v none ρ2] : WipeEq ρ (v :: vs) ρ2 := ⟨by rw [wipeE, h.eq, k.eq]⟩
class GetEq (ρ : Env) (i : Nat) (d : outParam D) : Prop where
  eq : ρ[i]? = some (some d)
instance {d : D} {r : Env} : GetEq (some d :: r) 0 d := ⟨rfl⟩
instance {x : Option D} {d : D} {r : Env} {i : Nat} [h : GetEq r i d] : GetEq (x :: r) (i + 1) d := ⟨by rw [List.getElem?_cons_succ, h.eq]⟩
theorem WR_ok {α : Type} {a : α} {Q : α → Prop} {E : Er} : WR (.ok a) Q E = Q a := by with_unfolding_all rfl
theorem WE_ok {a : D} {b : Env} {Q : D → Env → Prop} {E : Er} : WE (.ok (a, b)) Q E = Q a b := by with_unfolding_all rfl
theorem WA_ok {a : List D} {b : Env} {Q : List D → Env → Prop} {E : Er} : WA (.ok (a, b)) Q E = Q a b := by with_unfolding_all rfl
theorem WT_ok {a : Bool} {b : Env} {Q : Bool → Env → Prop} {E : Er} : WT (.ok (a, b)) Q E = Q a b := by with_unfolding_all rfl
theorem WB_ok {a b : D} {Q : D → D → Prop} {E : Er} : WB (.ok (a, b)) Q E = Q a b := by with_unfolding_all rfl
theorem WO_ok {a : Option Int} {b : Env} {Q : Option Int → Env → Prop} {E : Er} : WO (.ok (a, b)) Q E = Q a b := by with_unfolding_all rfl
theorem WS_nx {b : Env} {N : Env → Prop} {Rt : D → Env → Prop} {B C : Env → Prop} {E : Er} : WS (.ok (.nx, b)) N Rt B C E = N b := by with_unfolding_all rfl
theorem WS_rt {d : D} {b : Env} {N : Env → Prop} {Rt : D → Env → Prop} {B C : Env → Prop} {E : Er} : WS (.ok (.rt d, b)) N Rt B C E = Rt d b := by with_unfolding_all rfl
theorem WR.get {α : Type} {r : R α} {Q : α → Prop} (h : WR r Q E0) : ∃ a, r = .ok a ∧ Q a := by
  with_unfolding_all
    cases r with
    | ok a => exact ⟨a, rfl, h⟩
    | er c fs => exact h.elim
    | bad => exact h.elim
theorem WB.get {r : R (D × D)} {Q : D → D → Prop} (h : WB r Q E0) : ∃ a b, r = .ok (a, b) ∧ Q a b := by
  with_unfolding_all
    cases r with
    | ok a => exact ⟨a.1, a.2, rfl, h⟩
    | er c fs => exact h.elim
    | bad => exact h.elim
theorem WE.get {r : R (D × Env)} {Q : D → Env → Prop} (h : WE r Q E0) : ∃ a b, r = .ok (a, b) ∧ Q a b := by
  with_unfolding_all
    cases r with
    | ok a => exact ⟨a.1, a.2, rfl, h⟩
    | er c fs => exact h.elim
    | bad => exact h.elim
theorem WT.get {r : R (Bool × Env)} {Q : Bool → Env → Prop} (h : WT r Q E0) : ∃ a b, r = .ok (a, b) ∧ Q a b := by
  with_unfolding_all
    cases r with
    | ok a => exact ⟨a.1, a.2, rfl, h⟩
    | er c fs => exact h.elim
    | bad => exact h.elim
theorem WR.mono {α : Type} {r : R α} {Q Q' : α → Prop} {E E' : Er} (h : WR r Q E) (q : ∀ a, Q a → Q' a) (e : ∀ c fs, E c fs → E' c fs) : WR r Q' E' := by
  with_unfolding_all
    cases r with
    | ok a => exact q _ h
    | er c fs => exact e _ _ h
    | bad => exact h
theorem WB.mono {r : R (D × D)} {Q Q' : D → D → Prop} {E E' : Er} (h : WB r Q E) (q : ∀ a b, Q a b → Q' a b) (e : ∀ c fs, E c fs → E' c fs) : WB r Q' E' := by
  with_unfolding_all
    cases r with
    | ok a => exact q _ _ h
    | er c fs => exact e _ _ h
    | bad => exact h
theorem WE.mono {r : R (D × Env)} {Q Q' : D → Env → Prop} {E E' : Er} (h : WE r Q E) (q : ∀ a b, Q a b → Q' a b) (e : ∀ c fs, E c fs → E' c fs) : WE r Q' E' := by
  with_unfolding_all
    cases r with
    | ok a => exact q _ _ h
    | er c fs => exact e _ _ h
    | bad => exact h
theorem WA.mono {r : R (List D × Env)} {Q Q' : List D → Env → Prop} {E E' : Er} (h : WA r Q E) (q : ∀ a b, Q a b → Q' a b) (e : ∀ c fs, E c fs → E' c fs) : WA r Q' E' := by
  with_unfolding_all
    cases r with
    | ok a => exact q _ _ h
    | er c fs => exact e _ _ h
    | bad => exact h
theorem WT.mono {r : R (Bool × Env)} {Q Q' : Bool → Env → Prop} {E E' : Er} (h : WT r Q E) (q : ∀ a b, Q a b → Q' a b) (e : ∀ c fs, E c fs → E' c fs) : WT r Q' E' := by
  with_unfolding_all
    cases r with
    | ok a => exact q _ _ h
    | er c fs => exact e _ _ h
    | bad => exact h
theorem WS.mono {r : R (Fl × Env)} {N N' : Env → Prop} {Rt Rt' : D → Env → Prop} {B B' C C' : Env → Prop} {E E' : Er} (h : WS r N Rt B C E) (n : ∀ ρ, N ρ → N' ρ) (t : ∀ d ρ, Rt d ρ → Rt' d ρ) (b : ∀ ρ, B ρ → B' ρ) (c : ∀ ρ, C ρ → C' ρ) (e : ∀ c fs, E c fs → E' c fs) : WS r N' Rt' B' C' E' := by
  with_unfolding_all
    match r, h with
    | .ok (.nx, ρ), h => exact n _ h
    | .ok (.rt d, ρ), h => exact t _ _ h
    | .ok (.bk, ρ), h => exact b _ h
    | .ok (.ct, ρ), h => exact c _ h
    | .er c fs, h => exact e _ _ h
    | .bad, h => exact h
theorem wr_ok {α : Type} {a : α} {Q : α → Prop} {E : Er} (h : Q a) : WR (.ok a) Q E := by with_unfolding_all exact h
theorem wr_eq {α : Type} {r : R α} {a : α} {Q : α → Prop} {E : Er} (e : r = .ok a) (h : Q a) : WR r Q E := by with_unfolding_all (rw [e]; exact h)
theorem wb_eq {r : R (D × D)} {a b : D} {Q : D → D → Prop} {E : Er} (e : r = .ok (a, b)) (h : Q a b) : WB r Q E := by with_unfolding_all (rw [e]; exact h)
theorem we_eq {r : R (D × Env)} {a : D} {b : Env} {Q : D → Env → Prop} {E : Er} (e : r = .ok (a, b)) (h : Q a b) : WE r Q E := by with_unfolding_all (rw [e]; exact h)
theorem wt_eq {r : R (Bool × Env)} {a : Bool} {b : Env} {Q : Bool → Env → Prop} {E : Er} (e : r = .ok (a, b)) (h : Q a b) : WT r Q E := by with_unfolding_all (rw [e]; exact h)
theorem wa_eq {r : R (List D × Env)} {a : List D} {b : Env} {Q : List D → Env → Prop} {E : Er} (e : r = .ok (a, b)) (h : Q a b) : WA r Q E := by with_unfolding_all (rw [e]; exact h)
theorem ws_nx {r : R (Fl × Env)} {ρ : Env} {N : Env → Prop} {Rt : D → Env → Prop} {B C : Env → Prop} {E : Er} (e : r = .ok (.nx, ρ)) (h : N ρ) : WS r N Rt B C E := by with_unfolding_all (rw [e]; exact h)
section
variable {Q : D → Env → Prop} {QA : List D → Env → Prop} {QT : Bool → Env → Prop} {QB : D → D → Prop} {QR : D → Prop} {QO : Option Int → Env → Prop} {E : Er} {ρ : Env} {i j c n N' : Nat} {d : D} {fa fb fc : Env → R (D × Env)} {fs : Env → R (List D × Env)} {ft fu : Env → R (Bool × Env)} {fl fh : Env → R (Option Int × Env)} {g g' : D → D → Option D} {g1 : D → Option D} {gl : List D → Option D} {m : List D → R D} {mB : List D → R (D × D)} {ix : List (Nat × Nat)} {pl : List Nat}
  {N : Env → Prop} {Rt : D → Env → Prop} {B C : Env → Prop} {f h : Env → R (Fl × Env)} {tg : D → Env → Option Env}
theorem sm_of {α : Type} {o : Option α} {a : α} {K : α → Prop} (e : o = some a) (h : K a) : Sm o K := ⟨a, e, h⟩
theorem lk_of [e : GetEq ρ i d] (h : QR d) : Lk ρ i QR := ⟨d, e.eq, h⟩
theorem lk_eq (e : ρ[i]? = some (some d)) (h : QR d) : Lk ρ i QR := ⟨d, e, h⟩
theorem setN_of {x : Option D} {ρ' : Env} [e : SetEq ρ i x ρ'] (h : N ρ') : SetN ρ i x N := by unfold SetN; rw [e.eq]; exact h
theorem br_t {P P' : Prop} (h : P) : Br true P P' := ⟨fun _ => h, fun z => (nomatch z)⟩
theorem br_f {P P' : Prop} (h : P') : Br false P P' := ⟨fun z => (nomatch z), fun _ => h⟩
theorem br_dt {p P P' : Prop} [Decidable p] (hp : p) (h : P) : Br (decide p) P P' := ⟨fun _ => h, fun z => absurd hp (of_decide_eq_false z)⟩
theorem br_df {p P P' : Prop} [Decidable p] (hp : ¬ p) (h : P') : Br (decide p) P P' := ⟨fun z => absurd (of_decide_eq_true z) hp, fun _ => h⟩
theorem br_d {p P P' : Prop} [Decidable p] (h1 : p → P) (h2 : ¬ p → P') : Br (decide p) P P' := ⟨fun z => h1 (of_decide_eq_true z), fun z => h2 (of_decide_eq_false z)⟩
theorem br_n {b : Bool} {P P' : Prop} (h : Br b P' P) : Br (!b) P P' := ⟨fun z => h.2 (by simpa using z), fun z => h.1 (by simpa using z)⟩
theorem br_b {b : Bool} {P P' : Prop} (h1 : b = true → P) (h2 : b = false → P') : Br b P P' := ⟨h1, h2⟩
/-! names -/
theorem we_var [g0 : GetEq ρ i d] (h : Q d ρ) : WE (mVar i ρ) Q E := by with_unfolding_all (unfold mVar; rw [g0.eq]; exact h)
theorem we_mov [g0 : GetEq ρ i d] (h : SetN ρ i none (Q d)) : WE (mMov i ρ) Q E := by with_unfolding_all (unfold mMov; rw [g0.eq]; exact h)
theorem we_con (h : Q d ρ) : WE (mCon d ρ) Q E := by with_unfolding_all exact h
theorem ofO_sm {α β : Type} {o : Option α} {k : α → R β} {K : β → Prop} (h : Sm o fun a => WR (k a) K E) : WR ((ofO o).bind k) K E := by
  with_unfolding_all
    obtain ⟨a, e, h⟩ := h
    rw [e]; exact h
theorem we_un (h : WE (fa ρ) (fun x ρ1 => Sm (g1 x) fun y => Q y ρ1) E) : WE (mUn g1 fa ρ) Q E := by
  with_unfolding_all
    unfold mUn
    revert h
    generalize fa ρ = r
    intro h
    match r, h with
    | .ok (x, ρ1), h =>
      simp only [WE_ok, WA_ok, WT_ok, WB_ok, WO_ok, WS_nx, WS_rt] at h
      obtain ⟨y, e, h⟩ := h
      simp only [R.bind_ok, e, ofO]; exact h
    | .er c fs, h => exact h
    | .bad, h => exact h
theorem we_bin (h : WE (fa ρ) (fun x ρ1 => WE (fb ρ1) (fun y ρ2 => Sm (g x y) fun z => Q z ρ2) E) E) : WE (mBin g fa fb ρ) Q E := by
  with_unfolding_all
    unfold mBin
    revert h
    generalize fa ρ = r
    intro h
    match r, h with
    | .ok (x, ρ1), h =>
      have h : WE (fb ρ1) _ E := h
      simp only [R.bind_ok]
      revert h
      generalize fb ρ1 = r
      intro h
      match r, h with
      | .ok (y, ρ2), h =>
        simp only [WE_ok, WA_ok, WT_ok, WB_ok, WO_ok, WS_nx, WS_rt] at h
        obtain ⟨z, e, h⟩ := h
        simp only [R.bind_ok, e, ofO]; exact h
      | .er c fs, h => exact h
      | .bad, h => exact h
    | .er c fs, h => exact h
    | .bad, h => exact h
theorem wa_nil (h : QA [] ρ) : WA (mNil ρ) QA E := by with_unfolding_all exact h
theorem wa_cons (h : WE (fa ρ) (fun x ρ1 => WA (fs ρ1) (fun xs ρ2 => QA (x :: xs) ρ2) E) E) : WA (mCons fa fs ρ) QA E := by
  with_unfolding_all
    unfold mCons
    revert h
    generalize fa ρ = r
    intro h
    match r, h with
    | .ok (x, ρ1), h =>
      have h : WA (fs ρ1) _ E := h
      simp only [R.bind_ok]
      revert h
      generalize fs ρ1 = r
      intro h
      match r, h with
      | .ok (y, ρ2), h => exact h
      | .er c fs, h => exact h
      | .bad, h => exact h
    | .er c fs, h => exact h
    | .bad, h => exact h
theorem we_prim (h : WA (fs ρ) (fun xs ρ1 => Sm (gl xs) fun z => Q z ρ1) E) : WE (mPrim gl fs ρ) Q E := by
  with_unfolding_all
    unfold mPrim
    revert h
    generalize fs ρ = r
    intro h
    match r, h with
    | .ok (x, ρ1), h =>
      simp only [WE_ok, WA_ok, WT_ok, WB_ok, WO_ok, WS_nx, WS_rt] at h
      obtain ⟨y, e, h⟩ := h
      simp only [R.bind_ok, e, ofO]; exact h
    | .er c fs, h => exact h
    | .bad, h => exact h
theorem we_fldN (h : Lk ρ i fun d => Sm (gFld ix d) fun y => Q y ρ) : WE (mFldN i ix ρ) Q E := by
  with_unfolding_all
    obtain ⟨d, e1, y, e2, h⟩ := h
    unfold mFldN
    simp only [e1, e2, ofO, R.bind_ok]; exact h
theorem we_unN (h : Lk ρ i fun d => Sm (g1 d) fun y => Q y ρ) : WE (mUnN i g1 ρ) Q E := by
  with_unfolding_all
    obtain ⟨d, e1, y, e2, h⟩ := h
    unfold mUnN
    simp only [e1, e2, ofO, R.bind_ok]; exact h
theorem we_binN [g0 : GetEq ρ i d] (h : WE (fb ρ) (fun y ρ1 => Lk ρ1 i fun d => Sm (g d y) fun z => Q z ρ1) E) : WE (mBinN i g fb ρ) Q E := by
  with_unfolding_all
    have e0 := g0.eq
    unfold mBinN
    simp only [e0]
    revert h
    generalize fb ρ = r
    intro h
    match r, h with
    | .ok (x, ρ1), h =>
      simp only [WE_ok, WA_ok, WT_ok, WB_ok, WO_ok, WS_nx, WS_rt] at h
      obtain ⟨d, e1, y, e2, h⟩ := h
      simp only [R.bind_ok, e1, e2, ofO]; exact h
    | .er c fs, h => exact h
    | .bad, h => exact h
/-! calls -/
theorem we_call (h : WA (fs ρ) (fun xs ρ1 => WR (m xs) (fun d => Q d ρ1) E) E) : WE (mCall m fs ρ) Q E := by
  with_unfolding_all
    unfold mCall
    revert h
    generalize fs ρ = r
    intro h
    match r, h with
    | .ok (x, ρ1), h =>
      have h : WR (m x) _ E := h
      simp only [R.bind_ok]
      revert h
      generalize m x = r
      intro h
      match r, h with
      | .ok y, h => exact h
      | .er c fs, h => exact h
      | .bad, h => exact h
    | .er c fs, h => exact h
    | .bad, h => exact h
theorem we_callB [g0 : GetEq ρ i d] (h : WA (fs ρ) (fun xs ρ1 => Lk ρ1 i fun d0 => WB (mB (d0 :: xs)) (fun d d1 => SetN ρ1 i (some d1) (Q d)) E) E) : WE (mCallB i mB fs ρ) Q E := by
  with_unfolding_all
    have e0 := g0.eq
    unfold mCallB
    simp only [e0]
    revert h
    generalize fs ρ = r
    intro h
    match r, h with
    | .ok (x, ρ1), h =>
      simp only [WE_ok, WA_ok, WT_ok, WB_ok, WO_ok, WS_nx, WS_rt] at h
      obtain ⟨d0, e1, h⟩ := h
      simp only [R.bind_ok, e1]
      revert h
      generalize mB (d0 :: x) = r
      intro h
      match r, h with
      | .ok (y, d1), h => exact h
      | .er c fs, h => exact h
      | .bad, h => exact h
    | .er c fs, h => exact h
    | .bad, h => exact h
theorem we_callK (h : WA (fs ρ) (fun xs ρ1 => xs.length = n ∧ WR (m (permL pl xs)) (fun d => Q d ρ1) E) E) : WE (mCallK m n pl fs ρ) Q E := by
  with_unfolding_all
    unfold mCallK
    revert h
    generalize fs ρ = r
    intro h
    match r, h with
    | .ok (x, ρ1), h =>
      simp only [WE_ok, WA_ok, WT_ok, WB_ok, WO_ok, WS_nx, WS_rt] at h
      obtain ⟨e, h⟩ := h
      simp only [R.bind_ok, if_pos e]
      revert h
      generalize m (permL pl x) = r
      intro h
      match r, h with
      | .ok y, h => exact h
      | .er c fs, h => exact h
      | .bad, h => exact h
    | .er c fs, h => exact h
    | .bad, h => exact h
/-- what an __init__ gives back -/
def Non (d : D) (P : Prop) : Prop := d = .non ∧ P
theorem non_of {P : Prop} (h : P) : Non .non P := ⟨rfl, h⟩
theorem we_make (h : WA (fs ρ) (fun xs ρ1 => WB (mB (.ins c [] :: xs)) (fun d d0 => Non d (Q d0 ρ1)) E) E) : WE (mMake c mB fs ρ) Q E := by
  with_unfolding_all
    unfold mMake
    revert h
    generalize fs ρ = r
    intro h
    match r, h with
    | .ok (x, ρ1), h =>
      have h : WB (mB (.ins c [] :: x)) _ E := h
      simp only [R.bind_ok]
      revert h
      generalize mB (.ins c [] :: x) = r
      intro h
      match r, h with
      | .ok (y, d1), h =>
        simp only [WE_ok, WA_ok, WT_ok, WB_ok, WO_ok, WS_nx, WS_rt] at h
        obtain ⟨e, h⟩ := h
        subst e; exact h
      | .er c fs, h => exact h
      | .bad, h => exact h
    | .er c fs, h => exact h
    | .bad, h => exact h
theorem we_makeK (h : WA (fs ρ) (fun xs ρ1 => xs.length = n ∧ WB (mB (.ins c [] :: permL pl xs)) (fun d d0 => Non d (Q d0 ρ1)) E) E) : WE (mMakeK c mB n pl fs ρ) Q E := by
  with_unfolding_all
    unfold mMakeK
    refine we_make ?_
    revert h
    generalize fs ρ = r
    intro h
    match r, h with
    | .ok (x, ρ1), h =>
      simp only [WE_ok, WA_ok, WT_ok, WB_ok, WO_ok, WS_nx, WS_rt] at h
      obtain ⟨e, h⟩ := h
      simp only [R.bind_ok, if_pos e]; exact h
    | .er c fs, h => exact h
    | .bad, h => exact h
theorem we_makeL [g0 : GetEq ρ i (.cls c)] (h : WE (mMake c mB fs ρ) Q E) : WE (mMakeL i c mB fs ρ) Q E := by
  with_unfolding_all
    have e0 := g0.eq
    unfold mMakeL
    simp only [e0, if_true]; exact h
/-- an instance of the class c -/
def Ins (c : Nat) (d : D) (P : List D → Prop) : Prop := ∃ fs, d = .ins c fs ∧ P fs
theorem ins_of {fs : List D} {P : List D → Prop} (h : P fs) : Ins c (.ins c fs) P := ⟨fs, rfl, h⟩
theorem we_meth (h : WE (fa ρ) (fun x ρ1 => Ins c x fun fd => WA (fs ρ1) (fun xs ρ2 => WR (m (.ins c fd :: xs)) (fun d => Q d ρ2) E) E) E) : WE (mMeth c m fa fs ρ) Q E := by
  with_unfolding_all
    unfold mMeth
    revert h
    generalize fa ρ = r
    intro h
    match r, h with
    | .ok (x, ρ1), h =>
      simp only [WE_ok, WA_ok, WT_ok, WB_ok, WO_ok, WS_nx, WS_rt] at h
      obtain ⟨fd, e, h⟩ := h
      subst e
      simp only [R.bind_ok, if_true]
      revert h
      generalize fs ρ1 = r
      intro h
      match r, h with
      | .ok (xs, ρ2), h =>
        have h : WR (m (.ins c fd :: xs)) _ E := h
        simp only [R.bind_ok]
        revert h
        generalize m (.ins c fd :: xs) = r
        intro h
        match r, h with
        | .ok y, h => exact h
        | .er c fs, h => exact h
        | .bad, h => exact h
      | .er c fs, h => exact h
      | .bad, h => exact h
    | .er c fs, h => exact h
    | .bad, h => exact h
/-! tests -/
def Bl (d : D) (P : Bool → Prop) : Prop := ∃ b, d = .bl b ∧ P b
theorem bl_of {b : Bool} {P : Bool → Prop} (h : P b) : Bl (.bl b) P := ⟨b, rfl, h⟩
theorem wt_val (h : WE (fa ρ) (fun x ρ1 => Bl x fun b => QT b ρ1) E) : WT (mVal fa ρ) QT E := by
  with_unfolding_all
    unfold mVal
    revert h
    generalize fa ρ = r
    intro h
    match r, h with
    | .ok (x, ρ1), h =>
      simp only [WE_ok, WA_ok, WT_ok, WB_ok, WO_ok, WS_nx, WS_rt] at h
      obtain ⟨b, e, h⟩ := h
      subst e; exact h
    | .er c fs, h => exact h
    | .bad, h => exact h
theorem wt_bind {k : Bool × Env → R (Bool × Env)} (h : WT (ft ρ) (fun b ρ1 => WT (k (b, ρ1)) QT E) E) : WT ((ft ρ).bind k) QT E := by
  with_unfolding_all
    revert h
    generalize ft ρ = r
    intro h
    match r, h with
    | .ok (b, ρ1), h => exact h
    | .er c fs, h => exact h
    | .bad, h => exact h
theorem wt_and (h : WT (ft ρ) (fun b ρ1 => Br b (WT (fu ρ1) QT E) (QT false ρ1)) E) : WT (mAnd ft fu ρ) QT E := by
  with_unfolding_all
    unfold mAnd
    refine wt_bind (h.mono (fun b ρ1 z => ?_) fun _ _ z => z)
    cases b with
    | true => exact z.1 rfl
    | false => exact z.2 rfl
theorem wt_or (h : WT (ft ρ) (fun b ρ1 => Br b (QT true ρ1) (WT (fu ρ1) QT E)) E) : WT (mOr ft fu ρ) QT E := by
  with_unfolding_all
    unfold mOr
    refine wt_bind (h.mono (fun b ρ1 z => ?_) fun _ _ z => z)
    cases b with
    | true => exact z.1 rfl
    | false => exact z.2 rfl
theorem wt_not (h : WT (ft ρ) (fun b ρ1 => QT (!b) ρ1) E) : WT (mNot ft ρ) QT E := by
  with_unfolding_all
    unfold mNot
    exact wt_bind h
theorem wt_keep (b0 : Bool) (h : WT (ft ρ) (fun b ρ1 => b = b0 ∧ ρ1 = ρ) E0) (k : QT b0 ρ) : WT (ft ρ) QT E := by
  with_unfolding_all
    refine h.mono (fun b ρ1 z => ?_) fun _ _ z => z.elim
    obtain ⟨rfl, rfl⟩ := z
    exact k
theorem we_keep (d0 : D) (h : WE (fa ρ) (fun b ρ1 => b = d0 ∧ ρ1 = ρ) E0) (k : Q d0 ρ) : WE (fa ρ) Q E := by
  with_unfolding_all
    refine h.mono (fun b ρ1 z => ?_) fun _ _ z => z.elim
    obtain ⟨rfl, rfl⟩ := z
    exact k
theorem wt_yes (h : QT true ρ) : WT (mYes ρ) QT E := by with_unfolding_all exact h
theorem we_bindT {k : Bool × Env → R (D × Env)} (h : WT (ft ρ) (fun b ρ1 => WE (k (b, ρ1)) Q E) E) : WE ((ft ρ).bind k) Q E := by
  with_unfolding_all
    revert h
    generalize ft ρ = r
    intro h
    match r, h with
    | .ok (b, ρ1), h => exact h
    | .er c fs, h => exact h
    | .bad, h => exact h
theorem we_bindE {k : D × Env → R (D × Env)} (h : WE (fa ρ) (fun b ρ1 => WE (k (b, ρ1)) Q E) E) : WE ((fa ρ).bind k) Q E := by
  with_unfolding_all
    revert h
    generalize fa ρ = r
    intro h
    match r, h with
    | .ok (b, ρ1), h => exact h
    | .er c fs, h => exact h
    | .bad, h => exact h
theorem we_if (h : WT (ft ρ) (fun b ρ1 => Br b (WE (fa ρ1) Q E) (WE (fb ρ1) Q E)) E) : WE (mIf ft fa fb ρ) Q E := by
  with_unfolding_all
    unfold mIf
    refine we_bindT (h.mono (fun b ρ1 z => ?_) fun _ _ z => z)
    cases b with
    | true => exact z.1 rfl
    | false => exact z.2 rfl
theorem we_and (h : WE (fa ρ) (fun x ρ1 => Bl x fun b => Br b (WE (fb ρ1) Q E) (Q (.bl false) ρ1)) E) : WE (mAndV fa fb ρ) Q E := by
  with_unfolding_all
    unfold mAndV
    refine we_bindE (h.mono (fun x ρ1 z => ?_) fun _ _ z => z)
    obtain ⟨b, rfl, z⟩ := z
    cases b with
    | true => exact z.1 rfl
    | false => exact z.2 rfl
theorem we_or (h : WE (fa ρ) (fun x ρ1 => Bl x fun b => Br b (Q (.bl true) ρ1) (WE (fb ρ1) Q E)) E) : WE (mOrV fa fb ρ) Q E := by
  with_unfolding_all
    unfold mOrV
    refine we_bindE (h.mono (fun x ρ1 z => ?_) fun _ _ z => z)
    obtain ⟨b, rfl, z⟩ := z
    cases b with
    | true => exact z.1 rfl
    | false => exact z.2 rfl
theorem we_ofO {o : Option D} {ρ1 : Env} (h : Sm o fun z => Q z ρ1) : WE ((ofO o).bind fun d => .ok (d, ρ1)) Q E := by
  with_unfolding_all
    obtain ⟨z, e, h⟩ := h
    rw [e]; exact h
theorem we_chain (h : WE (fa ρ) (fun x ρ1 => WE (fb ρ1) (fun y ρ2 => Sm (g x y) fun z => Bl z fun b => Br b (WE (fc ρ2) (fun w ρ3 => Sm (g' y w) fun d => Q d ρ3) E) (Q (.bl false) ρ2)) E) E) : WE (mChain g g' fa fb fc ρ) Q E := by
  with_unfolding_all
    unfold mChain
    refine we_bindE (h.mono (fun x ρ1 z => ?_) fun _ _ z => z)
    refine we_bindE (z.mono (fun y ρ2 z => ?_) fun _ _ z => z)
    obtain ⟨w, e, b, rfl, z⟩ := z
    dsimp only
    rw [e]
    cases b with
    | true => exact we_bindE ((z.1 rfl).mono (fun w ρ3 z => we_ofO z) fun _ _ z => z)
    | false => exact z.2 rfl
/-! slices -/
theorem wo_none (h : QO none ρ) : WO (mNoP ρ) QO E := by with_unfolding_all exact h
def In (d : D) (P : Int → Prop) : Prop := ∃ i, d = .int i ∧ P i
theorem in_of {k : Int} {P : Int → Prop} (h : P k) : In (.int k) P := ⟨k, rfl, h⟩
theorem wo_part (h : WE (fa ρ) (fun x ρ1 => In x fun k => QO (some k) ρ1) E) : WO (mPart fa ρ) QO E := by
  with_unfolding_all
    unfold mPart
    revert h
    generalize fa ρ = r
    intro h
    match r, h with
    | .ok (x, ρ1), h =>
      simp only [WE_ok, WA_ok, WT_ok, WB_ok, WO_ok, WS_nx, WS_rt] at h
      obtain ⟨b, e, h⟩ := h
      subst e; exact h
    | .er c fs, h => exact h
    | .bad, h => exact h
theorem we_bindO {k : Option Int × Env → R (D × Env)} (h : WO (fl ρ) (fun b ρ1 => WE (k (b, ρ1)) Q E) E) : WE ((fl ρ).bind k) Q E := by
  with_unfolding_all
    revert h
    generalize fl ρ = r
    intro h
    match r, h with
    | .ok (b, ρ1), h => exact h
    | .er c fs, h => exact h
    | .bad, h => exact h
theorem WO.mono {r : R (Option Int × Env)} {Q Q' : Option Int → Env → Prop} {E E' : Er} (h : WO r Q E) (q : ∀ a b, Q a b → Q' a b) (e : ∀ c fs, E c fs → E' c fs) : WO r Q' E' := by
  with_unfolding_all
    cases r with
    | ok a => exact q _ _ h
    | er c fs => exact e _ _ h
    | bad => exact h
theorem we_sl (h : WE (fa ρ) (fun x ρ1 => WO (fl ρ1) (fun l ρ2 => WO (fh ρ2) (fun u ρ3 => Sm (gSl x l u) fun d => Q d ρ3) E) E) E) : WE (mSl fa fl fh ρ) Q E := by
  with_unfolding_all
    unfold mSl
    refine we_bindE (h.mono (fun x ρ1 z => ?_) fun _ _ z => z)
    refine we_bindO (z.mono (fun y ρ2 z => ?_) fun _ _ z => z)
    exact we_bindO (z.mono (fun y ρ2 z => we_ofO z) fun _ _ z => z)
theorem we_slN [g0 : GetEq ρ i d] (h : WO (fl ρ) (fun l ρ2 => WO (fh ρ2) (fun u ρ3 => Lk ρ3 i fun x => Sm (gSl x l u) fun d => Q d ρ3) E) E) : WE (mSlN i fl fh ρ) Q E := by
  with_unfolding_all
    have e0 := g0.eq
    unfold mSlN
    simp only [e0]
    refine we_bindO (h.mono (fun y ρ2 z => ?_) fun _ _ z => z)
    refine we_bindO (z.mono (fun y ρ2 z => ?_) fun _ _ z => z)
    obtain ⟨x, e, z⟩ := z
    simp only [e]
    exact we_ofO z
/-! statements -/
theorem ws_bindE {k : D × Env → R (Fl × Env)} (h : WE (fa ρ) (fun d ρ1 => WS (k (d, ρ1)) N Rt B C E) E) : WS ((fa ρ).bind k) N Rt B C E := by
  with_unfolding_all
    revert h
    generalize fa ρ = r
    intro h
    match r, h with
    | .ok (b, ρ1), h => exact h
    | .er c fs, h => exact h
    | .bad, h => exact h
theorem ws_bindA {k : List D × Env → R (Fl × Env)} (h : WA (fs ρ) (fun d ρ1 => WS (k (d, ρ1)) N Rt B C E) E) : WS ((fs ρ).bind k) N Rt B C E := by
  with_unfolding_all
    revert h
    generalize fs ρ = r
    intro h
    match r, h with
    | .ok (b, ρ1), h => exact h
    | .er c fs, h => exact h
    | .bad, h => exact h
theorem ws_bindT {k : Bool × Env → R (Fl × Env)} (h : WT (ft ρ) (fun d ρ1 => WS (k (d, ρ1)) N Rt B C E) E) : WS ((ft ρ).bind k) N Rt B C E := by
  with_unfolding_all
    revert h
    generalize ft ρ = r
    intro h
    match r, h with
    | .ok (b, ρ1), h => exact h
    | .er c fs, h => exact h
    | .bad, h => exact h
theorem ws_skip (h : N ρ) : WS (mSkip ρ) N Rt B C E := by with_unfolding_all exact h
theorem ws_brk (h : B ρ) : WS (mBrk ρ) N Rt B C E := by with_unfolding_all exact h
theorem ws_cnt (h : C ρ) : WS (mCnt ρ) N Rt B C E := by with_unfolding_all exact h
theorem ws_retN (h : Rt .non ρ) : WS (mRetN ρ) N Rt B C E := by with_unfolding_all exact h
theorem ws_seq (k : WS (f ρ) (fun ρ1 => WS (h ρ1) N Rt B C E) Rt B C E) : WS (mSeq f h ρ) N Rt B C E := by
  with_unfolding_all
    unfold mSeq
    revert k
    generalize f ρ = r
    intro k
    match r, k with
    | .ok (.nx, ρ1), k => exact k
    | .ok (.rt d, ρ1), k => exact k
    | .ok (.bk, ρ1), k => exact k
    | .ok (.ct, ρ1), k => exact k
    | .er c fs, k => exact k
    | .bad, k => exact k
theorem ws_set (k : WE (fa ρ) (fun d ρ1 => SetN ρ1 i (some d) N) E) : WS (mSet i fa ρ) N Rt B C E := by
  with_unfolding_all
    unfold mSet
    exact ws_bindE k
theorem ws_ret (k : WE (fa ρ) Rt E) : WS (mRet fa ρ) N Rt B C E := by
  with_unfolding_all
    unfold mRet
    exact ws_bindE k
theorem ws_drop (k : WE (fa ρ) (fun _ ρ1 => N ρ1) E) : WS (mDrop fa ρ) N Rt B C E := by
  with_unfolding_all
    unfold mDrop
    exact ws_bindE k
theorem ws_if (k : WT (ft ρ) (fun b ρ1 => Br b (WS (f ρ1) N Rt B C E) (WS (h ρ1) N Rt B C E)) E) : WS (mIfS ft f h ρ) N Rt B C E := by
  with_unfolding_all
    unfold mIfS
    refine ws_bindT (k.mono (fun b ρ1 z => ?_) fun _ _ z => z)
    cases b with
    | true => exact z.1 rfl
    | false => exact z.2 rfl
theorem ws_asg (k : WE (fa ρ) (fun d ρ1 => Sm (tg d ρ1) N) E) : WS (mAsg tg fa ρ) N Rt B C E := by
  with_unfolding_all
    unfold mAsg
    refine ws_bindE (k.mono (fun b ρ1 z => ?_) fun _ _ z => z)
    obtain ⟨a, e, z⟩ := z
    dsimp only
    rw [e]; exact z
theorem sm_gtN (k : SetN ρ i (some d) N) : Sm (gtN i d ρ) N := ⟨_, rfl, k⟩
theorem sm_gtT {gs : List D → Env → Option Env} {xs : List D} (e : xs.length = n) (k : Sm (gs xs ρ) N) : Sm (gtT n gs (.tup xs) ρ) N := by
  obtain ⟨a, e2, k⟩ := k
  exact ⟨a, (if_pos e).trans e2, k⟩
theorem sm_gtNil (k : N ρ) : Sm (gtNil [] ρ) N := ⟨_, rfl, k⟩
theorem sm_gtCons {gs : List D → Env → Option Env} {xs : List D} (k : Sm (tg d ρ) fun ρ1 => Sm (gs xs ρ1) N) : Sm (gtCons tg gs (d :: xs) ρ) N := by
  obtain ⟨a, e, b, e2, k⟩ := k
  exact ⟨b, by show Option.bind (tg d ρ) _ = _; rw [e]; exact e2, k⟩
theorem ws_par {x y : Nat} (k : WA (fs ρ) (fun ds ρ1 => ∃ d e, ds = [d, e] ∧ SetN ρ1 x (some d) fun ρ2 => SetN ρ2 y (some e) N) E) : WS (mPar x y fs ρ) N Rt B C E := by
  with_unfolding_all
    unfold mPar
    refine ws_bindA (k.mono (fun b ρ1 z => ?_) fun _ _ z => z)
    obtain ⟨d, e, rfl, z⟩ := z
    exact z
theorem two_of {d e : D} {P : D → D → Prop} (h : P d e) : ∃ d' e', [d, e] = [d', e'] ∧ P d' e' := ⟨d, e, rfl, h⟩
theorem ws_aug (k : Lk ρ i fun x => WE (fb ρ) (fun y ρ1 => Sm (g x y) fun d => SetN ρ1 i (some d) N) E) : WS (mAug i g fb ρ) N Rt B C E := by
  with_unfolding_all
    obtain ⟨x, e, k⟩ := k
    unfold mAug
    simp only [e]
    refine ws_bindE (k.mono (fun b ρ1 z => ?_) fun _ _ z => z)
    obtain ⟨a, e, z⟩ := z
    dsimp only
    rw [e]; exact z
/-- a list at a name -/
def Lst (d : D) (P : List D → Prop) : Prop := ∃ xs, d = .lst xs ∧ P xs
theorem lst_of {xs : List D} {P : List D → Prop} (h : P xs) : Lst (.lst xs) P := ⟨xs, rfl, h⟩
theorem ws_app {xs0 : List D} [g0 : GetEq ρ i (.lst xs0)] (k : WE (fa ρ) (fun d ρ1 => Lk ρ1 i fun x => Lst x fun xs => xs.length < 100000 ∧ SetN ρ1 i (some (.lst (xs ++ [d]))) N) E) : WS (mApp i fa ρ) N Rt B C E := by
  with_unfolding_all
    have e0 := g0.eq
    unfold mApp
    simp only [e0]
    refine ws_bindE (k.mono (fun b ρ1 z => ?_) fun _ _ z => z)
    obtain ⟨x, e, xs, rfl, l, z⟩ := z
    simp only [e, if_pos l]
    exact z
theorem ws_ext {xs0 : List D} [g0 : GetEq ρ i (.lst xs0)] (k : WE (fa ρ) (fun d ρ1 => Lst d fun ys => Lk ρ1 i fun x => Lst x fun xs => xs.length + ys.length < 100000 ∧ SetN ρ1 i (some (.lst (xs ++ ys))) N) E) : WS (mExt i fa ρ) N Rt B C E := by
  with_unfolding_all
    have e0 := g0.eq
    unfold mExt
    simp only [e0]
    refine ws_bindE (k.mono (fun b ρ1 z => ?_) fun _ _ z => z)
    obtain ⟨ys, rfl, x, e, xs, rfl, l, z⟩ := z
    simp only [e, if_pos l]
    exact z
theorem ws_setix (k : WE (fa ρ) (fun d ρ1 => Lk ρ1 i fun x => Lst x fun _ => WE (fb ρ1) (fun j ρ2 => In j fun j => Lk ρ2 i fun x => Lst x fun xs => Sm (gPut xs j d) fun ys => SetN ρ2 i (some (.lst ys)) N) E) E) : WS (mSetIx i fa fb ρ) N Rt B C E := by
  with_unfolding_all
    unfold mSetIx
    refine ws_bindE (k.mono (fun b ρ1 z => ?_) fun _ _ z => z)
    obtain ⟨x, e, xs, rfl, z⟩ := z
    simp only [e]
    refine ws_bindE (z.mono (fun b ρ1 z => ?_) fun _ _ z => z)
    obtain ⟨j, rfl, x, e, xs, rfl, ys, e2, z⟩ := z
    simp only [e, e2, ofO, R.bind_ok]
    exact z
theorem we_pop {xs : List D} [g0 : GetEq ρ i (.lst xs)] (h : Sm xs.getLast? fun d => SetN ρ i (some (.lst xs.dropLast)) (Q d)) : WE (mPop i ρ) Q E := by
  with_unfolding_all
    have e0 := g0.eq
    obtain ⟨d, e, h⟩ := h
    unfold mPop
    simp only [e0, e]; exact h
theorem ws_fset {c j : Nat} (k : WE (fa ρ) (fun d ρ1 => Lk ρ1 i fun x => Ins c x fun fs => (j = fs.length ∧ SetN ρ1 i (some (.ins c (fs ++ [d]))) N) ∨ (j < fs.length ∧ SetN ρ1 i (some (.ins c (fs.set j d))) N)) E) : WS (mFldSet i c j fa ρ) N Rt B C E := by
  with_unfolding_all
    unfold mFldSet
    refine ws_bindE (k.mono (fun b ρ1 z => ?_) fun _ _ z => z)
    obtain ⟨x, e, fs, rfl, z⟩ := z
    simp only [e, if_true]
    rcases z with ⟨h, z⟩ | ⟨h, z⟩
    · rw [if_pos h]; exact z
    · rw [if_neg (by omega), if_pos h]; exact z
theorem ws_try (k : WS (f ρ) N Rt B C E0) : WS (mTry f ρ) N Rt B C E := by
  with_unfolding_all
    unfold mTry
    revert k
    generalize f ρ = r
    intro k
    match r, k with
    | .ok (.nx, ρ1), k => exact k
    | .ok (.rt d, ρ1), k => exact k
    | .ok (.bk, ρ1), k => exact k
    | .ok (.ct, ρ1), k => exact k
    | .er c fs, k => exact k.elim
    | .bad, k => exact k
/-! loops -/
theorem wa_bindE {k : D × Env → R (List D × Env)} (h : WE (fa ρ) (fun d ρ1 => WA (k (d, ρ1)) QA E) E) : WA ((fa ρ).bind k) QA E := by
  with_unfolding_all
    revert h
    generalize fa ρ = r
    intro h
    match r, h with
    | .ok (b, ρ1), h => exact h
    | .er c fs, h => exact h
    | .bad, h => exact h
theorem wa_bindA {k : List D × Env → R (List D × Env)} (h : WA (fs ρ) (fun d ρ1 => WA (k (d, ρ1)) QA E) E) : WA ((fs ρ).bind k) QA E := by
  with_unfolding_all
    revert h
    generalize fs ρ = r
    intro h
    match r, h with
    | .ok (b, ρ1), h => exact h
    | .er c fs, h => exact h
    | .bad, h => exact h
theorem wa_itL (h : WE (fa ρ) (fun d ρ1 => Lst d fun xs => QA xs ρ1) E) : WA (mItL fa ρ) QA E := by
  with_unfolding_all
    unfold mItL
    refine wa_bindE (h.mono (fun b ρ1 z => ?_) fun _ _ z => z)
    obtain ⟨xs, rfl, z⟩ := z
    exact z
def Tup (d : D) (P : List D → Prop) : Prop := ∃ xs, d = .tup xs ∧ P xs
theorem tup_of {xs : List D} {P : List D → Prop} (h : P xs) : Tup (.tup xs) P := ⟨xs, rfl, h⟩
theorem wa_itT (h : WE (fa ρ) (fun d ρ1 => Tup d fun xs => QA xs ρ1) E) : WA (mItT fa ρ) QA E := by
  with_unfolding_all
    unfold mItT
    refine wa_bindE (h.mono (fun b ρ1 z => ?_) fun _ _ z => z)
    obtain ⟨xs, rfl, z⟩ := z
    exact z
theorem wa_seqD {hh : List D → List D} (h : WE (fa ρ) (fun d ρ1 => Sm (seqD d) fun p => QA (hh p.2) ρ1) E) : WA (mSeqD hh fa ρ) QA E := by
  with_unfolding_all
    unfold mSeqD
    refine wa_bindE (h.mono (fun b ρ1 z => ?_) fun _ _ z => z)
    obtain ⟨p, e, z⟩ := z
    dsimp only
    rw [e]; exact z
/-- one int -/
def Is1 (ds : List D) (P : Int → Prop) : Prop := ∃ j, ds = [.int j] ∧ P j
theorem is1_of {j : Int} {P : Int → Prop} (h : P j) : Is1 [.int j] P := ⟨j, rfl, h⟩
def Is2 (ds : List D) (P : Int → Int → Prop) : Prop := ∃ i j, ds = [.int i, .int j] ∧ P i j
theorem is2_of {i j : Int} {P : Int → Int → Prop} (h : P i j) : Is2 [.int i, .int j] P := ⟨i, j, rfl, h⟩
def Is3 (ds : List D) (P : Int → Int → Prop) : Prop := ∃ i j, ds = [.int i, .int j, .int (-1)] ∧ P i j
theorem is3_of {i j : Int} {P : Int → Int → Prop} (h : P i j) : Is3 [.int i, .int j, .int (-1)] P := ⟨i, j, rfl, h⟩
def Rng (i : Int) : Prop := -4611686018427387904 ≤ i ∧ i < 4611686018427387904
theorem Rng.line {i : Int} (h : Rng i) : inLine i = true := inLine_ok h.1 h.2
theorem wa_r1 (h : WA (fs ρ) (fun ds ρ1 => Is1 ds fun j => Rng j ∧ QA (intsFrom 0 j.toNat) ρ1) E) : WA (mItR1 fs ρ) QA E := by
  with_unfolding_all
    unfold mItR1
    refine wa_bindA (h.mono (fun b ρ1 z => ?_) fun _ _ z => z)
    obtain ⟨j, rfl, l, z⟩ := z
    simp only [asI1, l.line, if_true]
    exact z
theorem wa_r2 (h : WA (fs ρ) (fun ds ρ1 => Is2 ds fun i j => (Rng i ∧ Rng j) ∧ QA (intsFrom i (j - i).toNat) ρ1) E) : WA (mItR2 fs ρ) QA E := by
  with_unfolding_all
    unfold mItR2
    refine wa_bindA (h.mono (fun b ρ1 z => ?_) fun _ _ z => z)
    obtain ⟨i, j, rfl, ⟨l, l'⟩, z⟩ := z
    simp only [asI2, l.line, l'.line, Bool.and_self, if_true]
    exact z
theorem wa_r3 (h : WA (fs ρ) (fun ds ρ1 => Is3 ds fun i j => (Rng i ∧ Rng j) ∧ QA (intsDown i (i - j).toNat) ρ1) E) : WA (mItR3 fs ρ) QA E := by
  with_unfolding_all
    unfold mItR3
    refine wa_bindA (h.mono (fun b ρ1 z => ?_) fun _ _ z => z)
    obtain ⟨i, j, rfl, ⟨l, l'⟩, z⟩ := z
    simp only [asI3, l.line, l'.line, Bool.and_self, if_true, decide_true, Bool.and_true]
    exact z
def WF (tg : D → Env → Option Env) (f : Env → R (Fl × Env)) (ds : List D) (ρ : Env) (N : Env → Prop) (Rt : D → Env → Prop) (E : Er) : Prop := WS (mForL tg f ds ρ) N Rt (fun _ => False) (fun _ => False) E
theorem ws_for (k : WA (fs ρ) (fun ds ρ1 => WF tg f ds ρ1 N Rt E) E) : WS (mFor fs tg f ρ) N Rt B C E := by
  with_unfolding_all
    unfold mFor
    refine ws_bindA (k.mono (fun b ρ1 z => ?_) fun _ _ z => z)
    exact z.mono (fun _ z => z) (fun _ _ z => z) (fun _ z => z.elim) (fun _ z => z.elim) fun _ _ z => z
theorem wf_nil (h : N ρ) : WF tg f [] ρ N Rt E := by with_unfolding_all exact h
theorem wf_cons {ds : List D} (k : Sm (tg d ρ) fun ρ1 => WS (f ρ1) (fun ρ2 => WF tg f ds ρ2 N Rt E) Rt N (fun ρ2 => WF tg f ds ρ2 N Rt E) E) : WF tg f (d :: ds) ρ N Rt E := by
  with_unfolding_all
    obtain ⟨ρ1, e, k⟩ := k
    unfold WF
    unfold mForL
    rw [e]
    simp only [ofO, R.bind_ok]
    revert k
    generalize f ρ1 = r
    intro k
    match r, k with
    | .ok (.nx, ρ1), k => exact k
    | .ok (.rt d, ρ1), k => exact k
    | .ok (.bk, ρ1), k => exact k
    | .ok (.ct, ρ1), k => exact k
    | .er c fs, k => exact k
    | .bad, k => exact k
theorem wf_inv0 (I : Nat → Env → Prop) : ∀ (ds : List D) (k : Nat) (ρ : Env), I k ρ → (∀ i d ρ, ds[i]? = some d → I (k + i) ρ → Sm (tg d ρ) fun ρ1 => WS (f ρ1) (I (k + i + 1)) Rt N (I (k + i + 1)) E) → (∀ ρ', I (k + ds.length) ρ' → N ρ') → WF tg f ds ρ N Rt E
  | [], k, ρ, h0, _, he => wf_nil (he ρ h0)
  | d :: ds, k, ρ, h0, st, he => by
    have next : ∀ ρ2, I (k + 1) ρ2 → WF tg f ds ρ2 N Rt E := fun ρ2 h1 => by
      refine wf_inv0 I ds (k + 1) ρ2 h1 (fun i d' ρ' hd hi => ?_) fun ρ' h => he ρ' (by rw [List.length_cons, show k + (ds.length + 1) = k + 1 + ds.length by omega]; exact h)
      have e : k + 1 + i = k + (i + 1) := by omega
      rw [e] at hi ⊢
      exact st (i + 1) d' ρ' (by simpa using hd) hi
    refine wf_cons ?_
    obtain ⟨ρ1, e1, s1⟩ := st 0 d ρ rfl h0
    exact ⟨ρ1, e1, s1.mono next (fun _ _ z => z) (fun _ z => z) next fun _ _ z => z⟩
/-- a loop by its invariant -/
theorem wf_inv {ds : List D} (I : Nat → Env → Prop) (h0 : I 0 ρ) (st : ∀ i d ρ, ds[i]? = some d → I i ρ → Sm (tg d ρ) fun ρ1 => WS (f ρ1) (I (i + 1)) Rt N (I (i + 1)) E) (he : ∀ ρ', I ds.length ρ' → N ρ') : WF tg f ds ρ N Rt E :=
  wf_inv0 I ds 0 ρ h0 (fun i d ρ hd hi => by rw [Nat.zero_add] at hi ⊢; exact st i d ρ hd hi) fun ρ' h => he ρ' (by rw [Nat.zero_add] at h; exact h)
/-- over range(n) -/
theorem wf_rng {lo : Int} {k : Nat} (I : Nat → Env → Prop) (h0 : I 0 ρ) (st : ∀ (i : Nat) (ρ : Env), i < k → I i ρ → Sm (tg (.int (lo + (i : Int))) ρ) fun ρ1 => WS (f ρ1) (I (i + 1)) Rt N (I (i + 1)) E) (he : ∀ ρ', I k ρ' → N ρ') : WF tg f (intsFrom lo k) ρ N Rt E :=
  wf_inv I h0 (fun i d ρ hd hi => by obtain ⟨l, rfl⟩ := intsFrom_at hd; exact st i ρ l hi) fun ρ' h => he ρ' (by rw [intsFrom_length] at h; exact h)
theorem wf_down {lo : Int} {k : Nat} (I : Nat → Env → Prop) (h0 : I 0 ρ) (st : ∀ (i : Nat) (ρ : Env), i < k → I i ρ → Sm (tg (.int (lo - (i : Int))) ρ) fun ρ1 => WS (f ρ1) (I (i + 1)) Rt N (I (i + 1)) E) (he : ∀ ρ', I k ρ' → N ρ') : WF tg f (intsDown lo k) ρ N Rt E :=
  wf_inv I h0 (fun i d ρ hd hi => by obtain ⟨l, rfl⟩ := intsDown_at hd; exact st i ρ l hi) fun ρ' h => he ρ' (by rw [show (intsDown lo k).length = k by simp [intsDown]] at h; exact h)
/-- over a list that is told by a list -/
theorem wf_map {α : Type} {enc : α → D} {as : List α} (I : Nat → Env → Prop) (h0 : I 0 ρ) (st : ∀ (i : Nat) (a : α) (ρ : Env), as[i]? = some a → I i ρ → Sm (tg (enc a) ρ) fun ρ1 => WS (f ρ1) (I (i + 1)) Rt N (I (i + 1)) E) (he : ∀ ρ', I as.length ρ' → N ρ') : WF tg f (as.map enc) ρ N Rt E :=
  wf_inv I h0 (fun i d ρ hd hi => by
    rw [List.getElem?_map] at hd
    cases q : as[i]? with
    | none => rw [q] at hd; cases hd
    | some a => rw [q] at hd; cases hd; exact st i a ρ q hi) fun ρ' h => he ρ' (by rw [List.length_map] at h; exact h)
/-- while, by a measure -/
theorem ws_while (I : Nat → Env → Prop) : ∀ (n k : Nat) (ρ : Env), k < n → I k ρ → (∀ k ρ, I k ρ → WT (ft ρ) (fun b ρ1 => Br b (WS (f ρ1) (fun ρ2 => ∃ k', k' < k ∧ I k' ρ2) Rt N (fun ρ2 => ∃ k', k' < k ∧ I k' ρ2) E) (N ρ1)) E) → WS (mWhile n ft f ρ) N Rt B C E
  | 0, k, ρ, hk, _, _ => by omega
  | n + 1, k, ρ, hk, h0, st => by
    with_unfolding_all
      unfold mWhile
      refine ws_bindT ((st k ρ h0).mono (fun b ρ1 z => ?_) fun _ _ z => z)
      cases b with
      | false => exact z.2 rfl
      | true =>
        have z := z.1 rfl
        have next : ∀ ρ2, (∃ k', k' < k ∧ I k' ρ2) → WS (mWhile n ft f ρ2) N Rt B C E := fun ρ2 ⟨k', l, h⟩ => ws_while I n k' ρ2 (by omega) h st
        simp only [if_true]
        revert z
        generalize f ρ1 = r
        intro z
        match r, z with
        | .ok (.nx, ρ1), z => exact next _ z
        | .ok (.rt d, ρ1), z => exact z
        | .ok (.bk, ρ1), z => exact z
        | .ok (.ct, ρ1), z => exact next _ z
        | .er c fs, z => exact z
        | .bad, z => exact z
/-! comprehensions -/
theorem back_wipe {ρ : Env} {vs : List Nat} : backE ρ (wipeE ρ vs) vs = ρ := by
  have h : ∀ (us : List Nat) (ρ' : Env), ρ'.length = ρ.length → (∀ k, k ∉ us → ρ'[k]? = ρ[k]?) → backE ρ ρ' us = ρ := by
    intro us
    induction us with
    | nil =>
      intro ρ' _ h
      exact List.ext_getElem? fun k => h k (by simp)
    | cons u us ih =>
      intro ρ' hl h
      show (backE ρ ρ' us).set u ((ρ[u]?).getD none) = ρ
      have e : backE ρ ρ' us = ρ.set u ((ρ'[u]?).getD none) ∨ backE ρ ρ' us = ρ := by
        by_cases hu : u ∈ us
        · refine .inr (ih ρ' hl fun k hk => h k ?_)
          intro z
          rcases List.mem_cons.mp z with z | z
          · subst z; exact hk hu
          · exact hk z
        · left
          have g : backE ρ (ρ'.set u ((ρ[u]?).getD none)) us = ρ := ih _ (by rw [List.length_set]; exact hl) fun k hk => by
            by_cases e : k = u
            · subst e
              by_cases hlt : k < ρ.length
              · rw [List.getElem?_set_self (by omega), List.getElem?_eq_getElem hlt]; rfl
              · rw [List.getElem?_eq_none (by rw [List.length_set]; omega), List.getElem?_eq_none (by omega)]
            · rw [List.getElem?_set_ne (Ne.symm e)]
              exact h k fun z => (List.mem_cons.mp z).elim e hk
          -- setting outside us goes through
          have comm : ∀ (us : List Nat) (τ : Env) (x : Option D), u ∉ us → backE ρ (τ.set u x) us = (backE ρ τ us).set u x := by
            intro us
            induction us with
            | nil => intro τ x _; rfl
            | cons w us ih2 =>
              intro τ x hu
              show (backE ρ (τ.set u x) us).set w _ = ((backE ρ τ us).set w _).set u x
              rw [ih2 τ x fun z => hu (List.mem_cons_of_mem _ z)]
              exact List.set_comm _ _ fun z => hu (by rw [z]; exact List.mem_cons_self)
          rw [comm us ρ' _ hu] at g
          refine List.ext_getElem? fun k => ?_
          by_cases e : k = u
          · subst e
            by_cases hlt : k < ρ.length
            · rw [List.getElem?_set_self hlt]
              have key : ∀ (us : List Nat), k ∉ us → (backE ρ ρ' us)[k]? = ρ'[k]? := by
                intro us
                induction us with
                | nil => intro _; rfl
                | cons w us ih2 =>
                  intro hu
                  show ((backE ρ ρ' us).set w _)[k]? = _
                  rw [List.getElem?_set_ne fun z => hu (by rw [z]; exact List.mem_cons_self)]
                  exact ih2 fun z => hu (List.mem_cons_of_mem _ z)
              rw [key us hu, List.getElem?_eq_getElem (by omega)]; rfl
            · rw [List.getElem?_eq_none (by rw [backE_length]; omega), List.getElem?_eq_none (by rw [List.length_set]; omega)]
          · have g2 := congrArg (fun l => l[k]?) g
            simp only [List.getElem?_set_ne (Ne.symm e)] at g2
            rw [g2, List.getElem?_set_ne (Ne.symm e)]
      rcases e with e | e
      · rw [e, List.set_set]
        refine List.ext_getElem? fun k => ?_
        by_cases e : k = u
        · subst e
          by_cases hlt : k < ρ.length
          · rw [List.getElem?_set_self hlt, List.getElem?_eq_getElem hlt]; rfl
          · rw [List.getElem?_eq_none (by rw [List.length_set]; omega), List.getElem?_eq_none (by omega)]
        · rw [List.getElem?_set_ne (Ne.symm e)]
      · rw [e]
        refine List.ext_getElem? fun k => ?_
        by_cases e : k = u
        · subst e
          by_cases hlt : k < ρ.length
          · rw [List.getElem?_set_self hlt, List.getElem?_eq_getElem hlt]; rfl
          · rw [List.getElem?_eq_none (by rw [List.length_set]; omega), List.getElem?_eq_none (by omega)]
        · rw [List.getElem?_set_ne (Ne.symm e)]
  refine h vs _ wipeE_length fun k hk => ?_
  have : ∀ (vs : List Nat), k ∉ vs → (wipeE ρ vs)[k]? = ρ[k]? := by
    intro vs
    induction vs with
    | nil => intro _; rfl
    | cons w us ih =>
      intro hu
      show ((wipeE ρ us).set w none)[k]? = _
      rw [List.getElem?_set_ne fun z => hu (by rw [z]; exact List.mem_cons_self)]
      exact ih fun z => hu (List.mem_cons_of_mem _ z)
  exact this vs hk
/-- what a comprehension's turns give -/
def WC (vs : List Nat) (tg : D → Env → Option Env) (ft : Env → R (Bool × Env)) (fa : Env → R (D × Env)) (ds : List D) (ρ : Env) (Q : List D → Env → Prop) (E : Er) : Prop := WA (mCompL vs tg ft fa ds (wipeE ρ vs)) (fun ys ρ2 => Q ys (backE ρ ρ2 vs)) E
theorem we_comp {vs : List Nat} (h : WA (fs ρ) (fun ds ρ1 => ds.length ≤ 100000 ∧ WC vs tg ft fa ds ρ1 (fun ys ρ2 => Q (.lst ys) ρ2) E) E) : WE (mComp vs fs tg ft fa ρ) Q E := by
  with_unfolding_all
    unfold mComp
    have bind : ∀ {r : R (List D × Env)} {k : List D × Env → R (D × Env)}, WA r (fun d ρ1 => WE (k (d, ρ1)) Q E) E → WE (r.bind k) Q E := by
      intro r k h
      match r, h with
      | .ok (b, ρ1), h => exact h
      | .er c fs, h => exact h
      | .bad, h => exact h
    refine bind (h.mono (fun b ρ1 z => ?_) fun _ _ z => z)
    obtain ⟨l, z⟩ := z
    dsimp only
    rw [if_pos l]
    exact bind z
theorem wc_map0 {α : Type} {enc f' : α → D} {vs : List Nat} : ∀ (as : List α), (∀ a ∈ as, Sm (tg (enc a) (wipeE ρ vs)) fun ρ1 => WE (fa ρ1) (fun y ρ2 => y = f' a ∧ wipeE ρ2 vs = wipeE ρ vs) E0) → mCompL vs tg mYes fa (as.map enc) (wipeE ρ vs) = .ok (as.map f', wipeE ρ vs)
  | [], _ => rfl
  | a :: as, st => by
    obtain ⟨ρ1, e1, s1⟩ := st a List.mem_cons_self
    have e4 := wc_map0 as fun d' m => st d' (List.mem_cons_of_mem _ m)
    obtain ⟨y, ρ2, q, e2, e3⟩ := s1.get
    · unfold mCompL
      simp only [List.map_cons, e1, ofO, noEr, mYes, R.bind_ok, if_true, q, e2, e3, e4]
/-- a comprehension that changes nothing -/
theorem wc_map {ρw : Env} {α : Type} {enc : α → D} {as : List α} {vs : List Nat} [w : WipeEq ρ vs ρw] (f' : α → D) (st : ∀ a ∈ as, Sm (tg (enc a) (ρw)) fun ρ1 => WE (fa ρ1) (fun y ρ2 => y = f' a ∧ wipeE ρ2 vs = ρw) E0) (h : QA (as.map f') ρ) : WC vs tg mYes fa (as.map enc) ρ QA E := by
  with_unfolding_all
    obtain ⟨rfl⟩ := w
    unfold WC
    rw [wc_map0 as st]
    show QA _ (backE ρ (wipeE ρ vs) vs)
    rw [back_wipe]; exact h
theorem wc_fil0 {α : Type} {enc f' : α → D} {p : α → Bool} {vs : List Nat} : ∀ (as : List α), (∀ a ∈ as, Sm (tg (enc a) (wipeE ρ vs)) fun ρ1 => WT (ft ρ1) (fun b ρ2 => b = p a ∧ (p a = true → WE (fa ρ2) (fun y ρ3 => y = f' a ∧ wipeE ρ3 vs = wipeE ρ vs) E0) ∧ (p a = false → wipeE ρ2 vs = wipeE ρ vs)) E0) →
    mCompL vs tg ft fa (as.map enc) (wipeE ρ vs) = .ok ((as.filter p).map f', wipeE ρ vs)
  | [], _ => rfl
  | a :: as, st => by
    obtain ⟨ρ1, e1, s1⟩ := st a List.mem_cons_self
    have e4 := wc_fil0 as fun d' m => st d' (List.mem_cons_of_mem _ m)
    obtain ⟨b, ρ2, q, e2, h1, h2⟩ := s1.get
    · subst e2
      cases pa : p a with
      | false =>
        unfold mCompL
        simp only [List.map_cons, e1, ofO, noEr, R.bind_ok, q, pa, h2 pa, e4, List.filter_cons, Bool.false_eq_true, if_false]
      | true =>
        have h1 := h1 pa
        obtain ⟨y, ρ3, q2, e2, e3⟩ := h1.get
        · unfold mCompL
          simp only [List.map_cons, e1, ofO, noEr, R.bind_ok, q, q2, pa, e2, e3, e4, List.filter_cons, if_true]
theorem wc_fil {ρw : Env} {α : Type} {enc : α → D} {as : List α} {vs : List Nat} [w : WipeEq ρ vs ρw] (p : α → Bool) (f' : α → D) (st : ∀ a ∈ as, Sm (tg (enc a) (ρw)) fun ρ1 => WT (ft ρ1) (fun b ρ2 => b = p a ∧ (p a = true → WE (fa ρ2) (fun y ρ3 => y = f' a ∧ wipeE ρ3 vs = ρw) E0) ∧ (p a = false → wipeE ρ2 vs = ρw)) E0)
    (h : QA ((as.filter p).map f') ρ) : WC vs tg ft fa (as.map enc) ρ QA E := by
  with_unfolding_all
    obtain ⟨rfl⟩ := w
    unfold WC
    rw [wc_fil0 as st]
    show QA _ (backE ρ (wipeE ρ vs) vs)
    rw [back_wipe]; exact h
theorem map_id' {ds : List D} : ds = ds.map id := by simp
theorem intsFrom_map {lo : Int} {k : Nat} : intsFrom lo k = (List.range k).map fun (i : Nat) => D.int (lo + (i : Int)) := rfl
/-- over range(n) -/
theorem wc_rng {ρw : Env} {lo : Int} {k : Nat} {vs : List Nat} [w : WipeEq ρ vs ρw] (f' : Nat → D) (st : ∀ i, i < k → Sm (tg (.int (lo + (i : Int))) (ρw)) fun ρ1 => WE (fa ρ1) (fun y ρ2 => y = f' i ∧ wipeE ρ2 vs = ρw) E0) (h : QA ((List.range k).map f') ρ) : WC vs tg mYes fa (intsFrom lo k) ρ QA E := by
  obtain ⟨rfl⟩ := w
  rw [intsFrom_map]
  haveI : WipeEq ρ vs (wipeE ρ vs) := ⟨rfl⟩
  exact wc_map f' (fun a m => st a (List.mem_range.mp m)) h
theorem wc_rngF {ρw : Env} {lo : Int} {k : Nat} {vs : List Nat} [w : WipeEq ρ vs ρw] (p : Nat → Bool) (f' : Nat → D) (st : ∀ i, i < k → Sm (tg (.int (lo + (i : Int))) (ρw)) fun ρ1 => WT (ft ρ1) (fun b ρ2 => b = p i ∧ (p i = true → WE (fa ρ2) (fun y ρ3 => y = f' i ∧ wipeE ρ3 vs = ρw) E0) ∧ (p i = false → wipeE ρ2 vs = ρw)) E0)
    (h : QA (((List.range k).filter p).map f') ρ) : WC vs tg ft fa (intsFrom lo k) ρ QA E := by
  obtain ⟨rfl⟩ := w
  rw [intsFrom_map]
  haveI : WipeEq ρ vs (wipeE ρ vs) := ⟨rfl⟩
  exact wc_fil p f' (fun a m => st a (List.mem_range.mp m)) h
/-- a comprehension that changes its names, by an invariant -/
theorem wc_inv0 {vs : List Nat} (I : Nat → List D → Env → Prop) : ∀ (ds : List D) (k : Nat) (acc : List D) (ρ : Env), I k acc ρ → (∀ i d acc ρ, ds[i]? = some d → I (k + i) acc ρ → Sm (tg d ρ) fun ρ1 => WE (fa ρ1) (fun y ρ2 => I (k + i + 1) (acc ++ [y]) (wipeE ρ2 vs)) E0) →
    ∃ ys ρ', mCompL vs tg mYes fa ds ρ = .ok (ys, ρ') ∧ I (k + ds.length) (acc ++ ys) ρ'
  | [], k, acc, ρ, h0, _ => ⟨[], ρ, rfl, by simpa using h0⟩
  | d :: ds, k, acc, ρ, h0, st => by
    obtain ⟨ρ1, e1, s1⟩ := st 0 d acc ρ rfl h0
    obtain ⟨y, ρ2, q, s1⟩ := s1.get
    · obtain ⟨ys, ρ', e4, h4⟩ := wc_inv0 I ds (k + 1) (acc ++ [y]) (wipeE ρ2 vs) s1 fun i d' a' ρ' hd hi => by
        have e : k + 1 + i = k + (i + 1) := by omega
        rw [e] at hi ⊢
        exact st (i + 1) d' a' ρ' (by simpa using hd) hi
      refine ⟨y :: ys, ρ', ?_, by rw [List.length_cons, show k + (ds.length + 1) = k + 1 + ds.length by omega]; simpa using h4⟩
      unfold mCompL
      simp only [e1, ofO, noEr, mYes, R.bind_ok, if_true, q, e4]
theorem wc_inv {ρw : Env} {vs : List Nat} {ds : List D} [w : WipeEq ρ vs ρw] (I : Nat → List D → Env → Prop) (h0 : I 0 [] (ρw)) (st : ∀ i d acc ρ, ds[i]? = some d → I i acc ρ → Sm (tg d ρ) fun ρ1 => WE (fa ρ1) (fun y ρ2 => I (i + 1) (acc ++ [y]) (wipeE ρ2 vs)) E0) (h : ∀ ys ρ', I ds.length ys ρ' → QA ys (backE ρ ρ' vs)) : WC vs tg mYes fa ds ρ QA E := by
  with_unfolding_all
    obtain ⟨rfl⟩ := w
    obtain ⟨ys, ρ', e, hi⟩ := wc_inv0 (tg := tg) (fa := fa) I ds 0 [] (wipeE ρ vs) h0 fun i d acc ρ hd hi => by rw [Nat.zero_add] at hi ⊢; exact st i d acc ρ hd hi
    rw [Nat.zero_add, List.nil_append] at hi
    unfold WC
    rw [e]
    exact h ys ρ' hi
/-! defs -/
theorem wr_fn {ds : List D} {ρ0 : Env} (e2 : ds.map some ++ List.replicate (N' - n) none = ρ0) (k : WS (f ρ0) (fun _ => QR .non) (fun d _ => QR d) (fun _ => False) (fun _ => False) E) (e : ds.length = n := by rfl) : WR (mFn n N' f ds) QR E := by
  with_unfolding_all
    unfold mFn
    rw [if_pos e, e2]
    revert k
    generalize f ρ0 = r
    intro k
    match r, k with
    | .ok (.nx, ρ1), k => exact k
    | .ok (.rt d, ρ1), k => exact k
    | .ok (.bk, ρ1), k => exact k
    | .ok (.ct, ρ1), k => exact k
    | .er c fs, k => exact k
    | .bad, k => exact k
theorem wb_fn {ds : List D} {ρ0 : Env} (e2 : ds.map some ++ List.replicate (N' - n) none = ρ0) (k : WS (f ρ0) (fun ρ1 => Lk ρ1 0 (QB .non)) (fun d ρ1 => Lk ρ1 0 (QB d)) (fun _ => False) (fun _ => False) E) (e : ds.length = n := by rfl) : WB (mFnB n N' f ds) QB E := by
  with_unfolding_all
    unfold mFnB
    rw [if_pos e, e2]
    revert k
    generalize f ρ0 = r
    intro k
    match r, k with
    | .ok (.nx, ρ1), h =>
      simp only [WE_ok, WA_ok, WT_ok, WB_ok, WO_ok, WS_nx, WS_rt] at h
      obtain ⟨d0, e, k⟩ := h
      simp only [R.bind_ok, e]; exact k
    | .ok (.rt d, ρ1), h =>
      simp only [WE_ok, WA_ok, WT_ok, WB_ok, WO_ok, WS_nx, WS_rt] at h
      obtain ⟨d0, e, k⟩ := h
      simp only [R.bind_ok, e]; exact k
    | .ok (.bk, ρ1), k => exact k.elim
    | .ok (.ct, ρ1), k => exact k.elim
    | .er c fs, k => exact k
    | .bad, k => exact k
end
/-! what operations give -/
theorem sm_I0 {f : Int → Int → Int} {i j : Int} {K : D → Prop} (h : K (.int (f i j))) : Sm (gI0 f (.int i) (.int j)) K := ⟨_, rfl, h⟩
theorem sm_IB {f : Int → Int → Bool} {i j : Int} {K : D → Prop} (h : K (.bl (f i j))) : Sm (gIB f (.int i) (.int j)) K := ⟨_, rfl, h⟩
theorem sm_II {c : Int → Int → Bool} {f : Int → Int → Int} {i j : Int} {K : D → Prop} (e : c i j = true) (h : K (.int (f i j))) : Sm (gII c f (.int i) (.int j)) K := ⟨_, gII_eq e, h⟩
theorem sm_U {f : Int → Int} {i : Int} {K : D → Prop} (h : K (.int (f i))) : Sm (gU f (.int i)) K := ⟨_, rfl, h⟩
theorem sm_eq {i j : Int} {K : D → Prop} (h : K (.bl (decide (i = j)))) : Sm (gEq (.int i) (.int j)) K := ⟨_, rfl, h⟩
theorem sm_ne {i j : Int} {K : D → Prop} (h : K (.bl (!decide (i = j)))) : Sm (gNe (.int i) (.int j)) K := ⟨_, rfl, h⟩
theorem sm_not {b : Bool} {K : D → Prop} (h : K (.bl (!b))) : Sm (gNot (.bl b)) K := ⟨_, rfl, h⟩
theorem sm_tup {xs : List D} {K : D → Prop} (e : xs.length ≤ 1000) (h : K (.tup xs)) : Sm (gTup xs) K := ⟨_, if_pos e, h⟩
theorem sm_lst {xs : List D} {K : D → Prop} (e : xs.length ≤ 1000) (h : K (.lst xs)) : Sm (gLst xs) K := ⟨_, if_pos e, h⟩
theorem sm_one {g : D → Option D} {x : D} {K : D → Prop} (h : Sm (g x) K) : Sm (gOne g [x]) K := h
theorem sm_two {g : D → D → Option D} {x y : D} {K : D → Prop} (h : Sm (g x y) K) : Sm (gTwo g [x, y]) K := h
theorem sm_ixl {xs : List D} {i : Int} {K : D → Prop} (h : Sm (atI xs i) K) : Sm (gIx (.lst xs) (.int i)) K := h
theorem sm_ixt {xs : List D} {i : Int} {K : D → Prop} (h : Sm (atI xs i) K) : Sm (gIx (.tup xs) (.int i)) K := h
theorem sm_ixk {xs : List D} {i : Int} {K : D → Prop} (h : Sm (atI xs i) K) : Sm (gIx (.kls xs) (.int i)) K := h
theorem sm_at {α : Type} {enc : α → D} {as : List α} {k : Nat} {a : α} {K : D → Prop} (e : as[k]? = some a) (h : K (enc a)) : Sm (atI (as.map enc) (k : Int)) K := ⟨_, atI_nat (by rw [List.getElem?_map, e]; rfl), h⟩
theorem sm_fld {ix : List (Nat × Nat)} {c : Nat} {fs : List D} {d : D} {K : D → Prop} (e : ((ix.lookup c).bind fun j => fs[j]?) = some d) (h : K d) : Sm (gFld ix (.ins c fs)) K := ⟨d, e, h⟩
theorem sm_atc {x : D} {xs : List D} {i : Int} {d : D} {K : D → Prop} (e : atI (x :: xs) i = some d) (h : K d) : Sm (atI (x :: xs) i) K := ⟨d, e, h⟩
theorem sm_isT {cs : List Nat} {ts : List Ty} {d : D} {K : D → Prop} (e : gIsi cs ts d = some (.bl true)) (h : K (.bl true)) : Sm (gIsi cs ts d) K := ⟨_, e, h⟩
theorem sm_isF {cs : List Nat} {ts : List Ty} {d : D} {K : D → Prop} (e : gIsi cs ts d = some (.bl false)) (h : K (.bl false)) : Sm (gIsi cs ts d) K := ⟨_, e, h⟩
theorem sm_nnT {f : Bool → Bool} {x y : D} {K : D → Prop} (e : gIs f x y = some (.bl true)) (h : K (.bl true)) : Sm (gIs f x y) K := ⟨_, e, h⟩
theorem sm_nnF {f : Bool → Bool} {x y : D} {K : D → Prop} (e : gIs f x y = some (.bl false)) (h : K (.bl false)) : Sm (gIs f x y) K := ⟨_, e, h⟩
theorem sm_lenl {xs : List D} {K : D → Prop} (h : K (.int xs.length)) : Sm (gLen (.lst xs)) K := ⟨_, rfl, h⟩
theorem sm_lent {xs : List D} {K : D → Prop} (h : K (.int xs.length)) : Sm (gLen (.tup xs)) K := ⟨_, rfl, h⟩
theorem sm_lenk {xs : List D} {K : D → Prop} (h : K (.int xs.length)) : Sm (gLen (.kls xs)) K := ⟨_, rfl, h⟩
theorem intsOf_map {α : Type} {g : α → Int} : ∀ (as : List α), intsOf (as.map fun a => D.int (g a)) = some (as.map g)
  | [] => rfl
  | a :: as => by simp only [List.map_cons, intsOf, intsOf_map as, Option.map_some]
theorem blsOf_map {α : Type} {g : α → Bool} : ∀ (as : List α), blsOf (as.map fun a => D.bl (g a)) = some (as.map g)
  | [] => rfl
  | a :: as => by simp only [List.map_cons, blsOf, blsOf_map as, Option.map_some]
theorem sm_sum {α : Type} {g : α → Int} {as : List α} {K : D → Prop} (h : K (.int (as.map g).sum)) : Sm (gSum (.lst (as.map fun a => D.int (g a)))) K := ⟨_, by unfold gSum; simp only [seqD, Option.bind_some, if_true, intsOf_map]; rfl, h⟩
theorem sm_sumI {as : List Int} {K : D → Prop} (h : K (.int as.sum)) : Sm (gSum (.lst (as.map D.int))) K := ⟨_, by unfold gSum; simp only [seqD, Option.bind_some, if_true, intsOf_map (g := id)]; rw [show as.map D.int = as.map (fun a => D.int (id a)) from rfl, intsOf_map]; simp, h⟩
theorem sm_all {α : Type} {g : α → Bool} {as : List α} {K : D → Prop} (h : K (.bl (as.all g))) : Sm (gAll (.lst (as.map fun a => D.bl (g a)))) K := ⟨_, by unfold gAll; simp only [seqD, Option.bind_some, if_true, blsOf_map]; rfl, by simpa [List.all_map] using h⟩
theorem sm_any {α : Type} {g : α → Bool} {as : List α} {K : D → Prop} (h : K (.bl (as.any g))) : Sm (gAny (.lst (as.map fun a => D.bl (g a)))) K := ⟨_, by unfold gAny; simp only [seqD, Option.bind_some, if_true, blsOf_map]; rfl, by simpa [List.any_map] using h⟩
end Z
set_option Elab.async false
set_option linter.all false
set_option maxRecDepth 100000
/-! V2: sizes of whole numbers in bits; sums over ranges -/
namespace Z
/-- at most k bits -/
def Bit (k : Nat) (i : Int) : Prop := i.natAbs < 2 ^ k
theorem Bit.lit {k : Nat} {i : Int} (n : Nat) (h : i.natAbs < n) (hn : n ≤ 2 ^ k := by decide) : Bit k i := Nat.lt_of_lt_of_le h hn
theorem Bit.mono {a b : Nat} {i : Int} (h : Bit a i) (hab : a ≤ b) : Bit b i := Nat.lt_of_lt_of_le h (Nat.pow_le_pow_right (by decide) hab)
theorem Bit.mul {a b : Nat} {i j : Int} (h : Bit a i) (h' : Bit b j) : Bit (a + b) (i * j) := by
  unfold Bit at *
  rw [Int.natAbs_mul, Nat.pow_add]
  exact Nat.mul_lt_mul'' h h'
theorem Bit.add {a : Nat} {i j : Int} (h : Bit a i) (h' : Bit a j) : Bit (a + 1) (i + j) := by
  unfold Bit at *
  rw [Nat.pow_succ]
  have := Int.natAbs_add_le i j
  omega
theorem Bit.sub {a : Nat} {i j : Int} (h : Bit a i) (h' : Bit a j) : Bit (a + 1) (i - j) := by
  unfold Bit at *
  rw [Nat.pow_succ]
  have := Int.natAbs_sub_le i j
  omega
theorem Bit.neg {a : Nat} {i : Int} (h : Bit a i) : Bit a (-i) := by unfold Bit at *; rw [Int.natAbs_neg]; exact h
theorem Bit.div {a : Nat} {i j : Int} (h : Bit a i) : Bit a (i / j) := by
  unfold Bit at *
  exact Nat.lt_of_le_of_lt (Int.natAbs_ediv_le_natAbs i j) h
theorem Bit.le {a : Nat} {i j : Int} (h : Bit a i) (h0 : 0 ≤ j) (h1 : j ≤ i) : Bit a j := by unfold Bit at *; omega
theorem Bit.small {k : Nat} {i : Int} (h : Bit k i) (hk : k ≤ 9000) : small5k i = true := by
  unfold small5k
  have z : i.natAbs.log2 < 9000 := by
    by_cases e : i.natAbs = 0
    · rw [e]; decide
    · have := (Nat.log2_lt e).mpr (Nat.lt_of_lt_of_le h (Nat.pow_le_pow_right (by decide) hk))
      exact this
  exact decide_eq_true z
theorem cMul_bits {a b : Nat} {i j : Int} (h : Bit a i) (h' : Bit b j) (ha : a ≤ 9000) (hb : b ≤ 9000) : cMul i j = true := by
  unfold cMul
  rw [h.small ha, h'.small hb]; simp
theorem cDiv_bits {b : Nat} {i j : Int} (h0 : 0 < j) (h' : Bit b j) (hb : b ≤ 9000) : cDiv i j = true := by
  unfold cDiv
  rw [h'.small hb, decide_eq_true (show j ≠ 0 by omega), decide_eq_true h0]; simp
theorem lcm_bits : ∀ (ds : List Int) (acc : Int) (b k : Nat), 0 < acc → Bit b acc → (∀ d ∈ ds, 0 < d ∧ Bit k d) → 0 < ds.foldl lcmI acc ∧ Bit (b + k * ds.length) (ds.foldl lcmI acc)
  | [], acc, b, k, h, hb, _ => ⟨h, by simpa using hb⟩
  | d :: ds, acc, b, k, h, hb, hd => by
    obtain ⟨d0, d1⟩ := hd d List.mem_cons_self
    obtain ⟨p, q⟩ := lcmI_le h d0
    have hb2 : Bit (b + k) (lcmI acc d) := (hb.mul d1).le (Int.le_of_lt p) q
    obtain ⟨x, y⟩ := lcm_bits ds (lcmI acc d) (b + k) k p hb2 fun e he => hd e (List.mem_cons_of_mem _ he)
    refine ⟨x, ?_⟩
    rw [List.length_cons, Nat.mul_succ, show b + (k * ds.length + k) = b + k + k * ds.length by omega]
    exact y
theorem lcm_dvd : ∀ (ds : List Int) (acc : Int), acc ∣ ds.foldl lcmI acc ∧ ∀ d ∈ ds, d ∣ ds.foldl lcmI acc
  | [], acc => ⟨Int.dvd_refl _, fun d h => by cases h⟩
  | d :: ds, acc => by
    obtain ⟨a, b⟩ := lcm_dvd ds (lcmI acc d)
    refine ⟨Int.dvd_trans (dvd_lcmI_l acc d) a, fun e he => ?_⟩
    rcases List.mem_cons.mp he with z | z
    · subst z; exact Int.dvd_trans (dvd_lcmI_r acc _) a
    · exact b e z
end Z
set_option Elab.async false
set_option linter.all false
set_option maxRecDepth 100000
/-! V3: rules for the words of Y7 -/
namespace Z
open PySem PySem.Spec L2
section
variable {fa fb fe fi : Env → R (D × Env)} {ρ : Env} {Q : D → Env → Prop} {E : Er} {c i : Nat} {m : List D → R D} {N B C : Env → Prop} {Rt : D → Env → Prop}
theorem we_bindR {α : Type} {r : R α} {k : α → R (D × Env)} (h : WR r (fun a => WE (k a) Q E) E) : WE (r.bind k) Q E := by
  with_unfolding_all
    match r, h with
    | .ok a, h => exact h
    | .er c fs, h => exact h
    | .bad, h => exact h
theorem we_opO (h : WE (fa ρ) (fun x ρ1 => WE (fb ρ1) (fun y ρ2 => Ins c x fun f1 => Ins c y fun f2 => WR (m [.ins c f1, .ins c f2]) (fun d => Q d ρ2) E) E) E) : WE (mBinO c m fa fb ρ) Q E := by
  with_unfolding_all
    unfold mBinO
    refine we_bindE (h.mono (fun x ρ1 z => ?_) fun _ _ z => z)
    refine we_bindE (z.mono (fun y ρ2 z => ?_) fun _ _ z => z)
    obtain ⟨f1, rfl, f2, rfl, z⟩ := z
    dsimp only
    rw [if_pos ⟨rfl, rfl⟩]
    exact we_bindR (z.mono (fun d z => by rw [WE_ok]; exact z) fun _ _ z => z)
theorem ws_insr {xs0 : List D} [g0 : GetEq ρ i (.lst xs0)] (k : WE (fi ρ) (fun j ρ1 => WE (fe ρ1) (fun d ρ2 => Lk ρ2 i fun x => Lst x fun xs => In j fun j => (xs.length < 100000 ∧ 0 ≤ j ∧ j < 100000) ∧ SetN ρ2 i (some (.lst (xs.take j.toNat ++ [d] ++ xs.drop j.toNat))) N) E) E) : WS (mInsr i fi fe ρ) N Rt B C E := by
  with_unfolding_all
    have e0 := g0.eq
    unfold mInsr
    simp only [e0]
    refine ws_bindE (k.mono (fun x ρ1 z => ?_) fun _ _ z => z)
    refine ws_bindE (z.mono (fun y ρ2 z => ?_) fun _ _ z => z)
    obtain ⟨d, e1, xs, rfl, j, rfl, hl, z⟩ := z
    simp only [e1, if_pos hl]
    rw [WS_nx]
    exact z
theorem sm_tupRevL {xs : List D} {P : D → Prop} (h : P (.tup xs.reverse)) : Sm (gTupRev (.lst xs)) P := ⟨_, rfl, h⟩
theorem sm_tupRevK {xs : List D} {P : D → Prop} (h : P (.tup xs.reverse)) : Sm (gTupRev (.kls xs)) P := ⟨_, rfl, h⟩
theorem sm_seqL {xs : List D} {P : Bool × List D → Prop} (h : P (true, xs)) : Sm (seqD (.lst xs)) P := ⟨_, rfl, h⟩
theorem sm_seqK {xs : List D} {P : Bool × List D → Prop} (h : P (true, xs)) : Sm (seqD (.kls xs)) P := ⟨_, rfl, h⟩
theorem sm_seqT {xs : List D} {P : Bool × List D → Prop} (h : P (false, xs)) : Sm (seqD (.tup xs)) P := ⟨_, rfl, h⟩
theorem sm_put1 {a b c d x : D} {P : List D → Prop} (h : P [a, x, c, d]) : Sm (gPut [a, b, c, d] 1 x) P := ⟨_, rfl, h⟩
theorem sm_put2 {a b c d x : D} {P : List D → Prop} (h : P [a, b, x, d]) : Sm (gPut [a, b, c, d] 2 x) P := ⟨_, rfl, h⟩
theorem sm_put3 {a b c d x : D} {P : List D → Prop} (h : P [a, b, c, x]) : Sm (gPut [a, b, c, d] 3 x) P := ⟨_, rfl, h⟩
theorem sm_ioI {k : Int} {P : D → Prop} (h : P (.int k)) : Sm (gIntO (.int k)) P := ⟨_, rfl, h⟩
theorem sm_pow {i j : Int} {P : D → Prop} (hc : cPow i j = true) (h : P (.int (i ^ j.toNat))) : Sm (gII cPow (fun i j => i ^ j.toNat) (.int i) (.int j)) P := ⟨_, gII_eq hc, h⟩
theorem cMul_fm {i m j : Int} (h : decide (0 < m ∧ m < 18446744073709551616) = true) : cMul (i.fmod m) j = true := by
  obtain ⟨h0, h1⟩ := of_decide_eq_true h
  have := Int.fmod_nonneg_of_pos i h0
  have := Int.fmod_lt_of_pos i h0
  exact cMul_l (by omega)
theorem sm_at_mod {cs : List Int} {p : Int} {P : D → Prop} (h : 0 < (((cs.map D.int).length : Nat) : Int)) (k : ∀ v, P (.int v)) : Sm (atI (cs.map D.int) (p.fmod (((cs.map D.int).length : Nat) : Int))) P := by
  have a := Int.fmod_nonneg_of_pos p h
  have b := Int.fmod_lt_of_pos p h
  rw [List.length_map] at *
  have hl : (p.fmod cs.length).toNat < cs.length := by omega
  exact ⟨.int cs[(p.fmod cs.length).toNat], atI_of a (by rw [List.getElem?_map, List.getElem?_eq_getElem hl]; rfl), k _⟩
theorem or_new {n m : Nat} {P R : Prop} (h : n = m) (p : P) : (n = m ∧ P) ∨ R := .inl ⟨h, p⟩
theorem sm_toL {xs : List D} {P : D → Prop} (h : P (.tup xs)) : Sm (gTupOf (.lst xs)) P := ⟨_, rfl, h⟩
theorem sm_toK {xs : List D} {P : D → Prop} (h : P (.tup xs)) : Sm (gTupOf (.kls xs)) P := ⟨_, rfl, h⟩
theorem sm_toT {xs : List D} {P : D → Prop} (h : P (.tup xs)) : Sm (gTupOf (.tup xs)) P := ⟨_, rfl, h⟩
theorem sm_loL {xs : List D} {P : D → Prop} (h : P (.lst xs)) : Sm (gListOf (.lst xs)) P := ⟨_, rfl, h⟩
theorem sm_loK {xs : List D} {P : D → Prop} (h : P (.lst xs)) : Sm (gListOf (.kls xs)) P := ⟨_, rfl, h⟩
theorem sm_loT {xs : List D} {P : D → Prop} (h : P (.lst xs)) : Sm (gListOf (.tup xs)) P := ⟨_, rfl, h⟩
theorem sm_catL {xs ys : List D} {P : D → Prop} (hl : xs.length + ys.length ≤ 1000) (h : P (.lst (xs ++ ys))) : Sm (gCat (.lst xs) (.lst ys)) P := ⟨_, if_pos hl, h⟩
theorem sm_catT {xs ys : List D} {P : D → Prop} (hl : xs.length + ys.length ≤ 1000) (hn : xs ≠ []) (h : P (.tup (xs ++ ys))) : Sm (gCatT (.tup xs) (.tup ys)) P := ⟨_, if_pos ⟨hl, hn⟩, h⟩
theorem sm_seq {d : D} {p : Bool × List D} {P : Bool × List D → Prop} (e : seqD d = some p) (h : P p) : Sm (seqD d) P := ⟨_, e, h⟩
theorem sm_len {d x : D} {P : D → Prop} (e : gLen d = some x) (h : P x) : Sm (gLen d) P := ⟨_, e, h⟩
theorem sm_ix {d i x : D} {P : D → Prop} (e : gIx d i = some x) (h : P x) : Sm (gIx d i) P := ⟨_, e, h⟩
theorem sm_ati {xs : List D} {i : Int} {x : D} {P : D → Prop} (e : atI xs i = some x) (h : P x) : Sm (atI xs i) P := ⟨_, e, h⟩
theorem sm_e {α : Type} {o : Option α} {a : α} {P : α → Prop} (e : o = some a) (h : P a) : Sm o P := ⟨a, e, h⟩
/-! a list or a tuple -/
def SqV (v : D) (ds : List D) : Prop := v = .lst ds ∨ v = .tup ds
section
variable {v : D} {ds : List D} {P : D → Prop}
theorem cutD_mem {xs : List D} {lo hi : Option Int} {d : D} (h : d ∈ cutD xs lo hi) : d ∈ xs := List.mem_of_mem_drop (List.mem_of_mem_take h)
theorem cutD_len {xs : List D} {lo hi : Option Int} : (cutD xs lo hi).length = min (HT.sIx xs.length xs.length hi - HT.sIx xs.length 0 lo) (xs.length - HT.sIx xs.length 0 lo) := by
  unfold cutD; rw [List.length_take, List.length_drop]
theorem sIx_n (n d : Nat) : HT.sIx n d none = d := rfl
theorem sIx_p {n d : Nat} {i : Int} (h : 0 ≤ i) : HT.sIx n d (some i) = min i.toNat n := by
  unfold HT.sIx; simp only [if_neg (show ¬ i < 0 by omega)]
theorem sIx_m {n d : Nat} {i : Int} (h : i < 0) : HT.sIx n d (some i) = (i + (n : Int)).toNat := by
  unfold HT.sIx; simp only [if_pos h]
theorem sm_slV {lo hi : Option Int} (hv : SqV v ds) (hn : (cutD ds lo hi).length < ds.length) (k : ∀ x, SqV x (cutD ds lo hi) → P x) : Sm (gSl v lo hi) P := by
  rcases hv with rfl | rfl
  · exact ⟨_, rfl, k _ (.inl rfl)⟩
  · refine ⟨.tup (cutD ds lo hi), ?_, k _ (.inr rfl)⟩
    unfold gSl
    refine if_neg fun z => ?_
    rw [cutD_len, z.1, z.2] at hn
    omega
theorem sm_loV (hv : SqV v ds) (k : P (.lst ds)) : Sm (gListOf v) P := by rcases hv with rfl | rfl <;> exact ⟨_, rfl, k⟩
theorem sm_toV (hv : SqV v ds) (k : P (.tup ds)) : Sm (gTupOf v) P := by rcases hv with rfl | rfl <;> exact ⟨_, rfl, k⟩
theorem sm_lenV (hv : SqV v ds) (k : P (.int ds.length)) : Sm (gLen v) P := by rcases hv with rfl | rfl <;> exact ⟨_, rfl, k⟩
theorem sm_ixV {i : Int} (hv : SqV v ds) (k : Sm (atI ds i) P) : Sm (gIx v (.int i)) P := by rcases hv with rfl | rfl <;> exact k
end
end
end Z
set_option Elab.async false
set_option linter.all false
set_option maxRecDepth 100000
/-! W2: fractions as core's rational numbers -/
namespace Z
open PySem PySem.Spec L2
/-- a Frac (class 0) -/
abbrev frD (q : Rat) : D := .ins 0 [.int q.num, .int (q.den : Int)]
/-- a pair in lowest terms -/
abbrev prD (q : Rat) : D := .tup [.int q.num, .int (q.den : Int)]
theorem den_pos' (q : Rat) : 0 < (q.den : Int) := by have := q.den_pos; omega
theorem gcdI_gcd (n d : Int) : gcdI n d = ((d.gcd n : Nat) : Int) := by rw [gcdI_def, Int.gcd, Nat.gcd_comm]
theorem low_num {n d : Int} (hd : 0 < d) : n / gcdI n d = (Rat.divInt n d).num := by
  rw [Rat.num_divInt, gcdI_gcd, Int.sign_eq_one_of_pos hd, Int.one_mul]
theorem low_den {n d : Int} (hd : 0 < d) : d / gcdI n d = ((Rat.divInt n d).den : Int) := by
  rw [Rat.den_divInt, gcdI_gcd, if_neg (by omega)]
  obtain ⟨m, rfl⟩ := Int.eq_ofNat_of_zero_le (Int.le_of_lt hd)
  simp
theorem cast_pos {d : Int} (h : 0 < d) : (0 : Rat) < (d : Rat) := by exact_mod_cast h
theorem divInt_eq {a b c d : Int} (hb : 0 < b) (hd : 0 < d) : Rat.divInt a b = Rat.divInt c d ↔ a * d = c * b := by
  rw [Rat.divInt_eq_div, Rat.divInt_eq_div]
  have h1 := cast_pos hb
  have h2 := cast_pos hd
  constructor
  · intro h
    have z : (a : Rat) * d = c * b := by grind
    exact_mod_cast z
  · intro h
    have z : (a : Rat) * d = c * b := by exact_mod_cast h
    grind
theorem divInt_lt {a b c d : Int} (hb : 0 < b) (hd : 0 < d) : Rat.divInt a b < Rat.divInt c d ↔ a * d < c * b := by
  have key : ∀ {a b : Int}, 0 < b → ∃ (g : Int), 0 < g ∧ a = (Rat.divInt a b).num * g ∧ b = ((Rat.divInt a b).den : Int) * g := fun {a b} hb => by
    refine ⟨gcdI a b, gcdI_pos hb, ?_, ?_⟩
    · rw [← low_num hb]; exact (Int.ediv_mul_cancel (gcdI_dvd_l a b)).symm
    · rw [← low_den hb]; exact (Int.ediv_mul_cancel (gcdI_dvd_r a b)).symm
  obtain ⟨g, g0, e1, e2⟩ := key (a := a) hb
  obtain ⟨k, k0, e3, e4⟩ := key (a := c) hd
  rw [Rat.lt_iff]
  generalize Rat.divInt a b = p at *
  generalize Rat.divInt c d = q at *
  rw [e1, e2, e3, e4]
  have z : 0 < g * k := Int.mul_pos g0 k0
  rw [show p.num * g * (↑q.den * k) = (p.num * ↑q.den) * (g * k) by grind, show q.num * k * (↑p.den * g) = (q.num * ↑p.den) * (g * k) by grind]
  exact ⟨fun h => Int.mul_lt_mul_of_pos_right h z, fun h => Int.lt_of_mul_lt_mul_right h (Int.le_of_lt z)⟩
theorem divInt_le {a b c d : Int} (hb : 0 < b) (hd : 0 < d) : Rat.divInt a b ≤ Rat.divInt c d ↔ a * d ≤ c * b := by
  have z := divInt_lt (a := c) (b := d) (c := a) (d := b) hd hb
  constructor
  · intro h
    have : ¬ c * b < a * d := fun w => absurd (z.mpr w) (Rat.not_lt.mpr h)
    omega
  · intro h
    exact Rat.not_lt.mp fun w => by have := z.mp w; omega
/-- at most k bits -/
def Sz (k : Nat) (q : Rat) : Prop := Bit k q.num ∧ Bit k (q.den : Int)
theorem Sz.mono {a b : Nat} {q : Rat} (h : Sz a q) (hab : a ≤ b) : Sz b q := ⟨h.1.mono hab, h.2.mono hab⟩
theorem num_bit {k : Nat} {n d : Int} (hd : 0 < d) (h : Bit k n) : Bit k (Rat.divInt n d).num := by rw [← low_num hd]; exact h.div
theorem den_bit {k : Nat} {n d : Int} (hd : 0 < d) (h : Bit k d) : Bit k ((Rat.divInt n d).den : Int) := by rw [← low_den hd]; exact h.div
theorem sz_div {k : Nat} {n d : Int} (hd : 0 < d) (h : Bit k n) (h' : Bit k d) : Sz k (Rat.divInt n d) := ⟨num_bit hd h, den_bit hd h'⟩
theorem rat_add (p q : Rat) : Rat.divInt (p.num * q.den + q.num * p.den) (p.den * q.den) = p + q := by
  have h1 := den_pos' p
  have h2 := den_pos' q
  rw [← Rat.divInt_add_divInt _ _ (by omega) (by omega), Rat.num_divInt_den, Rat.num_divInt_den]
theorem rat_sub (p q : Rat) : Rat.divInt (p.num * q.den - q.num * p.den) (p.den * q.den) = p - q := by
  have h1 := den_pos' p
  have h2 := den_pos' q
  rw [← Rat.divInt_sub_divInt _ _ (by omega) (by omega), Rat.num_divInt_den, Rat.num_divInt_den]
theorem rat_mul (p q : Rat) : Rat.divInt (p.num * q.num) (p.den * q.den) = p * q := by
  rw [← Rat.divInt_mul_divInt, Rat.num_divInt_den, Rat.num_divInt_den]
/-- a whole number of M-ths, at most B in amount -/
def Fit (M B : Int) (q : Rat) : Prop := 0 < M ∧ ∃ n : Int, q = Rat.divInt n M ∧ -(B * M) ≤ n ∧ n ≤ B * M
theorem Fit.sz {M B : Int} {k : Nat} {q : Rat} (h : Fit M B q) (h1 : Bit k (B * M)) (h2 : Bit k M) : Sz k q := by
  obtain ⟨h0, n, rfl, l, u⟩ := h
  refine sz_div h0 ?_ h2
  unfold Bit at *; omega
theorem Fit.add {M B C : Int} {p q : Rat} (h : Fit M B p) (h' : Fit M C q) : Fit M (B + C) (p + q) := by
  obtain ⟨h0, n, rfl, l, u⟩ := h
  obtain ⟨_, m, rfl, l', u'⟩ := h'
  refine ⟨h0, n + m, ?_, by rw [Int.add_mul]; omega, by rw [Int.add_mul]; omega⟩
  rw [Rat.divInt_add_divInt _ _ (by omega) (by omega), ← Int.add_mul, Rat.divInt_mul_right (by omega)]
theorem Fit.sub {M B C : Int} {p q : Rat} (h : Fit M B p) (h' : Fit M C q) : Fit M (B + C) (p - q) := by
  obtain ⟨h0, n, rfl, l, u⟩ := h
  obtain ⟨_, m, rfl, l', u'⟩ := h'
  refine ⟨h0, n - m, ?_, by rw [Int.add_mul]; omega, by rw [Int.add_mul]; omega⟩
  rw [Rat.divInt_sub_divInt _ _ (by omega) (by omega), ← Int.sub_mul, Rat.divInt_mul_right (by omega)]
theorem Fit.mul {M N B C : Int} {p q : Rat} (h : Fit M B p) (h' : Fit N C q) (hB : 0 ≤ B) : Fit (M * N) (B * C) (p * q) := by
  obtain ⟨h0, n, rfl, l, u⟩ := h
  obtain ⟨h0', m, rfl, l', u'⟩ := h'
  refine ⟨Int.mul_pos h0 h0', n * m, Rat.divInt_mul_divInt .., ?_⟩
  have e : B * C * (M * N) = (B * M) * (C * N) := by grind
  rw [e]
  have bm : 0 ≤ B * M := Int.mul_nonneg hB (Int.le_of_lt h0)
  have a1 : (n * m).natAbs ≤ (B * M).natAbs * (C * N).natAbs := by rw [Int.natAbs_mul]; exact Nat.mul_le_mul (by omega) (by omega)
  have a2 : ((B * M).natAbs * (C * N).natAbs : Int) = (B * M) * (C * N) := by
    rw [Int.natAbs_of_nonneg bm, Int.natAbs_of_nonneg (by omega)]
  have a3 : (((n * m).natAbs : Nat) : Int) ≤ (B * M) * (C * N) := by rw [← a2]; exact_mod_cast a1
  omega
theorem Fit.lift {M M' B : Int} {q : Rat} (h : Fit M B q) (hd : M ∣ M') (h' : 0 < M') : Fit M' B q := by
  obtain ⟨h0, n, rfl, l, u⟩ := h
  obtain ⟨c, rfl⟩ := hd
  have c0 : 0 < c := Int.pos_of_mul_pos_right h' h0
  refine ⟨h', n * c, ?_, ?_, ?_⟩
  · rw [Rat.divInt_mul_right (by omega)]
  · have z := Int.mul_le_mul_of_nonneg_right l (Int.le_of_lt c0)
    grind
  · have z := Int.mul_le_mul_of_nonneg_right u (Int.le_of_lt c0)
    grind
theorem Fit.more {M B C : Int} {q : Rat} (h : Fit M B q) (hc : B ≤ C) : Fit M C q := by
  obtain ⟨h0, n, e, l, u⟩ := h
  have z := Int.mul_le_mul_of_nonneg_right hc (Int.le_of_lt h0)
  exact ⟨h0, n, e, by omega, by omega⟩
theorem fit_div {n M B : Int} (h : 0 < M) (l : -(B * M) ≤ n) (u : n ≤ B * M) : Fit M B (Rat.divInt n M) := ⟨h, n, rfl, l, u⟩
theorem fit_self {q : Rat} {B : Int} (l : -(B * (q.den : Int)) ≤ q.num) (u : q.num ≤ B * (q.den : Int)) : Fit q.den B q := ⟨den_pos' q, q.num, (Rat.num_divInt_den q).symm, l, u⟩
theorem fit_zero {M : Int} (h : 0 < M) : Fit M 0 0 := ⟨h, 0, by rw [Rat.divInt_eq_div]; grind, by omega, by omega⟩
theorem divInt_one (i : Int) : Rat.divInt i 1 = (i : Rat) := by rw [Rat.divInt_eq_div]; grind
/-! Euclid's loop -/
theorem bitLen_nat {d : Int} (hd : 0 < d) (hb : Bit 9000 d) : ∃ L : Nat, bitLen d = (L : Int) ∧ L ≤ 9000 ∧ d < 2 ^ L ∧ 1 ≤ L := by
  refine ⟨d.natAbs.log2 + 1, ?_, ?_, ?_, by omega⟩
  · rw [bitLen_def]; unfold Builtin.Int.intBits
    rw [if_neg (by simp; omega)]
  · have := (Nat.log2_lt (n := d.natAbs) (k := 9000) (by omega)).mpr hb
    omega
  · have h := Nat.lt_log2_self (n := d.natAbs)
    have z : ((d.natAbs : Nat) : Int) < ((2 ^ (d.natAbs.log2 + 1) : Nat) : Int) := Int.ofNat_lt.mpr h
    rw [Int.natCast_pow] at z
    rw [Int.natAbs_of_nonneg (Int.le_of_lt hd)] at z
    exact z
theorem gcd_pb {n d : Int} (hd : 0 < d) (hb : Bit 9000 d) : 0 < gcdI n d ∧ Bit 9000 (gcdI n d) := ⟨gcdI_pos hd, hb.le (gcdI_nn _ _) (gcdI_le hd)⟩
structure EucI (n d : Int) (L i : Nat) (a b : Int) : Prop where
  a0 : 0 ≤ a
  b0 : 0 ≤ b
  g : gcdI a b = gcdI n d
  m : (i = 0 ∧ b = d) ∨ (1 ≤ i ∧ b < a ∧ a * b * 2 ^ (i - 1) < 2 ^ (2 * L))
theorem EucI.start {n d : Int} {L : Nat} (hd : 0 < d) : EucI n d L 0 (n.natAbs : Int) d :=
  ⟨Int.natCast_nonneg _, Int.le_of_lt hd, by rw [gcdI_def, gcdI_def, Int.natAbs_natCast], .inl ⟨rfl, rfl⟩⟩
theorem EucI.last {n d a : Int} {L i : Nat} (h : EucI n d L i a 0) : a = gcdI n d := by rw [← h.g]; exact (gcd_zero a h.a0).symm
theorem EucI.step {n d a b : Int} {L i : Nat} (h : EucI n d L i a b) (hd : 0 < d) (hL : d < 2 ^ L) (hz : b ≠ 0) : EucI n d L (i + 1) b (a.fmod b) := by
  have b1 : 0 < b := by have := h.b0; omega
  have r0 := Int.fmod_nonneg_of_pos a b1
  have r1 := Int.fmod_lt_of_pos a b1
  refine ⟨h.b0, r0, by rw [← gcd_step a b h.a0 b1]; exact h.g, .inr ⟨by omega, r1, ?_⟩⟩
  have re : a.fmod b = a % b := Int.fmod_eq_emod_of_nonneg a (Int.le_of_lt b1)
  rw [Nat.add_sub_cancel]
  rcases h.m with ⟨rfl, rfl⟩ | ⟨h1, h2, h3⟩
  · have z1 : b * a.fmod b < b * b := Int.mul_lt_mul_of_pos_left r1 b1
    have z2 : b * b ≤ 2 ^ L * 2 ^ L := Int.mul_le_mul (Int.le_of_lt hL) (Int.le_of_lt hL) (Int.le_of_lt b1) (by omega)
    have z3 : (2 : Int) ^ (2 * L) = 2 ^ L * 2 ^ L := by rw [Nat.two_mul, Int.pow_add]
    have z4 : (2 : Int) ^ 0 = 1 := rfl
    rw [z4]; omega
  · have e := Int.mul_ediv_add_emod a b
    have q1 : 1 ≤ a / b := (Int.le_ediv_iff_mul_le b1).mpr (by omega)
    have w1 : b * 1 ≤ b * (a / b) := Int.mul_le_mul_of_nonneg_left q1 (Int.le_of_lt b1)
    have w2 : 2 * a.fmod b ≤ a := by omega
    have w3 : b * (2 * a.fmod b) ≤ b * a := Int.mul_le_mul_of_nonneg_left w2 (Int.le_of_lt b1)
    have p0 : (0 : Int) < 2 ^ (i - 1) := Int.pow_pos (by decide)
    have w4 : b * (2 * a.fmod b) * 2 ^ (i - 1) ≤ b * a * 2 ^ (i - 1) := Int.mul_le_mul_of_nonneg_right w3 (Int.le_of_lt p0)
    obtain ⟨k, rfl⟩ : ∃ k, i = k + 1 := ⟨i - 1, by omega⟩
    rw [Nat.add_sub_cancel] at *
    rw [Int.pow_succ]
    have e1 : b * a.fmod b * (2 ^ k * 2) = b * (2 * a.fmod b) * 2 ^ k := by grind
    have e2 : b * a * 2 ^ k = a * b * 2 ^ k := by grind
    omega
theorem EucI.done {n d a b : Int} {L i : Nat} (h : EucI n d L i a b) (hi : 2 * L + 1 ≤ i) : b = 0 := by
  rcases h.m with ⟨rfl, _⟩ | ⟨h1, h2, h3⟩
  · omega
  · have b0 := h.b0
    rcases Int.lt_or_le 0 b with z | z
    · have z1 : (1 : Int) ≤ a * b := by have := Int.mul_pos (show 0 < a by omega) z; omega
      have p0 : (0 : Int) < 2 ^ (i - 1) := Int.pow_pos (by decide)
      have z2 := Int.mul_le_mul_of_nonneg_right z1 (Int.le_of_lt p0)
      have z3 : (2 : Int) ^ (2 * L) ≤ 2 ^ (i - 1) := by
        have : (2 : Nat) ^ (2 * L) ≤ 2 ^ (i - 1) := Nat.pow_le_pow_right (by decide) (by omega)
        have := Int.ofNat_le.mpr this
        simpa using this
      omega
    · omega
end Z
set_option Elab.async false
set_option linter.all false
set_option maxRecDepth 100000
/-! W3: rows of offers: weight and worth -/
namespace Z
open PySem PySem.Spec L2
abbrev Row := Int × Rat
structure ROk (r : Row) : Prop where
  w1 : 1 ≤ r.1
  w2 : r.1 ≤ 999
  n0 : 0 ≤ r.2.num
  n1 : r.2.num ≤ 9999
  d1 : (r.2.den : Int) ≤ 99
abbrev AscR (rs : List Row) : Prop := rs.Pairwise fun a b => a.2 < b.2
structure OfOk (m : Nat) (rs : List Row) : Prop where
  l1 : 1 ≤ rs.length
  l2 : rs.length ≤ m
  ok : ∀ r ∈ rs, ROk r
  asc : AscR rs
abbrev lrow (r : Row) : D := .tup [.int r.1, prD r.2]
abbrev offL (rs : List Row) : D := .lst (rs.map lrow)
abbrev prow (r : Row) : D := .tup [.int r.1, frD r.2]
abbrev offD (rs : List Row) : D := .ins 1 [.tup (rs.map prow)]
theorem low_b {n d : Int} (hd : 0 < d) (hn : 0 ≤ n) : 0 ≤ (Rat.divInt n d).num ∧ (Rat.divInt n d).num ≤ n ∧ ((Rat.divInt n d).den : Int) ≤ d := by
  rw [← low_num hd, ← low_den hd]
  have g := gcdI_pos (a := n) hd
  exact ⟨Int.ediv_nonneg hn (Int.le_of_lt g), Int.ediv_le_self _ hn, Int.ediv_le_self _ (Int.le_of_lt hd)⟩
theorem asc_ins {rs : List Row} {x : Row} {p : Nat} (h : AscR rs) (h1 : ∀ j r, rs[j]? = some r → j < p → r.2 < x.2) (h2 : ∀ j r, rs[j]? = some r → p ≤ j → x.2 < r.2) : AscR (rs.take p ++ [x] ++ rs.drop p) := by
  have t1 : ∀ a ∈ rs.take p, a.2 < x.2 := fun a ha => by
    obtain ⟨j, hj⟩ := List.getElem?_of_mem ha
    rw [List.getElem?_take] at hj
    split at hj
    · rename_i l
      exact h1 j a hj l
    · cases hj
  have t2 : ∀ a ∈ rs.drop p, x.2 < a.2 := fun a ha => by
    obtain ⟨j, hj⟩ := List.getElem?_of_mem ha
    rw [List.getElem?_drop] at hj
    exact h2 _ a hj (by omega)
  have e : AscR (rs.take p ++ rs.drop p) := by rw [List.take_append_drop]; exact h
  obtain ⟨a1, a2, a3⟩ := List.pairwise_append.mp e
  rw [List.append_assoc]
  refine List.pairwise_append.mpr ⟨a1, List.pairwise_append.mpr ⟨List.pairwise_singleton .., a2, fun a ha b hb => ?_⟩, fun a ha b hb => ?_⟩
  · rw [List.mem_singleton] at ha; subst ha; exact t2 b hb
  · rcases List.mem_append.mp hb with z | z
    · rw [List.mem_singleton] at z; subst z; exact t1 a ha
    · exact a3 a ha b z
/-- where a worth stands among the rows that were looked at -/
structure PlI (rs : List Row) (q : Rat) (i p : Nat) (f : Bool) : Prop where
  le : p ≤ i
  lo : ∀ j r, rs[j]? = some r → j < p → r.2 < q
  hi : ∀ j r, rs[j]? = some r → p ≤ j → j < i → q ≤ r.2
  fr : f = true → ∀ j r, rs[j]? = some r → j < i → r.2 ≠ q
  nf : rs = [] → f = true
theorem PlI.start (rs : List Row) (q : Rat) : PlI rs q 0 0 true := ⟨by omega, fun j r _ h => by omega, fun j r _ _ h => by omega, fun _ j r _ h => by omega, fun _ => rfl⟩
theorem PlI.step {rs : List Row} {q : Rat} {i p : Nat} {f : Bool} {r : Row} (h : PlI rs q i p f) (ha : AscR rs) (hr : rs[i]? = some r) : PlI rs q (i + 1) (if r.2 < q then i + 1 else p) (if r.2 = q then false else f) := by
  have hlt : ∀ j s, rs[j]? = some s → j < i → s.2 < r.2 := fun j s hj l => by
    obtain ⟨a, b⟩ := List.getElem?_eq_some_iff.mp hj
    obtain ⟨c, d⟩ := List.getElem?_eq_some_iff.mp hr
    have := List.pairwise_iff_getElem.mp ha j i a c l
    rw [b, d] at this
    exact this
  refine ⟨?_, ?_, ?_, ?_, fun z => by rw [z] at hr; simp at hr⟩
  · split <;> have := h.le <;> omega
  · intro j s hj l
    split at l
    · rename_i hq
      rcases Nat.lt_or_ge j i with z | z
      · have := hlt j s hj z; grind
      · have : j = i := by omega
        subst this; rw [hr] at hj; cases hj; exact hq
    · exact h.lo j s hj l
  · intro j s hj l u
    split at l
    · omega
    · rename_i hq
      rcases Nat.lt_or_ge j i with z | z
      · exact h.hi j s hj l z
      · have : j = i := by omega
        subst this; rw [hr] at hj; cases hj; exact Rat.not_lt.mp hq
  · intro hf j s hj l
    split at hf
    · cases hf
    · rename_i hq
      rcases Nat.lt_or_ge j i with z | z
      · exact h.fr hf j s hj z
      · have : j = i := by omega
        subst this; rw [hr] at hj; cases hj; exact hq
theorem PlI.ins {rs : List Row} {q : Rat} {p : Nat} {w : Int} (h : PlI rs q rs.length p true) (ha : AscR rs) : AscR (rs.take p ++ [(w, q)] ++ rs.drop p) :=
  asc_ins ha (fun j r hj l => h.lo j r hj l) fun j r hj l => by
    have a := (List.getElem?_eq_some_iff.mp hj).1
    have z1 := h.hi j r hj l a
    have z2 := h.fr rfl j r hj a
    show q < r.2
    grind
theorem mem_ins {rs : List Row} {x r : Row} {p : Nat} (h : r ∈ rs.take p ++ [x] ++ rs.drop p) : r ∈ rs ∨ r = x := by
  rw [List.append_assoc] at h
  rcases List.mem_append.mp h with z | z
  · exact .inl (List.mem_of_mem_take z)
  · rcases List.mem_append.mp z with z | z
    · exact .inr (List.mem_singleton.mp z)
    · exact .inl (List.mem_of_mem_drop z)
theorem map_ins {α : Type} {f : α → D} {rs : List α} {x : α} {p : Nat} : (rs.map f).take p ++ [f x] ++ (rs.map f).drop p = (rs.take p ++ [x] ++ rs.drop p).map f := by simp
theorem len_ins {rs : List Row} {x : Row} {p : Nat} (h : p ≤ rs.length) : (rs.take p ++ [x] ++ rs.drop p).length = rs.length + 1 := by simp; omega
theorem gap_pos {n d : Int} {q r : Rat} (hn : q.num = n) (hd : (q.den : Int) = d) : 0 < n * r.den - r.num * d ↔ r < q := by
  rw [Rat.lt_iff]; subst hn hd
  constructor <;> intro h <;> omega
theorem gap_zero {n d : Int} {q r : Rat} (hn : q.num = n) (hd : (q.den : Int) = d) : n * r.den - r.num * d = 0 ↔ r = q := by
  subst hn hd
  constructor
  · intro h
    have a : ¬ r < q := by rw [Rat.lt_iff]; omega
    have b : ¬ q < r := by rw [Rat.lt_iff]; omega
    grind
  · rintro rfl; omega
/-- how the law hands a worth, a row of prizes -/
def givenV (plain : Int) (q : Rat) : D := if plain = 1 ∧ (q.den : Int) = 1 then .int q.num else frD q
def prizesV (form : Int) (rs : List Row) : D := if form = 0 then .lst (rs.map fun r => .tup [.int r.1, givenV 0 r.2]) else .tup (rs.map fun r => .lst [.int r.1, givenV 1 r.2])
/-- a worth as a whole number of units -/
def scl (U : Int) (q : Rat) : Int := q.num * (U / (q.den : Int))
theorem scl_eq {U : Int} {q : Rat} (h : (q.den : Int) ∣ U) : ((scl U q : Int) : Rat) = q * (U : Rat) := by
  obtain ⟨c, rfl⟩ := h
  have d0 := den_pos' q
  unfold scl
  rw [Int.mul_ediv_cancel_left _ (by omega)]
  have e : Rat.divInt q.num q.den = q := Rat.num_divInt_den q
  rw [Rat.divInt_eq_div] at e
  have z := cast_pos d0
  rw [Rat.intCast_mul, Rat.intCast_mul]
  grind
abbrev srow (U : Int) (r : Row) : D := .tup [.int r.1, .int (scl U r.2)]
theorem of_worth {r : Int} {k : Int} (h0 : 0 ≤ r) (h1 : r < k) (hk : k ≤ 10000) : 0 ≤ ((r : Int) : Rat).num ∧ ((r : Int) : Rat).num ≤ 9999 ∧ ((((r : Int) : Rat).den : Nat) : Int) ≤ 99 := by
  rw [Rat.num_intCast, Rat.den_intCast]; omega
/-- what an Offer is made of -/
def GivenOK (v : D) (x : Rat) : Prop := v = frD x ∨ (v = .int x.num ∧ ((x.num : Int) : Rat) = x)
def IsPr (d : D) (r : Row) : Prop := ∃ v, (d = .tup [.int r.1, v] ∨ d = .lst [.int r.1, v]) ∧ GivenOK v r.2
def Prizes (v : D) (rs : List Row) : Prop := ∃ ds, (v = .lst ds ∨ v = .tup ds) ∧ ds.length = rs.length ∧ ∀ (i : Nat) d r, ds[i]? = some d → rs[i]? = some r → IsPr d r
theorem givenV_ok (plain : Int) (x : Rat) : GivenOK (givenV plain x) x := by
  unfold givenV
  split
  · rename_i h
    refine .inr ⟨rfl, ?_⟩
    have e := Rat.num_divInt_den x
    rw [show ((x.den : Nat) : Int) = 1 from h.2, divInt_one] at e
    exact e
  · exact .inl rfl
theorem map_pt {α : Type} {f : α → D} {as : List α} {i : Nat} {d : D} {a : α} (h : (as.map f)[i]? = some d) (h' : as[i]? = some a) : d = f a := by
  rw [List.getElem?_map, h'] at h; cases h; rfl
theorem prizesV_ok (form : Int) (rs : List Row) : Prizes (prizesV form rs) rs := by
  unfold prizesV
  split
  · exact ⟨_, .inl rfl, by simp, fun i d r hd hr => by rw [map_pt hd hr]; exact ⟨_, .inl rfl, givenV_ok _ _⟩⟩
  · exact ⟨_, .inr rfl, by simp, fun i d r hd hr => by rw [map_pt hd hr]; exact ⟨_, .inr rfl, givenV_ok _ _⟩⟩
/-! sums -/
def sumQ (qs : List Rat) : Rat := qs.foldl (· + ·) 0
theorem foldQ : ∀ (qs : List Rat) (a : Rat), qs.foldl (· + ·) a = a + sumQ qs
  | [], a => by unfold sumQ; simp only [List.foldl_nil]; grind
  | q :: qs, a => by
    unfold sumQ
    simp only [List.foldl_cons]
    rw [foldQ qs (a + q), foldQ qs (0 + q)]
    grind
theorem sumQ_nil : sumQ [] = 0 := rfl
theorem sumQ_cons (q : Rat) (qs : List Rat) : sumQ (q :: qs) = q + sumQ qs := by
  show qs.foldl (· + ·) (0 + q) = _
  rw [foldQ]; grind
theorem sumQ_snoc (qs : List Rat) (q : Rat) : sumQ (qs ++ [q]) = sumQ qs + q := by unfold sumQ; rw [List.foldl_append]; rfl
theorem sumQ_take {qs : List Rat} {i : Nat} {q : Rat} (h : qs[i]? = some q) : sumQ (qs.take (i + 1)) = sumQ (qs.take i) + q := by
  rw [List.take_succ, h]
  exact sumQ_snoc _ _
theorem fit_sum {M B : Int} (hM : 0 < M) : ∀ {qs : List Rat}, (∀ q ∈ qs, Fit M B q) → Fit M (B * (qs.length : Int)) (sumQ qs)
  | [], _ => by rw [sumQ_nil]; exact (fit_zero hM).more (by simp)
  | q :: qs, h => by
    rw [sumQ_cons]
    refine ((h q List.mem_cons_self).add (fit_sum hM fun x hx => h x (List.mem_cons_of_mem _ hx))).more ?_
    rw [List.length_cons, Int.natCast_add, Int.mul_add]
    omega
theorem fit_sumN {M B N : Int} {qs : List Rat} (hM : 0 < M) (hB : 0 ≤ B) (h : ∀ q ∈ qs, Fit M B q) (hn : (qs.length : Int) ≤ N) : Fit M (B * N) (sumQ qs) :=
  (fit_sum hM h).more (Int.mul_le_mul_of_nonneg_left hn hB)
/-- a multiple of all small denominators -/
def U0 : Int := 69720375229712477164533808935312303556800
theorem U0_pos : 0 < U0 := by decide
theorem U0_bit : Bit 140 U0 := by unfold Bit; decide
theorem U0_dvd {d : Int} (h0 : 0 < d) (h : d ≤ 99) : d ∣ U0 := by
  obtain ⟨n, rfl⟩ := Int.eq_ofNat_of_zero_le (Int.le_of_lt h0)
  have z : ∀ n : Fin 100, 0 < n.val → ((n.val : Nat) : Int) ∣ U0 := by decide
  exact z ⟨n, by omega⟩ (by show 0 < n; omega)
theorem ROk.fit {r : Row} (h : ROk r) : Fit U0 9999 r.2 := by
  have d0 := den_pos' r.2
  have := h.n0
  have := h.n1
  exact (fit_self (B := 9999) (by omega) (by omega)).lift (U0_dvd d0 h.d1) U0_pos
def wsum (rs : List Row) : Int := (rs.map fun r => r.1).sum
theorem wsum_b : ∀ {rs : List Row}, (∀ r ∈ rs, ROk r) → (rs.length : Int) ≤ wsum rs ∧ wsum rs ≤ 999 * (rs.length : Int)
  | [], _ => by simp [wsum]
  | r :: rs, h => by
    have a := h r List.mem_cons_self
    have := a.w1
    have := a.w2
    obtain ⟨x, y⟩ := wsum_b (rs := rs) fun s hs => h s (List.mem_cons_of_mem _ hs)
    unfold wsum at *
    rw [List.map_cons, List.sum_cons, List.length_cons]
    omega
theorem OfOk.ws {m : Nat} {rs : List Row} (h : OfOk m rs) (hm : m ≤ 6) : 0 < wsum rs ∧ wsum rs ≤ 5994 := by
  have := wsum_b h.ok
  have := h.l1
  have := h.l2
  omega
def shareQ (W : Int) (r : Row) : Rat := Rat.divInt r.1 W
theorem ROk.share {W : Int} {r : Row} (h : ROk r) (hW : r.1 ≤ W) : Fit W 1 (shareQ W r) := by
  have := h.w1
  exact fit_div (by omega) (by omega) (by omega)
theorem w_le : ∀ {rs : List Row}, (∀ r ∈ rs, ROk r) → ∀ r ∈ rs, r.1 ≤ wsum rs
  | [], _, r, hr => nomatch hr
  | s :: rs, h, r, hr => by
    have a := h s List.mem_cons_self
    have := a.w1
    have b := wsum_b (rs := rs) fun s hs => h s (List.mem_cons_of_mem _ hs)
    unfold wsum at *
    rw [List.map_cons, List.sum_cons]
    rcases List.mem_cons.mp hr with z | z
    · subst z; omega
    · have := w_le (rs := rs) (fun s hs => h s (List.mem_cons_of_mem _ hs)) r z
      unfold wsum at this
      omega
def maxQ (a b : Rat) : Rat := if b < a then a else b
def overQ (rs : List Row) (p : Rat) : Rat := sumQ ((rs.filter fun r => decide (p < r.2)).map fun r => shareQ (wsum rs) r * (r.2 - p))
def meanQ (rs : List Row) : Rat := sumQ (rs.map fun r => shareQ (wsum rs) r * r.2)
def liftQ (rs : List Row) (p : Rat) : Rat := sumQ (rs.map fun r => shareQ (wsum rs) r * maxQ r.2 p)
theorem over_gen (W : Int) (hW : 0 < W) (p : Rat) : ∀ (rs : List Row), Rat.divInt (wsum rs) W * p + sumQ ((rs.filter fun r => decide (p < r.2)).map fun r => shareQ W r * (r.2 - p)) = sumQ (rs.map fun r => shareQ W r * maxQ r.2 p)
  | [] => by
    have : Rat.divInt 0 W = 0 := by rw [Rat.divInt_eq_div]; grind
    simp only [wsum, List.map_nil, List.sum_nil, List.filter_nil, sumQ_nil, this]; grind
  | r :: rs => by
    have ih := over_gen W hW p rs
    have e : Rat.divInt (wsum (r :: rs)) W = shareQ W r + Rat.divInt (wsum rs) W := by
      unfold wsum shareQ
      rw [List.map_cons, List.sum_cons, Rat.divInt_add_divInt _ _ (by omega) (by omega), ← Int.add_mul, Rat.divInt_mul_right (by omega)]
    rw [e, List.map_cons, sumQ_cons]
    unfold maxQ at *
    by_cases h : p < r.2
    · rw [List.filter_cons_of_pos (by simpa using h), List.map_cons, sumQ_cons, if_pos h]
      grind
    · rw [List.filter_cons_of_neg (by simpa using h), if_neg h]
      grind
theorem over_eq {rs : List Row} (h : 0 < wsum rs) (p : Rat) : p + overQ rs p = liftQ rs p := by
  have z := over_gen (wsum rs) h p rs
  have e : Rat.divInt (wsum rs) (wsum rs) = 1 := Rat.divInt_self' (by omega)
  rw [e] at z
  unfold overQ liftQ
  grind
theorem fit_max {M B : Int} {p q : Rat} (h : Fit M B p) (h' : Fit M B q) : Fit M B (maxQ p q) := by unfold maxQ; split <;> assumption
theorem fit_over {rs : List Row} {m : Nat} {M B : Int} {p : Rat} (h : OfOk m rs) (hm : m ≤ 6) (hp : Fit M B p) (hB : 0 ≤ B) : (∀ q ∈ (rs.filter fun r => decide (p < r.2)).map fun r => shareQ (wsum rs) r * (r.2 - p), Fit (wsum rs * (U0 * M)) (1 * (9999 + B)) q) ∧
    Fit (wsum rs * (U0 * M)) (1 * (9999 + B) * 6) (overQ rs p) := by
  obtain ⟨w0, w1⟩ := h.ws hm
  have M0 := hp.1
  have u0 := U0_pos
  have um : 0 < U0 * M := Int.mul_pos u0 M0
  have a : ∀ q ∈ (rs.filter fun r => decide (p < r.2)).map fun r => shareQ (wsum rs) r * (r.2 - p), Fit (wsum rs * (U0 * M)) (1 * (9999 + B)) q := fun q hq => by
    obtain ⟨r, hr, rfl⟩ := List.mem_map.mp hq
    have hr := (List.mem_filter.mp hr).1
    have ro := h.ok r hr
    exact (ro.share (w_le h.ok r hr)).mul ((ro.fit.lift (Int.dvd_mul_right _ _) um).sub (hp.lift (Int.dvd_mul_left _ _) um)) (by omega)
  refine ⟨a, fit_sumN (Int.mul_pos w0 um) (by omega) a ?_⟩
  have l1 := List.length_filter_le (fun r => decide (p < r.2)) rs
  have := h.l2
  rw [List.length_map]
  omega
/-- sizes: a bits of the common denominator, b bits of the amount -/
def FB (a b : Nat) (q : Rat) : Prop := ∃ M B : Int, Fit M B q ∧ Bit a M ∧ Bit b B ∧ 0 ≤ B
section
variable {a b a' b' : Nat} {p q : Rat}
theorem FB.sz (h : FB a b q) : Sz (a + b) q := by
  obtain ⟨M, B, f, h1, h2, _⟩ := h
  rw [Nat.add_comm]
  exact f.sz (h2.mul h1) (h1.mono (by omega))
theorem FB.mono (h : FB a b q) (h1 : a ≤ a') (h2 : b ≤ b') : FB a' b' q := by
  obtain ⟨M, B, f, x, y, z⟩ := h
  exact ⟨M, B, f, x.mono h1, y.mono h2, z⟩
theorem FB.add (h : FB a b p) (h' : FB a' b' q) : FB (a + a') (max b b' + 1) (p + q) := by
  obtain ⟨M, B, f, x, y, z⟩ := h
  obtain ⟨M', B', f', x', y', z'⟩ := h'
  have mm := Int.mul_pos f.1 f'.1
  exact ⟨M * M', B + B', (f.lift (Int.dvd_mul_right _ _) mm).add (f'.lift (Int.dvd_mul_left _ _) mm), x.mul x', (y.mono (Nat.le_max_left ..)).add (y'.mono (Nat.le_max_right ..)), by omega⟩
theorem FB.sub (h : FB a b p) (h' : FB a' b' q) : FB (a + a') (max b b' + 1) (p - q) := by
  obtain ⟨M, B, f, x, y, z⟩ := h
  obtain ⟨M', B', f', x', y', z'⟩ := h'
  have mm := Int.mul_pos f.1 f'.1
  exact ⟨M * M', B + B', (f.lift (Int.dvd_mul_right _ _) mm).sub (f'.lift (Int.dvd_mul_left _ _) mm), x.mul x', (y.mono (Nat.le_max_left ..)).add (y'.mono (Nat.le_max_right ..)), by omega⟩
theorem FB.mul (h : FB a b p) (h' : FB a' b' q) : FB (a + a') (b + b') (p * q) := by
  obtain ⟨M, B, f, x, y, z⟩ := h
  obtain ⟨M', B', f', x', y', z'⟩ := h'
  exact ⟨M * M', B * B', f.mul f' z, x.mul x', y.mul y', Int.mul_nonneg z z'⟩
theorem FB.div {n d : Int} (hd : 0 < d) (h1 : Bit a d) (h2 : Bit b n) : FB a b (Rat.divInt n d) := by
  refine ⟨d, (n.natAbs : Int), fit_div hd ?_ ?_, h1, by unfold Bit at *; rw [Int.natAbs_natCast]; exact h2, Int.natCast_nonneg _⟩
  · have z : (n.natAbs : Int) * 1 ≤ n.natAbs * d := Int.mul_le_mul_of_nonneg_left (by omega) (Int.natCast_nonneg _)
    omega
  · have z : (n.natAbs : Int) * 1 ≤ n.natAbs * d := Int.mul_le_mul_of_nonneg_left (by omega) (Int.natCast_nonneg _)
    omega
theorem FB.int {n : Int} (h : Bit b n) : FB 1 b (n : Rat) := by rw [← divInt_one]; exact FB.div (by decide) (by unfold Bit; decide) h
theorem ROk.fb {r : Row} (h : ROk r) : FB 7 14 r.2 := by
  have d0 := den_pos' r.2
  have := h.n0; have := h.n1; have := h.d1
  have e : Rat.divInt r.2.num r.2.den = r.2 := Rat.num_divInt_den _
  rw [← e]
  exact FB.div d0 (by unfold Bit; omega) (by unfold Bit; omega)
end
/-- what an offer's stop is worth, in units -/
def needQ (U : Int) (rs : List Row) (h : Rat) : Rat := sumQ (rs.map fun r => shareQ (wsum rs) r * maxQ (r.2 * (U : Rat)) h)
theorem need_scale {U : Int} (hU : 0 < U) (rs : List Row) (h : Rat) : needQ U rs h = (U : Rat) * liftQ rs (h / (U : Rat)) := by
  unfold needQ liftQ
  have u0 := cast_pos hU
  have main : ∀ (W : Int) (ss : List Row), sumQ (ss.map fun r => shareQ W r * maxQ (r.2 * (U : Rat)) h) = (U : Rat) * sumQ (ss.map fun r => shareQ W r * maxQ r.2 (h / (U : Rat))) := by
    intro W ss
    induction ss with
    | nil => simp only [List.map_nil, sumQ_nil]; grind
    | cons r ss ih =>
      simp only [List.map_cons, sumQ_cons]
      rw [ih]
      have e : h = (U : Rat) * (h / (U : Rat)) := by grind
      generalize h / (U : Rat) = g at *
      have m : maxQ (r.2 * (U : Rat)) h = (U : Rat) * maxQ r.2 g := by
        unfold maxQ
        have iff : h < r.2 * (U : Rat) ↔ g < r.2 := by
          rw [e, Rat.mul_comm]
          exact ⟨fun z => (Rat.mul_lt_mul_right u0).mp z, fun z => (Rat.mul_lt_mul_right u0).mpr z⟩
        by_cases c : g < r.2
        · rw [if_pos c, if_pos (iff.mpr c)]; grind
        · rw [if_neg c, if_neg fun z => c (iff.mp z)]; exact e
      rw [m]; grind
  exact main _ rs
theorem need_int {U n d : Int} (hd : 0 < d) (rs : List Row) (hW : 0 < wsum rs) (hu : ∀ r ∈ rs, (r.2.den : Int) ∣ U) :
    Rat.divInt (rs.map fun r => r.1 * (if n < scl U r.2 * d then scl U r.2 * d else n)).sum (wsum rs * d) = needQ U rs (Rat.divInt n d) := by
  unfold needQ
  have d0 := cast_pos hd
  have main : ∀ (W : Int), 0 < W → ∀ (ss : List Row), (∀ r ∈ ss, (r.2.den : Int) ∣ U) → Rat.divInt (ss.map fun r => r.1 * (if n < scl U r.2 * d then scl U r.2 * d else n)).sum (W * d) = sumQ (ss.map fun r => shareQ W r * maxQ (r.2 * (U : Rat)) (Rat.divInt n d)) := by
    intro W hW ss
    have w0 := cast_pos hW
    have wd : W * d ≠ 0 := by have := Int.mul_pos hW hd; omega
    induction ss with
    | nil => intro _; simp only [List.map_nil, sumQ_nil, List.sum_nil]; rw [Rat.divInt_eq_div]; grind
    | cons r ss ih =>
      intro hs
      simp only [List.map_cons, sumQ_cons, List.sum_cons]
      rw [← ih fun s h => hs s (List.mem_cons_of_mem _ h)]
      generalize (ss.map fun r => r.1 * (if n < scl U r.2 * d then scl U r.2 * d else n)).sum = T
      have sc := scl_eq (hs r List.mem_cons_self)
      generalize scl U r.2 = x at *
      rw [← sc]
      have t : shareQ W r * maxQ (x : Rat) (Rat.divInt n d) = Rat.divInt (r.1 * (if n < x * d then x * d else n)) (W * d) := by
        have iff : Rat.divInt n d < (x : Rat) ↔ n < x * d := by
          rw [← divInt_one x, divInt_lt hd (by decide), Int.mul_one]
        unfold maxQ shareQ
        by_cases c : n < x * d
        · rw [if_pos (iff.mpr c), if_pos c, ← divInt_one x, Rat.divInt_mul_divInt, ← Int.mul_assoc, Rat.divInt_mul_right (by omega), Int.mul_one]
        · rw [if_neg (fun z => c (iff.mp z)), if_neg c, Rat.divInt_mul_divInt]
      rw [t, Rat.divInt_add_divInt _ _ wd wd, ← Int.add_mul, Rat.divInt_mul_right wd]
  exact main _ hW rs hu
theorem fb_need {U : Int} {rs : List Row} {a b c : Nat} {h : Rat} (ok : OfOk 6 rs) (hu : ∀ r ∈ rs, (r.2.den : Int) ∣ U) (u0 : 0 < U) (ub : Bit c U) (hh : FB a b h) : FB (13 + a) (max (14 + c) b + 4) (needQ U rs h) := by
  obtain ⟨M, B, f, x, y, z⟩ := hh
  obtain ⟨w0, w1⟩ := ok.ws (by decide)
  have bU : Bit (14 + c) (9999 * U) := Bit.mul (by unfold Bit; decide) ub
  have m9 : 0 ≤ 9999 * U := Int.mul_nonneg (by decide) (Int.le_of_lt u0)
  have bB : Bit (max (14 + c) b + 1) (9999 * U + B) := (bU.mono (Nat.le_max_left ..)).add (y.mono (Nat.le_max_right ..))
  refine ⟨wsum rs * M, 1 * (9999 * U + B) * 6, ?_, Bit.mul (by unfold Bit; omega) x, ?_, by omega⟩
  · refine fit_sumN (Int.mul_pos w0 f.1) (by omega) (fun q hq => ?_) (by rw [List.length_map]; exact_mod_cast ok.l2)
    obtain ⟨r, hr, rfl⟩ := List.mem_map.mp hq
    have ro := ok.ok r hr
    refine (ro.share (w_le ok.ok r hr)).mul (fit_max ?_ (f.more (by omega))) (by decide)
    have f1 : Fit 1 (9999 * U) (r.2 * (U : Rat)) := by
      have d0 := den_pos' r.2
      rw [← scl_eq (hu r hr), ← divInt_one]
      have n0 := ro.n0
      have n1 := ro.n1
      have e1 : 0 ≤ U / (r.2.den : Int) := Int.ediv_nonneg (Int.le_of_lt u0) (Int.le_of_lt d0)
      have e2 : U / (r.2.den : Int) ≤ U := Int.ediv_le_self _ (Int.le_of_lt u0)
      have e3 : scl U r.2 ≤ 9999 * U := Int.mul_le_mul n1 e2 e1 (by decide)
      have e4 : 0 ≤ scl U r.2 := Int.mul_nonneg n0 e1
      exact fit_div (by decide) (by omega) (by omega)
    exact (f1.lift (Int.one_dvd _) f.1).more (by omega)
  · have := (bB.mul (show Bit 3 (6 : Int) by unfold Bit; decide))
    rw [Int.one_mul]
    exact this
theorem fb_lift {rs : List Row} {a b : Nat} {h : Rat} (ok : OfOk 6 rs) (hh : FB a b h) : FB (153 + a) (max 14 b + 4) (liftQ rs h) := by
  obtain ⟨M, B, f, x, y, z⟩ := hh
  obtain ⟨w0, w1⟩ := ok.ws (by decide)
  have bB : Bit (max 14 b + 1) (9999 + B) := (Bit.mono (a := 14) (by unfold Bit; decide) (Nat.le_max_left ..)).add (y.mono (Nat.le_max_right ..))
  have um : 0 < U0 * M := Int.mul_pos U0_pos f.1
  refine ⟨wsum rs * (U0 * M), 1 * (9999 + B) * 6, ?_, ?_, ?_, by omega⟩
  · refine fit_sumN (Int.mul_pos w0 um) (by omega) (fun q hq => ?_) (by rw [List.length_map]; exact_mod_cast ok.l2)
    obtain ⟨r, hr, rfl⟩ := List.mem_map.mp hq
    have ro := ok.ok r hr
    exact (ro.share (w_le ok.ok r hr)).mul (fit_max ((ro.fit.lift (Int.dvd_mul_right _ _) um).more (by omega)) ((f.lift (Int.dvd_mul_left _ _) um).more (by omega))) (by decide)
  · exact (Bit.mul (show Bit 13 (wsum rs) by unfold Bit; omega) (U0_bit.mul x)).mono (by omega)
  · rw [Int.one_mul]
    exact bB.mul (show Bit 3 (6 : Int) by unfold Bit; decide)
/-- heights from the last one back -/
def chainL (U : Int) : List (List Row × Rat) → Rat → List Rat
  | [], last => [last]
  | (o, s) :: rest, last => (needQ U o ((chainL U rest last).headD 0) + s) :: chainL U rest last
theorem chainL_len {U : Int} {last : Rat} : ∀ {L : List (List Row × Rat)}, (chainL U L last).length = L.length + 1
  | [] => rfl
  | (o, s) :: rest => by rw [chainL, List.length_cons, chainL_len, List.length_cons]
theorem chainL_head {U : Int} {last : Rat} : ∀ {L : List (List Row × Rat)}, (chainL U L last).headD 0 = (chainL U L last).getD 0 0
  | [] => rfl
  | (o, s) :: rest => rfl
theorem chainL_at {U : Int} {last : Rat} : ∀ {L : List (List Row × Rat)} {k : Nat} {o : List Row} {s : Rat}, L[k]? = some (o, s) → (chainL U L last).getD k 0 = needQ U o ((chainL U L last).getD (k + 1) 0) + s
  | [], k, o, s, h => by simp at h
  | (o, s) :: rest, 0, _, _, h => by
    cases h
    show needQ U o ((chainL U rest last).headD 0) + s = _
    rw [chainL_head]; rfl
  | (o, s) :: rest, k + 1, _, _, h => by
    have := chainL_at (U := U) (last := last) (L := rest) (k := k) (by simpa using h)
    simpa [chainL] using this
theorem chainL_last {U : Int} {last : Rat} : ∀ {L : List (List Row × Rat)}, (chainL U L last).getD L.length 0 = last
  | [] => rfl
  | (o, s) :: rest => by
    have := chainL_last (U := U) (last := last) (L := rest)
    simpa [chainL] using this
theorem chainL_fb {U : Int} {last : Rat} {a b c d : Nat} (u0 : 0 < U) (ub : Bit c U) (hl : FB a b last) (hb : 14 + c ≤ b) (hd : d ≤ b) : ∀ {L : List (List Row × Rat)}, (∀ p ∈ L, OfOk 6 p.1 ∧ (∀ r ∈ p.1, (r.2.den : Int) ∣ U) ∧ FB 8 d p.2) → ∀ q ∈ chainL U L last, FB (a + 21 * L.length) (b + 5 * L.length) q
  | [], _, q, hq => by
    simp only [chainL, List.mem_singleton] at hq
    subst hq; simpa using hl
  | (o, s) :: rest, h, q, hq => by
    have ih := chainL_fb u0 ub hl hb hd (L := rest) fun p hp => h p (List.mem_cons_of_mem _ hp)
    obtain ⟨ok, hu, fs⟩ := h (o, s) List.mem_cons_self
    rw [List.length_cons]
    simp only [chainL, List.mem_cons] at hq
    rcases hq with rfl | hq
    · have hm : (chainL U rest last).headD 0 ∈ chainL U rest last := by
        have l := chainL_len (U := U) (last := last) (L := rest)
        match chainL U rest last, l with
        | [], l => simp at l
        | x :: xs, _ => simp
      exact ((fb_need ok hu u0 ub (ih _ hm)).add fs).mono (by omega) (by omega)
    · exact (ih q hq).mono (by omega) (by omega)
end Z
set_option Elab.async false
set_option linter.all false
set_option maxRecDepth 100000
noncomputable section
namespace Z.L50
open PySem PySem.Spec L2
open PyProof.Rows hiding St
def top (i : Nat) : Stmt := PySem.Challenge.pw_choicerealm_k50_heights_judged.main.body.getD i (.Pass ⟨0, 0, 0, 0⟩)
structure Ad where
  c_Frac : Addr
  c_Offer : Addr
  f__law_pick : Addr
  d__law_pick : FuncData
  f__law_cut : Addr
  d__law_cut : FuncData
  f__law_worth : Addr
  d__law_worth : FuncData
  f__law_offer : Addr
  d__law_offer : FuncData
  f__law_offers : Addr
  d__law_offers : FuncData
  f__law_unit : Addr
  d__law_unit : FuncData
  f__law_row : Addr
  d__law_row : FuncData
  f_is_sequence : Addr
  d_is_sequence : FuncData
  f_is_integer : Addr
  d_is_integer : FuncData
  f_is_between : Addr
  d_is_between : FuncData
  f_Frac___init__ : Addr
  d_Frac___init__ : FuncData
  f_as_frac : Addr
  d_as_frac : FuncData
  f_is_amount : Addr
  d_is_amount : FuncData
  f_is_prize : Addr
  d_is_prize : FuncData
  f_Frac_is_below : Addr
  d_Frac_is_below : FuncData
  f_kept_prizes : Addr
  d_kept_prizes : FuncData
  f_Offer___init__ : Addr
  d_Offer___init__ : FuncData
  f__law_given : Addr
  d__law_given : FuncData
  f__law_prizes : Addr
  d__law_prizes : FuncData
  f__law_plus : Addr
  d__law_plus : FuncData
  f__law_more : Addr
  d__law_more : FuncData
  f__law_whole : Addr
  d__law_whole : FuncData
  f__law_need : Addr
  d__law_need : FuncData
  f__law_chain : Addr
  d__law_chain : FuncData
  f__law_plain : Addr
  d__law_plain : FuncData
  f__law_frac : Addr
  d__law_frac : FuncData
  f__law_like : Addr
  d__law_like : FuncData
  f_checked_offers : Addr
  d_checked_offers : FuncData
  f_is_frac_or_integer : Addr
  d_is_frac_or_integer : FuncData
  f_told_row : Addr
  d_told_row : FuncData
  f_Frac___add__ : Addr
  d_Frac___add__ : FuncData
  f_total : Addr
  d_total : FuncData
  f_Frac___mul__ : Addr
  d_Frac___mul__ : FuncData
  f_Frac___sub__ : Addr
  d_Frac___sub__ : FuncData
  f_Offer_weight_sum : Addr
  d_Offer_weight_sum : FuncData
  f_Offer_shares : Addr
  d_Offer_shares : FuncData
  f_Offer_over : Addr
  d_Offer_over : FuncData
  f_worth_before : Addr
  d_worth_before : FuncData
  f_heights_hold : Addr
  d_heights_hold : FuncData
  f__law_given_row : Addr
  d__law_given_row : FuncData
  f__law_kinds : Addr
  d__law_kinds : FuncData
  f__law_stops : Addr
  d__law_stops : FuncData
  f_worths_from : Addr
  d_worths_from : FuncData
  f_stop_worth : Addr
  d_stop_worth : FuncData
  f__law_asked : Addr
  d__law_asked : FuncData
  f_law : Addr
  d_law : FuncData
def tab (a : Ad) : Tab := ⟨fun c => match c with
    | 0 => a.c_Frac
    | 1 => a.c_Offer
    | _ => 0, fun c => match c with
    | 0 => ["num", "den"]
    | 1 => ["prizes"]
    | _ => []⟩
abbrev s__law_pick : Stmt := top 35
theorem sc__law_pick : FnScope ["feed", "many", "digit", "place", "cell", "once", "twice"] ["feed", "many"] (defScope s__law_pick) := ⟨rfl, rfl, rfl, by decide +kernel, rfl, by decide +kernel, by decide +kernel⟩
abbrev s__law_cut : Stmt := top 36
theorem sc__law_cut : FnScope ["num", "den", "one", "two", "turn"] ["num", "den"] (defScope s__law_cut) := ⟨rfl, rfl, rfl, by decide +kernel, rfl, by decide +kernel, by decide +kernel⟩
abbrev s__law_worth : Stmt := top 40
theorem sc__law_worth : FnScope ["feed", "kind"] ["feed"] (defScope s__law_worth) := ⟨rfl, rfl, rfl, by decide +kernel, rfl, by decide +kernel, by decide +kernel⟩
abbrev s__law_offer : Stmt := top 41
theorem sc__law_offer : FnScope ["feed", "most", "prizes", "turn", "weight", "worth", "place", "fresh", "k", "gap"] ["feed", "most"] (defScope s__law_offer) := ⟨rfl, rfl, rfl, by decide +kernel, rfl, by decide +kernel, by decide +kernel⟩
abbrev s__law_offers : Stmt := top 42
theorem sc__law_offers : FnScope ["feed", "many", "most", "offers", "k"] ["feed", "many", "most"] (defScope s__law_offers) := ⟨rfl, rfl, rfl, by decide +kernel, rfl, by decide +kernel, by decide +kernel⟩
abbrev s__law_unit : Stmt := top 45
theorem sc__law_unit : FnScope ["offers", "unit", "prizes", "prize"] ["offers"] (defScope s__law_unit) := ⟨rfl, rfl, rfl, by decide +kernel, rfl, by decide +kernel, by decide +kernel⟩
abbrev s__law_row : Stmt := top 46
theorem sc__law_row : FnScope ["prizes", "unit", "prize"] ["prizes", "unit"] (defScope s__law_row) := ⟨rfl, rfl, rfl, by decide +kernel, rfl, by decide +kernel, by decide +kernel⟩
abbrev s_is_sequence : Stmt := top 10
theorem sc_is_sequence : FnScope ["value"] ["value"] (defScope s_is_sequence) := ⟨rfl, rfl, rfl, by decide +kernel, rfl, by decide +kernel, by decide +kernel⟩
abbrev s_is_integer : Stmt := top 8
theorem sc_is_integer : FnScope ["value"] ["value"] (defScope s_is_integer) := ⟨rfl, rfl, rfl, by decide +kernel, rfl, by decide +kernel, by decide +kernel⟩
abbrev s_is_between : Stmt := top 9
theorem sc_is_between : FnScope ["value", "least", "most"] ["value", "least", "most"] (defScope s_is_between) := ⟨rfl, rfl, rfl, by decide +kernel, rfl, by decide +kernel, by decide +kernel⟩
abbrev s_Frac___init__ : Stmt := inClass (top 12) 0
theorem sc_Frac___init__ : FnScope ["self", "num", "den", "divisor"] ["self", "num", "den"] (defScope s_Frac___init__) := ⟨rfl, rfl, rfl, by decide +kernel, rfl, by decide +kernel, by decide +kernel⟩
abbrev s_as_frac : Stmt := top 13
theorem sc_as_frac : FnScope ["value"] ["value"] (defScope s_as_frac) := ⟨rfl, rfl, rfl, by decide +kernel, rfl, by decide +kernel, by decide +kernel⟩
abbrev s_is_amount : Stmt := top 19
theorem sc_is_amount : FnScope ["value", "frac"] ["value"] (defScope s_is_amount) := ⟨rfl, rfl, rfl, by decide +kernel, rfl, by decide +kernel, by decide +kernel⟩
abbrev s_is_prize : Stmt := top 22
theorem sc_is_prize : FnScope ["value"] ["value"] (defScope s_is_prize) := ⟨rfl, rfl, rfl, by decide +kernel, rfl, by decide +kernel, by decide +kernel⟩
abbrev s_Frac_is_below : Stmt := inClass (top 12) 5
theorem sc_Frac_is_below : FnScope ["self", "other"] ["self", "other"] (defScope s_Frac_is_below) := ⟨rfl, rfl, rfl, by decide +kernel, rfl, by decide +kernel, by decide +kernel⟩
abbrev s_kept_prizes : Stmt := top 23
theorem sc_kept_prizes : FnScope ["prizes", "kept", "at", "prize", "worth"] ["prizes"] (defScope s_kept_prizes) := ⟨rfl, rfl, rfl, by decide +kernel, rfl, by decide +kernel, by decide +kernel⟩
abbrev s_Offer___init__ : Stmt := inClass (top 24) 0
theorem sc_Offer___init__ : FnScope ["self", "prizes"] ["self", "prizes"] (defScope s_Offer___init__) := ⟨rfl, rfl, rfl, by decide +kernel, rfl, by decide +kernel, by decide +kernel⟩
abbrev s__law_given : Stmt := top 43
theorem sc__law_given : FnScope ["pair", "plain"] ["pair", "plain"] (defScope s__law_given) := ⟨rfl, rfl, rfl, by decide +kernel, rfl, by decide +kernel, by decide +kernel⟩
abbrev s__law_prizes : Stmt := top 44
theorem sc__law_prizes : FnScope ["prizes", "form", "prize"] ["prizes", "form"] (defScope s__law_prizes) := ⟨rfl, rfl, rfl, by decide +kernel, rfl, by decide +kernel, by decide +kernel⟩
abbrev s__law_plus : Stmt := top 51
theorem sc__law_plus : FnScope ["one", "two"] ["one", "two"] (defScope s__law_plus) := ⟨rfl, rfl, rfl, by decide +kernel, rfl, by decide +kernel, by decide +kernel⟩
abbrev s__law_more : Stmt := top 48
theorem sc__law_more : FnScope ["one", "two"] ["one", "two"] (defScope s__law_more) := ⟨rfl, rfl, rfl, by decide +kernel, rfl, by decide +kernel, by decide +kernel⟩
abbrev s__law_whole : Stmt := top 47
theorem sc__law_whole : FnScope ["row", "pair"] ["row"] (defScope s__law_whole) := ⟨rfl, rfl, rfl, by decide +kernel, rfl, by decide +kernel, by decide +kernel⟩
abbrev s__law_need : Stmt := top 50
theorem sc__law_need : FnScope ["row", "later", "num", "pair"] ["row", "later"] (defScope s__law_need) := ⟨rfl, rfl, rfl, by decide +kernel, rfl, by decide +kernel, by decide +kernel⟩
abbrev s__law_chain : Stmt := top 52
theorem sc__law_chain : FnScope ["rows", "slacks", "last", "low", "unit", "heights", "back", "k", "here", "height"] ["rows", "slacks", "last", "low", "unit"] (defScope s__law_chain) := ⟨rfl, rfl, rfl, by decide +kernel, rfl, by decide +kernel, by decide +kernel⟩
abbrev s__law_plain : Stmt := top 37
theorem sc__law_plain : FnScope ["found"] ["found"] (defScope s__law_plain) := ⟨rfl, rfl, rfl, by decide +kernel, rfl, by decide +kernel, by decide +kernel⟩
abbrev s__law_frac : Stmt := top 38
theorem sc__law_frac : FnScope ["found", "num", "den", "due"] ["found", "num", "den"] (defScope s__law_frac) := ⟨rfl, rfl, rfl, by decide +kernel, rfl, by decide +kernel, by decide +kernel⟩
abbrev s__law_like : Stmt := top 39
theorem sc__law_like : FnScope ["found", "due"] ["found", "due"] (defScope s__law_like) := ⟨rfl, rfl, rfl, by decide +kernel, rfl, by decide +kernel, by decide +kernel⟩
abbrev s_checked_offers : Stmt := top 25
theorem sc_checked_offers : FnScope ["offers", "at", "offer"] ["offers"] (defScope s_checked_offers) := ⟨rfl, rfl, rfl, by decide +kernel, rfl, by decide +kernel, by decide +kernel⟩
abbrev s_is_frac_or_integer : Stmt := top 27
theorem sc_is_frac_or_integer : FnScope ["value"] ["value"] (defScope s_is_frac_or_integer) := ⟨rfl, rfl, rfl, by decide +kernel, rfl, by decide +kernel, by decide +kernel⟩
abbrev s_told_row : Stmt := top 28
theorem sc_told_row : FnScope ["value", "many", "one"] ["value", "many"] (defScope s_told_row) := ⟨rfl, rfl, rfl, by decide +kernel, rfl, by decide +kernel, by decide +kernel⟩
abbrev s_Frac___add__ : Stmt := inClass (top 12) 1
theorem sc_Frac___add__ : FnScope ["self", "other"] ["self", "other"] (defScope s_Frac___add__) := ⟨rfl, rfl, rfl, by decide +kernel, rfl, by decide +kernel, by decide +kernel⟩
abbrev s_total : Stmt := top 14
theorem sc_total : FnScope ["fracs", "found", "one"] ["fracs"] (defScope s_total) := ⟨rfl, rfl, rfl, by decide +kernel, rfl, by decide +kernel, by decide +kernel⟩
abbrev s_Frac___mul__ : Stmt := inClass (top 12) 3
theorem sc_Frac___mul__ : FnScope ["self", "other"] ["self", "other"] (defScope s_Frac___mul__) := ⟨rfl, rfl, rfl, by decide +kernel, rfl, by decide +kernel, by decide +kernel⟩
abbrev s_Frac___sub__ : Stmt := inClass (top 12) 2
theorem sc_Frac___sub__ : FnScope ["self", "other"] ["self", "other"] (defScope s_Frac___sub__) := ⟨rfl, rfl, rfl, by decide +kernel, rfl, by decide +kernel, by decide +kernel⟩
abbrev s_Offer_weight_sum : Stmt := inClass (top 24) 4
theorem sc_Offer_weight_sum : FnScope ["self", "weight", "_"] ["self"] (defScope s_Offer_weight_sum) := ⟨rfl, rfl, rfl, by decide +kernel, rfl, by decide +kernel, by decide +kernel⟩
abbrev s_Offer_shares : Stmt := inClass (top 24) 5
theorem sc_Offer_shares : FnScope ["self", "whole", "weight", "worth"] ["self"] (defScope s_Offer_shares) := ⟨rfl, rfl, rfl, by decide +kernel, rfl, by decide +kernel, by decide +kernel⟩
abbrev s_Offer_over : Stmt := inClass (top 24) 8
theorem sc_Offer_over : FnScope ["self", "price", "least", "share", "worth"] ["self", "price"] (defScope s_Offer_over) := ⟨rfl, rfl, rfl, by decide +kernel, rfl, by decide +kernel, by decide +kernel⟩
abbrev s_worth_before : Stmt := top 30
theorem sc_worth_before : FnScope ["offer", "rest"] ["offer", "rest"] (defScope s_worth_before) := ⟨rfl, rfl, rfl, by decide +kernel, rfl, by decide +kernel, by decide +kernel⟩
abbrev s_heights_hold : Stmt := top 33
theorem sc_heights_hold : FnScope ["offers", "heights", "line", "told", "at", "offer"] ["offers", "heights"] (defScope s_heights_hold) := ⟨rfl, rfl, rfl, by decide +kernel, rfl, by decide +kernel, by decide +kernel⟩
abbrev s__law_given_row : Stmt := top 53
theorem sc__law_given_row : FnScope ["heights", "form", "given", "height"] ["heights", "form"] (defScope s__law_given_row) := ⟨rfl, rfl, rfl, by decide +kernel, rfl, by decide +kernel, by decide +kernel⟩
abbrev s__law_kinds : Stmt := top 54
theorem sc__law_kinds : FnScope ["feed", "right", "at", "found", "odd"] ["feed", "right"] (defScope s__law_kinds) := ⟨rfl, rfl, rfl, by decide +kernel, rfl, by decide +kernel, by decide +kernel⟩
abbrev s__law_stops : Stmt := top 49
theorem sc__law_stops : FnScope ["rows", "values", "row", "later", "num", "pair"] ["rows"] (defScope s__law_stops) := ⟨rfl, rfl, rfl, by decide +kernel, rfl, by decide +kernel, by decide +kernel⟩
abbrev s_worths_from : Stmt := top 31
theorem sc_worths_from : FnScope ["line", "found", "offer"] ["line"] (defScope s_worths_from) := ⟨rfl, rfl, rfl, by decide +kernel, rfl, by decide +kernel, by decide +kernel⟩
abbrev s_stop_worth : Stmt := top 32
theorem sc_stop_worth : FnScope ["offers"] ["offers"] (defScope s_stop_worth) := ⟨rfl, rfl, rfl, by decide +kernel, rfl, by decide +kernel, by decide +kernel⟩
abbrev s__law_asked : Stmt := top 55
theorem sc__law_asked : FnScope ["script", "feed", "many", "offers", "form", "unit", "rows", "handed", "slacks", "k", "slack", "none", "little", "right", "exact", "low", "wrong", "turn", "first", "prizes", "row"] ["script"] (defScope s__law_asked) := ⟨rfl, rfl, rfl, by decide +kernel, rfl, by decide +kernel, by decide +kernel⟩
abbrev s_law : Stmt := top 56
theorem sc_law : FnScope ["script"] ["script"] (defScope s_law) := ⟨rfl, rfl, rfl, by decide +kernel, rfl, by decide +kernel, by decide +kernel⟩
def b__law_pick : Env → R (Fl × Env) := (mSeq (mSetIx 0 (mBin (gI0 (· + ·)) (mBinN 0 gIx (mCon (.int 2))) (mCon (.int 1))) (mCon (.int 2))) (mSeq (mIfS (mVal (mBin (gIB fun i j => decide (j < i)) (mBinN 0 gIx (mCon (.int 3))) (mCon (.int 0)))) (mSeq (mSet 2 (mBin (gII cNz Int.fmod) (mPrim (gOne gIntO) (mCons (mBinN 0 gIx (mCon (.int 3))) mNil)) (mVar 1))) (mSeq (mSetIx 0 (mBin (gII cDiv Int.fdiv) (mBinN 0 gIx (mCon (.int 3))) (mVar 1)) (mCon (.int 3))) (mRet (mVar 2)))) mSkip) (mSeq (mSet 3 (mBinN 0 gIx (mCon (.int 1)))) (mSeq (mSetIx 0 (mBin (gI0 (· + ·)) (mVar 3) (mCon (.int 1))) (mCon (.int 1))) (mSeq (mSet 4 (mCon (.int 23))) (mSeq (mIfS (mVal (mBin (gIB fun i j => decide (j < i)) (mPrim (gOne gLen) (mCons (mBinN 0 gIx (mCon (.int 0))) mNil)) (mCon (.int 0)))) (mSet 4 (mPrim (gOne gIntO) (mCons (mBin gIx (mBinN 0 gIx (mCon (.int 0))) (mBin (gII cNz Int.fmod) (mPrim (gOne gIntO) (mCons (mVar 3) mNil)) (mPrim (gOne gLen) (mCons (mBinN 0 gIx (mCon (.int 0))) mNil)))) mNil))) mSkip) (mSeq (mIfS (mAnd (mVal (mBin (gIB fun i j => decide (j ≤ i)) (mVar 4) (mBin (gII cPow fun i j => i ^ j.toNat) (mCon (.int 10)) (mCon (.int 16))))) (mVal (mBin (gIB fun i j => decide (i < j)) (mVar 3) (mPrim (gOne gLen) (mCons (mBinN 0 gIx (mCon (.int 0))) mNil))))) (mSeq (mSetIx 0 (mBin (gII cDiv Int.fdiv) (mVar 4) (mVar 1)) (mCon (.int 3))) (mRet (mBin (gII cNz Int.fmod) (mPrim (gOne gIntO) (mCons (mVar 4) mNil)) (mVar 1)))) mSkip) (mSeq (mSet 5 (mBin (gII cNz Int.fmod) (mPrim (gOne gIntO) (mCons (mBin (gI0 (· + ·)) (mBin (gI0 (· + ·)) (mBin (gI0 (· + ·)) (mBin (gII cMul (· * ·)) (mVar 4) (mCon (.int 40503))) (mBin (gII cMul (· * ·)) (mBinN 0 gIx (mCon (.int 2))) (mCon (.int 92821)))) (mBin (gII cMul (· * ·)) (mVar 3) (mCon (.int 31)))) (mCon (.int 17))) mNil)) (mCon (.int 1000000007)))) (mSeq (mSet 6 (mBin (gII cNz Int.fmod) (mPrim (gOne gIntO) (mCons (mBin (gI0 (· + ·)) (mBin (gI0 (· + ·)) (mBin (gII cMul (· * ·)) (mVar 5) (mVar 5)) (mBin (gII cMul (· * ·)) (mBinN 0 gIx (mCon (.int 2))) (mCon (.int 7919)))) (mBin (gII cDiv Int.fdiv) (mVar 4) (mCon (.int 8191)))) mNil)) (mCon (.int 2147483629)))) (mRet (mBin (gII cNz Int.fmod) (mPrim (gOne gIntO) (mCons (mBin (gII cDiv Int.fdiv) (mBin (gII cMul (· * ·)) (mVar 6) (mCon (.int 69069))) (mCon (.int 4096))) mNil)) (mVar 1))))))))))))
@[irreducible] def m__law_pick : List D → R (D × D) := mFnB 2 7 b__law_pick
theorem mq__law_pick : m__law_pick = mFnB 2 7 b__law_pick := by with_unfolding_all rfl
def l__law_cut_b3 : Env → R (Fl × Env) := (mSeq (mIfS (mVal (mBin (gEq) (mVar 3) (mCon (.int 0)))) mBrk mSkip) (mPar 2 3 (mCons (mVar 3) (mCons (mBin (gII cNz Int.fmod) (mPrim (gOne gIntO) (mCons (mVar 2) mNil)) (mVar 3)) mNil))))
def b__law_cut : Env → R (Fl × Env) := (mSeq (mSet 2 (mPrim (gOne (gU fun i => if i < 0 then -i else i)) (mCons (mVar 0) mNil))) (mSeq (mSet 3 (mVar 1)) (mSeq (mFor (mItR1 (mCons (mBin (gI0 (· + ·)) (mBin (gII cMul (· * ·)) (mCon (.int 2)) (mUn (gU bitLen) (mVar 1))) (mCon (.int 4))) mNil)) (gtN 4) l__law_cut_b3) (mRet (mPrim gTup (mCons (mBin (gII cDiv Int.fdiv) (mVar 0) (mVar 2)) (mCons (mBin (gII cDiv Int.fdiv) (mVar 1) (mVar 2)) mNil)))))))
@[irreducible] def m__law_cut : List D → R D := mFn 2 5 b__law_cut
theorem mq__law_cut : m__law_cut = mFn 2 5 b__law_cut := by with_unfolding_all rfl
def b__law_worth : Env → R (Fl × Env) := (mSeq (mSet 1 (mCallB 0 m__law_pick (mCons (mCon (.int 12)) mNil))) (mSeq (mIfS (mVal (mBin (gIB fun i j => decide (i < j)) (mVar 1) (mCon (.int 7)))) (mRet (mPrim gTup (mCons (mCallB 0 m__law_pick (mCons (mCon (.int 7)) mNil)) (mCons (mCon (.int 1)) mNil)))) mSkip) (mSeq (mIfS (mVal (mBin (gIB fun i j => decide (i < j)) (mVar 1) (mCon (.int 10)))) (mRet (mCall m__law_cut (mCons (mCallB 0 m__law_pick (mCons (mCon (.int 40)) mNil)) (mCons (mBin (gI0 (· + ·)) (mCon (.int 1)) (mCallB 0 m__law_pick (mCons (mCon (.int 6)) mNil))) mNil)))) mSkip) (mSeq (mIfS (mVal (mBin (gIB fun i j => decide (i < j)) (mVar 1) (mCon (.int 11)))) (mRet (mPrim gTup (mCons (mCallB 0 m__law_pick (mCons (mCon (.int 10000)) mNil)) (mCons (mCon (.int 1)) mNil)))) mSkip) (mRet (mCall m__law_cut (mCons (mCallB 0 m__law_pick (mCons (mCon (.int 10000)) mNil)) (mCons (mBin (gI0 (· + ·)) (mCon (.int 1)) (mCallB 0 m__law_pick (mCons (mCon (.int 99)) mNil))) mNil))))))))
@[irreducible] def m__law_worth : List D → R (D × D) := mFnB 1 2 b__law_worth
theorem mq__law_worth : m__law_worth = mFnB 1 2 b__law_worth := by with_unfolding_all rfl
def l__law_offer_b9 : Env → R (Fl × Env) := (mSeq (mSet 9 (mBin (gI0 (· - ·)) (mBin (gII cMul (· * ·)) (mBin gIx (mVar 5) (mCon (.int 0))) (mBin gIx (mBin gIx (mBinN 2 gIx (mVar 8)) (mCon (.int 1))) (mCon (.int 1)))) (mBin (gII cMul (· * ·)) (mBin gIx (mBin gIx (mBinN 2 gIx (mVar 8)) (mCon (.int 1))) (mCon (.int 0))) (mBin gIx (mVar 5) (mCon (.int 1)))))) (mSeq (mIfS (mVal (mBin (gIB fun i j => decide (j < i)) (mVar 9) (mCon (.int 0)))) (mSet 6 (mBin (gI0 (· + ·)) (mVar 8) (mCon (.int 1)))) mSkip) (mIfS (mVal (mBin (gEq) (mVar 9) (mCon (.int 0)))) (mSet 7 (mCon (.bl false))) mSkip)))
def l__law_offer_b2 : Env → R (Fl × Env) := (mSeq (mSet 4 (mBin (gI0 (· + ·)) (mCon (.int 1)) (mCallB 0 m__law_pick (mCons (mCon (.int 4)) mNil)))) (mSeq (mIfS (mVal (mBin (gEq) (mCallB 0 m__law_pick (mCons (mCon (.int 6)) mNil)) (mCon (.int 0)))) (mSet 4 (mBin (gI0 (· + ·)) (mCon (.int 1)) (mCallB 0 m__law_pick (mCons (mCon (.int 99)) mNil)))) mSkip) (mSeq (mSet 5 (mCallB 0 m__law_worth mNil)) (mSeq (mSet 6 (mCon (.int 0))) (mSeq (mSet 7 (mCon (.bl true))) (mSeq (mFor (mItR1 (mCons (mUnN 2 gLen) mNil)) (gtN 8) l__law_offer_b9) (mIfS (mVal (mVar 7)) (mInsr 2 (mVar 6) (mPrim gTup (mCons (mVar 4) (mCons (mVar 5) mNil)))) mSkip)))))))
def b__law_offer : Env → R (Fl × Env) := (mSeq (mSet 2 (mPrim gLst mNil)) (mSeq (mFor (mItR1 (mCons (mBin (gI0 (· + ·)) (mCon (.int 1)) (mCallB 0 m__law_pick (mCons (mVar 1) mNil))) mNil)) (gtN 3) l__law_offer_b2) (mRet (mVar 2))))
@[irreducible] def m__law_offer : List D → R (D × D) := mFnB 2 10 b__law_offer
theorem mq__law_offer : m__law_offer = mFnB 2 10 b__law_offer := by with_unfolding_all rfl
def l__law_offers_b2 : Env → R (Fl × Env) := (mIfS (mAnd (mVal (mBin (gIB fun i j => decide (j < i)) (mVar 4) (mCon (.int 0)))) (mVal (mBin (gEq) (mCallB 0 m__law_pick (mCons (mCon (.int 6)) mNil)) (mCon (.int 0))))) (mApp 3 (mBinN 3 gIx (mCallB 0 m__law_pick (mCons (mVar 4) mNil)))) (mApp 3 (mCallB 0 m__law_offer (mCons (mVar 2) mNil))))
def b__law_offers : Env → R (Fl × Env) := (mSeq (mSet 3 (mPrim gLst mNil)) (mSeq (mFor (mItR1 (mCons (mVar 1) mNil)) (gtN 4) l__law_offers_b2) (mRet (mVar 3))))
@[irreducible] def m__law_offers : List D → R (D × D) := mFnB 3 5 b__law_offers
theorem mq__law_offers : m__law_offers = mFnB 3 5 b__law_offers := by with_unfolding_all rfl
def l__law_unit_b3 : Env → R (Fl × Env) := (mSet 1 (mBin (gII cMul (· * ·)) (mVar 1) (mBin gIx (mCall m__law_cut (mCons (mVar 1) (mCons (mBin gIx (mBin gIx (mVar 3) (mCon (.int 1))) (mCon (.int 1))) mNil))) (mCon (.int 1)))))
def l__law_unit_b2 : Env → R (Fl × Env) := (mFor (mItL (mVar 2)) (gtN 3) l__law_unit_b3)
def b__law_unit : Env → R (Fl × Env) := (mSeq (mSet 1 (mCon (.int 1))) (mSeq (mFor (mItL (mVar 0)) (gtN 2) l__law_unit_b2) (mRet (mVar 1))))
@[irreducible] def m__law_unit : List D → R D := mFn 1 4 b__law_unit
theorem mq__law_unit : m__law_unit = mFn 1 4 b__law_unit := by with_unfolding_all rfl
def l__law_row_e1_11 : Env → R (D × Env) := (mPrim gTup (mCons (mBin gIx (mVar 2) (mCon (.int 0))) (mCons (mBin (gII cMul (· * ·)) (mBin gIx (mBin gIx (mVar 2) (mCon (.int 1))) (mCon (.int 0))) (mBin (gII cDiv Int.fdiv) (mVar 1) (mBin gIx (mBin gIx (mVar 2) (mCon (.int 1))) (mCon (.int 1))))) mNil)))
def b__law_row : Env → R (Fl × Env) := (mRet (mComp [2] (mItL (mVar 0)) (gtN 2) mYes l__law_row_e1_11))
@[irreducible] def m__law_row : List D → R D := mFn 2 3 b__law_row
theorem mq__law_row : m__law_row = mFn 2 3 b__law_row := by with_unfolding_all rfl
def b_is_sequence : Env → R (Fl × Env) := (mRet (mUn (gIsi [0, 1] [.list, .tuple]) (mVar 0)))
@[irreducible] def m_is_sequence : List D → R D := mFn 1 1 b_is_sequence
theorem mq_is_sequence : m_is_sequence = mFn 1 1 b_is_sequence := by with_unfolding_all rfl
def b_is_integer : Env → R (Fl × Env) := (mRet (mAndV (mUn (gIsi [0, 1] [.int]) (mVar 0)) (mUn gNot (mUn (gIsi [0, 1] [.bool]) (mVar 0)))))
@[irreducible] def m_is_integer : List D → R D := mFn 1 1 b_is_integer
theorem mq_is_integer : m_is_integer = mFn 1 1 b_is_integer := by with_unfolding_all rfl
def b_is_between : Env → R (Fl × Env) := (mRet (mAndV (mCall m_is_integer (mCons (mVar 0) mNil)) (mChain (gIB fun i j => decide (i ≤ j)) (gIB fun i j => decide (i ≤ j)) (mVar 1) (mVar 0) (mVar 2))))
@[irreducible] def m_is_between : List D → R D := mFn 3 3 b_is_between
theorem mq_is_between : m_is_between = mFn 3 3 b_is_between := by with_unfolding_all rfl
def b_Frac___init__ : Env → R (Fl × Env) := (mSeq (mIfS (mOr (mNot (mVal (mCall m_is_integer (mCons (mVar 1) mNil)))) (mOr (mNot (mVal (mCall m_is_integer (mCons (mVar 2) mNil)))) (mVal (mBin (gEq) (mVar 2) (mCon (.int 0)))))) (fun _ => .bad) mSkip) (mSeq (mSet 3 (mPrim (gTwo (gI0 gcdI)) (mCons (mVar 1) (mCons (mVar 2) mNil)))) (mSeq (mIfS (mVal (mBin (gIB fun i j => decide (i < j)) (mVar 2) (mCon (.int 0)))) (mSet 3 (mUn (gU fun i => -i) (mVar 3))) mSkip) (mSeq (mFldSet 0 0 0 (mBin (gII cDiv Int.fdiv) (mVar 1) (mVar 3))) (mFldSet 0 0 1 (mBin (gII cDiv Int.fdiv) (mVar 2) (mVar 3)))))))
@[irreducible] def m_Frac___init__ : List D → R (D × D) := mFnB 3 4 b_Frac___init__
theorem mq_Frac___init__ : m_Frac___init__ = mFnB 3 4 b_Frac___init__ := by with_unfolding_all rfl
def b_as_frac : Env → R (Fl × Env) := (mSeq (mIfS (mVal (mUn (gIsi [0, 1] [(.own 0)]) (mVar 0))) (mRet (mVar 0)) mSkip) (mSeq (mIfS (mNot (mVal (mCall m_is_integer (mCons (mVar 0) mNil)))) (fun _ => .bad) mSkip) (mRet (mMake 0 (fun xs => m_Frac___init__ (xs ++ [.int 1])) (mCons (mVar 0) mNil)))))
@[irreducible] def m_as_frac : List D → R D := mFn 1 1 b_as_frac
theorem mq_as_frac : m_as_frac = mFn 1 1 b_as_frac := by with_unfolding_all rfl
def b_is_amount : Env → R (Fl × Env) := (mSeq (mIfS (mAnd (mNot (mVal (mCall m_is_integer (mCons (mVar 0) mNil)))) (mNot (mVal (mUn (gIsi [0, 1] [(.own 0)]) (mVar 0))))) (mRet (mCon (.bl false))) mSkip) (mSeq (mSet 1 (mCall m_as_frac (mCons (mVar 0) mNil))) (mRet (mAndV (mChain (gIB fun i j => decide (i ≤ j)) (gIB fun i j => decide (i ≤ j)) (mUn (gU fun i => -i) (mCon (.int 9999))) (mUn (gFld [(0, 0)]) (mVar 1)) (mCon (.int 9999))) (mBin (gIB fun i j => decide (i ≤ j)) (mUn (gFld [(0, 1)]) (mVar 1)) (mCon (.int 99)))))))
@[irreducible] def m_is_amount : List D → R D := mFn 1 2 b_is_amount
theorem mq_is_amount : m_is_amount = mFn 1 2 b_is_amount := by with_unfolding_all rfl
def b_is_prize : Env → R (Fl × Env) := (mSeq (mIfS (mOr (mNot (mVal (mCall m_is_sequence (mCons (mVar 0) mNil)))) (mVal (mBin (gNe) (mPrim (gOne gLen) (mCons (mVar 0) mNil)) (mCon (.int 2))))) (mRet (mCon (.bl false))) mSkip) (mSeq (mIfS (mOr (mNot (mVal (mCall m_is_between (mCons (mBin gIx (mVar 0) (mCon (.int 0))) (mCons (mCon (.int 1)) (mCons (mCon (.int 999)) mNil)))))) (mNot (mVal (mCall m_is_amount (mCons (mBin gIx (mVar 0) (mCon (.int 1))) mNil))))) (mRet (mCon (.bl false))) mSkip) (mRet (mBin (gIB fun i j => decide (j ≤ i)) (mUn (gFld [(0, 0)]) (mCall m_as_frac (mCons (mBin gIx (mVar 0) (mCon (.int 1))) mNil))) (mCon (.int 0))))))
@[irreducible] def m_is_prize : List D → R D := mFn 1 1 b_is_prize
theorem mq_is_prize : m_is_prize = mFn 1 1 b_is_prize := by with_unfolding_all rfl
def b_Frac_is_below : Env → R (Fl × Env) := (mRet (mBin (gIB fun i j => decide (i < j)) (mBin (gII cMul (· * ·)) (mUn (gFld [(0, 0)]) (mVar 0)) (mUn (gFld [(0, 1)]) (mVar 1))) (mBin (gII cMul (· * ·)) (mUn (gFld [(0, 0)]) (mVar 1)) (mUn (gFld [(0, 1)]) (mVar 0)))))
@[irreducible] def m_Frac_is_below : List D → R D := mFn 2 2 b_Frac_is_below
theorem mq_Frac_is_below : m_Frac_is_below = mFn 2 2 b_Frac_is_below := by with_unfolding_all rfl
def l_kept_prizes_b4 : Env → R (Fl × Env) := (mSeq (mIfS (mNot (mVal (mCall m_is_prize (mCons (mVar 3) mNil)))) (fun _ => .bad) mSkip) (mSeq (mSet 4 (mCall m_as_frac (mCons (mBin gIx (mVar 3) (mCon (.int 1))) mNil))) (mSeq (mIfS (mAnd (mVal (mBin (gIB fun i j => decide (j < i)) (mVar 2) (mCon (.int 0)))) (mNot (mVal (mMeth 0 (fun xs => m_Frac_is_below (xs ++ [])) (mBin gIx (mBinN 1 gIx (mBin (gI0 (· - ·)) (mVar 2) (mCon (.int 1)))) (mCon (.int 1))) (mCons (mVar 4) mNil))))) (fun _ => .bad) mSkip) (mApp 1 (mPrim gTup (mCons (mBin gIx (mVar 3) (mCon (.int 0))) (mCons (mVar 4) mNil)))))))
def b_kept_prizes : Env → R (Fl × Env) := (mSeq (mIfS (mOr (mNot (mVal (mCall m_is_sequence (mCons (mVar 0) mNil)))) (mNot (mVal (mChain (gIB fun i j => decide (i ≤ j)) (gIB fun i j => decide (i ≤ j)) (mCon (.int 1)) (mPrim (gOne gLen) (mCons (mVar 0) mNil)) (mCon (.int 6)))))) (fun _ => .bad) mSkip) (mSeq (mSet 1 (mPrim gLst mNil)) (mSeq (mFor (mSeqD (enumD 0) (mVar 0)) (gtT 2 (gtCons (gtN 2) (gtCons (gtN 3) gtNil))) l_kept_prizes_b4) (mRet (mUnN 1 gTupOf)))))
@[irreducible] def m_kept_prizes : List D → R D := mFn 1 5 b_kept_prizes
theorem mq_kept_prizes : m_kept_prizes = mFn 1 5 b_kept_prizes := by with_unfolding_all rfl
def b_Offer___init__ : Env → R (Fl × Env) := (mFldSet 0 1 0 (mCall m_kept_prizes (mCons (mVar 1) mNil)))
@[irreducible] def m_Offer___init__ : List D → R (D × D) := mFnB 2 2 b_Offer___init__
theorem mq_Offer___init__ : m_Offer___init__ = mFnB 2 2 b_Offer___init__ := by with_unfolding_all rfl
def b__law_given : Env → R (Fl × Env) := (mSeq (mIfS (mAnd (mVal (mBin (gEq) (mVar 1) (mCon (.int 1)))) (mVal (mBin (gEq) (mBin gIx (mVar 0) (mCon (.int 1))) (mCon (.int 1))))) (mRet (mBin gIx (mVar 0) (mCon (.int 0)))) mSkip) (mRet (mMake 0 (fun xs => m_Frac___init__ (xs ++ [])) (mCons (mBin gIx (mVar 0) (mCon (.int 0))) (mCons (mBin gIx (mVar 0) (mCon (.int 1))) mNil)))))
@[irreducible] def m__law_given : List D → R D := mFn 2 2 b__law_given
theorem mq__law_given : m__law_given = mFn 2 2 b__law_given := by with_unfolding_all rfl
def l__law_prizes_e2_15 : Env → R (D × Env) := (mPrim gTup (mCons (mBin gIx (mVar 2) (mCon (.int 0))) (mCons (mCall m__law_given (mCons (mBin gIx (mVar 2) (mCon (.int 1))) (mCons (mCon (.int 0)) mNil))) mNil)))
def l__law_prizes_e3_17 : Env → R (D × Env) := (mPrim gLst (mCons (mBin gIx (mVar 2) (mCon (.int 0))) (mCons (mCall m__law_given (mCons (mBin gIx (mVar 2) (mCon (.int 1))) (mCons (mCon (.int 1)) mNil))) mNil)))
def b__law_prizes : Env → R (Fl × Env) := (mSeq (mIfS (mVal (mBin (gEq) (mVar 1) (mCon (.int 0)))) (mRet (mComp [2] (mItL (mVar 0)) (gtN 2) mYes l__law_prizes_e2_15)) mSkip) (mRet (mPrim (gOne gTupOf) (mCons (mComp [2] (mItL (mVar 0)) (gtN 2) mYes l__law_prizes_e3_17) mNil))))
@[irreducible] def m__law_prizes : List D → R D := mFn 2 3 b__law_prizes
theorem mq__law_prizes : m__law_prizes = mFn 2 3 b__law_prizes := by with_unfolding_all rfl
def b__law_plus : Env → R (Fl × Env) := (mRet (mCall m__law_cut (mCons (mBin (gI0 (· + ·)) (mBin (gII cMul (· * ·)) (mBin gIx (mVar 0) (mCon (.int 0))) (mBin gIx (mVar 1) (mCon (.int 1)))) (mBin (gII cMul (· * ·)) (mBin gIx (mVar 1) (mCon (.int 0))) (mBin gIx (mVar 0) (mCon (.int 1))))) (mCons (mBin (gII cMul (· * ·)) (mBin gIx (mVar 0) (mCon (.int 1))) (mBin gIx (mVar 1) (mCon (.int 1)))) mNil))))
@[irreducible] def m__law_plus : List D → R D := mFn 2 2 b__law_plus
theorem mq__law_plus : m__law_plus = mFn 2 2 b__law_plus := by with_unfolding_all rfl
def b__law_more : Env → R (Fl × Env) := (mSeq (mIfS (mVal (mBin (gIB fun i j => decide (j < i)) (mVar 0) (mVar 1))) (mRet (mVar 0)) mSkip) (mRet (mVar 1)))
@[irreducible] def m__law_more : List D → R D := mFn 2 2 b__law_more
theorem mq__law_more : m__law_more = mFn 2 2 b__law_more := by with_unfolding_all rfl
def l__law_whole_e1_15 : Env → R (D × Env) := (mBin gIx (mVar 1) (mCon (.int 0)))
def b__law_whole : Env → R (Fl × Env) := (mRet (mPrim (gOne gSum) (mCons (mComp [1] (mItL (mVar 0)) (gtN 1) mYes l__law_whole_e1_15) mNil)))
@[irreducible] def m__law_whole : List D → R D := mFn 1 2 b__law_whole
theorem mq__law_whole : m__law_whole = mFn 1 2 b__law_whole := by with_unfolding_all rfl
def l__law_need_e1_14 : Env → R (D × Env) := (mBin (gII cMul (· * ·)) (mBin gIx (mVar 3) (mCon (.int 0))) (mCall m__law_more (mCons (mBin (gII cMul (· * ·)) (mBin gIx (mVar 3) (mCon (.int 1))) (mBin gIx (mVar 1) (mCon (.int 1)))) (mCons (mBin gIx (mVar 1) (mCon (.int 0))) mNil))))
def b__law_need : Env → R (Fl × Env) := (mSeq (mSet 2 (mPrim (gOne gSum) (mCons (mComp [3] (mItL (mVar 0)) (gtN 3) mYes l__law_need_e1_14) mNil))) (mRet (mCall m__law_cut (mCons (mVar 2) (mCons (mBin (gII cMul (· * ·)) (mCall m__law_whole (mCons (mVar 0) mNil)) (mBin gIx (mVar 1) (mCon (.int 1)))) mNil)))))
@[irreducible] def m__law_need : List D → R D := mFn 2 4 b__law_need
theorem mq__law_need : m__law_need = mFn 2 4 b__law_need := by with_unfolding_all rfl
def l__law_chain_b2 : Env → R (Fl × Env) := (mSeq (mSet 7 (mBin (gI0 (· - ·)) (mBin (gI0 (· - ·)) (mPrim (gOne gLen) (mCons (mVar 0) mNil)) (mCon (.int 1))) (mVar 6))) (mSeq (mSet 8 (mCall m__law_plus (mCons (mCall m__law_need (mCons (mBin gIx (mVar 0) (mVar 7)) (mCons (mBinN 5 gIx (mCon (.int 0))) mNil))) (mCons (mBin gIx (mVar 1) (mVar 7)) mNil)))) (mSeq (mIfS (mVal (mBin (gEq) (mVar 7) (mBin gIx (mVar 3) (mCon (.int 0))))) (mSet 8 (mCall m__law_plus (mCons (mCall m__law_need (mCons (mBin gIx (mVar 0) (mVar 7)) (mCons (mBinN 5 gIx (mCon (.int 0))) mNil))) (mCons (mBin gIx (mVar 3) (mCon (.int 1))) mNil)))) mSkip) (mInsr 5 (mCon (.int 0)) (mVar 8)))))
def l__law_chain_e8_11 : Env → R (D × Env) := (mCall m__law_cut (mCons (mBin gIx (mVar 9) (mCon (.int 0))) (mCons (mBin (gII cMul (· * ·)) (mBin gIx (mVar 9) (mCon (.int 1))) (mVar 4)) mNil)))
def b__law_chain : Env → R (Fl × Env) := (mSeq (mSet 5 (mPrim gLst (mCons (mVar 2) mNil))) (mSeq (mFor (mItR1 (mCons (mPrim (gOne gLen) (mCons (mVar 0) mNil)) mNil)) (gtN 6) l__law_chain_b2) (mRet (mComp [9] (mItL (mVar 5)) (gtN 9) mYes l__law_chain_e8_11))))
@[irreducible] def m__law_chain : List D → R D := mFn 5 10 b__law_chain
theorem mq__law_chain : m__law_chain = mFn 5 10 b__law_chain := by with_unfolding_all rfl
def b__law_plain : Env → R (Fl × Env) := (mRet (mAndV (mUn (gIsi [0, 1] [.int]) (mVar 0)) (mUn gNot (mUn (gIsi [0, 1] [.bool]) (mVar 0)))))
@[irreducible] def m__law_plain : List D → R D := mFn 1 1 b__law_plain
theorem mq__law_plain : m__law_plain = mFn 1 1 b__law_plain := by with_unfolding_all rfl
def b__law_frac : Env → R (Fl × Env) := (mSeq (mIfS (mOr (mNot (mVal (mUn (gIsi [0, 1] [(.own 0)]) (mVar 0)))) (mOr (mNot (mVal (mCall m__law_plain (mCons (mUn (gFld [(0, 0)]) (mVar 0)) mNil)))) (mNot (mVal (mCall m__law_plain (mCons (mUn (gFld [(0, 1)]) (mVar 0)) mNil)))))) (mRet (mCon (.bl false))) mSkip) (mSeq (mSet 3 (mCall m__law_cut (mCons (mVar 1) (mCons (mVar 2) mNil)))) (mRet (mAndV (mBin (gEq) (mUn (gFld [(0, 0)]) (mVar 0)) (mBin gIx (mVar 3) (mCon (.int 0)))) (mBin (gEq) (mUn (gFld [(0, 1)]) (mVar 0)) (mBin gIx (mVar 3) (mCon (.int 1))))))))
@[irreducible] def m__law_frac : List D → R D := mFn 3 4 b__law_frac
theorem mq__law_frac : m__law_frac = mFn 3 4 b__law_frac := by with_unfolding_all rfl
def b__law_like : Env → R (Fl × Env) := (mSeq (mIfS (mVal (mBin (gIs id) (mVar 1) (mCon .non))) (mRet (mBin (gIs id) (mVar 0) (mCon .non))) mSkip) (mSeq (mIfS (mVal (mUn (gIsi [0, 1] [.list]) (mVar 1))) (mRet (mCall m__law_frac (mCons (mVar 0) (mCons (mBin gIx (mVar 1) (mCon (.int 0))) (mCons (mBin gIx (mVar 1) (mCon (.int 1))) mNil))))) mSkip) (mSeq (mIfS (mVal (mUn (gIsi [0, 1] [.tuple]) (mVar 1))) (mSeq (fun _ => .bad) (fun _ => .bad)) mSkip) (mSeq (mIfS (mVal (mUn (gIsi [0, 1] [.bool]) (mVar 1))) (mRet (mAndV (mUn (gIsi [0, 1] [.bool]) (mVar 0)) (mBin (gEq) (mVar 0) (mVar 1)))) mSkip) (mSeq (mIfS (mVal (mUn (gIsi [0, 1] [.int]) (mVar 1))) (mRet (mAndV (mCall m__law_plain (mCons (mVar 0) mNil)) (mBin (gEq) (mVar 0) (mVar 1)))) mSkip) (mRet (mAndV (mUn (gIsi [0, 1] [.str]) (mVar 0)) (mBin (gEq) (mVar 0) (mVar 1)))))))))
@[irreducible] def m__law_like : List D → R D := mFn 2 2 b__law_like
theorem mq__law_like : m__law_like = mFn 2 2 b__law_like := by with_unfolding_all rfl
def l_checked_offers_b3 : Env → R (Fl × Env) := (mIfS (mNot (mVal (mUn (gIsi [0, 1] [(.own 1)]) (mVar 2)))) (fun _ => .bad) mSkip)
def b_checked_offers : Env → R (Fl × Env) := (mSeq (mIfS (mNot (mVal (mCall m_is_sequence (mCons (mVar 0) mNil)))) (fun _ => .bad) mSkip) (mSeq (mFor (mSeqD (enumD 0) (mVar 0)) (gtT 2 (gtCons (gtN 1) (gtCons (gtN 2) gtNil))) l_checked_offers_b3) (mRet (mPrim (gOne gTupOf) (mCons (mVar 0) mNil)))))
@[irreducible] def m_checked_offers : List D → R D := mFn 1 3 b_checked_offers
theorem mq_checked_offers : m_checked_offers = mFn 1 3 b_checked_offers := by with_unfolding_all rfl
def b_is_frac_or_integer : Env → R (Fl × Env) := (mRet (mOrV (mUn (gIsi [0, 1] [(.own 0)]) (mVar 0)) (mCall m_is_integer (mCons (mVar 0) mNil))))
@[irreducible] def m_is_frac_or_integer : List D → R D := mFn 1 1 b_is_frac_or_integer
theorem mq_is_frac_or_integer : m_is_frac_or_integer = mFn 1 1 b_is_frac_or_integer := by with_unfolding_all rfl
def l_told_row_e3_15 : Env → R (D × Env) := (mCall m_is_frac_or_integer (mCons (mVar 2) mNil))
def l_told_row_e5_17 : Env → R (D × Env) := (mCall m_as_frac (mCons (mVar 2) mNil))
def b_told_row : Env → R (Fl × Env) := (mSeq (mIfS (mOr (mNot (mVal (mCall m_is_sequence (mCons (mVar 0) mNil)))) (mVal (mBin (gNe) (mPrim (gOne gLen) (mCons (mVar 0) mNil)) (mVar 1)))) (mRet (mCon .non)) mSkip) (mSeq (mIfS (mNot (mVal (mPrim (gOne gAll) (mCons (mComp [2] (mSeqD id (mVar 0)) (gtN 2) mYes l_told_row_e3_15) mNil)))) (mRet (mCon .non)) mSkip) (mRet (mPrim (gOne gTupOf) (mCons (mComp [2] (mSeqD id (mVar 0)) (gtN 2) mYes l_told_row_e5_17) mNil)))))
@[irreducible] def m_told_row : List D → R D := mFn 2 3 b_told_row
theorem mq_told_row : m_told_row = mFn 2 3 b_told_row := by with_unfolding_all rfl
def b_Frac___add__ : Env → R (Fl × Env) := (mRet (mMake 0 (fun xs => m_Frac___init__ (xs ++ [])) (mCons (mBin (gI0 (· + ·)) (mBin (gII cMul (· * ·)) (mUn (gFld [(0, 0)]) (mVar 0)) (mUn (gFld [(0, 1)]) (mVar 1))) (mBin (gII cMul (· * ·)) (mUn (gFld [(0, 0)]) (mVar 1)) (mUn (gFld [(0, 1)]) (mVar 0)))) (mCons (mBin (gII cMul (· * ·)) (mUn (gFld [(0, 1)]) (mVar 0)) (mUn (gFld [(0, 1)]) (mVar 1))) mNil))))
@[irreducible] def m_Frac___add__ : List D → R D := mFn 2 2 b_Frac___add__
theorem mq_Frac___add__ : m_Frac___add__ = mFn 2 2 b_Frac___add__ := by with_unfolding_all rfl
def l_total_b2 : Env → R (Fl × Env) := (mSet 1 (mBinO 0 m_Frac___add__ (mVar 1) (mVar 2)))
def b_total : Env → R (Fl × Env) := (mSeq (mSet 1 (mMake 0 (fun xs => m_Frac___init__ (xs ++ [.int 1])) (mCons (mCon (.int 0)) mNil))) (mSeq (mFor (mItL (mVar 0)) (gtN 2) l_total_b2) (mRet (mVar 1))))
@[irreducible] def m_total : List D → R D := mFn 1 3 b_total
theorem mq_total : m_total = mFn 1 3 b_total := by with_unfolding_all rfl
def b_Frac___mul__ : Env → R (Fl × Env) := (mRet (mMake 0 (fun xs => m_Frac___init__ (xs ++ [])) (mCons (mBin (gII cMul (· * ·)) (mUn (gFld [(0, 0)]) (mVar 0)) (mUn (gFld [(0, 0)]) (mVar 1))) (mCons (mBin (gII cMul (· * ·)) (mUn (gFld [(0, 1)]) (mVar 0)) (mUn (gFld [(0, 1)]) (mVar 1))) mNil))))
@[irreducible] def m_Frac___mul__ : List D → R D := mFn 2 2 b_Frac___mul__
theorem mq_Frac___mul__ : m_Frac___mul__ = mFn 2 2 b_Frac___mul__ := by with_unfolding_all rfl
def b_Frac___sub__ : Env → R (Fl × Env) := (mRet (mMake 0 (fun xs => m_Frac___init__ (xs ++ [])) (mCons (mBin (gI0 (· - ·)) (mBin (gII cMul (· * ·)) (mUn (gFld [(0, 0)]) (mVar 0)) (mUn (gFld [(0, 1)]) (mVar 1))) (mBin (gII cMul (· * ·)) (mUn (gFld [(0, 0)]) (mVar 1)) (mUn (gFld [(0, 1)]) (mVar 0)))) (mCons (mBin (gII cMul (· * ·)) (mUn (gFld [(0, 1)]) (mVar 0)) (mUn (gFld [(0, 1)]) (mVar 1))) mNil))))
@[irreducible] def m_Frac___sub__ : List D → R D := mFn 2 2 b_Frac___sub__
theorem mq_Frac___sub__ : m_Frac___sub__ = mFn 2 2 b_Frac___sub__ := by with_unfolding_all rfl
def b_Offer_weight_sum : Env → R (Fl × Env) := (mRet (mPrim (gOne gSum) (mCons (mComp [1, 2] (mItT (mUn (gFld [(1, 0)]) (mVar 0))) (gtT 2 (gtCons (gtN 1) (gtCons (gtN 2) gtNil))) mYes (mVar 1)) mNil)))
@[irreducible] def m_Offer_weight_sum : List D → R D := mFn 1 3 b_Offer_weight_sum
theorem mq_Offer_weight_sum : m_Offer_weight_sum = mFn 1 3 b_Offer_weight_sum := by with_unfolding_all rfl
def l_Offer_shares_e2_21 : Env → R (D × Env) := (mPrim gTup (mCons (mMake 0 (fun xs => m_Frac___init__ (xs ++ [])) (mCons (mVar 2) (mCons (mVar 1) mNil))) (mCons (mVar 3) mNil)))
def b_Offer_shares : Env → R (Fl × Env) := (mSeq (mSet 1 (mMeth 1 (fun xs => m_Offer_weight_sum (xs ++ [])) (mVar 0) mNil)) (mRet (mPrim (gOne gTupOf) (mCons (mComp [2, 3] (mItT (mUn (gFld [(1, 0)]) (mVar 0))) (gtT 2 (gtCons (gtN 2) (gtCons (gtN 3) gtNil))) mYes l_Offer_shares_e2_21) mNil))))
@[irreducible] def m_Offer_shares : List D → R D := mFn 1 4 b_Offer_shares
theorem mq_Offer_shares : m_Offer_shares = mFn 1 4 b_Offer_shares := by with_unfolding_all rfl
def l_Offer_over_e2_21 : Env → R (D × Env) := (mBinO 0 m_Frac___mul__ (mVar 3) (mBinO 0 m_Frac___sub__ (mVar 4) (mVar 2)))
def l_Offer_over_i2_21 : Env → R (Bool × Env) := (mVal (mMeth 0 (fun xs => m_Frac_is_below (xs ++ [])) (mVar 2) (mCons (mVar 4) mNil)))
def b_Offer_over : Env → R (Fl × Env) := (mSeq (mSet 2 (mCall m_as_frac (mCons (mVar 1) mNil))) (mRet (mCall m_total (mCons (mComp [3, 4] (mItT (mMeth 1 (fun xs => m_Offer_shares (xs ++ [])) (mVar 0) mNil)) (gtT 2 (gtCons (gtN 3) (gtCons (gtN 4) gtNil))) l_Offer_over_i2_21 l_Offer_over_e2_21) mNil))))
@[irreducible] def m_Offer_over : List D → R D := mFn 2 5 b_Offer_over
theorem mq_Offer_over : m_Offer_over = mFn 2 5 b_Offer_over := by with_unfolding_all rfl
def b_worth_before : Env → R (Fl × Env) := (mRet (mBinO 0 m_Frac___add__ (mVar 1) (mMeth 1 (fun xs => m_Offer_over (xs ++ [])) (mVar 0) (mCons (mVar 1) mNil))))
@[irreducible] def m_worth_before : List D → R D := mFn 2 2 b_worth_before
theorem mq_worth_before : m_worth_before = mFn 2 2 b_worth_before := by with_unfolding_all rfl
def l_heights_hold_b5 : Env → R (Fl × Env) := (mIfS (mVal (mMeth 0 (fun xs => m_Frac_is_below (xs ++ [])) (mBin gIx (mVar 3) (mVar 4)) (mCons (mCall m_worth_before (mCons (mVar 5) (mCons (mBin gIx (mVar 3) (mBin (gI0 (· + ·)) (mVar 4) (mCon (.int 1)))) mNil))) mNil))) (mRet (mCon (.bl false))) mSkip)
def b_heights_hold : Env → R (Fl × Env) := (mSeq (mSet 2 (mCall m_checked_offers (mCons (mVar 0) mNil))) (mSeq (mSet 3 (mCall m_told_row (mCons (mVar 1) (mCons (mBin (gI0 (· + ·)) (mPrim (gOne gLen) (mCons (mVar 2) mNil)) (mCon (.int 1))) mNil)))) (mSeq (mIfS (mOr (mVal (mBin (gIs id) (mVar 3) (mCon .non))) (mVal (mBin (gNe) (mUn (gFld [(0, 0)]) (mBin gIx (mVar 3) (mUn (gU fun i => -i) (mCon (.int 1))))) (mCon (.int 0))))) (mRet (mCon (.bl false))) mSkip) (mSeq (mFor (mSeqD (enumD 0) (mVar 2)) (gtT 2 (gtCons (gtN 4) (gtCons (gtN 5) gtNil))) l_heights_hold_b5) (mRet (mCon (.bl true)))))))
@[irreducible] def m_heights_hold : List D → R D := mFn 2 6 b_heights_hold
theorem mq_heights_hold : m_heights_hold = mFn 2 6 b_heights_hold := by with_unfolding_all rfl
def l__law_given_row_e1_12 : Env → R (D × Env) := (mCall m__law_given (mCons (mVar 3) (mCons (mVar 1) mNil)))
def b__law_given_row : Env → R (Fl × Env) := (mSeq (mSet 2 (mComp [3] (mItL (mVar 0)) (gtN 3) mYes l__law_given_row_e1_12)) (mSeq (mIfS (mVal (mBin (gEq) (mVar 1) (mCon (.int 0)))) (mRet (mPrim (gOne gTupOf) (mCons (mVar 2) mNil))) mSkip) (mRet (mVar 2))))
@[irreducible] def m__law_given_row : List D → R D := mFn 2 4 b__law_given_row
theorem mq__law_given_row : m__law_given_row = mFn 2 4 b__law_given_row := by with_unfolding_all rfl
def l__law_kinds_b3 : Env → R (Fl × Env) := (mApp 3 (mBin gCat (mBin gCat (mPrim (gOne gListOf) (mCons (mSl (mVar 1) mNoP (mPart (mVar 2))) mNil)) (mPrim gLst (mCons (mVar 4) mNil))) (mPrim (gOne gListOf) (mCons (mSl (mVar 1) (mPart (mBin (gI0 (· + ·)) (mVar 2) (mCon (.int 1)))) mNoP) mNil))))
def b__law_kinds : Env → R (Fl × Env) := (mSeq (mSet 2 (mCallB 0 m__law_pick (mCons (mPrim (gOne gLen) (mCons (mVar 1) mNil)) mNil))) (mSeq (mSet 3 (mPrim gLst mNil)) (mSeq (mFor (mItT (mPrim gTup (mCons (mCon .non) (mCons (mCon (.str "0")) (mCons (mPrim gTup (mCons (mCon (.int 0)) (mCons (mCon (.int 1)) mNil))) (mCons (mPrim gLst (mCons (mCon (.int 0)) mNil)) (mCons (mCon (.bl true)) (mCons (mCon (.bl false)) mNil)))))))) (gtN 4) l__law_kinds_b3) (mSeq (mApp 3 (mBin gCat (mPrim (gOne gListOf) (mCons (mSl (mVar 1) mNoP (mPart (mUn (gU fun i => -i) (mCon (.int 1))))) mNil)) (mPrim gLst (mCons (mCon (.bl false)) mNil)))) (mSeq (mApp 3 (mBin gCat (mBin gCat (mPrim gLst (mCons (mBin (gI0 (· + ·)) (mBin (gII cPow fun i j => i ^ j.toNat) (mCon (.int 10)) (mCon (.int 6))) (mCon (.int 1))) mNil)) (mPrim (gOne gListOf) (mCons (mSl (mVar 1) (mPart (mCon (.int 1))) (mPart (mUn (gU fun i => -i) (mCon (.int 1))))) mNil))) (mPrim gLst (mCons (mCon (.str "0")) mNil)))) (mSeq (mApp 3 (mBin gCatT (mPrim (gOne gTupOf) (mCons (mVar 1) mNil)) (mPrim gTup (mCons (mCon (.int 0)) mNil)))) (mSeq (mApp 3 (mBin gCat (mPrim gLst (mCons (mBin gIx (mVar 1) (mCon (.int 0))) mNil)) (mPrim (gOne gListOf) (mCons (mVar 1) mNil)))) (mSeq (mApp 3 (mSl (mVar 1) (mPart (mCon (.int 1))) mNoP)) (mSeq (mApp 3 (mPrim (gOne gListOf) (mCons (mSl (mVar 1) mNoP (mPart (mUn (gU fun i => -i) (mCon (.int 1))))) mNil))) (mSeq (mSet 3 (mBinN 3 gCat (mPrim gLst (mCons (mCon .non) (mCons (mCon (.int 0)) (mCons (mCon (.str "")) (mCons (mPrim gTup mNil) (mCons (mPrim gLst mNil) (mCons (mMake 0 (fun xs => m_Frac___init__ (xs ++ [.int 1])) (mCons (mCon (.int 0)) mNil)) (mCons (mBin gCat (mPrim (gOne gListOf) (mCons (mVar 1) mNil)) (mPrim gLst (mCons (mCon .non) mNil))) mNil)))))))))) (mRet (mBinN 3 gIx (mCallB 0 m__law_pick (mCons (mUnN 3 gLen) mNil))))))))))))))
@[irreducible] def m__law_kinds : List D → R (D × D) := mFnB 2 5 b__law_kinds
theorem mq__law_kinds : m__law_kinds = mFnB 2 5 b__law_kinds := by with_unfolding_all rfl
def l__law_stops_e4_18 : Env → R (D × Env) := (mBin (gII cMul (· * ·)) (mBin gIx (mVar 5) (mCon (.int 0))) (mCall m__law_more (mCons (mBin (gII cMul (· * ·)) (mBin gIx (mVar 5) (mCon (.int 1))) (mBin gIx (mVar 3) (mCon (.int 1)))) (mCons (mBin gIx (mVar 3) (mCon (.int 0))) mNil))))
def l__law_stops_b2 : Env → R (Fl × Env) := (mSeq (mSet 3 (mBinN 1 gIx (mCon (.int 0)))) (mSeq (mSet 4 (mPrim (gOne gSum) (mCons (mComp [5] (mItL (mVar 2)) (gtN 5) mYes l__law_stops_e4_18) mNil))) (mInsr 1 (mCon (.int 0)) (mPrim gTup (mCons (mVar 4) (mCons (mBin (gII cMul (· * ·)) (mCall m__law_whole (mCons (mVar 2) mNil)) (mBin gIx (mVar 3) (mCon (.int 1)))) mNil))))))
def b__law_stops : Env → R (Fl × Env) := (mSeq (mSet 1 (mPrim gLst (mCons (mPrim gTup (mCons (mCon (.int 0)) (mCons (mCon (.int 1)) mNil))) mNil))) (mSeq (mFor (mSeqD List.reverse (mVar 0)) (gtN 2) l__law_stops_b2) (mRet (mVar 1))))
@[irreducible] def m__law_stops : List D → R D := mFn 1 6 b__law_stops
theorem mq__law_stops : m__law_stops = mFn 1 6 b__law_stops := by with_unfolding_all rfl
def l_worths_from_b2 : Env → R (Fl × Env) := (mApp 1 (mCall m_worth_before (mCons (mVar 2) (mCons (mBinN 1 gIx (mUn (gU fun i => -i) (mCon (.int 1)))) mNil))))
def b_worths_from : Env → R (Fl × Env) := (mSeq (mSet 1 (mPrim gLst (mCons (mMake 0 (fun xs => m_Frac___init__ (xs ++ [.int 1])) (mCons (mCon (.int 0)) mNil)) mNil))) (mSeq (mFor (mSeqD List.reverse (mVar 0)) (gtN 2) l_worths_from_b2) (mRet (mUn gTupRev (mVar 1)))))
@[irreducible] def m_worths_from : List D → R D := mFn 1 3 b_worths_from
theorem mq_worths_from : m_worths_from = mFn 1 3 b_worths_from := by with_unfolding_all rfl
def b_stop_worth : Env → R (Fl × Env) := (mRet (mBin gIx (mCall m_worths_from (mCons (mCall m_checked_offers (mCons (mVar 0) mNil)) mNil)) (mCon (.int 0))))
@[irreducible] def m_stop_worth : List D → R D := mFn 1 1 b_stop_worth
theorem mq_stop_worth : m_stop_worth = mFn 1 1 b_stop_worth := by with_unfolding_all rfl
def l__law_asked_e6_11 : Env → R (D × Env) := (mCall m__law_row (mCons (mVar 19) (mCons (mVar 5) mNil)))
def l__law_asked_e7_13 : Env → R (D × Env) := (mMake 1 (fun xs => m_Offer___init__ (xs ++ [])) (mCons (mCall m__law_prizes (mCons (mVar 19) (mCons (mVar 4) mNil))) mNil))
def l__law_asked_b9 : Env → R (Fl × Env) := (mSeq (mSet 10 (mPrim gTup (mCons (mCon (.int 0)) (mCons (mCon (.int 1)) mNil)))) (mSeq (mIfS (mVal (mBin (gEq) (mCallB 1 m__law_pick (mCons (mCon (.int 2)) mNil)) (mCon (.int 0)))) (mSet 10 (mPrim gTup (mCons (mBin (gII cMul (· * ·)) (mCallB 1 m__law_pick (mCons (mCon (.int 9)) mNil)) (mVar 5)) (mCons (mBin (gI0 (· + ·)) (mCon (.int 1)) (mCallB 1 m__law_pick (mCons (mCon (.int 4)) mNil))) mNil)))) mSkip) (mApp 8 (mVar 10))))
def l__law_asked_e19_29 : Env → R (D × Env) := (mPrim gTup (mCons (mCon (.int 0)) (mCons (mCon (.int 1)) mNil)))
def l__law_asked_b22 : Env → R (Fl × Env) := (mSeq (mSet 16 (mCall m__law_chain (mCons (mVar 6) (mCons (mVar 8) (mCons (mPrim gTup (mCons (mCon (.int 0)) (mCons (mCon (.int 1)) mNil))) (mCons (mPrim gTup (mCons (mVar 15) (mCons (mVar 12) mNil))) (mCons (mVar 5) mNil))))))) (mIfS (mNot (mVal (mCall m__law_like (mCons (mCall m_heights_hold (mCons (mVar 7) (mCons (mCall m__law_given_row (mCons (mVar 16) (mCons (mCallB 1 m__law_pick (mCons (mCon (.int 2)) mNil)) mNil))) mNil))) (mCons (mCon (.bl false)) mNil))))) (mRet (mCon (.bl false))) mSkip))
def l__law_asked_b32 : Env → R (Fl × Env) := (mIfS (mNot (mVal (mCall m__law_like (mCons (mCall m_heights_hold (mCons (mVar 7) (mCons (mCallB 1 m__law_kinds (mCons (mCall m__law_given_row (mCons (mVar 13) (mCons (mVar 4) mNil))) mNil)) mNil))) (mCons (mCon (.bl false)) mNil))))) (mRet (mCon (.bl false))) mSkip)
def b__law_asked : Env → R (Fl × Env) := (mSeq (mSet 1 (mPrim gLst (mCons (mPrim (gOne gListOf) (mCons (mVar 0) mNil)) (mCons (mCon (.int 0)) (mCons (mCon (.int 0)) (mCons (mCon (.int 0)) mNil)))))) (mSeq (mSet 2 (mBin (gI0 (· + ·)) (mCon (.int 1)) (mCallB 1 m__law_pick (mCons (mCon (.int 5)) mNil)))) (mSeq (mSet 3 (mCallB 1 m__law_offers (mCons (mVar 2) (mCons (mCon (.int 3)) mNil)))) (mSeq (mSet 4 (mCallB 1 m__law_pick (mCons (mCon (.int 2)) mNil))) (mSeq (mSet 5 (mCall m__law_unit (mCons (mVar 3) mNil))) (mSeq (mSet 6 (mComp [19] (mItL (mVar 3)) (gtN 19) mYes l__law_asked_e6_11)) (mSeq (mSet 7 (mComp [19] (mItL (mVar 3)) (gtN 19) mYes l__law_asked_e7_13)) (mSeq (mSet 8 (mPrim gLst mNil)) (mSeq (mFor (mItR1 (mCons (mVar 2) mNil)) (gtN 9) l__law_asked_b9) (mSeq (mSet 11 (mPrim gTup (mCons (mVar 2) (mCons (mPrim gTup (mCons (mCon (.int 0)) (mCons (mCon (.int 1)) mNil))) mNil)))) (mSeq (mSet 12 (mPrim gTup (mCons (mUn (gU fun i => -i) (mCon (.int 1))) (mCons (mBin (gI0 (· + ·)) (mCon (.int 1)) (mCallB 1 m__law_pick (mCons (mCon (.int 200)) mNil))) mNil)))) (mSeq (mSet 13 (mCall m__law_chain (mCons (mVar 6) (mCons (mVar 8) (mCons (mPrim gTup (mCons (mCon (.int 0)) (mCons (mCon (.int 1)) mNil))) (mCons (mVar 11) (mCons (mVar 5) mNil))))))) (mSeq (mIfS (mNot (mVal (mCall m__law_like (mCons (mCall m_heights_hold (mCons (mVar 7) (mCons (mCall m__law_given_row (mCons (mVar 13) (mCons (mVar 4) mNil))) mNil))) (mCons (mCon (.bl true)) mNil))))) (mRet (mCon (.bl false))) mSkip) (mSeq (mSet 14 (mCall m__law_chain (mCons (mVar 6) (mCons (mComp [20] (mItL (mVar 6)) (gtN 20) mYes l__law_asked_e19_29) (mCons (mPrim gTup (mCons (mCon (.int 0)) (mCons (mCon (.int 1)) mNil))) (mCons (mVar 11) (mCons (mVar 5) mNil))))))) (mSeq (mIfS (mNot (mVal (mCall m__law_like (mCons (mCall m_heights_hold (mCons (mPrim (gOne gTupOf) (mCons (mVar 7) mNil)) (mCons (mCall m__law_given_row (mCons (mVar 14) (mCons (mBin (gI0 (· - ·)) (mCon (.int 1)) (mVar 4)) mNil))) mNil))) (mCons (mCon (.bl true)) mNil))))) (mRet (mCon (.bl false))) mSkip) (mSeq (mFor (mItR1 (mCons (mVar 2) mNil)) (gtN 15) l__law_asked_b22) (mSeq (mSet 16 (mCall m__law_chain (mCons (mVar 6) (mCons (mVar 8) (mCons (mPrim gTup (mCons (mCon (.int 1)) (mCons (mBin (gI0 (· + ·)) (mCon (.int 1)) (mCallB 1 m__law_pick (mCons (mCon (.int 99)) mNil))) mNil))) (mCons (mVar 11) (mCons (mVar 5) mNil))))))) (mSeq (mIfS (mNot (mVal (mCall m__law_like (mCons (mCall m_heights_hold (mCons (mVar 7) (mCons (mCall m__law_given_row (mCons (mVar 16) (mCons (mVar 4) mNil))) mNil))) (mCons (mCon (.bl false)) mNil))))) (mRet (mCon (.bl false))) mSkip) (mSeq (mSet 16 (mCall m__law_chain (mCons (mVar 6) (mCons (mVar 8) (mCons (mVar 12) (mCons (mVar 11) (mCons (mVar 5) mNil))))))) (mSeq (mIfS (mNot (mVal (mCall m__law_like (mCons (mCallK m_heights_hold 2 [1, 0] (mCons (mCall m__law_given_row (mCons (mVar 16) (mCons (mVar 4) mNil))) (mCons (mVar 7) mNil))) (mCons (mCon (.bl false)) mNil))))) (mRet (mCon (.bl false))) mSkip) (mSeq (mFor (mItR1 (mCons (mCon (.int 2)) mNil)) (gtN 17) l__law_asked_b32) (mSeq (mSet 18 (mBin gIx (mCall m__law_stops (mCons (mVar 6) mNil)) (mCon (.int 0)))) (mSeq (mIfS (mNot (mVal (mCall m__law_like (mCons (mCall m_stop_worth (mCons (mVar 7) mNil)) (mCons (mPrim gLst (mCons (mBin gIx (mVar 18) (mCon (.int 0))) (mCons (mBin (gII cMul (· * ·)) (mBin gIx (mVar 18) (mCon (.int 1))) (mVar 5)) mNil))) mNil))))) (mRet (mCon (.bl false))) mSkip) (mRet (mCall m__law_like (mCons (mCall m_heights_hold (mCons (mVar 7) (mCons (mCall m__law_given_row (mCons (mVar 13) (mCons (mBin (gI0 (· - ·)) (mCon (.int 1)) (mVar 4)) mNil))) mNil))) (mCons (mCon (.bl true)) mNil)))))))))))))))))))))))))))
@[irreducible] def m__law_asked : List D → R D := mFn 1 21 b__law_asked
theorem mq__law_asked : m__law_asked = mFn 1 21 b__law_asked := by with_unfolding_all rfl
def b_law : Env → R (Fl × Env) := (mTry (mRet (mCall m__law_asked (mCons (mVar 0) mNil))))
@[irreducible] def m_law : List D → R D := mFn 1 1 b_law
theorem mq_law : m_law = mFn 1 1 b_law := by with_unfolding_all rfl
structure Txt (K : PySem.W.Frag) (mg : Str → Option Value) (a : Ad) : Prop where
  fn__law_pick : FunD K "_law_pick" "_law_pick" (defArgs s__law_pick) (defBody s__law_pick) (defScope s__law_pick) [] [] a.f__law_pick a.d__law_pick
  g__law_pick : Gf K mg "_law_pick" a.f__law_pick a.d__law_pick ["feed", "many"]
  fn__law_cut : FunD K "_law_cut" "_law_cut" (defArgs s__law_cut) (defBody s__law_cut) (defScope s__law_cut) [] [] a.f__law_cut a.d__law_cut
  g__law_cut : Gf K mg "_law_cut" a.f__law_cut a.d__law_cut ["num", "den"]
  fn__law_worth : FunD K "_law_worth" "_law_worth" (defArgs s__law_worth) (defBody s__law_worth) (defScope s__law_worth) [] [] a.f__law_worth a.d__law_worth
  g__law_worth : Gf K mg "_law_worth" a.f__law_worth a.d__law_worth ["feed"]
  fn__law_offer : FunD K "_law_offer" "_law_offer" (defArgs s__law_offer) (defBody s__law_offer) (defScope s__law_offer) [] [] a.f__law_offer a.d__law_offer
  g__law_offer : Gf K mg "_law_offer" a.f__law_offer a.d__law_offer ["feed", "most"]
  fn__law_offers : FunD K "_law_offers" "_law_offers" (defArgs s__law_offers) (defBody s__law_offers) (defScope s__law_offers) [] [] a.f__law_offers a.d__law_offers
  g__law_offers : Gf K mg "_law_offers" a.f__law_offers a.d__law_offers ["feed", "many", "most"]
  fn__law_unit : FunD K "_law_unit" "_law_unit" (defArgs s__law_unit) (defBody s__law_unit) (defScope s__law_unit) [] [] a.f__law_unit a.d__law_unit
  g__law_unit : Gf K mg "_law_unit" a.f__law_unit a.d__law_unit ["offers"]
  fn__law_row : FunD K "_law_row" "_law_row" (defArgs s__law_row) (defBody s__law_row) (defScope s__law_row) [] [] a.f__law_row a.d__law_row
  g__law_row : Gf K mg "_law_row" a.f__law_row a.d__law_row ["prizes", "unit"]
  fn_is_sequence : FunD K "is_sequence" "is_sequence" (defArgs s_is_sequence) (defBody s_is_sequence) (defScope s_is_sequence) [] [] a.f_is_sequence a.d_is_sequence
  g_is_sequence : Gf K mg "is_sequence" a.f_is_sequence a.d_is_sequence ["value"]
  fn_is_integer : FunD K "is_integer" "is_integer" (defArgs s_is_integer) (defBody s_is_integer) (defScope s_is_integer) [] [] a.f_is_integer a.d_is_integer
  g_is_integer : Gf K mg "is_integer" a.f_is_integer a.d_is_integer ["value"]
  fn_is_between : FunD K "is_between" "is_between" (defArgs s_is_between) (defBody s_is_between) (defScope s_is_between) [] [] a.f_is_between a.d_is_between
  g_is_between : Gf K mg "is_between" a.f_is_between a.d_is_between ["value", "least", "most"]
  fn_Frac___init__ : FunD K "__init__" "Frac.__init__" (defArgs s_Frac___init__) (defBody s_Frac___init__) (defScope s_Frac___init__) [.int 1] [] a.f_Frac___init__ a.d_Frac___init__
  gd_Frac___init___0 : Gd K a.d_Frac___init__ ["self", "num", "den"] []
  gd_Frac___init___1 : Gd K a.d_Frac___init__ ["self", "num", "den"] [.int 1]
  fn_as_frac : FunD K "as_frac" "as_frac" (defArgs s_as_frac) (defBody s_as_frac) (defScope s_as_frac) [] [] a.f_as_frac a.d_as_frac
  g_as_frac : Gf K mg "as_frac" a.f_as_frac a.d_as_frac ["value"]
  fn_is_amount : FunD K "is_amount" "is_amount" (defArgs s_is_amount) (defBody s_is_amount) (defScope s_is_amount) [] [] a.f_is_amount a.d_is_amount
  g_is_amount : Gf K mg "is_amount" a.f_is_amount a.d_is_amount ["value"]
  fn_is_prize : FunD K "is_prize" "is_prize" (defArgs s_is_prize) (defBody s_is_prize) (defScope s_is_prize) [] [] a.f_is_prize a.d_is_prize
  g_is_prize : Gf K mg "is_prize" a.f_is_prize a.d_is_prize ["value"]
  fn_Frac_is_below : FunD K "is_below" "Frac.is_below" (defArgs s_Frac_is_below) (defBody s_Frac_is_below) (defScope s_Frac_is_below) [] [] a.f_Frac_is_below a.d_Frac_is_below
  me_Frac_is_below : Meth K a.c_Frac "is_below" a.f_Frac_is_below
  b_Frac_is_below : Binds K a.d_Frac_is_below ["self", "other"] []
  fn_kept_prizes : FunD K "kept_prizes" "kept_prizes" (defArgs s_kept_prizes) (defBody s_kept_prizes) (defScope s_kept_prizes) [] [] a.f_kept_prizes a.d_kept_prizes
  g_kept_prizes : Gf K mg "kept_prizes" a.f_kept_prizes a.d_kept_prizes ["prizes"]
  fn_Offer___init__ : FunD K "__init__" "Offer.__init__" (defArgs s_Offer___init__) (defBody s_Offer___init__) (defScope s_Offer___init__) [] [] a.f_Offer___init__ a.d_Offer___init__
  gd_Offer___init___0 : Gd K a.d_Offer___init__ ["self", "prizes"] []
  fn__law_given : FunD K "_law_given" "_law_given" (defArgs s__law_given) (defBody s__law_given) (defScope s__law_given) [] [] a.f__law_given a.d__law_given
  g__law_given : Gf K mg "_law_given" a.f__law_given a.d__law_given ["pair", "plain"]
  fn__law_prizes : FunD K "_law_prizes" "_law_prizes" (defArgs s__law_prizes) (defBody s__law_prizes) (defScope s__law_prizes) [] [] a.f__law_prizes a.d__law_prizes
  g__law_prizes : Gf K mg "_law_prizes" a.f__law_prizes a.d__law_prizes ["prizes", "form"]
  fn__law_plus : FunD K "_law_plus" "_law_plus" (defArgs s__law_plus) (defBody s__law_plus) (defScope s__law_plus) [] [] a.f__law_plus a.d__law_plus
  g__law_plus : Gf K mg "_law_plus" a.f__law_plus a.d__law_plus ["one", "two"]
  fn__law_more : FunD K "_law_more" "_law_more" (defArgs s__law_more) (defBody s__law_more) (defScope s__law_more) [] [] a.f__law_more a.d__law_more
  g__law_more : Gf K mg "_law_more" a.f__law_more a.d__law_more ["one", "two"]
  fn__law_whole : FunD K "_law_whole" "_law_whole" (defArgs s__law_whole) (defBody s__law_whole) (defScope s__law_whole) [] [] a.f__law_whole a.d__law_whole
  g__law_whole : Gf K mg "_law_whole" a.f__law_whole a.d__law_whole ["row"]
  fn__law_need : FunD K "_law_need" "_law_need" (defArgs s__law_need) (defBody s__law_need) (defScope s__law_need) [] [] a.f__law_need a.d__law_need
  g__law_need : Gf K mg "_law_need" a.f__law_need a.d__law_need ["row", "later"]
  fn__law_chain : FunD K "_law_chain" "_law_chain" (defArgs s__law_chain) (defBody s__law_chain) (defScope s__law_chain) [] [] a.f__law_chain a.d__law_chain
  g__law_chain : Gf K mg "_law_chain" a.f__law_chain a.d__law_chain ["rows", "slacks", "last", "low", "unit"]
  fn__law_plain : FunD K "_law_plain" "_law_plain" (defArgs s__law_plain) (defBody s__law_plain) (defScope s__law_plain) [] [] a.f__law_plain a.d__law_plain
  g__law_plain : Gf K mg "_law_plain" a.f__law_plain a.d__law_plain ["found"]
  fn__law_frac : FunD K "_law_frac" "_law_frac" (defArgs s__law_frac) (defBody s__law_frac) (defScope s__law_frac) [] [] a.f__law_frac a.d__law_frac
  g__law_frac : Gf K mg "_law_frac" a.f__law_frac a.d__law_frac ["found", "num", "den"]
  fn__law_like : FunD K "_law_like" "_law_like" (defArgs s__law_like) (defBody s__law_like) (defScope s__law_like) [] [] a.f__law_like a.d__law_like
  g__law_like : Gf K mg "_law_like" a.f__law_like a.d__law_like ["found", "due"]
  fn_checked_offers : FunD K "checked_offers" "checked_offers" (defArgs s_checked_offers) (defBody s_checked_offers) (defScope s_checked_offers) [] [] a.f_checked_offers a.d_checked_offers
  g_checked_offers : Gf K mg "checked_offers" a.f_checked_offers a.d_checked_offers ["offers"]
  fn_is_frac_or_integer : FunD K "is_frac_or_integer" "is_frac_or_integer" (defArgs s_is_frac_or_integer) (defBody s_is_frac_or_integer) (defScope s_is_frac_or_integer) [] [] a.f_is_frac_or_integer a.d_is_frac_or_integer
  g_is_frac_or_integer : Gf K mg "is_frac_or_integer" a.f_is_frac_or_integer a.d_is_frac_or_integer ["value"]
  fn_told_row : FunD K "told_row" "told_row" (defArgs s_told_row) (defBody s_told_row) (defScope s_told_row) [] [] a.f_told_row a.d_told_row
  g_told_row : Gf K mg "told_row" a.f_told_row a.d_told_row ["value", "many"]
  fn_Frac___add__ : FunD K "__add__" "Frac.__add__" (defArgs s_Frac___add__) (defBody s_Frac___add__) (defScope s_Frac___add__) [] [] a.f_Frac___add__ a.d_Frac___add__
  op_Frac___add__ : OpM K a.c_Frac "__add__" a.f_Frac___add__ a.d_Frac___add__ ["self", "other"]
  fn_total : FunD K "total" "total" (defArgs s_total) (defBody s_total) (defScope s_total) [] [] a.f_total a.d_total
  g_total : Gf K mg "total" a.f_total a.d_total ["fracs"]
  fn_Frac___mul__ : FunD K "__mul__" "Frac.__mul__" (defArgs s_Frac___mul__) (defBody s_Frac___mul__) (defScope s_Frac___mul__) [] [] a.f_Frac___mul__ a.d_Frac___mul__
  op_Frac___mul__ : OpM K a.c_Frac "__mul__" a.f_Frac___mul__ a.d_Frac___mul__ ["self", "other"]
  fn_Frac___sub__ : FunD K "__sub__" "Frac.__sub__" (defArgs s_Frac___sub__) (defBody s_Frac___sub__) (defScope s_Frac___sub__) [] [] a.f_Frac___sub__ a.d_Frac___sub__
  op_Frac___sub__ : OpM K a.c_Frac "__sub__" a.f_Frac___sub__ a.d_Frac___sub__ ["self", "other"]
  fn_Offer_weight_sum : FunD K "weight_sum" "Offer.weight_sum" (defArgs s_Offer_weight_sum) (defBody s_Offer_weight_sum) (defScope s_Offer_weight_sum) [] [] a.f_Offer_weight_sum a.d_Offer_weight_sum
  me_Offer_weight_sum : Meth K a.c_Offer "weight_sum" a.f_Offer_weight_sum
  b_Offer_weight_sum : Binds K a.d_Offer_weight_sum ["self"] []
  fn_Offer_shares : FunD K "shares" "Offer.shares" (defArgs s_Offer_shares) (defBody s_Offer_shares) (defScope s_Offer_shares) [] [] a.f_Offer_shares a.d_Offer_shares
  me_Offer_shares : Meth K a.c_Offer "shares" a.f_Offer_shares
  b_Offer_shares : Binds K a.d_Offer_shares ["self"] []
  fn_Offer_over : FunD K "over" "Offer.over" (defArgs s_Offer_over) (defBody s_Offer_over) (defScope s_Offer_over) [] [] a.f_Offer_over a.d_Offer_over
  me_Offer_over : Meth K a.c_Offer "over" a.f_Offer_over
  b_Offer_over : Binds K a.d_Offer_over ["self", "price"] []
  fn_worth_before : FunD K "worth_before" "worth_before" (defArgs s_worth_before) (defBody s_worth_before) (defScope s_worth_before) [] [] a.f_worth_before a.d_worth_before
  g_worth_before : Gf K mg "worth_before" a.f_worth_before a.d_worth_before ["offer", "rest"]
  fn_heights_hold : FunD K "heights_hold" "heights_hold" (defArgs s_heights_hold) (defBody s_heights_hold) (defScope s_heights_hold) [] [] a.f_heights_hold a.d_heights_hold
  g_heights_hold : Gf K mg "heights_hold" a.f_heights_hold a.d_heights_hold ["offers", "heights"]
  fn__law_given_row : FunD K "_law_given_row" "_law_given_row" (defArgs s__law_given_row) (defBody s__law_given_row) (defScope s__law_given_row) [] [] a.f__law_given_row a.d__law_given_row
  g__law_given_row : Gf K mg "_law_given_row" a.f__law_given_row a.d__law_given_row ["heights", "form"]
  fn__law_kinds : FunD K "_law_kinds" "_law_kinds" (defArgs s__law_kinds) (defBody s__law_kinds) (defScope s__law_kinds) [] [] a.f__law_kinds a.d__law_kinds
  g__law_kinds : Gf K mg "_law_kinds" a.f__law_kinds a.d__law_kinds ["feed", "right"]
  fn__law_stops : FunD K "_law_stops" "_law_stops" (defArgs s__law_stops) (defBody s__law_stops) (defScope s__law_stops) [] [] a.f__law_stops a.d__law_stops
  g__law_stops : Gf K mg "_law_stops" a.f__law_stops a.d__law_stops ["rows"]
  fn_worths_from : FunD K "worths_from" "worths_from" (defArgs s_worths_from) (defBody s_worths_from) (defScope s_worths_from) [] [] a.f_worths_from a.d_worths_from
  g_worths_from : Gf K mg "worths_from" a.f_worths_from a.d_worths_from ["line"]
  fn_stop_worth : FunD K "stop_worth" "stop_worth" (defArgs s_stop_worth) (defBody s_stop_worth) (defScope s_stop_worth) [] [] a.f_stop_worth a.d_stop_worth
  g_stop_worth : Gf K mg "stop_worth" a.f_stop_worth a.d_stop_worth ["offers"]
  fn__law_asked : FunD K "_law_asked" "_law_asked" (defArgs s__law_asked) (defBody s__law_asked) (defScope s__law_asked) [] [] a.f__law_asked a.d__law_asked
  g__law_asked : Gf K mg "_law_asked" a.f__law_asked a.d__law_asked ["script"]
  fn_law : FunD K "law" "law" (defArgs s_law) (defBody s_law) (defScope s_law) [] [] a.f_law a.d_law
  kw_heights_hold_heights_offers : KBn K a.d_heights_hold ["offers", "heights"] 0 ["heights", "offers"] (fun us ws => us ++ permL [1, 0] ws) (fun us ws => us ++ permL [1, 0] ws)
  gc_Frac : Gc K mg "Frac" a.c_Frac a.f_Frac___init__
  cl_Frac : Cls K a.c_Frac
  na_Frac_num : NoAttr K a.c_Frac "num"
  na_Frac_den : NoAttr K a.c_Frac "den"
  gc_Offer : Gc K mg "Offer" a.c_Offer a.f_Offer___init__
  cl_Offer : Cls K a.c_Offer
  na_Offer_prizes : NoAttr K a.c_Offer "prizes"
  fo_num : FldOk K (tab a) "num" [(0, 0)]
  fo_den : FldOk K (tab a) "den" [(0, 1)]
  fo_prizes : FldOk K (tab a) "prizes" [(1, 0)]
  ty : TyOk K (tab a) [0, 1]
  n_abs : mg "abs" = none
  n_all : mg "all" = none
  n_bool : mg "bool" = none
  n_enumerate : mg "enumerate" = none
  n_int : mg "int" = none
  n_isinstance : mg "isinstance" = none
  n_len : mg "len" = none
  n_list : mg "list" = none
  n_range : mg "range" = none
  n_reversed : mg "reversed" = none
  n_str : mg "str" = none
  n_sum : mg "sum" = none
  n_tuple : mg "tuple" = none
  m_gcd : mg "gcd" = some (.builtin "math.gcd")
  k_MOST_OVER : ∃ u, mg "MOST_OVER" = some u ∧ RelV (V.int 9999) u
  k_MOST_UNDER : ∃ u, mg "MOST_UNDER" = some u ∧ RelV (V.int 99) u
  k_MOST_WEIGHT : ∃ u, mg "MOST_WEIGHT" = some u ∧ RelV (V.int 999) u
  k_MOST_PRIZES : ∃ u, mg "MOST_PRIZES" = some u ∧ RelV (V.int 6) u
section
variable {P : Program} {w : World} {K : PySem.W.Frag} {mg : Str → Option Value} {base : Heap} {a : Ad}
theorem fl_nd_0 : ((tab a).fl 0).Nodup := by show List.Nodup (["num", "den"] : List Str); decide +kernel
theorem fl_sm_0 : ((tab a).fl 0).length < 1000 := by show List.length (["num", "den"] : List Str) < 1000; decide
theorem fl_nd_1 : ((tab a).fl 1).Nodup := by show List.Nodup (["prizes"] : List Str); decide +kernel
theorem fl_sm_1 : ((tab a).fl 1).length < 1000 := by show List.length (["prizes"] : List Str) < 1000; decide
theorem no_0_is_below : ("is_below" : Str) ∉ (tab a).fl 0 := by show ("is_below" : Str) ∉ (["num", "den"] : List Str); decide +kernel
theorem no_1_weight_sum : ("weight_sum" : Str) ∉ (tab a).fl 1 := by show ("weight_sum" : Str) ∉ (["prizes"] : List Str); decide +kernel
theorem no_1_shares : ("shares" : Str) ∉ (tab a).fl 1 := by show ("shares" : Str) ∉ (["prizes"] : List Str); decide +kernel
theorem no_1_over : ("over" : Str) ∉ (tab a).fl 1 := by show ("over" : Str) ∉ (["prizes"] : List Str); decide +kernel
theorem ok__law_pick (U : Txt K mg a) : FnOk P w K mg base (L2.CX P w) 1 a.f__law_pick a.d__law_pick ["feed", "many"] (spB K (tab a) 1 0 m__law_pick) := by
  rw [mq__law_pick]
  exact okB (Pk := [0]) (J := ⟨[1, 0, 0, 0, 0, 0, 0], [1, 0, 0, 0, 0, 0, 0], [1, 0, 0, 0, 0, 0, 0], [1, 0, 0, 0, 0, 0, 0], 0⟩) (Γ := [1, 0, 0, 0, 0, 0, 0]) U.fn__law_pick sc__law_pick rfl (by decide) rfl rfl (fun i h1 h2 => (by decide : ∀ i, i < 2 → 1 ≤ i → ([1, 0, 0, 0, 0, 0, 0] : List Nat).getD i 0 = 0) i h2 h1) rfl (by decide) rfl rfl fun cdv A outer s H E hr tk => (dss_cons (Γ1 := [1, 0, 0, 0, 0, 0, 0]) (ds_setix (pv 0) (de_op op_add p_i0 (de_ixN ix_seq p_ix (pv 0) de_int) de_int) de_int) (dss_cons (Γ1 := [1, 0, 0, 0, 0, 0, 0]) (ds_if (dt_cmp op_gt p_ib (de_ixN ix_seq p_ix (pv 0) de_int) de_int rfl) (dss_cons (Γ1 := [1, 0, 0, 0, 0, 0, 0]) (ds_nm (i := 2) sc__law_pick.nd rfl (by first | exact Or.inl rfl | exact Or.inr rfl) (de_op op_modN p_mod (de_callTy call_int1 p_int rfl U.n_int rfl (da_cons (de_ixN ix_seq p_ix (pv 0) de_int) da_nil)) (de_var (pv 1)))) (dss_cons (Γ1 := [1, 0, 0, 0, 0, 0, 0]) (ds_setix (pv 0) (de_op o_div p_div (de_ixN ix_seq p_ix (pv 0) de_int) (de_var (pv 1))) de_int) (dss_one (ds_ret (de_var (pv 2)))))) dss_nil) (dss_cons (Γ1 := [1, 0, 0, 0, 0, 0, 0]) (ds_nm (i := 3) sc__law_pick.nd rfl (by first | exact Or.inl rfl | exact Or.inr rfl) (de_ixN ix_seq p_ix (pv 0) de_int)) (dss_cons (Γ1 := [1, 0, 0, 0, 0, 0, 0]) (ds_setix (pv 0) (de_op op_add p_i0 (de_var (pv 3)) de_int) de_int) (dss_cons (Γ1 := [1, 0, 0, 0, 0, 0, 0]) (ds_nm (i := 4) sc__law_pick.nd rfl (by first | exact Or.inl rfl | exact Or.inr rfl) de_int) (dss_cons (Γ1 := [1, 0, 0, 0, 0, 0, 0]) (ds_if (dt_cmp op_gt p_ib (de_callB o_len (Prim1.args (Prim1P.to p_len)) rfl U.n_len rfl (da_cons (de_ixN ix_seq p_ix (pv 0) de_int) da_nil)) de_int rfl) (dss_one (ds_nm (i := 4) sc__law_pick.nd rfl (by first | exact Or.inl rfl | exact Or.inr rfl) (de_callTy call_int1 p_int rfl U.n_int rfl (da_cons (de_ix ix_seq (Prim2P.to p_ix) (de_ixN ix_seq p_ix (pv 0) de_int) (de_op op_modN p_mod (de_callTy call_int1 p_int rfl U.n_int rfl (da_cons (de_var (pv 3)) da_nil)) (de_callB o_len (Prim1.args (Prim1P.to p_len)) rfl U.n_len rfl (da_cons (de_ixN ix_seq p_ix (pv 0) de_int) da_nil)))) da_nil)))) dss_nil) (dss_cons (Γ1 := [1, 0, 0, 0, 0, 0, 0]) (ds_if (dt_w (dw_and (dt_cmp op_ge p_ib (de_var (pv 4)) (de_op op_pow p_pow de_int de_int) rfl) (dw_and1 (dt_cmp op_lt p_ib (de_var (pv 3)) (de_callB o_len (Prim1.args (Prim1P.to p_len)) rfl U.n_len rfl (da_cons (de_ixN ix_seq p_ix (pv 0) de_int) da_nil)) rfl)))) (dss_cons (Γ1 := [1, 0, 0, 0, 0, 0, 0]) (ds_setix (pv 0) (de_op o_div p_div (de_var (pv 4)) (de_var (pv 1))) de_int) (dss_one (ds_ret (de_op op_modN p_mod (de_callTy call_int1 p_int rfl U.n_int rfl (da_cons (de_var (pv 4)) da_nil)) (de_var (pv 1)))))) dss_nil) (dss_cons (Γ1 := [1, 0, 0, 0, 0, 0, 0]) (ds_nm (i := 5) sc__law_pick.nd rfl (by first | exact Or.inl rfl | exact Or.inr rfl) (de_op op_modN p_mod (de_callTy call_int1 p_int rfl U.n_int rfl (da_cons (de_op op_add p_i0 (de_op op_add p_i0 (de_op op_add p_i0 (de_op o_mul p_mul (de_var (pv 4)) de_int) (de_op o_mul p_mul (de_ixN ix_seq p_ix (pv 0) de_int) de_int)) (de_op o_mul p_mul (de_var (pv 3)) de_int)) de_int) da_nil)) de_int)) (dss_cons (Γ1 := [1, 0, 0, 0, 0, 0, 0]) (ds_nm (i := 6) sc__law_pick.nd rfl (by first | exact Or.inl rfl | exact Or.inr rfl) (de_op op_modN p_mod (de_callTy call_int1 p_int rfl U.n_int rfl (da_cons (de_op op_add p_i0 (de_op op_add p_i0 (de_op o_mul p_mul (de_var (pv 5)) (de_var (pv 5))) (de_op o_mul p_mul (de_ixN ix_seq p_ix (pv 0) de_int) de_int)) (de_op o_div p_div (de_var (pv 4)) de_int)) da_nil)) de_int)) (dss_one (ds_ret (de_op op_modN p_mod (de_callTy call_int1 p_int rfl U.n_int rfl (da_cons (de_op o_div p_div (de_op o_mul p_mul (de_var (pv 6)) de_int) de_int) da_nil)) (de_var (pv 1))))))))))))))
theorem ok__law_cut (U : Txt K mg a) : FnOk P w K mg base (L2.CX P w) 1 a.f__law_cut a.d__law_cut ["num", "den"] (spF K (tab a) 0 m__law_cut) := by
  rw [mq__law_cut]
  exact okF (Pk := []) (J := ⟨[0, 0, 0, 0, 0], [0, 0, 0, 0, 0], [0, 0, 0, 0, 0], [0, 0, 0, 0, 0], 0⟩) (Γ := [0, 0, 0, 0, 0]) U.fn__law_cut sc__law_cut rfl rfl (by decide) rfl fun cdv A outer s H E hr tk => (dss_cons (Γ1 := [0, 0, 0, 0, 0]) (ds_nm (i := 2) sc__law_cut.nd rfl (by first | exact Or.inl rfl | exact Or.inr rfl) (de_callB call_abs p_abs rfl U.n_abs rfl (da_cons (de_var (pv 0)) da_nil))) (dss_cons (Γ1 := [0, 0, 0, 0, 0]) (ds_nm (i := 3) sc__law_cut.nd rfl (by first | exact Or.inl rfl | exact Or.inr rfl) (de_var (pv 1))) (dss_cons (Γ1 := [0, 0, 0, 0, 0]) (ds_for (passes_of rfl) rfl (di_range1 rfl U.n_range (da_cons (de_op op_add p_i0 (de_op o_mul p_mul de_int (de_bits (de_var (pv 1)))) de_int) da_nil)) (dg_name (pg_name (i := 4) sc__law_cut.nd rfl (by first | exact Or.inl rfl | exact Or.inr rfl))) (dss_cons (Γ1 := [0, 0, 0, 0, 0]) (ds_if (dt_cmp op_eq p_eq (de_var (pv 3)) de_int rfl) (dss_one ds_brk) dss_nil) (dss_one (ds_nm2 (i := 2) (j := 3) rfl sc__law_cut.nd rfl rfl (by decide) rfl rfl (da_cons (de_var (pv 3)) (da_cons (de_op op_modN p_mod (de_callTy call_int1 p_int rfl U.n_int rfl (da_cons (de_var (pv 2)) da_nil)) (de_var (pv 3))) da_nil)) rfl)))) (dss_one (ds_ret (de_tup (k := 0) (da_cons (de_op o_div p_div (de_var (pv 0)) (de_var (pv 2))) (da_cons (de_op o_div p_div (de_var (pv 1)) (de_var (pv 2))) da_nil))))))))
theorem ok__law_worth (U : Txt K mg a) : FnOk P w K mg base (L2.CX P w) 2 a.f__law_worth a.d__law_worth ["feed"] (spB K (tab a) 1 0 m__law_worth) := by
  rw [mq__law_worth]
  exact okB (Pk := [0]) (J := ⟨[1, 0], [1, 0], [1, 0], [1, 0], 0⟩) (Γ := [1, 0]) U.fn__law_worth sc__law_worth rfl (by decide) rfl rfl (fun i h1 h2 => (by decide : ∀ i, i < 1 → 1 ≤ i → ([1, 0] : List Nat).getD i 0 = 0) i h2 h1) rfl (by decide) rfl rfl fun cdv A outer s H E hr tk => (dss_cons (Γ1 := [1, 0]) (ds_nm (i := 1) sc__law_worth.nd rfl (by first | exact Or.inl rfl | exact Or.inr rfl) (de_fnB U.g__law_pick (ok__law_pick U) (hr.mono (by first | decide | omega)) tk rfl (pv 0) (da_cons de_int da_nil))) (dss_cons (Γ1 := [1, 0]) (ds_if (dt_cmp op_lt p_ib (de_var (pv 1)) de_int rfl) (dss_one (ds_ret (de_tup (k := 0) (da_cons (de_fnB U.g__law_pick (ok__law_pick U) (hr.mono (by first | decide | omega)) tk rfl (pv 0) (da_cons de_int da_nil)) (da_cons de_int da_nil))))) dss_nil) (dss_cons (Γ1 := [1, 0]) (ds_if (dt_cmp op_lt p_ib (de_var (pv 1)) de_int rfl) (dss_one (ds_ret (de_fn U.g__law_cut (ok__law_cut U) (hr.mono (by first | decide | omega)) tk rfl (da_cons (de_fnB U.g__law_pick (ok__law_pick U) (hr.mono (by first | decide | omega)) tk rfl (pv 0) (da_cons de_int da_nil)) (da_cons (de_op op_add p_i0 de_int (de_fnB U.g__law_pick (ok__law_pick U) (hr.mono (by first | decide | omega)) tk rfl (pv 0) (da_cons de_int da_nil))) da_nil))))) dss_nil) (dss_cons (Γ1 := [1, 0]) (ds_if (dt_cmp op_lt p_ib (de_var (pv 1)) de_int rfl) (dss_one (ds_ret (de_tup (k := 0) (da_cons (de_fnB U.g__law_pick (ok__law_pick U) (hr.mono (by first | decide | omega)) tk rfl (pv 0) (da_cons de_int da_nil)) (da_cons de_int da_nil))))) dss_nil) (dss_one (ds_ret (de_fn U.g__law_cut (ok__law_cut U) (hr.mono (by first | decide | omega)) tk rfl (da_cons (de_fnB U.g__law_pick (ok__law_pick U) (hr.mono (by first | decide | omega)) tk rfl (pv 0) (da_cons de_int da_nil)) (da_cons (de_op op_add p_i0 de_int (de_fnB U.g__law_pick (ok__law_pick U) (hr.mono (by first | decide | omega)) tk rfl (pv 0) (da_cons de_int da_nil))) da_nil)))))))))
theorem ok__law_offer (U : Txt K mg a) : FnOk P w K mg base (L2.CX P w) 3 a.f__law_offer a.d__law_offer ["feed", "most"] (spB K (tab a) 1 0 m__law_offer) := by
  rw [mq__law_offer]
  exact okB (Pk := [0]) (J := ⟨[1, 0, 0, 0, 0, 0, 0, 0, 0, 0], [1, 0, 0, 0, 0, 0, 0, 0, 0, 0], [1, 0, 0, 0, 0, 0, 0, 0, 0, 0], [1, 0, 0, 0, 0, 0, 0, 0, 0, 0], 0⟩) (Γ := [1, 0, 0, 0, 0, 0, 0, 0, 0, 0]) U.fn__law_offer sc__law_offer rfl (by decide) rfl rfl (fun i h1 h2 => (by decide : ∀ i, i < 2 → 1 ≤ i → ([1, 0, 0, 0, 0, 0, 0, 0, 0, 0] : List Nat).getD i 0 = 0) i h2 h1) rfl (by decide) rfl rfl fun cdv A outer s H E hr tk => (dss_cons (Γ1 := [1, 0, 1, 0, 0, 0, 0, 0, 0, 0]) (ds_nm (i := 2) sc__law_offer.nd rfl (by first | exact Or.inl rfl | exact Or.inr rfl) (de_lst (k := 1) da_nil)) (dss_cons (Γ1 := [1, 0, 1, 0, 0, 0, 0, 0, 0, 0]) (ds_for (passes_of rfl) rfl (di_range1 rfl U.n_range (da_cons (de_op op_add p_i0 de_int (de_fnB U.g__law_pick (ok__law_pick U) (hr.mono (by first | decide | omega)) tk rfl (pv 0) (da_cons (de_var (pv 1)) da_nil))) da_nil)) (dg_name (pg_name (i := 3) sc__law_offer.nd rfl (by first | exact Or.inl rfl | exact Or.inr rfl))) (dss_cons (Γ1 := [1, 0, 1, 0, 0, 0, 0, 0, 0, 0]) (ds_nm (i := 4) sc__law_offer.nd rfl (by first | exact Or.inl rfl | exact Or.inr rfl) (de_op op_add p_i0 de_int (de_fnB U.g__law_pick (ok__law_pick U) (hr.mono (by first | decide | omega)) tk rfl (pv 0) (da_cons de_int da_nil)))) (dss_cons (Γ1 := [1, 0, 1, 0, 0, 0, 0, 0, 0, 0]) (ds_if (dt_cmp op_eq p_eq (de_fnB U.g__law_pick (ok__law_pick U) (hr.mono (by first | decide | omega)) tk rfl (pv 0) (da_cons de_int da_nil)) de_int rfl) (dss_one (ds_nm (i := 4) sc__law_offer.nd rfl (by first | exact Or.inl rfl | exact Or.inr rfl) (de_op op_add p_i0 de_int (de_fnB U.g__law_pick (ok__law_pick U) (hr.mono (by first | decide | omega)) tk rfl (pv 0) (da_cons de_int da_nil))))) dss_nil) (dss_cons (Γ1 := [1, 0, 1, 0, 0, 0, 0, 0, 0, 0]) (ds_nm (i := 5) sc__law_offer.nd rfl (by first | exact Or.inl rfl | exact Or.inr rfl) (de_fnB U.g__law_worth (ok__law_worth U) (hr.mono (by first | decide | omega)) tk rfl (pv 0) da_nil)) (dss_cons (Γ1 := [1, 0, 1, 0, 0, 0, 0, 0, 0, 0]) (ds_nm (i := 6) sc__law_offer.nd rfl (by first | exact Or.inl rfl | exact Or.inr rfl) de_int) (dss_cons (Γ1 := [1, 0, 1, 0, 0, 0, 0, 0, 0, 0]) (ds_nm (i := 7) sc__law_offer.nd rfl (by first | exact Or.inl rfl | exact Or.inr rfl) de_bl) (dss_cons (Γ1 := [1, 0, 1, 0, 0, 0, 0, 0, 0, 0]) (ds_for (passes_of rfl) rfl (di_range1 rfl U.n_range (da_cons (de_callBN o_len p_len rfl U.n_len rfl (pv 2)) da_nil)) (dg_name (pg_name (i := 8) sc__law_offer.nd rfl (by first | exact Or.inl rfl | exact Or.inr rfl))) (dss_cons (Γ1 := [1, 0, 1, 0, 0, 0, 0, 0, 0, 0]) (ds_nm (i := 9) sc__law_offer.nd rfl (by first | exact Or.inl rfl | exact Or.inr rfl) (de_op op_sub p_i0 (de_op o_mul p_mul (de_ix ix_seq (Prim2P.to p_ix) (de_var (pv 5)) de_int) (de_ix ix_seq (Prim2P.to p_ix) (de_ix ix_seq (Prim2P.to p_ix) (de_ixN ix_seq p_ix (pv 2) (de_var (pv 8))) de_int) de_int)) (de_op o_mul p_mul (de_ix ix_seq (Prim2P.to p_ix) (de_ix ix_seq (Prim2P.to p_ix) (de_ixN ix_seq p_ix (pv 2) (de_var (pv 8))) de_int) de_int) (de_ix ix_seq (Prim2P.to p_ix) (de_var (pv 5)) de_int)))) (dss_cons (Γ1 := [1, 0, 1, 0, 0, 0, 0, 0, 0, 0]) (ds_if (dt_cmp op_gt p_ib (de_var (pv 9)) de_int rfl) (dss_one (ds_nm (i := 6) sc__law_offer.nd rfl (by first | exact Or.inl rfl | exact Or.inr rfl) (de_op op_add p_i0 (de_var (pv 8)) de_int))) dss_nil) (dss_one (ds_if (dt_cmp op_eq p_eq (de_var (pv 9)) de_int rfl) (dss_one (ds_nm (i := 7) sc__law_offer.nd rfl (by first | exact Or.inl rfl | exact Or.inr rfl) de_bl)) dss_nil))))) (dss_one (ds_if (dt_val (de_var (pv 7))) (dss_one (ds_insr (pv 2) (de_var (pv 6)) (de_tup (k := 0) (da_cons (de_var (pv 4)) (da_cons (de_var (pv 5)) da_nil))))) dss_nil))))))))) (dss_one (ds_ret (de_frz (pv 2))))))
theorem ok__law_offers (U : Txt K mg a) : FnOk P w K mg base (L2.CX P w) 4 a.f__law_offers a.d__law_offers ["feed", "many", "most"] (spB K (tab a) 1 0 m__law_offers) := by
  rw [mq__law_offers]
  exact okB (Pk := [0]) (J := ⟨[1, 0, 0, 0, 0], [1, 0, 0, 0, 0], [1, 0, 0, 0, 0], [1, 0, 0, 0, 0], 0⟩) (Γ := [1, 0, 0, 0, 0]) U.fn__law_offers sc__law_offers rfl (by decide) rfl rfl (fun i h1 h2 => (by decide : ∀ i, i < 3 → 1 ≤ i → ([1, 0, 0, 0, 0] : List Nat).getD i 0 = 0) i h2 h1) rfl (by decide) rfl rfl fun cdv A outer s H E hr tk => (dss_cons (Γ1 := [1, 0, 0, 1, 0]) (ds_nm (i := 3) sc__law_offers.nd rfl (by first | exact Or.inl rfl | exact Or.inr rfl) (de_lst (k := 1) da_nil)) (dss_cons (Γ1 := [1, 0, 0, 1, 0]) (ds_for (passes_of rfl) rfl (di_range1 rfl U.n_range (da_cons (de_var (pv 1)) da_nil)) (dg_name (pg_name (i := 4) sc__law_offers.nd rfl (by first | exact Or.inl rfl | exact Or.inr rfl))) (dss_one (ds_if (dt_w (dw_and (dt_cmp op_gt p_ib (de_var (pv 4)) de_int rfl) (dw_and1 (dt_cmp op_eq p_eq (de_fnB U.g__law_pick (ok__law_pick U) (hr.mono (by first | decide | omega)) tk rfl (pv 0) (da_cons de_int da_nil)) de_int rfl)))) (dss_one (ds_app (pv 3) (de_ixN ix_seq p_ix (pv 3) (de_fnB U.g__law_pick (ok__law_pick U) (hr.mono (by first | decide | omega)) tk rfl (pv 0) (da_cons (de_var (pv 4)) da_nil))))) (dss_one (ds_app (pv 3) (de_fnB U.g__law_offer (ok__law_offer U) (hr.mono (by first | decide | omega)) tk rfl (pv 0) (da_cons (de_var (pv 2)) da_nil))))))) (dss_one (ds_ret (de_frz (pv 3))))))
theorem ok__law_unit (U : Txt K mg a) : FnOk P w K mg base (L2.CX P w) 2 a.f__law_unit a.d__law_unit ["offers"] (spF K (tab a) 0 m__law_unit) := by
  rw [mq__law_unit]
  exact okF (Pk := []) (J := ⟨[0, 0, 0, 0], [0, 0, 0, 0], [0, 0, 0, 0], [0, 0, 0, 0], 0⟩) (Γ := [0, 0, 0, 0]) U.fn__law_unit sc__law_unit rfl rfl (by decide) rfl fun cdv A outer s H E hr tk => (dss_cons (Γ1 := [0, 0, 0, 0]) (ds_nm (i := 1) sc__law_unit.nd rfl (by first | exact Or.inl rfl | exact Or.inr rfl) de_int) (dss_cons (Γ1 := [0, 0, 0, 0]) (ds_for (passes_of rfl) rfl (di_list (de_var (pv 0))) (dg_name (pg_name (i := 2) sc__law_unit.nd rfl (by first | exact Or.inl rfl | exact Or.inr rfl))) (dss_one (ds_for (passes_of rfl) rfl (di_list (de_var (pv 2))) (dg_name (pg_name (i := 3) sc__law_unit.nd rfl (by first | exact Or.inl rfl | exact Or.inr rfl))) (dss_one (ds_nm (i := 1) sc__law_unit.nd rfl (by first | exact Or.inl rfl | exact Or.inr rfl) (de_op o_mul p_mul (de_var (pv 1)) (de_ix ix_seq (Prim2P.to p_ix) (de_fn U.g__law_cut (ok__law_cut U) (hr.mono (by first | decide | omega)) tk rfl (da_cons (de_var (pv 1)) (da_cons (de_ix ix_seq (Prim2P.to p_ix) (de_ix ix_seq (Prim2P.to p_ix) (de_var (pv 3)) de_int) de_int) da_nil))) de_int))))))) (dss_one (ds_ret (de_var (pv 1))))))
theorem ok__law_row (U : Txt K mg a) : FnOk P w K mg base (L2.CX P w) 1 a.f__law_row a.d__law_row ["prizes", "unit"] (spF K (tab a) 0 m__law_row) := by
  rw [mq__law_row]
  exact okF (Pk := []) (J := ⟨[0, 0, 0], [0, 0, 0], [0, 0, 0], [0, 0, 0], 0⟩) (Γ := [0, 0, 0]) U.fn__law_row sc__law_row rfl rfl (by decide) rfl fun cdv A outer s H E hr tk => (dss_one (ds_ret (de_lc rfl sc__law_row.nd (P := [0, 1]) (own := [("prize", 2)]) (k := 0) (di_list (de_var (pv 0))) (blkOk_by rfl) (fun _ _ _ _ _ => (dg_name (pg_name (i := 2) sc__law_row.nd rfl (by first | exact Or.inl rfl | exact Or.inr rfl)))) (fun _ _ _ _ _ => dts_nil) (fun _ _ _ _ _ => (de_tup (k := 0) (da_cons (de_ix ix_seq (Prim2P.to p_ix) (de_var (pv 2)) de_int) (da_cons (de_op o_mul p_mul (de_ix ix_seq (Prim2P.to p_ix) (de_ix ix_seq (Prim2P.to p_ix) (de_var (pv 2)) de_int) de_int) (de_op o_div p_div (de_var (pv 1)) (de_ix ix_seq (Prim2P.to p_ix) (de_ix ix_seq (Prim2P.to p_ix) (de_var (pv 2)) de_int) de_int))) da_nil)))))))
theorem ok_is_sequence (U : Txt K mg a) : FnOk P w K mg base (L2.CX P w) 1 a.f_is_sequence a.d_is_sequence ["value"] (spF K (tab a) 0 m_is_sequence) := by
  rw [mq_is_sequence]
  exact okF (Pk := []) (J := ⟨[0], [0], [0], [0], 0⟩) (Γ := [0]) U.fn_is_sequence sc_is_sequence rfl rfl (by decide) rfl fun cdv A outer s H E hr tk => (dss_one (ds_ret (de_isiT (ts := [.list, .tuple]) U.ty (by rfl) (by decide) (pty_cons (pty_bt (t := .list) rfl U.n_list (by rfl) rfl (fun _ z => nomatch z)) (pty_cons (pty_bt (t := .tuple) rfl U.n_tuple (by rfl) rfl (fun _ z => nomatch z)) pty_nil)) rfl U.n_isinstance (de_var (pv 0)))))
theorem ok_is_integer (U : Txt K mg a) : FnOk P w K mg base (L2.CX P w) 1 a.f_is_integer a.d_is_integer ["value"] (spF K (tab a) 0 m_is_integer) := by
  rw [mq_is_integer]
  exact okF (Pk := []) (J := ⟨[0], [0], [0], [0], 0⟩) (Γ := [0]) U.fn_is_integer sc_is_integer rfl rfl (by decide) rfl fun cdv A outer s H E hr tk => (dss_one (ds_ret (de_and (de_isi (t := .int) U.ty rfl (pty_bt (t := .int) rfl U.n_int (by rfl) rfl (fun _ z => nomatch z)) rfl U.n_isinstance (de_var (pv 0))) (de_one (de_not (de_isi (t := .bool) U.ty rfl (pty_bt (t := .bool) rfl U.n_bool (by rfl) rfl (fun _ z => nomatch z)) rfl U.n_isinstance (de_var (pv 0))))))))
theorem ok_is_between (U : Txt K mg a) : FnOk P w K mg base (L2.CX P w) 2 a.f_is_between a.d_is_between ["value", "least", "most"] (spF K (tab a) 0 m_is_between) := by
  rw [mq_is_between]
  exact okF (Pk := []) (J := ⟨[0, 0, 0], [0, 0, 0], [0, 0, 0], [0, 0, 0], 0⟩) (Γ := [0, 0, 0]) U.fn_is_between sc_is_between rfl rfl (by decide) rfl fun cdv A outer s H E hr tk => (dss_one (ds_ret (de_and (de_fn U.g_is_integer (ok_is_integer U) (hr.mono (by first | decide | omega)) tk rfl (da_cons (de_var (pv 0)) da_nil)) (de_one (de_chain op_le op_le p_ib p_ib (de_var (pv 1)) (de_var (pv 0)) (de_var (pv 2)))))))
theorem ok_Frac___init__ (U : Txt K mg a) : FnOk P w K mg base (L2.CX P w) 2 a.f_Frac___init__ a.d_Frac___init__ ["self", "num", "den"] (spB K (tab a) 1 0 m_Frac___init__) := by
  rw [mq_Frac___init__]
  exact okB (Pk := [0]) (J := ⟨[1, 0, 0, 0], [1, 0, 0, 0], [1, 0, 0, 0], [1, 0, 0, 0], 0⟩) (Γ := [1, 0, 0, 0]) U.fn_Frac___init__ sc_Frac___init__ rfl (by decide) rfl rfl (fun i h1 h2 => (by decide : ∀ i, i < 3 → 1 ≤ i → ([1, 0, 0, 0] : List Nat).getD i 0 = 0) i h2 h1) rfl (by decide) rfl rfl fun cdv A outer s H E hr tk => (dss_cons (Γ1 := [1, 0, 0, 0]) (ds_if (dt_w (dw_or (dt_not (dt_val (de_fn U.g_is_integer (ok_is_integer U) (hr.mono (by first | decide | omega)) tk rfl (da_cons (de_var (pv 1)) da_nil)))) (dw_or (dt_not (dt_val (de_fn U.g_is_integer (ok_is_integer U) (hr.mono (by first | decide | omega)) tk rfl (da_cons (de_var (pv 2)) da_nil)))) (dw_or1 (dt_cmp op_eq p_eq (de_var (pv 2)) de_int rfl))))) (dss_one ds_never) dss_nil) (dss_cons (Γ1 := [1, 0, 0, 0]) (ds_nm (i := 3) sc_Frac___init__.nd rfl (by first | exact Or.inl rfl | exact Or.inr rfl) (de_callM cr_gcd p_gcd rfl U.m_gcd (da_cons (de_var (pv 1)) (da_cons (de_var (pv 2)) da_nil)))) (dss_cons (Γ1 := [1, 0, 0, 0]) (ds_if (dt_cmp op_lt p_ib (de_var (pv 2)) de_int rfl) (dss_one (ds_nm (i := 3) sc_Frac___init__.nd rfl (by first | exact Or.inl rfl | exact Or.inr rfl) (de_un un_neg p_u (de_var (pv 3))))) dss_nil) (dss_cons (Γ1 := [1, 0, 0, 0]) (ds_fldset (c := 0) (j := 0) U.cl_Frac U.na_Frac_num rfl fl_nd_0 fl_sm_0 (pv 0) (de_op o_div p_div (de_var (pv 1)) (de_var (pv 3)))) (dss_one (ds_fldset (c := 0) (j := 1) U.cl_Frac U.na_Frac_den rfl fl_nd_0 fl_sm_0 (pv 0) (de_op o_div p_div (de_var (pv 2)) (de_var (pv 3)))))))))
theorem ok_as_frac (U : Txt K mg a) : FnOk P w K mg base (L2.CX P w) 4 a.f_as_frac a.d_as_frac ["value"] (spF K (tab a) 0 m_as_frac) := by
  rw [mq_as_frac]
  exact okF (Pk := []) (J := ⟨[0], [0], [0], [0], 0⟩) (Γ := [0]) U.fn_as_frac sc_as_frac rfl rfl (by decide) rfl fun cdv A outer s H E hr tk => (dss_cons (Γ1 := [0]) (ds_if (dt_val (de_isi (t := (.own 0)) U.ty rfl (pty_own (c := 0) rfl U.gc_Frac.mg) rfl U.n_isinstance (de_var (pv 0)))) (dss_one (ds_ret (de_var (pv 0)))) dss_nil) (dss_cons (Γ1 := [0]) (ds_if (dt_not (dt_val (de_fn U.g_is_integer (ok_is_integer U) (hr.mono (by first | decide | omega)) tk rfl (da_cons (de_var (pv 0)) da_nil)))) (dss_one ds_never) dss_nil) (dss_one (ds_ret (de_sh (de_new (xd := [.int 1]) rfl U.gc_Frac U.gd_Frac___init___1 (ok_Frac___init__ U) (hr.mono (by first | decide | omega)) tk rfl reps_one (da_cons (de_var (pv 0)) da_nil)))))))
theorem ok_is_amount (U : Txt K mg a) : FnOk P w K mg base (L2.CX P w) 5 a.f_is_amount a.d_is_amount ["value"] (spF K (tab a) 0 m_is_amount) := by
  rw [mq_is_amount]
  exact okF (Pk := []) (J := ⟨[0, 0], [0, 0], [0, 0], [0, 0], 0⟩) (Γ := [0, 0]) U.fn_is_amount sc_is_amount rfl rfl (by decide) rfl fun cdv A outer s H E hr tk => (dss_cons (Γ1 := [0, 0]) (ds_if (dt_w (dw_and (dt_not (dt_val (de_fn U.g_is_integer (ok_is_integer U) (hr.mono (by first | decide | omega)) tk rfl (da_cons (de_var (pv 0)) da_nil)))) (dw_and1 (dt_not (dt_val (de_isi (t := (.own 0)) U.ty rfl (pty_own (c := 0) rfl U.gc_Frac.mg) rfl U.n_isinstance (de_var (pv 0)))))))) (dss_one (ds_ret de_bl)) dss_nil) (dss_cons (Γ1 := [0, 0]) (ds_nm (i := 1) sc_is_amount.nd rfl (by first | exact Or.inl rfl | exact Or.inr rfl) (de_fn U.g_as_frac (ok_as_frac U) (hr.mono (by first | decide | omega)) tk rfl (da_cons (de_var (pv 0)) da_nil))) (dss_one (ds_ret (de_and (de_chain op_le op_le p_ib p_ib (de_un un_neg p_u (de_globE U.k_MOST_OVER rfl (fun S H => by simp [Rep]))) (de_fld U.fo_num (de_var (pv 1))) (de_globE U.k_MOST_OVER rfl (fun S H => by simp [Rep]))) (de_one (de_cmp op_le p_ib (de_fld U.fo_den (de_var (pv 1))) (de_globE U.k_MOST_UNDER rfl (fun S H => by simp [Rep])) rfl)))))))
theorem ok_is_prize (U : Txt K mg a) : FnOk P w K mg base (L2.CX P w) 6 a.f_is_prize a.d_is_prize ["value"] (spF K (tab a) 0 m_is_prize) := by
  rw [mq_is_prize]
  exact okF (Pk := []) (J := ⟨[0], [0], [0], [0], 0⟩) (Γ := [0]) U.fn_is_prize sc_is_prize rfl rfl (by decide) rfl fun cdv A outer s H E hr tk => (dss_cons (Γ1 := [0]) (ds_if (dt_w (dw_or (dt_not (dt_val (de_fn U.g_is_sequence (ok_is_sequence U) (hr.mono (by first | decide | omega)) tk rfl (da_cons (de_var (pv 0)) da_nil)))) (dw_or1 (dt_cmp op_ne p_ne (de_callB o_len (Prim1.args (Prim1P.to p_len)) rfl U.n_len rfl (da_cons (de_var (pv 0)) da_nil)) de_int rfl)))) (dss_one (ds_ret de_bl)) dss_nil) (dss_cons (Γ1 := [0]) (ds_if (dt_w (dw_or (dt_not (dt_val (de_fn U.g_is_between (ok_is_between U) (hr.mono (by first | decide | omega)) tk rfl (da_cons (de_ix ix_seq (Prim2P.to p_ix) (de_var (pv 0)) de_int) (da_cons de_int (da_cons (de_globE U.k_MOST_WEIGHT rfl (fun S H => by simp [Rep])) da_nil)))))) (dw_or1 (dt_not (dt_val (de_fn U.g_is_amount (ok_is_amount U) (hr.mono (by first | decide | omega)) tk rfl (da_cons (de_ix ix_seq (Prim2P.to p_ix) (de_var (pv 0)) de_int) da_nil))))))) (dss_one (ds_ret de_bl)) dss_nil) (dss_one (ds_ret (de_cmp op_ge p_ib (de_fld U.fo_num (de_fn U.g_as_frac (ok_as_frac U) (hr.mono (by first | decide | omega)) tk rfl (da_cons (de_ix ix_seq (Prim2P.to p_ix) (de_var (pv 0)) de_int) da_nil))) de_int rfl)))))
theorem ok_Frac_is_below (U : Txt K mg a) : FnOk P w K mg base (L2.CX P w) 1 a.f_Frac_is_below a.d_Frac_is_below ["self", "other"] (spF K (tab a) 0 m_Frac_is_below) := by
  rw [mq_Frac_is_below]
  exact okF (Pk := []) (J := ⟨[0, 0], [0, 0], [0, 0], [0, 0], 0⟩) (Γ := [0, 0]) U.fn_Frac_is_below sc_Frac_is_below rfl rfl (by decide) rfl fun cdv A outer s H E hr tk => (dss_one (ds_ret (de_cmp op_lt p_ib (de_op o_mul p_mul (de_fld U.fo_num (de_var (pv 0))) (de_fld U.fo_den (de_var (pv 1)))) (de_op o_mul p_mul (de_fld U.fo_num (de_var (pv 1))) (de_fld U.fo_den (de_var (pv 0)))) rfl)))
theorem ok_kept_prizes (U : Txt K mg a) : FnOk P w K mg base (L2.CX P w) 7 a.f_kept_prizes a.d_kept_prizes ["prizes"] (spF K (tab a) 0 m_kept_prizes) := by
  rw [mq_kept_prizes]
  exact okF (Pk := []) (J := ⟨[0, 0, 0, 0, 0], [0, 0, 0, 0, 0], [0, 0, 0, 0, 0], [0, 1, 0, 0, 0], 0⟩) (Γ := [0, 0, 0, 0, 0]) U.fn_kept_prizes sc_kept_prizes rfl rfl (by decide) rfl fun cdv A outer s H E hr tk => (dss_cons (Γ1 := [0, 0, 0, 0, 0]) (ds_if (dt_w (dw_or (dt_not (dt_val (de_fn U.g_is_sequence (ok_is_sequence U) (hr.mono (by first | decide | omega)) tk rfl (da_cons (de_var (pv 0)) da_nil)))) (dw_or1 (dt_not (dt_chain op_le op_le p_ib p_ib de_int (de_callB o_len (Prim1.args (Prim1P.to p_len)) rfl U.n_len rfl (da_cons (de_var (pv 0)) da_nil)) (de_globE U.k_MOST_PRIZES rfl (fun S H => by simp [Rep]))))))) (dss_one ds_never) dss_nil) (dss_cons (Γ1 := [0, 1, 0, 0, 0]) (ds_nm (i := 1) sc_kept_prizes.nd rfl (by first | exact Or.inl rfl | exact Or.inr rfl) (de_lst (k := 1) da_nil)) (dss_cons (Γ1 := [0, 1, 0, 0, 0]) (ds_for (passes_of rfl) rfl (di_enum rfl U.n_enumerate (de_var (pv 0))) (dg_tup rfl (dgs_cons (dg_name (pg_name (i := 2) sc_kept_prizes.nd rfl (by first | exact Or.inl rfl | exact Or.inr rfl))) (dgs_cons (dg_name (pg_name (i := 3) sc_kept_prizes.nd rfl (by first | exact Or.inl rfl | exact Or.inr rfl))) dgs_nil))) (dss_cons (Γ1 := [0, 1, 0, 0, 0]) (ds_if (dt_not (dt_val (de_fn U.g_is_prize (ok_is_prize U) (hr.mono (by first | decide | omega)) tk rfl (da_cons (de_var (pv 3)) da_nil)))) (dss_one ds_never) dss_nil) (dss_cons (Γ1 := [0, 1, 0, 0, 0]) (ds_nm (i := 4) sc_kept_prizes.nd rfl (by first | exact Or.inl rfl | exact Or.inr rfl) (de_fn U.g_as_frac (ok_as_frac U) (hr.mono (by first | decide | omega)) tk rfl (da_cons (de_ix ix_seq (Prim2P.to p_ix) (de_var (pv 3)) de_int) da_nil))) (dss_cons (Γ1 := [0, 1, 0, 0, 0]) (ds_if (dt_w (dw_and (dt_cmp op_gt p_ib (de_var (pv 2)) de_int rfl) (dw_and1 (dt_not (dt_val (de_meth (xd := []) rfl U.cl_Frac U.me_Frac_is_below no_0_is_below (ok_Frac_is_below U) (hr.mono (by first | decide | omega)) tk U.b_Frac_is_below .nil reps_nil (de_ix ix_seq (Prim2P.to p_ix) (de_ixN ix_seq p_ix (pv 1) (de_op op_sub p_i0 (de_var (pv 2)) de_int)) de_int) (da_cons (de_var (pv 4)) da_nil))))))) (dss_one ds_never) dss_nil) (dss_one (ds_app (pv 1) (de_tup (k := 0) (da_cons (de_ix ix_seq (Prim2P.to p_ix) (de_var (pv 3)) de_int) (da_cons (de_var (pv 4)) da_nil))))))))) (dss_one (ds_ret (de_callTyN (k := 0) o_tuple p_tuple rfl U.n_tuple rfl (pv 1)))))))
theorem ok_Offer___init__ (U : Txt K mg a) : FnOk P w K mg base (L2.CX P w) 8 a.f_Offer___init__ a.d_Offer___init__ ["self", "prizes"] (spB K (tab a) 1 0 m_Offer___init__) := by
  rw [mq_Offer___init__]
  exact okB (Pk := [0]) (J := ⟨[1, 0], [1, 0], [1, 0], [1, 0], 0⟩) (Γ := [1, 0]) U.fn_Offer___init__ sc_Offer___init__ rfl (by decide) rfl rfl (fun i h1 h2 => (by decide : ∀ i, i < 2 → 1 ≤ i → ([1, 0] : List Nat).getD i 0 = 0) i h2 h1) rfl (by decide) rfl rfl fun cdv A outer s H E hr tk => (dss_one (ds_fldset (c := 1) (j := 0) U.cl_Offer U.na_Offer_prizes rfl fl_nd_1 fl_sm_1 (pv 0) (de_fn U.g_kept_prizes (ok_kept_prizes U) (hr.mono (by first | decide | omega)) tk rfl (da_cons (de_var (pv 1)) da_nil))))
theorem ok__law_given (U : Txt K mg a) : FnOk P w K mg base (L2.CX P w) 4 a.f__law_given a.d__law_given ["pair", "plain"] (spF K (tab a) 0 m__law_given) := by
  rw [mq__law_given]
  exact okF (Pk := []) (J := ⟨[0, 0], [0, 0], [0, 0], [0, 0], 0⟩) (Γ := [0, 0]) U.fn__law_given sc__law_given rfl rfl (by decide) rfl fun cdv A outer s H E hr tk => (dss_cons (Γ1 := [0, 0]) (ds_if (dt_w (dw_and (dt_cmp op_eq p_eq (de_var (pv 1)) de_int rfl) (dw_and1 (dt_cmp op_eq p_eq (de_ix ix_seq (Prim2P.to p_ix) (de_var (pv 0)) de_int) de_int rfl)))) (dss_one (ds_ret (de_ix ix_seq (Prim2P.to p_ix) (de_var (pv 0)) de_int))) dss_nil) (dss_one (ds_ret (de_sh (de_new (xd := []) rfl U.gc_Frac U.gd_Frac___init___0 (ok_Frac___init__ U) (hr.mono (by first | decide | omega)) tk rfl reps_nil (da_cons (de_ix ix_seq (Prim2P.to p_ix) (de_var (pv 0)) de_int) (da_cons (de_ix ix_seq (Prim2P.to p_ix) (de_var (pv 0)) de_int) da_nil)))))))
theorem ok__law_prizes (U : Txt K mg a) : FnOk P w K mg base (L2.CX P w) 5 a.f__law_prizes a.d__law_prizes ["prizes", "form"] (spF K (tab a) 0 m__law_prizes) := by
  rw [mq__law_prizes]
  exact okF (Pk := []) (J := ⟨[0, 0, 0], [0, 0, 0], [0, 0, 0], [0, 0, 0], 0⟩) (Γ := [0, 0, 0]) U.fn__law_prizes sc__law_prizes rfl rfl (by decide) rfl fun cdv A outer s H E hr tk => (dss_cons (Γ1 := [0, 0, 0]) (ds_if (dt_cmp op_eq p_eq (de_var (pv 1)) de_int rfl) (dss_one (ds_ret (de_lc rfl sc__law_prizes.nd (P := [0, 1]) (own := [("prize", 2)]) (k := 0) (di_list (de_var (pv 0))) (blkOk_by rfl) (fun _ _ _ _ _ => (dg_name (pg_name (i := 2) sc__law_prizes.nd rfl (by first | exact Or.inl rfl | exact Or.inr rfl)))) (fun _ _ _ _ _ => dts_nil) (fun _ _ _ _ _ => (de_tup (k := 0) (da_cons (de_ix ix_seq (Prim2P.to p_ix) (de_var (pv 2)) de_int) (da_cons (de_fn U.g__law_given (ok__law_given U) (hr.mono (by first | decide | omega)) takes0 rfl (da_cons (de_ix ix_seq (Prim2P.to p_ix) (de_var (pv 2)) de_int) (da_cons de_int da_nil))) da_nil))))))) dss_nil) (dss_one (ds_ret (de_callTy (k := 0) o_tuple (Prim1.args (Prim1P.to p_tuple)) rfl U.n_tuple rfl (da_cons (de_lc rfl sc__law_prizes.nd (P := [0, 1]) (own := [("prize", 2)]) (k := 0) (di_list (de_var (pv 0))) (blkOk_by rfl) (fun _ _ _ _ _ => (dg_name (pg_name (i := 2) sc__law_prizes.nd rfl (by first | exact Or.inl rfl | exact Or.inr rfl)))) (fun _ _ _ _ _ => dts_nil) (fun _ _ _ _ _ => (de_lst (k := 0) (da_cons (de_ix ix_seq (Prim2P.to p_ix) (de_var (pv 2)) de_int) (da_cons (de_fn U.g__law_given (ok__law_given U) (hr.mono (by first | decide | omega)) takes0 rfl (da_cons (de_ix ix_seq (Prim2P.to p_ix) (de_var (pv 2)) de_int) (da_cons de_int da_nil))) da_nil))))) da_nil)))))
theorem ok__law_plus (U : Txt K mg a) : FnOk P w K mg base (L2.CX P w) 2 a.f__law_plus a.d__law_plus ["one", "two"] (spF K (tab a) 0 m__law_plus) := by
  rw [mq__law_plus]
  exact okF (Pk := []) (J := ⟨[0, 0], [0, 0], [0, 0], [0, 0], 0⟩) (Γ := [0, 0]) U.fn__law_plus sc__law_plus rfl rfl (by decide) rfl fun cdv A outer s H E hr tk => (dss_one (ds_ret (de_fn U.g__law_cut (ok__law_cut U) (hr.mono (by first | decide | omega)) tk rfl (da_cons (de_op op_add p_i0 (de_op o_mul p_mul (de_ix ix_seq (Prim2P.to p_ix) (de_var (pv 0)) de_int) (de_ix ix_seq (Prim2P.to p_ix) (de_var (pv 1)) de_int)) (de_op o_mul p_mul (de_ix ix_seq (Prim2P.to p_ix) (de_var (pv 1)) de_int) (de_ix ix_seq (Prim2P.to p_ix) (de_var (pv 0)) de_int))) (da_cons (de_op o_mul p_mul (de_ix ix_seq (Prim2P.to p_ix) (de_var (pv 0)) de_int) (de_ix ix_seq (Prim2P.to p_ix) (de_var (pv 1)) de_int)) da_nil)))))
theorem ok__law_more (U : Txt K mg a) : FnOk P w K mg base (L2.CX P w) 1 a.f__law_more a.d__law_more ["one", "two"] (spF K (tab a) 0 m__law_more) := by
  rw [mq__law_more]
  exact okF (Pk := []) (J := ⟨[0, 0], [0, 0], [0, 0], [0, 0], 0⟩) (Γ := [0, 0]) U.fn__law_more sc__law_more rfl rfl (by decide) rfl fun cdv A outer s H E hr tk => (dss_cons (Γ1 := [0, 0]) (ds_if (dt_cmp op_gt p_ib (de_var (pv 0)) (de_var (pv 1)) rfl) (dss_one (ds_ret (de_var (pv 0)))) dss_nil) (dss_one (ds_ret (de_var (pv 1)))))
theorem ok__law_whole (U : Txt K mg a) : FnOk P w K mg base (L2.CX P w) 1 a.f__law_whole a.d__law_whole ["row"] (spF K (tab a) 0 m__law_whole) := by
  rw [mq__law_whole]
  exact okF (Pk := []) (J := ⟨[0, 0], [0, 0], [0, 0], [0, 0], 0⟩) (Γ := [0, 0]) U.fn__law_whole sc__law_whole rfl rfl (by decide) rfl fun cdv A outer s H E hr tk => (dss_one (ds_ret (de_callB (cr_sum rfl) (Prim1.args (Prim1P.to p_sum)) rfl U.n_sum rfl (da_cons (de_lc rfl sc__law_whole.nd (P := [0]) (own := [("pair", 1)]) (k := 0) (di_list (de_var (pv 0))) (blkOk_by rfl) (fun _ _ _ _ _ => (dg_name (pg_name (i := 1) sc__law_whole.nd rfl (by first | exact Or.inl rfl | exact Or.inr rfl)))) (fun _ _ _ _ _ => dts_nil) (fun _ _ _ _ _ => (de_ix ix_seq (Prim2P.to p_ix) (de_var (pv 1)) de_int))) da_nil))))
theorem ok__law_need (U : Txt K mg a) : FnOk P w K mg base (L2.CX P w) 2 a.f__law_need a.d__law_need ["row", "later"] (spF K (tab a) 0 m__law_need) := by
  rw [mq__law_need]
  exact okF (Pk := []) (J := ⟨[0, 0, 0, 0], [0, 0, 0, 0], [0, 0, 0, 0], [0, 0, 0, 0], 0⟩) (Γ := [0, 0, 0, 0]) U.fn__law_need sc__law_need rfl rfl (by decide) rfl fun cdv A outer s H E hr tk => (dss_cons (Γ1 := [0, 0, 0, 0]) (ds_nm (i := 2) sc__law_need.nd rfl (by first | exact Or.inl rfl | exact Or.inr rfl) (de_callB (cr_sum rfl) (Prim1.args (Prim1P.to p_sum)) rfl U.n_sum rfl (da_cons (de_lc rfl sc__law_need.nd (P := [0, 1, 2]) (own := [("pair", 3)]) (k := 0) (di_list (de_var (pv 0))) (blkOk_by rfl) (fun _ _ _ _ _ => (dg_name (pg_name (i := 3) sc__law_need.nd rfl (by first | exact Or.inl rfl | exact Or.inr rfl)))) (fun _ _ _ _ _ => dts_nil) (fun _ _ _ _ _ => (de_op o_mul p_mul (de_ix ix_seq (Prim2P.to p_ix) (de_var (pv 3)) de_int) (de_fn U.g__law_more (ok__law_more U) (hr.mono (by first | decide | omega)) takes0 rfl (da_cons (de_op o_mul p_mul (de_ix ix_seq (Prim2P.to p_ix) (de_var (pv 3)) de_int) (de_ix ix_seq (Prim2P.to p_ix) (de_var (pv 1)) de_int)) (da_cons (de_ix ix_seq (Prim2P.to p_ix) (de_var (pv 1)) de_int) da_nil)))))) da_nil))) (dss_one (ds_ret (de_fn U.g__law_cut (ok__law_cut U) (hr.mono (by first | decide | omega)) tk rfl (da_cons (de_var (pv 2)) (da_cons (de_op o_mul p_mul (de_fn U.g__law_whole (ok__law_whole U) (hr.mono (by first | decide | omega)) tk rfl (da_cons (de_var (pv 0)) da_nil)) (de_ix ix_seq (Prim2P.to p_ix) (de_var (pv 1)) de_int)) da_nil))))))
theorem ok__law_chain (U : Txt K mg a) : FnOk P w K mg base (L2.CX P w) 3 a.f__law_chain a.d__law_chain ["rows", "slacks", "last", "low", "unit"] (spF K (tab a) 0 m__law_chain) := by
  rw [mq__law_chain]
  exact okF (Pk := []) (J := ⟨[0, 0, 0, 0, 0, 0, 0, 0, 0, 0], [0, 0, 0, 0, 0, 0, 0, 0, 0, 0], [0, 0, 0, 0, 0, 0, 0, 0, 0, 0], [0, 0, 0, 0, 0, 0, 0, 0, 0, 0], 0⟩) (Γ := [0, 0, 0, 0, 0, 0, 0, 0, 0, 0]) U.fn__law_chain sc__law_chain rfl rfl (by decide) rfl fun cdv A outer s H E hr tk => (dss_cons (Γ1 := [0, 0, 0, 0, 0, 1, 0, 0, 0, 0]) (ds_nm (i := 5) sc__law_chain.nd rfl (by first | exact Or.inl rfl | exact Or.inr rfl) (de_lst (k := 1) (da_cons (de_var (pv 2)) da_nil))) (dss_cons (Γ1 := [0, 0, 0, 0, 0, 1, 0, 0, 0, 0]) (ds_for (passes_of rfl) rfl (di_range1 rfl U.n_range (da_cons (de_callB o_len (Prim1.args (Prim1P.to p_len)) rfl U.n_len rfl (da_cons (de_var (pv 0)) da_nil)) da_nil)) (dg_name (pg_name (i := 6) sc__law_chain.nd rfl (by first | exact Or.inl rfl | exact Or.inr rfl))) (dss_cons (Γ1 := [0, 0, 0, 0, 0, 1, 0, 0, 0, 0]) (ds_nm (i := 7) sc__law_chain.nd rfl (by first | exact Or.inl rfl | exact Or.inr rfl) (de_op op_sub p_i0 (de_op op_sub p_i0 (de_callB o_len (Prim1.args (Prim1P.to p_len)) rfl U.n_len rfl (da_cons (de_var (pv 0)) da_nil)) de_int) (de_var (pv 6)))) (dss_cons (Γ1 := [0, 0, 0, 0, 0, 1, 0, 0, 0, 0]) (ds_nm (i := 8) sc__law_chain.nd rfl (by first | exact Or.inl rfl | exact Or.inr rfl) (de_fn U.g__law_plus (ok__law_plus U) (hr.mono (by first | decide | omega)) tk rfl (da_cons (de_fn U.g__law_need (ok__law_need U) (hr.mono (by first | decide | omega)) tk rfl (da_cons (de_ix ix_seq (Prim2P.to p_ix) (de_var (pv 0)) (de_var (pv 7))) (da_cons (de_ixN ix_seq p_ix (pv 5) de_int) da_nil))) (da_cons (de_ix ix_seq (Prim2P.to p_ix) (de_var (pv 1)) (de_var (pv 7))) da_nil)))) (dss_cons (Γ1 := [0, 0, 0, 0, 0, 1, 0, 0, 0, 0]) (ds_if (dt_cmp op_eq p_eq (de_var (pv 7)) (de_ix ix_seq (Prim2P.to p_ix) (de_var (pv 3)) de_int) rfl) (dss_one (ds_nm (i := 8) sc__law_chain.nd rfl (by first | exact Or.inl rfl | exact Or.inr rfl) (de_fn U.g__law_plus (ok__law_plus U) (hr.mono (by first | decide | omega)) tk rfl (da_cons (de_fn U.g__law_need (ok__law_need U) (hr.mono (by first | decide | omega)) tk rfl (da_cons (de_ix ix_seq (Prim2P.to p_ix) (de_var (pv 0)) (de_var (pv 7))) (da_cons (de_ixN ix_seq p_ix (pv 5) de_int) da_nil))) (da_cons (de_ix ix_seq (Prim2P.to p_ix) (de_var (pv 3)) de_int) da_nil))))) dss_nil) (dss_one (ds_insr (pv 5) de_int (de_var (pv 8)))))))) (dss_one (ds_ret (de_lc rfl sc__law_chain.nd (P := [0, 1, 2, 3, 4, 5, 6, 7, 8]) (own := [("height", 9)]) (k := 0) (di_list (de_frz (pv 5))) (blkOk_by rfl) (fun _ _ _ _ _ => (dg_name (pg_name (i := 9) sc__law_chain.nd rfl (by first | exact Or.inl rfl | exact Or.inr rfl)))) (fun _ _ _ _ _ => dts_nil) (fun _ _ _ _ _ => (de_fn U.g__law_cut (ok__law_cut U) (hr.mono (by first | decide | omega)) takes0 rfl (da_cons (de_ix ix_seq (Prim2P.to p_ix) (de_var (pv 9)) de_int) (da_cons (de_op o_mul p_mul (de_ix ix_seq (Prim2P.to p_ix) (de_var (pv 9)) de_int) (de_var (pv 4))) da_nil)))))))))
theorem ok__law_plain (U : Txt K mg a) : FnOk P w K mg base (L2.CX P w) 1 a.f__law_plain a.d__law_plain ["found"] (spF K (tab a) 0 m__law_plain) := by
  rw [mq__law_plain]
  exact okF (Pk := []) (J := ⟨[0], [0], [0], [0], 0⟩) (Γ := [0]) U.fn__law_plain sc__law_plain rfl rfl (by decide) rfl fun cdv A outer s H E hr tk => (dss_one (ds_ret (de_and (de_isi (t := .int) U.ty rfl (pty_bt (t := .int) rfl U.n_int (by rfl) rfl (fun _ z => nomatch z)) rfl U.n_isinstance (de_var (pv 0))) (de_one (de_not (de_isi (t := .bool) U.ty rfl (pty_bt (t := .bool) rfl U.n_bool (by rfl) rfl (fun _ z => nomatch z)) rfl U.n_isinstance (de_var (pv 0))))))))
theorem ok__law_frac (U : Txt K mg a) : FnOk P w K mg base (L2.CX P w) 2 a.f__law_frac a.d__law_frac ["found", "num", "den"] (spF K (tab a) 0 m__law_frac) := by
  rw [mq__law_frac]
  exact okF (Pk := []) (J := ⟨[0, 0, 0, 0], [0, 0, 0, 0], [0, 0, 0, 0], [0, 0, 0, 0], 0⟩) (Γ := [0, 0, 0, 0]) U.fn__law_frac sc__law_frac rfl rfl (by decide) rfl fun cdv A outer s H E hr tk => (dss_cons (Γ1 := [0, 0, 0, 0]) (ds_if (dt_w (dw_or (dt_not (dt_val (de_isi (t := (.own 0)) U.ty rfl (pty_own (c := 0) rfl U.gc_Frac.mg) rfl U.n_isinstance (de_var (pv 0))))) (dw_or (dt_not (dt_val (de_fn U.g__law_plain (ok__law_plain U) (hr.mono (by first | decide | omega)) tk rfl (da_cons (de_fld U.fo_num (de_var (pv 0))) da_nil)))) (dw_or1 (dt_not (dt_val (de_fn U.g__law_plain (ok__law_plain U) (hr.mono (by first | decide | omega)) tk rfl (da_cons (de_fld U.fo_den (de_var (pv 0))) da_nil)))))))) (dss_one (ds_ret de_bl)) dss_nil) (dss_cons (Γ1 := [0, 0, 0, 0]) (ds_nm (i := 3) sc__law_frac.nd rfl (by first | exact Or.inl rfl | exact Or.inr rfl) (de_fn U.g__law_cut (ok__law_cut U) (hr.mono (by first | decide | omega)) tk rfl (da_cons (de_var (pv 1)) (da_cons (de_var (pv 2)) da_nil)))) (dss_one (ds_ret (de_and (de_cmp op_eq p_eq (de_fld U.fo_num (de_var (pv 0))) (de_ix ix_seq (Prim2P.to p_ix) (de_var (pv 3)) de_int) rfl) (de_one (de_cmp op_eq p_eq (de_fld U.fo_den (de_var (pv 0))) (de_ix ix_seq (Prim2P.to p_ix) (de_var (pv 3)) de_int) rfl)))))))
theorem ok__law_like (U : Txt K mg a) : FnOk P w K mg base (L2.CX P w) 3 a.f__law_like a.d__law_like ["found", "due"] (spF K (tab a) 0 m__law_like) := by
  rw [mq__law_like]
  exact okF (Pk := []) (J := ⟨[0, 0], [0, 0], [0, 0], [0, 0], 0⟩) (Γ := [0, 0]) U.fn__law_like sc__law_like rfl rfl (by decide) rfl fun cdv A outer s H E hr tk => (dss_cons (Γ1 := [0, 0]) (ds_if (dt_cmp op_isN p_isN (de_var (pv 1)) de_non rfl) (dss_one (ds_ret (de_cmp op_isN p_isN (de_var (pv 0)) de_non rfl))) dss_nil) (dss_cons (Γ1 := [0, 0]) (ds_if (dt_val (de_isi (t := .list) U.ty rfl (pty_bt (t := .list) rfl U.n_list (by rfl) rfl (fun _ z => nomatch z)) rfl U.n_isinstance (de_var (pv 1)))) (dss_one (ds_ret (de_fn U.g__law_frac (ok__law_frac U) (hr.mono (by first | decide | omega)) tk rfl (da_cons (de_var (pv 0)) (da_cons (de_ix ix_seq (Prim2P.to p_ix) (de_var (pv 1)) de_int) (da_cons (de_ix ix_seq (Prim2P.to p_ix) (de_var (pv 1)) de_int) da_nil)))))) dss_nil) (dss_cons (Γ1 := [0, 0]) (ds_if (dt_val (de_isi (t := .tuple) U.ty rfl (pty_bt (t := .tuple) rfl U.n_tuple (by rfl) rfl (fun _ z => nomatch z)) rfl U.n_isinstance (de_var (pv 1)))) (dss_cons (Γ1 := [0, 0]) ds_never dss_never) dss_nil) (dss_cons (Γ1 := [0, 0]) (ds_if (dt_val (de_isi (t := .bool) U.ty rfl (pty_bt (t := .bool) rfl U.n_bool (by rfl) rfl (fun _ z => nomatch z)) rfl U.n_isinstance (de_var (pv 1)))) (dss_one (ds_ret (de_and (de_isi (t := .bool) U.ty rfl (pty_bt (t := .bool) rfl U.n_bool (by rfl) rfl (fun _ z => nomatch z)) rfl U.n_isinstance (de_var (pv 0))) (de_one (de_cmp op_eq p_eq (de_var (pv 0)) (de_var (pv 1)) rfl))))) dss_nil) (dss_cons (Γ1 := [0, 0]) (ds_if (dt_val (de_isi (t := .int) U.ty rfl (pty_bt (t := .int) rfl U.n_int (by rfl) rfl (fun _ z => nomatch z)) rfl U.n_isinstance (de_var (pv 1)))) (dss_one (ds_ret (de_and (de_fn U.g__law_plain (ok__law_plain U) (hr.mono (by first | decide | omega)) tk rfl (da_cons (de_var (pv 0)) da_nil)) (de_one (de_cmp op_eq p_eq (de_var (pv 0)) (de_var (pv 1)) rfl))))) dss_nil) (dss_one (ds_ret (de_and (de_isi (t := .str) U.ty rfl (pty_bt (t := .str) rfl U.n_str (by rfl) rfl (fun _ z => nomatch z)) rfl U.n_isinstance (de_var (pv 0))) (de_one (de_cmp op_eq p_eq (de_var (pv 0)) (de_var (pv 1)) rfl))))))))))
theorem ok_checked_offers (U : Txt K mg a) : FnOk P w K mg base (L2.CX P w) 2 a.f_checked_offers a.d_checked_offers ["offers"] (spF K (tab a) 0 m_checked_offers) := by
  rw [mq_checked_offers]
  exact okF (Pk := []) (J := ⟨[0, 0, 0], [0, 0, 0], [0, 0, 0], [0, 0, 0], 0⟩) (Γ := [0, 0, 0]) U.fn_checked_offers sc_checked_offers rfl rfl (by decide) rfl fun cdv A outer s H E hr tk => (dss_cons (Γ1 := [0, 0, 0]) (ds_if (dt_not (dt_val (de_fn U.g_is_sequence (ok_is_sequence U) (hr.mono (by first | decide | omega)) tk rfl (da_cons (de_var (pv 0)) da_nil)))) (dss_one ds_never) dss_nil) (dss_cons (Γ1 := [0, 0, 0]) (ds_for (passes_of rfl) rfl (di_enum rfl U.n_enumerate (de_var (pv 0))) (dg_tup rfl (dgs_cons (dg_name (pg_name (i := 1) sc_checked_offers.nd rfl (by first | exact Or.inl rfl | exact Or.inr rfl))) (dgs_cons (dg_name (pg_name (i := 2) sc_checked_offers.nd rfl (by first | exact Or.inl rfl | exact Or.inr rfl))) dgs_nil))) (dss_one (ds_if (dt_not (dt_val (de_isi (t := (.own 1)) U.ty rfl (pty_own (c := 1) rfl U.gc_Offer.mg) rfl U.n_isinstance (de_var (pv 2))))) (dss_one ds_never) dss_nil))) (dss_one (ds_ret (de_callTy (k := 0) o_tuple (Prim1.args (Prim1P.to p_tuple)) rfl U.n_tuple rfl (da_cons (de_var (pv 0)) da_nil))))))
theorem ok_is_frac_or_integer (U : Txt K mg a) : FnOk P w K mg base (L2.CX P w) 2 a.f_is_frac_or_integer a.d_is_frac_or_integer ["value"] (spF K (tab a) 0 m_is_frac_or_integer) := by
  rw [mq_is_frac_or_integer]
  exact okF (Pk := []) (J := ⟨[0], [0], [0], [0], 0⟩) (Γ := [0]) U.fn_is_frac_or_integer sc_is_frac_or_integer rfl rfl (by decide) rfl fun cdv A outer s H E hr tk => (dss_one (ds_ret (de_or (de_isi (t := (.own 0)) U.ty rfl (pty_own (c := 0) rfl U.gc_Frac.mg) rfl U.n_isinstance (de_var (pv 0))) (de_one (de_fn U.g_is_integer (ok_is_integer U) (hr.mono (by first | decide | omega)) tk rfl (da_cons (de_var (pv 0)) da_nil))))))
theorem ok_told_row (U : Txt K mg a) : FnOk P w K mg base (L2.CX P w) 5 a.f_told_row a.d_told_row ["value", "many"] (spF K (tab a) 0 m_told_row) := by
  rw [mq_told_row]
  exact okF (Pk := []) (J := ⟨[0, 0, 0], [0, 0, 0], [0, 0, 0], [0, 0, 0], 0⟩) (Γ := [0, 0, 0]) U.fn_told_row sc_told_row rfl rfl (by decide) rfl fun cdv A outer s H E hr tk => (dss_cons (Γ1 := [0, 0, 0]) (ds_if (dt_w (dw_or (dt_not (dt_val (de_fn U.g_is_sequence (ok_is_sequence U) (hr.mono (by first | decide | omega)) tk rfl (da_cons (de_var (pv 0)) da_nil)))) (dw_or1 (dt_cmp op_ne p_ne (de_callB o_len (Prim1.args (Prim1P.to p_len)) rfl U.n_len rfl (da_cons (de_var (pv 0)) da_nil)) (de_var (pv 1)) rfl)))) (dss_one (ds_ret de_non)) dss_nil) (dss_cons (Γ1 := [0, 0, 0]) (ds_if (dt_not (dt_val (de_callB (cr_all rfl) (Prim1.args (Prim1P.to p_all)) rfl U.n_all rfl (da_cons (de_lc rfl sc_told_row.nd (P := [0, 1]) (own := [("one", 2)]) (k := 0) (di_any (de_var (pv 0))) (blkOk_by rfl) (fun _ _ _ _ _ => (dg_name (pg_name (i := 2) sc_told_row.nd rfl (by first | exact Or.inl rfl | exact Or.inr rfl)))) (fun _ _ _ _ _ => dts_nil) (fun _ _ _ _ _ => (de_fn U.g_is_frac_or_integer (ok_is_frac_or_integer U) (hr.mono (by first | decide | omega)) takes0 rfl (da_cons (de_var (pv 2)) da_nil)))) da_nil)))) (dss_one (ds_ret de_non)) dss_nil) (dss_one (ds_ret (de_callTy (k := 0) o_tuple (Prim1.args (Prim1P.to p_tuple)) rfl U.n_tuple rfl (da_cons (de_lc rfl sc_told_row.nd (P := [0, 1]) (own := [("one", 2)]) (k := 0) (di_any (de_var (pv 0))) (blkOk_by rfl) (fun _ _ _ _ _ => (dg_name (pg_name (i := 2) sc_told_row.nd rfl (by first | exact Or.inl rfl | exact Or.inr rfl)))) (fun _ _ _ _ _ => dts_nil) (fun _ _ _ _ _ => (de_fn U.g_as_frac (ok_as_frac U) (hr.mono (by first | decide | omega)) takes0 rfl (da_cons (de_var (pv 2)) da_nil)))) da_nil))))))
theorem ok_Frac___add__ (U : Txt K mg a) : FnOk P w K mg base (L2.CX P w) 4 a.f_Frac___add__ a.d_Frac___add__ ["self", "other"] (spF K (tab a) 0 m_Frac___add__) := by
  rw [mq_Frac___add__]
  exact okF (Pk := []) (J := ⟨[0, 0], [0, 0], [0, 0], [0, 0], 0⟩) (Γ := [0, 0]) U.fn_Frac___add__ sc_Frac___add__ rfl rfl (by decide) rfl fun cdv A outer s H E hr tk => (dss_one (ds_ret (de_sh (de_new (xd := []) rfl U.gc_Frac U.gd_Frac___init___0 (ok_Frac___init__ U) (hr.mono (by first | decide | omega)) tk rfl reps_nil (da_cons (de_op op_add p_i0 (de_op o_mul p_mul (de_fld U.fo_num (de_var (pv 0))) (de_fld U.fo_den (de_var (pv 1)))) (de_op o_mul p_mul (de_fld U.fo_num (de_var (pv 1))) (de_fld U.fo_den (de_var (pv 0))))) (da_cons (de_op o_mul p_mul (de_fld U.fo_den (de_var (pv 0))) (de_fld U.fo_den (de_var (pv 1)))) da_nil))))))
theorem ok_total (U : Txt K mg a) : FnOk P w K mg base (L2.CX P w) 5 a.f_total a.d_total ["fracs"] (spF K (tab a) 0 m_total) := by
  rw [mq_total]
  exact okF (Pk := []) (J := ⟨[0, 0, 0], [0, 0, 0], [0, 0, 0], [0, 0, 0], 0⟩) (Γ := [0, 0, 0]) U.fn_total sc_total rfl rfl (by decide) rfl fun cdv A outer s H E hr tk => (dss_cons (Γ1 := [0, 0, 0]) (ds_nm (i := 1) sc_total.nd rfl (by first | exact Or.inl rfl | exact Or.inr rfl) (de_sh (de_new (xd := [.int 1]) rfl U.gc_Frac U.gd_Frac___init___1 (ok_Frac___init__ U) (hr.mono (by first | decide | omega)) tk rfl reps_one (da_cons de_int da_nil)))) (dss_cons (Γ1 := [0, 0, 0]) (ds_for (passes_of rfl) rfl (di_list (de_var (pv 0))) (dg_name (pg_name (i := 2) sc_total.nd rfl (by first | exact Or.inl rfl | exact Or.inr rfl))) (dss_one (ds_nm (i := 1) sc_total.nd rfl (by first | exact Or.inl rfl | exact Or.inr rfl) (de_opO (mn := "__add__") rfl U.op_Frac___add__ (ok_Frac___add__ U) (hr.mono (by first | decide | omega)) tk (de_var (pv 1)) (de_var (pv 2)))))) (dss_one (ds_ret (de_var (pv 1))))))
theorem ok_Frac___mul__ (U : Txt K mg a) : FnOk P w K mg base (L2.CX P w) 4 a.f_Frac___mul__ a.d_Frac___mul__ ["self", "other"] (spF K (tab a) 0 m_Frac___mul__) := by
  rw [mq_Frac___mul__]
  exact okF (Pk := []) (J := ⟨[0, 0], [0, 0], [0, 0], [0, 0], 0⟩) (Γ := [0, 0]) U.fn_Frac___mul__ sc_Frac___mul__ rfl rfl (by decide) rfl fun cdv A outer s H E hr tk => (dss_one (ds_ret (de_sh (de_new (xd := []) rfl U.gc_Frac U.gd_Frac___init___0 (ok_Frac___init__ U) (hr.mono (by first | decide | omega)) tk rfl reps_nil (da_cons (de_op o_mul p_mul (de_fld U.fo_num (de_var (pv 0))) (de_fld U.fo_num (de_var (pv 1)))) (da_cons (de_op o_mul p_mul (de_fld U.fo_den (de_var (pv 0))) (de_fld U.fo_den (de_var (pv 1)))) da_nil))))))
theorem ok_Frac___sub__ (U : Txt K mg a) : FnOk P w K mg base (L2.CX P w) 4 a.f_Frac___sub__ a.d_Frac___sub__ ["self", "other"] (spF K (tab a) 0 m_Frac___sub__) := by
  rw [mq_Frac___sub__]
  exact okF (Pk := []) (J := ⟨[0, 0], [0, 0], [0, 0], [0, 0], 0⟩) (Γ := [0, 0]) U.fn_Frac___sub__ sc_Frac___sub__ rfl rfl (by decide) rfl fun cdv A outer s H E hr tk => (dss_one (ds_ret (de_sh (de_new (xd := []) rfl U.gc_Frac U.gd_Frac___init___0 (ok_Frac___init__ U) (hr.mono (by first | decide | omega)) tk rfl reps_nil (da_cons (de_op op_sub p_i0 (de_op o_mul p_mul (de_fld U.fo_num (de_var (pv 0))) (de_fld U.fo_den (de_var (pv 1)))) (de_op o_mul p_mul (de_fld U.fo_num (de_var (pv 1))) (de_fld U.fo_den (de_var (pv 0))))) (da_cons (de_op o_mul p_mul (de_fld U.fo_den (de_var (pv 0))) (de_fld U.fo_den (de_var (pv 1)))) da_nil))))))
theorem ok_Offer_weight_sum (U : Txt K mg a) : FnOk P w K mg base (L2.CX P w) 1 a.f_Offer_weight_sum a.d_Offer_weight_sum ["self"] (spF K (tab a) 0 m_Offer_weight_sum) := by
  rw [mq_Offer_weight_sum]
  exact okF (Pk := []) (J := ⟨[0, 0, 0], [0, 0, 0], [0, 0, 0], [0, 0, 0], 0⟩) (Γ := [0, 0, 0]) U.fn_Offer_weight_sum sc_Offer_weight_sum rfl rfl (by decide) rfl fun cdv A outer s H E hr tk => (dss_one (ds_ret (de_callB (cr_sum rfl) (Prim1.args (Prim1P.to p_sum)) rfl U.n_sum rfl (da_cons (de_lc rfl sc_Offer_weight_sum.nd (P := [0]) (own := [("weight", 1), ("_", 2)]) (k := 0) (di_tup (de_fld U.fo_prizes (de_var (pv 0)))) (blkOk_by rfl) (fun _ _ _ _ _ => (dg_tup rfl (dgs_cons (dg_name (pg_name (i := 1) sc_Offer_weight_sum.nd rfl (by first | exact Or.inl rfl | exact Or.inr rfl))) (dgs_cons (dg_name (pg_name (i := 2) sc_Offer_weight_sum.nd rfl (by first | exact Or.inl rfl | exact Or.inr rfl))) dgs_nil)))) (fun _ _ _ _ _ => dts_nil) (fun _ _ _ _ _ => (de_var (pv 1)))) da_nil))))
theorem ok_Offer_shares (U : Txt K mg a) : FnOk P w K mg base (L2.CX P w) 4 a.f_Offer_shares a.d_Offer_shares ["self"] (spF K (tab a) 0 m_Offer_shares) := by
  rw [mq_Offer_shares]
  exact okF (Pk := []) (J := ⟨[0, 0, 0, 0], [0, 0, 0, 0], [0, 0, 0, 0], [0, 0, 0, 0], 0⟩) (Γ := [0, 0, 0, 0]) U.fn_Offer_shares sc_Offer_shares rfl rfl (by decide) rfl fun cdv A outer s H E hr tk => (dss_cons (Γ1 := [0, 0, 0, 0]) (ds_nm (i := 1) sc_Offer_shares.nd rfl (by first | exact Or.inl rfl | exact Or.inr rfl) (de_meth0 (xd := []) rfl U.cl_Offer U.me_Offer_weight_sum no_1_weight_sum (ok_Offer_weight_sum U) (hr.mono (by first | decide | omega)) tk U.b_Offer_weight_sum .nil reps_nil (de_var (pv 0)))) (dss_one (ds_ret (de_callTy (k := 0) o_tuple (Prim1.args (Prim1P.to p_tuple)) rfl U.n_tuple rfl (da_cons (de_lc rfl sc_Offer_shares.nd (P := [0, 1]) (own := [("weight", 2), ("worth", 3)]) (k := 0) (di_tup (de_fld U.fo_prizes (de_var (pv 0)))) (blkOk_by rfl) (fun _ _ _ _ _ => (dg_tup rfl (dgs_cons (dg_name (pg_name (i := 2) sc_Offer_shares.nd rfl (by first | exact Or.inl rfl | exact Or.inr rfl))) (dgs_cons (dg_name (pg_name (i := 3) sc_Offer_shares.nd rfl (by first | exact Or.inl rfl | exact Or.inr rfl))) dgs_nil)))) (fun _ _ _ _ _ => dts_nil) (fun _ _ _ _ _ => (de_tup (k := 0) (da_cons (de_sh (de_new (xd := []) rfl U.gc_Frac U.gd_Frac___init___0 (ok_Frac___init__ U) (hr.mono (by first | decide | omega)) takes0 rfl reps_nil (da_cons (de_var (pv 2)) (da_cons (de_var (pv 1)) da_nil)))) (da_cons (de_var (pv 3)) da_nil))))) da_nil)))))
theorem ok_Offer_over (U : Txt K mg a) : FnOk P w K mg base (L2.CX P w) 6 a.f_Offer_over a.d_Offer_over ["self", "price"] (spF K (tab a) 0 m_Offer_over) := by
  rw [mq_Offer_over]
  exact okF (Pk := []) (J := ⟨[0, 0, 0, 0, 0], [0, 0, 0, 0, 0], [0, 0, 0, 0, 0], [0, 0, 0, 0, 0], 0⟩) (Γ := [0, 0, 0, 0, 0]) U.fn_Offer_over sc_Offer_over rfl rfl (by decide) rfl fun cdv A outer s H E hr tk => (dss_cons (Γ1 := [0, 0, 0, 0, 0]) (ds_nm (i := 2) sc_Offer_over.nd rfl (by first | exact Or.inl rfl | exact Or.inr rfl) (de_fn U.g_as_frac (ok_as_frac U) (hr.mono (by first | decide | omega)) tk rfl (da_cons (de_var (pv 1)) da_nil))) (dss_one (ds_ret (de_fn U.g_total (ok_total U) (hr.mono (by first | decide | omega)) tk rfl (da_cons (de_lc rfl sc_Offer_over.nd (P := [0, 1, 2]) (own := [("share", 3), ("worth", 4)]) (k := 0) (di_tup (de_meth0 (xd := []) rfl U.cl_Offer U.me_Offer_shares no_1_shares (ok_Offer_shares U) (hr.mono (by first | decide | omega)) tk U.b_Offer_shares .nil reps_nil (de_var (pv 0)))) (blkOk_by rfl) (fun _ _ _ _ _ => (dg_tup rfl (dgs_cons (dg_name (pg_name (i := 3) sc_Offer_over.nd rfl (by first | exact Or.inl rfl | exact Or.inr rfl))) (dgs_cons (dg_name (pg_name (i := 4) sc_Offer_over.nd rfl (by first | exact Or.inl rfl | exact Or.inr rfl))) dgs_nil)))) (fun _ _ _ _ _ => (dts_one (dt_val (de_meth (xd := []) rfl U.cl_Frac U.me_Frac_is_below no_0_is_below (ok_Frac_is_below U) (hr.mono (by first | decide | omega)) takes0 U.b_Frac_is_below .nil reps_nil (de_var (pv 2)) (da_cons (de_var (pv 4)) da_nil))))) (fun _ _ _ _ _ => (de_opO (mn := "__mul__") rfl U.op_Frac___mul__ (ok_Frac___mul__ U) (hr.mono (by first | decide | omega)) takes0 (de_var (pv 3)) (de_opO (mn := "__sub__") rfl U.op_Frac___sub__ (ok_Frac___sub__ U) (hr.mono (by first | decide | omega)) takes0 (de_var (pv 4)) (de_var (pv 2)))))) da_nil)))))
theorem ok_worth_before (U : Txt K mg a) : FnOk P w K mg base (L2.CX P w) 7 a.f_worth_before a.d_worth_before ["offer", "rest"] (spF K (tab a) 0 m_worth_before) := by
  rw [mq_worth_before]
  exact okF (Pk := []) (J := ⟨[0, 0], [0, 0], [0, 0], [0, 0], 0⟩) (Γ := [0, 0]) U.fn_worth_before sc_worth_before rfl rfl (by decide) rfl fun cdv A outer s H E hr tk => (dss_one (ds_ret (de_opO (mn := "__add__") rfl U.op_Frac___add__ (ok_Frac___add__ U) (hr.mono (by first | decide | omega)) tk (de_var (pv 1)) (de_meth (xd := []) rfl U.cl_Offer U.me_Offer_over no_1_over (ok_Offer_over U) (hr.mono (by first | decide | omega)) tk U.b_Offer_over .nil reps_nil (de_var (pv 0)) (da_cons (de_var (pv 1)) da_nil)))))
theorem ok_heights_hold (U : Txt K mg a) : FnOk P w K mg base (L2.CX P w) 8 a.f_heights_hold a.d_heights_hold ["offers", "heights"] (spF K (tab a) 0 m_heights_hold) := by
  rw [mq_heights_hold]
  exact okF (Pk := []) (J := ⟨[0, 0, 0, 0, 0, 0], [0, 0, 0, 0, 0, 0], [0, 0, 0, 0, 0, 0], [0, 0, 0, 0, 0, 0], 0⟩) (Γ := [0, 0, 0, 0, 0, 0]) U.fn_heights_hold sc_heights_hold rfl rfl (by decide) rfl fun cdv A outer s H E hr tk => (dss_cons (Γ1 := [0, 0, 0, 0, 0, 0]) (ds_nm (i := 2) sc_heights_hold.nd rfl (by first | exact Or.inl rfl | exact Or.inr rfl) (de_fn U.g_checked_offers (ok_checked_offers U) (hr.mono (by first | decide | omega)) tk rfl (da_cons (de_var (pv 0)) da_nil))) (dss_cons (Γ1 := [0, 0, 0, 0, 0, 0]) (ds_nm (i := 3) sc_heights_hold.nd rfl (by first | exact Or.inl rfl | exact Or.inr rfl) (de_fn U.g_told_row (ok_told_row U) (hr.mono (by first | decide | omega)) tk rfl (da_cons (de_var (pv 1)) (da_cons (de_op op_add p_i0 (de_callB o_len (Prim1.args (Prim1P.to p_len)) rfl U.n_len rfl (da_cons (de_var (pv 2)) da_nil)) de_int) da_nil)))) (dss_cons (Γ1 := [0, 0, 0, 0, 0, 0]) (ds_if (dt_w (dw_or (dt_cmp op_isN p_isN (de_var (pv 3)) de_non rfl) (dw_or1 (dt_cmp op_ne p_ne (de_fld U.fo_num (de_ix ix_seq (Prim2P.to p_ix) (de_var (pv 3)) (de_un un_neg p_u de_int))) de_int rfl)))) (dss_one (ds_ret de_bl)) dss_nil) (dss_cons (Γ1 := [0, 0, 0, 0, 0, 0]) (ds_for (passes_of rfl) rfl (di_enum rfl U.n_enumerate (de_var (pv 2))) (dg_tup rfl (dgs_cons (dg_name (pg_name (i := 4) sc_heights_hold.nd rfl (by first | exact Or.inl rfl | exact Or.inr rfl))) (dgs_cons (dg_name (pg_name (i := 5) sc_heights_hold.nd rfl (by first | exact Or.inl rfl | exact Or.inr rfl))) dgs_nil))) (dss_one (ds_if (dt_val (de_meth (xd := []) rfl U.cl_Frac U.me_Frac_is_below no_0_is_below (ok_Frac_is_below U) (hr.mono (by first | decide | omega)) tk U.b_Frac_is_below .nil reps_nil (de_ix ix_seq (Prim2P.to p_ix) (de_var (pv 3)) (de_var (pv 4))) (da_cons (de_fn U.g_worth_before (ok_worth_before U) (hr.mono (by first | decide | omega)) tk rfl (da_cons (de_var (pv 5)) (da_cons (de_ix ix_seq (Prim2P.to p_ix) (de_var (pv 3)) (de_op op_add p_i0 (de_var (pv 4)) de_int)) da_nil))) da_nil))) (dss_one (ds_ret de_bl)) dss_nil))) (dss_one (ds_ret de_bl))))))
theorem ok__law_given_row (U : Txt K mg a) : FnOk P w K mg base (L2.CX P w) 5 a.f__law_given_row a.d__law_given_row ["heights", "form"] (spF K (tab a) 0 m__law_given_row) := by
  rw [mq__law_given_row]
  exact okF (Pk := []) (J := ⟨[0, 0, 0, 0], [0, 0, 0, 0], [0, 0, 0, 0], [0, 0, 0, 0], 0⟩) (Γ := [0, 0, 0, 0]) U.fn__law_given_row sc__law_given_row rfl rfl (by decide) rfl fun cdv A outer s H E hr tk => (dss_cons (Γ1 := [0, 0, 0, 0]) (ds_setLc (i := 2) rfl sc__law_given_row.nd rfl rfl (sw_true rfl rfl rfl rfl) (P := [0, 1, 2]) (own := [("height", 3)]) (k := 0) (di_list (de_var (pv 0))) (blkOk_by rfl) (fun _ _ _ _ _ => (dg_name (pg_name (i := 3) sc__law_given_row.nd rfl (by first | exact Or.inl rfl | exact Or.inr rfl)))) (fun _ _ _ _ _ => dts_nil) (fun _ _ _ _ _ => (de_fn U.g__law_given (ok__law_given U) (hr.mono (by first | decide | omega)) takes0 rfl (da_cons (de_var (pv 3)) (da_cons (de_var (pv 1)) da_nil))))) (dss_cons (Γ1 := [0, 0, 0, 0]) (ds_if (dt_cmp op_eq p_eq (de_var (pv 1)) de_int rfl) (dss_one (ds_ret (de_callTy (k := 0) o_tuple (Prim1.args (Prim1P.to p_tuple)) rfl U.n_tuple rfl (da_cons (de_var (pv 2)) da_nil)))) dss_nil) (dss_one (ds_ret (de_var (pv 2))))))
theorem ok__law_kinds (U : Txt K mg a) : FnOk P w K mg base (L2.CX P w) 4 a.f__law_kinds a.d__law_kinds ["feed", "right"] (spB K (tab a) 1 0 m__law_kinds) := by
  rw [mq__law_kinds]
  exact okB (Pk := [0]) (J := ⟨[1, 0, 0, 0, 0], [1, 0, 0, 0, 0], [1, 0, 0, 0, 0], [1, 0, 0, 1, 0], 0⟩) (Γ := [1, 0, 0, 0, 0]) U.fn__law_kinds sc__law_kinds rfl (by decide) rfl rfl (fun i h1 h2 => (by decide : ∀ i, i < 2 → 1 ≤ i → ([1, 0, 0, 0, 0] : List Nat).getD i 0 = 0) i h2 h1) rfl (by decide) rfl rfl fun cdv A outer s H E hr tk => (dss_cons (Γ1 := [1, 0, 0, 0, 0]) (ds_nm (i := 2) sc__law_kinds.nd rfl (by first | exact Or.inl rfl | exact Or.inr rfl) (de_fnB U.g__law_pick (ok__law_pick U) (hr.mono (by first | decide | omega)) tk rfl (pv 0) (da_cons (de_callB o_len (Prim1.args (Prim1P.to p_len)) rfl U.n_len rfl (da_cons (de_var (pv 1)) da_nil)) da_nil))) (dss_cons (Γ1 := [1, 0, 0, 1, 0]) (ds_nm (i := 3) sc__law_kinds.nd rfl (by first | exact Or.inl rfl | exact Or.inr rfl) (de_lst (k := 1) da_nil)) (dss_cons (Γ1 := [1, 0, 0, 1, 0]) (ds_for (passes_of rfl) rfl (di_tup (de_tup (k := 0) (da_cons de_non (da_cons de_str (da_cons (de_tup (k := 0) (da_cons de_int (da_cons de_int da_nil))) (da_cons (de_lst (k := 0) (da_cons de_int da_nil)) (da_cons de_bl (da_cons de_bl da_nil)))))))) (dg_name (pg_name (i := 4) sc__law_kinds.nd rfl (by first | exact Or.inl rfl | exact Or.inr rfl))) (dss_one (ds_app (pv 3) (de_op (k := 0) op_cat (Prim2P.to p_cat) (de_op (k := 0) op_cat (Prim2P.to p_cat) (de_callTy (k := 0) o_list (Prim1.args (Prim1P.to p_list)) rfl U.n_list rfl (da_cons (de_sl (k := 0) (de_var (pv 1)) do_none (do_some (de_var (pv 2)))) da_nil)) (de_lst (k := 0) (da_cons (de_var (pv 4)) da_nil))) (de_callTy (k := 0) o_list (Prim1.args (Prim1P.to p_list)) rfl U.n_list rfl (da_cons (de_sl (k := 0) (de_var (pv 1)) (do_some (de_op op_add p_i0 (de_var (pv 2)) de_int)) do_none) da_nil)))))) (dss_cons (Γ1 := [1, 0, 0, 1, 0]) (ds_app (pv 3) (de_op (k := 0) op_cat (Prim2P.to p_cat) (de_callTy (k := 0) o_list (Prim1.args (Prim1P.to p_list)) rfl U.n_list rfl (da_cons (de_sl (k := 0) (de_var (pv 1)) do_none (do_some (de_un un_neg p_u de_int))) da_nil)) (de_lst (k := 0) (da_cons de_bl da_nil)))) (dss_cons (Γ1 := [1, 0, 0, 1, 0]) (ds_app (pv 3) (de_op (k := 0) op_cat (Prim2P.to p_cat) (de_op (k := 0) op_cat (Prim2P.to p_cat) (de_lst (k := 0) (da_cons (de_op op_add p_i0 (de_op op_pow p_pow de_int de_int) de_int) da_nil)) (de_callTy (k := 0) o_list (Prim1.args (Prim1P.to p_list)) rfl U.n_list rfl (da_cons (de_sl (k := 0) (de_var (pv 1)) (do_some de_int) (do_some (de_un un_neg p_u de_int))) da_nil))) (de_lst (k := 0) (da_cons de_str da_nil)))) (dss_cons (Γ1 := [1, 0, 0, 1, 0]) (ds_app (pv 3) (de_op (k := 0) op_catT p_catT (de_callTy (k := 0) o_tuple (Prim1.args (Prim1P.to p_tuple)) rfl U.n_tuple rfl (da_cons (de_var (pv 1)) da_nil)) (de_tup (k := 0) (da_cons de_int da_nil)))) (dss_cons (Γ1 := [1, 0, 0, 1, 0]) (ds_app (pv 3) (de_op (k := 0) op_cat (Prim2P.to p_cat) (de_lst (k := 0) (da_cons (de_ix ix_seq (Prim2P.to p_ix) (de_var (pv 1)) de_int) da_nil)) (de_callTy (k := 0) o_list (Prim1.args (Prim1P.to p_list)) rfl U.n_list rfl (da_cons (de_var (pv 1)) da_nil)))) (dss_cons (Γ1 := [1, 0, 0, 1, 0]) (ds_app (pv 3) (de_sl (k := 0) (de_var (pv 1)) (do_some de_int) do_none)) (dss_cons (Γ1 := [1, 0, 0, 1, 0]) (ds_app (pv 3) (de_callTy (k := 0) o_list (Prim1.args (Prim1P.to p_list)) rfl U.n_list rfl (da_cons (de_sl (k := 0) (de_var (pv 1)) do_none (do_some (de_un un_neg p_u de_int))) da_nil))) (dss_cons (Γ1 := [1, 0, 0, 1, 0]) (ds_nm (i := 3) sc__law_kinds.nd rfl (by first | exact Or.inl rfl | exact Or.inr rfl) (de_opN (k := 1) op_cat p_cat (pv 3) (de_lst (k := 0) (da_cons de_non (da_cons de_int (da_cons de_str (da_cons (de_tup (k := 0) da_nil) (da_cons (de_lst (k := 0) da_nil) (da_cons (de_sh (de_new (xd := [.int 1]) rfl U.gc_Frac U.gd_Frac___init___1 (ok_Frac___init__ U) (hr.mono (by first | decide | omega)) tk rfl reps_one (da_cons de_int da_nil))) (da_cons (de_op (k := 0) op_cat (Prim2P.to p_cat) (de_callTy (k := 0) o_list (Prim1.args (Prim1P.to p_list)) rfl U.n_list rfl (da_cons (de_var (pv 1)) da_nil)) (de_lst (k := 0) (da_cons de_non da_nil))) da_nil)))))))))) (dss_one (ds_ret (de_ixN ix_seq p_ix (pv 3) (de_fnB U.g__law_pick (ok__law_pick U) (hr.mono (by first | decide | omega)) tk rfl (pv 0) (da_cons (de_callBN o_len p_len rfl U.n_len rfl (pv 3)) da_nil)))))))))))))))
theorem ok__law_stops (U : Txt K mg a) : FnOk P w K mg base (L2.CX P w) 2 a.f__law_stops a.d__law_stops ["rows"] (spF K (tab a) 0 m__law_stops) := by
  rw [mq__law_stops]
  exact okF (Pk := []) (J := ⟨[0, 0, 0, 0, 0, 0], [0, 0, 0, 0, 0, 0], [0, 0, 0, 0, 0, 0], [0, 0, 0, 0, 0, 0], 0⟩) (Γ := [0, 0, 0, 0, 0, 0]) U.fn__law_stops sc__law_stops rfl rfl (by decide) rfl fun cdv A outer s H E hr tk => (dss_cons (Γ1 := [0, 1, 0, 0, 0, 0]) (ds_nm (i := 1) sc__law_stops.nd rfl (by first | exact Or.inl rfl | exact Or.inr rfl) (de_lst (k := 1) (da_cons (de_tup (k := 0) (da_cons de_int (da_cons de_int da_nil))) da_nil))) (dss_cons (Γ1 := [0, 1, 0, 0, 0, 0]) (ds_for (passes_of rfl) rfl (di_revd rfl U.n_reversed (de_var (pv 0))) (dg_name (pg_name (i := 2) sc__law_stops.nd rfl (by first | exact Or.inl rfl | exact Or.inr rfl))) (dss_cons (Γ1 := [0, 1, 0, 0, 0, 0]) (ds_nm (i := 3) sc__law_stops.nd rfl (by first | exact Or.inl rfl | exact Or.inr rfl) (de_ixN ix_seq p_ix (pv 1) de_int)) (dss_cons (Γ1 := [0, 1, 0, 0, 0, 0]) (ds_nm (i := 4) sc__law_stops.nd rfl (by first | exact Or.inl rfl | exact Or.inr rfl) (de_callB (cr_sum rfl) (Prim1.args (Prim1P.to p_sum)) rfl U.n_sum rfl (da_cons (de_lc rfl sc__law_stops.nd (P := [0, 1, 2, 3, 4]) (own := [("pair", 5)]) (k := 0) (di_list (de_var (pv 2))) (blkOk_by rfl) (fun _ _ _ _ _ => (dg_name (pg_name (i := 5) sc__law_stops.nd rfl (by first | exact Or.inl rfl | exact Or.inr rfl)))) (fun _ _ _ _ _ => dts_nil) (fun _ _ _ _ _ => (de_op o_mul p_mul (de_ix ix_seq (Prim2P.to p_ix) (de_var (pv 5)) de_int) (de_fn U.g__law_more (ok__law_more U) (hr.mono (by first | decide | omega)) takes0 rfl (da_cons (de_op o_mul p_mul (de_ix ix_seq (Prim2P.to p_ix) (de_var (pv 5)) de_int) (de_ix ix_seq (Prim2P.to p_ix) (de_var (pv 3)) de_int)) (da_cons (de_ix ix_seq (Prim2P.to p_ix) (de_var (pv 3)) de_int) da_nil)))))) da_nil))) (dss_one (ds_insr (pv 1) de_int (de_tup (k := 0) (da_cons (de_var (pv 4)) (da_cons (de_op o_mul p_mul (de_fn U.g__law_whole (ok__law_whole U) (hr.mono (by first | decide | omega)) tk rfl (da_cons (de_var (pv 2)) da_nil)) (de_ix ix_seq (Prim2P.to p_ix) (de_var (pv 3)) de_int)) da_nil)))))))) (dss_one (ds_ret (de_frz (pv 1))))))
theorem ok_worths_from (U : Txt K mg a) : FnOk P w K mg base (L2.CX P w) 8 a.f_worths_from a.d_worths_from ["line"] (spF K (tab a) 0 m_worths_from) := by
  rw [mq_worths_from]
  exact okF (Pk := []) (J := ⟨[0, 0, 0], [0, 0, 0], [0, 0, 0], [0, 0, 0], 0⟩) (Γ := [0, 0, 0]) U.fn_worths_from sc_worths_from rfl rfl (by decide) rfl fun cdv A outer s H E hr tk => (dss_cons (Γ1 := [0, 1, 0]) (ds_nm (i := 1) sc_worths_from.nd rfl (by first | exact Or.inl rfl | exact Or.inr rfl) (de_lst (k := 1) (da_cons (de_sh (de_new (xd := [.int 1]) rfl U.gc_Frac U.gd_Frac___init___1 (ok_Frac___init__ U) (hr.mono (by first | decide | omega)) tk rfl reps_one (da_cons de_int da_nil))) da_nil))) (dss_cons (Γ1 := [0, 1, 0]) (ds_for (passes_of rfl) rfl (di_revd rfl U.n_reversed (de_var (pv 0))) (dg_name (pg_name (i := 2) sc_worths_from.nd rfl (by first | exact Or.inl rfl | exact Or.inr rfl))) (dss_one (ds_app (pv 1) (de_fn U.g_worth_before (ok_worth_before U) (hr.mono (by first | decide | omega)) tk rfl (da_cons (de_var (pv 2)) (da_cons (de_ixN ix_seq p_ix (pv 1) (de_un un_neg p_u de_int)) da_nil)))))) (dss_one (ds_ret (de_tupRev (k := 0) rfl U.n_tuple U.n_reversed rfl rfl (de_frz (pv 1)))))))
theorem ok_stop_worth (U : Txt K mg a) : FnOk P w K mg base (L2.CX P w) 9 a.f_stop_worth a.d_stop_worth ["offers"] (spF K (tab a) 0 m_stop_worth) := by
  rw [mq_stop_worth]
  exact okF (Pk := []) (J := ⟨[0], [0], [0], [0], 0⟩) (Γ := [0]) U.fn_stop_worth sc_stop_worth rfl rfl (by decide) rfl fun cdv A outer s H E hr tk => (dss_one (ds_ret (de_ix ix_seq (Prim2P.to p_ix) (de_fn U.g_worths_from (ok_worths_from U) (hr.mono (by first | decide | omega)) tk rfl (da_cons (de_fn U.g_checked_offers (ok_checked_offers U) (hr.mono (by first | decide | omega)) tk rfl (da_cons (de_var (pv 0)) da_nil)) da_nil)) de_int)))
theorem ok__law_asked (U : Txt K mg a) : FnOk P w K mg base (L2.CX P w) 10 a.f__law_asked a.d__law_asked ["script"] (spF K (tab a) 0 m__law_asked) := by
  rw [mq__law_asked]
  exact okF (Pk := []) (J := ⟨[0, 0, 0, 0, 0, 0, 0, 0, 0, 0, 0, 0, 0, 0, 0, 0, 0, 0, 0, 0, 0], [0, 0, 0, 0, 0, 0, 0, 0, 0, 0, 0, 0, 0, 0, 0, 0, 0, 0, 0, 0, 0], [0, 0, 0, 0, 0, 0, 0, 0, 0, 0, 0, 0, 0, 0, 0, 0, 0, 0, 0, 0, 0], [0, 1, 0, 0, 0, 0, 0, 0, 0, 0, 0, 0, 0, 0, 0, 0, 0, 0, 0, 0, 0], 0⟩) (Γ := [0, 0, 0, 0, 0, 0, 0, 0, 0, 0, 0, 0, 0, 0, 0, 0, 0, 0, 0, 0, 0]) U.fn__law_asked sc__law_asked rfl rfl (by decide) rfl fun cdv A outer s H E hr tk => (dss_cons (Γ1 := [0, 1, 0, 0, 0, 0, 0, 0, 0, 0, 0, 0, 0, 0, 0, 0, 0, 0, 0, 0, 0]) (ds_nm (i := 1) sc__law_asked.nd rfl (by first | exact Or.inl rfl | exact Or.inr rfl) (de_lst (k := 1) (da_cons (de_callTy (k := 0) o_list (Prim1.args (Prim1P.to p_list)) rfl U.n_list rfl (da_cons (de_var (pv 0)) da_nil)) (da_cons de_int (da_cons de_int (da_cons de_int da_nil)))))) (dss_cons (Γ1 := [0, 1, 0, 0, 0, 0, 0, 0, 0, 0, 0, 0, 0, 0, 0, 0, 0, 0, 0, 0, 0]) (ds_nm (i := 2) sc__law_asked.nd rfl (by first | exact Or.inl rfl | exact Or.inr rfl) (de_op op_add p_i0 de_int (de_fnB U.g__law_pick (ok__law_pick U) (hr.mono (by first | decide | omega)) tk rfl (pv 1) (da_cons de_int da_nil)))) (dss_cons (Γ1 := [0, 1, 0, 0, 0, 0, 0, 0, 0, 0, 0, 0, 0, 0, 0, 0, 0, 0, 0, 0, 0]) (ds_nm (i := 3) sc__law_asked.nd rfl (by first | exact Or.inl rfl | exact Or.inr rfl) (de_fnB U.g__law_offers (ok__law_offers U) (hr.mono (by first | decide | omega)) tk rfl (pv 1) (da_cons (de_var (pv 2)) (da_cons de_int da_nil)))) (dss_cons (Γ1 := [0, 1, 0, 0, 0, 0, 0, 0, 0, 0, 0, 0, 0, 0, 0, 0, 0, 0, 0, 0, 0]) (ds_nm (i := 4) sc__law_asked.nd rfl (by first | exact Or.inl rfl | exact Or.inr rfl) (de_fnB U.g__law_pick (ok__law_pick U) (hr.mono (by first | decide | omega)) tk rfl (pv 1) (da_cons de_int da_nil))) (dss_cons (Γ1 := [0, 1, 0, 0, 0, 0, 0, 0, 0, 0, 0, 0, 0, 0, 0, 0, 0, 0, 0, 0, 0]) (ds_nm (i := 5) sc__law_asked.nd rfl (by first | exact Or.inl rfl | exact Or.inr rfl) (de_fn U.g__law_unit (ok__law_unit U) (hr.mono (by first | decide | omega)) tk rfl (da_cons (de_var (pv 3)) da_nil))) (dss_cons (Γ1 := [0, 1, 0, 0, 0, 0, 0, 0, 0, 0, 0, 0, 0, 0, 0, 0, 0, 0, 0, 0, 0]) (ds_setLc (i := 6) rfl sc__law_asked.nd rfl rfl (sw_true rfl rfl rfl rfl) (P := [0, 1, 2, 3, 4, 5, 6, 7, 8, 9, 10, 11, 12, 13, 14, 15, 16, 17, 18, 20]) (own := [("prizes", 19)]) (k := 0) (di_list (de_var (pv 3))) (blkOk_by rfl) (fun _ _ _ _ _ => (dg_name (pg_name (i := 19) sc__law_asked.nd rfl (by first | exact Or.inl rfl | exact Or.inr rfl)))) (fun _ _ _ _ _ => dts_nil) (fun _ _ _ _ _ => (de_fn U.g__law_row (ok__law_row U) (hr.mono (by first | decide | omega)) takes0 rfl (da_cons (de_var (pv 19)) (da_cons (de_var (pv 5)) da_nil))))) (dss_cons (Γ1 := [0, 1, 0, 0, 0, 0, 0, 0, 0, 0, 0, 0, 0, 0, 0, 0, 0, 0, 0, 0, 0]) (ds_setLc (i := 7) rfl sc__law_asked.nd rfl rfl (sw_true rfl rfl rfl rfl) (P := [0, 1, 2, 3, 4, 5, 6, 7, 8, 9, 10, 11, 12, 13, 14, 15, 16, 17, 18, 20]) (own := [("prizes", 19)]) (k := 0) (di_list (de_var (pv 3))) (blkOk_by rfl) (fun _ _ _ _ _ => (dg_name (pg_name (i := 19) sc__law_asked.nd rfl (by first | exact Or.inl rfl | exact Or.inr rfl)))) (fun _ _ _ _ _ => dts_nil) (fun _ _ _ _ _ => (de_sh (de_new (xd := []) rfl U.gc_Offer U.gd_Offer___init___0 (ok_Offer___init__ U) (hr.mono (by first | decide | omega)) takes0 rfl reps_nil (da_cons (de_fn U.g__law_prizes (ok__law_prizes U) (hr.mono (by first | decide | omega)) takes0 rfl (da_cons (de_var (pv 19)) (da_cons (de_var (pv 4)) da_nil))) da_nil))))) (dss_cons (Γ1 := [0, 1, 0, 0, 0, 0, 0, 0, 1, 0, 0, 0, 0, 0, 0, 0, 0, 0, 0, 0, 0]) (ds_nm (i := 8) sc__law_asked.nd rfl (by first | exact Or.inl rfl | exact Or.inr rfl) (de_lst (k := 1) da_nil)) (dss_cons (Γ1 := [0, 1, 0, 0, 0, 0, 0, 0, 1, 0, 0, 0, 0, 0, 0, 0, 0, 0, 0, 0, 0]) (ds_for (passes_of rfl) rfl (di_range1 rfl U.n_range (da_cons (de_var (pv 2)) da_nil)) (dg_name (pg_name (i := 9) sc__law_asked.nd rfl (by first | exact Or.inl rfl | exact Or.inr rfl))) (dss_cons (Γ1 := [0, 1, 0, 0, 0, 0, 0, 0, 1, 0, 0, 0, 0, 0, 0, 0, 0, 0, 0, 0, 0]) (ds_nm (i := 10) sc__law_asked.nd rfl (by first | exact Or.inl rfl | exact Or.inr rfl) (de_tup (k := 0) (da_cons de_int (da_cons de_int da_nil)))) (dss_cons (Γ1 := [0, 1, 0, 0, 0, 0, 0, 0, 1, 0, 0, 0, 0, 0, 0, 0, 0, 0, 0, 0, 0]) (ds_if (dt_cmp op_eq p_eq (de_fnB U.g__law_pick (ok__law_pick U) (hr.mono (by first | decide | omega)) tk rfl (pv 1) (da_cons de_int da_nil)) de_int rfl) (dss_one (ds_nm (i := 10) sc__law_asked.nd rfl (by first | exact Or.inl rfl | exact Or.inr rfl) (de_tup (k := 0) (da_cons (de_op o_mul p_mul (de_fnB U.g__law_pick (ok__law_pick U) (hr.mono (by first | decide | omega)) tk rfl (pv 1) (da_cons de_int da_nil)) (de_var (pv 5))) (da_cons (de_op op_add p_i0 de_int (de_fnB U.g__law_pick (ok__law_pick U) (hr.mono (by first | decide | omega)) tk rfl (pv 1) (da_cons de_int da_nil))) da_nil))))) dss_nil) (dss_one (ds_app (pv 8) (de_var (pv 10))))))) (dss_cons (Γ1 := [0, 1, 0, 0, 0, 0, 0, 0, 1, 0, 0, 0, 0, 0, 0, 0, 0, 0, 0, 0, 0]) (ds_nm (i := 11) sc__law_asked.nd rfl (by first | exact Or.inl rfl | exact Or.inr rfl) (de_tup (k := 0) (da_cons (de_var (pv 2)) (da_cons (de_tup (k := 0) (da_cons de_int (da_cons de_int da_nil))) da_nil)))) (dss_cons (Γ1 := [0, 1, 0, 0, 0, 0, 0, 0, 1, 0, 0, 0, 0, 0, 0, 0, 0, 0, 0, 0, 0]) (ds_nm (i := 12) sc__law_asked.nd rfl (by first | exact Or.inl rfl | exact Or.inr rfl) (de_tup (k := 0) (da_cons (de_un un_neg p_u de_int) (da_cons (de_op op_add p_i0 de_int (de_fnB U.g__law_pick (ok__law_pick U) (hr.mono (by first | decide | omega)) tk rfl (pv 1) (da_cons de_int da_nil))) da_nil)))) (dss_cons (Γ1 := [0, 1, 0, 0, 0, 0, 0, 0, 0, 0, 0, 0, 0, 0, 0, 0, 0, 0, 0, 0, 0]) (ds_nm (i := 13) sc__law_asked.nd rfl (by first | exact Or.inl rfl | exact Or.inr rfl) (de_fn U.g__law_chain (ok__law_chain U) (hr.mono (by first | decide | omega)) tk rfl (da_cons (de_var (pv 6)) (da_cons (de_frz (pv 8)) (da_cons (de_tup (k := 0) (da_cons de_int (da_cons de_int da_nil))) (da_cons (de_var (pv 11)) (da_cons (de_var (pv 5)) da_nil))))))) (dss_cons (Γ1 := [0, 1, 0, 0, 0, 0, 0, 0, 0, 0, 0, 0, 0, 0, 0, 0, 0, 0, 0, 0, 0]) (ds_if (dt_not (dt_val (de_fn U.g__law_like (ok__law_like U) (hr.mono (by first | decide | omega)) tk rfl (da_cons (de_fn U.g_heights_hold (ok_heights_hold U) (hr.mono (by first | decide | omega)) tk rfl (da_cons (de_var (pv 7)) (da_cons (de_fn U.g__law_given_row (ok__law_given_row U) (hr.mono (by first | decide | omega)) tk rfl (da_cons (de_var (pv 13)) (da_cons (de_var (pv 4)) da_nil))) da_nil))) (da_cons de_bl da_nil))))) (dss_one (ds_ret de_bl)) dss_nil) (dss_cons (Γ1 := [0, 1, 0, 0, 0, 0, 0, 0, 0, 0, 0, 0, 0, 0, 0, 0, 0, 0, 0, 0, 0]) (ds_nm (i := 14) sc__law_asked.nd rfl (by first | exact Or.inl rfl | exact Or.inr rfl) (de_fn U.g__law_chain (ok__law_chain U) (hr.mono (by first | decide | omega)) tk rfl (da_cons (de_var (pv 6)) (da_cons (de_lc rfl sc__law_asked.nd (P := [0, 1, 2, 3, 4, 5, 6, 7, 8, 9, 10, 11, 12, 13, 14, 15, 16, 17, 18, 19]) (own := [("row", 20)]) (k := 0) (di_list (de_var (pv 6))) (blkOk_by rfl) (fun _ _ _ _ _ => (dg_name (pg_name (i := 20) sc__law_asked.nd rfl (by first | exact Or.inl rfl | exact Or.inr rfl)))) (fun _ _ _ _ _ => dts_nil) (fun _ _ _ _ _ => (de_tup (k := 0) (da_cons de_int (da_cons de_int da_nil))))) (da_cons (de_tup (k := 0) (da_cons de_int (da_cons de_int da_nil))) (da_cons (de_var (pv 11)) (da_cons (de_var (pv 5)) da_nil))))))) (dss_cons (Γ1 := [0, 1, 0, 0, 0, 0, 0, 0, 0, 0, 0, 0, 0, 0, 0, 0, 0, 0, 0, 0, 0]) (ds_if (dt_not (dt_val (de_fn U.g__law_like (ok__law_like U) (hr.mono (by first | decide | omega)) tk rfl (da_cons (de_fn U.g_heights_hold (ok_heights_hold U) (hr.mono (by first | decide | omega)) tk rfl (da_cons (de_callTy (k := 0) o_tuple (Prim1.args (Prim1P.to p_tuple)) rfl U.n_tuple rfl (da_cons (de_var (pv 7)) da_nil)) (da_cons (de_fn U.g__law_given_row (ok__law_given_row U) (hr.mono (by first | decide | omega)) tk rfl (da_cons (de_var (pv 14)) (da_cons (de_op op_sub p_i0 de_int (de_var (pv 4))) da_nil))) da_nil))) (da_cons de_bl da_nil))))) (dss_one (ds_ret de_bl)) dss_nil) (dss_cons (Γ1 := [0, 1, 0, 0, 0, 0, 0, 0, 0, 0, 0, 0, 0, 0, 0, 0, 0, 0, 0, 0, 0]) (ds_for (passes_of rfl) rfl (di_range1 rfl U.n_range (da_cons (de_var (pv 2)) da_nil)) (dg_name (pg_name (i := 15) sc__law_asked.nd rfl (by first | exact Or.inl rfl | exact Or.inr rfl))) (dss_cons (Γ1 := [0, 1, 0, 0, 0, 0, 0, 0, 0, 0, 0, 0, 0, 0, 0, 0, 0, 0, 0, 0, 0]) (ds_nm (i := 16) sc__law_asked.nd rfl (by first | exact Or.inl rfl | exact Or.inr rfl) (de_fn U.g__law_chain (ok__law_chain U) (hr.mono (by first | decide | omega)) tk rfl (da_cons (de_var (pv 6)) (da_cons (de_var (pv 8)) (da_cons (de_tup (k := 0) (da_cons de_int (da_cons de_int da_nil))) (da_cons (de_tup (k := 0) (da_cons (de_var (pv 15)) (da_cons (de_var (pv 12)) da_nil))) (da_cons (de_var (pv 5)) da_nil))))))) (dss_one (ds_if (dt_not (dt_val (de_fn U.g__law_like (ok__law_like U) (hr.mono (by first | decide | omega)) tk rfl (da_cons (de_fn U.g_heights_hold (ok_heights_hold U) (hr.mono (by first | decide | omega)) tk rfl (da_cons (de_var (pv 7)) (da_cons (de_fn U.g__law_given_row (ok__law_given_row U) (hr.mono (by first | decide | omega)) tk rfl (da_cons (de_var (pv 16)) (da_cons (de_fnB U.g__law_pick (ok__law_pick U) (hr.mono (by first | decide | omega)) tk rfl (pv 1) (da_cons de_int da_nil)) da_nil))) da_nil))) (da_cons de_bl da_nil))))) (dss_one (ds_ret de_bl)) dss_nil)))) (dss_cons (Γ1 := [0, 1, 0, 0, 0, 0, 0, 0, 0, 0, 0, 0, 0, 0, 0, 0, 0, 0, 0, 0, 0]) (ds_nm (i := 16) sc__law_asked.nd rfl (by first | exact Or.inl rfl | exact Or.inr rfl) (de_fn U.g__law_chain (ok__law_chain U) (hr.mono (by first | decide | omega)) tk rfl (da_cons (de_var (pv 6)) (da_cons (de_var (pv 8)) (da_cons (de_tup (k := 0) (da_cons de_int (da_cons (de_op op_add p_i0 de_int (de_fnB U.g__law_pick (ok__law_pick U) (hr.mono (by first | decide | omega)) tk rfl (pv 1) (da_cons de_int da_nil))) da_nil))) (da_cons (de_var (pv 11)) (da_cons (de_var (pv 5)) da_nil))))))) (dss_cons (Γ1 := [0, 1, 0, 0, 0, 0, 0, 0, 0, 0, 0, 0, 0, 0, 0, 0, 0, 0, 0, 0, 0]) (ds_if (dt_not (dt_val (de_fn U.g__law_like (ok__law_like U) (hr.mono (by first | decide | omega)) tk rfl (da_cons (de_fn U.g_heights_hold (ok_heights_hold U) (hr.mono (by first | decide | omega)) tk rfl (da_cons (de_var (pv 7)) (da_cons (de_fn U.g__law_given_row (ok__law_given_row U) (hr.mono (by first | decide | omega)) tk rfl (da_cons (de_var (pv 16)) (da_cons (de_var (pv 4)) da_nil))) da_nil))) (da_cons de_bl da_nil))))) (dss_one (ds_ret de_bl)) dss_nil) (dss_cons (Γ1 := [0, 1, 0, 0, 0, 0, 0, 0, 0, 0, 0, 0, 0, 0, 0, 0, 0, 0, 0, 0, 0]) (ds_nm (i := 16) sc__law_asked.nd rfl (by first | exact Or.inl rfl | exact Or.inr rfl) (de_fn U.g__law_chain (ok__law_chain U) (hr.mono (by first | decide | omega)) tk rfl (da_cons (de_var (pv 6)) (da_cons (de_var (pv 8)) (da_cons (de_var (pv 12)) (da_cons (de_var (pv 11)) (da_cons (de_var (pv 5)) da_nil))))))) (dss_cons (Γ1 := [0, 1, 0, 0, 0, 0, 0, 0, 0, 0, 0, 0, 0, 0, 0, 0, 0, 0, 0, 0, 0]) (ds_if (dt_not (dt_val (de_fn U.g__law_like (ok__law_like U) (hr.mono (by first | decide | omega)) tk rfl (da_cons (de_fnK rfl U.g_heights_hold U.kw_heights_hold_heights_offers (ok_heights_hold U) (hr.mono (by first | decide | omega)) tk rfl (dk_cons (de_fn U.g__law_given_row (ok__law_given_row U) (hr.mono (by first | decide | omega)) tk rfl (da_cons (de_var (pv 16)) (da_cons (de_var (pv 4)) da_nil))) (dk_cons (de_var (pv 7)) dk_nil))) (da_cons de_bl da_nil))))) (dss_one (ds_ret de_bl)) dss_nil) (dss_cons (Γ1 := [0, 1, 0, 0, 0, 0, 0, 0, 0, 0, 0, 0, 0, 0, 0, 0, 0, 0, 0, 0, 0]) (ds_for (passes_of rfl) rfl (di_range1 rfl U.n_range (da_cons de_int da_nil)) (dg_name (pg_name (i := 17) sc__law_asked.nd rfl (by first | exact Or.inl rfl | exact Or.inr rfl))) (dss_one (ds_if (dt_not (dt_val (de_fn U.g__law_like (ok__law_like U) (hr.mono (by first | decide | omega)) tk rfl (da_cons (de_fn U.g_heights_hold (ok_heights_hold U) (hr.mono (by first | decide | omega)) tk rfl (da_cons (de_var (pv 7)) (da_cons (de_fnB U.g__law_kinds (ok__law_kinds U) (hr.mono (by first | decide | omega)) tk rfl (pv 1) (da_cons (de_fn U.g__law_given_row (ok__law_given_row U) (hr.mono (by first | decide | omega)) tk rfl (da_cons (de_var (pv 13)) (da_cons (de_var (pv 4)) da_nil))) da_nil)) da_nil))) (da_cons de_bl da_nil))))) (dss_one (ds_ret de_bl)) dss_nil))) (dss_cons (Γ1 := [0, 1, 0, 0, 0, 0, 0, 0, 0, 0, 0, 0, 0, 0, 0, 0, 0, 0, 0, 0, 0]) (ds_nm (i := 18) sc__law_asked.nd rfl (by first | exact Or.inl rfl | exact Or.inr rfl) (de_ix ix_seq (Prim2P.to p_ix) (de_fn U.g__law_stops (ok__law_stops U) (hr.mono (by first | decide | omega)) tk rfl (da_cons (de_var (pv 6)) da_nil)) de_int)) (dss_cons (Γ1 := [0, 1, 0, 0, 0, 0, 0, 0, 0, 0, 0, 0, 0, 0, 0, 0, 0, 0, 0, 0, 0]) (ds_if (dt_not (dt_val (de_fn U.g__law_like (ok__law_like U) (hr.mono (by first | decide | omega)) tk rfl (da_cons (de_fn U.g_stop_worth (ok_stop_worth U) (hr.mono (by first | decide | omega)) tk rfl (da_cons (de_var (pv 7)) da_nil)) (da_cons (de_lst (k := 0) (da_cons (de_ix ix_seq (Prim2P.to p_ix) (de_var (pv 18)) de_int) (da_cons (de_op o_mul p_mul (de_ix ix_seq (Prim2P.to p_ix) (de_var (pv 18)) de_int) (de_var (pv 5))) da_nil))) da_nil))))) (dss_one (ds_ret de_bl)) dss_nil) (dss_one (ds_ret (de_fn U.g__law_like (ok__law_like U) (hr.mono (by first | decide | omega)) tk rfl (da_cons (de_fn U.g_heights_hold (ok_heights_hold U) (hr.mono (by first | decide | omega)) tk rfl (da_cons (de_var (pv 7)) (da_cons (de_fn U.g__law_given_row (ok__law_given_row U) (hr.mono (by first | decide | omega)) tk rfl (da_cons (de_var (pv 13)) (da_cons (de_op op_sub p_i0 de_int (de_var (pv 4))) da_nil))) da_nil))) (da_cons de_bl da_nil))))))))))))))))))))))))))))
theorem ok_law (U : Txt K mg a) : FnOk P w K mg base (L2.CX P w) 11 a.f_law a.d_law ["script"] (spF K (tab a) 0 m_law) := by
  rw [mq_law]
  exact okF (Pk := []) (J := ⟨[0], [0], [0], [0], 0⟩) (Γ := [0]) U.fn_law sc_law rfl rfl (by decide) rfl fun cdv A outer s H E hr tk => (dss_one (ds_try (dss_one (ds_ret (de_fn U.g__law_asked (ok__law_asked U) (hr.mono (by first | decide | omega)) takes0 rfl (da_cons (de_var (pv 0)) da_nil))))))
end
set_option maxHeartbeats 4000000 in
theorem all_mk {l : PySem.W.OpenLaw} {w : World} {K : PySem.W.Frag} {h : Heap} {mg : Str → Option Value} {fa : Addr} {c_Frac c_Offer f__law_pick f__law_cut f__law_worth f__law_offer f__law_offers f__law_unit f__law_row f_is_sequence f_is_integer f_is_between f_Frac___init__ f_as_frac f_is_amount f_is_prize f_Frac_is_below f_kept_prizes f_Offer___init__ f__law_given f__law_prizes f__law_plus f__law_more f__law_whole f__law_need f__law_chain f__law_plain f__law_frac f__law_like f_checked_offers f_is_frac_or_integer f_told_row f_Frac___add__ f_total f_Frac___mul__ f_Frac___sub__ f_Offer_weight_sum f_Offer_shares f_Offer_over f_worth_before f_heights_hold f__law_given_row f__law_kinds f__law_stops f_worths_from f_stop_worth f__law_asked f_law : Addr} (hlaw : ∀ ns : List Int, ns.length ≤ 63 → m_law [.kls (ns.map D.int)] = .ok (.bl true)) (X : K.In h) (G : h.Ns mainGlobals mg) (hfa : mg "law" = some (.ref fa))
    {od__law_pick an__law_pick : Option Addr} {sl__law_pick : Array (Option Value)} {oc__law_pick kV__law_pick dc__law_pick pm__law_pick cd__law_pick ct__law_pick : Value}
    {od__law_cut an__law_cut : Option Addr} {sl__law_cut : Array (Option Value)} {oc__law_cut kV__law_cut dc__law_cut pm__law_cut cd__law_cut ct__law_cut : Value}
    {od__law_worth an__law_worth : Option Addr} {sl__law_worth : Array (Option Value)} {oc__law_worth kV__law_worth dc__law_worth pm__law_worth cd__law_worth ct__law_worth : Value}
    {od__law_offer an__law_offer : Option Addr} {sl__law_offer : Array (Option Value)} {oc__law_offer kV__law_offer dc__law_offer pm__law_offer cd__law_offer ct__law_offer : Value}
    {od__law_offers an__law_offers : Option Addr} {sl__law_offers : Array (Option Value)} {oc__law_offers kV__law_offers dc__law_offers pm__law_offers cd__law_offers ct__law_offers : Value}
    {od__law_unit an__law_unit : Option Addr} {sl__law_unit : Array (Option Value)} {oc__law_unit kV__law_unit dc__law_unit pm__law_unit cd__law_unit ct__law_unit : Value}
    {od__law_row an__law_row : Option Addr} {sl__law_row : Array (Option Value)} {oc__law_row kV__law_row dc__law_row pm__law_row cd__law_row ct__law_row : Value}
    {od_is_sequence an_is_sequence : Option Addr} {sl_is_sequence : Array (Option Value)} {oc_is_sequence kV_is_sequence dc_is_sequence pm_is_sequence cd_is_sequence ct_is_sequence : Value}
    {od_is_integer an_is_integer : Option Addr} {sl_is_integer : Array (Option Value)} {oc_is_integer kV_is_integer dc_is_integer pm_is_integer cd_is_integer ct_is_integer : Value}
    {od_is_between an_is_between : Option Addr} {sl_is_between : Array (Option Value)} {oc_is_between kV_is_between dc_is_between pm_is_between cd_is_between ct_is_between : Value}
    {od_Frac___init__ an_Frac___init__ : Option Addr} {sl_Frac___init__ : Array (Option Value)} {oc_Frac___init__ kV_Frac___init__ dc_Frac___init__ pm_Frac___init__ cd_Frac___init__ ct_Frac___init__ : Value}
    {t_Frac___init__ : Addr} {td_Frac___init__ : Option Addr} {ts_Frac___init__ : Array (Option Value)} {tc_Frac___init__ : Value} {tj_Frac___init__ : Tok} {tn_Frac___init__ : Nat}
    {od_as_frac an_as_frac : Option Addr} {sl_as_frac : Array (Option Value)} {oc_as_frac kV_as_frac dc_as_frac pm_as_frac cd_as_frac ct_as_frac : Value}
    {od_is_amount an_is_amount : Option Addr} {sl_is_amount : Array (Option Value)} {oc_is_amount kV_is_amount dc_is_amount pm_is_amount cd_is_amount ct_is_amount : Value}
    {od_is_prize an_is_prize : Option Addr} {sl_is_prize : Array (Option Value)} {oc_is_prize kV_is_prize dc_is_prize pm_is_prize cd_is_prize ct_is_prize : Value}
    {od_Frac_is_below an_Frac_is_below : Option Addr} {sl_Frac_is_below : Array (Option Value)} {oc_Frac_is_below kV_Frac_is_below dc_Frac_is_below pm_Frac_is_below cd_Frac_is_below ct_Frac_is_below : Value}
    {od_kept_prizes an_kept_prizes : Option Addr} {sl_kept_prizes : Array (Option Value)} {oc_kept_prizes kV_kept_prizes dc_kept_prizes pm_kept_prizes cd_kept_prizes ct_kept_prizes : Value}
    {od_Offer___init__ an_Offer___init__ : Option Addr} {sl_Offer___init__ : Array (Option Value)} {oc_Offer___init__ kV_Offer___init__ dc_Offer___init__ pm_Offer___init__ cd_Offer___init__ ct_Offer___init__ : Value}
    {od__law_given an__law_given : Option Addr} {sl__law_given : Array (Option Value)} {oc__law_given kV__law_given dc__law_given pm__law_given cd__law_given ct__law_given : Value}
    {od__law_prizes an__law_prizes : Option Addr} {sl__law_prizes : Array (Option Value)} {oc__law_prizes kV__law_prizes dc__law_prizes pm__law_prizes cd__law_prizes ct__law_prizes : Value}
    {od__law_plus an__law_plus : Option Addr} {sl__law_plus : Array (Option Value)} {oc__law_plus kV__law_plus dc__law_plus pm__law_plus cd__law_plus ct__law_plus : Value}
    {od__law_more an__law_more : Option Addr} {sl__law_more : Array (Option Value)} {oc__law_more kV__law_more dc__law_more pm__law_more cd__law_more ct__law_more : Value}
    {od__law_whole an__law_whole : Option Addr} {sl__law_whole : Array (Option Value)} {oc__law_whole kV__law_whole dc__law_whole pm__law_whole cd__law_whole ct__law_whole : Value}
    {od__law_need an__law_need : Option Addr} {sl__law_need : Array (Option Value)} {oc__law_need kV__law_need dc__law_need pm__law_need cd__law_need ct__law_need : Value}
    {od__law_chain an__law_chain : Option Addr} {sl__law_chain : Array (Option Value)} {oc__law_chain kV__law_chain dc__law_chain pm__law_chain cd__law_chain ct__law_chain : Value}
    {od__law_plain an__law_plain : Option Addr} {sl__law_plain : Array (Option Value)} {oc__law_plain kV__law_plain dc__law_plain pm__law_plain cd__law_plain ct__law_plain : Value}
    {od__law_frac an__law_frac : Option Addr} {sl__law_frac : Array (Option Value)} {oc__law_frac kV__law_frac dc__law_frac pm__law_frac cd__law_frac ct__law_frac : Value}
    {od__law_like an__law_like : Option Addr} {sl__law_like : Array (Option Value)} {oc__law_like kV__law_like dc__law_like pm__law_like cd__law_like ct__law_like : Value}
    {od_checked_offers an_checked_offers : Option Addr} {sl_checked_offers : Array (Option Value)} {oc_checked_offers kV_checked_offers dc_checked_offers pm_checked_offers cd_checked_offers ct_checked_offers : Value}
    {od_is_frac_or_integer an_is_frac_or_integer : Option Addr} {sl_is_frac_or_integer : Array (Option Value)} {oc_is_frac_or_integer kV_is_frac_or_integer dc_is_frac_or_integer pm_is_frac_or_integer cd_is_frac_or_integer ct_is_frac_or_integer : Value}
    {od_told_row an_told_row : Option Addr} {sl_told_row : Array (Option Value)} {oc_told_row kV_told_row dc_told_row pm_told_row cd_told_row ct_told_row : Value}
    {od_Frac___add__ an_Frac___add__ : Option Addr} {sl_Frac___add__ : Array (Option Value)} {oc_Frac___add__ kV_Frac___add__ dc_Frac___add__ pm_Frac___add__ cd_Frac___add__ ct_Frac___add__ : Value}
    {od_total an_total : Option Addr} {sl_total : Array (Option Value)} {oc_total kV_total dc_total pm_total cd_total ct_total : Value}
    {od_Frac___mul__ an_Frac___mul__ : Option Addr} {sl_Frac___mul__ : Array (Option Value)} {oc_Frac___mul__ kV_Frac___mul__ dc_Frac___mul__ pm_Frac___mul__ cd_Frac___mul__ ct_Frac___mul__ : Value}
    {od_Frac___sub__ an_Frac___sub__ : Option Addr} {sl_Frac___sub__ : Array (Option Value)} {oc_Frac___sub__ kV_Frac___sub__ dc_Frac___sub__ pm_Frac___sub__ cd_Frac___sub__ ct_Frac___sub__ : Value}
    {od_Offer_weight_sum an_Offer_weight_sum : Option Addr} {sl_Offer_weight_sum : Array (Option Value)} {oc_Offer_weight_sum kV_Offer_weight_sum dc_Offer_weight_sum pm_Offer_weight_sum cd_Offer_weight_sum ct_Offer_weight_sum : Value}
    {od_Offer_shares an_Offer_shares : Option Addr} {sl_Offer_shares : Array (Option Value)} {oc_Offer_shares kV_Offer_shares dc_Offer_shares pm_Offer_shares cd_Offer_shares ct_Offer_shares : Value}
    {od_Offer_over an_Offer_over : Option Addr} {sl_Offer_over : Array (Option Value)} {oc_Offer_over kV_Offer_over dc_Offer_over pm_Offer_over cd_Offer_over ct_Offer_over : Value}
    {od_worth_before an_worth_before : Option Addr} {sl_worth_before : Array (Option Value)} {oc_worth_before kV_worth_before dc_worth_before pm_worth_before cd_worth_before ct_worth_before : Value}
    {od_heights_hold an_heights_hold : Option Addr} {sl_heights_hold : Array (Option Value)} {oc_heights_hold kV_heights_hold dc_heights_hold pm_heights_hold cd_heights_hold ct_heights_hold : Value}
    {od__law_given_row an__law_given_row : Option Addr} {sl__law_given_row : Array (Option Value)} {oc__law_given_row kV__law_given_row dc__law_given_row pm__law_given_row cd__law_given_row ct__law_given_row : Value}
    {od__law_kinds an__law_kinds : Option Addr} {sl__law_kinds : Array (Option Value)} {oc__law_kinds kV__law_kinds dc__law_kinds pm__law_kinds cd__law_kinds ct__law_kinds : Value}
    {od__law_stops an__law_stops : Option Addr} {sl__law_stops : Array (Option Value)} {oc__law_stops kV__law_stops dc__law_stops pm__law_stops cd__law_stops ct__law_stops : Value}
    {od_worths_from an_worths_from : Option Addr} {sl_worths_from : Array (Option Value)} {oc_worths_from kV_worths_from dc_worths_from pm_worths_from cd_worths_from ct_worths_from : Value}
    {od_stop_worth an_stop_worth : Option Addr} {sl_stop_worth : Array (Option Value)} {oc_stop_worth kV_stop_worth dc_stop_worth pm_stop_worth cd_stop_worth ct_stop_worth : Value}
    {od__law_asked an__law_asked : Option Addr} {sl__law_asked : Array (Option Value)} {oc__law_asked kV__law_asked dc__law_asked pm__law_asked cd__law_asked ct__law_asked : Value}
    {od_law an_law : Option Addr} {sl_law : Array (Option Value)} {oc_law kV_law dc_law pm_law cd_law ct_law : Value}
    {tk_MOST_OVER : Tok}
    {tk_MOST_UNDER : Tok}
    {tk_MOST_WEIGHT : Tok}
    {tk_MOST_PRIZES : Tok}
    (hc_Frac : PySem.W.nsIn K mainGlobals "Frac" = some (some (.ref c_Frac)))
    (hc_Offer : PySem.W.nsIn K mainGlobals "Offer" = some (some (.ref c_Offer)))
    (a__law_pick : PySem.W.nsIn K mainGlobals "_law_pick" = some (some (.ref f__law_pick)))
    (l__law_pick : K.lookup f__law_pick = some ⟨oc__law_pick, od__law_pick, .func (PySem.W.fnOf "_law_pick" "_law_pick" (defArgs s__law_pick) (defBody s__law_pick) (defScope s__law_pick) .none kV__law_pick dc__law_pick pm__law_pick an__law_pick cd__law_pick ct__law_pick), sl__law_pick⟩)
    (c__law_pick : PySem.W.codeIn K cd__law_pick "_law_pick" = true)
    (k__law_pick : PySem.W.keepIn K (.ref f__law_pick) = true)
    (a__law_cut : PySem.W.nsIn K mainGlobals "_law_cut" = some (some (.ref f__law_cut)))
    (l__law_cut : K.lookup f__law_cut = some ⟨oc__law_cut, od__law_cut, .func (PySem.W.fnOf "_law_cut" "_law_cut" (defArgs s__law_cut) (defBody s__law_cut) (defScope s__law_cut) .none kV__law_cut dc__law_cut pm__law_cut an__law_cut cd__law_cut ct__law_cut), sl__law_cut⟩)
    (c__law_cut : PySem.W.codeIn K cd__law_cut "_law_cut" = true)
    (k__law_cut : PySem.W.keepIn K (.ref f__law_cut) = true)
    (a__law_worth : PySem.W.nsIn K mainGlobals "_law_worth" = some (some (.ref f__law_worth)))
    (l__law_worth : K.lookup f__law_worth = some ⟨oc__law_worth, od__law_worth, .func (PySem.W.fnOf "_law_worth" "_law_worth" (defArgs s__law_worth) (defBody s__law_worth) (defScope s__law_worth) .none kV__law_worth dc__law_worth pm__law_worth an__law_worth cd__law_worth ct__law_worth), sl__law_worth⟩)
    (c__law_worth : PySem.W.codeIn K cd__law_worth "_law_worth" = true)
    (k__law_worth : PySem.W.keepIn K (.ref f__law_worth) = true)
    (a__law_offer : PySem.W.nsIn K mainGlobals "_law_offer" = some (some (.ref f__law_offer)))
    (l__law_offer : K.lookup f__law_offer = some ⟨oc__law_offer, od__law_offer, .func (PySem.W.fnOf "_law_offer" "_law_offer" (defArgs s__law_offer) (defBody s__law_offer) (defScope s__law_offer) .none kV__law_offer dc__law_offer pm__law_offer an__law_offer cd__law_offer ct__law_offer), sl__law_offer⟩)
    (c__law_offer : PySem.W.codeIn K cd__law_offer "_law_offer" = true)
    (k__law_offer : PySem.W.keepIn K (.ref f__law_offer) = true)
    (a__law_offers : PySem.W.nsIn K mainGlobals "_law_offers" = some (some (.ref f__law_offers)))
    (l__law_offers : K.lookup f__law_offers = some ⟨oc__law_offers, od__law_offers, .func (PySem.W.fnOf "_law_offers" "_law_offers" (defArgs s__law_offers) (defBody s__law_offers) (defScope s__law_offers) .none kV__law_offers dc__law_offers pm__law_offers an__law_offers cd__law_offers ct__law_offers), sl__law_offers⟩)
    (c__law_offers : PySem.W.codeIn K cd__law_offers "_law_offers" = true)
    (k__law_offers : PySem.W.keepIn K (.ref f__law_offers) = true)
    (a__law_unit : PySem.W.nsIn K mainGlobals "_law_unit" = some (some (.ref f__law_unit)))
    (l__law_unit : K.lookup f__law_unit = some ⟨oc__law_unit, od__law_unit, .func (PySem.W.fnOf "_law_unit" "_law_unit" (defArgs s__law_unit) (defBody s__law_unit) (defScope s__law_unit) .none kV__law_unit dc__law_unit pm__law_unit an__law_unit cd__law_unit ct__law_unit), sl__law_unit⟩)
    (c__law_unit : PySem.W.codeIn K cd__law_unit "_law_unit" = true)
    (k__law_unit : PySem.W.keepIn K (.ref f__law_unit) = true)
    (a__law_row : PySem.W.nsIn K mainGlobals "_law_row" = some (some (.ref f__law_row)))
    (l__law_row : K.lookup f__law_row = some ⟨oc__law_row, od__law_row, .func (PySem.W.fnOf "_law_row" "_law_row" (defArgs s__law_row) (defBody s__law_row) (defScope s__law_row) .none kV__law_row dc__law_row pm__law_row an__law_row cd__law_row ct__law_row), sl__law_row⟩)
    (c__law_row : PySem.W.codeIn K cd__law_row "_law_row" = true)
    (k__law_row : PySem.W.keepIn K (.ref f__law_row) = true)
    (a_is_sequence : PySem.W.nsIn K mainGlobals "is_sequence" = some (some (.ref f_is_sequence)))
    (l_is_sequence : K.lookup f_is_sequence = some ⟨oc_is_sequence, od_is_sequence, .func (PySem.W.fnOf "is_sequence" "is_sequence" (defArgs s_is_sequence) (defBody s_is_sequence) (defScope s_is_sequence) .none kV_is_sequence dc_is_sequence pm_is_sequence an_is_sequence cd_is_sequence ct_is_sequence), sl_is_sequence⟩)
    (c_is_sequence : PySem.W.codeIn K cd_is_sequence "is_sequence" = true)
    (k_is_sequence : PySem.W.keepIn K (.ref f_is_sequence) = true)
    (a_is_integer : PySem.W.nsIn K mainGlobals "is_integer" = some (some (.ref f_is_integer)))
    (l_is_integer : K.lookup f_is_integer = some ⟨oc_is_integer, od_is_integer, .func (PySem.W.fnOf "is_integer" "is_integer" (defArgs s_is_integer) (defBody s_is_integer) (defScope s_is_integer) .none kV_is_integer dc_is_integer pm_is_integer an_is_integer cd_is_integer ct_is_integer), sl_is_integer⟩)
    (c_is_integer : PySem.W.codeIn K cd_is_integer "is_integer" = true)
    (k_is_integer : PySem.W.keepIn K (.ref f_is_integer) = true)
    (a_is_between : PySem.W.nsIn K mainGlobals "is_between" = some (some (.ref f_is_between)))
    (l_is_between : K.lookup f_is_between = some ⟨oc_is_between, od_is_between, .func (PySem.W.fnOf "is_between" "is_between" (defArgs s_is_between) (defBody s_is_between) (defScope s_is_between) .none kV_is_between dc_is_between pm_is_between an_is_between cd_is_between ct_is_between), sl_is_between⟩)
    (c_is_between : PySem.W.codeIn K cd_is_between "is_between" = true)
    (k_is_between : PySem.W.keepIn K (.ref f_is_between) = true)
    (a_Frac___init__ : PySem.W.findIn K (.ref c_Frac) "__init__" = some (some (.ref f_Frac___init__)))
    (i_Frac___init__ : PySem.W.isFn K (.ref f_Frac___init__) = true)
    (l_Frac___init__ : K.lookup f_Frac___init__ = some ⟨oc_Frac___init__, od_Frac___init__, .func (PySem.W.fnOf "__init__" "Frac.__init__" (defArgs s_Frac___init__) (defBody s_Frac___init__) (defScope s_Frac___init__) (.ref t_Frac___init__) kV_Frac___init__ dc_Frac___init__ pm_Frac___init__ an_Frac___init__ cd_Frac___init__ ct_Frac___init__), sl_Frac___init__⟩)
    (lt_Frac___init__ : K.lookup t_Frac___init__ = some ⟨tc_Frac___init__, td_Frac___init__, .seq #[.int 1 tj_Frac___init__] tn_Frac___init__, ts_Frac___init__⟩)
    (c_Frac___init__ : PySem.W.codeIn K cd_Frac___init__ "Frac.__init__" = true)
    (k_Frac___init__ : PySem.W.keepIn K (.ref f_Frac___init__) = true)
    (a_as_frac : PySem.W.nsIn K mainGlobals "as_frac" = some (some (.ref f_as_frac)))
    (l_as_frac : K.lookup f_as_frac = some ⟨oc_as_frac, od_as_frac, .func (PySem.W.fnOf "as_frac" "as_frac" (defArgs s_as_frac) (defBody s_as_frac) (defScope s_as_frac) .none kV_as_frac dc_as_frac pm_as_frac an_as_frac cd_as_frac ct_as_frac), sl_as_frac⟩)
    (c_as_frac : PySem.W.codeIn K cd_as_frac "as_frac" = true)
    (k_as_frac : PySem.W.keepIn K (.ref f_as_frac) = true)
    (a_is_amount : PySem.W.nsIn K mainGlobals "is_amount" = some (some (.ref f_is_amount)))
    (l_is_amount : K.lookup f_is_amount = some ⟨oc_is_amount, od_is_amount, .func (PySem.W.fnOf "is_amount" "is_amount" (defArgs s_is_amount) (defBody s_is_amount) (defScope s_is_amount) .none kV_is_amount dc_is_amount pm_is_amount an_is_amount cd_is_amount ct_is_amount), sl_is_amount⟩)
    (c_is_amount : PySem.W.codeIn K cd_is_amount "is_amount" = true)
    (k_is_amount : PySem.W.keepIn K (.ref f_is_amount) = true)
    (a_is_prize : PySem.W.nsIn K mainGlobals "is_prize" = some (some (.ref f_is_prize)))
    (l_is_prize : K.lookup f_is_prize = some ⟨oc_is_prize, od_is_prize, .func (PySem.W.fnOf "is_prize" "is_prize" (defArgs s_is_prize) (defBody s_is_prize) (defScope s_is_prize) .none kV_is_prize dc_is_prize pm_is_prize an_is_prize cd_is_prize ct_is_prize), sl_is_prize⟩)
    (c_is_prize : PySem.W.codeIn K cd_is_prize "is_prize" = true)
    (k_is_prize : PySem.W.keepIn K (.ref f_is_prize) = true)
    (a_Frac_is_below : PySem.W.findIn K (.ref c_Frac) "is_below" = some (some (.ref f_Frac_is_below)))
    (i_Frac_is_below : PySem.W.isFn K (.ref f_Frac_is_below) = true)
    (l_Frac_is_below : K.lookup f_Frac_is_below = some ⟨oc_Frac_is_below, od_Frac_is_below, .func (PySem.W.fnOf "is_below" "Frac.is_below" (defArgs s_Frac_is_below) (defBody s_Frac_is_below) (defScope s_Frac_is_below) .none kV_Frac_is_below dc_Frac_is_below pm_Frac_is_below an_Frac_is_below cd_Frac_is_below ct_Frac_is_below), sl_Frac_is_below⟩)
    (c_Frac_is_below : PySem.W.codeIn K cd_Frac_is_below "Frac.is_below" = true)
    (k_Frac_is_below : PySem.W.keepIn K (.ref f_Frac_is_below) = true)
    (a_kept_prizes : PySem.W.nsIn K mainGlobals "kept_prizes" = some (some (.ref f_kept_prizes)))
    (l_kept_prizes : K.lookup f_kept_prizes = some ⟨oc_kept_prizes, od_kept_prizes, .func (PySem.W.fnOf "kept_prizes" "kept_prizes" (defArgs s_kept_prizes) (defBody s_kept_prizes) (defScope s_kept_prizes) .none kV_kept_prizes dc_kept_prizes pm_kept_prizes an_kept_prizes cd_kept_prizes ct_kept_prizes), sl_kept_prizes⟩)
    (c_kept_prizes : PySem.W.codeIn K cd_kept_prizes "kept_prizes" = true)
    (k_kept_prizes : PySem.W.keepIn K (.ref f_kept_prizes) = true)
    (a_Offer___init__ : PySem.W.findIn K (.ref c_Offer) "__init__" = some (some (.ref f_Offer___init__)))
    (i_Offer___init__ : PySem.W.isFn K (.ref f_Offer___init__) = true)
    (l_Offer___init__ : K.lookup f_Offer___init__ = some ⟨oc_Offer___init__, od_Offer___init__, .func (PySem.W.fnOf "__init__" "Offer.__init__" (defArgs s_Offer___init__) (defBody s_Offer___init__) (defScope s_Offer___init__) .none kV_Offer___init__ dc_Offer___init__ pm_Offer___init__ an_Offer___init__ cd_Offer___init__ ct_Offer___init__), sl_Offer___init__⟩)
    (c_Offer___init__ : PySem.W.codeIn K cd_Offer___init__ "Offer.__init__" = true)
    (k_Offer___init__ : PySem.W.keepIn K (.ref f_Offer___init__) = true)
    (a__law_given : PySem.W.nsIn K mainGlobals "_law_given" = some (some (.ref f__law_given)))
    (l__law_given : K.lookup f__law_given = some ⟨oc__law_given, od__law_given, .func (PySem.W.fnOf "_law_given" "_law_given" (defArgs s__law_given) (defBody s__law_given) (defScope s__law_given) .none kV__law_given dc__law_given pm__law_given an__law_given cd__law_given ct__law_given), sl__law_given⟩)
    (c__law_given : PySem.W.codeIn K cd__law_given "_law_given" = true)
    (k__law_given : PySem.W.keepIn K (.ref f__law_given) = true)
    (a__law_prizes : PySem.W.nsIn K mainGlobals "_law_prizes" = some (some (.ref f__law_prizes)))
    (l__law_prizes : K.lookup f__law_prizes = some ⟨oc__law_prizes, od__law_prizes, .func (PySem.W.fnOf "_law_prizes" "_law_prizes" (defArgs s__law_prizes) (defBody s__law_prizes) (defScope s__law_prizes) .none kV__law_prizes dc__law_prizes pm__law_prizes an__law_prizes cd__law_prizes ct__law_prizes), sl__law_prizes⟩)
    (c__law_prizes : PySem.W.codeIn K cd__law_prizes "_law_prizes" = true)
    (k__law_prizes : PySem.W.keepIn K (.ref f__law_prizes) = true)
    (a__law_plus : PySem.W.nsIn K mainGlobals "_law_plus" = some (some (.ref f__law_plus)))
    (l__law_plus : K.lookup f__law_plus = some ⟨oc__law_plus, od__law_plus, .func (PySem.W.fnOf "_law_plus" "_law_plus" (defArgs s__law_plus) (defBody s__law_plus) (defScope s__law_plus) .none kV__law_plus dc__law_plus pm__law_plus an__law_plus cd__law_plus ct__law_plus), sl__law_plus⟩)
    (c__law_plus : PySem.W.codeIn K cd__law_plus "_law_plus" = true)
    (k__law_plus : PySem.W.keepIn K (.ref f__law_plus) = true)
    (a__law_more : PySem.W.nsIn K mainGlobals "_law_more" = some (some (.ref f__law_more)))
    (l__law_more : K.lookup f__law_more = some ⟨oc__law_more, od__law_more, .func (PySem.W.fnOf "_law_more" "_law_more" (defArgs s__law_more) (defBody s__law_more) (defScope s__law_more) .none kV__law_more dc__law_more pm__law_more an__law_more cd__law_more ct__law_more), sl__law_more⟩)
    (c__law_more : PySem.W.codeIn K cd__law_more "_law_more" = true)
    (k__law_more : PySem.W.keepIn K (.ref f__law_more) = true)
    (a__law_whole : PySem.W.nsIn K mainGlobals "_law_whole" = some (some (.ref f__law_whole)))
    (l__law_whole : K.lookup f__law_whole = some ⟨oc__law_whole, od__law_whole, .func (PySem.W.fnOf "_law_whole" "_law_whole" (defArgs s__law_whole) (defBody s__law_whole) (defScope s__law_whole) .none kV__law_whole dc__law_whole pm__law_whole an__law_whole cd__law_whole ct__law_whole), sl__law_whole⟩)
    (c__law_whole : PySem.W.codeIn K cd__law_whole "_law_whole" = true)
    (k__law_whole : PySem.W.keepIn K (.ref f__law_whole) = true)
    (a__law_need : PySem.W.nsIn K mainGlobals "_law_need" = some (some (.ref f__law_need)))
    (l__law_need : K.lookup f__law_need = some ⟨oc__law_need, od__law_need, .func (PySem.W.fnOf "_law_need" "_law_need" (defArgs s__law_need) (defBody s__law_need) (defScope s__law_need) .none kV__law_need dc__law_need pm__law_need an__law_need cd__law_need ct__law_need), sl__law_need⟩)
    (c__law_need : PySem.W.codeIn K cd__law_need "_law_need" = true)
    (k__law_need : PySem.W.keepIn K (.ref f__law_need) = true)
    (a__law_chain : PySem.W.nsIn K mainGlobals "_law_chain" = some (some (.ref f__law_chain)))
    (l__law_chain : K.lookup f__law_chain = some ⟨oc__law_chain, od__law_chain, .func (PySem.W.fnOf "_law_chain" "_law_chain" (defArgs s__law_chain) (defBody s__law_chain) (defScope s__law_chain) .none kV__law_chain dc__law_chain pm__law_chain an__law_chain cd__law_chain ct__law_chain), sl__law_chain⟩)
    (c__law_chain : PySem.W.codeIn K cd__law_chain "_law_chain" = true)
    (k__law_chain : PySem.W.keepIn K (.ref f__law_chain) = true)
    (a__law_plain : PySem.W.nsIn K mainGlobals "_law_plain" = some (some (.ref f__law_plain)))
    (l__law_plain : K.lookup f__law_plain = some ⟨oc__law_plain, od__law_plain, .func (PySem.W.fnOf "_law_plain" "_law_plain" (defArgs s__law_plain) (defBody s__law_plain) (defScope s__law_plain) .none kV__law_plain dc__law_plain pm__law_plain an__law_plain cd__law_plain ct__law_plain), sl__law_plain⟩)
    (c__law_plain : PySem.W.codeIn K cd__law_plain "_law_plain" = true)
    (k__law_plain : PySem.W.keepIn K (.ref f__law_plain) = true)
    (a__law_frac : PySem.W.nsIn K mainGlobals "_law_frac" = some (some (.ref f__law_frac)))
    (l__law_frac : K.lookup f__law_frac = some ⟨oc__law_frac, od__law_frac, .func (PySem.W.fnOf "_law_frac" "_law_frac" (defArgs s__law_frac) (defBody s__law_frac) (defScope s__law_frac) .none kV__law_frac dc__law_frac pm__law_frac an__law_frac cd__law_frac ct__law_frac), sl__law_frac⟩)
    (c__law_frac : PySem.W.codeIn K cd__law_frac "_law_frac" = true)
    (k__law_frac : PySem.W.keepIn K (.ref f__law_frac) = true)
    (a__law_like : PySem.W.nsIn K mainGlobals "_law_like" = some (some (.ref f__law_like)))
    (l__law_like : K.lookup f__law_like = some ⟨oc__law_like, od__law_like, .func (PySem.W.fnOf "_law_like" "_law_like" (defArgs s__law_like) (defBody s__law_like) (defScope s__law_like) .none kV__law_like dc__law_like pm__law_like an__law_like cd__law_like ct__law_like), sl__law_like⟩)
    (c__law_like : PySem.W.codeIn K cd__law_like "_law_like" = true)
    (k__law_like : PySem.W.keepIn K (.ref f__law_like) = true)
    (a_checked_offers : PySem.W.nsIn K mainGlobals "checked_offers" = some (some (.ref f_checked_offers)))
    (l_checked_offers : K.lookup f_checked_offers = some ⟨oc_checked_offers, od_checked_offers, .func (PySem.W.fnOf "checked_offers" "checked_offers" (defArgs s_checked_offers) (defBody s_checked_offers) (defScope s_checked_offers) .none kV_checked_offers dc_checked_offers pm_checked_offers an_checked_offers cd_checked_offers ct_checked_offers), sl_checked_offers⟩)
    (c_checked_offers : PySem.W.codeIn K cd_checked_offers "checked_offers" = true)
    (k_checked_offers : PySem.W.keepIn K (.ref f_checked_offers) = true)
    (a_is_frac_or_integer : PySem.W.nsIn K mainGlobals "is_frac_or_integer" = some (some (.ref f_is_frac_or_integer)))
    (l_is_frac_or_integer : K.lookup f_is_frac_or_integer = some ⟨oc_is_frac_or_integer, od_is_frac_or_integer, .func (PySem.W.fnOf "is_frac_or_integer" "is_frac_or_integer" (defArgs s_is_frac_or_integer) (defBody s_is_frac_or_integer) (defScope s_is_frac_or_integer) .none kV_is_frac_or_integer dc_is_frac_or_integer pm_is_frac_or_integer an_is_frac_or_integer cd_is_frac_or_integer ct_is_frac_or_integer), sl_is_frac_or_integer⟩)
    (c_is_frac_or_integer : PySem.W.codeIn K cd_is_frac_or_integer "is_frac_or_integer" = true)
    (k_is_frac_or_integer : PySem.W.keepIn K (.ref f_is_frac_or_integer) = true)
    (a_told_row : PySem.W.nsIn K mainGlobals "told_row" = some (some (.ref f_told_row)))
    (l_told_row : K.lookup f_told_row = some ⟨oc_told_row, od_told_row, .func (PySem.W.fnOf "told_row" "told_row" (defArgs s_told_row) (defBody s_told_row) (defScope s_told_row) .none kV_told_row dc_told_row pm_told_row an_told_row cd_told_row ct_told_row), sl_told_row⟩)
    (c_told_row : PySem.W.codeIn K cd_told_row "told_row" = true)
    (k_told_row : PySem.W.keepIn K (.ref f_told_row) = true)
    (a_Frac___add__ : PySem.W.findIn K (.ref c_Frac) "__add__" = some (some (.ref f_Frac___add__)))
    (i_Frac___add__ : PySem.W.isFn K (.ref f_Frac___add__) = true)
    (l_Frac___add__ : K.lookup f_Frac___add__ = some ⟨oc_Frac___add__, od_Frac___add__, .func (PySem.W.fnOf "__add__" "Frac.__add__" (defArgs s_Frac___add__) (defBody s_Frac___add__) (defScope s_Frac___add__) .none kV_Frac___add__ dc_Frac___add__ pm_Frac___add__ an_Frac___add__ cd_Frac___add__ ct_Frac___add__), sl_Frac___add__⟩)
    (c_Frac___add__ : PySem.W.codeIn K cd_Frac___add__ "Frac.__add__" = true)
    (k_Frac___add__ : PySem.W.keepIn K (.ref f_Frac___add__) = true)
    (a_total : PySem.W.nsIn K mainGlobals "total" = some (some (.ref f_total)))
    (l_total : K.lookup f_total = some ⟨oc_total, od_total, .func (PySem.W.fnOf "total" "total" (defArgs s_total) (defBody s_total) (defScope s_total) .none kV_total dc_total pm_total an_total cd_total ct_total), sl_total⟩)
    (c_total : PySem.W.codeIn K cd_total "total" = true)
    (k_total : PySem.W.keepIn K (.ref f_total) = true)
    (a_Frac___mul__ : PySem.W.findIn K (.ref c_Frac) "__mul__" = some (some (.ref f_Frac___mul__)))
    (i_Frac___mul__ : PySem.W.isFn K (.ref f_Frac___mul__) = true)
    (l_Frac___mul__ : K.lookup f_Frac___mul__ = some ⟨oc_Frac___mul__, od_Frac___mul__, .func (PySem.W.fnOf "__mul__" "Frac.__mul__" (defArgs s_Frac___mul__) (defBody s_Frac___mul__) (defScope s_Frac___mul__) .none kV_Frac___mul__ dc_Frac___mul__ pm_Frac___mul__ an_Frac___mul__ cd_Frac___mul__ ct_Frac___mul__), sl_Frac___mul__⟩)
    (c_Frac___mul__ : PySem.W.codeIn K cd_Frac___mul__ "Frac.__mul__" = true)
    (k_Frac___mul__ : PySem.W.keepIn K (.ref f_Frac___mul__) = true)
    (a_Frac___sub__ : PySem.W.findIn K (.ref c_Frac) "__sub__" = some (some (.ref f_Frac___sub__)))
    (i_Frac___sub__ : PySem.W.isFn K (.ref f_Frac___sub__) = true)
    (l_Frac___sub__ : K.lookup f_Frac___sub__ = some ⟨oc_Frac___sub__, od_Frac___sub__, .func (PySem.W.fnOf "__sub__" "Frac.__sub__" (defArgs s_Frac___sub__) (defBody s_Frac___sub__) (defScope s_Frac___sub__) .none kV_Frac___sub__ dc_Frac___sub__ pm_Frac___sub__ an_Frac___sub__ cd_Frac___sub__ ct_Frac___sub__), sl_Frac___sub__⟩)
    (c_Frac___sub__ : PySem.W.codeIn K cd_Frac___sub__ "Frac.__sub__" = true)
    (k_Frac___sub__ : PySem.W.keepIn K (.ref f_Frac___sub__) = true)
    (a_Offer_weight_sum : PySem.W.findIn K (.ref c_Offer) "weight_sum" = some (some (.ref f_Offer_weight_sum)))
    (i_Offer_weight_sum : PySem.W.isFn K (.ref f_Offer_weight_sum) = true)
    (l_Offer_weight_sum : K.lookup f_Offer_weight_sum = some ⟨oc_Offer_weight_sum, od_Offer_weight_sum, .func (PySem.W.fnOf "weight_sum" "Offer.weight_sum" (defArgs s_Offer_weight_sum) (defBody s_Offer_weight_sum) (defScope s_Offer_weight_sum) .none kV_Offer_weight_sum dc_Offer_weight_sum pm_Offer_weight_sum an_Offer_weight_sum cd_Offer_weight_sum ct_Offer_weight_sum), sl_Offer_weight_sum⟩)
    (c_Offer_weight_sum : PySem.W.codeIn K cd_Offer_weight_sum "Offer.weight_sum" = true)
    (k_Offer_weight_sum : PySem.W.keepIn K (.ref f_Offer_weight_sum) = true)
    (a_Offer_shares : PySem.W.findIn K (.ref c_Offer) "shares" = some (some (.ref f_Offer_shares)))
    (i_Offer_shares : PySem.W.isFn K (.ref f_Offer_shares) = true)
    (l_Offer_shares : K.lookup f_Offer_shares = some ⟨oc_Offer_shares, od_Offer_shares, .func (PySem.W.fnOf "shares" "Offer.shares" (defArgs s_Offer_shares) (defBody s_Offer_shares) (defScope s_Offer_shares) .none kV_Offer_shares dc_Offer_shares pm_Offer_shares an_Offer_shares cd_Offer_shares ct_Offer_shares), sl_Offer_shares⟩)
    (c_Offer_shares : PySem.W.codeIn K cd_Offer_shares "Offer.shares" = true)
    (k_Offer_shares : PySem.W.keepIn K (.ref f_Offer_shares) = true)
    (a_Offer_over : PySem.W.findIn K (.ref c_Offer) "over" = some (some (.ref f_Offer_over)))
    (i_Offer_over : PySem.W.isFn K (.ref f_Offer_over) = true)
    (l_Offer_over : K.lookup f_Offer_over = some ⟨oc_Offer_over, od_Offer_over, .func (PySem.W.fnOf "over" "Offer.over" (defArgs s_Offer_over) (defBody s_Offer_over) (defScope s_Offer_over) .none kV_Offer_over dc_Offer_over pm_Offer_over an_Offer_over cd_Offer_over ct_Offer_over), sl_Offer_over⟩)
    (c_Offer_over : PySem.W.codeIn K cd_Offer_over "Offer.over" = true)
    (k_Offer_over : PySem.W.keepIn K (.ref f_Offer_over) = true)
    (a_worth_before : PySem.W.nsIn K mainGlobals "worth_before" = some (some (.ref f_worth_before)))
    (l_worth_before : K.lookup f_worth_before = some ⟨oc_worth_before, od_worth_before, .func (PySem.W.fnOf "worth_before" "worth_before" (defArgs s_worth_before) (defBody s_worth_before) (defScope s_worth_before) .none kV_worth_before dc_worth_before pm_worth_before an_worth_before cd_worth_before ct_worth_before), sl_worth_before⟩)
    (c_worth_before : PySem.W.codeIn K cd_worth_before "worth_before" = true)
    (k_worth_before : PySem.W.keepIn K (.ref f_worth_before) = true)
    (a_heights_hold : PySem.W.nsIn K mainGlobals "heights_hold" = some (some (.ref f_heights_hold)))
    (l_heights_hold : K.lookup f_heights_hold = some ⟨oc_heights_hold, od_heights_hold, .func (PySem.W.fnOf "heights_hold" "heights_hold" (defArgs s_heights_hold) (defBody s_heights_hold) (defScope s_heights_hold) .none kV_heights_hold dc_heights_hold pm_heights_hold an_heights_hold cd_heights_hold ct_heights_hold), sl_heights_hold⟩)
    (c_heights_hold : PySem.W.codeIn K cd_heights_hold "heights_hold" = true)
    (k_heights_hold : PySem.W.keepIn K (.ref f_heights_hold) = true)
    (a__law_given_row : PySem.W.nsIn K mainGlobals "_law_given_row" = some (some (.ref f__law_given_row)))
    (l__law_given_row : K.lookup f__law_given_row = some ⟨oc__law_given_row, od__law_given_row, .func (PySem.W.fnOf "_law_given_row" "_law_given_row" (defArgs s__law_given_row) (defBody s__law_given_row) (defScope s__law_given_row) .none kV__law_given_row dc__law_given_row pm__law_given_row an__law_given_row cd__law_given_row ct__law_given_row), sl__law_given_row⟩)
    (c__law_given_row : PySem.W.codeIn K cd__law_given_row "_law_given_row" = true)
    (k__law_given_row : PySem.W.keepIn K (.ref f__law_given_row) = true)
    (a__law_kinds : PySem.W.nsIn K mainGlobals "_law_kinds" = some (some (.ref f__law_kinds)))
    (l__law_kinds : K.lookup f__law_kinds = some ⟨oc__law_kinds, od__law_kinds, .func (PySem.W.fnOf "_law_kinds" "_law_kinds" (defArgs s__law_kinds) (defBody s__law_kinds) (defScope s__law_kinds) .none kV__law_kinds dc__law_kinds pm__law_kinds an__law_kinds cd__law_kinds ct__law_kinds), sl__law_kinds⟩)
    (c__law_kinds : PySem.W.codeIn K cd__law_kinds "_law_kinds" = true)
    (k__law_kinds : PySem.W.keepIn K (.ref f__law_kinds) = true)
    (a__law_stops : PySem.W.nsIn K mainGlobals "_law_stops" = some (some (.ref f__law_stops)))
    (l__law_stops : K.lookup f__law_stops = some ⟨oc__law_stops, od__law_stops, .func (PySem.W.fnOf "_law_stops" "_law_stops" (defArgs s__law_stops) (defBody s__law_stops) (defScope s__law_stops) .none kV__law_stops dc__law_stops pm__law_stops an__law_stops cd__law_stops ct__law_stops), sl__law_stops⟩)
    (c__law_stops : PySem.W.codeIn K cd__law_stops "_law_stops" = true)
    (k__law_stops : PySem.W.keepIn K (.ref f__law_stops) = true)
    (a_worths_from : PySem.W.nsIn K mainGlobals "worths_from" = some (some (.ref f_worths_from)))
    (l_worths_from : K.lookup f_worths_from = some ⟨oc_worths_from, od_worths_from, .func (PySem.W.fnOf "worths_from" "worths_from" (defArgs s_worths_from) (defBody s_worths_from) (defScope s_worths_from) .none kV_worths_from dc_worths_from pm_worths_from an_worths_from cd_worths_from ct_worths_from), sl_worths_from⟩)
    (c_worths_from : PySem.W.codeIn K cd_worths_from "worths_from" = true)
    (k_worths_from : PySem.W.keepIn K (.ref f_worths_from) = true)
    (a_stop_worth : PySem.W.nsIn K mainGlobals "stop_worth" = some (some (.ref f_stop_worth)))
    (l_stop_worth : K.lookup f_stop_worth = some ⟨oc_stop_worth, od_stop_worth, .func (PySem.W.fnOf "stop_worth" "stop_worth" (defArgs s_stop_worth) (defBody s_stop_worth) (defScope s_stop_worth) .none kV_stop_worth dc_stop_worth pm_stop_worth an_stop_worth cd_stop_worth ct_stop_worth), sl_stop_worth⟩)
    (c_stop_worth : PySem.W.codeIn K cd_stop_worth "stop_worth" = true)
    (k_stop_worth : PySem.W.keepIn K (.ref f_stop_worth) = true)
    (a__law_asked : PySem.W.nsIn K mainGlobals "_law_asked" = some (some (.ref f__law_asked)))
    (l__law_asked : K.lookup f__law_asked = some ⟨oc__law_asked, od__law_asked, .func (PySem.W.fnOf "_law_asked" "_law_asked" (defArgs s__law_asked) (defBody s__law_asked) (defScope s__law_asked) .none kV__law_asked dc__law_asked pm__law_asked an__law_asked cd__law_asked ct__law_asked), sl__law_asked⟩)
    (c__law_asked : PySem.W.codeIn K cd__law_asked "_law_asked" = true)
    (k__law_asked : PySem.W.keepIn K (.ref f__law_asked) = true)
    (a_law : PySem.W.nsIn K mainGlobals "law" = some (some (.ref f_law)))
    (l_law : K.lookup f_law = some ⟨oc_law, od_law, .func (PySem.W.fnOf "law" "law" (defArgs s_law) (defBody s_law) (defScope s_law) .none kV_law dc_law pm_law an_law cd_law ct_law), sl_law⟩)
    (c_law : PySem.W.codeIn K cd_law "law" = true)
    (k_law : PySem.W.keepIn K (.ref f_law) = true)
    (pg_Frac : PySem.W.plainGet K c_Frac Str.empty = true)
    (hd_Frac : PySem.W.hasDictIn K c_Frac = true)
    (po_Frac : PySem.W.plainOver K c_Frac = true)
    (sa_Frac : PySem.W.findIn K (.ref c_Frac) "__setattr__" = some (some (.builtin "object.__setattr__")))
    (mk_Frac : PySem.W.makesIn K c_Frac = true)
    (kc_Frac : PySem.W.keepIn K (.ref c_Frac) = true)
    (sf_Frac : PySem.W.selfFirst K c_Frac = true)
    (na_Frac_num : PySem.W.findIn K (.ref c_Frac) "num" = some none)
    (na_Frac_den : PySem.W.findIn K (.ref c_Frac) "den" = some none)
    (y0_Frac : PySem.W.isClsIn K c_Frac = true)
    (y1_Frac : PySem.W.typeIn K (.ref c_Frac) = some (.type "type"))
    (y2_Frac : PySem.W.findIn K (.ref c_Frac) "__class__" = some (some (.builtin "object.__class__")))
    (y3_Frac : PySem.W.mroIn K c_Frac (.type "object") = some true)
    (yb0_Frac : PySem.W.subIn K (.type "NoneType") (.ref c_Frac) = some false)
    (yb1_Frac : PySem.W.subIn K (.type "bool") (.ref c_Frac) = some false)
    (yb2_Frac : PySem.W.subIn K (.type "int") (.ref c_Frac) = some false)
    (yb3_Frac : PySem.W.subIn K (.type "str") (.ref c_Frac) = some false)
    (yb4_Frac : PySem.W.subIn K (.type "list") (.ref c_Frac) = some false)
    (yb5_Frac : PySem.W.subIn K (.type "tuple") (.ref c_Frac) = some false)
    (yo0_Frac : PySem.W.subIn K (.ref c_Frac) (.type "int") = some false)
    (yo1_Frac : PySem.W.subIn K (.ref c_Frac) (.type "bool") = some false)
    (yo2_Frac : PySem.W.subIn K (.ref c_Frac) (.type "list") = some false)
    (yo3_Frac : PySem.W.subIn K (.ref c_Frac) (.type "tuple") = some false)
    (yo4_Frac : PySem.W.subIn K (.ref c_Frac) (.type "str") = some false)
    (ne_Frac_Offer : (c_Frac == c_Offer) = false)
    (su_Frac_Offer : PySem.W.subIn K (.ref c_Frac) (.ref c_Offer) = some false)
    (pg_Offer : PySem.W.plainGet K c_Offer Str.empty = true)
    (hd_Offer : PySem.W.hasDictIn K c_Offer = true)
    (po_Offer : PySem.W.plainOver K c_Offer = true)
    (sa_Offer : PySem.W.findIn K (.ref c_Offer) "__setattr__" = some (some (.builtin "object.__setattr__")))
    (mk_Offer : PySem.W.makesIn K c_Offer = true)
    (kc_Offer : PySem.W.keepIn K (.ref c_Offer) = true)
    (na_Offer_prizes : PySem.W.findIn K (.ref c_Offer) "prizes" = some none)
    (y0_Offer : PySem.W.isClsIn K c_Offer = true)
    (y1_Offer : PySem.W.typeIn K (.ref c_Offer) = some (.type "type"))
    (y2_Offer : PySem.W.findIn K (.ref c_Offer) "__class__" = some (some (.builtin "object.__class__")))
    (y3_Offer : PySem.W.mroIn K c_Offer (.type "object") = some true)
    (yb0_Offer : PySem.W.subIn K (.type "NoneType") (.ref c_Offer) = some false)
    (yb1_Offer : PySem.W.subIn K (.type "bool") (.ref c_Offer) = some false)
    (yb2_Offer : PySem.W.subIn K (.type "int") (.ref c_Offer) = some false)
    (yb3_Offer : PySem.W.subIn K (.type "str") (.ref c_Offer) = some false)
    (yb4_Offer : PySem.W.subIn K (.type "list") (.ref c_Offer) = some false)
    (yb5_Offer : PySem.W.subIn K (.type "tuple") (.ref c_Offer) = some false)
    (yo0_Offer : PySem.W.subIn K (.ref c_Offer) (.type "int") = some false)
    (yo1_Offer : PySem.W.subIn K (.ref c_Offer) (.type "bool") = some false)
    (yo2_Offer : PySem.W.subIn K (.ref c_Offer) (.type "list") = some false)
    (yo3_Offer : PySem.W.subIn K (.ref c_Offer) (.type "tuple") = some false)
    (yo4_Offer : PySem.W.subIn K (.ref c_Offer) (.type "str") = some false)
    (ne_Offer_Frac : (c_Offer == c_Frac) = false)
    (su_Offer_Frac : PySem.W.subIn K (.ref c_Offer) (.ref c_Frac) = some false)
    (hget : PySem.W.specialIn K (.builtin "object.__class__") "__get__" = some (some (.builtin "getset_descriptor.__get__")))
    (htk : PySem.W.takesIn K (.builtin "object.__class__") = some true)
    (hn_abs : PySem.W.nsIn K mainGlobals "abs" = some none)
    (hn_all : PySem.W.nsIn K mainGlobals "all" = some none)
    (hn_bool : PySem.W.nsIn K mainGlobals "bool" = some none)
    (hn_enumerate : PySem.W.nsIn K mainGlobals "enumerate" = some none)
    (hn_int : PySem.W.nsIn K mainGlobals "int" = some none)
    (hn_isinstance : PySem.W.nsIn K mainGlobals "isinstance" = some none)
    (hn_len : PySem.W.nsIn K mainGlobals "len" = some none)
    (hn_list : PySem.W.nsIn K mainGlobals "list" = some none)
    (hn_range : PySem.W.nsIn K mainGlobals "range" = some none)
    (hn_reversed : PySem.W.nsIn K mainGlobals "reversed" = some none)
    (hn_str : PySem.W.nsIn K mainGlobals "str" = some none)
    (hn_sum : PySem.W.nsIn K mainGlobals "sum" = some none)
    (hn_tuple : PySem.W.nsIn K mainGlobals "tuple" = some none)
    (hm_gcd : PySem.W.nsIn K mainGlobals "gcd" = some (some (.builtin "math.gcd")))
    (hk_MOST_OVER : PySem.W.nsIn K mainGlobals "MOST_OVER" = some (some (.int 9999 tk_MOST_OVER)))
    (hk_MOST_UNDER : PySem.W.nsIn K mainGlobals "MOST_UNDER" = some (some (.int 99 tk_MOST_UNDER)))
    (hk_MOST_WEIGHT : PySem.W.nsIn K mainGlobals "MOST_WEIGHT" = some (some (.int 999 tk_MOST_WEIGHT)))
    (hk_MOST_PRIZES : PySem.W.nsIn K mainGlobals "MOST_PRIZES" = some (some (.int 6 tk_MOST_PRIZES)))
    : ∃ fd : FuncData, (∀ (s : Shared) (v : Value), BindsTo s fd ⟨[v], []⟩ [("script", v)]) ∧ ∀ base : Heap, K.In base → base.Ns mainGlobals mg → FnOk l.prog w K mg base (L2.CX l.prog w) 11 fa fd ["script"] (spLaw K) := by
  have e := hfa.symm.trans (PySem.W.mg_of X G a_law)
  cases e
  let a : Ad := ⟨c_Frac, c_Offer, f__law_pick, (PySem.W.fnOf "_law_pick" "_law_pick" (defArgs s__law_pick) (defBody s__law_pick) (defScope s__law_pick) .none kV__law_pick dc__law_pick pm__law_pick an__law_pick cd__law_pick ct__law_pick), f__law_cut, (PySem.W.fnOf "_law_cut" "_law_cut" (defArgs s__law_cut) (defBody s__law_cut) (defScope s__law_cut) .none kV__law_cut dc__law_cut pm__law_cut an__law_cut cd__law_cut ct__law_cut), f__law_worth, (PySem.W.fnOf "_law_worth" "_law_worth" (defArgs s__law_worth) (defBody s__law_worth) (defScope s__law_worth) .none kV__law_worth dc__law_worth pm__law_worth an__law_worth cd__law_worth ct__law_worth), f__law_offer, (PySem.W.fnOf "_law_offer" "_law_offer" (defArgs s__law_offer) (defBody s__law_offer) (defScope s__law_offer) .none kV__law_offer dc__law_offer pm__law_offer an__law_offer cd__law_offer ct__law_offer), f__law_offers, (PySem.W.fnOf "_law_offers" "_law_offers" (defArgs s__law_offers) (defBody s__law_offers) (defScope s__law_offers) .none kV__law_offers dc__law_offers pm__law_offers an__law_offers cd__law_offers ct__law_offers), f__law_unit, (PySem.W.fnOf "_law_unit" "_law_unit" (defArgs s__law_unit) (defBody s__law_unit) (defScope s__law_unit) .none kV__law_unit dc__law_unit pm__law_unit an__law_unit cd__law_unit ct__law_unit), f__law_row, (PySem.W.fnOf "_law_row" "_law_row" (defArgs s__law_row) (defBody s__law_row) (defScope s__law_row) .none kV__law_row dc__law_row pm__law_row an__law_row cd__law_row ct__law_row), f_is_sequence, (PySem.W.fnOf "is_sequence" "is_sequence" (defArgs s_is_sequence) (defBody s_is_sequence) (defScope s_is_sequence) .none kV_is_sequence dc_is_sequence pm_is_sequence an_is_sequence cd_is_sequence ct_is_sequence), f_is_integer, (PySem.W.fnOf "is_integer" "is_integer" (defArgs s_is_integer) (defBody s_is_integer) (defScope s_is_integer) .none kV_is_integer dc_is_integer pm_is_integer an_is_integer cd_is_integer ct_is_integer), f_is_between, (PySem.W.fnOf "is_between" "is_between" (defArgs s_is_between) (defBody s_is_between) (defScope s_is_between) .none kV_is_between dc_is_between pm_is_between an_is_between cd_is_between ct_is_between), f_Frac___init__, (PySem.W.fnOf "__init__" "Frac.__init__" (defArgs s_Frac___init__) (defBody s_Frac___init__) (defScope s_Frac___init__) (.ref t_Frac___init__) kV_Frac___init__ dc_Frac___init__ pm_Frac___init__ an_Frac___init__ cd_Frac___init__ ct_Frac___init__), f_as_frac, (PySem.W.fnOf "as_frac" "as_frac" (defArgs s_as_frac) (defBody s_as_frac) (defScope s_as_frac) .none kV_as_frac dc_as_frac pm_as_frac an_as_frac cd_as_frac ct_as_frac), f_is_amount, (PySem.W.fnOf "is_amount" "is_amount" (defArgs s_is_amount) (defBody s_is_amount) (defScope s_is_amount) .none kV_is_amount dc_is_amount pm_is_amount an_is_amount cd_is_amount ct_is_amount), f_is_prize, (PySem.W.fnOf "is_prize" "is_prize" (defArgs s_is_prize) (defBody s_is_prize) (defScope s_is_prize) .none kV_is_prize dc_is_prize pm_is_prize an_is_prize cd_is_prize ct_is_prize), f_Frac_is_below, (PySem.W.fnOf "is_below" "Frac.is_below" (defArgs s_Frac_is_below) (defBody s_Frac_is_below) (defScope s_Frac_is_below) .none kV_Frac_is_below dc_Frac_is_below pm_Frac_is_below an_Frac_is_below cd_Frac_is_below ct_Frac_is_below), f_kept_prizes, (PySem.W.fnOf "kept_prizes" "kept_prizes" (defArgs s_kept_prizes) (defBody s_kept_prizes) (defScope s_kept_prizes) .none kV_kept_prizes dc_kept_prizes pm_kept_prizes an_kept_prizes cd_kept_prizes ct_kept_prizes), f_Offer___init__, (PySem.W.fnOf "__init__" "Offer.__init__" (defArgs s_Offer___init__) (defBody s_Offer___init__) (defScope s_Offer___init__) .none kV_Offer___init__ dc_Offer___init__ pm_Offer___init__ an_Offer___init__ cd_Offer___init__ ct_Offer___init__), f__law_given, (PySem.W.fnOf "_law_given" "_law_given" (defArgs s__law_given) (defBody s__law_given) (defScope s__law_given) .none kV__law_given dc__law_given pm__law_given an__law_given cd__law_given ct__law_given), f__law_prizes, (PySem.W.fnOf "_law_prizes" "_law_prizes" (defArgs s__law_prizes) (defBody s__law_prizes) (defScope s__law_prizes) .none kV__law_prizes dc__law_prizes pm__law_prizes an__law_prizes cd__law_prizes ct__law_prizes), f__law_plus, (PySem.W.fnOf "_law_plus" "_law_plus" (defArgs s__law_plus) (defBody s__law_plus) (defScope s__law_plus) .none kV__law_plus dc__law_plus pm__law_plus an__law_plus cd__law_plus ct__law_plus), f__law_more, (PySem.W.fnOf "_law_more" "_law_more" (defArgs s__law_more) (defBody s__law_more) (defScope s__law_more) .none kV__law_more dc__law_more pm__law_more an__law_more cd__law_more ct__law_more), f__law_whole, (PySem.W.fnOf "_law_whole" "_law_whole" (defArgs s__law_whole) (defBody s__law_whole) (defScope s__law_whole) .none kV__law_whole dc__law_whole pm__law_whole an__law_whole cd__law_whole ct__law_whole), f__law_need, (PySem.W.fnOf "_law_need" "_law_need" (defArgs s__law_need) (defBody s__law_need) (defScope s__law_need) .none kV__law_need dc__law_need pm__law_need an__law_need cd__law_need ct__law_need), f__law_chain, (PySem.W.fnOf "_law_chain" "_law_chain" (defArgs s__law_chain) (defBody s__law_chain) (defScope s__law_chain) .none kV__law_chain dc__law_chain pm__law_chain an__law_chain cd__law_chain ct__law_chain), f__law_plain, (PySem.W.fnOf "_law_plain" "_law_plain" (defArgs s__law_plain) (defBody s__law_plain) (defScope s__law_plain) .none kV__law_plain dc__law_plain pm__law_plain an__law_plain cd__law_plain ct__law_plain), f__law_frac, (PySem.W.fnOf "_law_frac" "_law_frac" (defArgs s__law_frac) (defBody s__law_frac) (defScope s__law_frac) .none kV__law_frac dc__law_frac pm__law_frac an__law_frac cd__law_frac ct__law_frac), f__law_like, (PySem.W.fnOf "_law_like" "_law_like" (defArgs s__law_like) (defBody s__law_like) (defScope s__law_like) .none kV__law_like dc__law_like pm__law_like an__law_like cd__law_like ct__law_like), f_checked_offers, (PySem.W.fnOf "checked_offers" "checked_offers" (defArgs s_checked_offers) (defBody s_checked_offers) (defScope s_checked_offers) .none kV_checked_offers dc_checked_offers pm_checked_offers an_checked_offers cd_checked_offers ct_checked_offers), f_is_frac_or_integer, (PySem.W.fnOf "is_frac_or_integer" "is_frac_or_integer" (defArgs s_is_frac_or_integer) (defBody s_is_frac_or_integer) (defScope s_is_frac_or_integer) .none kV_is_frac_or_integer dc_is_frac_or_integer pm_is_frac_or_integer an_is_frac_or_integer cd_is_frac_or_integer ct_is_frac_or_integer), f_told_row, (PySem.W.fnOf "told_row" "told_row" (defArgs s_told_row) (defBody s_told_row) (defScope s_told_row) .none kV_told_row dc_told_row pm_told_row an_told_row cd_told_row ct_told_row), f_Frac___add__, (PySem.W.fnOf "__add__" "Frac.__add__" (defArgs s_Frac___add__) (defBody s_Frac___add__) (defScope s_Frac___add__) .none kV_Frac___add__ dc_Frac___add__ pm_Frac___add__ an_Frac___add__ cd_Frac___add__ ct_Frac___add__), f_total, (PySem.W.fnOf "total" "total" (defArgs s_total) (defBody s_total) (defScope s_total) .none kV_total dc_total pm_total an_total cd_total ct_total), f_Frac___mul__, (PySem.W.fnOf "__mul__" "Frac.__mul__" (defArgs s_Frac___mul__) (defBody s_Frac___mul__) (defScope s_Frac___mul__) .none kV_Frac___mul__ dc_Frac___mul__ pm_Frac___mul__ an_Frac___mul__ cd_Frac___mul__ ct_Frac___mul__), f_Frac___sub__, (PySem.W.fnOf "__sub__" "Frac.__sub__" (defArgs s_Frac___sub__) (defBody s_Frac___sub__) (defScope s_Frac___sub__) .none kV_Frac___sub__ dc_Frac___sub__ pm_Frac___sub__ an_Frac___sub__ cd_Frac___sub__ ct_Frac___sub__), f_Offer_weight_sum, (PySem.W.fnOf "weight_sum" "Offer.weight_sum" (defArgs s_Offer_weight_sum) (defBody s_Offer_weight_sum) (defScope s_Offer_weight_sum) .none kV_Offer_weight_sum dc_Offer_weight_sum pm_Offer_weight_sum an_Offer_weight_sum cd_Offer_weight_sum ct_Offer_weight_sum), f_Offer_shares, (PySem.W.fnOf "shares" "Offer.shares" (defArgs s_Offer_shares) (defBody s_Offer_shares) (defScope s_Offer_shares) .none kV_Offer_shares dc_Offer_shares pm_Offer_shares an_Offer_shares cd_Offer_shares ct_Offer_shares), f_Offer_over, (PySem.W.fnOf "over" "Offer.over" (defArgs s_Offer_over) (defBody s_Offer_over) (defScope s_Offer_over) .none kV_Offer_over dc_Offer_over pm_Offer_over an_Offer_over cd_Offer_over ct_Offer_over), f_worth_before, (PySem.W.fnOf "worth_before" "worth_before" (defArgs s_worth_before) (defBody s_worth_before) (defScope s_worth_before) .none kV_worth_before dc_worth_before pm_worth_before an_worth_before cd_worth_before ct_worth_before), f_heights_hold, (PySem.W.fnOf "heights_hold" "heights_hold" (defArgs s_heights_hold) (defBody s_heights_hold) (defScope s_heights_hold) .none kV_heights_hold dc_heights_hold pm_heights_hold an_heights_hold cd_heights_hold ct_heights_hold), f__law_given_row, (PySem.W.fnOf "_law_given_row" "_law_given_row" (defArgs s__law_given_row) (defBody s__law_given_row) (defScope s__law_given_row) .none kV__law_given_row dc__law_given_row pm__law_given_row an__law_given_row cd__law_given_row ct__law_given_row), f__law_kinds, (PySem.W.fnOf "_law_kinds" "_law_kinds" (defArgs s__law_kinds) (defBody s__law_kinds) (defScope s__law_kinds) .none kV__law_kinds dc__law_kinds pm__law_kinds an__law_kinds cd__law_kinds ct__law_kinds), f__law_stops, (PySem.W.fnOf "_law_stops" "_law_stops" (defArgs s__law_stops) (defBody s__law_stops) (defScope s__law_stops) .none kV__law_stops dc__law_stops pm__law_stops an__law_stops cd__law_stops ct__law_stops), f_worths_from, (PySem.W.fnOf "worths_from" "worths_from" (defArgs s_worths_from) (defBody s_worths_from) (defScope s_worths_from) .none kV_worths_from dc_worths_from pm_worths_from an_worths_from cd_worths_from ct_worths_from), f_stop_worth, (PySem.W.fnOf "stop_worth" "stop_worth" (defArgs s_stop_worth) (defBody s_stop_worth) (defScope s_stop_worth) .none kV_stop_worth dc_stop_worth pm_stop_worth an_stop_worth cd_stop_worth ct_stop_worth), f__law_asked, (PySem.W.fnOf "_law_asked" "_law_asked" (defArgs s__law_asked) (defBody s__law_asked) (defScope s__law_asked) .none kV__law_asked dc__law_asked pm__law_asked an__law_asked cd__law_asked ct__law_asked), fa, (PySem.W.fnOf "law" "law" (defArgs s_law) (defBody s_law) (defScope s_law) .none kV_law dc_law pm_law an_law cd_law ct_law)⟩
  have cl_Frac : Cls K c_Frac := ⟨pg_Frac, hd_Frac, po_Frac, sa_Frac⟩
  have cl_Offer : Cls K c_Offer := ⟨pg_Offer, hd_Offer, po_Offer, sa_Offer⟩
  have F__law_pick := funD_mk (st := s__law_pick) l__law_pick c__law_pick k__law_pick
  have B__law_pick := FunD.bindsN (ps := ["feed", "many"]) F__law_pick fun _ _ _ _ _ _ us hl => match us, hl with | [_, _], _ => rfl
  have F__law_cut := funD_mk (st := s__law_cut) l__law_cut c__law_cut k__law_cut
  have B__law_cut := FunD.bindsN (ps := ["num", "den"]) F__law_cut fun _ _ _ _ _ _ us hl => match us, hl with | [_, _], _ => rfl
  have F__law_worth := funD_mk (st := s__law_worth) l__law_worth c__law_worth k__law_worth
  have B__law_worth := FunD.bindsN (ps := ["feed"]) F__law_worth fun _ _ _ _ _ _ us hl => match us, hl with | [_], _ => rfl
  have F__law_offer := funD_mk (st := s__law_offer) l__law_offer c__law_offer k__law_offer
  have B__law_offer := FunD.bindsN (ps := ["feed", "most"]) F__law_offer fun _ _ _ _ _ _ us hl => match us, hl with | [_, _], _ => rfl
  have F__law_offers := funD_mk (st := s__law_offers) l__law_offers c__law_offers k__law_offers
  have B__law_offers := FunD.bindsN (ps := ["feed", "many", "most"]) F__law_offers fun _ _ _ _ _ _ us hl => match us, hl with | [_, _, _], _ => rfl
  have F__law_unit := funD_mk (st := s__law_unit) l__law_unit c__law_unit k__law_unit
  have B__law_unit := FunD.bindsN (ps := ["offers"]) F__law_unit fun _ _ _ _ _ _ us hl => match us, hl with | [_], _ => rfl
  have F__law_row := funD_mk (st := s__law_row) l__law_row c__law_row k__law_row
  have B__law_row := FunD.bindsN (ps := ["prizes", "unit"]) F__law_row fun _ _ _ _ _ _ us hl => match us, hl with | [_, _], _ => rfl
  have F_is_sequence := funD_mk (st := s_is_sequence) l_is_sequence c_is_sequence k_is_sequence
  have B_is_sequence := FunD.bindsN (ps := ["value"]) F_is_sequence fun _ _ _ _ _ _ us hl => match us, hl with | [_], _ => rfl
  have F_is_integer := funD_mk (st := s_is_integer) l_is_integer c_is_integer k_is_integer
  have B_is_integer := FunD.bindsN (ps := ["value"]) F_is_integer fun _ _ _ _ _ _ us hl => match us, hl with | [_], _ => rfl
  have F_is_between := funD_mk (st := s_is_between) l_is_between c_is_between k_is_between
  have B_is_between := FunD.bindsN (ps := ["value", "least", "most"]) F_is_between fun _ _ _ _ _ _ us hl => match us, hl with | [_, _, _], _ => rfl
  have F_Frac___init__ := funD_mk1 (st := s_Frac___init__) l_Frac___init__ c_Frac___init__ k_Frac___init__ lt_Frac___init__
  have F_as_frac := funD_mk (st := s_as_frac) l_as_frac c_as_frac k_as_frac
  have B_as_frac := FunD.bindsN (ps := ["value"]) F_as_frac fun _ _ _ _ _ _ us hl => match us, hl with | [_], _ => rfl
  have F_is_amount := funD_mk (st := s_is_amount) l_is_amount c_is_amount k_is_amount
  have B_is_amount := FunD.bindsN (ps := ["value"]) F_is_amount fun _ _ _ _ _ _ us hl => match us, hl with | [_], _ => rfl
  have F_is_prize := funD_mk (st := s_is_prize) l_is_prize c_is_prize k_is_prize
  have B_is_prize := FunD.bindsN (ps := ["value"]) F_is_prize fun _ _ _ _ _ _ us hl => match us, hl with | [_], _ => rfl
  have F_Frac_is_below := funD_mk (st := s_Frac_is_below) l_Frac_is_below c_Frac_is_below k_Frac_is_below
  have B_Frac_is_below := FunD.bindsN (ps := ["self", "other"]) F_Frac_is_below fun _ _ _ _ _ _ us hl => match us, hl with | [_, _], _ => rfl
  have F_kept_prizes := funD_mk (st := s_kept_prizes) l_kept_prizes c_kept_prizes k_kept_prizes
  have B_kept_prizes := FunD.bindsN (ps := ["prizes"]) F_kept_prizes fun _ _ _ _ _ _ us hl => match us, hl with | [_], _ => rfl
  have F_Offer___init__ := funD_mk (st := s_Offer___init__) l_Offer___init__ c_Offer___init__ k_Offer___init__
  have B_Offer___init__ := FunD.bindsN (ps := ["self", "prizes"]) F_Offer___init__ fun _ _ _ _ _ _ us hl => match us, hl with | [_, _], _ => rfl
  have F__law_given := funD_mk (st := s__law_given) l__law_given c__law_given k__law_given
  have B__law_given := FunD.bindsN (ps := ["pair", "plain"]) F__law_given fun _ _ _ _ _ _ us hl => match us, hl with | [_, _], _ => rfl
  have F__law_prizes := funD_mk (st := s__law_prizes) l__law_prizes c__law_prizes k__law_prizes
  have B__law_prizes := FunD.bindsN (ps := ["prizes", "form"]) F__law_prizes fun _ _ _ _ _ _ us hl => match us, hl with | [_, _], _ => rfl
  have F__law_plus := funD_mk (st := s__law_plus) l__law_plus c__law_plus k__law_plus
  have B__law_plus := FunD.bindsN (ps := ["one", "two"]) F__law_plus fun _ _ _ _ _ _ us hl => match us, hl with | [_, _], _ => rfl
  have F__law_more := funD_mk (st := s__law_more) l__law_more c__law_more k__law_more
  have B__law_more := FunD.bindsN (ps := ["one", "two"]) F__law_more fun _ _ _ _ _ _ us hl => match us, hl with | [_, _], _ => rfl
  have F__law_whole := funD_mk (st := s__law_whole) l__law_whole c__law_whole k__law_whole
  have B__law_whole := FunD.bindsN (ps := ["row"]) F__law_whole fun _ _ _ _ _ _ us hl => match us, hl with | [_], _ => rfl
  have F__law_need := funD_mk (st := s__law_need) l__law_need c__law_need k__law_need
  have B__law_need := FunD.bindsN (ps := ["row", "later"]) F__law_need fun _ _ _ _ _ _ us hl => match us, hl with | [_, _], _ => rfl
  have F__law_chain := funD_mk (st := s__law_chain) l__law_chain c__law_chain k__law_chain
  have B__law_chain := FunD.bindsN (ps := ["rows", "slacks", "last", "low", "unit"]) F__law_chain fun _ _ _ _ _ _ us hl => match us, hl with | [_, _, _, _, _], _ => rfl
  have F__law_plain := funD_mk (st := s__law_plain) l__law_plain c__law_plain k__law_plain
  have B__law_plain := FunD.bindsN (ps := ["found"]) F__law_plain fun _ _ _ _ _ _ us hl => match us, hl with | [_], _ => rfl
  have F__law_frac := funD_mk (st := s__law_frac) l__law_frac c__law_frac k__law_frac
  have B__law_frac := FunD.bindsN (ps := ["found", "num", "den"]) F__law_frac fun _ _ _ _ _ _ us hl => match us, hl with | [_, _, _], _ => rfl
  have F__law_like := funD_mk (st := s__law_like) l__law_like c__law_like k__law_like
  have B__law_like := FunD.bindsN (ps := ["found", "due"]) F__law_like fun _ _ _ _ _ _ us hl => match us, hl with | [_, _], _ => rfl
  have F_checked_offers := funD_mk (st := s_checked_offers) l_checked_offers c_checked_offers k_checked_offers
  have B_checked_offers := FunD.bindsN (ps := ["offers"]) F_checked_offers fun _ _ _ _ _ _ us hl => match us, hl with | [_], _ => rfl
  have F_is_frac_or_integer := funD_mk (st := s_is_frac_or_integer) l_is_frac_or_integer c_is_frac_or_integer k_is_frac_or_integer
  have B_is_frac_or_integer := FunD.bindsN (ps := ["value"]) F_is_frac_or_integer fun _ _ _ _ _ _ us hl => match us, hl with | [_], _ => rfl
  have F_told_row := funD_mk (st := s_told_row) l_told_row c_told_row k_told_row
  have B_told_row := FunD.bindsN (ps := ["value", "many"]) F_told_row fun _ _ _ _ _ _ us hl => match us, hl with | [_, _], _ => rfl
  have F_Frac___add__ := funD_mk (st := s_Frac___add__) l_Frac___add__ c_Frac___add__ k_Frac___add__
  have B_Frac___add__ := FunD.bindsN (ps := ["self", "other"]) F_Frac___add__ fun _ _ _ _ _ _ us hl => match us, hl with | [_, _], _ => rfl
  have F_total := funD_mk (st := s_total) l_total c_total k_total
  have B_total := FunD.bindsN (ps := ["fracs"]) F_total fun _ _ _ _ _ _ us hl => match us, hl with | [_], _ => rfl
  have F_Frac___mul__ := funD_mk (st := s_Frac___mul__) l_Frac___mul__ c_Frac___mul__ k_Frac___mul__
  have B_Frac___mul__ := FunD.bindsN (ps := ["self", "other"]) F_Frac___mul__ fun _ _ _ _ _ _ us hl => match us, hl with | [_, _], _ => rfl
  have F_Frac___sub__ := funD_mk (st := s_Frac___sub__) l_Frac___sub__ c_Frac___sub__ k_Frac___sub__
  have B_Frac___sub__ := FunD.bindsN (ps := ["self", "other"]) F_Frac___sub__ fun _ _ _ _ _ _ us hl => match us, hl with | [_, _], _ => rfl
  have F_Offer_weight_sum := funD_mk (st := s_Offer_weight_sum) l_Offer_weight_sum c_Offer_weight_sum k_Offer_weight_sum
  have B_Offer_weight_sum := FunD.bindsN (ps := ["self"]) F_Offer_weight_sum fun _ _ _ _ _ _ us hl => match us, hl with | [_], _ => rfl
  have F_Offer_shares := funD_mk (st := s_Offer_shares) l_Offer_shares c_Offer_shares k_Offer_shares
  have B_Offer_shares := FunD.bindsN (ps := ["self"]) F_Offer_shares fun _ _ _ _ _ _ us hl => match us, hl with | [_], _ => rfl
  have F_Offer_over := funD_mk (st := s_Offer_over) l_Offer_over c_Offer_over k_Offer_over
  have B_Offer_over := FunD.bindsN (ps := ["self", "price"]) F_Offer_over fun _ _ _ _ _ _ us hl => match us, hl with | [_, _], _ => rfl
  have F_worth_before := funD_mk (st := s_worth_before) l_worth_before c_worth_before k_worth_before
  have B_worth_before := FunD.bindsN (ps := ["offer", "rest"]) F_worth_before fun _ _ _ _ _ _ us hl => match us, hl with | [_, _], _ => rfl
  have F_heights_hold := funD_mk (st := s_heights_hold) l_heights_hold c_heights_hold k_heights_hold
  have B_heights_hold := FunD.bindsN (ps := ["offers", "heights"]) F_heights_hold fun _ _ _ _ _ _ us hl => match us, hl with | [_, _], _ => rfl
  have F__law_given_row := funD_mk (st := s__law_given_row) l__law_given_row c__law_given_row k__law_given_row
  have B__law_given_row := FunD.bindsN (ps := ["heights", "form"]) F__law_given_row fun _ _ _ _ _ _ us hl => match us, hl with | [_, _], _ => rfl
  have F__law_kinds := funD_mk (st := s__law_kinds) l__law_kinds c__law_kinds k__law_kinds
  have B__law_kinds := FunD.bindsN (ps := ["feed", "right"]) F__law_kinds fun _ _ _ _ _ _ us hl => match us, hl with | [_, _], _ => rfl
  have F__law_stops := funD_mk (st := s__law_stops) l__law_stops c__law_stops k__law_stops
  have B__law_stops := FunD.bindsN (ps := ["rows"]) F__law_stops fun _ _ _ _ _ _ us hl => match us, hl with | [_], _ => rfl
  have F_worths_from := funD_mk (st := s_worths_from) l_worths_from c_worths_from k_worths_from
  have B_worths_from := FunD.bindsN (ps := ["line"]) F_worths_from fun _ _ _ _ _ _ us hl => match us, hl with | [_], _ => rfl
  have F_stop_worth := funD_mk (st := s_stop_worth) l_stop_worth c_stop_worth k_stop_worth
  have B_stop_worth := FunD.bindsN (ps := ["offers"]) F_stop_worth fun _ _ _ _ _ _ us hl => match us, hl with | [_], _ => rfl
  have F__law_asked := funD_mk (st := s__law_asked) l__law_asked c__law_asked k__law_asked
  have B__law_asked := FunD.bindsN (ps := ["script"]) F__law_asked fun _ _ _ _ _ _ us hl => match us, hl with | [_], _ => rfl
  have F_law := funD_mk (st := s_law) l_law c_law k_law
  have fo_num : FldOk K (tab a) "num" [(0, 0)] := fld_mk (by
    intro p hp
    simp only [List.mem_cons, List.mem_nil_iff, or_false] at hp
    subst hp
    exact ⟨cl_Frac, na_Frac_num, rfl, fl_nd_0⟩)
  have fo_den : FldOk K (tab a) "den" [(0, 1)] := fld_mk (by
    intro p hp
    simp only [List.mem_cons, List.mem_nil_iff, or_false] at hp
    subst hp
    exact ⟨cl_Frac, na_Frac_den, rfl, fl_nd_0⟩)
  have fo_prizes : FldOk K (tab a) "prizes" [(1, 0)] := fld_mk (by
    intro p hp
    simp only [List.mem_cons, List.mem_nil_iff, or_false] at hp
    subst hp
    exact ⟨cl_Offer, na_Offer_prizes, rfl, fl_nd_1⟩)
  have ty : TyOk K (tab a) [0, 1] := tyOk_mk hget htk (by
    intro c hc
    simp only [List.mem_cons, List.mem_nil_iff, or_false] at hc
    rcases hc with rfl | rfl
    · exact ⟨cl_Frac, ⟨y0_Frac, y1_Frac, y2_Frac, y3_Frac, yb0_Frac, yb1_Frac, yb2_Frac, yb3_Frac, yb4_Frac, yb5_Frac, yo0_Frac, yo1_Frac, yo2_Frac, yo3_Frac, yo4_Frac⟩⟩
    · exact ⟨cl_Offer, ⟨y0_Offer, y1_Offer, y2_Offer, y3_Offer, yb0_Offer, yb1_Offer, yb2_Offer, yb3_Offer, yb4_Offer, yb5_Offer, yo0_Offer, yo1_Offer, yo2_Offer, yo3_Offer, yo4_Offer⟩⟩)
   (by
    intro c hc c2 hc2 hne
    simp only [List.mem_cons, List.mem_nil_iff, or_false] at hc hc2
    rcases hc with rfl | rfl <;> rcases hc2 with rfl | rfl
    · exact absurd hne (by decide)
    · exact ⟨ne_Frac_Offer, su_Frac_Offer⟩
    · exact ⟨ne_Offer_Frac, su_Offer_Frac⟩
    · exact absurd hne (by decide))
  have U : Txt K mg a := {
    fn__law_pick := F__law_pick,
    g__law_pick := ⟨PySem.W.mg_of X G a__law_pick, k__law_pick, B__law_pick⟩,
    fn__law_cut := F__law_cut,
    g__law_cut := ⟨PySem.W.mg_of X G a__law_cut, k__law_cut, B__law_cut⟩,
    fn__law_worth := F__law_worth,
    g__law_worth := ⟨PySem.W.mg_of X G a__law_worth, k__law_worth, B__law_worth⟩,
    fn__law_offer := F__law_offer,
    g__law_offer := ⟨PySem.W.mg_of X G a__law_offer, k__law_offer, B__law_offer⟩,
    fn__law_offers := F__law_offers,
    g__law_offers := ⟨PySem.W.mg_of X G a__law_offers, k__law_offers, B__law_offers⟩,
    fn__law_unit := F__law_unit,
    g__law_unit := ⟨PySem.W.mg_of X G a__law_unit, k__law_unit, B__law_unit⟩,
    fn__law_row := F__law_row,
    g__law_row := ⟨PySem.W.mg_of X G a__law_row, k__law_row, B__law_row⟩,
    fn_is_sequence := F_is_sequence,
    g_is_sequence := ⟨PySem.W.mg_of X G a_is_sequence, k_is_sequence, B_is_sequence⟩,
    fn_is_integer := F_is_integer,
    g_is_integer := ⟨PySem.W.mg_of X G a_is_integer, k_is_integer, B_is_integer⟩,
    fn_is_between := F_is_between,
    g_is_between := ⟨PySem.W.mg_of X G a_is_between, k_is_between, B_is_between⟩,
    fn_Frac___init__ := F_Frac___init__,
    gd_Frac___init___0 := ⟨FunD.binds1 F_Frac___init__ 3 1 (by simp) rfl fun _ _ _ _ _ _ _ us its h1 h2 => match us, h1, its, h2 with | [_, _, _], _, [_], _ => ⟨_, rfl, rfl⟩⟩,
    gd_Frac___init___1 := ⟨FunD.binds1 F_Frac___init__ 2 0 (by simp) rfl fun _ _ _ _ _ _ _ us its h1 h2 => match us, h1, its, h2 with | [_, _], _, [_], _ => ⟨_, rfl, rfl⟩⟩,
    fn_as_frac := F_as_frac,
    g_as_frac := ⟨PySem.W.mg_of X G a_as_frac, k_as_frac, B_as_frac⟩,
    fn_is_amount := F_is_amount,
    g_is_amount := ⟨PySem.W.mg_of X G a_is_amount, k_is_amount, B_is_amount⟩,
    fn_is_prize := F_is_prize,
    g_is_prize := ⟨PySem.W.mg_of X G a_is_prize, k_is_prize, B_is_prize⟩,
    fn_Frac_is_below := F_Frac_is_below,
    me_Frac_is_below := ⟨a_Frac_is_below, i_Frac_is_below, k_Frac_is_below⟩,
    b_Frac_is_below := B_Frac_is_below,
    fn_kept_prizes := F_kept_prizes,
    g_kept_prizes := ⟨PySem.W.mg_of X G a_kept_prizes, k_kept_prizes, B_kept_prizes⟩,
    fn_Offer___init__ := F_Offer___init__,
    gd_Offer___init___0 := .all B_Offer___init__,
    fn__law_given := F__law_given,
    g__law_given := ⟨PySem.W.mg_of X G a__law_given, k__law_given, B__law_given⟩,
    fn__law_prizes := F__law_prizes,
    g__law_prizes := ⟨PySem.W.mg_of X G a__law_prizes, k__law_prizes, B__law_prizes⟩,
    fn__law_plus := F__law_plus,
    g__law_plus := ⟨PySem.W.mg_of X G a__law_plus, k__law_plus, B__law_plus⟩,
    fn__law_more := F__law_more,
    g__law_more := ⟨PySem.W.mg_of X G a__law_more, k__law_more, B__law_more⟩,
    fn__law_whole := F__law_whole,
    g__law_whole := ⟨PySem.W.mg_of X G a__law_whole, k__law_whole, B__law_whole⟩,
    fn__law_need := F__law_need,
    g__law_need := ⟨PySem.W.mg_of X G a__law_need, k__law_need, B__law_need⟩,
    fn__law_chain := F__law_chain,
    g__law_chain := ⟨PySem.W.mg_of X G a__law_chain, k__law_chain, B__law_chain⟩,
    fn__law_plain := F__law_plain,
    g__law_plain := ⟨PySem.W.mg_of X G a__law_plain, k__law_plain, B__law_plain⟩,
    fn__law_frac := F__law_frac,
    g__law_frac := ⟨PySem.W.mg_of X G a__law_frac, k__law_frac, B__law_frac⟩,
    fn__law_like := F__law_like,
    g__law_like := ⟨PySem.W.mg_of X G a__law_like, k__law_like, B__law_like⟩,
    fn_checked_offers := F_checked_offers,
    g_checked_offers := ⟨PySem.W.mg_of X G a_checked_offers, k_checked_offers, B_checked_offers⟩,
    fn_is_frac_or_integer := F_is_frac_or_integer,
    g_is_frac_or_integer := ⟨PySem.W.mg_of X G a_is_frac_or_integer, k_is_frac_or_integer, B_is_frac_or_integer⟩,
    fn_told_row := F_told_row,
    g_told_row := ⟨PySem.W.mg_of X G a_told_row, k_told_row, B_told_row⟩,
    fn_Frac___add__ := F_Frac___add__,
    op_Frac___add__ := ⟨a_Frac___add__, i_Frac___add__, sf_Frac, B_Frac___add__⟩,
    fn_total := F_total,
    g_total := ⟨PySem.W.mg_of X G a_total, k_total, B_total⟩,
    fn_Frac___mul__ := F_Frac___mul__,
    op_Frac___mul__ := ⟨a_Frac___mul__, i_Frac___mul__, sf_Frac, B_Frac___mul__⟩,
    fn_Frac___sub__ := F_Frac___sub__,
    op_Frac___sub__ := ⟨a_Frac___sub__, i_Frac___sub__, sf_Frac, B_Frac___sub__⟩,
    fn_Offer_weight_sum := F_Offer_weight_sum,
    me_Offer_weight_sum := ⟨a_Offer_weight_sum, i_Offer_weight_sum, k_Offer_weight_sum⟩,
    b_Offer_weight_sum := B_Offer_weight_sum,
    fn_Offer_shares := F_Offer_shares,
    me_Offer_shares := ⟨a_Offer_shares, i_Offer_shares, k_Offer_shares⟩,
    b_Offer_shares := B_Offer_shares,
    fn_Offer_over := F_Offer_over,
    me_Offer_over := ⟨a_Offer_over, i_Offer_over, k_Offer_over⟩,
    b_Offer_over := B_Offer_over,
    fn_worth_before := F_worth_before,
    g_worth_before := ⟨PySem.W.mg_of X G a_worth_before, k_worth_before, B_worth_before⟩,
    fn_heights_hold := F_heights_hold,
    g_heights_hold := ⟨PySem.W.mg_of X G a_heights_hold, k_heights_hold, B_heights_hold⟩,
    fn__law_given_row := F__law_given_row,
    g__law_given_row := ⟨PySem.W.mg_of X G a__law_given_row, k__law_given_row, B__law_given_row⟩,
    fn__law_kinds := F__law_kinds,
    g__law_kinds := ⟨PySem.W.mg_of X G a__law_kinds, k__law_kinds, B__law_kinds⟩,
    fn__law_stops := F__law_stops,
    g__law_stops := ⟨PySem.W.mg_of X G a__law_stops, k__law_stops, B__law_stops⟩,
    fn_worths_from := F_worths_from,
    g_worths_from := ⟨PySem.W.mg_of X G a_worths_from, k_worths_from, B_worths_from⟩,
    fn_stop_worth := F_stop_worth,
    g_stop_worth := ⟨PySem.W.mg_of X G a_stop_worth, k_stop_worth, B_stop_worth⟩,
    fn__law_asked := F__law_asked,
    g__law_asked := ⟨PySem.W.mg_of X G a__law_asked, k__law_asked, B__law_asked⟩,
    fn_law := F_law,
    kw_heights_hold_heights_offers := kbn_of2 (fun us ws h1 h2 => match us, h1, ws, h2 with | [], _, [_, _], _ => rfl),
    gc_Frac := ⟨PySem.W.mg_of X G hc_Frac, ⟨mk_Frac, a_Frac___init__, i_Frac___init__, kc_Frac⟩⟩,
    cl_Frac := cl_Frac,
    na_Frac_num := na_Frac_num,
    na_Frac_den := na_Frac_den,
    gc_Offer := ⟨PySem.W.mg_of X G hc_Offer, ⟨mk_Offer, a_Offer___init__, i_Offer___init__, kc_Offer⟩⟩,
    cl_Offer := cl_Offer,
    na_Offer_prizes := na_Offer_prizes,
    fo_num := fo_num,
    fo_den := fo_den,
    fo_prizes := fo_prizes,
    ty := ty,
    n_abs := PySem.W.mg_none_of X G hn_abs,
    n_all := PySem.W.mg_none_of X G hn_all,
    n_bool := PySem.W.mg_none_of X G hn_bool,
    n_enumerate := PySem.W.mg_none_of X G hn_enumerate,
    n_int := PySem.W.mg_none_of X G hn_int,
    n_isinstance := PySem.W.mg_none_of X G hn_isinstance,
    n_len := PySem.W.mg_none_of X G hn_len,
    n_list := PySem.W.mg_none_of X G hn_list,
    n_range := PySem.W.mg_none_of X G hn_range,
    n_reversed := PySem.W.mg_none_of X G hn_reversed,
    n_str := PySem.W.mg_none_of X G hn_str,
    n_sum := PySem.W.mg_none_of X G hn_sum,
    n_tuple := PySem.W.mg_none_of X G hn_tuple,
    m_gcd := PySem.W.mg_of X G hm_gcd,
    k_MOST_OVER := const_mk X G hk_MOST_OVER ⟨_, rfl⟩,
    k_MOST_UNDER := const_mk X G hk_MOST_UNDER ⟨_, rfl⟩,
    k_MOST_WEIGHT := const_mk X G hk_MOST_WEIGHT ⟨_, rfl⟩,
    k_MOST_PRIZES := const_mk X G hk_MOST_PRIZES ⟨_, rfl⟩ }
  exact ⟨PySem.W.fnOf "law" "law" (defArgs s_law) (defBody s_law) (defScope s_law) .none kV_law dc_law pm_law an_law cd_law ct_law, fun s v => .of_eq rfl, fun base _ _ => (ok_law U).imp (law_imp hlaw)⟩
end Z.L50
end
set_option Elab.async false
set_option linter.all false
set_option maxRecDepth 100000
noncomputable section
namespace Z.L50
open PySem PySem.Spec L2
set_option maxHeartbeats 4000000
local macro_rules | `(tactic| infer_instance) => `(tactic| first
  | with_reducible refine we_var ?_ | with_reducible refine we_con ?_ | with_reducible refine wa_cons ?_ | with_reducible refine wa_nil ?_
  | with_reducible refine we_bin ?_ | with_reducible refine we_un ?_ | with_reducible refine we_prim ?_
  | with_reducible refine sm_I0 ?_ | with_reducible refine sm_IB ?_ | with_reducible refine sm_eq ?_ | with_reducible refine sm_ne ?_ | with_reducible refine sm_not ?_ | with_reducible refine sm_U ?_
  | with_reducible refine sm_one ?_ | with_reducible refine sm_two ?_ | with_reducible refine sm_ixl ?_ | with_reducible refine sm_ixt ?_ | with_reducible refine sm_ixk ?_
  | with_reducible refine sm_II (by first | assumption | exact cNz_r (by omega) | exact cDiv_r (by omega) (by omega) | exact cMul_l (by omega) | exact cMul_r (by omega) | exact cMul_fm rfl | decide) ?_
  | with_reducible refine sm_tup (by first | decide | (simp only [List.length_cons, List.length_nil]; omega)) ?_ | with_reducible refine sm_lst (by first | decide | (simp only [List.length_cons, List.length_nil]; omega)) ?_
  | with_reducible refine sm_lenl ?_ | with_reducible refine sm_lent ?_ | with_reducible refine sm_lenk ?_
  | with_reducible refine sm_fld (by with_unfolding_all exact rfl) ?_ | with_reducible refine sm_atc (by with_unfolding_all exact rfl) ?_
  | with_reducible refine sm_isT (by with_unfolding_all exact rfl) ?_ | with_reducible refine sm_isF (by with_unfolding_all exact rfl) ?_ | with_reducible refine sm_nnT (by with_unfolding_all exact rfl) ?_ | with_reducible refine sm_nnF (by with_unfolding_all exact rfl) ?_
  | with_reducible refine setN_of ?_ | with_reducible refine lk_of ?_
  | with_reducible refine bl_of ?_ | with_reducible refine in_of ?_ | with_reducible refine lst_of ?_ | with_reducible refine tup_of ?_ | with_reducible refine ins_of ?_ | with_reducible refine non_of ?_
  | with_reducible refine is1_of ?_ | with_reducible refine is2_of ?_ | with_reducible refine is3_of ?_ | with_reducible refine two_of ?_
  | with_reducible refine ws_seq ?_ | with_reducible refine ws_set ?_ | with_reducible refine ws_if ?_ | with_reducible refine ws_ret ?_ | with_reducible refine ws_retN ?_ | with_reducible refine ws_skip ?_
  | with_reducible refine ws_brk ?_ | with_reducible refine ws_cnt ?_ | with_reducible refine ws_drop ?_ | with_reducible refine ws_asg ?_ | with_reducible refine ws_app ?_ | with_reducible refine ws_ext ?_ | with_reducible refine ws_setix ?_
  | with_reducible refine ws_fset ?_ | with_reducible refine ws_par ?_ | with_reducible refine ws_aug ?_ | with_reducible refine ws_for ?_ | with_reducible refine ws_try ?_
  | with_reducible refine sm_gtN ?_ | with_reducible refine sm_gtT rfl ?_ | with_reducible refine sm_gtCons ?_ | with_reducible refine sm_gtNil ?_
  | with_reducible refine we_call ?_ | with_reducible refine we_callB ?_ | with_reducible refine we_meth ?_ | with_reducible refine we_make ?_ | with_reducible refine we_callK ?_ | with_reducible refine we_makeK ?_ | with_reducible refine we_makeL ?_
  | with_reducible refine we_fldN ?_ | with_reducible refine we_unN ?_ | with_reducible refine we_binN ?_ | with_reducible refine we_sl ?_ | with_reducible refine we_slN ?_ | with_reducible refine we_mov ?_ | with_reducible refine we_pop ?_
  | with_reducible refine we_if ?_ | with_reducible refine we_and ?_ | with_reducible refine we_or ?_ | with_reducible refine we_chain ?_ | with_reducible refine we_comp ?_
  | with_reducible refine wt_val ?_ | with_reducible refine wt_and ?_ | with_reducible refine wt_or ?_ | with_reducible refine wt_not ?_ | with_reducible refine wt_yes ?_
  | with_reducible refine wo_none ?_ | with_reducible refine wo_part ?_
  | with_reducible refine wa_itL ?_ | with_reducible refine wa_itT ?_ | with_reducible refine wa_seqD ?_ | with_reducible refine wa_r1 ?_ | with_reducible refine wa_r2 ?_ | with_reducible refine wa_r3 ?_
  | with_reducible refine br_t ?_ | with_reducible refine br_f ?_ | with_reducible refine br_n ?_ | with_reducible refine br_dt (by assumption) ?_ | with_reducible refine br_df (by assumption) ?_
  | with_reducible refine sm_put1 ?_ | with_reducible refine sm_put2 ?_ | with_reducible refine sm_put3 ?_ | with_reducible refine sm_ioI ?_ | with_reducible refine sm_pow (by decide) ?_
  | with_reducible refine we_opO ?_ | with_reducible refine ws_insr ?_ | with_reducible refine sm_tupRevL ?_ | with_reducible refine sm_tupRevK ?_ | with_reducible refine sm_seqL ?_ | with_reducible refine sm_seqK ?_ | with_reducible refine sm_seqT ?_
  | with_reducible refine or_new (by with_unfolding_all exact rfl) ?_
  | with_reducible refine sm_toL ?_ | with_reducible refine sm_toT ?_ | with_reducible refine sm_toK ?_ | with_reducible refine sm_loL ?_ | with_reducible refine sm_loT ?_ | with_reducible refine sm_loK ?_)
/-- the feed: cells, place, count, rest -/
def Fd (f : D) : Prop := ∃ (cs : List Int) (p x c : Int), f = .lst [.lst (cs.map D.int), .int p, .int x, .int c]
theorem pick_w {QB : D → D → Prop} {E : Er} {f : D} (many : Int) (hf : Fd f) (h1 : 1 ≤ many) (h2 : many < 1000000) (q : ∀ r f', Fd f' → 0 ≤ r → r < many → QB (.int r) f') : WB (m__law_pick [f, .int many]) QB E := by
  have fin : ∀ (cs : List Int) (i p x c : Int), QB (.int (Int.fmod i many)) (.lst [.lst (cs.map D.int), .int p, .int x, .int c]) := fun cs i p x c =>
    q _ _ ⟨cs, p, x, c, rfl⟩ (Int.fmod_nonneg_of_pos _ (by omega)) (Int.fmod_lt_of_pos _ (by omega))
  obtain ⟨cs, p, x, c, rfl⟩ := hf
  unfold m__law_pick
  refine wb_fn (by simp only [List.map_cons, List.map_nil, List.cons_append, List.nil_append, Nat.reduceSub, List.replicate_succ, List.replicate_zero]; rfl) ?_
  unfold b__law_pick
  repeat' first | exact fin .. | infer_instance | refine sm_at_mod (by assumption) fun _ => ?_ | refine br_d (fun _ => ?_) (fun _ => ?_)
end Z.L50
end
set_option Elab.async false
set_option linter.all false
set_option maxRecDepth 100000
noncomputable section
namespace Z.L50
open PySem PySem.Spec L2
set_option maxHeartbeats 4000000
local macro_rules | `(tactic| infer_instance) => `(tactic| first
  | with_reducible refine we_var ?_ | with_reducible refine we_con ?_ | with_reducible refine wa_cons ?_ | with_reducible refine wa_nil ?_
  | with_reducible refine we_bin ?_ | with_reducible refine we_un ?_ | with_reducible refine we_prim ?_
  | with_reducible refine sm_I0 ?_ | with_reducible refine sm_IB ?_ | with_reducible refine sm_eq ?_ | with_reducible refine sm_ne ?_ | with_reducible refine sm_not ?_ | with_reducible refine sm_U ?_
  | with_reducible refine sm_one ?_ | with_reducible refine sm_two ?_ | with_reducible refine sm_ixl ?_ | with_reducible refine sm_ixt ?_ | with_reducible refine sm_ixk ?_
  | with_reducible refine sm_II (by first | assumption | exact cNz_r (by omega) | exact cDiv_r (by omega) (by omega) | exact cMul_l (by omega) | exact cMul_r (by omega) | exact cMul_fm rfl | decide) ?_
  | with_reducible refine sm_tup (by first | decide | (simp only [List.length_cons, List.length_nil]; omega)) ?_ | with_reducible refine sm_lst (by first | decide | (simp only [List.length_cons, List.length_nil]; omega)) ?_
  | with_reducible refine sm_lenl ?_ | with_reducible refine sm_lent ?_ | with_reducible refine sm_lenk ?_
  | with_reducible refine sm_fld (by with_unfolding_all exact rfl) ?_ | with_reducible refine sm_atc (by with_unfolding_all exact rfl) ?_
  | with_reducible refine sm_isT (by with_unfolding_all exact rfl) ?_ | with_reducible refine sm_isF (by with_unfolding_all exact rfl) ?_ | with_reducible refine sm_nnT (by with_unfolding_all exact rfl) ?_ | with_reducible refine sm_nnF (by with_unfolding_all exact rfl) ?_
  | with_reducible refine setN_of ?_ | with_reducible refine lk_of ?_
  | with_reducible refine bl_of ?_ | with_reducible refine in_of ?_ | with_reducible refine lst_of ?_ | with_reducible refine tup_of ?_ | with_reducible refine ins_of ?_ | with_reducible refine non_of ?_
  | with_reducible refine is1_of ?_ | with_reducible refine is2_of ?_ | with_reducible refine is3_of ?_ | with_reducible refine two_of ?_
  | with_reducible refine ws_seq ?_ | with_reducible refine ws_set ?_ | with_reducible refine ws_if ?_ | with_reducible refine ws_ret ?_ | with_reducible refine ws_retN ?_ | with_reducible refine ws_skip ?_
  | with_reducible refine ws_brk ?_ | with_reducible refine ws_cnt ?_ | with_reducible refine ws_drop ?_ | with_reducible refine ws_asg ?_ | with_reducible refine ws_app ?_ | with_reducible refine ws_ext ?_ | with_reducible refine ws_setix ?_
  | with_reducible refine ws_fset ?_ | with_reducible refine ws_par ?_ | with_reducible refine ws_aug ?_ | with_reducible refine ws_for ?_ | with_reducible refine ws_try ?_
  | with_reducible refine sm_gtN ?_ | with_reducible refine sm_gtT rfl ?_ | with_reducible refine sm_gtCons ?_ | with_reducible refine sm_gtNil ?_
  | with_reducible refine we_call ?_ | with_reducible refine we_callB ?_ | with_reducible refine we_meth ?_ | with_reducible refine we_make ?_ | with_reducible refine we_callK ?_ | with_reducible refine we_makeK ?_ | with_reducible refine we_makeL ?_
  | with_reducible refine we_fldN ?_ | with_reducible refine we_unN ?_ | with_reducible refine we_binN ?_ | with_reducible refine we_sl ?_ | with_reducible refine we_slN ?_ | with_reducible refine we_mov ?_ | with_reducible refine we_pop ?_
  | with_reducible refine we_if ?_ | with_reducible refine we_and ?_ | with_reducible refine we_or ?_ | with_reducible refine we_chain ?_ | with_reducible refine we_comp ?_
  | with_reducible refine wt_val ?_ | with_reducible refine wt_and ?_ | with_reducible refine wt_or ?_ | with_reducible refine wt_not ?_ | with_reducible refine wt_yes ?_
  | with_reducible refine wo_none ?_ | with_reducible refine wo_part ?_
  | with_reducible refine wa_itL ?_ | with_reducible refine wa_itT ?_ | with_reducible refine wa_seqD ?_ | with_reducible refine wa_r1 ?_ | with_reducible refine wa_r2 ?_ | with_reducible refine wa_r3 ?_
  | with_reducible refine br_t ?_ | with_reducible refine br_f ?_ | with_reducible refine br_n ?_ | with_reducible refine br_dt (by assumption) ?_ | with_reducible refine br_df (by assumption) ?_
  | with_reducible refine sm_put1 ?_ | with_reducible refine sm_put2 ?_ | with_reducible refine sm_put3 ?_ | with_reducible refine sm_ioI ?_ | with_reducible refine sm_pow (by decide) ?_
  | with_reducible refine we_opO ?_ | with_reducible refine ws_insr ?_ | with_reducible refine sm_tupRevL ?_ | with_reducible refine sm_tupRevK ?_ | with_reducible refine sm_seqL ?_ | with_reducible refine sm_seqK ?_ | with_reducible refine sm_seqT ?_
  | with_reducible refine or_new (by with_unfolding_all exact rfl) ?_
  | with_reducible refine sm_toL ?_ | with_reducible refine sm_toT ?_ | with_reducible refine sm_toK ?_ | with_reducible refine sm_loL ?_ | with_reducible refine sm_loT ?_ | with_reducible refine sm_loK ?_)
theorem cut_w {Q : D → Prop} {E : Er} (n d : Int) (hd : 0 < d) (hb : Bit 9000 d) (q : Q (prD (Rat.divInt n d))) : WR (m__law_cut [.int n, .int d]) Q E := by
  obtain ⟨L, eL, hL, l1, l2⟩ := bitLen_nat hd hb
  unfold m__law_cut
  refine wr_fn (by simp only [List.map_cons, List.map_nil, List.cons_append, List.nil_append, Nat.reduceSub, List.replicate_succ, List.replicate_zero]; rfl) ?_
  unfold b__law_cut
  repeat infer_instance
  rw [eL]
  refine ⟨by unfold Rng; omega, ?_⟩
  have ab : (if n < 0 then -n else n) = (n.natAbs : Int) := by split <;> omega
  refine wf_inv (fun i ρ => ∃ (a b : Int) (t : Option D), ρ = [some (.int n), some (.int d), some (.int a), some (.int b), t] ∧ EucI n d L i a b) ⟨_, _, _, by rw [ab], EucI.start hd⟩ ?_ ?_
  · rintro i _ ρ hi ⟨a, b, t, rfl, hE⟩
    obtain ⟨_, rfl⟩ := intsFrom_at hi
    unfold l__law_cut_b3
    repeat infer_instance
    refine br_d (fun hz => ?_) (fun hz => ?_)
    · subst hz
      repeat infer_instance
      have hg := hE.last
      obtain ⟨g0, gb⟩ := gcd_pb (n := n) hd hb
      rw [hg]
      repeat' first | infer_instance | refine sm_II (cDiv_bits g0 gb (by decide)) ?_
      unfold prD at q
      rw [fdiv_pos _ g0, fdiv_pos _ g0, low_num hd, low_den hd]
      exact q
    · repeat' first | infer_instance | refine sm_II (cNz_r hz) ?_
      exact ⟨_, _, _, rfl, hE.step hd l1 hz⟩
  · rintro ρ ⟨a, b, t, rfl, hE⟩
    rw [intsFrom_length] at hE
    have hz := hE.done (by omega)
    subst hz
    have hg := hE.last
    obtain ⟨g0, gb⟩ := gcd_pb (n := n) hd hb
    rw [hg]
    repeat' first | infer_instance | refine sm_II (cDiv_bits g0 gb (by decide)) ?_
    unfold prD at q
    rw [fdiv_pos _ g0, fdiv_pos _ g0, low_num hd, low_den hd]
    exact q
end Z.L50
end
set_option Elab.async false
set_option linter.all false
set_option maxRecDepth 100000
noncomputable section
namespace Z.L50
open PySem PySem.Spec L2
set_option maxHeartbeats 4000000
local macro_rules | `(tactic| infer_instance) => `(tactic| first
  | with_reducible refine we_var ?_ | with_reducible refine we_con ?_ | with_reducible refine wa_cons ?_ | with_reducible refine wa_nil ?_
  | with_reducible refine we_bin ?_ | with_reducible refine we_un ?_ | with_reducible refine we_prim ?_
  | with_reducible refine sm_I0 ?_ | with_reducible refine sm_IB ?_ | with_reducible refine sm_eq ?_ | with_reducible refine sm_ne ?_ | with_reducible refine sm_not ?_ | with_reducible refine sm_U ?_
  | with_reducible refine sm_one ?_ | with_reducible refine sm_two ?_ | with_reducible refine sm_ixl ?_ | with_reducible refine sm_ixt ?_ | with_reducible refine sm_ixk ?_
  | with_reducible refine sm_II (by first | assumption | exact cNz_r (by omega) | exact cDiv_r (by omega) (by omega) | exact cMul_l (by omega) | exact cMul_r (by omega) | exact cMul_fm rfl | decide) ?_
  | with_reducible refine sm_tup (by first | decide | (simp only [List.length_cons, List.length_nil]; omega)) ?_ | with_reducible refine sm_lst (by first | decide | (simp only [List.length_cons, List.length_nil]; omega)) ?_
  | with_reducible refine sm_lenl ?_ | with_reducible refine sm_lent ?_ | with_reducible refine sm_lenk ?_
  | with_reducible refine sm_fld (by with_unfolding_all exact rfl) ?_ | with_reducible refine sm_atc (by with_unfolding_all exact rfl) ?_
  | with_reducible refine sm_isT (by with_unfolding_all exact rfl) ?_ | with_reducible refine sm_isF (by with_unfolding_all exact rfl) ?_ | with_reducible refine sm_nnT (by with_unfolding_all exact rfl) ?_ | with_reducible refine sm_nnF (by with_unfolding_all exact rfl) ?_
  | with_reducible refine setN_of ?_ | with_reducible refine lk_of ?_
  | with_reducible refine bl_of ?_ | with_reducible refine in_of ?_ | with_reducible refine lst_of ?_ | with_reducible refine tup_of ?_ | with_reducible refine ins_of ?_ | with_reducible refine non_of ?_
  | with_reducible refine is1_of ?_ | with_reducible refine is2_of ?_ | with_reducible refine is3_of ?_ | with_reducible refine two_of ?_
  | with_reducible refine ws_seq ?_ | with_reducible refine ws_set ?_ | with_reducible refine ws_if ?_ | with_reducible refine ws_ret ?_ | with_reducible refine ws_retN ?_ | with_reducible refine ws_skip ?_
  | with_reducible refine ws_brk ?_ | with_reducible refine ws_cnt ?_ | with_reducible refine ws_drop ?_ | with_reducible refine ws_asg ?_ | with_reducible refine ws_app ?_ | with_reducible refine ws_ext ?_ | with_reducible refine ws_setix ?_
  | with_reducible refine ws_fset ?_ | with_reducible refine ws_par ?_ | with_reducible refine ws_aug ?_ | with_reducible refine ws_for ?_ | with_reducible refine ws_try ?_
  | with_reducible refine sm_gtN ?_ | with_reducible refine sm_gtT rfl ?_ | with_reducible refine sm_gtCons ?_ | with_reducible refine sm_gtNil ?_
  | with_reducible refine we_call ?_ | with_reducible refine we_callB ?_ | with_reducible refine we_meth ?_ | with_reducible refine we_make ?_ | with_reducible refine we_callK ?_ | with_reducible refine we_makeK ?_ | with_reducible refine we_makeL ?_
  | with_reducible refine we_fldN ?_ | with_reducible refine we_unN ?_ | with_reducible refine we_binN ?_ | with_reducible refine we_sl ?_ | with_reducible refine we_slN ?_ | with_reducible refine we_mov ?_ | with_reducible refine we_pop ?_
  | with_reducible refine we_if ?_ | with_reducible refine we_and ?_ | with_reducible refine we_or ?_ | with_reducible refine we_chain ?_ | with_reducible refine we_comp ?_
  | with_reducible refine wt_val ?_ | with_reducible refine wt_and ?_ | with_reducible refine wt_or ?_ | with_reducible refine wt_not ?_ | with_reducible refine wt_yes ?_
  | with_reducible refine wo_none ?_ | with_reducible refine wo_part ?_
  | with_reducible refine wa_itL ?_ | with_reducible refine wa_itT ?_ | with_reducible refine wa_seqD ?_ | with_reducible refine wa_r1 ?_ | with_reducible refine wa_r2 ?_ | with_reducible refine wa_r3 ?_
  | with_reducible refine br_t ?_ | with_reducible refine br_f ?_ | with_reducible refine br_n ?_ | with_reducible refine br_dt (by assumption) ?_ | with_reducible refine br_df (by assumption) ?_
  | with_reducible refine sm_put1 ?_ | with_reducible refine sm_put2 ?_ | with_reducible refine sm_put3 ?_ | with_reducible refine sm_ioI ?_ | with_reducible refine sm_pow (by decide) ?_
  | with_reducible refine we_opO ?_ | with_reducible refine ws_insr ?_ | with_reducible refine sm_tupRevL ?_ | with_reducible refine sm_tupRevK ?_ | with_reducible refine sm_seqL ?_ | with_reducible refine sm_seqK ?_ | with_reducible refine sm_seqT ?_
  | with_reducible refine or_new (by with_unfolding_all exact rfl) ?_
  | with_reducible refine sm_toL ?_ | with_reducible refine sm_toT ?_ | with_reducible refine sm_toK ?_ | with_reducible refine sm_loL ?_ | with_reducible refine sm_loT ?_ | with_reducible refine sm_loK ?_)
section
variable {Q : D → Prop} {QB : D → D → Prop} {E : Er}
theorem int_w {i : Int} (q : Q (.bl true)) : WR (m_is_integer [.int i]) Q E := by
  unfold m_is_integer; refine wr_fn (by simp only [List.map_cons, List.map_nil, List.cons_append, List.nil_append, Nat.reduceSub, List.replicate_succ, List.replicate_zero]; rfl) ?_; unfold b_is_integer
  repeat infer_instance
  exact q
theorem init_w (n d : Int) (hd : 0 < d) (hb : Bit 9000 d) (q : QB .non (frD (Rat.divInt n d))) : WB (m_Frac___init__ [.ins 0 [], .int n, .int d]) QB E := by
  obtain ⟨g0, gb⟩ := gcd_pb (n := n) hd hb
  have h0 : ¬ d = 0 := by omega
  have h1 : ¬ d < 0 := by omega
  rw [frD, ← low_num hd, ← low_den hd, ← fdiv_pos _ g0, ← fdiv_pos _ g0] at q
  unfold m_Frac___init__; refine wb_fn (by simp only [List.map_cons, List.map_nil, List.cons_append, List.nil_append, Nat.reduceSub, List.replicate_succ, List.replicate_zero]; rfl) ?_; unfold b_Frac___init__
  repeat' first | infer_instance | refine int_w ?_ | refine sm_II (cDiv_bits g0 gb (by decide)) ?_
  exact q
theorem bits_sum {a : Nat} {p q : Rat} (hp : Sz a p) (hq : Sz a q) : Bit (a + a) (p.den * q.den) := hp.2.mul hq.2
theorem add_w {p q : Rat} (hp : Sz 4500 p) (hq : Sz 4500 q) (k : Q (frD (p + q))) : WR (m_Frac___add__ [frD p, frD q]) Q E := by
  have h1 := den_pos' p
  have h2 := den_pos' q
  unfold m_Frac___add__; refine wr_fn (by simp only [List.map_cons, List.map_nil, List.cons_append, List.nil_append, Nat.reduceSub, List.replicate_succ, List.replicate_zero]; rfl) ?_; unfold b_Frac___add__
  repeat' first | infer_instance | refine sm_II (cMul_bits hp.1 hq.2 (by decide) (by decide)) ?_ | refine sm_II (cMul_bits hq.1 hp.2 (by decide) (by decide)) ?_ | refine sm_II (cMul_bits hp.2 hq.2 (by decide) (by decide)) ?_ | refine init_w _ _ (Int.mul_pos h1 h2) (bits_sum hp hq) ?_
  rw [rat_add]
  exact k
theorem sub_w {p q : Rat} (hp : Sz 4500 p) (hq : Sz 4500 q) (k : Q (frD (p - q))) : WR (m_Frac___sub__ [frD p, frD q]) Q E := by
  have h1 := den_pos' p
  have h2 := den_pos' q
  unfold m_Frac___sub__; refine wr_fn (by simp only [List.map_cons, List.map_nil, List.cons_append, List.nil_append, Nat.reduceSub, List.replicate_succ, List.replicate_zero]; rfl) ?_; unfold b_Frac___sub__
  repeat' first | infer_instance | refine sm_II (cMul_bits hp.1 hq.2 (by decide) (by decide)) ?_ | refine sm_II (cMul_bits hq.1 hp.2 (by decide) (by decide)) ?_ | refine sm_II (cMul_bits hp.2 hq.2 (by decide) (by decide)) ?_ | refine init_w _ _ (Int.mul_pos h1 h2) (bits_sum hp hq) ?_
  rw [rat_sub]
  exact k
theorem mul_w {p q : Rat} (hp : Sz 4500 p) (hq : Sz 4500 q) (k : Q (frD (p * q))) : WR (m_Frac___mul__ [frD p, frD q]) Q E := by
  have h1 := den_pos' p
  have h2 := den_pos' q
  unfold m_Frac___mul__; refine wr_fn (by simp only [List.map_cons, List.map_nil, List.cons_append, List.nil_append, Nat.reduceSub, List.replicate_succ, List.replicate_zero]; rfl) ?_; unfold b_Frac___mul__
  repeat' first | infer_instance | refine sm_II (cMul_bits hp.1 hq.1 (by decide) (by decide)) ?_ | refine sm_II (cMul_bits hp.2 hq.2 (by decide) (by decide)) ?_ | refine init_w _ _ (Int.mul_pos h1 h2) (bits_sum hp hq) ?_
  rw [rat_mul]
  exact k
theorem below_w {p q : Rat} (hp : Sz 9000 p) (hq : Sz 9000 q) (k : Q (.bl (decide (p < q)))) : WR (m_Frac_is_below [frD p, frD q]) Q E := by
  rw [decide_eq_decide.mpr (Rat.lt_iff p q)] at k
  unfold m_Frac_is_below; refine wr_fn (by simp only [List.map_cons, List.map_nil, List.cons_append, List.nil_append, Nat.reduceSub, List.replicate_succ, List.replicate_zero]; rfl) ?_; unfold b_Frac_is_below
  repeat' first | infer_instance | refine sm_II (cMul_bits hp.1 hq.2 (by decide) (by decide)) ?_ | refine sm_II (cMul_bits hq.1 hp.2 (by decide) (by decide)) ?_
  exact k
theorem as_frac_f {q : Rat} (k : Q (frD q)) : WR (m_as_frac [frD q]) Q E := by
  unfold m_as_frac; refine wr_fn (by simp only [List.map_cons, List.map_nil, List.cons_append, List.nil_append, Nat.reduceSub, List.replicate_succ, List.replicate_zero]; rfl) ?_; unfold b_as_frac
  repeat infer_instance
  exact k
theorem as_frac_i {i : Int} (k : Q (frD (i : Rat))) : WR (m_as_frac [.int i]) Q E := by
  have e : Rat.divInt i 1 = (i : Rat) := divInt_one i
  rw [← e] at k
  unfold m_as_frac; refine wr_fn (by simp only [List.map_cons, List.map_nil, List.cons_append, List.nil_append, Nat.reduceSub, List.replicate_succ, List.replicate_zero]; rfl) ?_; unfold b_as_frac
  repeat' first | infer_instance | refine int_w ?_ | refine init_w _ _ (by decide) (.lit 2 (by decide) (by decide)) ?_
  exact k
end
end Z.L50
end
set_option Elab.async false
set_option linter.all false
set_option maxRecDepth 100000
noncomputable section
namespace Z.L50
open PySem PySem.Spec L2
set_option maxHeartbeats 4000000
local macro_rules | `(tactic| infer_instance) => `(tactic| first
  | with_reducible refine we_var ?_ | with_reducible refine we_con ?_ | with_reducible refine wa_cons ?_ | with_reducible refine wa_nil ?_
  | with_reducible refine we_bin ?_ | with_reducible refine we_un ?_ | with_reducible refine we_prim ?_
  | with_reducible refine sm_I0 ?_ | with_reducible refine sm_IB ?_ | with_reducible refine sm_eq ?_ | with_reducible refine sm_ne ?_ | with_reducible refine sm_not ?_ | with_reducible refine sm_U ?_
  | with_reducible refine sm_one ?_ | with_reducible refine sm_two ?_ | with_reducible refine sm_ixl ?_ | with_reducible refine sm_ixt ?_ | with_reducible refine sm_ixk ?_
  | with_reducible refine sm_II (by first | assumption | exact cNz_r (by omega) | exact cDiv_r (by omega) (by omega) | exact cMul_l (by omega) | exact cMul_r (by omega) | exact cMul_fm rfl | decide) ?_
  | with_reducible refine sm_tup (by first | decide | (simp only [List.length_cons, List.length_nil]; omega)) ?_ | with_reducible refine sm_lst (by first | decide | (simp only [List.length_cons, List.length_nil]; omega)) ?_
  | with_reducible refine sm_lenl ?_ | with_reducible refine sm_lent ?_ | with_reducible refine sm_lenk ?_
  | with_reducible refine sm_fld (by with_unfolding_all exact rfl) ?_ | with_reducible refine sm_atc (by with_unfolding_all exact rfl) ?_
  | with_reducible refine sm_isT (by with_unfolding_all exact rfl) ?_ | with_reducible refine sm_isF (by with_unfolding_all exact rfl) ?_ | with_reducible refine sm_nnT (by with_unfolding_all exact rfl) ?_ | with_reducible refine sm_nnF (by with_unfolding_all exact rfl) ?_
  | with_reducible refine setN_of ?_ | with_reducible refine lk_of ?_
  | with_reducible refine bl_of ?_ | with_reducible refine in_of ?_ | with_reducible refine lst_of ?_ | with_reducible refine tup_of ?_ | with_reducible refine ins_of ?_ | with_reducible refine non_of ?_
  | with_reducible refine is1_of ?_ | with_reducible refine is2_of ?_ | with_reducible refine is3_of ?_ | with_reducible refine two_of ?_
  | with_reducible refine ws_seq ?_ | with_reducible refine ws_set ?_ | with_reducible refine ws_if ?_ | with_reducible refine ws_ret ?_ | with_reducible refine ws_retN ?_ | with_reducible refine ws_skip ?_
  | with_reducible refine ws_brk ?_ | with_reducible refine ws_cnt ?_ | with_reducible refine ws_drop ?_ | with_reducible refine ws_asg ?_ | with_reducible refine ws_app ?_ | with_reducible refine ws_ext ?_ | with_reducible refine ws_setix ?_
  | with_reducible refine ws_fset ?_ | with_reducible refine ws_par ?_ | with_reducible refine ws_aug ?_ | with_reducible refine ws_for ?_ | with_reducible refine ws_try ?_
  | with_reducible refine sm_gtN ?_ | with_reducible refine sm_gtT rfl ?_ | with_reducible refine sm_gtCons ?_ | with_reducible refine sm_gtNil ?_
  | with_reducible refine we_call ?_ | with_reducible refine we_callB ?_ | with_reducible refine we_meth ?_ | with_reducible refine we_make ?_ | with_reducible refine we_callK ?_ | with_reducible refine we_makeK ?_ | with_reducible refine we_makeL ?_
  | with_reducible refine we_fldN ?_ | with_reducible refine we_unN ?_ | with_reducible refine we_binN ?_ | with_reducible refine we_sl ?_ | with_reducible refine we_slN ?_ | with_reducible refine we_mov ?_ | with_reducible refine we_pop ?_
  | with_reducible refine we_if ?_ | with_reducible refine we_and ?_ | with_reducible refine we_or ?_ | with_reducible refine we_chain ?_ | with_reducible refine we_comp ?_
  | with_reducible refine wt_val ?_ | with_reducible refine wt_and ?_ | with_reducible refine wt_or ?_ | with_reducible refine wt_not ?_ | with_reducible refine wt_yes ?_
  | with_reducible refine wo_none ?_ | with_reducible refine wo_part ?_
  | with_reducible refine wa_itL ?_ | with_reducible refine wa_itT ?_ | with_reducible refine wa_seqD ?_ | with_reducible refine wa_r1 ?_ | with_reducible refine wa_r2 ?_ | with_reducible refine wa_r3 ?_
  | with_reducible refine br_t ?_ | with_reducible refine br_f ?_ | with_reducible refine br_n ?_ | with_reducible refine br_dt (by assumption) ?_ | with_reducible refine br_df (by assumption) ?_
  | with_reducible refine sm_put1 ?_ | with_reducible refine sm_put2 ?_ | with_reducible refine sm_put3 ?_ | with_reducible refine sm_ioI ?_ | with_reducible refine sm_pow (by decide) ?_
  | with_reducible refine we_opO ?_ | with_reducible refine ws_insr ?_ | with_reducible refine sm_tupRevL ?_ | with_reducible refine sm_tupRevK ?_ | with_reducible refine sm_seqL ?_ | with_reducible refine sm_seqK ?_ | with_reducible refine sm_seqT ?_
  | with_reducible refine or_new (by with_unfolding_all exact rfl) ?_
  | with_reducible refine sm_toL ?_ | with_reducible refine sm_toT ?_ | with_reducible refine sm_toK ?_ | with_reducible refine sm_loL ?_ | with_reducible refine sm_loT ?_ | with_reducible refine sm_loK ?_)
section
variable {Q : D → Prop} {QB : D → D → Prop} {E : Er}
theorem worth_w {f : D} (hf : Fd f) (k : ∀ (x : Rat) f', Fd f' → 0 ≤ x.num ∧ x.num ≤ 9999 ∧ (x.den : Int) ≤ 99 → QB (prD x) f') : WB (m__law_worth [f]) QB E := by
  have lit : ∀ (r : Int) f', Fd f' → 0 ≤ r → r < 10000 → QB (.tup [.int r, .int 1]) f' := fun r f' h h0 h1 => k (r : Rat) f' h (of_worth h0 h1 (by omega))
  have low : ∀ (r s : Int) f', Fd f' → 0 ≤ r → r < 10000 → 0 ≤ s → s < 99 → QB (prD (Rat.divInt r (1 + s))) f' := fun r s f' h h0 h1 h2 h3 => by
    obtain ⟨a, b, c⟩ := low_b (n := r) (d := 1 + s) (by omega) h0
    exact k _ f' h ⟨a, by omega, by omega⟩
  unfold m__law_worth
  refine wb_fn (by simp only [List.map_cons, List.map_nil, List.cons_append, List.nil_append, Nat.reduceSub, List.replicate_succ, List.replicate_zero]; rfl) ?_
  unfold b__law_worth
  repeat infer_instance
  refine pick_w 12 hf (by omega) (by omega) fun a f1 h1 a0 a1 => ?_
  repeat infer_instance
  refine br_d (fun _ => ?_) (fun _ => ?_)
  · repeat infer_instance
    refine pick_w 7 h1 (by omega) (by omega) fun b f2 h2 b0 b1 => ?_
    repeat infer_instance
    exact lit b f2 h2 b0 (by omega)
  repeat infer_instance
  refine br_d (fun _ => ?_) (fun _ => ?_)
  · repeat infer_instance
    refine pick_w 40 h1 (by omega) (by omega) fun b f2 h2 b0 b1 => ?_
    repeat infer_instance
    refine pick_w 6 h2 (by omega) (by omega) fun c f3 h3 c0 c1 => ?_
    repeat infer_instance
    refine cut_w b (1 + c) (by omega) (.mono (a := 20) (by unfold Bit; omega) (by decide)) ?_
    repeat infer_instance
    exact low b c f3 h3 b0 (by omega) c0 (by omega)
  repeat infer_instance
  refine br_d (fun _ => ?_) (fun _ => ?_)
  · repeat infer_instance
    refine pick_w 10000 h1 (by omega) (by omega) fun b f2 h2 b0 b1 => ?_
    repeat infer_instance
    exact lit b f2 h2 b0 (by omega)
  repeat infer_instance
  refine pick_w 10000 h1 (by omega) (by omega) fun b f2 h2 b0 b1 => ?_
  repeat infer_instance
  refine pick_w 99 h2 (by omega) (by omega) fun c f3 h3 c0 c1 => ?_
  repeat infer_instance
  refine cut_w b (1 + c) (by omega) (.mono (a := 20) (by unfold Bit; omega) (by decide)) ?_
  repeat infer_instance
  exact low b c f3 h3 b0 (by omega) c0 (by omega)
end
end Z.L50
end
set_option Elab.async false
set_option linter.all false
set_option maxRecDepth 100000
noncomputable section
namespace Z.L50
open PySem PySem.Spec L2
set_option maxHeartbeats 4000000
local macro_rules | `(tactic| infer_instance) => `(tactic| first
  | with_reducible refine we_var ?_ | with_reducible refine we_con ?_ | with_reducible refine wa_cons ?_ | with_reducible refine wa_nil ?_
  | with_reducible refine we_bin ?_ | with_reducible refine we_un ?_ | with_reducible refine we_prim ?_
  | with_reducible refine sm_I0 ?_ | with_reducible refine sm_IB ?_ | with_reducible refine sm_eq ?_ | with_reducible refine sm_ne ?_ | with_reducible refine sm_not ?_ | with_reducible refine sm_U ?_
  | with_reducible refine sm_one ?_ | with_reducible refine sm_two ?_ | with_reducible refine sm_ixl ?_ | with_reducible refine sm_ixt ?_ | with_reducible refine sm_ixk ?_
  | with_reducible refine sm_II (by first | assumption | exact cNz_r (by omega) | exact cDiv_r (by omega) (by omega) | exact cMul_l (by omega) | exact cMul_r (by omega) | exact cMul_fm rfl | decide) ?_
  | with_reducible refine sm_tup (by first | decide | (simp only [List.length_cons, List.length_nil]; omega)) ?_ | with_reducible refine sm_lst (by first | decide | (simp only [List.length_cons, List.length_nil]; omega)) ?_
  | with_reducible refine sm_lenl ?_ | with_reducible refine sm_lent ?_ | with_reducible refine sm_lenk ?_
  | with_reducible refine sm_fld (by with_unfolding_all exact rfl) ?_ | with_reducible refine sm_atc (by with_unfolding_all exact rfl) ?_
  | with_reducible refine sm_isT (by with_unfolding_all exact rfl) ?_ | with_reducible refine sm_isF (by with_unfolding_all exact rfl) ?_ | with_reducible refine sm_nnT (by with_unfolding_all exact rfl) ?_ | with_reducible refine sm_nnF (by with_unfolding_all exact rfl) ?_
  | with_reducible refine setN_of ?_ | with_reducible refine lk_of ?_
  | with_reducible refine bl_of ?_ | with_reducible refine in_of ?_ | with_reducible refine lst_of ?_ | with_reducible refine tup_of ?_ | with_reducible refine ins_of ?_ | with_reducible refine non_of ?_
  | with_reducible refine is1_of ?_ | with_reducible refine is2_of ?_ | with_reducible refine is3_of ?_ | with_reducible refine two_of ?_
  | with_reducible refine ws_seq ?_ | with_reducible refine ws_set ?_ | with_reducible refine ws_if ?_ | with_reducible refine ws_ret ?_ | with_reducible refine ws_retN ?_ | with_reducible refine ws_skip ?_
  | with_reducible refine ws_brk ?_ | with_reducible refine ws_cnt ?_ | with_reducible refine ws_drop ?_ | with_reducible refine ws_asg ?_ | with_reducible refine ws_app ?_ | with_reducible refine ws_ext ?_ | with_reducible refine ws_setix ?_
  | with_reducible refine ws_fset ?_ | with_reducible refine ws_par ?_ | with_reducible refine ws_aug ?_ | with_reducible refine ws_for ?_ | with_reducible refine ws_try ?_
  | with_reducible refine sm_gtN ?_ | with_reducible refine sm_gtT rfl ?_ | with_reducible refine sm_gtCons ?_ | with_reducible refine sm_gtNil ?_
  | with_reducible refine we_call ?_ | with_reducible refine we_callB ?_ | with_reducible refine we_meth ?_ | with_reducible refine we_make ?_ | with_reducible refine we_callK ?_ | with_reducible refine we_makeK ?_ | with_reducible refine we_makeL ?_
  | with_reducible refine we_fldN ?_ | with_reducible refine we_unN ?_ | with_reducible refine we_binN ?_ | with_reducible refine we_sl ?_ | with_reducible refine we_slN ?_ | with_reducible refine we_mov ?_ | with_reducible refine we_pop ?_
  | with_reducible refine we_if ?_ | with_reducible refine we_and ?_ | with_reducible refine we_or ?_ | with_reducible refine we_chain ?_ | with_reducible refine we_comp ?_
  | with_reducible refine wt_val ?_ | with_reducible refine wt_and ?_ | with_reducible refine wt_or ?_ | with_reducible refine wt_not ?_ | with_reducible refine wt_yes ?_
  | with_reducible refine wo_none ?_ | with_reducible refine wo_part ?_
  | with_reducible refine wa_itL ?_ | with_reducible refine wa_itT ?_ | with_reducible refine wa_seqD ?_ | with_reducible refine wa_r1 ?_ | with_reducible refine wa_r2 ?_ | with_reducible refine wa_r3 ?_
  | with_reducible refine br_t ?_ | with_reducible refine br_f ?_ | with_reducible refine br_n ?_ | with_reducible refine br_dt (by assumption) ?_ | with_reducible refine br_df (by assumption) ?_
  | with_reducible refine sm_put1 ?_ | with_reducible refine sm_put2 ?_ | with_reducible refine sm_put3 ?_ | with_reducible refine sm_ioI ?_ | with_reducible refine sm_pow (by decide) ?_
  | with_reducible refine we_opO ?_ | with_reducible refine ws_insr ?_ | with_reducible refine sm_tupRevL ?_ | with_reducible refine sm_tupRevK ?_ | with_reducible refine sm_seqL ?_ | with_reducible refine sm_seqK ?_ | with_reducible refine sm_seqT ?_
  | with_reducible refine or_new (by with_unfolding_all exact rfl) ?_
  | with_reducible refine sm_toL ?_ | with_reducible refine sm_toT ?_ | with_reducible refine sm_toK ?_ | with_reducible refine sm_loL ?_ | with_reducible refine sm_loT ?_ | with_reducible refine sm_loK ?_)
section
variable {Q : D → Prop} {QB : D → D → Prop} {E : Er}
theorem lofr_w {f : D} (m : Nat) (hf : Fd f) (h1 : 1 ≤ m) (h6 : m ≤ 6) (k : ∀ rs f', OfOk m rs → Fd f' → QB (offL rs) f') : WB (m__law_offer [f, .int (m : Int)]) QB E := by
  unfold m__law_offer
  refine wb_fn (by simp only [List.map_cons, List.map_nil, List.cons_append, List.nil_append, Nat.reduceSub, List.replicate_succ, List.replicate_zero]; rfl) ?_
  unfold b__law_offer
  repeat infer_instance
  refine pick_w (m : Int) hf (by omega) (by omega) fun a f1 hf1 a0 a1 => ?_
  repeat infer_instance
  refine ⟨by unfold Rng; omega, ?_⟩
  refine wf_rng (fun i ρ => ∃ (f : D) (rs : List Row) (x3 x4 x5 x6 x7 x8 x9 : Option D), ρ = [some f, some (.int (m : Int)), some (offL rs), x3, x4, x5, x6, x7, x8, x9] ∧ Fd f ∧ rs.length ≤ i ∧ (1 ≤ i → 1 ≤ rs.length) ∧ (∀ r ∈ rs, ROk r) ∧ AscR rs)
    ⟨_, [], _, _, _, _, _, _, _, rfl, hf1, by simp, by omega, (fun r hr => nomatch hr), .nil⟩ ?_ ?_
  · rintro i ρ hi ⟨f2, rs, x3, x4, x5, x6, x7, x8, x9, rfl, hf2, l1, l2, ok, asc⟩
    have main : ∀ (w : Int) f3 x5 x6 x7 x8 x9, Fd f3 → 1 ≤ w → w ≤ 999 → WS ((mSeq (mSet 5 (mCallB 0 m__law_worth mNil)) (mSeq (mSet 6 (mCon (.int 0))) (mSeq (mSet 7 (mCon (.bl true))) (mSeq (mFor (mItR1 (mCons (mUnN 2 gLen) mNil)) (gtN 8) l__law_offer_b9) (mIfS (mVal (mVar 7)) (mInsr 2 (mVar 6) (mPrim gTup (mCons (mVar 4) (mCons (mVar 5) mNil)))) mSkip))))) [some f3, some (.int (m : Int)), some (offL rs), some (.int (0 + (i : Int))), some (.int w), x5, x6, x7, x8, x9])
        (fun ρ => ∃ (f : D) (rs : List Row) (x3 x4 x5 x6 x7 x8 x9 : Option D), ρ = [some f, some (.int (m : Int)), some (offL rs), x3, x4, x5, x6, x7, x8, x9] ∧ Fd f ∧ rs.length ≤ i + 1 ∧ (1 ≤ i + 1 → 1 ≤ rs.length) ∧ (∀ r ∈ rs, ROk r) ∧ AscR rs) (fun d ρ1 => Lk ρ1 0 (QB d))
        (fun ρ1 => WS (mRet (mVar 2) ρ1) (fun ρ1 => Lk ρ1 0 (QB .non)) (fun d ρ1 => Lk ρ1 0 (QB d)) (fun _ => False) (fun _ => False) E)
        (fun ρ => ∃ (f : D) (rs : List Row) (x3 x4 x5 x6 x7 x8 x9 : Option D), ρ = [some f, some (.int (m : Int)), some (offL rs), x3, x4, x5, x6, x7, x8, x9] ∧ Fd f ∧ rs.length ≤ i + 1 ∧ (1 ≤ i + 1 → 1 ≤ rs.length) ∧ (∀ r ∈ rs, ROk r) ∧ AscR rs) E := by
      intro w f3 x5 x6 x7 x8 x9 hf3 w1 w2
      repeat infer_instance
      refine worth_w hf3 fun q f4 hf4 ⟨q0, q1, q2⟩ => ?_
      repeat infer_instance
      refine ⟨by rw [List.length_map]; unfold Rng; omega, ?_⟩
      rw [show ((((rs.map lrow).length : Nat) : Int)).toNat = rs.length by simp]
      refine wf_rng (fun j ρ => ∃ (p : Nat) (b : Bool) (x8 x9 : Option D), ρ = [some f4, some (.int (m : Int)), some (offL rs), some (.int (0 + (i : Int))), some (.int w), some (prD q), some (.int (p : Int)), some (.bl b), x8, x9] ∧ PlI rs q j p b)
        ⟨0, true, _, _, rfl, PlI.start rs q⟩ ?_ ?_
      · rintro j ρ hj ⟨p, b, x8, x9, rfl, hp⟩
        have er : rs[j]? = some rs[j] := List.getElem?_eq_getElem hj
        have ro := ok rs[j] (List.getElem_mem hj)
        have dq := den_pos' q
        have dr := den_pos' rs[j].2
        have n0 := ro.n0
        have n1 := ro.n1
        have d1 := ro.d1
        have st := hp.step asc er
        have hg := gap_pos (q := q) (r := rs[j].2) rfl rfl
        have hz := gap_zero (q := q) (r := rs[j].2) rfl rfl
        generalize rs[j] = r at *
        have at_ : atI (rs.map lrow) (0 + (j : Int)) = some (lrow r) := by rw [Int.zero_add]; exact atI_nat (by rw [List.getElem?_map, er]; rfl)
        unfold l__law_offer_b9
        repeat' first | infer_instance | refine ⟨_, at_, ?_⟩
        refine br_d (fun g1 => ?_) (fun g1 => ?_)
        · rw [if_pos (hg.mp g1), if_neg (by have := hg.mp g1; grind)] at st
          repeat infer_instance
          refine br_df (by omega) ?_
          repeat infer_instance
          exact ⟨j + 1, b, _, _, by rw [show (0 : Int) + (j : Int) + 1 = ((j + 1 : Nat) : Int) by omega], st⟩
        · rw [if_neg (fun z => g1 (hg.mpr z))] at st
          repeat infer_instance
          refine br_d (fun g2 => ?_) (fun g2 => ?_)
          · rw [if_pos (hz.mp g2)] at st
            repeat infer_instance
            exact ⟨p, false, _, _, rfl, st⟩
          · rw [if_neg (fun z => g2 (hz.mpr z))] at st
            repeat infer_instance
            exact ⟨p, b, _, _, rfl, st⟩
      · rintro ρ ⟨p, b, x8, x9, rfl, hp⟩
        repeat infer_instance
        have hl := hp.le
        cases b with
        | true =>
          refine br_t ?_
          repeat infer_instance
          refine ⟨⟨by rw [List.length_map]; omega, by omega, by omega⟩, ?_⟩
          repeat infer_instance
          have e : ((rs.map lrow).take (p : Int).toNat ++ [D.tup [.int w, prD q]] ++ (rs.map lrow).drop (p : Int).toNat) = (rs.take p ++ [(w, q)] ++ rs.drop p).map lrow := map_ins (f := lrow) (x := (w, q))
          rw [e]
          refine ⟨_, _, _, _, _, _, _, _, _, rfl, hf4, by rw [len_ins hl]; omega, fun _ => by rw [len_ins hl]; omega, fun r hr => ?_, hp.ins asc⟩
          rcases mem_ins hr with z | z
          · exact ok r z
          · subst z; exact ⟨w1, w2, q0, q1, q2⟩
        | false =>
          refine br_f ?_
          repeat infer_instance
          refine ⟨_, rs, _, _, _, _, _, _, _, rfl, hf4, by omega, fun _ => ?_, ok, asc⟩
          cases rs with
          | nil => exact absurd (hp.nf rfl) (by decide)
          | cons _ _ => simp
    unfold l__law_offer_b2
    repeat infer_instance
    refine pick_w 4 hf2 (by omega) (by omega) fun b f3 hf3 b0 b1 => ?_
    repeat infer_instance
    refine pick_w 6 hf3 (by omega) (by omega) fun c f4 hf4 c0 c1 => ?_
    repeat infer_instance
    refine br_d (fun _ => ?_) (fun _ => ?_)
    · repeat infer_instance
      refine pick_w 99 hf4 (by omega) (by omega) fun c f5 hf5 c0 c1 => ?_
      infer_instance
      infer_instance
      exact main (1 + c) _ _ _ _ _ _ hf5 (by omega) (by omega)
    · infer_instance
      exact main (1 + b) _ _ _ _ _ _ hf4 (by omega) (by omega)
  · rintro ρ ⟨f2, rs, x3, x4, x5, x6, x7, x8, x9, rfl, hf2, l1, l2, ok, asc⟩
    repeat infer_instance
    exact k rs f2 ⟨l2 (by omega), by omega, ok, asc⟩ hf2
end
end Z.L50
end
set_option Elab.async false
set_option linter.all false
set_option maxRecDepth 100000
noncomputable section
namespace Z.L50
open PySem PySem.Spec L2
set_option maxHeartbeats 4000000
local macro_rules | `(tactic| infer_instance) => `(tactic| first
  | with_reducible refine we_var ?_ | with_reducible refine we_con ?_ | with_reducible refine wa_cons ?_ | with_reducible refine wa_nil ?_
  | with_reducible refine we_bin ?_ | with_reducible refine we_un ?_ | with_reducible refine we_prim ?_
  | with_reducible refine sm_I0 ?_ | with_reducible refine sm_IB ?_ | with_reducible refine sm_eq ?_ | with_reducible refine sm_ne ?_ | with_reducible refine sm_not ?_ | with_reducible refine sm_U ?_
  | with_reducible refine sm_one ?_ | with_reducible refine sm_two ?_ | with_reducible refine sm_ixl ?_ | with_reducible refine sm_ixt ?_ | with_reducible refine sm_ixk ?_
  | with_reducible refine sm_II (by first | assumption | exact cNz_r (by omega) | exact cDiv_r (by omega) (by omega) | exact cMul_l (by omega) | exact cMul_r (by omega) | exact cMul_fm rfl | decide) ?_
  | with_reducible refine sm_tup (by first | decide | (simp only [List.length_cons, List.length_nil]; omega)) ?_ | with_reducible refine sm_lst (by first | decide | (simp only [List.length_cons, List.length_nil]; omega)) ?_
  | with_reducible refine sm_lenl ?_ | with_reducible refine sm_lent ?_ | with_reducible refine sm_lenk ?_
  | with_reducible refine sm_fld (by with_unfolding_all exact rfl) ?_ | with_reducible refine sm_atc (by with_unfolding_all exact rfl) ?_
  | with_reducible refine sm_isT (by with_unfolding_all exact rfl) ?_ | with_reducible refine sm_isF (by with_unfolding_all exact rfl) ?_ | with_reducible refine sm_nnT (by with_unfolding_all exact rfl) ?_ | with_reducible refine sm_nnF (by with_unfolding_all exact rfl) ?_
  | with_reducible refine setN_of ?_ | with_reducible refine lk_of ?_
  | with_reducible refine bl_of ?_ | with_reducible refine in_of ?_ | with_reducible refine lst_of ?_ | with_reducible refine tup_of ?_ | with_reducible refine ins_of ?_ | with_reducible refine non_of ?_
  | with_reducible refine is1_of ?_ | with_reducible refine is2_of ?_ | with_reducible refine is3_of ?_ | with_reducible refine two_of ?_
  | with_reducible refine ws_seq ?_ | with_reducible refine ws_set ?_ | with_reducible refine ws_if ?_ | with_reducible refine ws_ret ?_ | with_reducible refine ws_retN ?_ | with_reducible refine ws_skip ?_
  | with_reducible refine ws_brk ?_ | with_reducible refine ws_cnt ?_ | with_reducible refine ws_drop ?_ | with_reducible refine ws_asg ?_ | with_reducible refine ws_app ?_ | with_reducible refine ws_ext ?_ | with_reducible refine ws_setix ?_
  | with_reducible refine ws_fset ?_ | with_reducible refine ws_par ?_ | with_reducible refine ws_aug ?_ | with_reducible refine ws_for ?_ | with_reducible refine ws_try ?_
  | with_reducible refine sm_gtN ?_ | with_reducible refine sm_gtT rfl ?_ | with_reducible refine sm_gtCons ?_ | with_reducible refine sm_gtNil ?_
  | with_reducible refine we_call ?_ | with_reducible refine we_callB ?_ | with_reducible refine we_meth ?_ | with_reducible refine we_make ?_ | with_reducible refine we_callK ?_ | with_reducible refine we_makeK ?_ | with_reducible refine we_makeL ?_
  | with_reducible refine we_fldN ?_ | with_reducible refine we_unN ?_ | with_reducible refine we_binN ?_ | with_reducible refine we_sl ?_ | with_reducible refine we_slN ?_ | with_reducible refine we_mov ?_ | with_reducible refine we_pop ?_
  | with_reducible refine we_if ?_ | with_reducible refine we_and ?_ | with_reducible refine we_or ?_ | with_reducible refine we_chain ?_ | with_reducible refine we_comp ?_
  | with_reducible refine wt_val ?_ | with_reducible refine wt_and ?_ | with_reducible refine wt_or ?_ | with_reducible refine wt_not ?_ | with_reducible refine wt_yes ?_
  | with_reducible refine wo_none ?_ | with_reducible refine wo_part ?_
  | with_reducible refine wa_itL ?_ | with_reducible refine wa_itT ?_ | with_reducible refine wa_seqD ?_ | with_reducible refine wa_r1 ?_ | with_reducible refine wa_r2 ?_ | with_reducible refine wa_r3 ?_
  | with_reducible refine br_t ?_ | with_reducible refine br_f ?_ | with_reducible refine br_n ?_ | with_reducible refine br_dt (by assumption) ?_ | with_reducible refine br_df (by assumption) ?_
  | with_reducible refine sm_put1 ?_ | with_reducible refine sm_put2 ?_ | with_reducible refine sm_put3 ?_ | with_reducible refine sm_ioI ?_ | with_reducible refine sm_pow (by decide) ?_
  | with_reducible refine we_opO ?_ | with_reducible refine ws_insr ?_ | with_reducible refine sm_tupRevL ?_ | with_reducible refine sm_tupRevK ?_ | with_reducible refine sm_seqL ?_ | with_reducible refine sm_seqK ?_ | with_reducible refine sm_seqT ?_
  | with_reducible refine or_new (by with_unfolding_all exact rfl) ?_
  | with_reducible refine sm_toL ?_ | with_reducible refine sm_toT ?_ | with_reducible refine sm_toK ?_ | with_reducible refine sm_loL ?_ | with_reducible refine sm_loT ?_ | with_reducible refine sm_loK ?_)
section
variable {Q : D → Prop} {QB : D → D → Prop} {E : Er}
theorem given_w {x : Rat} (plain : Int) (hx : Bit 9000 (x.den : Int)) (k : Q (givenV plain x)) : WR (m__law_given [prD x, .int plain]) Q E := by
  have e := Rat.num_divInt_den x
  have d0 := den_pos' x
  unfold givenV at k
  unfold m__law_given
  refine wr_fn (by simp only [List.map_cons, List.map_nil, List.cons_append, List.nil_append, Nat.reduceSub, List.replicate_succ, List.replicate_zero]; rfl) ?_
  unfold b__law_given
  repeat infer_instance
  refine br_d (fun h => ?_) (fun h => ?_)
  · repeat infer_instance
    refine br_d (fun h2 => ?_) (fun h2 => ?_)
    · repeat infer_instance
      rw [if_pos ⟨h, h2⟩] at k
      exact k
    · repeat infer_instance
      refine init_w _ _ d0 hx ?_
      repeat infer_instance
      rw [if_neg (fun z => h2 z.2)] at k
      rw [e]
      exact k
  · repeat infer_instance
    refine init_w _ _ d0 hx ?_
    repeat infer_instance
    rw [if_neg (fun z => h z.1)] at k
    rw [e]
    exact k
theorem prizes_w {rs : List Row} (form : Int) (h : ∀ r ∈ rs, ROk r) (hl : rs.length ≤ 100000) (k : Q (prizesV form rs)) : WR (m__law_prizes [offL rs, .int form]) Q E := by
  have hb : ∀ r ∈ rs, Bit 9000 (r.2.den : Int) := fun r hr => (show Bit 20 (r.2.den : Int) by have := (h r hr).d1; have := den_pos' r.2; unfold Bit; omega).mono (by decide)
  unfold prizesV at k
  unfold m__law_prizes
  refine wr_fn (by simp only [List.map_cons, List.map_nil, List.cons_append, List.nil_append, Nat.reduceSub, List.replicate_succ, List.replicate_zero]; rfl) ?_
  unfold b__law_prizes
  repeat infer_instance
  refine br_d (fun h0 => ?_) (fun h0 => ?_)
  · rw [if_pos h0] at k
    repeat infer_instance
    refine ⟨by rw [List.length_map]; exact hl, ?_⟩
    refine wc_map (fun r : Row => .tup [.int r.1, givenV 0 r.2]) (fun r hr => ?_) ?_
    · unfold l__law_prizes_e2_15
      repeat infer_instance
      refine given_w 0 (hb r hr) ?_
      repeat infer_instance
      exact ⟨rfl, rfl⟩
    · repeat infer_instance
      exact k
  · rw [if_neg h0] at k
    repeat infer_instance
    refine ⟨by rw [List.length_map]; exact hl, ?_⟩
    refine wc_map (fun r : Row => .lst [.int r.1, givenV 1 r.2]) (fun r hr => ?_) ?_
    · unfold l__law_prizes_e3_17
      repeat infer_instance
      refine given_w 1 (hb r hr) ?_
      repeat infer_instance
      exact ⟨rfl, rfl⟩
    · repeat infer_instance
      exact k
theorem plain_w {i : Int} (k : Q (.bl true)) : WR (m__law_plain [.int i]) Q E := by
  unfold m__law_plain
  refine wr_fn (by simp only [List.map_cons, List.map_nil, List.cons_append, List.nil_append, Nat.reduceSub, List.replicate_succ, List.replicate_zero]; rfl) ?_
  unfold b__law_plain
  repeat infer_instance
  exact k
theorem lfrac_w {x : Rat} {n d : Int} (hd : 0 < d) (hb : Bit 9000 d) (k : Q (.bl (decide (x = Rat.divInt n d)))) : WR (m__law_frac [frD x, .int n, .int d]) Q E := by
  unfold m__law_frac
  refine wr_fn (by simp only [List.map_cons, List.map_nil, List.cons_append, List.nil_append, Nat.reduceSub, List.replicate_succ, List.replicate_zero]; rfl) ?_
  unfold b__law_frac
  repeat' first | infer_instance | refine plain_w ?_ | refine cut_w n d hd hb ?_
  refine br_b (fun h => ?_) (fun h => ?_)
  · repeat infer_instance
    have h := of_decide_eq_true h
    have e : decide (x = Rat.divInt n d) = decide ((x.den : Int) = ((Rat.divInt n d).den : Int)) := by
      refine decide_eq_decide.mpr ⟨fun z => by rw [z], fun z => Rat.ext h (by omega)⟩
    rw [← e]
    exact k
  · have h := of_decide_eq_false h
    rw [decide_eq_false (fun z => h (by rw [z]))] at k
    exact k
theorem likeF_w {x : Rat} {n d : Int} (hd : 0 < d) (hb : Bit 9000 d) (k : Q (.bl (decide (x = Rat.divInt n d)))) : WR (m__law_like [frD x, .lst [.int n, .int d]]) Q E := by
  unfold m__law_like
  refine wr_fn (by simp only [List.map_cons, List.map_nil, List.cons_append, List.nil_append, Nat.reduceSub, List.replicate_succ, List.replicate_zero]; rfl) ?_
  unfold b__law_like
  repeat infer_instance
  refine lfrac_w hd hb ?_
  repeat infer_instance
  exact k
theorem likeB_w {b c : Bool} (k : Q (.bl (decide (b = c)))) : WR (m__law_like [.bl b, .bl c]) Q E := by
  unfold m__law_like
  refine wr_fn (by simp only [List.map_cons, List.map_nil, List.cons_append, List.nil_append, Nat.reduceSub, List.replicate_succ, List.replicate_zero]; rfl) ?_
  unfold b__law_like
  repeat infer_instance
  refine ⟨_, rfl, ?_⟩
  repeat infer_instance
  exact k
theorem likeS_w {b : Bool} (k : Q (.bl true)) : WR (m__law_like [.bl b, .bl b]) Q E := likeB_w (by rw [decide_eq_true rfl]; exact k)
end
end Z.L50
end
set_option Elab.async false
set_option linter.all false
set_option maxRecDepth 100000
noncomputable section
namespace Z.L50
open PySem PySem.Spec L2
set_option maxHeartbeats 4000000
local macro_rules | `(tactic| infer_instance) => `(tactic| first
  | with_reducible refine we_var ?_ | with_reducible refine we_con ?_ | with_reducible refine wa_cons ?_ | with_reducible refine wa_nil ?_
  | with_reducible refine we_bin ?_ | with_reducible refine we_un ?_ | with_reducible refine we_prim ?_
  | with_reducible refine sm_I0 ?_ | with_reducible refine sm_IB ?_ | with_reducible refine sm_eq ?_ | with_reducible refine sm_ne ?_ | with_reducible refine sm_not ?_ | with_reducible refine sm_U ?_
  | with_reducible refine sm_one ?_ | with_reducible refine sm_two ?_ | with_reducible refine sm_ixl ?_ | with_reducible refine sm_ixt ?_ | with_reducible refine sm_ixk ?_
  | with_reducible refine sm_II (by first | assumption | exact cNz_r (by omega) | exact cDiv_r (by omega) (by omega) | exact cMul_l (by omega) | exact cMul_r (by omega) | exact cMul_fm rfl | decide) ?_
  | with_reducible refine sm_tup (by first | decide | (simp only [List.length_cons, List.length_nil]; omega)) ?_ | with_reducible refine sm_lst (by first | decide | (simp only [List.length_cons, List.length_nil]; omega)) ?_
  | with_reducible refine sm_lenl ?_ | with_reducible refine sm_lent ?_ | with_reducible refine sm_lenk ?_
  | with_reducible refine sm_fld (by with_unfolding_all exact rfl) ?_ | with_reducible refine sm_atc (by with_unfolding_all exact rfl) ?_
  | with_reducible refine sm_isT (by with_unfolding_all exact rfl) ?_ | with_reducible refine sm_isF (by with_unfolding_all exact rfl) ?_ | with_reducible refine sm_nnT (by with_unfolding_all exact rfl) ?_ | with_reducible refine sm_nnF (by with_unfolding_all exact rfl) ?_
  | with_reducible refine setN_of ?_ | with_reducible refine lk_of ?_
  | with_reducible refine bl_of ?_ | with_reducible refine in_of ?_ | with_reducible refine lst_of ?_ | with_reducible refine tup_of ?_ | with_reducible refine ins_of ?_ | with_reducible refine non_of ?_
  | with_reducible refine is1_of ?_ | with_reducible refine is2_of ?_ | with_reducible refine is3_of ?_ | with_reducible refine two_of ?_
  | with_reducible refine ws_seq ?_ | with_reducible refine ws_set ?_ | with_reducible refine ws_if ?_ | with_reducible refine ws_ret ?_ | with_reducible refine ws_retN ?_ | with_reducible refine ws_skip ?_
  | with_reducible refine ws_brk ?_ | with_reducible refine ws_cnt ?_ | with_reducible refine ws_drop ?_ | with_reducible refine ws_asg ?_ | with_reducible refine ws_app ?_ | with_reducible refine ws_ext ?_ | with_reducible refine ws_setix ?_
  | with_reducible refine ws_fset ?_ | with_reducible refine ws_par ?_ | with_reducible refine ws_aug ?_ | with_reducible refine ws_for ?_ | with_reducible refine ws_try ?_
  | with_reducible refine sm_gtN ?_ | with_reducible refine sm_gtT rfl ?_ | with_reducible refine sm_gtCons ?_ | with_reducible refine sm_gtNil ?_
  | with_reducible refine we_call ?_ | with_reducible refine we_callB ?_ | with_reducible refine we_meth ?_ | with_reducible refine we_make ?_ | with_reducible refine we_callK ?_ | with_reducible refine we_makeK ?_ | with_reducible refine we_makeL ?_
  | with_reducible refine we_fldN ?_ | with_reducible refine we_unN ?_ | with_reducible refine we_binN ?_ | with_reducible refine we_sl ?_ | with_reducible refine we_slN ?_ | with_reducible refine we_mov ?_ | with_reducible refine we_pop ?_
  | with_reducible refine we_if ?_ | with_reducible refine we_and ?_ | with_reducible refine we_or ?_ | with_reducible refine we_chain ?_ | with_reducible refine we_comp ?_
  | with_reducible refine wt_val ?_ | with_reducible refine wt_and ?_ | with_reducible refine wt_or ?_ | with_reducible refine wt_not ?_ | with_reducible refine wt_yes ?_
  | with_reducible refine wo_none ?_ | with_reducible refine wo_part ?_
  | with_reducible refine wa_itL ?_ | with_reducible refine wa_itT ?_ | with_reducible refine wa_seqD ?_ | with_reducible refine wa_r1 ?_ | with_reducible refine wa_r2 ?_ | with_reducible refine wa_r3 ?_
  | with_reducible refine br_t ?_ | with_reducible refine br_f ?_ | with_reducible refine br_n ?_ | with_reducible refine br_dt (by assumption) ?_ | with_reducible refine br_df (by assumption) ?_
  | with_reducible refine sm_put1 ?_ | with_reducible refine sm_put2 ?_ | with_reducible refine sm_put3 ?_ | with_reducible refine sm_ioI ?_ | with_reducible refine sm_pow (by decide) ?_
  | with_reducible refine we_opO ?_ | with_reducible refine ws_insr ?_ | with_reducible refine sm_tupRevL ?_ | with_reducible refine sm_tupRevK ?_ | with_reducible refine sm_seqL ?_ | with_reducible refine sm_seqK ?_ | with_reducible refine sm_seqT ?_
  | with_reducible refine or_new (by with_unfolding_all exact rfl) ?_
  | with_reducible refine sm_toL ?_ | with_reducible refine sm_toT ?_ | with_reducible refine sm_toK ?_ | with_reducible refine sm_loL ?_ | with_reducible refine sm_loT ?_ | with_reducible refine sm_loK ?_)
section
variable {Q : D → Prop} {QB : D → D → Prop} {E : Er}
theorem as_frac_g {v : D} {x : Rat} (h : GivenOK v x) (k : Q (frD x)) : WR (m_as_frac [v]) Q E := by
  rcases h with rfl | ⟨rfl, e⟩
  · exact as_frac_f k
  · refine as_frac_i ?_
    rw [e]; exact k
theorem amount_w {v : D} {x : Rat} (h : GivenOK v x) (n0 : 0 ≤ x.num) (n1 : x.num ≤ 9999) (d1 : (x.den : Int) ≤ 99) (k : Q (.bl true)) : WR (m_is_amount [v]) Q E := by
  have g := h
  have two : WS ((mSeq (mSet 1 (mCall m_as_frac (mCons (mVar 0) mNil))) (mRet (mAndV (mChain (gIB fun i j => decide (i ≤ j)) (gIB fun i j => decide (i ≤ j)) (mUn (gU fun i => -i) (mCon (.int 9999))) (mUn (gFld [(0, 0)]) (mVar 1)) (mCon (.int 9999))) (mBin (gIB fun i j => decide (i ≤ j)) (mUn (gFld [(0, 1)]) (mVar 1)) (mCon (.int 99)))))) [some v, none]) (fun _ => Q .non) (fun d _ => Q d) (fun _ => False) (fun _ => False) E := by
    repeat infer_instance
    refine as_frac_g g ?_
    repeat infer_instance
    rw [decide_eq_true (show (-9999 : Int) ≤ x.num by omega)]
    repeat infer_instance
    try rw [decide_eq_true n1]
    try repeat infer_instance
    rw [decide_eq_true d1]
    exact k
  unfold m_is_amount
  refine wr_fn (by simp only [List.map_cons, List.map_nil, List.cons_append, List.nil_append, Nat.reduceSub, List.replicate_succ, List.replicate_zero]; rfl) ?_
  unfold b_is_amount
  rcases h with rfl | ⟨rfl, e⟩
  · repeat' first | exact two | infer_instance | refine wr_eq (r := m_is_integer [frD x]) (a := .bl false) (by with_unfolding_all rfl) ?_
  · repeat' first | exact two | infer_instance | refine int_w ?_
theorem prize_w {d : D} {r : Row} (h : IsPr d r) (ok : ROk r) (k : Q (.bl true)) : WR (m_is_prize [d]) Q E := by
  obtain ⟨v, hd, g⟩ := h
  have a := ok.w1
  have b := ok.w2
  have c := ok.n0
  unfold m_is_prize
  refine wr_fn (by simp only [List.map_cons, List.map_nil, List.cons_append, List.nil_append, Nat.reduceSub, List.replicate_succ, List.replicate_zero]; rfl) ?_
  unfold b_is_prize
  have seq : ∀ {d : D}, (d = .tup [.int r.1, v] ∨ d = .lst [.int r.1, v]) → m_is_sequence [d] = .ok (.bl true) := fun h => by rcases h with rfl | rfl <;> with_unfolding_all rfl
  have betw : m_is_between [.int r.1, .int 1, .int 999] = .ok (.bl true) := by
    obtain ⟨x, e, rfl⟩ := WR.get (r := m_is_between [.int r.1, .int 1, .int 999]) (Q := fun d => d = .bl true) (by
      unfold m_is_between
      refine wr_fn (by simp only [List.map_cons, List.map_nil, List.cons_append, List.nil_append, Nat.reduceSub, List.replicate_succ, List.replicate_zero]; rfl) ?_
      unfold b_is_between
      repeat' first | infer_instance | refine int_w ?_ | refine br_dt (by omega) ?_
      rw [decide_eq_true (by omega)])
    exact e
  rcases hd with rfl | rfl
  · repeat' first | infer_instance | refine wr_eq (seq (.inl rfl)) ?_ | refine wr_eq betw ?_ | refine amount_w g ok.n0 ok.n1 ok.d1 ?_ | refine as_frac_g g ?_ | refine br_dt (by simp) ?_
    rw [decide_eq_true c]
    exact k
  · repeat' first | infer_instance | refine wr_eq (seq (.inr rfl)) ?_ | refine wr_eq betw ?_ | refine amount_w g ok.n0 ok.n1 ok.d1 ?_ | refine as_frac_g g ?_ | refine br_dt (by simp) ?_
    rw [decide_eq_true c]
    exact k
theorem kept_w {v : D} {rs : List Row} (h : Prizes v rs) (ok : OfOk 6 rs) (k : Q (.tup (rs.map prow))) : WR (m_kept_prizes [v]) Q E := by
  obtain ⟨ds, hv, hl, hp⟩ := h
  have l1 := ok.l1
  have l2 := ok.l2
  have seq : m_is_sequence [v] = .ok (.bl true) := by rcases hv with rfl | rfl <;> with_unfolding_all rfl
  have len : gLen v = some (.int ds.length) := by rcases hv with rfl | rfl <;> rfl
  have sq : ∃ b, seqD v = some (b, ds) := by rcases hv with rfl | rfl <;> exact ⟨_, rfl⟩
  obtain ⟨b, sq⟩ := sq
  unfold m_kept_prizes
  refine wr_fn (by simp only [List.map_cons, List.map_nil, List.cons_append, List.nil_append, Nat.reduceSub, List.replicate_succ, List.replicate_zero]; rfl) ?_
  unfold b_kept_prizes
  repeat' first | infer_instance | refine wr_eq seq ?_ | refine sm_len len ?_ | refine br_dt (by omega) ?_
  try rw [decide_eq_true (show (ds.length : Int) ≤ 6 by omega)]
  repeat' first | infer_instance | refine sm_seq sq ?_
  refine wf_inv (fun i ρ => ∃ (x2 x3 x4 : Option D), ρ = [some v, some (.lst ((rs.take i).map prow)), x2, x3, x4]) ⟨_, _, _, rfl⟩ ?_ ?_
  · rintro i d ρ hd ⟨x2, x3, x4, rfl⟩
    obtain ⟨x, hx, rfl⟩ := enumD_get hd
    have hi : i < rs.length := by rw [← hl]; exact (List.getElem?_eq_some_iff.mp hx).1
    have er : rs[i]? = some rs[i] := List.getElem?_eq_getElem hi
    have ro := ok.ok _ (List.getElem_mem hi)
    have pr := hp i x _ hx er
    obtain ⟨w, hw, g⟩ := pr
    have ix1 : gIx x (.int 1) = some w := by rcases hw with rfl | rfl <;> rfl
    have ix0 : gIx x (.int 0) = some (.int rs[i].1) := by rcases hw with rfl | rfl <;> rfl
    have fin : (rs.take i).map prow ++ [.tup [.int rs[i].1, frD rs[i].2]] = (rs.take (i + 1)).map prow := by
      rw [List.take_succ, er, List.map_append]; rfl
    have lt : ((rs.take i).map prow).length < 100000 := by rw [List.length_map, List.length_take]; omega
    unfold l_kept_prizes_b4
    repeat' first | infer_instance | refine prize_w ⟨w, hw, g⟩ ro ?_ | refine sm_ix ix1 ?_ | refine as_frac_g g ?_
    rw [Nat.zero_add]
    refine br_d (fun h0 => ?_) (fun h0 => ?_)
    · repeat infer_instance
      have hj : i - 1 < rs.length := by omega
      have ej : rs[i - 1]? = some rs[i - 1] := List.getElem?_eq_getElem hj
      have rj := ok.ok _ (List.getElem_mem hj)
      have at_ : atI ((rs.take i).map prow) ((i : Int) - 1) = some (prow rs[i - 1]) := by
        rw [show (i : Int) - 1 = ((i - 1 : Nat) : Int) by omega]
        exact atI_nat (by rw [List.getElem?_map, List.getElem?_take, if_pos (by omega), ej]; rfl)
      have lt2 : rs[i - 1].2 < rs[i].2 := List.pairwise_iff_getElem.mp ok.asc (i - 1) i hj hi (by omega)
      have sz : ∀ r, ROk r → Sz 9000 r.2 := fun r h => by
        have := h.n0; have := h.n1; have := h.d1; have := den_pos' r.2
        exact Sz.mono (a := 20) ⟨by unfold Bit; omega, by unfold Bit; omega⟩ (by decide)
      repeat' first | infer_instance | refine sm_ati at_ ?_ | refine below_w (sz _ rj) (sz _ ro) ?_
      try rw [decide_eq_true lt2]
      repeat' first | infer_instance | refine sm_ix ix0 ?_ | refine And.intro lt ?_
      rw [fin]
      exact ⟨_, _, _, rfl⟩
    · repeat' first | infer_instance | refine sm_ix ix0 ?_ | refine And.intro lt ?_
      rw [fin]
      exact ⟨_, _, _, rfl⟩
  · rintro ρ ⟨x2, x3, x4, rfl⟩
    repeat infer_instance
    rw [enumD_length, hl, List.take_length]
    repeat infer_instance
    exact k
theorem offer_w {v : D} {rs : List Row} (h : Prizes v rs) (ok : OfOk 6 rs) (k : QB .non (offD rs)) : WB (m_Offer___init__ [.ins 1 [], v]) QB E := by
  unfold m_Offer___init__
  refine wb_fn (by simp only [List.map_cons, List.map_nil, List.cons_append, List.nil_append, Nat.reduceSub, List.replicate_succ, List.replicate_zero]; rfl) ?_
  unfold b_Offer___init__
  repeat infer_instance
  refine kept_w h ok ?_
  repeat infer_instance
  exact k
theorem wsum_w {rs : List Row} (ok : OfOk 6 rs) (k : Q (.int (wsum rs))) : WR (m_Offer_weight_sum [offD rs]) Q E := by
  have l2 := ok.l2
  unfold m_Offer_weight_sum
  refine wr_fn (by simp only [List.map_cons, List.map_nil, List.cons_append, List.nil_append, Nat.reduceSub, List.replicate_succ, List.replicate_zero]; rfl) ?_
  unfold b_Offer_weight_sum
  repeat infer_instance
  refine ⟨by rw [List.length_map]; omega, ?_⟩
  refine wc_map (fun r : Row => .int r.1) (fun r hr => ?_) ?_
  · repeat infer_instance
    exact ⟨rfl, rfl⟩
  · repeat infer_instance
    refine sm_sum (g := fun r : Row => r.1) ?_
    repeat infer_instance
    exact k
theorem shares_w {rs : List Row} (ok : OfOk 6 rs) (k : Q (.tup (rs.map fun r => .tup [frD (shareQ (wsum rs) r), frD r.2]))) : WR (m_Offer_shares [offD rs]) Q E := by
  have l2 := ok.l2
  obtain ⟨w0, w1⟩ := ok.ws (by decide)
  unfold m_Offer_shares
  refine wr_fn (by simp only [List.map_cons, List.map_nil, List.cons_append, List.nil_append, Nat.reduceSub, List.replicate_succ, List.replicate_zero]; rfl) ?_
  unfold b_Offer_shares
  repeat infer_instance
  refine wsum_w ok ?_
  repeat infer_instance
  refine ⟨by rw [List.length_map]; omega, ?_⟩
  refine wc_map (fun r : Row => .tup [frD (shareQ (wsum rs) r), frD r.2]) (fun r hr => ?_) ?_
  · unfold l_Offer_shares_e2_21
    repeat infer_instance
    refine init_w _ _ w0 (.mono (a := 20) (by unfold Bit; omega) (by decide)) ?_
    repeat infer_instance
    exact ⟨rfl, rfl⟩
  · repeat infer_instance
    exact k
theorem total_w {qs : List Rat} {M B : Int} (hM : 0 < M) (h : ∀ q ∈ qs, Fit M B q) (hB : 0 ≤ B) (hn : qs.length ≤ 100000) (b1 : Bit 4400 M) (b2 : Bit 4400 (B * (qs.length : Int) * M)) (k : Q (frD (sumQ qs))) : WR (m_total [.lst (qs.map frD)]) Q E := by
  have e : Rat.divInt 0 1 = 0 := divInt_one 0
  unfold m_total
  refine wr_fn (by simp only [List.map_cons, List.map_nil, List.cons_append, List.nil_append, Nat.reduceSub, List.replicate_succ, List.replicate_zero]; rfl) ?_
  unfold b_total
  repeat infer_instance
  refine init_w _ _ (by decide) (.mono (a := 2) (by unfold Bit; decide) (by decide)) ?_
  repeat infer_instance
  rw [e]
  refine wf_map (fun i ρ => ∃ x2, ρ = [some (.lst (qs.map frD)), some (frD (sumQ (qs.take i))), x2]) ⟨_, rfl⟩ ?_ ?_
  · rintro i q ρ hq ⟨x2, rfl⟩
    have hi := (List.getElem?_eq_some_iff.mp hq).1
    have mem : q ∈ qs := List.mem_of_getElem? hq
    have f1 : Fit M (B * (qs.length : Int)) (sumQ (qs.take i)) := fit_sumN hM hB (fun x hx => h x (List.mem_of_mem_take hx)) (by rw [List.length_take]; omega)
    have f2 : Fit M (B * (qs.length : Int)) q := (h q mem).more (by
      have z : B * 1 ≤ B * (qs.length : Int) := Int.mul_le_mul_of_nonneg_left (by omega) hB
      omega)
    unfold l_total_b2
    repeat infer_instance
    refine add_w ((f1.sz b2 b1).mono (by decide)) ((f2.sz b2 b1).mono (by decide)) ?_
    repeat infer_instance
    rw [← sumQ_take hq]
    exact ⟨_, rfl⟩
  · rintro ρ ⟨x2, rfl⟩
    rw [List.take_length]
    repeat infer_instance
    exact k
theorem over_w {rs : List Row} {M B : Int} {p : Rat} (ok : OfOk 6 rs) (hp : Fit M B p) (hB : 0 ≤ B) (b1 : Bit 1500 M) (b2 : Bit 1500 B) (k : Q (frD (overQ rs p))) : WR (m_Offer_over [offD rs, frD p]) Q E := by
  have l2 := ok.l2
  obtain ⟨w0, w1⟩ := ok.ws (by decide)
  obtain ⟨fq, fo⟩ := fit_over ok (by decide) hp hB
  have M0 := hp.1
  have um : 0 < U0 * M := Int.mul_pos U0_pos M0
  have bw : Bit 20 (wsum rs) := by unfold Bit; omega
  have bm : Bit 1660 (wsum rs * (U0 * M)) := bw.mul (U0_bit.mul b1)
  have bB : Bit 1501 (1 * (9999 + B)) := by rw [Int.one_mul]; exact (Bit.mono (a := 20) (by unfold Bit; decide) (by decide)).add b2
  have szp : Sz 3000 p := hp.sz (by exact b2.mul b1) (b1.mono (by decide))
  have bn : ∀ n : Nat, n ≤ 6 → Bit 4400 (1 * (9999 + B) * (n : Int) * (wsum rs * (U0 * M))) := fun n hn => ((bB.mul (show Bit 10 (n : Int) by unfold Bit; omega)).mul bm).mono (by decide)
  have szr : ∀ r, ROk r → Sz 20 r.2 := fun r h => by
    have := h.n0; have := h.n1; have := h.d1; have := den_pos' r.2
    exact ⟨by unfold Bit; omega, by unfold Bit; omega⟩
  unfold m_Offer_over
  refine wr_fn (by simp only [List.map_cons, List.map_nil, List.cons_append, List.nil_append, Nat.reduceSub, List.replicate_succ, List.replicate_zero]; rfl) ?_
  unfold b_Offer_over
  repeat infer_instance
  refine as_frac_f ?_
  repeat infer_instance
  refine shares_w ok ?_
  repeat infer_instance
  refine ⟨by rw [List.length_map]; omega, ?_⟩
  refine wc_fil (fun r => decide (p < r.2)) (fun r => frD (shareQ (wsum rs) r * (r.2 - p))) (fun r hr => ?_) ?_
  · have ro := ok.ok r hr
    unfold l_Offer_over_i2_21
    repeat infer_instance
    refine below_w (szp.mono (by decide)) ((szr r ro).mono (by decide)) ?_
    repeat infer_instance
    refine ⟨rfl, fun _ => ?_, fun _ => ?_⟩
    · unfold l_Offer_over_e2_21
      have fs := (ro.share (w_le ok.ok r hr))
      have fd := (ro.fit.lift (Int.dvd_mul_right U0 M) um).sub (hp.lift (Int.dvd_mul_left U0 M) um)
      have um' : Bit 1640 (U0 * M) := U0_bit.mul b1
      have bB' : Bit 1501 (9999 + B) := (Bit.mono (a := 20) (by unfold Bit; decide) (by decide)).add b2
      have s2 : Sz 4500 (r.2 - p) := fd.sz ((bB'.mul um').mono (by decide)) (um'.mono (by decide))
      have s1 : Sz 4500 (shareQ (wsum rs) r) := fs.sz (by rw [Int.one_mul]; exact bw.mono (by decide)) (bw.mono (by decide))
      repeat infer_instance
      refine sub_w ((szr r ro).mono (by decide)) (szp.mono (by decide)) ?_
      repeat infer_instance
      refine mul_w s1 s2 ?_
      exact ⟨rfl, rfl⟩
    · rfl
  · repeat infer_instance
    have e : (rs.filter fun r => decide (p < r.2)).map (fun r => frD (shareQ (wsum rs) r * (r.2 - p))) = ((rs.filter fun r => decide (p < r.2)).map fun r => shareQ (wsum rs) r * (r.2 - p)).map frD := by rw [List.map_map]; rfl
    rw [e]
    have ll := List.length_filter_le (fun r => decide (p < r.2)) rs
    refine total_w (Int.mul_pos w0 um) fq (by omega) (by rw [List.length_map]; omega) (bm.mono (by decide)) (bn _ (by rw [List.length_map]; omega)) ?_
    repeat infer_instance
    exact k
end
end Z.L50
end
set_option Elab.async false
set_option linter.all false
set_option maxRecDepth 100000
noncomputable section
namespace Z.L50
open PySem PySem.Spec L2
set_option maxHeartbeats 4000000
local macro_rules | `(tactic| infer_instance) => `(tactic| first
  | with_reducible refine we_var ?_ | with_reducible refine we_con ?_ | with_reducible refine wa_cons ?_ | with_reducible refine wa_nil ?_
  | with_reducible refine we_bin ?_ | with_reducible refine we_un ?_ | with_reducible refine we_prim ?_
  | with_reducible refine sm_I0 ?_ | with_reducible refine sm_IB ?_ | with_reducible refine sm_eq ?_ | with_reducible refine sm_ne ?_ | with_reducible refine sm_not ?_ | with_reducible refine sm_U ?_
  | with_reducible refine sm_one ?_ | with_reducible refine sm_two ?_ | with_reducible refine sm_ixl ?_ | with_reducible refine sm_ixt ?_ | with_reducible refine sm_ixk ?_
  | with_reducible refine sm_II (by first | assumption | exact cNz_r (by omega) | exact cDiv_r (by omega) (by omega) | exact cMul_l (by omega) | exact cMul_r (by omega) | exact cMul_fm rfl | decide) ?_
  | with_reducible refine sm_tup (by first | decide | (simp only [List.length_cons, List.length_nil]; omega)) ?_ | with_reducible refine sm_lst (by first | decide | (simp only [List.length_cons, List.length_nil]; omega)) ?_
  | with_reducible refine sm_lenl ?_ | with_reducible refine sm_lent ?_ | with_reducible refine sm_lenk ?_
  | with_reducible refine sm_fld (by with_unfolding_all exact rfl) ?_ | with_reducible refine sm_atc (by with_unfolding_all exact rfl) ?_
  | with_reducible refine sm_isT (by with_unfolding_all exact rfl) ?_ | with_reducible refine sm_isF (by with_unfolding_all exact rfl) ?_ | with_reducible refine sm_nnT (by with_unfolding_all exact rfl) ?_ | with_reducible refine sm_nnF (by with_unfolding_all exact rfl) ?_
  | with_reducible refine setN_of ?_ | with_reducible refine lk_of ?_
  | with_reducible refine bl_of ?_ | with_reducible refine in_of ?_ | with_reducible refine lst_of ?_ | with_reducible refine tup_of ?_ | with_reducible refine ins_of ?_ | with_reducible refine non_of ?_
  | with_reducible refine is1_of ?_ | with_reducible refine is2_of ?_ | with_reducible refine is3_of ?_ | with_reducible refine two_of ?_
  | with_reducible refine ws_seq ?_ | with_reducible refine ws_set ?_ | with_reducible refine ws_if ?_ | with_reducible refine ws_ret ?_ | with_reducible refine ws_retN ?_ | with_reducible refine ws_skip ?_
  | with_reducible refine ws_brk ?_ | with_reducible refine ws_cnt ?_ | with_reducible refine ws_drop ?_ | with_reducible refine ws_asg ?_ | with_reducible refine ws_app ?_ | with_reducible refine ws_ext ?_ | with_reducible refine ws_setix ?_
  | with_reducible refine ws_fset ?_ | with_reducible refine ws_par ?_ | with_reducible refine ws_aug ?_ | with_reducible refine ws_for ?_ | with_reducible refine ws_try ?_
  | with_reducible refine sm_gtN ?_ | with_reducible refine sm_gtT rfl ?_ | with_reducible refine sm_gtCons ?_ | with_reducible refine sm_gtNil ?_
  | with_reducible refine we_call ?_ | with_reducible refine we_callB ?_ | with_reducible refine we_meth ?_ | with_reducible refine we_make ?_ | with_reducible refine we_callK ?_ | with_reducible refine we_makeK ?_ | with_reducible refine we_makeL ?_
  | with_reducible refine we_fldN ?_ | with_reducible refine we_unN ?_ | with_reducible refine we_binN ?_ | with_reducible refine we_sl ?_ | with_reducible refine we_slN ?_ | with_reducible refine we_mov ?_ | with_reducible refine we_pop ?_
  | with_reducible refine we_if ?_ | with_reducible refine we_and ?_ | with_reducible refine we_or ?_ | with_reducible refine we_chain ?_ | with_reducible refine we_comp ?_
  | with_reducible refine wt_val ?_ | with_reducible refine wt_and ?_ | with_reducible refine wt_or ?_ | with_reducible refine wt_not ?_ | with_reducible refine wt_yes ?_
  | with_reducible refine wo_none ?_ | with_reducible refine wo_part ?_
  | with_reducible refine wa_itL ?_ | with_reducible refine wa_itT ?_ | with_reducible refine wa_seqD ?_ | with_reducible refine wa_r1 ?_ | with_reducible refine wa_r2 ?_ | with_reducible refine wa_r3 ?_
  | with_reducible refine br_t ?_ | with_reducible refine br_f ?_ | with_reducible refine br_n ?_ | with_reducible refine br_dt (by assumption) ?_ | with_reducible refine br_df (by assumption) ?_
  | with_reducible refine sm_put1 ?_ | with_reducible refine sm_put2 ?_ | with_reducible refine sm_put3 ?_ | with_reducible refine sm_ioI ?_ | with_reducible refine sm_pow (by decide) ?_
  | with_reducible refine we_opO ?_ | with_reducible refine ws_insr ?_ | with_reducible refine sm_tupRevL ?_ | with_reducible refine sm_tupRevK ?_ | with_reducible refine sm_seqL ?_ | with_reducible refine sm_seqK ?_ | with_reducible refine sm_seqT ?_
  | with_reducible refine or_new (by with_unfolding_all exact rfl) ?_
  | with_reducible refine sm_toL ?_ | with_reducible refine sm_toT ?_ | with_reducible refine sm_toK ?_ | with_reducible refine sm_loL ?_ | with_reducible refine sm_loT ?_ | with_reducible refine sm_loK ?_)
section
variable {Q : D → Prop} {QB : D → D → Prop} {E : Er}
theorem unit_w {oss : List (List Row)} (ok : ∀ o ∈ oss, (∀ r ∈ o, ROk r) ∧ o.length ≤ 6) (hl : oss.length ≤ 20) (k : ∀ U : Int, 0 < U → Bit 841 U → (∀ o ∈ oss, ∀ r ∈ o, (r.2.den : Int) ∣ U) → Q (.int U)) : WR (m__law_unit [.lst (oss.map offL)]) Q E := by
  unfold m__law_unit
  refine wr_fn (by simp only [List.map_cons, List.map_nil, List.cons_append, List.nil_append, Nat.reduceSub, List.replicate_succ, List.replicate_zero]; rfl) ?_
  unfold b__law_unit
  repeat infer_instance
  refine wf_map (fun i ρ => ∃ (U : Int) (x2 x3 : Option D), ρ = [some (.lst (oss.map offL)), some (.int U), x2, x3] ∧ 0 < U ∧ Bit (1 + 42 * i) U ∧ ∀ o ∈ oss.take i, ∀ r ∈ o, (r.2.den : Int) ∣ U) ⟨1, _, _, rfl, by decide, by unfold Bit; decide, fun o ho => by simp at ho⟩ ?_ ?_
  · rintro i o ρ ho ⟨U, x2, x3, rfl, u0, ub, ud⟩
    have hi := (List.getElem?_eq_some_iff.mp ho).1
    obtain ⟨ok1, ok2⟩ := ok o (List.mem_of_getElem? ho)
    unfold l__law_unit_b2
    repeat infer_instance
    refine wf_map (fun j ρ => ∃ (V : Int) (x3 : Option D), ρ = [some (.lst (oss.map offL)), some (.int V), some (offL o), x3] ∧ 0 < V ∧ Bit (1 + 42 * i + 7 * j) V ∧ U ∣ V ∧ ∀ r ∈ o.take j, (r.2.den : Int) ∣ V) ⟨U, _, rfl, u0, ub, Int.dvd_refl _, fun r hr => by simp at hr⟩ ?_ ?_
    · rintro j r ρ hr ⟨V, x3, rfl, v0, vb, vd, vr⟩
      have hj := (List.getElem?_eq_some_iff.mp hr).1
      have ro := ok1 r (List.mem_of_getElem? hr)
      have d0 := den_pos' r.2
      have d1 := ro.d1
      have le := lcmI_le v0 d0
      have db : Bit 7 (r.2.den : Int) := by unfold Bit; omega
      have e : V * ((Rat.divInt V r.2.den).den : Int) = lcmI V r.2.den := by
        rw [← low_den d0]; exact lcmI_eq v0 d0
      unfold l__law_unit_b3
      repeat infer_instance
      refine cut_w V r.2.den d0 (db.mono (by decide)) ?_
      repeat infer_instance
      refine sm_II (cMul_bits (vb.mono (by omega)) (den_bit d0 db) (Nat.le_refl 9000) (by decide)) ?_
      repeat infer_instance
      rw [e]
      refine ⟨_, _, rfl, le.1, ?_, Int.dvd_trans vd (dvd_lcmI_l _ _), fun s hs => ?_⟩
      · have z := (vb.mul db).le (Int.le_of_lt le.1) le.2
        rw [show 1 + 42 * i + 7 * (j + 1) = 1 + 42 * i + 7 * j + 7 by omega]
        exact z
      · rw [List.take_succ, hr] at hs
        rcases List.mem_append.mp hs with z | z
        · exact Int.dvd_trans (vr s z) (dvd_lcmI_l _ _)
        · simp only [Option.toList_some, List.mem_singleton] at z
          subst z; exact dvd_lcmI_r _ _
    · rintro ρ ⟨V, x3, rfl, v0, vb, vd, vr⟩
      rw [List.take_length] at vr
      refine ⟨V, _, _, rfl, v0, vb.mono (by omega), fun p hp r hr => ?_⟩
      rw [List.take_succ, ho] at hp
      rcases List.mem_append.mp hp with z | z
      · exact Int.dvd_trans (ud p z r hr) vd
      · simp only [Option.toList_some, List.mem_singleton] at z
        subst z; exact vr r hr
  · rintro ρ ⟨U, x2, x3, rfl, u0, ub, ud⟩
    rw [List.take_length] at ud
    repeat infer_instance
    exact k U u0 (ub.mono (by omega)) ud
theorem row_w {rs : List Row} {U : Int} (ok : ∀ r ∈ rs, ROk r) (hl : rs.length ≤ 100000) (ub : Bit 4000 U) (k : Q (.lst (rs.map (srow U)))) : WR (m__law_row [offL rs, .int U]) Q E := by
  unfold m__law_row
  refine wr_fn (by simp only [List.map_cons, List.map_nil, List.cons_append, List.nil_append, Nat.reduceSub, List.replicate_succ, List.replicate_zero]; rfl) ?_
  unfold b__law_row
  repeat infer_instance
  refine ⟨by rw [List.length_map]; exact hl, ?_⟩
  refine wc_map (srow U) (fun r hr => ?_) ?_
  · have ro := ok r hr
    have d0 := den_pos' r.2
    have d1 := ro.d1
    have n0 := ro.n0
    have n1 := ro.n1
    have e : U.fdiv (r.2.den : Int) = U / (r.2.den : Int) := fdiv_pos _ d0
    unfold l__law_row_e1_11
    repeat infer_instance
    rw [e]
    exact ⟨rfl, rfl⟩
  · repeat infer_instance
    exact k
theorem whole_w {α : Type} {as : List α} {enc : α → D} {w : α → Int} (he : ∀ a ∈ as, ∃ x r, enc a = .tup (x :: r) ∧ x = .int (w a)) (hl : as.length ≤ 100000) (k : Q (.int (as.map w).sum)) : WR (m__law_whole [.lst (as.map enc)]) Q E := by
  unfold m__law_whole
  refine wr_fn (by simp only [List.map_cons, List.map_nil, List.cons_append, List.nil_append, Nat.reduceSub, List.replicate_succ, List.replicate_zero]; rfl) ?_
  unfold b__law_whole
  repeat infer_instance
  refine ⟨by rw [List.length_map]; exact hl, ?_⟩
  refine wc_map (fun a => .int (w a)) (fun a ha => ?_) ?_
  · obtain ⟨x, r, e, ex⟩ := he a ha
    subst ex
    unfold l__law_whole_e1_15
    repeat infer_instance
    refine sm_ix (x := .int (w a)) (by rw [e]; exact atI_nat (i := 0) rfl) ?_
    exact ⟨rfl, rfl⟩
  · repeat infer_instance
    refine sm_sum ?_
    repeat infer_instance
    exact k
theorem more_w {i j : Int} (k : Q (.int (if j < i then i else j))) : WR (m__law_more [.int i, .int j]) Q E := by
  unfold m__law_more
  refine wr_fn (by simp only [List.map_cons, List.map_nil, List.cons_append, List.nil_append, Nat.reduceSub, List.replicate_succ, List.replicate_zero]; rfl) ?_
  unfold b__law_more
  repeat infer_instance
  refine br_d (fun h => ?_) (fun h => ?_)
  · rw [if_pos h] at k
    repeat infer_instance
    exact k
  · rw [if_neg h] at k
    repeat infer_instance
    exact k
end
end Z.L50
end
set_option Elab.async false
set_option linter.all false
set_option maxRecDepth 100000
noncomputable section
namespace Z.L50
open PySem PySem.Spec L2
set_option maxHeartbeats 4000000
local macro_rules | `(tactic| infer_instance) => `(tactic| first
  | with_reducible refine we_var ?_ | with_reducible refine we_con ?_ | with_reducible refine wa_cons ?_ | with_reducible refine wa_nil ?_
  | with_reducible refine we_bin ?_ | with_reducible refine we_un ?_ | with_reducible refine we_prim ?_
  | with_reducible refine sm_I0 ?_ | with_reducible refine sm_IB ?_ | with_reducible refine sm_eq ?_ | with_reducible refine sm_ne ?_ | with_reducible refine sm_not ?_ | with_reducible refine sm_U ?_
  | with_reducible refine sm_one ?_ | with_reducible refine sm_two ?_ | with_reducible refine sm_ixl ?_ | with_reducible refine sm_ixt ?_ | with_reducible refine sm_ixk ?_
  | with_reducible refine sm_II (by first | assumption | exact cNz_r (by omega) | exact cDiv_r (by omega) (by omega) | exact cMul_l (by omega) | exact cMul_r (by omega) | exact cMul_fm rfl | decide) ?_
  | with_reducible refine sm_tup (by first | decide | (simp only [List.length_cons, List.length_nil]; omega)) ?_ | with_reducible refine sm_lst (by first | decide | (simp only [List.length_cons, List.length_nil]; omega)) ?_
  | with_reducible refine sm_lenl ?_ | with_reducible refine sm_lent ?_ | with_reducible refine sm_lenk ?_
  | with_reducible refine sm_fld (by with_unfolding_all exact rfl) ?_ | with_reducible refine sm_atc (by with_unfolding_all exact rfl) ?_
  | with_reducible refine sm_isT (by with_unfolding_all exact rfl) ?_ | with_reducible refine sm_isF (by with_unfolding_all exact rfl) ?_ | with_reducible refine sm_nnT (by with_unfolding_all exact rfl) ?_ | with_reducible refine sm_nnF (by with_unfolding_all exact rfl) ?_
  | with_reducible refine setN_of ?_ | with_reducible refine lk_of ?_
  | with_reducible refine bl_of ?_ | with_reducible refine in_of ?_ | with_reducible refine lst_of ?_ | with_reducible refine tup_of ?_ | with_reducible refine ins_of ?_ | with_reducible refine non_of ?_
  | with_reducible refine is1_of ?_ | with_reducible refine is2_of ?_ | with_reducible refine is3_of ?_ | with_reducible refine two_of ?_
  | with_reducible refine ws_seq ?_ | with_reducible refine ws_set ?_ | with_reducible refine ws_if ?_ | with_reducible refine ws_ret ?_ | with_reducible refine ws_retN ?_ | with_reducible refine ws_skip ?_
  | with_reducible refine ws_brk ?_ | with_reducible refine ws_cnt ?_ | with_reducible refine ws_drop ?_ | with_reducible refine ws_asg ?_ | with_reducible refine ws_app ?_ | with_reducible refine ws_ext ?_ | with_reducible refine ws_setix ?_
  | with_reducible refine ws_fset ?_ | with_reducible refine ws_par ?_ | with_reducible refine ws_aug ?_ | with_reducible refine ws_for ?_ | with_reducible refine ws_try ?_
  | with_reducible refine sm_gtN ?_ | with_reducible refine sm_gtT rfl ?_ | with_reducible refine sm_gtCons ?_ | with_reducible refine sm_gtNil ?_
  | with_reducible refine we_call ?_ | with_reducible refine we_callB ?_ | with_reducible refine we_meth ?_ | with_reducible refine we_make ?_ | with_reducible refine we_callK ?_ | with_reducible refine we_makeK ?_ | with_reducible refine we_makeL ?_
  | with_reducible refine we_fldN ?_ | with_reducible refine we_unN ?_ | with_reducible refine we_binN ?_ | with_reducible refine we_sl ?_ | with_reducible refine we_slN ?_ | with_reducible refine we_mov ?_ | with_reducible refine we_pop ?_
  | with_reducible refine we_if ?_ | with_reducible refine we_and ?_ | with_reducible refine we_or ?_ | with_reducible refine we_chain ?_ | with_reducible refine we_comp ?_
  | with_reducible refine wt_val ?_ | with_reducible refine wt_and ?_ | with_reducible refine wt_or ?_ | with_reducible refine wt_not ?_ | with_reducible refine wt_yes ?_
  | with_reducible refine wo_none ?_ | with_reducible refine wo_part ?_
  | with_reducible refine wa_itL ?_ | with_reducible refine wa_itT ?_ | with_reducible refine wa_seqD ?_ | with_reducible refine wa_r1 ?_ | with_reducible refine wa_r2 ?_ | with_reducible refine wa_r3 ?_
  | with_reducible refine br_t ?_ | with_reducible refine br_f ?_ | with_reducible refine br_n ?_ | with_reducible refine br_dt (by assumption) ?_ | with_reducible refine br_df (by assumption) ?_
  | with_reducible refine sm_put1 ?_ | with_reducible refine sm_put2 ?_ | with_reducible refine sm_put3 ?_ | with_reducible refine sm_ioI ?_ | with_reducible refine sm_pow (by decide) ?_
  | with_reducible refine we_opO ?_ | with_reducible refine ws_insr ?_ | with_reducible refine sm_tupRevL ?_ | with_reducible refine sm_tupRevK ?_ | with_reducible refine sm_seqL ?_ | with_reducible refine sm_seqK ?_ | with_reducible refine sm_seqT ?_
  | with_reducible refine or_new (by with_unfolding_all exact rfl) ?_
  | with_reducible refine sm_toL ?_ | with_reducible refine sm_toT ?_ | with_reducible refine sm_toK ?_ | with_reducible refine sm_loL ?_ | with_reducible refine sm_loT ?_ | with_reducible refine sm_loK ?_)
abbrev pairD (p : Int × Int) : D := .tup [.int p.1, .int p.2]
abbrev pval (p : Int × Int) : Rat := Rat.divInt p.1 p.2
def POk (k : Nat) (p : Int × Int) : Prop := 0 < p.2 ∧ Bit k p.1 ∧ Bit k p.2
theorem sumN_bits {k : Nat} : ∀ {xs : List Int}, (∀ x ∈ xs, Bit k x) → ((xs.sum.natAbs : Nat) : Int) ≤ (xs.length : Int) * (2 : Int) ^ k
  | [], _ => by simp
  | x :: xs, h => by
    have a : ((x.natAbs : Nat) : Int) ≤ (2 : Int) ^ k := by
      have := h x List.mem_cons_self
      unfold Bit at this
      have := Int.ofNat_lt.mpr this
      rw [Int.natCast_pow] at this
      exact Int.le_of_lt this
    have b := sumN_bits (xs := xs) fun y hy => h y (List.mem_cons_of_mem _ hy)
    have c := Int.natAbs_add_le x xs.sum
    rw [List.sum_cons, List.length_cons, Int.natCast_add, Int.add_mul]
    omega
section
variable {Q : D → Prop} {QB : D → D → Prop} {E : Er}
theorem need_w {rs : List Row} {U : Int} {p : Int × Int} (ok : OfOk 6 rs) (u0 : 0 < U) (ub : Bit 900 U) (hu : ∀ r ∈ rs, (r.2.den : Int) ∣ U) (hp : POk 3000 p) (k : Q (prD (needQ U rs (pval p)))) : WR (m__law_need [.lst (rs.map (srow U)), pairD p]) Q E := by
  obtain ⟨d0, nb, db⟩ := hp
  obtain ⟨w0, w1⟩ := ok.ws (by decide)
  have l2 := ok.l2
  have wb : Bit 20 (wsum rs) := by unfold Bit; omega
  have sb : ∀ r ∈ rs, Bit 1000 (scl U r.2) := fun r hr => by
    have ro := ok.ok r hr
    have := ro.n0; have := ro.n1
    exact (Bit.mul (show Bit 20 r.2.num by unfold Bit; omega) ub.div).mono (by decide)
  unfold m__law_need
  refine wr_fn (by simp only [List.map_cons, List.map_nil, List.cons_append, List.nil_append, Nat.reduceSub, List.replicate_succ, List.replicate_zero]; rfl) ?_
  unfold b__law_need
  repeat infer_instance
  refine ⟨by rw [List.length_map]; omega, ?_⟩
  refine wc_map (fun r : Row => .int (r.1 * (if p.1 < scl U r.2 * p.2 then scl U r.2 * p.2 else p.1))) (fun r hr => ?_) ?_
  · have ro := ok.ok r hr
    have := ro.w1; have := ro.w2
    unfold l__law_need_e1_14
    repeat infer_instance
    refine sm_II (cMul_bits (sb r hr) db (by decide) (by decide)) ?_
    repeat infer_instance
    refine more_w ?_
    repeat infer_instance
    exact ⟨rfl, rfl⟩
  · repeat infer_instance
    refine sm_sum (g := fun r : Row => r.1 * (if p.1 < scl U r.2 * p.2 then scl U r.2 * p.2 else p.1)) ?_
    repeat infer_instance
    refine whole_w (w := fun r : Row => r.1) (fun r _ => ⟨_, _, rfl, rfl⟩) (by omega) ?_
    repeat infer_instance
    have e := need_int d0 rs w0 hu (n := p.1)
    have wd := Int.mul_pos w0 d0
    refine sm_II (i := wsum rs) (cMul_bits wb db (by decide) (by decide)) ?_
    repeat infer_instance
    refine cut_w _ (wsum rs * p.2) wd ((wb.mul db).mono (by decide)) ?_
    repeat infer_instance
    rw [e]
    exact k
end
end Z.L50
end
set_option Elab.async false
set_option linter.all false
set_option maxRecDepth 100000
noncomputable section
namespace Z.L50
open PySem PySem.Spec L2
set_option maxHeartbeats 4000000
local macro_rules | `(tactic| infer_instance) => `(tactic| first
  | with_reducible refine we_var ?_ | with_reducible refine we_con ?_ | with_reducible refine wa_cons ?_ | with_reducible refine wa_nil ?_
  | with_reducible refine we_bin ?_ | with_reducible refine we_un ?_ | with_reducible refine we_prim ?_
  | with_reducible refine sm_I0 ?_ | with_reducible refine sm_IB ?_ | with_reducible refine sm_eq ?_ | with_reducible refine sm_ne ?_ | with_reducible refine sm_not ?_ | with_reducible refine sm_U ?_
  | with_reducible refine sm_one ?_ | with_reducible refine sm_two ?_ | with_reducible refine sm_ixl ?_ | with_reducible refine sm_ixt ?_ | with_reducible refine sm_ixk ?_
  | with_reducible refine sm_II (by first | assumption | exact cNz_r (by omega) | exact cDiv_r (by omega) (by omega) | exact cMul_l (by omega) | exact cMul_r (by omega) | exact cMul_fm rfl | decide) ?_
  | with_reducible refine sm_tup (by first | decide | (simp only [List.length_cons, List.length_nil]; omega)) ?_ | with_reducible refine sm_lst (by first | decide | (simp only [List.length_cons, List.length_nil]; omega)) ?_
  | with_reducible refine sm_lenl ?_ | with_reducible refine sm_lent ?_ | with_reducible refine sm_lenk ?_
  | with_reducible refine sm_fld (by with_unfolding_all exact rfl) ?_ | with_reducible refine sm_atc (by with_unfolding_all exact rfl) ?_
  | with_reducible refine sm_isT (by with_unfolding_all exact rfl) ?_ | with_reducible refine sm_isF (by with_unfolding_all exact rfl) ?_ | with_reducible refine sm_nnT (by with_unfolding_all exact rfl) ?_ | with_reducible refine sm_nnF (by with_unfolding_all exact rfl) ?_
  | with_reducible refine setN_of ?_ | with_reducible refine lk_of ?_
  | with_reducible refine bl_of ?_ | with_reducible refine in_of ?_ | with_reducible refine lst_of ?_ | with_reducible refine tup_of ?_ | with_reducible refine ins_of ?_ | with_reducible refine non_of ?_
  | with_reducible refine is1_of ?_ | with_reducible refine is2_of ?_ | with_reducible refine is3_of ?_ | with_reducible refine two_of ?_
  | with_reducible refine ws_seq ?_ | with_reducible refine ws_set ?_ | with_reducible refine ws_if ?_ | with_reducible refine ws_ret ?_ | with_reducible refine ws_retN ?_ | with_reducible refine ws_skip ?_
  | with_reducible refine ws_brk ?_ | with_reducible refine ws_cnt ?_ | with_reducible refine ws_drop ?_ | with_reducible refine ws_asg ?_ | with_reducible refine ws_app ?_ | with_reducible refine ws_ext ?_ | with_reducible refine ws_setix ?_
  | with_reducible refine ws_fset ?_ | with_reducible refine ws_par ?_ | with_reducible refine ws_aug ?_ | with_reducible refine ws_for ?_ | with_reducible refine ws_try ?_
  | with_reducible refine sm_gtN ?_ | with_reducible refine sm_gtT rfl ?_ | with_reducible refine sm_gtCons ?_ | with_reducible refine sm_gtNil ?_
  | with_reducible refine we_call ?_ | with_reducible refine we_callB ?_ | with_reducible refine we_meth ?_ | with_reducible refine we_make ?_ | with_reducible refine we_callK ?_ | with_reducible refine we_makeK ?_ | with_reducible refine we_makeL ?_
  | with_reducible refine we_fldN ?_ | with_reducible refine we_unN ?_ | with_reducible refine we_binN ?_ | with_reducible refine we_sl ?_ | with_reducible refine we_slN ?_ | with_reducible refine we_mov ?_ | with_reducible refine we_pop ?_
  | with_reducible refine we_if ?_ | with_reducible refine we_and ?_ | with_reducible refine we_or ?_ | with_reducible refine we_chain ?_ | with_reducible refine we_comp ?_
  | with_reducible refine wt_val ?_ | with_reducible refine wt_and ?_ | with_reducible refine wt_or ?_ | with_reducible refine wt_not ?_ | with_reducible refine wt_yes ?_
  | with_reducible refine wo_none ?_ | with_reducible refine wo_part ?_
  | with_reducible refine wa_itL ?_ | with_reducible refine wa_itT ?_ | with_reducible refine wa_seqD ?_ | with_reducible refine wa_r1 ?_ | with_reducible refine wa_r2 ?_ | with_reducible refine wa_r3 ?_
  | with_reducible refine br_t ?_ | with_reducible refine br_f ?_ | with_reducible refine br_n ?_ | with_reducible refine br_dt (by assumption) ?_ | with_reducible refine br_df (by assumption) ?_
  | with_reducible refine sm_put1 ?_ | with_reducible refine sm_put2 ?_ | with_reducible refine sm_put3 ?_ | with_reducible refine sm_ioI ?_ | with_reducible refine sm_pow (by decide) ?_
  | with_reducible refine we_opO ?_ | with_reducible refine ws_insr ?_ | with_reducible refine sm_tupRevL ?_ | with_reducible refine sm_tupRevK ?_ | with_reducible refine sm_seqL ?_ | with_reducible refine sm_seqK ?_ | with_reducible refine sm_seqT ?_
  | with_reducible refine or_new (by with_unfolding_all exact rfl) ?_
  | with_reducible refine sm_toL ?_ | with_reducible refine sm_toT ?_ | with_reducible refine sm_toK ?_ | with_reducible refine sm_loL ?_ | with_reducible refine sm_loT ?_ | with_reducible refine sm_loK ?_)
section
variable {Q : D → Prop} {QB : D → D → Prop} {E : Er}
theorem plus_w {p q : Int × Int} (hp : POk 3000 p) (hq : POk 3000 q) (k : Q (prD (pval p + pval q))) : WR (m__law_plus [pairD p, pairD q]) Q E := by
  obtain ⟨d0, nb, db⟩ := hp
  obtain ⟨e0, mb, eb⟩ := hq
  have e : Rat.divInt (p.1 * q.2 + q.1 * p.2) (p.2 * q.2) = pval p + pval q := (Rat.divInt_add_divInt _ _ (by omega) (by omega)).symm
  unfold m__law_plus
  refine wr_fn (by simp only [List.map_cons, List.map_nil, List.cons_append, List.nil_append, Nat.reduceSub, List.replicate_succ, List.replicate_zero]; rfl) ?_
  unfold b__law_plus
  repeat' first | infer_instance | refine sm_II (cMul_bits nb eb (by decide) (by decide)) ?_ | refine sm_II (cMul_bits mb db (by decide) (by decide)) ?_ | refine sm_II (cMul_bits db eb (by decide) (by decide)) ?_ | refine cut_w _ _ (Int.mul_pos d0 e0) ((db.mul eb).mono (by decide)) ?_
  rw [e]
  exact k
/-- the slack at each offer, one of them taken by another -/
def slQ (ss : List (Int × Int)) (lo : Int) (lp : Int × Int) (k : Nat) : Rat := if (k : Int) = lo then pval lp else pval (ss.getD k (0, 1))
def LL (oss : List (List Row)) (ss : List (Int × Int)) (lo : Int) (lp : Int × Int) : List (List Row × Rat) := (List.range oss.length).map fun k => (oss.getD k [], slQ ss lo lp k)
theorem LL_len {oss : List (List Row)} {ss : List (Int × Int)} {lo : Int} {lp : Int × Int} : (LL oss ss lo lp).length = oss.length := by simp [LL]
theorem LL_at {oss : List (List Row)} {ss : List (Int × Int)} {lo : Int} {lp : Int × Int} {k : Nat} (h : k < oss.length) : (LL oss ss lo lp)[k]? = some (oss.getD k [], slQ ss lo lp k) := by
  unfold LL
  rw [List.getElem?_map, List.getElem?_range h]; rfl
structure Sit (oss : List (List Row)) (U : Int) : Prop where
  ok : ∀ o ∈ oss, OfOk 6 o ∧ ∀ r ∈ o, (r.2.den : Int) ∣ U
  u0 : 0 < U
  ub : Bit 841 U
  l1 : 1 ≤ oss.length
  l2 : oss.length ≤ 5
theorem sl_fb {ss : List (Int × Int)} {lo : Int} {lp : Int × Int} (hs : ∀ s ∈ ss, 0 < s.2 ∧ Bit 8 s.2 ∧ Bit 850 s.1) (hl : 0 < lp.2 ∧ Bit 8 lp.2 ∧ Bit 850 lp.1) (k : Nat) : FB 8 850 (slQ ss lo lp k) := by
  unfold slQ
  split
  · exact FB.div hl.1 hl.2.1 hl.2.2
  · rw [List.getD_eq_getElem?_getD]
    cases q : ss[k]? with
    | none => exact FB.div (n := 0) (d := 1) (by decide) (by unfold Bit; decide) (by unfold Bit; decide)
    | some s =>
      have h := hs s (List.mem_of_getElem? q)
      exact FB.div h.1 h.2.1 h.2.2
theorem ch_fb {oss : List (List Row)} {U : Int} {ss : List (Int × Int)} {lo : Int} {lp last : Int × Int} (S : Sit oss U) (hs : ∀ s ∈ ss, 0 < s.2 ∧ Bit 8 s.2 ∧ Bit 850 s.1) (hl : 0 < lp.2 ∧ Bit 8 lp.2 ∧ Bit 850 lp.1) (hz : 0 < last.2 ∧ Bit 8 last.2 ∧ Bit 850 last.1)
    (b : Nat) : ∀ q ∈ chainL U ((LL oss ss lo lp).drop b) (pval last), FB 113 880 q := fun q hq => by
  have z := chainL_fb S.u0 S.ub (FB.div hz.1 hz.2.1 (hz.2.2.mono (show 850 ≤ 855 by decide))) (by decide) (by decide) (d := 850) (L := (LL oss ss lo lp).drop b) (fun p hp => by
    have hp := List.mem_of_mem_drop hp
    obtain ⟨k, hk, rfl⟩ := List.mem_map.mp hp
    have hk := List.mem_range.mp hk
    have e : oss.getD k [] = oss[k] := by rw [List.getD_eq_getElem?_getD, List.getElem?_eq_getElem hk]; rfl
    have o := S.ok _ (List.getElem_mem hk)
    refine ⟨?_, ?_, sl_fb hs hl k⟩
    · show OfOk 6 (oss.getD k []); rw [e]; exact o.1
    · show ∀ r ∈ oss.getD k [], _; rw [e]; exact o.2) q hq
  have hl : ((LL oss ss lo lp).drop b).length ≤ 5 := by rw [List.length_drop, LL_len]; have := S.l2; omega
  exact z.mono (by omega) (by omega)
theorem pok_fb {q : Rat} (h : FB 113 880 q) : POk 3000 (q.num, (q.den : Int)) := ⟨den_pos' q, h.sz.1.mono (by decide), h.sz.2.mono (by decide)⟩
theorem pval_q (q : Rat) : pval (q.num, (q.den : Int)) = q := Rat.num_divInt_den q
theorem chain_w {oss : List (List Row)} {U : Int} {ss : List (Int × Int)} {lo : Int} {lp last : Int × Int} (S : Sit oss U) (hss : ss.length = oss.length) (hs : ∀ s ∈ ss, 0 < s.2 ∧ Bit 8 s.2 ∧ Bit 850 s.1) (hl : 0 < lp.2 ∧ Bit 8 lp.2 ∧ Bit 850 lp.1) (hz : 0 < last.2 ∧ Bit 8 last.2 ∧ Bit 850 last.1)
    (k : Q (.lst ((chainL U (LL oss ss lo lp) (pval last)).map fun q => prD (q / (U : Rat))))) : WR (m__law_chain [.lst (oss.map fun o => .lst (o.map (srow U))), .lst (ss.map pairD), pairD last, .tup [.int lo, pairD lp], .int U]) Q E := by
  have l1 := S.l1
  have l2 := S.l2
  unfold m__law_chain
  refine wr_fn (by simp only [List.map_cons, List.map_nil, List.cons_append, List.nil_append, Nat.reduceSub, List.replicate_succ, List.replicate_zero]; rfl) ?_
  unfold b__law_chain
  repeat infer_instance
  refine ⟨by rw [List.length_map]; unfold Rng; omega, ?_⟩
  rw [show ((((oss.map fun o => D.lst (o.map (srow U))).length : Nat) : Int)).toNat = oss.length by simp]
  refine wf_rng (fun b ρ => ∃ (ps : List (Int × Int)) (x6 x7 x8 x9 : Option D), ρ = [some (.lst (oss.map fun o => .lst (o.map (srow U)))), some (.lst (ss.map pairD)), some (pairD last), some (.tup [.int lo, pairD lp]), some (.int U), some (.lst (ps.map pairD)), x6, x7, x8, x9] ∧
      ps.map pval = chainL U ((LL oss ss lo lp).drop (oss.length - b)) (pval last) ∧ ∀ p ∈ ps, POk 3000 p)
    ⟨[last], _, _, _, _, rfl, ?_, ?_⟩ ?_ ?_
  · rw [List.drop_of_length_le (by rw [LL_len]; omega)]; rfl
  · intro p hp
    rw [List.mem_singleton] at hp
    subst hp
    exact ⟨hz.1, hz.2.2.mono (by decide), hz.2.1.mono (by decide)⟩
  · rintro b ρ hb ⟨ps, x6, x7, x8, x9, rfl, hps, hok⟩
    have hk : oss.length - (b + 1) < oss.length := by omega
    generalize ek : oss.length - (b + 1) = kk at *
    have eo : oss[kk]? = some oss[kk] := List.getElem?_eq_getElem hk
    have hk2 : kk < ss.length := by omega
    have es : ss[kk]? = some ss[kk] := List.getElem?_eq_getElem hk2
    have o := S.ok _ (List.getElem_mem hk)
    have hsk := hs _ (List.getElem_mem hk2)
    have dr : (LL oss ss lo lp).drop kk = (oss.getD kk [], slQ ss lo lp kk) :: (LL oss ss lo lp).drop (oss.length - b) := by
      have := LL_at (ss := ss) (lo := lo) (lp := lp) hk
      obtain ⟨h1, h2⟩ := List.getElem?_eq_some_iff.mp this
      rw [List.drop_eq_getElem_cons h1, h2, show kk + 1 = oss.length - b by omega]
    have len : ps.length = oss.length - (oss.length - b) + 1 := by
      have := congrArg List.length hps
      rw [List.length_map, chainL_len, List.length_drop, LL_len] at this
      omega
    cases ps with
    | nil => simp at len
    | cons h0 ps =>
      have h0k : POk 3000 h0 := hok h0 List.mem_cons_self
      have hd : (chainL U ((LL oss ss lo lp).drop (oss.length - b)) (pval last)).headD 0 = pval h0 := by rw [← hps]; rfl
      have eo2 : oss.getD kk [] = oss[kk] := by rw [List.getD_eq_getElem?_getD, eo]; rfl
      have es2 : ss.getD kk (0, 1) = ss[kk] := by rw [List.getD_eq_getElem?_getD, es]; rfl
      have fbs := ch_fb (lo := lo) S hs hl hz kk
      rw [dr, chainL, hd, eo2] at fbs
      have fn : FB 113 880 (needQ U oss[kk] (pval h0) + slQ ss lo lp kk) := fbs _ List.mem_cons_self
      have at1 : atI (oss.map fun o => D.lst (o.map (srow U))) ((oss.length : Int) - 1 - (b : Int)) = some (.lst (oss[kk].map (srow U))) := by
        rw [show (oss.length : Int) - 1 - (b : Int) = (kk : Int) by omega]
        exact atI_nat (by rw [List.getElem?_map, eo]; rfl)
      have at2 : atI (ss.map pairD) ((oss.length : Int) - 1 - (b : Int)) = some (pairD ss[kk]) := by
        rw [show (oss.length : Int) - 1 - (b : Int) = (kk : Int) by omega]
        exact atI_nat (by rw [List.getElem?_map, es]; rfl)
      have at3 : atI ((h0 :: ps).map pairD) 0 = some (pairD h0) := atI_nat (i := 0) rfl
      have hm : pval h0 ∈ chainL U ((LL oss ss lo lp).drop (oss.length - b)) (pval last) := by rw [← hps]; exact List.mem_cons_self
      have fh := ch_fb (lo := lo) S hs hl hz (oss.length - b) _ hm
      have fz := (fb_need o.1 o.2 S.u0 S.ub fh).sz
      have pn : POk 3000 ((needQ U oss[kk] (pval h0)).num, ((needQ U oss[kk] (pval h0)).den : Int)) := ⟨den_pos' _, fz.1.mono (by decide), fz.2.mono (by decide)⟩
      have ps1 : POk 3000 ss[kk] := ⟨hsk.1, hsk.2.2.mono (by decide), hsk.2.1.mono (by decide)⟩
      have ps2 : POk 3000 lp := ⟨hl.1, hl.2.2.mono (by decide), hl.2.1.mono (by decide)⟩
      have fin : ∀ (x6 x7 x8 x9 : Option D), ∃ (ps' : List (Int × Int)) (y6 y7 y8 y9 : Option D), [some (D.lst (oss.map fun o => .lst (o.map (srow U)))), some (.lst (ss.map pairD)), some (pairD last), some (.tup [.int lo, pairD lp]), some (.int U), some (.lst (((h0 :: ps).map pairD).take (0 : Int).toNat ++ [prD (needQ U oss[kk] (pval h0) + slQ ss lo lp kk)] ++ ((h0 :: ps).map pairD).drop (0 : Int).toNat)), x6, x7, x8, x9] = [some (.lst (oss.map fun o => .lst (o.map (srow U)))), some (.lst (ss.map pairD)), some (pairD last), some (.tup [.int lo, pairD lp]), some (.int U), some (.lst (ps'.map pairD)), y6, y7, y8, y9] ∧
          ps'.map pval = chainL U ((LL oss ss lo lp).drop kk) (pval last) ∧ ∀ p ∈ ps', POk 3000 p := fun x6 x7 x8 x9 => by
        refine ⟨((needQ U oss[kk] (pval h0) + slQ ss lo lp kk).num, ((needQ U oss[kk] (pval h0) + slQ ss lo lp kk).den : Int)) :: h0 :: ps, _, _, _, _, rfl, ?_, ?_⟩
        · rw [dr, chainL, hd, eo2, ← hps, List.map_cons, pval_q]
        · intro p hp
          rcases List.mem_cons.mp hp with z | z
          · subst z; exact pok_fb fn
          · exact hok p z
      have ub9 : Bit 900 U := S.ub.mono (by decide)
      have lln : ((h0 :: ps).map pairD).length < 100000 := by rw [List.length_map]; omega
      have one : (needQ U oss[kk] (pval h0)) + pval ss[kk] = needQ U oss[kk] (pval h0) + (if (kk : Int) = lo then pval ss[kk] else slQ ss lo lp kk) := by
        unfold slQ
        split
        · rfl
        · rw [es2]
      unfold l__law_chain_b2
      rw [Int.zero_add]
      have llo : ((((oss.map fun o => D.lst (o.map (srow U))).length : Nat) : Int)) = (oss.length : Int) := by rw [List.length_map]
      have kint : (oss.length : Int) - 1 - (b : Int) = (kk : Int) := by omega
      repeat infer_instance
      rw [llo]
      repeat' first | infer_instance | refine sm_ati at1 ?_ | refine sm_ati at2 ?_ | refine sm_ati at3 ?_ | refine need_w o.1 S.u0 ub9 o.2 h0k ?_ | refine plus_w pn ps1 ?_
      refine br_d (fun hq => ?_) (fun hq => ?_)
      · rw [kint] at hq
        have e2 : slQ ss lo lp kk = pval lp := if_pos hq
        repeat' first | infer_instance | refine sm_ati at1 ?_ | refine sm_ati at2 ?_ | refine sm_ati at3 ?_ | refine need_w o.1 S.u0 ub9 o.2 h0k ?_ | refine plus_w pn ps2 ?_ | refine And.intro ⟨lln, by decide, by decide⟩ ?_
        rw [pval_q, ← e2]
        exact fin _ _ _ _
      · rw [kint] at hq
        have e2 : slQ ss lo lp kk = pval ss[kk] := by unfold slQ; rw [if_neg hq, es2]
        repeat' first | infer_instance | refine And.intro ⟨lln, by decide, by decide⟩ ?_
        rw [pval_q, ← e2]
        exact fin _ _ _ _
  · rintro ρ ⟨ps, x6, x7, x8, x9, rfl, hps, hok⟩
    have u0 := S.u0
    rw [Nat.sub_self, List.drop_zero] at hps
    have len : ps.length = oss.length + 1 := by
      have := congrArg List.length hps
      rw [List.length_map, chainL_len, LL_len] at this
      exact this
    repeat infer_instance
    refine ⟨by rw [List.length_map]; omega, ?_⟩
    refine wc_map (fun p : Int × Int => prD (pval p / (U : Rat))) (fun p hp => ?_) ?_
    · obtain ⟨d0, nb, db⟩ := hok p hp
      have e : Rat.divInt p.1 (p.2 * U) = pval p / (U : Rat) := by
        unfold pval
        rw [Rat.divInt_eq_div, Rat.divInt_eq_div, Rat.intCast_mul]
        have := cast_pos d0
        have := cast_pos u0
        grind
      unfold l__law_chain_e8_11
      repeat infer_instance
      refine sm_II (cMul_bits db S.ub (by decide) (by decide)) ?_
      repeat infer_instance
      refine cut_w _ _ (Int.mul_pos d0 u0) ((db.mul S.ub).mono (by decide)) ?_
      rw [e]
      exact ⟨rfl, rfl⟩
    · repeat infer_instance
      have e : (ps.map fun p : Int × Int => prD (pval p / (U : Rat))) = (ps.map pval).map fun q => prD (q / (U : Rat)) := by rw [List.map_map]; rfl
      rw [e, hps]
      exact k
end
end Z.L50
end
set_option Elab.async false
set_option linter.all false
set_option maxRecDepth 100000
noncomputable section
namespace Z.L50
open PySem PySem.Spec L2
set_option maxHeartbeats 4000000
local macro_rules | `(tactic| infer_instance) => `(tactic| first
  | with_reducible refine we_var ?_ | with_reducible refine we_con ?_ | with_reducible refine wa_cons ?_ | with_reducible refine wa_nil ?_
  | with_reducible refine we_bin ?_ | with_reducible refine we_un ?_ | with_reducible refine we_prim ?_
  | with_reducible refine sm_I0 ?_ | with_reducible refine sm_IB ?_ | with_reducible refine sm_eq ?_ | with_reducible refine sm_ne ?_ | with_reducible refine sm_not ?_ | with_reducible refine sm_U ?_
  | with_reducible refine sm_one ?_ | with_reducible refine sm_two ?_ | with_reducible refine sm_ixl ?_ | with_reducible refine sm_ixt ?_ | with_reducible refine sm_ixk ?_
  | with_reducible refine sm_II (by first | assumption | exact cNz_r (by omega) | exact cDiv_r (by omega) (by omega) | exact cMul_l (by omega) | exact cMul_r (by omega) | exact cMul_fm rfl | decide) ?_
  | with_reducible refine sm_tup (by first | decide | (simp only [List.length_cons, List.length_nil]; omega)) ?_ | with_reducible refine sm_lst (by first | decide | (simp only [List.length_cons, List.length_nil]; omega)) ?_
  | with_reducible refine sm_lenl ?_ | with_reducible refine sm_lent ?_ | with_reducible refine sm_lenk ?_
  | with_reducible refine sm_fld (by with_unfolding_all exact rfl) ?_ | with_reducible refine sm_atc (by with_unfolding_all exact rfl) ?_
  | with_reducible refine sm_isT (by with_unfolding_all exact rfl) ?_ | with_reducible refine sm_isF (by with_unfolding_all exact rfl) ?_ | with_reducible refine sm_nnT (by with_unfolding_all exact rfl) ?_ | with_reducible refine sm_nnF (by with_unfolding_all exact rfl) ?_
  | with_reducible refine setN_of ?_ | with_reducible refine lk_of ?_
  | with_reducible refine bl_of ?_ | with_reducible refine in_of ?_ | with_reducible refine lst_of ?_ | with_reducible refine tup_of ?_ | with_reducible refine ins_of ?_ | with_reducible refine non_of ?_
  | with_reducible refine is1_of ?_ | with_reducible refine is2_of ?_ | with_reducible refine is3_of ?_ | with_reducible refine two_of ?_
  | with_reducible refine ws_seq ?_ | with_reducible refine ws_set ?_ | with_reducible refine ws_if ?_ | with_reducible refine ws_ret ?_ | with_reducible refine ws_retN ?_ | with_reducible refine ws_skip ?_
  | with_reducible refine ws_brk ?_ | with_reducible refine ws_cnt ?_ | with_reducible refine ws_drop ?_ | with_reducible refine ws_asg ?_ | with_reducible refine ws_app ?_ | with_reducible refine ws_ext ?_ | with_reducible refine ws_setix ?_
  | with_reducible refine ws_fset ?_ | with_reducible refine ws_par ?_ | with_reducible refine ws_aug ?_ | with_reducible refine ws_for ?_ | with_reducible refine ws_try ?_
  | with_reducible refine sm_gtN ?_ | with_reducible refine sm_gtT rfl ?_ | with_reducible refine sm_gtCons ?_ | with_reducible refine sm_gtNil ?_
  | with_reducible refine we_call ?_ | with_reducible refine we_callB ?_ | with_reducible refine we_meth ?_ | with_reducible refine we_make ?_ | with_reducible refine we_callK ?_ | with_reducible refine we_makeK ?_ | with_reducible refine we_makeL ?_
  | with_reducible refine we_fldN ?_ | with_reducible refine we_unN ?_ | with_reducible refine we_binN ?_ | with_reducible refine we_sl ?_ | with_reducible refine we_slN ?_ | with_reducible refine we_mov ?_ | with_reducible refine we_pop ?_
  | with_reducible refine we_if ?_ | with_reducible refine we_and ?_ | with_reducible refine we_or ?_ | with_reducible refine we_chain ?_ | with_reducible refine we_comp ?_
  | with_reducible refine wt_val ?_ | with_reducible refine wt_and ?_ | with_reducible refine wt_or ?_ | with_reducible refine wt_not ?_ | with_reducible refine wt_yes ?_
  | with_reducible refine wo_none ?_ | with_reducible refine wo_part ?_
  | with_reducible refine wa_itL ?_ | with_reducible refine wa_itT ?_ | with_reducible refine wa_seqD ?_ | with_reducible refine wa_r1 ?_ | with_reducible refine wa_r2 ?_ | with_reducible refine wa_r3 ?_
  | with_reducible refine br_t ?_ | with_reducible refine br_f ?_ | with_reducible refine br_n ?_ | with_reducible refine br_dt (by assumption) ?_ | with_reducible refine br_df (by assumption) ?_
  | with_reducible refine sm_put1 ?_ | with_reducible refine sm_put2 ?_ | with_reducible refine sm_put3 ?_ | with_reducible refine sm_ioI ?_ | with_reducible refine sm_pow (by decide) ?_
  | with_reducible refine we_opO ?_ | with_reducible refine ws_insr ?_ | with_reducible refine sm_tupRevL ?_ | with_reducible refine sm_tupRevK ?_ | with_reducible refine sm_seqL ?_ | with_reducible refine sm_seqK ?_ | with_reducible refine sm_seqT ?_
  | with_reducible refine or_new (by with_unfolding_all exact rfl) ?_
  | with_reducible refine sm_toL ?_ | with_reducible refine sm_toT ?_ | with_reducible refine sm_toK ?_ | with_reducible refine sm_loL ?_ | with_reducible refine sm_loT ?_ | with_reducible refine sm_loK ?_)
section
variable {Q : D → Prop} {QB : D → D → Prop} {E : Er}
theorem before_w {rs : List Row} {p : Rat} (ok : OfOk 6 rs) (hp : FB 1400 1400 p) (k : Q (frD (liftQ rs p))) : WR (m_worth_before [offD rs, frD p]) Q E := by
  obtain ⟨w0, w1⟩ := ok.ws (by decide)
  have fo : FB 2953 1406 (overQ rs p) := by
    have z := (fb_lift ok hp).sub hp
    have e := over_eq w0 p
    have e2 : overQ rs p = liftQ rs p - p := by grind
    rw [e2]
    exact z.mono (by decide) (by decide)
  have z := hp
  obtain ⟨M, B, f, x, y, b0⟩ := z
  unfold m_worth_before
  refine wr_fn (by simp only [List.map_cons, List.map_nil, List.cons_append, List.nil_append, Nat.reduceSub, List.replicate_succ, List.replicate_zero]; rfl) ?_
  unfold b_worth_before
  repeat infer_instance
  refine over_w ok f b0 (x.mono (by decide)) (y.mono (by decide)) ?_
  repeat infer_instance
  refine add_w (hp.sz.mono (by decide)) (fo.sz.mono (by decide)) ?_
  rw [over_eq w0]
  exact k
/-- the worths from the last stop back -/
def wL : List (List Row) → List Rat
  | [] => [0]
  | o :: os => liftQ o ((wL os).headD 0) :: wL os
theorem wL_ne : ∀ {os : List (List Row)}, ∃ x xs, wL os = x :: xs
  | [] => ⟨_, _, rfl⟩
  | o :: os => ⟨_, _, rfl⟩
theorem wL_fb : ∀ {os : List (List Row)}, (∀ o ∈ os, OfOk 6 o) → ∀ q ∈ wL os, FB (1 + 153 * os.length) (14 + 4 * os.length) q
  | [], _, q, hq => by
    simp only [wL, List.mem_singleton] at hq
    subst hq
    exact (FB.int (n := 0) (b := 1) (by unfold Bit; decide)).mono (by simp) (by simp)
  | o :: os, h, q, hq => by
    have ih := wL_fb (os := os) fun p hp => h p (List.mem_cons_of_mem _ hp)
    rw [List.length_cons]
    simp only [wL, List.mem_cons] at hq
    rcases hq with rfl | hq
    · obtain ⟨x, xs, e⟩ := wL_ne (os := os)
      have hm : (wL os).headD 0 ∈ wL os := by rw [e]; exact List.mem_cons_self
      exact (fb_lift (h o List.mem_cons_self) (ih _ hm)).mono (by omega) (by omega)
    · exact (ih q hq).mono (by omega) (by omega)
theorem wL_chain {U : Int} (u0 : 0 < U) : ∀ {os : List (List Row)}, chainL U (os.map fun o => (o, (0 : Rat))) 0 = (wL os).map fun q => (U : Rat) * q
  | [] => by simp only [List.map_nil, chainL, wL, List.map_cons]; congr 1; grind
  | o :: os => by
    have ih := wL_chain u0 (os := os)
    simp only [List.map_cons, chainL, wL, ih]
    obtain ⟨x, xs, e⟩ := wL_ne (os := os)
    have c := cast_pos u0
    simp only [e, List.map_cons, List.headD_cons]
    congr 1
    rw [need_scale u0]
    have e2 : (U : Rat) * x / (U : Rat) = x := by grind
    rw [e2]
    grind
theorem from_w {v : D} {os : List (List Row)} (hv : v = .tup (os.map offD)) (ok : ∀ o ∈ os, OfOk 6 o) (hl : os.length ≤ 5) (k : Q (.tup ((wL os).map frD))) : WR (m_worths_from [v]) Q E := by
  subst hv
  have e0 : Rat.divInt 0 1 = 0 := divInt_one 0
  unfold m_worths_from
  refine wr_fn (by simp only [List.map_cons, List.map_nil, List.cons_append, List.nil_append, Nat.reduceSub, List.replicate_succ, List.replicate_zero]; rfl) ?_
  unfold b_worths_from
  repeat infer_instance
  refine init_w _ _ (by decide) (.mono (a := 2) (by unfold Bit; decide) (by decide)) ?_
  repeat infer_instance
  rw [← List.map_reverse]
  refine wf_map (fun i ρ => ∃ x2, ρ = [some (.tup (os.map offD)), some (.lst (((wL (os.drop (os.length - i))).reverse).map frD)), x2]) ⟨none, ?_⟩ ?_ ?_
  · rw [List.drop_of_length_le (by omega), e0]; rfl
  · rintro i o ρ ho ⟨x2, rfl⟩
    have hi : i < os.length := by have := (List.getElem?_eq_some_iff.mp ho).1; simpa using this
    rw [List.getElem?_reverse hi] at ho
    obtain ⟨h1, h2⟩ := List.getElem?_eq_some_iff.mp ho
    have dr : os.drop (os.length - (i + 1)) = o :: os.drop (os.length - i) := by
      rw [show os.length - (i + 1) = os.length - 1 - i by omega, List.drop_eq_getElem_cons h1, h2, show os.length - 1 - i + 1 = os.length - i by omega]
    obtain ⟨x, xs, e⟩ := wL_ne (os := os.drop (os.length - i))
    have mo : o ∈ os := List.mem_of_getElem? ho
    have fx : FB 1400 1400 x := by
      have z := wL_fb (os := os.drop (os.length - i)) (fun p hp => ok p (List.mem_of_mem_drop hp)) x (by rw [e]; exact List.mem_cons_self)
      have : (os.drop (os.length - i)).length ≤ 5 := by rw [List.length_drop]; omega
      exact z.mono (by omega) (by omega)
    have hw : wL (os.drop (os.length - (i + 1))) = liftQ o x :: x :: xs := by rw [dr, wL, e]; rfl
    have at_ : atI ((x :: xs).reverse.map frD) (-1) = some (frD x) := atI_last (by rw [List.reverse_cons, List.map_append]; simp)
    have ll : ((x :: xs).reverse.map frD).length < 100000 := by
      have : (wL (os.drop (os.length - i))).length = (os.drop (os.length - i)).length + 1 := by
        have q : ∀ zs : List (List Row), (wL zs).length = zs.length + 1 := fun zs => by
          induction zs with
          | nil => rfl
          | cons z zs ih => rw [wL, List.length_cons, ih, List.length_cons]
        exact q _
      rw [e] at this
      rw [List.length_map, List.length_reverse, this, List.length_drop]; omega
    rw [e]
    unfold l_worths_from_b2
    repeat infer_instance
    refine sm_ati at_ ?_
    repeat infer_instance
    refine before_w (ok o mo) fx ?_
    repeat infer_instance
    refine ⟨ll, ?_⟩
    repeat infer_instance
    have e3 : (x :: xs).reverse.map frD ++ [frD (liftQ o x)] = ((liftQ o x :: x :: xs).reverse).map frD := by rw [List.reverse_cons (a := liftQ o x), List.map_append]; rfl
    rw [hw, e3]
    exact ⟨_, rfl⟩
  · rintro ρ ⟨x2, rfl⟩
    rw [List.length_reverse, Nat.sub_self, List.drop_zero]
    repeat infer_instance
    rw [← List.map_reverse, List.reverse_reverse]
    exact k
theorem checked_w {v : D} {os : List (List Row)} (hv : v = .tup (os.map offD) ∨ v = .lst (os.map offD)) (k : Q (.tup (os.map offD))) : WR (m_checked_offers [v]) Q E := by
  have seq : m_is_sequence [v] = .ok (.bl true) := by rcases hv with rfl | rfl <;> with_unfolding_all rfl
  have sq : ∃ b, seqD v = some (b, os.map offD) := by rcases hv with rfl | rfl <;> exact ⟨_, rfl⟩
  have tq : gTupOf v = some (.tup (os.map offD)) := by rcases hv with rfl | rfl <;> rfl
  obtain ⟨b, sq⟩ := sq
  unfold m_checked_offers
  refine wr_fn (by simp only [List.map_cons, List.map_nil, List.cons_append, List.nil_append, Nat.reduceSub, List.replicate_succ, List.replicate_zero]; rfl) ?_
  unfold b_checked_offers
  repeat' first | infer_instance | refine wr_eq seq ?_ | refine sm_seq sq ?_
  refine wf_inv (fun i ρ => ∃ (x1 x2 : Option D), ρ = [some v, x1, x2]) ⟨_, _, rfl⟩ ?_ ?_
  · rintro i d ρ hd ⟨x1, x2, rfl⟩
    obtain ⟨x, hx, rfl⟩ := enumD_get hd
    have hx : (os.map offD)[i]? = some x := hx
    rw [List.getElem?_map] at hx
    cases q : os[i]? with
    | none => rw [q] at hx; cases hx
    | some o =>
      rw [q] at hx
      cases hx
      unfold l_checked_offers_b3
      repeat infer_instance
      exact ⟨_, _, rfl⟩
  · rintro ρ ⟨x1, x2, rfl⟩
    repeat' first | infer_instance | refine sm_e tq ?_
    exact k
theorem stopw_w {os : List (List Row)} (ok : ∀ o ∈ os, OfOk 6 o) (hl : os.length ≤ 5) (k : Q (frD ((wL os).headD 0))) : WR (m_stop_worth [.lst (os.map offD)]) Q E := by
  unfold m_stop_worth
  refine wr_fn (by simp only [List.map_cons, List.map_nil, List.cons_append, List.nil_append, Nat.reduceSub, List.replicate_succ, List.replicate_zero]; rfl) ?_
  unfold b_stop_worth
  repeat infer_instance
  refine checked_w (.inr rfl) ?_
  repeat infer_instance
  refine from_w rfl ok hl ?_
  obtain ⟨x, xs, e⟩ := wL_ne (os := os)
  rw [e] at k ⊢
  repeat infer_instance
  refine sm_ati (atI_nat (i := 0) rfl) ?_
  exact k
end
end Z.L50
end
set_option Elab.async false
set_option linter.all false
set_option maxRecDepth 100000
noncomputable section
namespace Z.L50
open PySem PySem.Spec L2
set_option maxHeartbeats 4000000
local macro_rules | `(tactic| infer_instance) => `(tactic| first
  | with_reducible refine we_var ?_ | with_reducible refine we_con ?_ | with_reducible refine wa_cons ?_ | with_reducible refine wa_nil ?_
  | with_reducible refine we_bin ?_ | with_reducible refine we_un ?_ | with_reducible refine we_prim ?_
  | with_reducible refine sm_I0 ?_ | with_reducible refine sm_IB ?_ | with_reducible refine sm_eq ?_ | with_reducible refine sm_ne ?_ | with_reducible refine sm_not ?_ | with_reducible refine sm_U ?_
  | with_reducible refine sm_one ?_ | with_reducible refine sm_two ?_ | with_reducible refine sm_ixl ?_ | with_reducible refine sm_ixt ?_ | with_reducible refine sm_ixk ?_
  | with_reducible refine sm_II (by first | assumption | exact cNz_r (by omega) | exact cDiv_r (by omega) (by omega) | exact cMul_l (by omega) | exact cMul_r (by omega) | exact cMul_fm rfl | decide) ?_
  | with_reducible refine sm_tup (by first | decide | (simp only [List.length_cons, List.length_nil]; omega)) ?_ | with_reducible refine sm_lst (by first | decide | (simp only [List.length_cons, List.length_nil]; omega)) ?_
  | with_reducible refine sm_lenl ?_ | with_reducible refine sm_lent ?_ | with_reducible refine sm_lenk ?_
  | with_reducible refine sm_fld (by with_unfolding_all exact rfl) ?_ | with_reducible refine sm_atc (by with_unfolding_all exact rfl) ?_
  | with_reducible refine sm_isT (by with_unfolding_all exact rfl) ?_ | with_reducible refine sm_isF (by with_unfolding_all exact rfl) ?_ | with_reducible refine sm_nnT (by with_unfolding_all exact rfl) ?_ | with_reducible refine sm_nnF (by with_unfolding_all exact rfl) ?_
  | with_reducible refine setN_of ?_ | with_reducible refine lk_of ?_
  | with_reducible refine bl_of ?_ | with_reducible refine in_of ?_ | with_reducible refine lst_of ?_ | with_reducible refine tup_of ?_ | with_reducible refine ins_of ?_ | with_reducible refine non_of ?_
  | with_reducible refine is1_of ?_ | with_reducible refine is2_of ?_ | with_reducible refine is3_of ?_ | with_reducible refine two_of ?_
  | with_reducible refine ws_seq ?_ | with_reducible refine ws_set ?_ | with_reducible refine ws_if ?_ | with_reducible refine ws_ret ?_ | with_reducible refine ws_retN ?_ | with_reducible refine ws_skip ?_
  | with_reducible refine ws_brk ?_ | with_reducible refine ws_cnt ?_ | with_reducible refine ws_drop ?_ | with_reducible refine ws_asg ?_ | with_reducible refine ws_app ?_ | with_reducible refine ws_ext ?_ | with_reducible refine ws_setix ?_
  | with_reducible refine ws_fset ?_ | with_reducible refine ws_par ?_ | with_reducible refine ws_aug ?_ | with_reducible refine ws_for ?_ | with_reducible refine ws_try ?_
  | with_reducible refine sm_gtN ?_ | with_reducible refine sm_gtT rfl ?_ | with_reducible refine sm_gtCons ?_ | with_reducible refine sm_gtNil ?_
  | with_reducible refine we_call ?_ | with_reducible refine we_callB ?_ | with_reducible refine we_meth ?_ | with_reducible refine we_make ?_ | with_reducible refine we_callK ?_ | with_reducible refine we_makeK ?_ | with_reducible refine we_makeL ?_
  | with_reducible refine we_fldN ?_ | with_reducible refine we_unN ?_ | with_reducible refine we_binN ?_ | with_reducible refine we_sl ?_ | with_reducible refine we_slN ?_ | with_reducible refine we_mov ?_ | with_reducible refine we_pop ?_
  | with_reducible refine we_if ?_ | with_reducible refine we_and ?_ | with_reducible refine we_or ?_ | with_reducible refine we_chain ?_ | with_reducible refine we_comp ?_
  | with_reducible refine wt_val ?_ | with_reducible refine wt_and ?_ | with_reducible refine wt_or ?_ | with_reducible refine wt_not ?_ | with_reducible refine wt_yes ?_
  | with_reducible refine wo_none ?_ | with_reducible refine wo_part ?_
  | with_reducible refine wa_itL ?_ | with_reducible refine wa_itT ?_ | with_reducible refine wa_seqD ?_ | with_reducible refine wa_r1 ?_ | with_reducible refine wa_r2 ?_ | with_reducible refine wa_r3 ?_
  | with_reducible refine br_t ?_ | with_reducible refine br_f ?_ | with_reducible refine br_n ?_ | with_reducible refine br_dt (by assumption) ?_ | with_reducible refine br_df (by assumption) ?_
  | with_reducible refine sm_put1 ?_ | with_reducible refine sm_put2 ?_ | with_reducible refine sm_put3 ?_ | with_reducible refine sm_ioI ?_ | with_reducible refine sm_pow (by decide) ?_
  | with_reducible refine we_opO ?_ | with_reducible refine ws_insr ?_ | with_reducible refine sm_tupRevL ?_ | with_reducible refine sm_tupRevK ?_ | with_reducible refine sm_seqL ?_ | with_reducible refine sm_seqK ?_ | with_reducible refine sm_seqT ?_
  | with_reducible refine or_new (by with_unfolding_all exact rfl) ?_
  | with_reducible refine sm_toL ?_ | with_reducible refine sm_toT ?_ | with_reducible refine sm_toK ?_ | with_reducible refine sm_loL ?_ | with_reducible refine sm_loT ?_ | with_reducible refine sm_loK ?_)
section
variable {Q : D → Prop} {QB : D → D → Prop} {E : Er}
/-- a fraction or a whole number -/
def fi : D → Bool
  | .int _ => true
  | .ins 0 _ => true
  | _ => false
def Fine : D → Prop
  | .cls _ => False
  | .kls _ => False
  | .ins c _ => c = 0
  | _ => True
theorem fi_w {d : D} (h : Fine d) (k : Q (.bl (fi d))) : WR (m_is_frac_or_integer [d]) Q E := by
  cases d with
  | cls c => exact h.elim
  | kls c => exact h.elim
  | ins c fs =>
    have h : c = 0 := h
    subst h
    exact wr_eq (a := .bl true) (by with_unfolding_all rfl) k
  | int i => exact wr_eq (a := .bl true) (by with_unfolding_all rfl) k
  | non => exact wr_eq (a := .bl false) (by with_unfolding_all rfl) k
  | bl b => exact wr_eq (a := .bl false) (by with_unfolding_all rfl) k
  | str x => exact wr_eq (a := .bl false) (by with_unfolding_all rfl) k
  | lst xs => exact wr_eq (a := .bl false) (by with_unfolding_all rfl) k
  | tup xs => exact wr_eq (a := .bl false) (by with_unfolding_all rfl) k
theorem given_fi {d : D} {x : Rat} (h : GivenOK d x) : Fine d ∧ fi d = true := by
  rcases h with rfl | ⟨rfl, _⟩
  · exact ⟨rfl, rfl⟩
  · exact ⟨trivial, rfl⟩
/-- a sequence of values -/
theorem told_gen {v : D} {ds : List D} (n : Int) (hv : v = .lst ds ∨ v = .tup ds) (hf : ∀ d ∈ ds, Fine d) (hl : ds.length ≤ 1000) (bad : ¬ ((ds.length : Int) = n ∧ ds.all fi = true) → Q .non)
    (good : (ds.length : Int) = n → ds.all fi = true → WE (mPrim (gOne gTupOf) (mCons (mComp [2] (mSeqD id (mVar 0)) (gtN 2) mYes l_told_row_e5_17) mNil) [some v, some (.int n), none]) (fun d _ => Q d) E) : WR (m_told_row [v, .int n]) Q E := by
  have seq : m_is_sequence [v] = .ok (.bl true) := by rcases hv with rfl | rfl <;> with_unfolding_all rfl
  have sq : ∃ b, seqD v = some (b, ds) := by rcases hv with rfl | rfl <;> exact ⟨_, rfl⟩
  have len : gLen v = some (.int ds.length) := by rcases hv with rfl | rfl <;> rfl
  obtain ⟨b, sq⟩ := sq
  unfold m_told_row
  refine wr_fn (by simp only [List.map_cons, List.map_nil, List.cons_append, List.nil_append, Nat.reduceSub, List.replicate_succ, List.replicate_zero]; rfl) ?_
  unfold b_told_row
  repeat' first | infer_instance | refine wr_eq seq ?_ | refine sm_e len ?_
  refine br_d (fun h1 => ?_) (fun h1 => ?_)
  · repeat' first | infer_instance | refine sm_e sq ?_
    refine ⟨show ds.length ≤ 100000 by omega, ?_⟩
    have em : id ds = ds.map id := by simp
    rw [em]
    refine wc_map (fun d => .bl (fi d)) (fun d hd => ?_) ?_
    · unfold l_told_row_e3_15
      repeat infer_instance
      refine fi_w (hf d hd) ?_
      exact ⟨rfl, rfl⟩
    · repeat infer_instance
      refine sm_all ?_
      repeat infer_instance
      refine br_b (fun h2 => ?_) (fun h2 => ?_)
      · infer_instance
        infer_instance
        exact good h1 h2
      · repeat infer_instance
        exact bad fun z => by rw [z.2] at h2; cases h2
  · repeat infer_instance
    exact bad fun z => h1 z.1
theorem told_none {v : D} {ds : List D} (n : Int) (hv : v = .lst ds ∨ v = .tup ds) (hf : ∀ d ∈ ds, Fine d) (hl : ds.length ≤ 1000) (hb : (ds.length : Int) ≠ n ∨ ∃ d ∈ ds, fi d = false) (k : Q .non) : WR (m_told_row [v, .int n]) Q E :=
  told_gen n hv hf hl (fun _ => k) fun h1 h2 => by
    exfalso
    rcases hb with z | ⟨d, hd, e⟩
    · exact z h1
    · rw [List.all_eq_true.mp h2 d hd] at e; cases e
theorem told_w {v : D} {as : List (D × Rat)} (hv : v = .lst (as.map (·.1)) ∨ v = .tup (as.map (·.1))) (h : ∀ a ∈ as, GivenOK a.1 a.2) (hl : as.length ≤ 1000) (n : Int) (hn : n = as.length) (k : Q (.tup ((as.map (·.2)).map frD))) : WR (m_told_row [v, .int n]) Q E := by
  have sq : ∃ b, seqD v = some (b, as.map (·.1)) := by rcases hv with rfl | rfl <;> exact ⟨_, rfl⟩
  obtain ⟨b, sq⟩ := sq
  refine told_gen n hv (fun d hd => ?_) (by rw [List.length_map]; exact hl) (fun z => ?_) fun h1 h2 => ?_
  · obtain ⟨a, ha, rfl⟩ := List.mem_map.mp hd
    exact (given_fi (h a ha)).1
  · exfalso
    refine z ⟨by rw [List.length_map, hn], List.all_eq_true.mpr fun d hd => ?_⟩
    obtain ⟨a, ha, rfl⟩ := List.mem_map.mp hd
    exact (given_fi (h a ha)).2
  · repeat' first | infer_instance | refine sm_e sq ?_
    refine ⟨show (as.map (·.1)).length ≤ 100000 by rw [List.length_map]; omega, ?_⟩
    show WC [2] (gtN 2) mYes l_told_row_e5_17 (as.map fun a => a.1) _ _ _
    refine wc_map (fun a : D × Rat => frD a.2) (fun a ha => ?_) ?_
    · unfold l_told_row_e5_17
      repeat infer_instance
      refine as_frac_g (h a ha) ?_
      exact ⟨rfl, rfl⟩
    · repeat infer_instance
      rw [List.map_map] at k
      exact k
/-- what is asked of heights -/
def Hold (os : List (List Row)) (hs : List Rat) : Prop := (hs.getD os.length 0).num = 0 ∧ ∀ k o, os[k]? = some o → ¬ hs.getD k 0 < liftQ o (hs.getD (k + 1) 0)
theorem hold_w {v hv : D} {os : List (List Row)} {as : List (D × Rat)} (ho : v = .tup (os.map offD) ∨ v = .lst (os.map offD)) (ok : ∀ o ∈ os, OfOk 6 o) (hl : os.length ≤ 5) (h1 : hv = .lst (as.map (·.1)) ∨ hv = .tup (as.map (·.1))) (h : ∀ a ∈ as, GivenOK a.1 a.2)
    (hb : ∀ a ∈ as, FB 1400 1400 a.2) (hn : as.length = os.length + 1) (k : ∀ b : Bool, (b = true ↔ Hold os (as.map (·.2))) → Q (.bl b)) : WR (m_heights_hold [v, hv]) Q E := by
  have hg : ∀ j, j ≤ os.length → (as.map (·.2))[j]? = some ((as.map (·.2)).getD j 0) := fun j hj => by
    have l : j < (as.map (·.2)).length := by rw [List.length_map]; omega
    rw [List.getD_eq_getElem?_getD, List.getElem?_eq_getElem l]; rfl
  have hfb : ∀ j, j ≤ os.length → FB 1400 1400 ((as.map (·.2)).getD j 0) := fun j hj => by
    have m := List.mem_of_getElem? (hg j hj)
    obtain ⟨a, ha, e⟩ := List.mem_map.mp m
    rw [← e]; exact hb a ha
  have hat : ∀ j, j ≤ os.length → atI ((as.map (·.2)).map frD) (j : Int) = some (frD ((as.map (·.2)).getD j 0)) := fun j hj => atI_nat (by rw [List.getElem?_map, hg j hj]; rfl)
  have hlast : atI ((as.map (·.2)).map frD) (-1) = some (frD ((as.map (·.2)).getD os.length 0)) := atI_last (by
    rw [List.getLast?_eq_getElem?, List.getElem?_map, List.length_map, List.length_map, hn, Nat.add_sub_cancel, hg _ (Nat.le_refl _)]; rfl)
  unfold m_heights_hold
  refine wr_fn (by simp only [List.map_cons, List.map_nil, List.cons_append, List.nil_append, Nat.reduceSub, List.replicate_succ, List.replicate_zero]; rfl) ?_
  unfold b_heights_hold
  repeat infer_instance
  refine checked_w ho ?_
  repeat infer_instance
  refine told_w h1 h (by omega) _ (by rw [List.length_map]; omega) ?_
  generalize as.map (·.2) = hs at *
  repeat infer_instance
  refine sm_ati hlast ?_
  repeat infer_instance
  refine br_d (fun h0 => ?_) (fun h0 => ?_)
  · repeat infer_instance
    refine wf_inv (fun i ρ => (∃ (x4 x5 : Option D), ρ = [some v, some hv, some (.tup (os.map offD)), some (.tup (hs.map frD)), x4, x5]) ∧ ∀ j o, os[j]? = some o → j < i → ¬ hs.getD j 0 < liftQ o (hs.getD (j + 1) 0)) ⟨⟨_, _, rfl⟩, fun j o _ z => by omega⟩ ?_ ?_
    · rintro i d ρ hd ⟨⟨x4, x5, rfl⟩, hi⟩
      obtain ⟨x, hx, rfl⟩ := enumD_get hd
      have hx : (os.map offD)[i]? = some x := hx
      rw [List.getElem?_map] at hx
      cases q : os[i]? with
      | none => rw [q] at hx; cases hx
      | some o =>
        rw [q] at hx
        cases hx
        have li := (List.getElem?_eq_some_iff.mp q).1
        have ao := ok o (List.mem_of_getElem? q)
        have a0 := hat i (by omega)
        have a1 : atI (hs.map frD) ((i : Int) + 1) = some (frD (hs.getD (i + 1) 0)) := hat (i + 1) (by omega)
        have b0 := hfb i (by omega)
        have b1 := hfb (i + 1) (by omega)
        have b2 := (fb_lift ao b1).sz
        unfold l_heights_hold_b5
        rw [Nat.zero_add]
        repeat' first | infer_instance | refine sm_ati a0 ?_ | refine sm_ati a1 ?_ | refine before_w ao b1 ?_ | refine below_w (b0.sz.mono (by decide)) (b2.mono (by decide)) ?_
        refine br_d (fun hq => ?_) (fun hq => ?_)
        · repeat infer_instance
          exact k false ⟨fun z => (nomatch z), fun z => absurd hq (z.2 i o q)⟩
        · repeat infer_instance
          refine ⟨⟨_, _, rfl⟩, fun j p hp hj => ?_⟩
          rcases Nat.lt_or_ge j i with z | z
          · exact hi j p hp z
          · have : j = i := by omega
            subst this
            rw [q] at hp; cases hp; exact hq
    · rintro ρ ⟨⟨x4, x5, rfl⟩, hi⟩
      repeat infer_instance
      refine k true ⟨fun _ => ⟨h0, fun j o ho => hi j o ho ?_⟩, fun _ => rfl⟩
      have := (List.getElem?_eq_some_iff.mp ho).1
      show j < (enumD 0 (os.map offD)).length
      rw [enumD_length, List.length_map]; exact this
  · repeat infer_instance
    exact k false ⟨fun z => (nomatch z), fun z => absurd z.1 h0⟩
theorem hold_none {v hv : D} {os : List (List Row)} (ho : v = .tup (os.map offD) ∨ v = .lst (os.map offD)) (ht : m_told_row [hv, .int ((os.length : Int) + 1)] = .ok .non) (k : Q (.bl false)) : WR (m_heights_hold [v, hv]) Q E := by
  unfold m_heights_hold
  refine wr_fn (by simp only [List.map_cons, List.map_nil, List.cons_append, List.nil_append, Nat.reduceSub, List.replicate_succ, List.replicate_zero]; rfl) ?_
  unfold b_heights_hold
  repeat infer_instance
  refine checked_w ho ?_
  repeat infer_instance
  rw [List.length_map]
  refine wr_eq ht ?_
  repeat infer_instance
  exact k
end
end Z.L50
end
set_option Elab.async false
set_option linter.all false
set_option maxRecDepth 100000
noncomputable section
namespace Z.L50
open PySem PySem.Spec L2
set_option maxHeartbeats 4000000
local macro_rules | `(tactic| infer_instance) => `(tactic| first
  | with_reducible refine we_var ?_ | with_reducible refine we_con ?_ | with_reducible refine wa_cons ?_ | with_reducible refine wa_nil ?_
  | with_reducible refine we_bin ?_ | with_reducible refine we_un ?_ | with_reducible refine we_prim ?_
  | with_reducible refine sm_I0 ?_ | with_reducible refine sm_IB ?_ | with_reducible refine sm_eq ?_ | with_reducible refine sm_ne ?_ | with_reducible refine sm_not ?_ | with_reducible refine sm_U ?_
  | with_reducible refine sm_one ?_ | with_reducible refine sm_two ?_ | with_reducible refine sm_ixl ?_ | with_reducible refine sm_ixt ?_ | with_reducible refine sm_ixk ?_
  | with_reducible refine sm_II (by first | assumption | exact cNz_r (by omega) | exact cDiv_r (by omega) (by omega) | exact cMul_l (by omega) | exact cMul_r (by omega) | exact cMul_fm rfl | decide) ?_
  | with_reducible refine sm_tup (by first | decide | (simp only [List.length_cons, List.length_nil]; omega)) ?_ | with_reducible refine sm_lst (by first | decide | (simp only [List.length_cons, List.length_nil]; omega)) ?_
  | with_reducible refine sm_lenl ?_ | with_reducible refine sm_lent ?_ | with_reducible refine sm_lenk ?_
  | with_reducible refine sm_fld (by with_unfolding_all exact rfl) ?_ | with_reducible refine sm_atc (by with_unfolding_all exact rfl) ?_
  | with_reducible refine sm_isT (by with_unfolding_all exact rfl) ?_ | with_reducible refine sm_isF (by with_unfolding_all exact rfl) ?_ | with_reducible refine sm_nnT (by with_unfolding_all exact rfl) ?_ | with_reducible refine sm_nnF (by with_unfolding_all exact rfl) ?_
  | with_reducible refine setN_of ?_ | with_reducible refine lk_of ?_
  | with_reducible refine bl_of ?_ | with_reducible refine in_of ?_ | with_reducible refine lst_of ?_ | with_reducible refine tup_of ?_ | with_reducible refine ins_of ?_ | with_reducible refine non_of ?_
  | with_reducible refine is1_of ?_ | with_reducible refine is2_of ?_ | with_reducible refine is3_of ?_ | with_reducible refine two_of ?_
  | with_reducible refine ws_seq ?_ | with_reducible refine ws_set ?_ | with_reducible refine ws_if ?_ | with_reducible refine ws_ret ?_ | with_reducible refine ws_retN ?_ | with_reducible refine ws_skip ?_
  | with_reducible refine ws_brk ?_ | with_reducible refine ws_cnt ?_ | with_reducible refine ws_drop ?_ | with_reducible refine ws_asg ?_ | with_reducible refine ws_app ?_ | with_reducible refine ws_ext ?_ | with_reducible refine ws_setix ?_
  | with_reducible refine ws_fset ?_ | with_reducible refine ws_par ?_ | with_reducible refine ws_aug ?_ | with_reducible refine ws_for ?_ | with_reducible refine ws_try ?_
  | with_reducible refine sm_gtN ?_ | with_reducible refine sm_gtT rfl ?_ | with_reducible refine sm_gtCons ?_ | with_reducible refine sm_gtNil ?_
  | with_reducible refine we_call ?_ | with_reducible refine we_callB ?_ | with_reducible refine we_meth ?_ | with_reducible refine we_make ?_ | with_reducible refine we_callK ?_ | with_reducible refine we_makeK ?_ | with_reducible refine we_makeL ?_
  | with_reducible refine we_fldN ?_ | with_reducible refine we_unN ?_ | with_reducible refine we_binN ?_ | with_reducible refine we_sl ?_ | with_reducible refine we_slN ?_ | with_reducible refine we_mov ?_ | with_reducible refine we_pop ?_
  | with_reducible refine we_if ?_ | with_reducible refine we_and ?_ | with_reducible refine we_or ?_ | with_reducible refine we_chain ?_ | with_reducible refine we_comp ?_
  | with_reducible refine wt_val ?_ | with_reducible refine wt_and ?_ | with_reducible refine wt_or ?_ | with_reducible refine wt_not ?_ | with_reducible refine wt_yes ?_
  | with_reducible refine wo_none ?_ | with_reducible refine wo_part ?_
  | with_reducible refine wa_itL ?_ | with_reducible refine wa_itT ?_ | with_reducible refine wa_seqD ?_ | with_reducible refine wa_r1 ?_ | with_reducible refine wa_r2 ?_ | with_reducible refine wa_r3 ?_
  | with_reducible refine br_t ?_ | with_reducible refine br_f ?_ | with_reducible refine br_n ?_ | with_reducible refine br_dt (by assumption) ?_ | with_reducible refine br_df (by assumption) ?_
  | with_reducible refine sm_put1 ?_ | with_reducible refine sm_put2 ?_ | with_reducible refine sm_put3 ?_ | with_reducible refine sm_ioI ?_ | with_reducible refine sm_pow (by decide) ?_
  | with_reducible refine we_opO ?_ | with_reducible refine ws_insr ?_ | with_reducible refine sm_tupRevL ?_ | with_reducible refine sm_tupRevK ?_ | with_reducible refine sm_seqL ?_ | with_reducible refine sm_seqK ?_ | with_reducible refine sm_seqT ?_
  | with_reducible refine or_new (by with_unfolding_all exact rfl) ?_
  | with_reducible refine sm_toL ?_ | with_reducible refine sm_toT ?_ | with_reducible refine sm_toK ?_ | with_reducible refine sm_loL ?_ | with_reducible refine sm_loT ?_ | with_reducible refine sm_loK ?_)
section
variable {Q : D → Prop} {QB : D → D → Prop} {E : Er}
theorem loffers_w {f : D} (n m : Nat) (hf : Fd f) (h1 : 1 ≤ m) (h6 : m ≤ 6) (hn : n ≤ 100) (k : ∀ (oss : List (List Row)) (f' : D), oss.length = n → (∀ o ∈ oss, OfOk m o) → Fd f' → QB (.lst (oss.map offL)) f') : WB (m__law_offers [f, .int (n : Int), .int (m : Int)]) QB E := by
  unfold m__law_offers
  refine wb_fn (by simp only [List.map_cons, List.map_nil, List.cons_append, List.nil_append, Nat.reduceSub, List.replicate_succ, List.replicate_zero]; rfl) ?_
  unfold b__law_offers
  repeat infer_instance
  refine ⟨by unfold Rng; omega, ?_⟩
  rw [Int.toNat_natCast]
  refine wf_rng (fun i ρ => ∃ (f : D) (oss : List (List Row)) (x4 : Option D), ρ = [some f, some (.int (n : Int)), some (.int (m : Int)), some (.lst (oss.map offL)), x4] ∧ Fd f ∧ oss.length = i ∧ ∀ o ∈ oss, OfOk m o)
    ⟨_, [], _, rfl, hf, rfl, fun o ho => nomatch ho⟩ ?_ ?_
  · rintro i ρ hi ⟨f1, oss, x4, rfl, hf1, hl, ok⟩
    have fin : ∀ (f2 : D) (o : List Row) (x4 : Option D), Fd f2 → OfOk m o → ∃ (f : D) (oss' : List (List Row)) (y4 : Option D), [some f2, some (D.int (n : Int)), some (.int (m : Int)), some (.lst (oss.map offL ++ [offL o])), x4] = [some f, some (.int (n : Int)), some (.int (m : Int)), some (.lst (oss'.map offL)), y4] ∧ Fd f ∧ oss'.length = i + 1 ∧ ∀ o ∈ oss', OfOk m o := fun f2 o x4 hf2 ho => by
      refine ⟨f2, oss ++ [o], _, by rw [List.map_append]; rfl, hf2, by rw [List.length_append, hl]; rfl, fun p hp => ?_⟩
      rcases List.mem_append.mp hp with z | z
      · exact ok p z
      · rw [List.mem_singleton] at z; subst z; exact ho
    have ll : (oss.map offL).length < 100000 := by rw [List.length_map]; omega
    have other : ∀ f2, Fd f2 → WS ((mApp 3 (mCallB 0 m__law_offer (mCons (mVar 2) mNil))) [some f2, some (.int (n : Int)), some (.int (m : Int)), some (.lst (oss.map offL)), some (.int (0 + (i : Int)))]) (fun ρ => ∃ (f : D) (oss : List (List Row)) (x4 : Option D), ρ = [some f, some (.int (n : Int)), some (.int (m : Int)), some (.lst (oss.map offL)), x4] ∧ Fd f ∧ oss.length = i + 1 ∧ ∀ o ∈ oss, OfOk m o)
        (fun d ρ1 => Lk ρ1 0 (QB d)) (fun ρ1 => WS (mRet (mVar 3) ρ1) (fun ρ1 => Lk ρ1 0 (QB .non)) (fun d ρ1 => Lk ρ1 0 (QB d)) (fun _ => False) (fun _ => False) E) (fun ρ => ∃ (f : D) (oss : List (List Row)) (x4 : Option D), ρ = [some f, some (.int (n : Int)), some (.int (m : Int)), some (.lst (oss.map offL)), x4] ∧ Fd f ∧ oss.length = i + 1 ∧ ∀ o ∈ oss, OfOk m o) E := fun f2 hf2 => by
      repeat infer_instance
      refine lofr_w m hf2 h1 h6 fun rs f3 hr hf3 => ?_
      repeat infer_instance
      refine ⟨ll, ?_⟩
      repeat infer_instance
      exact fin _ _ _ hf3 hr
    unfold l__law_offers_b2
    repeat infer_instance
    refine br_d (fun h0 => ?_) (fun h0 => ?_)
    · repeat infer_instance
      refine pick_w 6 hf1 (by omega) (by omega) fun a f2 hf2 a0 a1 => ?_
      repeat infer_instance
      refine br_d (fun hz => ?_) (fun hz => ?_)
      · repeat infer_instance
        refine pick_w (0 + (i : Int)) hf2 (by omega) (by omega) fun b f3 hf3 b0 b1 => ?_
        have hb : b.toNat < oss.length := by omega
        have at_ : atI (oss.map offL) b = some (offL oss[b.toNat]) := atI_of b0 (by rw [List.getElem?_map, List.getElem?_eq_getElem hb]; rfl)
        repeat infer_instance
        refine sm_ati at_ ?_
        repeat infer_instance
        refine ⟨ll, ?_⟩
        repeat infer_instance
        exact fin _ _ _ hf3 (ok _ (List.getElem_mem hb))
      · exact other f2 hf2
    · infer_instance
      exact other f1 hf1
  · rintro ρ ⟨f1, oss, x4, rfl, hf1, hl, ok⟩
    repeat infer_instance
    exact k oss f1 hl ok hf1
end
end Z.L50
end
set_option Elab.async false
set_option linter.all false
set_option maxRecDepth 100000
noncomputable section
namespace Z.L50
open PySem PySem.Spec L2
set_option maxHeartbeats 4000000
local macro_rules | `(tactic| infer_instance) => `(tactic| first
  | with_reducible refine we_var ?_ | with_reducible refine we_con ?_ | with_reducible refine wa_cons ?_ | with_reducible refine wa_nil ?_
  | with_reducible refine we_bin ?_ | with_reducible refine we_un ?_ | with_reducible refine we_prim ?_
  | with_reducible refine sm_I0 ?_ | with_reducible refine sm_IB ?_ | with_reducible refine sm_eq ?_ | with_reducible refine sm_ne ?_ | with_reducible refine sm_not ?_ | with_reducible refine sm_U ?_
  | with_reducible refine sm_one ?_ | with_reducible refine sm_two ?_ | with_reducible refine sm_ixl ?_ | with_reducible refine sm_ixt ?_ | with_reducible refine sm_ixk ?_
  | with_reducible refine sm_II (by first | assumption | exact cNz_r (by omega) | exact cDiv_r (by omega) (by omega) | exact cMul_l (by omega) | exact cMul_r (by omega) | exact cMul_fm rfl | decide) ?_
  | with_reducible refine sm_tup (by first | decide | (simp only [List.length_cons, List.length_nil]; omega)) ?_ | with_reducible refine sm_lst (by first | decide | (simp only [List.length_cons, List.length_nil]; omega)) ?_
  | with_reducible refine sm_lenl ?_ | with_reducible refine sm_lent ?_ | with_reducible refine sm_lenk ?_
  | with_reducible refine sm_fld (by with_unfolding_all exact rfl) ?_ | with_reducible refine sm_atc (by with_unfolding_all exact rfl) ?_
  | with_reducible refine sm_isT (by with_unfolding_all exact rfl) ?_ | with_reducible refine sm_isF (by with_unfolding_all exact rfl) ?_ | with_reducible refine sm_nnT (by with_unfolding_all exact rfl) ?_ | with_reducible refine sm_nnF (by with_unfolding_all exact rfl) ?_
  | with_reducible refine setN_of ?_ | with_reducible refine lk_of ?_
  | with_reducible refine bl_of ?_ | with_reducible refine in_of ?_ | with_reducible refine lst_of ?_ | with_reducible refine tup_of ?_ | with_reducible refine ins_of ?_ | with_reducible refine non_of ?_
  | with_reducible refine is1_of ?_ | with_reducible refine is2_of ?_ | with_reducible refine is3_of ?_ | with_reducible refine two_of ?_
  | with_reducible refine ws_seq ?_ | with_reducible refine ws_set ?_ | with_reducible refine ws_if ?_ | with_reducible refine ws_ret ?_ | with_reducible refine ws_retN ?_ | with_reducible refine ws_skip ?_
  | with_reducible refine ws_brk ?_ | with_reducible refine ws_cnt ?_ | with_reducible refine ws_drop ?_ | with_reducible refine ws_asg ?_ | with_reducible refine ws_app ?_ | with_reducible refine ws_ext ?_ | with_reducible refine ws_setix ?_
  | with_reducible refine ws_fset ?_ | with_reducible refine ws_par ?_ | with_reducible refine ws_aug ?_ | with_reducible refine ws_for ?_ | with_reducible refine ws_try ?_
  | with_reducible refine sm_gtN ?_ | with_reducible refine sm_gtT rfl ?_ | with_reducible refine sm_gtCons ?_ | with_reducible refine sm_gtNil ?_
  | with_reducible refine we_call ?_ | with_reducible refine we_callB ?_ | with_reducible refine we_meth ?_ | with_reducible refine we_make ?_ | with_reducible refine we_callK ?_ | with_reducible refine we_makeK ?_ | with_reducible refine we_makeL ?_
  | with_reducible refine we_fldN ?_ | with_reducible refine we_unN ?_ | with_reducible refine we_binN ?_ | with_reducible refine we_sl ?_ | with_reducible refine we_slN ?_ | with_reducible refine we_mov ?_ | with_reducible refine we_pop ?_
  | with_reducible refine we_if ?_ | with_reducible refine we_and ?_ | with_reducible refine we_or ?_ | with_reducible refine we_chain ?_ | with_reducible refine we_comp ?_
  | with_reducible refine wt_val ?_ | with_reducible refine wt_and ?_ | with_reducible refine wt_or ?_ | with_reducible refine wt_not ?_ | with_reducible refine wt_yes ?_
  | with_reducible refine wo_none ?_ | with_reducible refine wo_part ?_
  | with_reducible refine wa_itL ?_ | with_reducible refine wa_itT ?_ | with_reducible refine wa_seqD ?_ | with_reducible refine wa_r1 ?_ | with_reducible refine wa_r2 ?_ | with_reducible refine wa_r3 ?_
  | with_reducible refine br_t ?_ | with_reducible refine br_f ?_ | with_reducible refine br_n ?_ | with_reducible refine br_dt (by assumption) ?_ | with_reducible refine br_df (by assumption) ?_
  | with_reducible refine sm_put1 ?_ | with_reducible refine sm_put2 ?_ | with_reducible refine sm_put3 ?_ | with_reducible refine sm_ioI ?_ | with_reducible refine sm_pow (by decide) ?_
  | with_reducible refine we_opO ?_ | with_reducible refine ws_insr ?_ | with_reducible refine sm_tupRevL ?_ | with_reducible refine sm_tupRevK ?_ | with_reducible refine sm_seqL ?_ | with_reducible refine sm_seqK ?_ | with_reducible refine sm_seqT ?_
  | with_reducible refine or_new (by with_unfolding_all exact rfl) ?_
  | with_reducible refine sm_toL ?_ | with_reducible refine sm_toT ?_ | with_reducible refine sm_toK ?_ | with_reducible refine sm_loL ?_ | with_reducible refine sm_loT ?_ | with_reducible refine sm_loK ?_)
section
variable {Q : D → Prop} {QB : D → D → Prop} {E : Er}
theorem grow_w {qs : List Rat} (form : Int) (h : ∀ q ∈ qs, Bit 9000 (q.den : Int)) (hl : qs.length ≤ 1000) (k : ∀ v, SqV v (qs.map (givenV form)) → Q v) : WR (m__law_given_row [.lst (qs.map prD), .int form]) Q E := by
  unfold m__law_given_row
  refine wr_fn (by simp only [List.map_cons, List.map_nil, List.cons_append, List.nil_append, Nat.reduceSub, List.replicate_succ, List.replicate_zero]; rfl) ?_
  unfold b__law_given_row
  repeat infer_instance
  refine ⟨by rw [List.length_map]; omega, ?_⟩
  refine wc_map (givenV form) (fun q hq => ?_) ?_
  · unfold l__law_given_row_e1_12
    repeat infer_instance
    refine given_w form (h q hq) ?_
    exact ⟨rfl, rfl⟩
  · repeat infer_instance
    refine br_d (fun h0 => ?_) (fun h0 => ?_)
    · repeat infer_instance
      exact k _ (.inr rfl)
    · repeat infer_instance
      exact k _ (.inl rfl)
/-- a value that is no row of heights -/
def OddV (n : Int) (d : D) : Prop := m_told_row [d, .int n] = .ok .non
theorem odd_seq {n : Int} {d : D} {ds : List D} (hd : SqV d ds) (hf : ∀ x ∈ ds, Fine x) (hl : ds.length ≤ 1000) (hb : (ds.length : Int) ≠ n ∨ ∃ x ∈ ds, fi x = false) : OddV n d := by
  obtain ⟨x, e, rfl⟩ := WR.get (told_none (Q := fun d => d = .non) (E := E0) n hd hf hl hb rfl)
  exact e
theorem odd_1 {n : Int} : OddV n .non := by with_unfolding_all rfl
theorem odd_2 {n : Int} : OddV n (.int 0) := by with_unfolding_all rfl
theorem odd_3 {n : Int} : OddV n (.str "") := by with_unfolding_all rfl
theorem odd_4 {n : Int} {fs : List D} : OddV n (.ins 0 fs) := by with_unfolding_all rfl
theorem kinds_w {f rv : D} {vs : List D} {m : Nat} (hf : Fd f) (hv : SqV rv vs) (hg : ∀ d ∈ vs, Fine d ∧ fi d = true) (hl : vs.length = m + 1) (h1 : 1 ≤ m) (h2 : m ≤ 10) (k : ∀ (d f' : D), Fd f' → OddV ((m : Int) + 1) d → QB d f') : WB (m__law_kinds [f, rv]) QB E := by
  have fine : ∀ {lo hi : Option Int}, ∀ x ∈ cutD vs lo hi, Fine x := fun x hx => (hg x (cutD_mem hx)).1
  have e0 : Rat.divInt 0 1 = 0 := divInt_one 0
  unfold m__law_kinds
  refine wb_fn (by simp only [List.map_cons, List.map_nil, List.cons_append, List.nil_append, Nat.reduceSub, List.replicate_succ, List.replicate_zero]; rfl) ?_
  unfold b__law_kinds
  repeat infer_instance
  refine sm_lenV hv ?_
  repeat infer_instance
  refine pick_w _ hf (by omega) (by omega) fun a f1 hf1 a0 a1 => ?_
  repeat infer_instance
  refine wf_inv (fun i ρ => ∃ (ds : List D) (x4 : Option D), ρ = [some f1, some rv, some (.int a), some (.lst ds), x4] ∧ ds.length = i ∧ ∀ d ∈ ds, OddV ((m : Int) + 1) d) ⟨[], _, rfl, rfl, fun d hd => nomatch hd⟩ ?_ ?_
  · rintro i odd ρ ho ⟨ds, x4, rfl, hd, hods⟩
    have mo := List.mem_of_getElem? ho
    have i6 := (List.getElem?_eq_some_iff.mp ho).1
    have i6 : i < 6 := i6
    have fo : Fine odd ∧ fi odd = false := by
      simp only [List.mem_cons, List.not_mem_nil, or_false] at mo
      rcases mo with rfl | rfl | rfl | rfl | rfl | rfl <;> exact ⟨trivial, rfl⟩
    have c1 : (cutD vs none (some a)).length = a.toNat := by rw [cutD_len, sIx_n, sIx_p a0]; omega
    have c2 : (cutD vs (some (a + 1)) none).length = vs.length - (a.toNat + 1) := by rw [cutD_len, sIx_n, sIx_p (by omega)]; omega
    unfold l__law_kinds_b3
    repeat infer_instance
    refine sm_slV hv (by rw [c1]; omega) fun x hx => ?_
    repeat infer_instance
    refine sm_loV hx ?_
    repeat infer_instance
    refine sm_catL (by rw [c1]; simp; omega) ?_
    repeat infer_instance
    refine sm_slV hv (by rw [c2]; omega) fun y hy => ?_
    repeat infer_instance
    refine sm_loV hy ?_
    repeat infer_instance
    refine sm_catL (by rw [List.length_append, c1, c2]; simp; omega) ?_
    repeat infer_instance
    refine ⟨by omega, ?_⟩
    repeat infer_instance
    refine ⟨_, _, rfl, by rw [List.length_append, hd]; rfl, fun d h => ?_⟩
    rcases List.mem_append.mp h with z | z
    · exact hods d z
    · rw [List.mem_singleton] at z
      subst z
      refine odd_seq (.inl rfl) (fun x hx => ?_) (by simp only [List.length_append, c1, c2, List.length_singleton]; omega) (.inr ⟨odd, by simp, fo.2⟩)
      rcases List.mem_append.mp hx with z | z
      · rcases List.mem_append.mp z with z | z
        · exact fine x z
        · rw [List.mem_singleton] at z; subst z; exact fo.1
      · exact fine x z
  · rintro ρ ⟨ds, x4, rfl, hd, hods⟩
    have hd : ds.length = 6 := hd
    have ad : ∀ {es : List D} {x : D}, (∀ d ∈ es, OddV ((m : Int) + 1) d) → OddV ((m : Int) + 1) x → ∀ d ∈ es ++ [x], OddV ((m : Int) + 1) d := fun a b d h => by
      rcases List.mem_append.mp h with z | z
      · exact a d z
      · rw [List.mem_singleton] at z; subst z; exact b
    have s1 : (cutD vs none (some (-1))).length = m := by rw [cutD_len, sIx_n, sIx_m (by decide)]; omega
    have s2 : (cutD vs (some 1) (some (-1))).length = m - 1 := by rw [cutD_len, sIx_p (i := 1) (by decide), sIx_m (i := -1) (by decide)]; omega
    have s3 : (cutD vs (some 1) none).length = m := by rw [cutD_len, sIx_n, sIx_p (by decide)]; omega
    have v0 : ∃ x0, vs[0]? = some x0 := ⟨_, List.getElem?_eq_getElem (by omega)⟩
    obtain ⟨x0, hx0⟩ := v0
    have at0 : atI vs 0 = some x0 := atI_nat (i := 0) hx0
    have m0 := List.mem_of_getElem? hx0
    have one : ∀ {x : D} {l : List D}, Fine x → (∀ d ∈ l, Fine d) → ∀ d ∈ x :: l, Fine d := fun a b d h => by
      rcases List.mem_cons.mp h with z | z
      · subst z; exact a
      · exact b d z
    have app : ∀ {l l' : List D}, (∀ d ∈ l, Fine d) → (∀ d ∈ l', Fine d) → ∀ d ∈ l ++ l', Fine d := fun a b d h => by
      rcases List.mem_append.mp h with z | z
      · exact a d z
      · exact b d z
    have nil : ∀ d ∈ ([] : List D), Fine d := fun d h => nomatch h
    have fv : ∀ d ∈ vs, Fine d := fun d h => (hg d h).1
    repeat infer_instance
    refine sm_slV hv (by rw [s1]; omega) fun x1 hx1 => ?_
    repeat infer_instance
    refine sm_loV hx1 ?_
    repeat infer_instance
    refine sm_catL (by rw [s1]; simp; omega) ?_
    repeat infer_instance
    refine ⟨by omega, ?_⟩
    have w1 := ad hods (odd_seq (d := .lst (cutD vs none (some (-1)) ++ [.bl false])) (.inl rfl) (app fine (one (x := .bl false) trivial nil)) (by simp only [List.length_append, s1, List.length_singleton]; omega) (.inr ⟨.bl false, by simp, rfl⟩))
    have l1 : (ds ++ [D.lst (cutD vs none (some (-1)) ++ [.bl false])]).length = 7 := by rw [List.length_append, hd]; rfl
    generalize ds ++ [D.lst (cutD vs none (some (-1)) ++ [.bl false])] = ds at *
    repeat infer_instance
    refine sm_slV hv (by rw [s2]; omega) fun x2 hx2 => ?_
    repeat infer_instance
    refine sm_loV hx2 ?_
    repeat infer_instance
    refine sm_catL (by rw [s2]; simp; omega) ?_
    repeat infer_instance
    refine sm_catL (by rw [List.length_append, s2]; simp; omega) ?_
    repeat infer_instance
    refine ⟨by omega, ?_⟩
    have w2 := ad w1 (odd_seq (d := .lst ([.int (10 ^ (6 : Int).toNat + 1)] ++ cutD vs (some 1) (some (-1)) ++ [.str "0"])) (.inl rfl) (app (app (one (x := .int (10 ^ (6 : Int).toNat + 1)) trivial nil) fine) (one (x := .str "0") trivial nil)) (by simp only [List.length_append, s2, List.length_singleton]; omega) (.inr ⟨.str "0", by simp, rfl⟩))
    have l2 : (ds ++ [D.lst ([.int (10 ^ (6 : Int).toNat + 1)] ++ cutD vs (some 1) (some (-1)) ++ [.str "0"])]).length = 8 := by rw [List.length_append, l1]; rfl
    generalize ds ++ [D.lst ([.int (10 ^ (6 : Int).toNat + 1)] ++ cutD vs (some 1) (some (-1)) ++ [.str "0"])] = ds at *
    repeat infer_instance
    refine sm_toV hv ?_
    repeat infer_instance
    refine sm_catT (by simp; omega) (fun z => by rw [z] at hl; simp at hl) ?_
    repeat infer_instance
    refine ⟨by omega, ?_⟩
    have w3 := ad w2 (odd_seq (d := .tup (vs ++ [.int 0])) (.inr rfl) (app fv (one (x := .int 0) trivial nil)) (by simp only [List.length_append, List.length_singleton]; omega) (.inl (by simp only [List.length_append, List.length_singleton]; omega)))
    have l3 : (ds ++ [D.tup (vs ++ [.int 0])]).length = 9 := by rw [List.length_append, l2]; rfl
    generalize ds ++ [D.tup (vs ++ [.int 0])] = ds at *
    repeat infer_instance
    refine sm_ixV hv ?_
    refine sm_ati at0 ?_
    repeat infer_instance
    refine sm_loV hv ?_
    repeat infer_instance
    refine sm_catL (by simp; omega) ?_
    repeat infer_instance
    refine ⟨by omega, ?_⟩
    have w4 := ad w3 (odd_seq (d := .lst ([x0] ++ vs)) (.inl rfl) (app (one (fv _ m0) nil) fv) (by simp only [List.length_append, List.length_singleton]; omega) (.inl (by simp only [List.length_append, List.length_singleton]; omega)))
    have l4 : (ds ++ [D.lst ([x0] ++ vs)]).length = 10 := by rw [List.length_append, l3]; rfl
    generalize ds ++ [D.lst ([x0] ++ vs)] = ds at *
    repeat infer_instance
    refine sm_slV hv (by rw [s3]; omega) fun x3 hx3 => ?_
    repeat infer_instance
    refine ⟨by omega, ?_⟩
    have w5 := ad w4 (odd_seq (d := x3) hx3 fine (by omega) (.inl (by rw [s3]; omega)))
    have l5 : (ds ++ [x3]).length = 11 := by rw [List.length_append, l4]; rfl
    generalize ds ++ [x3] = ds at *
    repeat infer_instance
    refine sm_slV hv (by rw [s1]; omega) fun x4 hx4 => ?_
    repeat infer_instance
    refine sm_loV hx4 ?_
    repeat infer_instance
    refine ⟨by omega, ?_⟩
    have w6 := ad w5 (odd_seq (d := .lst (cutD vs none (some (-1)))) (.inl rfl) fine (by omega) (.inl (by rw [s1]; omega)))
    have l6 : (ds ++ [D.lst (cutD vs none (some (-1)))]).length = 12 := by rw [List.length_append, l5]; rfl
    generalize ds ++ [D.lst (cutD vs none (some (-1)))] = ds at *
    repeat infer_instance
    refine init_w _ _ (by decide) (.mono (a := 2) (by unfold Bit; decide) (by decide)) ?_
    repeat infer_instance
    refine sm_loV hv ?_
    repeat infer_instance
    refine sm_catL (by simp; omega) ?_
    repeat infer_instance
    refine sm_catL (by simp; omega) ?_
    repeat infer_instance
    have w7 : ∀ d ∈ ds ++ [.non, .int 0, .str "", .tup [], .lst [], frD (Rat.divInt 0 1), .lst (vs ++ [.non])], OddV ((m : Int) + 1) d := fun d h => by
      rcases List.mem_append.mp h with z | z
      · exact w6 d z
      · simp only [List.mem_cons, List.not_mem_nil, or_false] at z
        rcases z with rfl | rfl | rfl | rfl | rfl | rfl | rfl
        · exact odd_1
        · exact odd_2
        · exact odd_3
        · exact odd_seq (.inr rfl) nil (by simp) (.inl (by simp; omega))
        · exact odd_seq (.inl rfl) nil (by simp) (.inl (by simp; omega))
        · exact odd_4
        · exact odd_seq (.inl rfl) (app fv (one (x := .non) trivial nil)) (by simp only [List.length_append, List.length_singleton]; omega) (.inr ⟨.non, by simp, rfl⟩)
    have l7 : (ds ++ [.non, .int 0, .str "", .tup [], .lst [], frD (Rat.divInt 0 1), .lst (vs ++ [.non])]).length = 19 := by rw [List.length_append, l6]; rfl
    generalize ds ++ [.non, .int 0, .str "", .tup [], .lst [], frD (Rat.divInt 0 1), .lst (vs ++ [.non])] = ds at *
    refine pick_w _ hf1 (by omega) (by omega) fun b f2 hf2 b0 b1 => ?_
    have hb : b.toNat < ds.length := by omega
    have atb : atI ds b = some ds[b.toNat] := atI_of b0 (List.getElem?_eq_getElem hb)
    repeat infer_instance
    refine sm_ati atb ?_
    repeat infer_instance
    exact k _ _ hf2 (w7 _ (List.getElem_mem hb))
end
end Z.L50
end
set_option Elab.async false
set_option linter.all false
set_option maxRecDepth 100000
noncomputable section
namespace Z.L50
open PySem PySem.Spec L2
set_option maxHeartbeats 4000000
local macro_rules | `(tactic| infer_instance) => `(tactic| first
  | with_reducible refine we_var ?_ | with_reducible refine we_con ?_ | with_reducible refine wa_cons ?_ | with_reducible refine wa_nil ?_
  | with_reducible refine we_bin ?_ | with_reducible refine we_un ?_ | with_reducible refine we_prim ?_
  | with_reducible refine sm_I0 ?_ | with_reducible refine sm_IB ?_ | with_reducible refine sm_eq ?_ | with_reducible refine sm_ne ?_ | with_reducible refine sm_not ?_ | with_reducible refine sm_U ?_
  | with_reducible refine sm_one ?_ | with_reducible refine sm_two ?_ | with_reducible refine sm_ixl ?_ | with_reducible refine sm_ixt ?_ | with_reducible refine sm_ixk ?_
  | with_reducible refine sm_II (by first | assumption | exact cNz_r (by omega) | exact cDiv_r (by omega) (by omega) | exact cMul_l (by omega) | exact cMul_r (by omega) | exact cMul_fm rfl | decide) ?_
  | with_reducible refine sm_tup (by first | decide | (simp only [List.length_cons, List.length_nil]; omega)) ?_ | with_reducible refine sm_lst (by first | decide | (simp only [List.length_cons, List.length_nil]; omega)) ?_
  | with_reducible refine sm_lenl ?_ | with_reducible refine sm_lent ?_ | with_reducible refine sm_lenk ?_
  | with_reducible refine sm_fld (by with_unfolding_all exact rfl) ?_ | with_reducible refine sm_atc (by with_unfolding_all exact rfl) ?_
  | with_reducible refine sm_isT (by with_unfolding_all exact rfl) ?_ | with_reducible refine sm_isF (by with_unfolding_all exact rfl) ?_ | with_reducible refine sm_nnT (by with_unfolding_all exact rfl) ?_ | with_reducible refine sm_nnF (by with_unfolding_all exact rfl) ?_
  | with_reducible refine setN_of ?_ | with_reducible refine lk_of ?_
  | with_reducible refine bl_of ?_ | with_reducible refine in_of ?_ | with_reducible refine lst_of ?_ | with_reducible refine tup_of ?_ | with_reducible refine ins_of ?_ | with_reducible refine non_of ?_
  | with_reducible refine is1_of ?_ | with_reducible refine is2_of ?_ | with_reducible refine is3_of ?_ | with_reducible refine two_of ?_
  | with_reducible refine ws_seq ?_ | with_reducible refine ws_set ?_ | with_reducible refine ws_if ?_ | with_reducible refine ws_ret ?_ | with_reducible refine ws_retN ?_ | with_reducible refine ws_skip ?_
  | with_reducible refine ws_brk ?_ | with_reducible refine ws_cnt ?_ | with_reducible refine ws_drop ?_ | with_reducible refine ws_asg ?_ | with_reducible refine ws_app ?_ | with_reducible refine ws_ext ?_ | with_reducible refine ws_setix ?_
  | with_reducible refine ws_fset ?_ | with_reducible refine ws_par ?_ | with_reducible refine ws_aug ?_ | with_reducible refine ws_for ?_ | with_reducible refine ws_try ?_
  | with_reducible refine sm_gtN ?_ | with_reducible refine sm_gtT rfl ?_ | with_reducible refine sm_gtCons ?_ | with_reducible refine sm_gtNil ?_
  | with_reducible refine we_call ?_ | with_reducible refine we_callB ?_ | with_reducible refine we_meth ?_ | with_reducible refine we_make ?_ | with_reducible refine we_callK ?_ | with_reducible refine we_makeK ?_ | with_reducible refine we_makeL ?_
  | with_reducible refine we_fldN ?_ | with_reducible refine we_unN ?_ | with_reducible refine we_binN ?_ | with_reducible refine we_sl ?_ | with_reducible refine we_slN ?_ | with_reducible refine we_mov ?_ | with_reducible refine we_pop ?_
  | with_reducible refine we_if ?_ | with_reducible refine we_and ?_ | with_reducible refine we_or ?_ | with_reducible refine we_chain ?_ | with_reducible refine we_comp ?_
  | with_reducible refine wt_val ?_ | with_reducible refine wt_and ?_ | with_reducible refine wt_or ?_ | with_reducible refine wt_not ?_ | with_reducible refine wt_yes ?_
  | with_reducible refine wo_none ?_ | with_reducible refine wo_part ?_
  | with_reducible refine wa_itL ?_ | with_reducible refine wa_itT ?_ | with_reducible refine wa_seqD ?_ | with_reducible refine wa_r1 ?_ | with_reducible refine wa_r2 ?_ | with_reducible refine wa_r3 ?_
  | with_reducible refine br_t ?_ | with_reducible refine br_f ?_ | with_reducible refine br_n ?_ | with_reducible refine br_dt (by assumption) ?_ | with_reducible refine br_df (by assumption) ?_
  | with_reducible refine sm_put1 ?_ | with_reducible refine sm_put2 ?_ | with_reducible refine sm_put3 ?_ | with_reducible refine sm_ioI ?_ | with_reducible refine sm_pow (by decide) ?_
  | with_reducible refine we_opO ?_ | with_reducible refine ws_insr ?_ | with_reducible refine sm_tupRevL ?_ | with_reducible refine sm_tupRevK ?_ | with_reducible refine sm_seqL ?_ | with_reducible refine sm_seqK ?_ | with_reducible refine sm_seqT ?_
  | with_reducible refine or_new (by with_unfolding_all exact rfl) ?_
  | with_reducible refine sm_toL ?_ | with_reducible refine sm_toT ?_ | with_reducible refine sm_toK ?_ | with_reducible refine sm_loL ?_ | with_reducible refine sm_loT ?_ | with_reducible refine sm_loK ?_)
theorem sum_bit {k : Nat} {xs : List Int} (h : ∀ x ∈ xs, Bit k x) (hl : xs.length ≤ 7) : Bit (k + 3) xs.sum := by
  have a := sumN_bits h
  have p0 : (0 : Int) < 2 ^ k := Int.pow_pos (by decide)
  have b : (xs.length : Int) * 2 ^ k ≤ 7 * 2 ^ k := Int.mul_le_mul_of_nonneg_right (by omega) (Int.le_of_lt p0)
  unfold Bit
  rw [Nat.pow_add]
  have e : (((2 ^ k : Nat) : Nat) : Int) = (2 : Int) ^ k := Int.natCast_pow ..
  omega
section
variable {Q : D → Prop} {QB : D → D → Prop} {E : Er}
theorem stops_w {oss : List (List Row)} {U : Int} (S : Sit oss U) (k : ∀ (p0 : Int × Int) ps, 0 < p0.2 → Bit 1000 p0.2 → pval p0 = (U : Rat) * (wL oss).headD 0 → Q (.lst (pairD p0 :: ps))) : WR (m__law_stops [.lst (oss.map fun o => .lst (o.map (srow U)))]) Q E := by
  have l1 := S.l1
  have l2 := S.l2
  unfold m__law_stops
  refine wr_fn (by simp only [List.map_cons, List.map_nil, List.cons_append, List.nil_append, Nat.reduceSub, List.replicate_succ, List.replicate_zero]; rfl) ?_
  unfold b__law_stops
  repeat infer_instance
  rw [← List.map_reverse]
  refine wf_map (fun i ρ => ∃ (ps : List (Int × Int)) (x2 x3 x4 x5 : Option D), ρ = [some (.lst (oss.map fun o => .lst (o.map (srow U)))), some (.lst (ps.map pairD)), x2, x3, x4, x5] ∧ ps.map pval = chainL U ((oss.drop (oss.length - i)).map fun o => (o, (0 : Rat))) 0 ∧ ∀ p ∈ ps, 0 < p.2 ∧ Bit (1 + 13 * i) p.2 ∧ Bit (900 + 13 * i) p.1)
    ⟨[(0, 1)], _, _, _, _, rfl, ?_, ?_⟩ ?_ ?_
  · rw [List.drop_of_length_le (by omega)]
    show [Rat.divInt 0 1] = [0]
    rw [divInt_one]; rfl
  · intro p hp
    rw [List.mem_singleton] at hp
    subst hp
    exact ⟨by decide, by unfold Bit; decide, Bit.mono (a := 1) (by unfold Bit; decide) (by decide)⟩
  · rintro i o ρ ho ⟨ps, x2, x3, x4, x5, rfl, hps, hok⟩
    have hi : i < oss.length := by have := (List.getElem?_eq_some_iff.mp ho).1; simpa using this
    rw [List.getElem?_reverse hi] at ho
    obtain ⟨h1, h2⟩ := List.getElem?_eq_some_iff.mp ho
    have dr : oss.drop (oss.length - (i + 1)) = o :: oss.drop (oss.length - i) := by
      rw [show oss.length - (i + 1) = oss.length - 1 - i by omega, List.drop_eq_getElem_cons h1, h2, show oss.length - 1 - i + 1 = oss.length - i by omega]
    obtain ⟨oo, hu⟩ := S.ok o (List.mem_of_getElem? ho)
    obtain ⟨w0, w1⟩ := oo.ws (by decide)
    have ol := oo.l2
    cases ps with
    | nil =>
      have := congrArg List.length hps
      rw [chainL_len] at this
      simp at this
    | cons p ps =>
      obtain ⟨d0, db, nb⟩ := hok p List.mem_cons_self
      have i5 : i < 5 := by omega
      have len : ps.length + 1 = i + 1 := by
        have := congrArg List.length hps
        rw [chainL_len, List.length_map, List.length_map, List.length_drop, List.length_cons] at this
        omega
      have sb : ∀ r ∈ o, Bit 855 (scl U r.2) := fun r hr => by
        have ro := oo.ok r hr
        have := ro.n0; have := ro.n1
        exact Bit.mul (a := 14) (show Bit 14 r.2.num by unfold Bit; omega) S.ub.div
      have at3 : atI ((p :: ps).map pairD) 0 = some (pairD p) := atI_nat (i := 0) rfl
      unfold l__law_stops_b2
      repeat infer_instance
      refine sm_ati at3 ?_
      repeat infer_instance
      refine ⟨by rw [List.length_map]; omega, ?_⟩
      refine wc_map (fun r : Row => .int (r.1 * (if p.1 < scl U r.2 * p.2 then scl U r.2 * p.2 else p.1))) (fun r hr => ?_) ?_
      · have ro := oo.ok r hr
        have := ro.w1; have := ro.w2
        unfold l__law_stops_e4_18
        repeat infer_instance
        refine sm_II (cMul_bits (sb r hr) db (by decide) (by omega)) ?_
        repeat infer_instance
        refine more_w ?_
        repeat infer_instance
        exact ⟨rfl, rfl⟩
      · repeat infer_instance
        refine sm_sum (g := fun r : Row => r.1 * (if p.1 < scl U r.2 * p.2 then scl U r.2 * p.2 else p.1)) ?_
        repeat infer_instance
        refine whole_w (w := fun r : Row => r.1) (fun r _ => ⟨_, _, rfl, rfl⟩) (by omega) ?_
        repeat infer_instance
        have e := need_int d0 o w0 hu (n := p.1)
        have wb : Bit 13 (wsum o) := by unfold Bit; omega
        refine sm_II (i := wsum o) (cMul_bits wb db (by decide) (by omega)) ?_
        repeat infer_instance
        refine ⟨⟨by rw [List.length_map, List.length_cons]; omega, by decide, by decide⟩, ?_⟩
        refine ⟨((o.map fun r : Row => r.1 * (if p.1 < scl U r.2 * p.2 then scl U r.2 * p.2 else p.1)).sum, wsum o * p.2) :: p :: ps, _, _, _, _, rfl, ?_, ?_⟩
        · rw [dr]
          show _ :: List.map pval (p :: ps) = (needQ U o ((chainL U ((oss.drop (oss.length - i)).map fun o => (o, (0 : Rat))) 0).headD 0) + 0) :: chainL U ((oss.drop (oss.length - i)).map fun o => (o, (0 : Rat))) 0
          rw [← hps]
          have e2 : pval ((o.map fun r : Row => r.1 * (if p.1 < scl U r.2 * p.2 then scl U r.2 * p.2 else p.1)).sum, wsum o * p.2) = needQ U o (pval p) := e
          rw [List.map_cons, List.headD_cons, Rat.add_zero, ← e2]
        · intro q hq
          rcases List.mem_cons.mp hq with z | z
          · subst z
            refine ⟨Int.mul_pos w0 d0, (wb.mul db).mono (by omega), ?_⟩
            refine (sum_bit (k := 910 + 13 * i) (fun x hx => ?_) (by rw [List.length_map]; omega)).mono (by omega)
            obtain ⟨r, hr, rfl⟩ := List.mem_map.mp hx
            have ro := oo.ok r hr
            have := ro.w1; have := ro.w2
            refine (Bit.mul (a := 10) (b := 900 + 13 * i) (by unfold Bit; omega) ?_).mono (by omega)
            split
            · exact ((sb r hr).mul db).mono (by omega)
            · exact nb
          · obtain ⟨a, b, c⟩ := hok q z
            exact ⟨a, b.mono (by omega), c.mono (by omega)⟩
  · rintro ρ ⟨ps, x2, x3, x4, x5, rfl, hps, hok⟩
    rw [List.length_reverse, Nat.sub_self, List.drop_zero, wL_chain S.u0] at hps
    rw [List.length_reverse] at hok
    obtain ⟨x, xs, e⟩ := wL_ne (os := oss)
    cases ps with
    | nil => rw [e] at hps; simp at hps
    | cons p ps =>
      obtain ⟨a, b, c⟩ := hok p List.mem_cons_self
      rw [e] at hps
      simp only [List.map_cons] at hps
      repeat infer_instance
      refine k p _ a (b.mono (by omega)) ?_
      rw [e]
      exact (List.cons.inj hps).1
def hsL (oss : List (List Row)) (U : Int) (ss : List (Int × Int)) (lo : Int) (lp last : Int × Int) : List Rat := (chainL U (LL oss ss lo lp) (pval last)).map fun q => q / (U : Rat)
def SsOk (ss : List (Int × Int)) : Prop := ∀ s ∈ ss, 0 < s.2 ∧ Bit 8 s.2 ∧ Bit 850 s.1
def PrOk (p : Int × Int) : Prop := 0 < p.2 ∧ Bit 8 p.2 ∧ Bit 850 p.1
theorem hs_fb {oss : List (List Row)} {U : Int} {ss : List (Int × Int)} {lo : Int} {lp last : Int × Int} (S : Sit oss U) (hs : SsOk ss) (hl : PrOk lp) (hz : PrOk last) : ∀ q ∈ hsL oss U ss lo lp last, FB 1400 1400 q := fun q hq => by
  obtain ⟨x, hx, rfl⟩ := List.mem_map.mp hq
  have f := ch_fb (lo := lo) S hs hl hz 0 x (by rw [List.drop_zero]; exact hx)
  have g : FB 841 1 (Rat.divInt 1 U) := FB.div S.u0 S.ub (by unfold Bit; decide)
  have e : x / (U : Rat) = x * Rat.divInt 1 U := by rw [Rat.divInt_eq_div]; grind
  show FB 1400 1400 (x / (U : Rat))
  rw [e]
  exact (f.mul g).mono (by decide) (by decide)
theorem hs_len {oss : List (List Row)} {U : Int} {ss : List (Int × Int)} {lo : Int} {lp last : Int × Int} : (hsL oss U ss lo lp last).length = oss.length + 1 := by
  unfold hsL; rw [List.length_map, chainL_len, LL_len]
theorem hs_at {oss : List (List Row)} {U : Int} {ss : List (Int × Int)} {lo : Int} {lp last : Int × Int} {k : Nat} : (hsL oss U ss lo lp last).getD k 0 = (chainL U (LL oss ss lo lp) (pval last)).getD k 0 / (U : Rat) := by
  unfold hsL
  rw [List.getD_eq_getElem?_getD, List.getD_eq_getElem?_getD, List.getElem?_map]
  cases (chainL U (LL oss ss lo lp) (pval last))[k]? with
  | none => show (0 : Rat) = 0 / (U : Rat); grind
  | some x => rfl
theorem hold_iff {oss : List (List Row)} {U : Int} {ss : List (Int × Int)} {lo : Int} {lp last : Int × Int} (S : Sit oss U) : Hold oss (hsL oss U ss lo lp last) ↔ pval last = 0 ∧ ∀ k, k < oss.length → ¬ slQ ss lo lp k < 0 := by
  have u0 := cast_pos S.u0
  have lst : (hsL oss U ss lo lp last).getD oss.length 0 = pval last / (U : Rat) := by
    rw [hs_at]
    have := chainL_last (U := U) (last := pval last) (L := LL oss ss lo lp)
    rw [LL_len] at this
    rw [this]
  have step : ∀ k o, oss[k]? = some o → (hsL oss U ss lo lp last).getD k 0 = liftQ o ((hsL oss U ss lo lp last).getD (k + 1) 0) + slQ ss lo lp k / (U : Rat) := fun k o ho => by
    have hk := (List.getElem?_eq_some_iff.mp ho).1
    have z := chainL_at (U := U) (last := pval last) (LL_at (ss := ss) (lo := lo) (lp := lp) hk)
    rw [hs_at, hs_at, z, show oss.getD k [] = o by rw [List.getD_eq_getElem?_getD, ho]; rfl, need_scale S.u0]
    grind
  have sgn : ∀ x : Rat, x / (U : Rat) < 0 ↔ x < 0 := fun x => by
    have e : x = x / (U : Rat) * (U : Rat) := by grind
    generalize x / (U : Rat) = y at *
    subst e
    have z := Rat.mul_lt_mul_right (a := y) (b := 0) u0
    rw [Rat.zero_mul] at z
    exact z.symm
  unfold Hold
  rw [lst, Rat.num_eq_zero]
  constructor
  · rintro ⟨h1, h2⟩
    refine ⟨by grind, fun k hk z => ?_⟩
    have ho : oss[k]? = some oss[k] := List.getElem?_eq_getElem hk
    have a := h2 k _ ho
    rw [step k _ ho] at a
    have b := (sgn _).mpr z
    exact a (by grind)
  · rintro ⟨h1, h2⟩
    refine ⟨by rw [h1]; grind, fun k o ho z => ?_⟩
    rw [step k o ho] at z
    exact h2 k (List.getElem?_eq_some_iff.mp ho).1 ((sgn _).mp (by grind))
theorem check_w {v hv : D} {oss : List (List Row)} {U : Int} {ss : List (Int × Int)} {lo form : Int} {lp last : Int × Int} (S : Sit oss U) (hs : SsOk ss) (hl : PrOk lp) (hz : PrOk last) (ho : v = .tup (oss.map offD) ∨ v = .lst (oss.map offD)) (h1 : SqV hv ((hsL oss U ss lo lp last).map (givenV form)))
    (b : Bool) (hb : b = true ↔ (pval last = 0 ∧ ∀ k, k < oss.length → ¬ slQ ss lo lp k < 0)) (k : Q (.bl b)) : WR (m_heights_hold [v, hv]) Q E := by
  have e1 : ((hsL oss U ss lo lp last).map fun q => (givenV form q, q)).map (·.1) = (hsL oss U ss lo lp last).map (givenV form) := by rw [List.map_map]; rfl
  have e2 : ((hsL oss U ss lo lp last).map fun q => (givenV form q, q)).map (·.2) = hsL oss U ss lo lp last := by simp [List.map_map, Function.comp_def]
  refine hold_w (as := (hsL oss U ss lo lp last).map fun q => (givenV form q, q)) ho (fun o m => (S.ok o m).1) S.l2 (by rw [e1]; exact h1) (fun a ha => ?_) (fun a ha => ?_) (by rw [List.length_map, hs_len]) fun c hc => ?_
  · obtain ⟨q, _, rfl⟩ := List.mem_map.mp ha
    exact givenV_ok _ _
  · obtain ⟨q, hq, rfl⟩ := List.mem_map.mp ha
    exact hs_fb S hs hl hz q hq
  · rw [e2, hold_iff S] at hc
    have : c = b := by
      have z := hc.trans hb.symm
      cases b <;> cases c <;> simp_all
    subst this
    exact k
end
end Z.L50
end
set_option Elab.async false
set_option linter.all false
set_option maxRecDepth 100000
noncomputable section
namespace Z.L50
open PySem PySem.Spec L2
set_option maxHeartbeats 4000000
local macro_rules | `(tactic| infer_instance) => `(tactic| first
  | with_reducible refine we_var ?_ | with_reducible refine we_con ?_ | with_reducible refine wa_cons ?_ | with_reducible refine wa_nil ?_
  | with_reducible refine we_bin ?_ | with_reducible refine we_un ?_ | with_reducible refine we_prim ?_
  | with_reducible refine sm_I0 ?_ | with_reducible refine sm_IB ?_ | with_reducible refine sm_eq ?_ | with_reducible refine sm_ne ?_ | with_reducible refine sm_not ?_ | with_reducible refine sm_U ?_
  | with_reducible refine sm_one ?_ | with_reducible refine sm_two ?_ | with_reducible refine sm_ixl ?_ | with_reducible refine sm_ixt ?_ | with_reducible refine sm_ixk ?_
  | with_reducible refine sm_II (by first | assumption | exact cNz_r (by omega) | exact cDiv_r (by omega) (by omega) | exact cMul_l (by omega) | exact cMul_r (by omega) | exact cMul_fm rfl | decide) ?_
  | with_reducible refine sm_tup (by first | decide | (simp only [List.length_cons, List.length_nil]; omega)) ?_ | with_reducible refine sm_lst (by first | decide | (simp only [List.length_cons, List.length_nil]; omega)) ?_
  | with_reducible refine sm_lenl ?_ | with_reducible refine sm_lent ?_ | with_reducible refine sm_lenk ?_
  | with_reducible refine sm_fld (by with_unfolding_all exact rfl) ?_ | with_reducible refine sm_atc (by with_unfolding_all exact rfl) ?_
  | with_reducible refine sm_isT (by with_unfolding_all exact rfl) ?_ | with_reducible refine sm_isF (by with_unfolding_all exact rfl) ?_ | with_reducible refine sm_nnT (by with_unfolding_all exact rfl) ?_ | with_reducible refine sm_nnF (by with_unfolding_all exact rfl) ?_
  | with_reducible refine setN_of ?_ | with_reducible refine lk_of ?_
  | with_reducible refine bl_of ?_ | with_reducible refine in_of ?_ | with_reducible refine lst_of ?_ | with_reducible refine tup_of ?_ | with_reducible refine ins_of ?_ | with_reducible refine non_of ?_
  | with_reducible refine is1_of ?_ | with_reducible refine is2_of ?_ | with_reducible refine is3_of ?_ | with_reducible refine two_of ?_
  | with_reducible refine ws_seq ?_ | with_reducible refine ws_set ?_ | with_reducible refine ws_if ?_ | with_reducible refine ws_ret ?_ | with_reducible refine ws_retN ?_ | with_reducible refine ws_skip ?_
  | with_reducible refine ws_brk ?_ | with_reducible refine ws_cnt ?_ | with_reducible refine ws_drop ?_ | with_reducible refine ws_asg ?_ | with_reducible refine ws_app ?_ | with_reducible refine ws_ext ?_ | with_reducible refine ws_setix ?_
  | with_reducible refine ws_fset ?_ | with_reducible refine ws_par ?_ | with_reducible refine ws_aug ?_ | with_reducible refine ws_for ?_ | with_reducible refine ws_try ?_
  | with_reducible refine sm_gtN ?_ | with_reducible refine sm_gtT rfl ?_ | with_reducible refine sm_gtCons ?_ | with_reducible refine sm_gtNil ?_
  | with_reducible refine we_call ?_ | with_reducible refine we_callB ?_ | with_reducible refine we_meth ?_ | with_reducible refine we_make ?_ | with_reducible refine we_callK ?_ | with_reducible refine we_makeK ?_ | with_reducible refine we_makeL ?_
  | with_reducible refine we_fldN ?_ | with_reducible refine we_unN ?_ | with_reducible refine we_binN ?_ | with_reducible refine we_sl ?_ | with_reducible refine we_slN ?_ | with_reducible refine we_mov ?_ | with_reducible refine we_pop ?_
  | with_reducible refine we_if ?_ | with_reducible refine we_and ?_ | with_reducible refine we_or ?_ | with_reducible refine we_chain ?_ | with_reducible refine we_comp ?_
  | with_reducible refine wt_val ?_ | with_reducible refine wt_and ?_ | with_reducible refine wt_or ?_ | with_reducible refine wt_not ?_ | with_reducible refine wt_yes ?_
  | with_reducible refine wo_none ?_ | with_reducible refine wo_part ?_
  | with_reducible refine wa_itL ?_ | with_reducible refine wa_itT ?_ | with_reducible refine wa_seqD ?_ | with_reducible refine wa_r1 ?_ | with_reducible refine wa_r2 ?_ | with_reducible refine wa_r3 ?_
  | with_reducible refine br_t ?_ | with_reducible refine br_f ?_ | with_reducible refine br_n ?_ | with_reducible refine br_dt (by assumption) ?_ | with_reducible refine br_df (by assumption) ?_
  | with_reducible refine sm_put1 ?_ | with_reducible refine sm_put2 ?_ | with_reducible refine sm_put3 ?_ | with_reducible refine sm_ioI ?_ | with_reducible refine sm_pow (by decide) ?_
  | with_reducible refine we_opO ?_ | with_reducible refine ws_insr ?_ | with_reducible refine sm_tupRevL ?_ | with_reducible refine sm_tupRevK ?_ | with_reducible refine sm_seqL ?_ | with_reducible refine sm_seqK ?_ | with_reducible refine sm_seqT ?_
  | with_reducible refine or_new (by with_unfolding_all exact rfl) ?_
  | with_reducible refine sm_toL ?_ | with_reducible refine sm_toT ?_ | with_reducible refine sm_toK ?_ | with_reducible refine sm_loL ?_ | with_reducible refine sm_loT ?_ | with_reducible refine sm_loK ?_)
section
variable {Q : D → Prop} {QB : D → D → Prop} {E : Er}
theorem chain2_w {oss : List (List Row)} {U : Int} {ss : List (Int × Int)} {lo : Int} {lp last : Int × Int} (S : Sit oss U) (hss : ss.length = oss.length) (hs : SsOk ss) (hl : PrOk lp) (hz : PrOk last) (k : Q (.lst ((hsL oss U ss lo lp last).map prD))) :
    WR (m__law_chain [.lst (oss.map fun o => .lst (o.map (srow U))), .lst (ss.map pairD), pairD last, .tup [.int lo, pairD lp], .int U]) Q E := by
  refine chain_w S hss hs hl hz ?_
  unfold hsL at k
  rw [List.map_map] at k
  exact k
theorem grow2_w {oss : List (List Row)} {U : Int} {ss : List (Int × Int)} {lo : Int} {lp last : Int × Int} (form : Int) (S : Sit oss U) (hs : SsOk ss) (hl : PrOk lp) (hz : PrOk last) (k : ∀ v, SqV v ((hsL oss U ss lo lp last).map (givenV form)) → Q v) : WR (m__law_given_row [.lst ((hsL oss U ss lo lp last).map prD), .int form]) Q E := by
  have l2 := S.l2
  exact grow_w form (fun q hq => (hs_fb S hs hl hz q hq).sz.2.mono (by decide)) (by rw [hs_len]; omega) k
def Pos (ss : List (Int × Int)) : Prop := ∀ s ∈ ss, 0 ≤ s.1
theorem pval_nn {p : Int × Int} (h : 0 < p.2) (h0 : 0 ≤ p.1) : ¬ pval p < 0 := by
  have e : (0 : Rat) = Rat.divInt 0 1 := (divInt_one 0).symm
  unfold pval
  rw [e, divInt_lt h (by decide)]
  omega
theorem sl_nn {ss : List (Int × Int)} {lo : Int} {lp : Int × Int} (h : SsOk ss) (hp : Pos ss) (hl : 0 < lp.2) (h0 : 0 ≤ lp.1) (k : Nat) : ¬ slQ ss lo lp k < 0 := by
  unfold slQ
  split
  · exact pval_nn hl h0
  · rw [List.getD_eq_getElem?_getD]
    cases q : ss[k]? with
    | none => exact pval_nn (p := (0, 1)) (by decide) (by decide)
    | some s =>
      have m := List.mem_of_getElem? q
      exact pval_nn (h s m).1 (hp s m)
theorem pr0 : PrOk (0, 1) := ⟨by decide, by unfold Bit; decide, Bit.mono (a := 1) (by unfold Bit; decide) (by decide)⟩
theorem pval0 : pval (0, 1) = 0 := divInt_one 0
theorem asked_w (cs : List Int) : WR (m__law_asked [.kls (cs.map D.int)]) (fun d => d = .bl true) E0 := by
  unfold m__law_asked
  refine wr_fn (by simp only [List.map_cons, List.map_nil, List.cons_append, List.nil_append, Nat.reduceSub, List.replicate_succ, List.replicate_zero]; rfl) ?_
  unfold b__law_asked
  repeat infer_instance
  refine pick_w 5 ⟨cs, 0, 0, 0, rfl⟩ (by omega) (by omega) fun a f1 hf1 a0 a1 => ?_
  obtain ⟨m, hm⟩ : ∃ m : Nat, 1 + a = (m : Int) := ⟨(1 + a).toNat, by omega⟩
  repeat infer_instance
  rw [hm]
  refine loffers_w m 3 hf1 (by decide) (by decide) (by omega) fun oss f2 hl ok hf2 => ?_
  have ok6 : ∀ o ∈ oss, OfOk 6 o := fun o ho => ⟨(ok o ho).l1, by have := (ok o ho).l2; omega, (ok o ho).ok, (ok o ho).asc⟩
  repeat infer_instance
  refine pick_w 2 hf2 (by omega) (by omega) fun form f3 hf3 fo0 fo1 => ?_
  repeat infer_instance
  refine unit_w (fun o ho => ⟨(ok6 o ho).ok, (ok6 o ho).l2⟩) (by omega) fun U u0 ub ud => ?_
  have S : Sit oss U := ⟨fun o ho => ⟨ok6 o ho, ud o ho⟩, u0, ub, by omega, by omega⟩
  repeat infer_instance
  refine ⟨by rw [List.length_map]; omega, ?_⟩
  refine wc_map (fun o => .lst (o.map (srow U))) (fun o ho => ?_) ?_
  · unfold l__law_asked_e6_11
    repeat infer_instance
    refine row_w (ok6 o ho).ok (by have := (ok6 o ho).l2; omega) (ub.mono (by decide)) ?_
    exact ⟨rfl, rfl⟩
  repeat infer_instance
  refine ⟨by rw [List.length_map]; omega, ?_⟩
  refine wc_map offD (fun o ho => ?_) ?_
  · unfold l__law_asked_e7_13
    repeat infer_instance
    refine prizes_w form (ok6 o ho).ok (by have := (ok6 o ho).l2; omega) ?_
    repeat infer_instance
    refine offer_w (prizesV_ok form o) (ok6 o ho) ?_
    repeat infer_instance
    exact ⟨rfl, rfl⟩
  repeat infer_instance
  refine ⟨by unfold Rng; omega, ?_⟩
  rw [Int.toNat_natCast]
  refine wf_rng (fun i ρ => ∃ (f : D) (ss : List (Int × Int)) (x9 x10 : Option D), ρ = [some (.kls (cs.map D.int)), some f, some (.int (m : Int)), some (.lst (oss.map offL)), some (.int form), some (.int U), some (.lst (oss.map fun o => .lst (o.map (srow U)))), some (.lst (oss.map offD)), some (.lst (ss.map pairD)), x9, x10, none, none, none, none, none, none, none, none, none, none] ∧ Fd f ∧ ss.length = i ∧ SsOk ss ∧ Pos ss)
    ⟨_, [], _, _, rfl, hf3, rfl, (fun s hs => nomatch hs), (fun s hs => nomatch hs)⟩ ?_ ?_
  · rintro i ρ hi ⟨f4, ss, x9, x10, rfl, hf4, hsl, hsk, hsp⟩
    have ll : (ss.map pairD).length < 100000 := by rw [List.length_map]; omega
    have fin : ∀ (f : D) (s : Int × Int) (y9 y10 : Option D), Fd f → PrOk s → 0 ≤ s.1 → ∃ (f' : D) (ss' : List (Int × Int)) (x9 x10 : Option D), [some (D.kls (cs.map D.int)), some f, some (.int (m : Int)), some (.lst (oss.map offL)), some (.int form), some (.int U), some (.lst (oss.map fun o => .lst (o.map (srow U)))), some (.lst (oss.map offD)), some (.lst (ss.map pairD ++ [pairD s])), y9, y10, none, none, none, none, none, none, none, none, none, none] = [some (.kls (cs.map D.int)), some f', some (.int (m : Int)), some (.lst (oss.map offL)), some (.int form), some (.int U), some (.lst (oss.map fun o => .lst (o.map (srow U)))), some (.lst (oss.map offD)), some (.lst (ss'.map pairD)), x9, x10, none, none, none, none, none, none, none, none, none, none] ∧ Fd f' ∧ ss'.length = i + 1 ∧ SsOk ss' ∧ Pos ss' := fun f s y9 y10 hf hp h0 => by
      refine ⟨f, ss ++ [s], _, _, by rw [List.map_append]; rfl, hf, by rw [List.length_append, hsl]; rfl, fun t ht => ?_, fun t ht => ?_⟩
      · rcases List.mem_append.mp ht with z | z
        · exact hsk t z
        · rw [List.mem_singleton] at z; subst z; exact hp
      · rcases List.mem_append.mp ht with z | z
        · exact hsp t z
        · rw [List.mem_singleton] at z; subst z; exact h0
    unfold l__law_asked_b9
    repeat infer_instance
    refine pick_w 2 hf4 (by omega) (by omega) fun b f5 hf5 b0 b1 => ?_
    repeat infer_instance
    refine br_d (fun hb => ?_) (fun hb => ?_)
    · repeat infer_instance
      refine pick_w 9 hf5 (by omega) (by omega) fun c f6 hf6 c0 c1 => ?_
      have bc : Bit 4 c := by unfold Bit; omega
      repeat' first | infer_instance | refine sm_II (cMul_bits bc ub (by decide) (by decide)) ?_
      refine pick_w 4 hf6 (by omega) (by omega) fun d f7 hf7 d0 d1 => ?_
      repeat' first | infer_instance | refine And.intro ll ?_
      exact fin f7 (c * U, 1 + d) _ _ hf7 ⟨by show 0 < 1 + d; omega, by show Bit 8 (1 + d); unfold Bit; omega, (bc.mul ub).mono (by decide)⟩ (Int.mul_nonneg c0 (Int.le_of_lt u0))
    · repeat' first | infer_instance | refine And.intro ll ?_
      exact fin f5 (0, 1) _ _ hf5 pr0 (by decide)
  · rintro ρ ⟨f4, ss, x9, x10, rfl, hf4, hsl, hsk, hsp⟩
    have hss : ss.length = oss.length := by omega
    repeat infer_instance
    refine pick_w 200 hf4 (by omega) (by omega) fun g f5 hf5 g0 g1 => ?_
    have prl : PrOk (-1, 1 + g) := ⟨by show 0 < 1 + g; omega, by show Bit 8 (1 + g); unfold Bit; omega, Bit.mono (a := 1) (show Bit 1 (-1) by unfold Bit; decide) (by decide)⟩
    have pvl : pval (-1, 1 + g) < 0 := by
      have e : (0 : Rat) = Rat.divInt 0 1 := (divInt_one 0).symm
      unfold pval
      rw [e, divInt_lt (by show 0 < 1 + g; omega) (by decide)]
      show (-1 : Int) * 1 < 0 * (1 + g)
      omega
    have Snn : ∀ k, k < oss.length → ¬ slQ ss (m : Int) (0, 1) k < 0 := fun k _ => sl_nn (lp := (0, 1)) hsk hsp (by decide) (by decide) k
    repeat infer_instance
    refine chain2_w (last := (0, 1)) (lp := (0, 1)) S hss hsk pr0 pr0 ?_
    repeat infer_instance
    refine grow2_w form S hsk pr0 pr0 fun v1 hv1 => ?_
    repeat infer_instance
    refine check_w S hsk pr0 pr0 (.inr rfl) hv1 true ⟨fun _ => ⟨pval0, Snn⟩, fun _ => rfl⟩ ?_
    repeat infer_instance
    refine likeS_w ?_
    repeat infer_instance
    refine ⟨by rw [List.length_map]; omega, ?_⟩
    refine wc_map (fun _ => pairD (0, 1)) (fun o ho => ?_) ?_
    · unfold l__law_asked_e19_29
      repeat infer_instance
      exact ⟨rfl, rfl⟩
    have e0 : (oss.map fun _ => pairD (0, 1)) = (oss.map fun _ => ((0, 1) : Int × Int)).map pairD := by rw [List.map_map]; rfl
    rw [e0]
    have hz0 : (oss.map fun _ => ((0, 1) : Int × Int)).length = oss.length := by rw [List.length_map]
    have hzk : SsOk (oss.map fun _ => ((0, 1) : Int × Int)) := fun s hs => by
      obtain ⟨_, _, rfl⟩ := List.mem_map.mp hs
      exact pr0
    have hzp : Pos (oss.map fun _ => ((0, 1) : Int × Int)) := fun s hs => by
      obtain ⟨_, _, rfl⟩ := List.mem_map.mp hs
      exact Int.le_refl 0
    have Znn : ∀ k, k < oss.length → ¬ slQ (oss.map fun _ => ((0, 1) : Int × Int)) (m : Int) (0, 1) k < 0 := fun k _ => sl_nn (lp := (0, 1)) hzk hzp (by decide) (by decide) k
    generalize (oss.map fun _ => ((0, 1) : Int × Int)) = zs at *
    repeat infer_instance
    refine chain2_w (last := (0, 1)) (lp := (0, 1)) S hz0 hzk pr0 pr0 ?_
    repeat infer_instance
    refine grow2_w (1 - form) S hzk pr0 pr0 fun v2 hv2 => ?_
    repeat infer_instance
    refine check_w S hzk pr0 pr0 (.inl rfl) hv2 true ⟨fun _ => ⟨pval0, Znn⟩, fun _ => rfl⟩ ?_
    repeat infer_instance
    refine likeS_w ?_
    repeat infer_instance
    refine ⟨by unfold Rng; omega, ?_⟩
    rw [Int.toNat_natCast]
    refine wf_rng (fun i ρ => ∃ (f : D) (x15 x16 : Option D), ρ = [some (.kls (cs.map D.int)), some f, some (.int (m : Int)), some (.lst (oss.map offL)), some (.int form), some (.int U), some (.lst (oss.map fun o => .lst (o.map (srow U)))), some (.lst (oss.map offD)), some (.lst (ss.map pairD)), x9, x10, some (.tup [.int (m : Int), pairD (0, 1)]), some (pairD (-1, 1 + g)), some (.lst ((hsL oss U ss (m : Int) (0, 1) (0, 1)).map prD)), some (.lst ((hsL oss U zs (m : Int) (0, 1) (0, 1)).map prD)), x15, x16, none, none, none, none] ∧ Fd f) ⟨_, _, _, rfl, hf5⟩ ?_ ?_
    · rintro i ρ hi ⟨f6, x15, x16, rfl, hf6⟩
      unfold l__law_asked_b22
      repeat infer_instance
      refine chain2_w (last := (0, 1)) (lp := (-1, 1 + g)) S hss hsk prl pr0 ?_
      repeat infer_instance
      refine pick_w 2 hf6 (by omega) (by omega) fun b f7 hf7 b0 b1 => ?_
      repeat infer_instance
      refine grow2_w b S hsk prl pr0 fun v3 hv3 => ?_
      repeat infer_instance
      refine check_w S hsk prl pr0 (.inr rfl) hv3 false ⟨fun z => (nomatch z), fun z => ?_⟩ ?_
      · have y := z.2 i (by omega)
        unfold slQ at y
        rw [if_pos (by omega)] at y
        exact absurd pvl y
      repeat infer_instance
      refine likeS_w ?_
      repeat infer_instance
      exact ⟨_, _, _, rfl, hf7⟩
    rintro ρ ⟨f6, x15, x16, rfl, hf6⟩
    repeat infer_instance
    refine pick_w 99 hf6 (by omega) (by omega) fun c f7 hf7 c0 c1 => ?_
    have prc : PrOk (1, 1 + c) := ⟨by show 0 < 1 + c; omega, by show Bit 8 (1 + c); unfold Bit; omega, Bit.mono (a := 1) (show Bit 1 1 by unfold Bit; decide) (by decide)⟩
    have pvc : pval (1, 1 + c) ≠ 0 := by
      intro z
      have e : (0 : Rat) = Rat.divInt 0 1 := (divInt_one 0).symm
      unfold pval at z
      rw [e, divInt_eq (by show 0 < 1 + c; omega) (by decide)] at z
      have z : (1 : Int) * 1 = 0 * (1 + c) := z
      omega
    repeat infer_instance
    refine chain2_w (last := (1, 1 + c)) (lp := (0, 1)) S hss hsk pr0 prc ?_
    repeat infer_instance
    refine grow2_w form S hsk pr0 prc fun v4 hv4 => ?_
    repeat infer_instance
    refine check_w S hsk pr0 prc (.inr rfl) hv4 false ⟨fun z => (nomatch z), fun z => absurd z.1 pvc⟩ ?_
    repeat infer_instance
    refine likeS_w ?_
    repeat infer_instance
    refine chain2_w (last := (-1, 1 + g)) (lp := (0, 1)) S hss hsk pr0 prl ?_
    repeat infer_instance
    refine grow2_w form S hsk pr0 prl fun v5 hv5 => ?_
    repeat infer_instance
    refine ⟨rfl, ?_⟩
    refine check_w S hsk pr0 prl (.inr rfl) hv5 false ⟨fun z => (nomatch z), fun z => by have y := z.1; rw [y] at pvl; grind⟩ ?_
    repeat infer_instance
    refine likeS_w ?_
    repeat infer_instance
    refine ⟨by unfold Rng; omega, ?_⟩
    refine wf_rng (k := 2) (fun i ρ => ∃ (f : D) (x15 x16 x17 : Option D), ρ = [some (.kls (cs.map D.int)), some f, some (.int (m : Int)), some (.lst (oss.map offL)), some (.int form), some (.int U), some (.lst (oss.map fun o => .lst (o.map (srow U)))), some (.lst (oss.map offD)), some (.lst (ss.map pairD)), x9, x10, some (.tup [.int (m : Int), pairD (0, 1)]), some (pairD (-1, 1 + g)), some (.lst ((hsL oss U ss (m : Int) (0, 1) (0, 1)).map prD)), some (.lst ((hsL oss U zs (m : Int) (0, 1) (0, 1)).map prD)), x15, x16, x17, none, none, none] ∧ Fd f) ⟨_, _, _, _, rfl, hf7⟩ ?_ ?_
    · rintro i ρ hi ⟨f8, y15, y16, y17, rfl, hf8⟩
      unfold l__law_asked_b32
      repeat infer_instance
      refine grow2_w form S hsk pr0 pr0 fun v6 hv6 => ?_
      repeat infer_instance
      refine kinds_w (m := oss.length) hf8 hv6 (fun d hd => ?_) (by rw [List.length_map, hs_len]) S.l1 (by have := S.l2; omega) fun d f9 hf9 hod => ?_
      · obtain ⟨q, _, rfl⟩ := List.mem_map.mp hd
        exact given_fi (givenV_ok _ _)
      repeat infer_instance
      refine hold_none (.inr rfl) hod ?_
      repeat infer_instance
      refine likeS_w ?_
      repeat infer_instance
      exact ⟨_, _, _, _, rfl, hf9⟩
    rintro ρ ⟨f8, y15, y16, y17, rfl, hf8⟩
    repeat infer_instance
    refine stops_w S fun p0 ps d0 db e => ?_
    repeat infer_instance
    refine sm_ati (x := pairD p0) (atI_nat (i := 0) rfl) ?_
    repeat infer_instance
    refine stopw_w ok6 S.l2 ?_
    repeat infer_instance
    refine sm_II (cMul_bits db ub (by decide) (by decide)) ?_
    repeat infer_instance
    refine likeF_w (Int.mul_pos d0 u0) ((db.mul ub).mono (by decide)) ?_
    have e2 : (wL oss).headD 0 = Rat.divInt p0.1 (p0.2 * U) := by
      have c := cast_pos u0
      have c2 := cast_pos d0
      unfold pval at e
      rw [Rat.divInt_eq_div] at e ⊢
      rw [Rat.intCast_mul]
      generalize (wL oss).headD 0 = w at *
      have e3 : (p0.1 : Rat) = (U : Rat) * w * (p0.2 : Rat) := by grind
      rw [e3]
      grind
    rw [decide_eq_true e2]
    repeat infer_instance
    refine grow2_w (1 - form) S hsk pr0 pr0 fun v7 hv7 => ?_
    repeat infer_instance
    refine check_w S hsk pr0 pr0 (.inr rfl) hv7 true ⟨fun _ => ⟨pval0, Snn⟩, fun _ => rfl⟩ ?_
    repeat infer_instance
    refine likeS_w ?_
    repeat infer_instance
    trivial
theorem law_true (ns : List Int) (_ : ns.length ≤ 63) : m_law [.kls (ns.map D.int)] = .ok (.bl true) := by
  have main : WR (m_law [.kls (ns.map D.int)]) (fun d => d = .bl true) E0 := by
    unfold m_law
    refine wr_fn (by simp only [List.map_cons, List.map_nil, List.cons_append, List.nil_append, Nat.reduceSub, List.replicate_succ, List.replicate_zero]; rfl) ?_
    unfold b_law
    repeat infer_instance
    refine asked_w ns
  obtain ⟨d, e, rfl⟩ := main.get
  exact e
end
end Z.L50
end
open PySem PySem.W PyProof.Rows
set_option maxRecDepth 100000 in
set_option maxHeartbeats 0 in
theorem PySem.Challenge.cw_choicerealm_k50_heights_judged_holds : PySem.Challenge.rw_choicerealm_k50_heights_judged.Holds := by
  w_on; o_law; k_head; (case hw => w_witness2)
  k_fill
  refine Z.walk (l := PySem.Challenge.rw_choicerealm_k50_heights_judged) (k := 11) rfl rfl ⟨rfl, by decide, by decide⟩ (fun w h Y => PySem.W.kIn_of Y) ?F
  case F =>
    intro w mg fa h KX G hmg
    refine' Z.L50.all_mk Z.L50.law_true KX G hmg ?hc_Frac ?hc_Offer ?a__law_pick ?l__law_pick ?c__law_pick ?k__law_pick ?a__law_cut ?l__law_cut ?c__law_cut ?k__law_cut ?a__law_worth ?l__law_worth ?c__law_worth ?k__law_worth ?a__law_offer ?l__law_offer ?c__law_offer ?k__law_offer ?a__law_offers ?l__law_offers ?c__law_offers ?k__law_offers ?a__law_unit ?l__law_unit ?c__law_unit ?k__law_unit ?a__law_row ?l__law_row ?c__law_row ?k__law_row ?a_is_sequence ?l_is_sequence ?c_is_sequence ?k_is_sequence ?a_is_integer ?l_is_integer ?c_is_integer ?k_is_integer ?a_is_between ?l_is_between ?c_is_between ?k_is_between ?a_Frac___init__ ?i_Frac___init__ ?l_Frac___init__ ?lt_Frac___init__ ?c_Frac___init__ ?k_Frac___init__ ?a_as_frac ?l_as_frac ?c_as_frac ?k_as_frac ?a_is_amount ?l_is_amount ?c_is_amount ?k_is_amount ?a_is_prize ?l_is_prize ?c_is_prize ?k_is_prize ?a_Frac_is_below ?i_Frac_is_below ?l_Frac_is_below ?c_Frac_is_below ?k_Frac_is_below ?a_kept_prizes ?l_kept_prizes ?c_kept_prizes ?k_kept_prizes ?a_Offer___init__ ?i_Offer___init__ ?l_Offer___init__ ?c_Offer___init__ ?k_Offer___init__ ?a__law_given ?l__law_given ?c__law_given ?k__law_given ?a__law_prizes ?l__law_prizes ?c__law_prizes ?k__law_prizes ?a__law_plus ?l__law_plus ?c__law_plus ?k__law_plus ?a__law_more ?l__law_more ?c__law_more ?k__law_more ?a__law_whole ?l__law_whole ?c__law_whole ?k__law_whole ?a__law_need ?l__law_need ?c__law_need ?k__law_need ?a__law_chain ?l__law_chain ?c__law_chain ?k__law_chain ?a__law_plain ?l__law_plain ?c__law_plain ?k__law_plain ?a__law_frac ?l__law_frac ?c__law_frac ?k__law_frac ?a__law_like ?l__law_like ?c__law_like ?k__law_like ?a_checked_offers ?l_checked_offers ?c_checked_offers ?k_checked_offers ?a_is_frac_or_integer ?l_is_frac_or_integer ?c_is_frac_or_integer ?k_is_frac_or_integer ?a_told_row ?l_told_row ?c_told_row ?k_told_row ?a_Frac___add__ ?i_Frac___add__ ?l_Frac___add__ ?c_Frac___add__ ?k_Frac___add__ ?a_total ?l_total ?c_total ?k_total ?a_Frac___mul__ ?i_Frac___mul__ ?l_Frac___mul__ ?c_Frac___mul__ ?k_Frac___mul__ ?a_Frac___sub__ ?i_Frac___sub__ ?l_Frac___sub__ ?c_Frac___sub__ ?k_Frac___sub__ ?a_Offer_weight_sum ?i_Offer_weight_sum ?l_Offer_weight_sum ?c_Offer_weight_sum ?k_Offer_weight_sum ?a_Offer_shares ?i_Offer_shares ?l_Offer_shares ?c_Offer_shares ?k_Offer_shares ?a_Offer_over ?i_Offer_over ?l_Offer_over ?c_Offer_over ?k_Offer_over ?a_worth_before ?l_worth_before ?c_worth_before ?k_worth_before ?a_heights_hold ?l_heights_hold ?c_heights_hold ?k_heights_hold ?a__law_given_row ?l__law_given_row ?c__law_given_row ?k__law_given_row ?a__law_kinds ?l__law_kinds ?c__law_kinds ?k__law_kinds ?a__law_stops ?l__law_stops ?c__law_stops ?k__law_stops ?a_worths_from ?l_worths_from ?c_worths_from ?k_worths_from ?a_stop_worth ?l_stop_worth ?c_stop_worth ?k_stop_worth ?a__law_asked ?l__law_asked ?c__law_asked ?k__law_asked ?a_law ?l_law ?c_law ?k_law ?pg_Frac ?hd_Frac ?po_Frac ?sa_Frac ?mk_Frac ?kc_Frac ?sf_Frac ?na_Frac_num ?na_Frac_den ?y0_Frac ?y1_Frac ?y2_Frac ?y3_Frac ?yb0_Frac ?yb1_Frac ?yb2_Frac ?yb3_Frac ?yb4_Frac ?yb5_Frac ?yo0_Frac ?yo1_Frac ?yo2_Frac ?yo3_Frac ?yo4_Frac ?ne_Frac_Offer ?su_Frac_Offer ?pg_Offer ?hd_Offer ?po_Offer ?sa_Offer ?mk_Offer ?kc_Offer ?na_Offer_prizes ?y0_Offer ?y1_Offer ?y2_Offer ?y3_Offer ?yb0_Offer ?yb1_Offer ?yb2_Offer ?yb3_Offer ?yb4_Offer ?yb5_Offer ?yo0_Offer ?yo1_Offer ?yo2_Offer ?yo3_Offer ?yo4_Offer ?ne_Offer_Frac ?su_Offer_Frac ?hget ?htk ?hn_abs ?hn_all ?hn_bool ?hn_enumerate ?hn_int ?hn_isinstance ?hn_len ?hn_list ?hn_range ?hn_reversed ?hn_str ?hn_sum ?hn_tuple ?hm_gcd ?hk_MOST_OVER ?hk_MOST_UNDER ?hk_MOST_WEIGHT ?hk_MOST_PRIZES
    (case hc_Frac => k_is)
    (case hc_Offer => k_is)
    (case a__law_pick => k_is)
    (case l__law_pick => k_is)
    (case c__law_pick => k_is)
    (case k__law_pick => k_is)
    (case a__law_cut => k_is)
    (case l__law_cut => k_is)
    (case c__law_cut => k_is)
    (case k__law_cut => k_is)
    (case a__law_worth => k_is)
    (case l__law_worth => k_is)
    (case c__law_worth => k_is)
    (case k__law_worth => k_is)
    (case a__law_offer => k_is)
    (case l__law_offer => k_is)
    (case c__law_offer => k_is)
    (case k__law_offer => k_is)
    (case a__law_offers => k_is)
    (case l__law_offers => k_is)
    (case c__law_offers => k_is)
    (case k__law_offers => k_is)
    (case a__law_unit => k_is)
    (case l__law_unit => k_is)
    (case c__law_unit => k_is)
    (case k__law_unit => k_is)
    (case a__law_row => k_is)
    (case l__law_row => k_is)
    (case c__law_row => k_is)
    (case k__law_row => k_is)
    (case a_is_sequence => k_is)
    (case l_is_sequence => k_is)
    (case c_is_sequence => k_is)
    (case k_is_sequence => k_is)
    (case a_is_integer => k_is)
    (case l_is_integer => k_is)
    (case c_is_integer => k_is)
    (case k_is_integer => k_is)
    (case a_is_between => k_is)
    (case l_is_between => k_is)
    (case c_is_between => k_is)
    (case k_is_between => k_is)
    (case a_Frac___init__ => k_is)
    (case i_Frac___init__ => k_is)
    (case l_Frac___init__ => k_is)
    (case lt_Frac___init__ => k_is)
    (case c_Frac___init__ => k_is)
    (case k_Frac___init__ => k_is)
    (case a_as_frac => k_is)
    (case l_as_frac => k_is)
    (case c_as_frac => k_is)
    (case k_as_frac => k_is)
    (case a_is_amount => k_is)
    (case l_is_amount => k_is)
    (case c_is_amount => k_is)
    (case k_is_amount => k_is)
    (case a_is_prize => k_is)
    (case l_is_prize => k_is)
    (case c_is_prize => k_is)
    (case k_is_prize => k_is)
    (case a_Frac_is_below => k_is)
    (case i_Frac_is_below => k_is)
    (case l_Frac_is_below => k_is)
    (case c_Frac_is_below => k_is)
    (case k_Frac_is_below => k_is)
    (case a_kept_prizes => k_is)
    (case l_kept_prizes => k_is)
    (case c_kept_prizes => k_is)
    (case k_kept_prizes => k_is)
    (case a_Offer___init__ => k_is)
    (case i_Offer___init__ => k_is)
    (case l_Offer___init__ => k_is)
    (case c_Offer___init__ => k_is)
    (case k_Offer___init__ => k_is)
    (case a__law_given => k_is)
    (case l__law_given => k_is)
    (case c__law_given => k_is)
    (case k__law_given => k_is)
    (case a__law_prizes => k_is)
    (case l__law_prizes => k_is)
    (case c__law_prizes => k_is)
    (case k__law_prizes => k_is)
    (case a__law_plus => k_is)
    (case l__law_plus => k_is)
    (case c__law_plus => k_is)
    (case k__law_plus => k_is)
    (case a__law_more => k_is)
    (case l__law_more => k_is)
    (case c__law_more => k_is)
    (case k__law_more => k_is)
    (case a__law_whole => k_is)
    (case l__law_whole => k_is)
    (case c__law_whole => k_is)
    (case k__law_whole => k_is)
    (case a__law_need => k_is)
    (case l__law_need => k_is)
    (case c__law_need => k_is)
    (case k__law_need => k_is)
    (case a__law_chain => k_is)
    (case l__law_chain => k_is)
    (case c__law_chain => k_is)
    (case k__law_chain => k_is)
    (case a__law_plain => k_is)
    (case l__law_plain => k_is)
    (case c__law_plain => k_is)
    (case k__law_plain => k_is)
    (case a__law_frac => k_is)
    (case l__law_frac => k_is)
    (case c__law_frac => k_is)
    (case k__law_frac => k_is)
    (case a__law_like => k_is)
    (case l__law_like => k_is)
    (case c__law_like => k_is)
    (case k__law_like => k_is)
    (case a_checked_offers => k_is)
    (case l_checked_offers => k_is)
    (case c_checked_offers => k_is)
    (case k_checked_offers => k_is)
    (case a_is_frac_or_integer => k_is)
    (case l_is_frac_or_integer => k_is)
    (case c_is_frac_or_integer => k_is)
    (case k_is_frac_or_integer => k_is)
    (case a_told_row => k_is)
    (case l_told_row => k_is)
    (case c_told_row => k_is)
    (case k_told_row => k_is)
    (case a_Frac___add__ => k_is)
    (case i_Frac___add__ => k_is)
    (case l_Frac___add__ => k_is)
    (case c_Frac___add__ => k_is)
    (case k_Frac___add__ => k_is)
    (case a_total => k_is)
    (case l_total => k_is)
    (case c_total => k_is)
    (case k_total => k_is)
    (case a_Frac___mul__ => k_is)
    (case i_Frac___mul__ => k_is)
    (case l_Frac___mul__ => k_is)
    (case c_Frac___mul__ => k_is)
    (case k_Frac___mul__ => k_is)
    (case a_Frac___sub__ => k_is)
    (case i_Frac___sub__ => k_is)
    (case l_Frac___sub__ => k_is)
    (case c_Frac___sub__ => k_is)
    (case k_Frac___sub__ => k_is)
    (case a_Offer_weight_sum => k_is)
    (case i_Offer_weight_sum => k_is)
    (case l_Offer_weight_sum => k_is)
    (case c_Offer_weight_sum => k_is)
    (case k_Offer_weight_sum => k_is)
    (case a_Offer_shares => k_is)
    (case i_Offer_shares => k_is)
    (case l_Offer_shares => k_is)
    (case c_Offer_shares => k_is)
    (case k_Offer_shares => k_is)
    (case a_Offer_over => k_is)
    (case i_Offer_over => k_is)
    (case l_Offer_over => k_is)
    (case c_Offer_over => k_is)
    (case k_Offer_over => k_is)
    (case a_worth_before => k_is)
    (case l_worth_before => k_is)
    (case c_worth_before => k_is)
    (case k_worth_before => k_is)
    (case a_heights_hold => k_is)
    (case l_heights_hold => k_is)
    (case c_heights_hold => k_is)
    (case k_heights_hold => k_is)
    (case a__law_given_row => k_is)
    (case l__law_given_row => k_is)
    (case c__law_given_row => k_is)
    (case k__law_given_row => k_is)
    (case a__law_kinds => k_is)
    (case l__law_kinds => k_is)
    (case c__law_kinds => k_is)
    (case k__law_kinds => k_is)
    (case a__law_stops => k_is)
    (case l__law_stops => k_is)
    (case c__law_stops => k_is)
    (case k__law_stops => k_is)
    (case a_worths_from => k_is)
    (case l_worths_from => k_is)
    (case c_worths_from => k_is)
    (case k_worths_from => k_is)
    (case a_stop_worth => k_is)
    (case l_stop_worth => k_is)
    (case c_stop_worth => k_is)
    (case k_stop_worth => k_is)
    (case a__law_asked => k_is)
    (case l__law_asked => k_is)
    (case c__law_asked => k_is)
    (case k__law_asked => k_is)
    (case a_law => k_is)
    (case l_law => k_is)
    (case c_law => k_is)
    (case k_law => k_is)
    (case pg_Frac => k_is)
    (case hd_Frac => k_is)
    (case po_Frac => k_is)
    (case sa_Frac => k_is)
    (case mk_Frac => k_is)
    (case kc_Frac => k_is)
    (case sf_Frac => k_is)
    (case na_Frac_num => k_is)
    (case na_Frac_den => k_is)
    (case y0_Frac => k_is)
    (case y1_Frac => k_is)
    (case y2_Frac => k_is)
    (case y3_Frac => k_is)
    (case yb0_Frac => k_is)
    (case yb1_Frac => k_is)
    (case yb2_Frac => k_is)
    (case yb3_Frac => k_is)
    (case yb4_Frac => k_is)
    (case yb5_Frac => k_is)
    (case yo0_Frac => k_is)
    (case yo1_Frac => k_is)
    (case yo2_Frac => k_is)
    (case yo3_Frac => k_is)
    (case yo4_Frac => k_is)
    (case ne_Frac_Offer => rfl)
    (case su_Frac_Offer => k_is)
    (case pg_Offer => k_is)
    (case hd_Offer => k_is)
    (case po_Offer => k_is)
    (case sa_Offer => k_is)
    (case mk_Offer => k_is)
    (case kc_Offer => k_is)
    (case na_Offer_prizes => k_is)
    (case y0_Offer => k_is)
    (case y1_Offer => k_is)
    (case y2_Offer => k_is)
    (case y3_Offer => k_is)
    (case yb0_Offer => k_is)
    (case yb1_Offer => k_is)
    (case yb2_Offer => k_is)
    (case yb3_Offer => k_is)
    (case yb4_Offer => k_is)
    (case yb5_Offer => k_is)
    (case yo0_Offer => k_is)
    (case yo1_Offer => k_is)
    (case yo2_Offer => k_is)
    (case yo3_Offer => k_is)
    (case yo4_Offer => k_is)
    (case ne_Offer_Frac => rfl)
    (case su_Offer_Frac => k_is)
    (case hget => k_is)
    (case htk => k_is)
    (case hn_abs => k_is)
    (case hn_all => k_is)
    (case hn_bool => k_is)
    (case hn_enumerate => k_is)
    (case hn_int => k_is)
    (case hn_isinstance => k_is)
    (case hn_len => k_is)
    (case hn_list => k_is)
    (case hn_range => k_is)
    (case hn_reversed => k_is)
    (case hn_str => k_is)
    (case hn_sum => k_is)
    (case hn_tuple => k_is)
    (case hm_gcd => k_is)
    (case hk_MOST_OVER => k_is)
    (case hk_MOST_UNDER => k_is)
    (case hk_MOST_WEIGHT => k_is)
    (case hk_MOST_PRIZES => k_is)
