import PyProof.Rows.All
import Wide.All
import OpenK.AllK
import Wide.FinOn
import PySem.Challenge.RW_choicerealm_k56_strangers_to_ten
import HandS.ForMost
import HandS.ForExc
import HandS.CallSlots
import HandS.IsInst
import HandS.Gcd
import HandS.Wide
import HandS.WideBits
import HandS.ExcInit
import HandS.ExcIs
import HandS.ExcField
import HandS.ExcCtx
import HandS.HotCalls
import HandS.ExcInitHot
import HandS.TupAny
import HandS.Defaults
import HandS.MakeKwOnly
import HandS.Style
import HandS.Rev
import HandS.RevRange
import HandS.Zip
import HandS.ClsMeth
import KE.GoesEnum
import KE.GoesMore
import HandS.Lambda
import HandS.CallLocal
import KE.KExcIs
import KE.KMathGC

set_option Elab.async false
set_option linter.all false
set_option maxRecDepth 100000
/-! Z0: data (D), how data lies in the abstract heap (Rep, Own), what a piece of code keeps (Fra), a frame's state (Stt) -/
namespace Z
open PySem PySem.Spec L2
open PyProof.Rows hiding St

/-- values as trees -/
inductive D where
  | non | bl (b : Bool) | int (i : Int) | str (x : Str)
  | lst (xs : List D) | tup (xs : List D) | ins (c : Nat) (fs : List D)
  /-- a list of the outside or of the module: read, never changed -/
  | kls (xs : List D)
  /-- an own class -/
  | cls (c : Nat)
  /-- the caught exception -/
  | exc (c : Nat) (fs : List D)

/-- own classes: where they stand, their attributes' names -/
structure Tab where
  cm : Nat → Addr
  fl : Nat → List Str
  /-- inside an except suite: the exception's class, place, dict -/
  ex : Option (Nat × Addr × Addr) := none

abbrev Env := List (Option D)

/-- a list that stands beyond reach -/
def KsL (K : PySem.W.Frag) (H : Hp) (a : Addr) (vs : List V) : Prop :=
  (∃ o, H a = some (.frz o (.lst vs))) ∨
    ∃ (o : Obj) (its : Array Value) (n : Nat), K.lookup a = some o ∧ o.cls = .type "list" ∧ o.dict = none ∧ o.data = .seq its n ∧ its.size ≤ sizeLine ∧ Vals vs its.toList
theorem KsL.sql {K : PySem.W.Frag} {H : Hp} {a : Addr} {vs : List V} (h : KsL K H a vs) : SqL K H a vs := by
  rcases h with h | h
  · exact .inl (.inr h)
  · exact .inr h

mutual
def Rep (K : PySem.W.Frag) (T : Tab) (H : Hp) (S : Addr → Prop) : D → V → Prop
  | .non, v => v = .non
  | .bl b, v => v = .bl b
  | .int i, v => v = .int i
  | .str x, v => v = .str x
  | .cls c, v => v = .ref (T.cm c)
  | .lst xs, v => ∃ a vs, v = .ref a ∧ H a = some (.lst vs) ∧ S a ∧ Reps K T H S xs vs
  | .kls xs, v => ∃ a vs, v = .ref a ∧ KsL K H a vs ∧ Reps K T H S xs vs
  | .tup xs, v => ∃ a vs, v = .ref a ∧ SqT K H a vs ∧ Reps K T H S xs vs
  | .ins c fs, v => ∃ a dx vs, v = .ref a ∧ H a = some (.ins (T.cm c) dx ((T.fl c).zip vs)) ∧ S a ∧ fs.length ≤ (T.fl c).length ∧ Reps K T H S fs vs
  | .exc c fs, v => ∃ a dd xs vs, T.ex = some (c, a, dd) ∧ v = .ref a ∧ H dd = some (.xd xs) ∧ (∀ (j : Nat) (f : Str), (T.fl c)[j]? = some f → xs.lookup f = vs[j]?) ∧ Reps K T H S fs vs
def Reps (K : PySem.W.Frag) (T : Tab) (H : Hp) (S : Addr → Prop) : List D → List V → Prop
  | [], vs => vs = []
  | d :: ds, vs => ∃ v ws, vs = v :: ws ∧ Rep K T H S d v ∧ Reps K T H S ds ws
end

section
variable {K : PySem.W.Frag} {T : Tab} {H H' : Hp} {S S' : Addr → Prop}

mutual
theorem Rep.mono (k1 : ∀ a vs, H a = some (.lst vs) → S a → H' a = some (.lst vs) ∧ S' a) (k0 : ∀ a vs, KsL K H a vs → KsL K H' a vs) (k2 : ∀ a vs, SqT K H a vs → SqT K H' a vs) (k3 : ∀ a C dx fs, H a = some (.ins C dx fs) → S a → H' a = some (.ins C dx fs) ∧ S' a) (kx : ∀ a xs, H a = some (.xd xs) → H' a = some (.xd xs)) :
    ∀ (d : D) (v : V), Rep K T H S d v → Rep K T H' S' d v
  | .non, v, h => by simp only [Rep] at h ⊢; exact h
  | .bl b, v, h => by simp only [Rep] at h ⊢; exact h
  | .int i, v, h => by simp only [Rep] at h ⊢; exact h
  | .str x, v, h => by simp only [Rep] at h ⊢; exact h
  | .cls c, v, h => by simp only [Rep] at h ⊢; exact h
  | .lst xs, v, h => by
    simp only [Rep] at h ⊢
    obtain ⟨a, vs, e, f, s, r⟩ := h
    obtain ⟨f', s'⟩ := k1 _ _ f s
    exact ⟨a, vs, e, f', s', Reps.mono k1 k0 k2 k3 kx xs vs r⟩
  | .kls xs, v, h => by
    simp only [Rep] at h ⊢
    obtain ⟨a, vs, e, f, r⟩ := h
    exact ⟨a, vs, e, k0 _ _ f, Reps.mono k1 k0 k2 k3 kx xs vs r⟩
  | .tup xs, v, h => by
    simp only [Rep] at h ⊢
    obtain ⟨a, vs, e, f, r⟩ := h
    exact ⟨a, vs, e, k2 _ _ f, Reps.mono k1 k0 k2 k3 kx xs vs r⟩
  | .ins c fs, v, h => by
    simp only [Rep] at h ⊢
    obtain ⟨a, dx, vs, e, f, s, l, r⟩ := h
    obtain ⟨f', s'⟩ := k3 _ _ _ _ f s
    exact ⟨a, dx, vs, e, f', s', l, Reps.mono k1 k0 k2 k3 kx fs vs r⟩
  | .exc c fs, v, h => by
    simp only [Rep] at h ⊢
    obtain ⟨a, dd, xs, vs, e1, e2, f, l, r⟩ := h
    exact ⟨a, dd, xs, vs, e1, e2, kx _ _ f, l, Reps.mono k1 k0 k2 k3 kx fs vs r⟩
theorem Reps.mono (k1 : ∀ a vs, H a = some (.lst vs) → S a → H' a = some (.lst vs) ∧ S' a) (k0 : ∀ a vs, KsL K H a vs → KsL K H' a vs) (k2 : ∀ a vs, SqT K H a vs → SqT K H' a vs) (k3 : ∀ a C dx fs, H a = some (.ins C dx fs) → S a → H' a = some (.ins C dx fs) ∧ S' a) (kx : ∀ a xs, H a = some (.xd xs) → H' a = some (.xd xs)) :
    ∀ (ds : List D) (vs : List V), Reps K T H S ds vs → Reps K T H' S' ds vs
  | [], vs, h => by simp only [Reps] at h ⊢; exact h
  | d :: ds, vs, h => by
    simp only [Reps] at h ⊢
    obtain ⟨v, ws, e, r1, r2⟩ := h
    exact ⟨v, ws, e, Rep.mono k1 k0 k2 k3 kx d v r1, Reps.mono k1 k0 k2 k3 kx ds ws r2⟩
end
theorem Reps.length : ∀ {ds : List D} {vs : List V}, Reps K T H S ds vs → ds.length = vs.length
  | [], vs, h => by simp only [Reps] at h; subst h; rfl
  | d :: ds, vs, h => by
    simp only [Reps] at h
    obtain ⟨v, ws, rfl, _, r⟩ := h
    simp [Reps.length r]
theorem Reps.get : ∀ {ds : List D} {vs : List V} {i : Nat} {d : D}, Reps K T H S ds vs → ds[i]? = some d → ∃ v, vs[i]? = some v ∧ Rep K T H S d v
  | [], vs, i, d, h, e => by simp at e
  | d0 :: ds, vs, 0, d, h, e => by
    simp only [Reps] at h
    obtain ⟨v, ws, rfl, r, _⟩ := h
    simp at e; subst e
    exact ⟨v, rfl, r⟩
  | d0 :: ds, vs, i + 1, d, h, e => by
    simp only [Reps] at h
    obtain ⟨v, ws, rfl, _, r⟩ := h
    simpa using Reps.get r (i := i) (by simpa using e)
theorem Reps.getV : ∀ {ds : List D} {vs : List V} {i : Nat} {v : V}, Reps K T H S ds vs → vs[i]? = some v → ∃ d, ds[i]? = some d ∧ Rep K T H S d v
  | [], vs, i, d, h, e => by simp only [Reps] at h; subst h; simp at e
  | d0 :: ds, vs, 0, v, h, e => by
    simp only [Reps] at h
    obtain ⟨v', ws, rfl, r, _⟩ := h
    simp at e; subst e
    exact ⟨d0, rfl, r⟩
  | d0 :: ds, vs, i + 1, v, h, e => by
    simp only [Reps] at h
    obtain ⟨v', ws, rfl, _, r⟩ := h
    simpa using Reps.getV r (i := i) (by simpa using e)
theorem Reps.append : ∀ {ds es : List D} {vs ws : List V}, Reps K T H S ds vs → Reps K T H S es ws → Reps K T H S (ds ++ es) (vs ++ ws)
  | [], es, vs, ws, h, g => by simp only [Reps] at h; subst h; exact g
  | d :: ds, es, vs, ws, h, g => by
    simp only [Reps] at h
    obtain ⟨v, us, rfl, r1, r2⟩ := h
    simp only [List.cons_append, Reps]
    exact ⟨v, us ++ ws, rfl, r1, Reps.append r2 g⟩
theorem Reps.take : ∀ {ds : List D} {vs : List V} (n : Nat), Reps K T H S ds vs → Reps K T H S (ds.take n) (vs.take n)
  | ds, vs, 0, h => by simp [Reps]
  | [], vs, n + 1, h => by simp only [Reps] at h; subst h; simp [Reps]
  | d :: ds, vs, n + 1, h => by
    simp only [Reps] at h
    obtain ⟨v, us, rfl, r1, r2⟩ := h
    simp only [List.take_succ_cons, Reps]
    exact ⟨v, us.take n, rfl, r1, Reps.take n r2⟩
theorem Reps.drop : ∀ {ds : List D} {vs : List V} (n : Nat), Reps K T H S ds vs → Reps K T H S (ds.drop n) (vs.drop n)
  | ds, vs, 0, h => by simpa using h
  | [], vs, n + 1, h => by simp only [Reps] at h; subst h; simp [Reps]
  | d :: ds, vs, n + 1, h => by
    simp only [Reps] at h
    obtain ⟨v, us, rfl, r1, r2⟩ := h
    simpa using Reps.drop n r2
theorem Reps.set : ∀ {ds : List D} {vs : List V} (i : Nat) {d : D} {v : V}, Reps K T H S ds vs → Rep K T H S d v → Reps K T H S (ds.set i d) (vs.set i v)
  | [], vs, i, d, v, h, r => by simp only [Reps] at h; subst h; simp [Reps]
  | d0 :: ds, vs, 0, d, v, h, r => by
    simp only [Reps] at h
    obtain ⟨v', us, rfl, r1, r2⟩ := h
    simp only [List.set_cons_zero, Reps]
    exact ⟨v, us, rfl, r, r2⟩
  | d0 :: ds, vs, i + 1, d, v, h, r => by
    simp only [Reps] at h
    obtain ⟨v', us, rfl, r1, r2⟩ := h
    simp only [List.set_cons_succ, Reps]
    exact ⟨v', us.set i v, rfl, r1, Reps.set i r2 r⟩
theorem Reps.reverse : ∀ {ds : List D} {vs : List V}, Reps K T H S ds vs → Reps K T H S ds.reverse vs.reverse
  | [], vs, h => by simp only [Reps] at h; subst h; simp [Reps]
  | d :: ds, vs, h => by
    simp only [Reps] at h
    obtain ⟨v, us, rfl, r1, r2⟩ := h
    simp only [List.reverse_cons]
    exact Reps.append (Reps.reverse r2) (by simp only [Reps]; exact ⟨v, [], rfl, r1, rfl⟩)
theorem Reps.dropLast {ds : List D} {vs : List V} (h : Reps K T H S ds vs) : Reps K T H S ds.dropLast vs.dropLast := by
  rw [List.dropLast_eq_take, List.dropLast_eq_take, ← h.length]
  exact h.take _
end

/-- three lists, place by place -/
inductive O3 (P : D → V → List Addr → Prop) : List D → List V → List (List Addr) → Prop where
  | nil : O3 P [] [] []
  | cons {d v F ds vs Fs} : P d v F → O3 P ds vs Fs → O3 P (d :: ds) (v :: vs) (F :: Fs)

/-- data of which the upper k levels are owned: F the owned objects -/
def Own (K : PySem.W.Frag) (T : Tab) (H : Hp) (S : Addr → Prop) : Nat → D → V → List Addr → Prop
  | 0, d, v, F => F = [] ∧ Rep K T H S d v
  | k + 1, .lst xs, v, F => ∃ a vs Fs, v = .ref a ∧ H a = some (.lst vs) ∧ F = a :: Fs.flatten ∧ O3 (Own K T H S k) xs vs Fs
  | k + 1, .ins c fs, v, F => ∃ a dx vs Fs, v = .ref a ∧ H a = some (.ins (T.cm c) dx ((T.fl c).zip vs)) ∧ F = a :: Fs.flatten ∧ fs.length ≤ (T.fl c).length ∧ O3 (Own K T H S k) fs vs Fs
  | _ + 1, d, v, F => F = [] ∧ Rep K T H S d v

section
variable {K : PySem.W.Frag} {T : Tab} {H H' : Hp} {S S' : Addr → Prop}
theorem O3.mono {P P' : D → V → List Addr → Prop} : ∀ {ds : List D} {vs : List V} {Fs : List (List Addr)}, O3 P ds vs Fs → (∀ d v F, F ∈ Fs → P d v F → P' d v F) → O3 P' ds vs Fs
  | _, _, _, .nil, _ => .nil
  | _, _, _, .cons p r, h => .cons (h _ _ _ List.mem_cons_self p) (O3.mono r fun d v F m q => h d v F (List.mem_cons_of_mem _ m) q)
theorem O3.length {P : D → V → List Addr → Prop} : ∀ {ds : List D} {vs : List V} {Fs : List (List Addr)}, O3 P ds vs Fs → ds.length = vs.length ∧ Fs.length = vs.length
  | _, _, _, .nil => ⟨rfl, rfl⟩
  | _, _, _, .cons p r => by obtain ⟨a, b⟩ := O3.length r; simp [a, b]
/-- data that is not owned is owned at any level, if it holds no object that may be owned -/
theorem Own.rep0 {d : D} {v : V} (h : Rep K T H S d v) : Own K T H S 0 d v [] := by simp only [Own]; exact ⟨trivial, h⟩
theorem own_zero {d : D} {v : V} {F : List Addr} : Own K T H S 0 d v F ↔ F = [] ∧ Rep K T H S d v := by simp only [Own]
theorem o3_rep : ∀ {ds : List D} {vs : List V} {Fs : List (List Addr)}, O3 (Own K T H S 0) ds vs Fs → Reps K T H S ds vs ∧ Fs.flatten = []
  | _, _, _, .nil => by simp [Reps]
  | _, _, _, .cons p r => by
    obtain ⟨r1, r2⟩ := o3_rep r
    obtain ⟨e, q⟩ := own_zero.mp p
    subst e
    simp only [Reps, List.flatten_cons, List.nil_append]
    exact ⟨⟨_, _, rfl, q, r1⟩, r2⟩
theorem rep_o3 : ∀ {ds : List D} {vs : List V}, Reps K T H S ds vs → ∃ Fs, O3 (Own K T H S 0) ds vs Fs ∧ Fs.flatten = []
  | [], vs, h => by simp only [Reps] at h; subst h; exact ⟨[], .nil, rfl⟩
  | d :: ds, vs, h => by
    simp only [Reps] at h
    obtain ⟨v, ws, rfl, r1, r2⟩ := h
    obtain ⟨Fs, o, e⟩ := rep_o3 r2
    exact ⟨[] :: Fs, .cons (own_zero.mpr ⟨rfl, r1⟩) o, by simpa using e⟩
/-- an owned list whose items are not owned -/
theorem own_lst1 {xs : List D} {v : V} {F : List Addr} : Own K T H S 1 (.lst xs) v F ↔ ∃ a vs, v = .ref a ∧ H a = some (.lst vs) ∧ F = [a] ∧ Reps K T H S xs vs := by
  simp only [Own]
  constructor
  · rintro ⟨a, vs, Fs, rfl, h, rfl, o⟩
    obtain ⟨r, e⟩ := o3_rep o
    exact ⟨a, vs, rfl, h, by rw [e], r⟩
  · rintro ⟨a, vs, rfl, h, rfl, r⟩
    obtain ⟨Fs, o, e⟩ := rep_o3 r
    exact ⟨a, vs, Fs, rfl, h, by rw [e], o⟩
theorem own_ins1 {c : Nat} {fs : List D} {v : V} {F : List Addr} : Own K T H S 1 (.ins c fs) v F ↔ ∃ a dx vs, v = .ref a ∧ H a = some (.ins (T.cm c) dx ((T.fl c).zip vs)) ∧ F = [a] ∧ fs.length ≤ (T.fl c).length ∧ Reps K T H S fs vs := by
  simp only [Own]
  constructor
  · rintro ⟨a, dx, vs, Fs, rfl, h, rfl, l, o⟩
    obtain ⟨r, e⟩ := o3_rep o
    exact ⟨a, dx, vs, rfl, h, by rw [e], l, r⟩
  · rintro ⟨a, dx, vs, rfl, h, rfl, l, r⟩
    obtain ⟨Fs, o, e⟩ := rep_o3 r
    exact ⟨a, dx, vs, Fs, rfl, h, by rw [e], l, o⟩
end

/-- what a piece of code keeps: O what it owned before, O' what is owned behind -/
structure Fra (H : Hp) (S O : Addr → Prop) (H' : Hp) (S' O' : Addr → Prop) : Prop where
  kp : ∀ b o, H b = some o → ¬ O b → H' b = some o
  sm : ∀ b, S b → S' b
  so : ∀ b, S' b → S b ∨ O b ∨ H b = none
  oo : ∀ b, O' b → O b ∨ H b = none
section
variable {H H1 H2 : Hp} {S S1 S2 O O1 O2 : Addr → Prop}
theorem Fra.refl : Fra H S O H S O := ⟨fun _ _ h _ => h, fun _ h => h, fun _ h => .inl h, fun _ h => .inl h⟩
theorem Fra.none_of (f : Fra H S O H1 S1 O1) {b : Addr} (h : H1 b = none) : O b ∨ H b = none := by
  cases q : H b with
  | none => exact .inr rfl
  | some o =>
    by_cases z : O b
    · exact .inl z
    · rw [f.kp b o q z] at h; cases h
theorem Fra.trans (f : Fra H S O H1 S1 O1) (g : Fra H1 S1 O1 H2 S2 O2) : Fra H S O H2 S2 O2 where
  kp := fun b o h n => g.kp b o (f.kp b o h n) fun z => by
    rcases f.oo b z with q | q
    · exact n q
    · rw [h] at q; cases q
  sm := fun b h => g.sm b (f.sm b h)
  so := fun b h => by
    rcases g.so b h with z | z | z
    · exact f.so b z
    · exact .inr (f.oo b z)
    · exact .inr (f.none_of z)
  oo := fun b h => by
    rcases g.oo b h with z | z
    · exact f.oo b z
    · exact f.none_of z
/-- less is owned behind -/
theorem Fra.less (f : Fra H S O H1 S1 O1) (h : ∀ b, O2 b → O1 b) : Fra H S O H1 S1 O2 := ⟨f.kp, f.sm, f.so, fun b z => f.oo b (h b z)⟩
/-- more was owned before -/
theorem Fra.more (f : Fra H S O H1 S1 O1) (h : ∀ b, O b → O2 b) : Fra H S O2 H1 S1 O1 :=
  ⟨fun b o e n => f.kp b o e fun z => n (h b z), f.sm, fun b z => (f.so b z).imp id (Or.imp_left (h b)), fun b z => (f.oo b z).imp_left (h b)⟩
end

/-- the owned objects: no two names own the same, none of them is among the shared ones; the shared ones are there -/
structure Sep (S : Addr → Prop) (H : Hp) (fp : Nat → List Addr) : Prop where
  mu : ∀ i a, a ∈ fp i → Mut (H a)
  nd : ∀ i, (fp i).Nodup
  dj : ∀ i j a, a ∈ fp i → a ∈ fp j → i = j
  ns : ∀ i a, a ∈ fp i → ¬ S a
  al : ∀ a, S a → ∃ o, H a = some o
def Ow (fp : Nat → List Addr) (a : Addr) : Prop := ∃ i, a ∈ fp i

section
variable {K : PySem.W.Frag} {T : Tab} {H H' : Hp} {S S' O' : Addr → Prop} {fp : Nat → List Addr}
theorem not_ow_of {P : Addr → Prop} {a : Addr} {o : HO} (mu : ∀ a, P a → Mut (H a)) (h : H a = some o) (n : ¬ Mut (some o)) : ¬ P a := fun z => by
  have q := mu a z
  rw [h] at q
  exact n q
/-- a stable place: what is not owned by P stays -/
structure Stay (K : PySem.W.Frag) (H : Hp) (S : Addr → Prop) (H' : Hp) (S' : Addr → Prop) : Prop where
  l : ∀ a vs, H a = some (.lst vs) → S a → H' a = some (.lst vs) ∧ S' a
  c : ∀ a vs, KsL K H a vs → KsL K H' a vs
  t : ∀ a vs, SqT K H a vs → SqT K H' a vs
  i : ∀ a C dx fs, H a = some (.ins C dx fs) → S a → H' a = some (.ins C dx fs) ∧ S' a
  x : ∀ a xs, H a = some (.xd xs) → H' a = some (.xd xs)
theorem Stay.of {O : Addr → Prop} (mu : ∀ a, O a → Mut (H a)) (ns : ∀ a, O a → ¬ S a) (f : Fra H S O H' S' O') : Stay K H S H' S' := by
  refine ⟨fun a vs h s => ⟨f.kp a _ h fun z => ns a z s, f.sm a s⟩, fun a vs h => ?_, fun a vs h => ?_, fun a C dx fs h s => ⟨f.kp a _ h fun z => ns a z s, f.sm a s⟩, fun a xs h => f.kp a _ h (not_ow_of mu h fun z => z)⟩
  · rcases h with ⟨o, h⟩ | h
    · exact .inl ⟨o, f.kp a _ h (not_ow_of mu h fun z => z)⟩
    · exact .inr h
  · rcases h with (h | ⟨o, h⟩) | h
    · exact .inl (.inl (f.kp a _ h (not_ow_of mu h fun z => z)))
    · exact .inl (.inr ⟨o, f.kp a _ h (not_ow_of mu h fun z => z)⟩)
    · exact .inr h
theorem Stay.rep (s : Stay K H S H' S') {d : D} {v : V} (h : Rep K T H S d v) : Rep K T H' S' d v := Rep.mono s.l s.c s.t s.i s.x d v h
theorem Stay.reps (s : Stay K H S H' S') {d : List D} {v : List V} (h : Reps K T H S d v) : Reps K T H' S' d v := Reps.mono s.l s.c s.t s.i s.x d v h
theorem Sep.stay (p : Sep S H fp) (f : Fra H S (Ow fp) H' S' O') : Stay K H S H' S' := .of (fun a ⟨i, h⟩ => p.mu i a h) (fun a ⟨i, h⟩ => p.ns i a h) f
/-- owned data stays where the shared stays and its own objects stay -/
theorem Own.stay (s : Stay K H S H' S') : ∀ {k : Nat} {d : D} {v : V} {F : List Addr}, Own K T H S k d v F → (∀ a ∈ F, ∀ o, H a = some o → H' a = some o) → Own K T H' S' k d v F := by
  intro k
  induction k with
  | zero => intro d v F h _; simp only [Own] at h ⊢; exact ⟨h.1, s.rep h.2⟩
  | succ k ih =>
    intro d v F h kp
    cases d with
    | lst xs =>
      simp only [Own] at h ⊢
      obtain ⟨a, vs, Fs, e, h1, rfl, o⟩ := h
      refine ⟨a, vs, Fs, e, kp a List.mem_cons_self _ h1, rfl, o.mono fun d v F m q => ih q fun b hb => kp b (List.mem_cons_of_mem _ (List.mem_flatten.mpr ⟨F, m, hb⟩))⟩
    | ins c fs =>
      simp only [Own] at h ⊢
      obtain ⟨a, dx, vs, Fs, e, h1, rfl, l, o⟩ := h
      refine ⟨a, dx, vs, Fs, e, kp a List.mem_cons_self _ h1, rfl, l, o.mono fun d v F m q => ih q fun b hb => kp b (List.mem_cons_of_mem _ (List.mem_flatten.mpr ⟨F, m, hb⟩))⟩
    | _ => simp only [Own] at h ⊢; exact ⟨h.1, s.rep h.2⟩
/-- an owned object is a list or an instance that stands in H -/
theorem Own.mut : ∀ {k : Nat} {d : D} {v : V} {F : List Addr}, Own K T H S k d v F → ∀ a ∈ F, Mut (H a) := by
  intro k
  induction k with
  | zero => intro d v F h a m; simp only [Own] at h; rw [h.1] at m; cases m
  | succ k ih =>
    have go : ∀ {ds : List D} {vs : List V} {Fs : List (List Addr)}, O3 (Own K T H S k) ds vs Fs → ∀ a ∈ Fs.flatten, Mut (H a) := by
      intro ds vs Fs o
      induction o with
      | nil => intro a m; simp at m
      | cons p _ ih2 =>
        intro a m
        simp only [List.flatten_cons, List.mem_append] at m
        rcases m with m | m
        · exact ih p a m
        · exact ih2 a m
    intro d v F h a m
    cases d with
    | lst xs =>
      simp only [Own] at h
      obtain ⟨b, vs, Fs, e, h1, rfl, o⟩ := h
      rcases List.mem_cons.mp m with q | q
      · rw [q, h1]; exact trivial
      · exact go o a q
    | ins c fs =>
      simp only [Own] at h
      obtain ⟨b, dx, vs, Fs, e, h1, rfl, l, o⟩ := h
      rcases List.mem_cons.mp m with q | q
      · rw [q, h1]; exact trivial
      · exact go o a q
    | _ => simp only [Own] at h; rw [h.1] at m; cases m
/-- owned data is given away to the shared -/
theorem Own.freeze : ∀ {k : Nat} {d : D} {v : V} {F : List Addr}, Own K T H S k d v F → Rep K T H (fun a => S a ∨ a ∈ F) d v := by
  have stay : ∀ {S1 S2 : Addr → Prop}, (∀ a, S1 a → S2 a) → Stay K H S1 H S2 := fun {S1 S2} h => ⟨fun a vs z s => ⟨z, h a s⟩, fun _ _ z => z, fun _ _ z => z, fun a _ _ _ z s => ⟨z, h a s⟩, fun _ _ z => z⟩
  intro k
  induction k with
  | zero => intro d v F h; simp only [Own] at h; exact (stay fun a s => .inl s).rep h.2
  | succ k ih =>
    have go : ∀ {ds : List D} {vs : List V} {Fs : List (List Addr)}, O3 (Own K T H S k) ds vs Fs → Reps K T H (fun a => S a ∨ a ∈ Fs.flatten) ds vs := by
      intro ds vs Fs o
      induction o with
      | nil => simp [Reps]
      | @cons d v F ds vs Fs p _ ih2 =>
        simp only [Reps]
        refine ⟨v, vs, rfl, ?_, ?_⟩
        · exact (stay fun a s => by rcases s with s | s; exact .inl s; exact .inr (by simp [s])).rep (ih p)
        · exact (stay fun a s => by rcases s with s | s; exact .inl s; exact .inr (List.mem_append_right _ s)).reps ih2
    intro d v F h
    cases d with
    | lst xs =>
      simp only [Own] at h
      obtain ⟨b, vs, Fs, e, h1, rfl, o⟩ := h
      simp only [Rep]
      exact ⟨b, vs, e, h1, .inr List.mem_cons_self, (stay fun a s => s.imp id (List.mem_cons_of_mem _)).reps (go o)⟩
    | ins c fs =>
      simp only [Own] at h
      obtain ⟨b, dx, vs, Fs, e, h1, rfl, l, o⟩ := h
      simp only [Rep]
      exact ⟨b, dx, vs, e, h1, .inr List.mem_cons_self, l, (stay fun a s => s.imp id (List.mem_cons_of_mem _)).reps (go o)⟩
    | _ => simp only [Own] at h; exact (stay fun a s => .inl s).rep h.2
theorem Stay.more {S1 S2 : Addr → Prop} (h : ∀ a, S1 a → S2 a) : Stay K H S1 H S2 := ⟨fun a vs z s => ⟨z, h a s⟩, fun _ _ z => z, fun _ _ z => z, fun a _ _ _ z s => ⟨z, h a s⟩, fun _ _ z => z⟩
end
end Z
set_option Elab.async false
set_option linter.all false
set_option maxRecDepth 100000
/-! Z1: results (R), the state of a frame (Stt), the judgements over data -/
namespace Z
open PySem PySem.Spec L2
open PyProof.Rows hiding St

/-- how a piece of code ends: with a value; with an own error; or nothing is said -/
inductive R (α : Type) where
  | ok (a : α) | er (c : Nat) (fs : List D) | bad
@[inline] def R.bind {α β : Type} (x : R α) (f : α → R β) : R β := match x with
  | .ok a => f a
  | .er c fs => .er c fs
  | .bad => .bad
instance : Monad R where
  pure := .ok
  bind := R.bind
theorem R.bind_ok {α β : Type} {a : α} {f : α → R β} : (R.ok a).bind f = f a := rfl
theorem R.bind_er {α β : Type} {c : Nat} {fs : List D} {f : α → R β} : (R.er c fs).bind f = .er c fs := rfl
theorem R.bind_bad {α β : Type} {f : α → R β} : (R.bad : R α).bind f = .bad := rfl

structure Stt (K : PySem.W.Frag) (T : Tab) (Γ : List Nat) (S : Addr → Prop) (σ : St) (H : Hp) (ρ : Env) (fp : Nat → List Addr) : Prop where
  sep : Sep S H fp
  len : ρ.length = σ.length
  gl : Γ.length = σ.length
  sl : ∀ i d, ρ[i]? = some (some d) → ∃ v, σ[i]? = some (some v) ∧ Own K T H S (Γ.getD i 0) d v (fp i)

/-- a value at hand -/
structure Val (K : PySem.W.Frag) (T : Tab) (S : Addr → Prop) (H : Hp) (fp : Nat → List Addr) (k : Nat) (d : D) (v : V) (Fv : List Addr) : Prop where
  own : Own K T H S k d v Fv
  nd : Fv.Nodup
  ns : ∀ a ∈ Fv, ¬ S a
  dj : ∀ a ∈ Fv, ∀ i, a ∉ fp i

/-- an exception of the class c with these attributes -/
def OutX (K : PySem.W.Frag) (T : Tab) (W : WX) (σ : St) (H : Hp) (S O : Addr → Prop) (c : Nat) (fs : List D) : Prop :=
  ∀ (dx : Addr) (xs : List (Str × V)) (vs : List V) (H' : Hp) (S' : Addr → Prop), H' dx = some (.xd xs) → (∀ (j : Nat) (f : Str), (T.fl c)[j]? = some f → xs.lookup f = vs[j]?) → Reps K T H' S' fs vs →
    Fra H S O H' S' (fun _ => False) → (∀ a, S' a → ∃ o, H' a = some o) → W (.ref (T.cm c)) (some dx) σ H'

def OutE (K : PySem.W.Frag) (T : Tab) (W : WX) (Γ' : List Nat) (k : Nat) (σ : St) (H : Hp) (S : Addr → Prop) (fp : Nat → List Addr) (Q : VK) : R (D × Env) → Prop
  | .ok (d, ρ') => ∀ v H' S' fp' Fv, Stt K T Γ' S' σ H' ρ' fp' → Val K T S' H' fp' k d v Fv → Fra H S (Ow fp) H' S' (fun a => Ow fp' a ∨ a ∈ Fv) → Q v H'
  | .er c fs => OutX K T W σ H S (Ow fp) c fs
  | .bad => False
def OutT (K : PySem.W.Frag) (T : Tab) (W : WX) (Γ' : List Nat) (σ : St) (H : Hp) (S : Addr → Prop) (fp : Nat → List Addr) (Q : Bool → Hp → Prop) : R (Bool × Env) → Prop
  | .ok (b, ρ') => ∀ H' S' fp', Stt K T Γ' S' σ H' ρ' fp' → Fra H S (Ow fp) H' S' (Ow fp') → Q b H'
  | .er c fs => OutX K T W σ H S (Ow fp) c fs
  | .bad => False
def OutA (K : PySem.W.Frag) (T : Tab) (W : WX) (Γ' : List Nat) (σ : St) (H : Hp) (S : Addr → Prop) (fp : Nat → List Addr) (Q : List V → Hp → Prop) : R (List D × Env) → Prop
  | .ok (ds, ρ') => ∀ vs H' S' fp', Stt K T Γ' S' σ H' ρ' fp' → Reps K T H' S' ds vs → Fra H S (Ow fp) H' S' (Ow fp') → Q vs H'
  | .er c fs => OutX K T W σ H S (Ow fp) c fs
  | .bad => False
def tE (K : PySem.W.Frag) (T : Tab) (W : WX) (Γ Γ' : List Nat) (k : Nat) (f : Env → R (D × Env)) : TE := fun σ H Q => ∃ S ρ fp, Stt K T Γ S σ H ρ fp ∧ OutE K T W Γ' k σ H S fp Q (f ρ)
def tT (K : PySem.W.Frag) (T : Tab) (W : WX) (Γ Γ' : List Nat) (f : Env → R (Bool × Env)) : TT := fun σ H Q => ∃ S ρ fp, Stt K T Γ S σ H ρ fp ∧ OutT K T W Γ' σ H S fp Q (f ρ)
def tA (K : PySem.W.Frag) (T : Tab) (W : WX) (Γ Γ' : List Nat) (f : Env → R (List D × Env)) : TA := fun σ H Q => ∃ S ρ fp, Stt K T Γ S σ H ρ fp ∧ OutA K T W Γ' σ H S fp Q (f ρ)

/-- the code around: the own classes, what is wanted of errors -/
structure Cz where
  T : Tab
  W : WX
abbrev DE (X : Cx) (Z : Cz) (Γ : List Nat) (e : Expr) (Γ' : List Nat) (k : Nat) (f : Env → R (D × Env)) : Prop := PE X e (tE X.K Z.T Z.W Γ Γ' k f)
abbrev DT (X : Cx) (Z : Cz) (Γ : List Nat) (e : Expr) (Γ' : List Nat) (f : Env → R (Bool × Env)) : Prop := PT X e (tT X.K Z.T Z.W Γ Γ' f)
abbrev DA (X : Cx) (Z : Cz) (Γ : List Nat) (es : List Expr) (Γ' : List Nat) (f : Env → R (List D × Env)) : Prop := PA X es (tA X.K Z.T Z.W Γ Γ' f)

section
variable {X : Cx} {e : Expr} {es : List Expr} {t t' : TE} {u u' : TT} {r r' : TA}
theorem pe_imp (h : PE X e t) (i : ∀ σ H Q, t' σ H Q → t σ H Q) : PE X e t' := ⟨fun pins s σ H Q I q => h.run pins s σ H Q I (i σ H Q q)⟩
theorem pt_imp (h : PT X e u) (i : ∀ σ H Q, u' σ H Q → u σ H Q) : PT X e u' := ⟨fun pins s σ H Q I q => h.run pins s σ H Q I (i σ H Q q)⟩
theorem pw_imp (h : PW X e u) (i : ∀ σ H Q, u' σ H Q → u σ H Q) : PW X e u' := ⟨fun whole pins s σ H Q I q => h.run whole pins s σ H Q I (i σ H Q q)⟩
theorem pa_imp (h : PA X es r) (i : ∀ σ H Q, r' σ H Q → r σ H Q) : PA X es r' := ⟨fun pos pins s σ H Q I q => h.run pos pins s σ H Q I (i σ H Q q)⟩
end

section
variable {K : PySem.W.Frag} {T : Tab} {W : WX} {Γ Γ1 Γ2 : List Nat} {k : Nat} {σ : St} {H H1 : Hp} {S S1 : Addr → Prop} {fp fp1 : Nat → List Addr} {ρ ρ1 : Env} {Q : VK}
theorem Fra.ow {O : Addr → Prop} {H' : Hp} {S' : Addr → Prop} {fp' : Nat → List Addr} (f : Fra H S O H' S' (fun a => Ow fp' a ∨ a ∈ ([] : List Addr))) : Fra H S O H' S' (Ow fp') := f.less fun b z => .inl z
theorem Fra.ow' {O : Addr → Prop} {H' : Hp} {S' : Addr → Prop} {fp' : Nat → List Addr} (f : Fra H S O H' S' (Ow fp')) : Fra H S O H' S' (fun a => Ow fp' a ∨ a ∈ ([] : List Addr)) := f.less fun b z => z.elim id fun q => nomatch q
theorem OutX.before {c : Nat} {fs : List D} {O O1 : Addr → Prop} (f : Fra H S O H1 S1 O1) (h : OutX K T W σ H S O c fs) : OutX K T W σ H1 S1 O1 c fs :=
  fun dx xs vs H' S' e1 e2 r g al => h dx xs vs H' S' e1 e2 r (f.trans g) al
theorem OutE.before {r : R (D × Env)} {Γ' : List Nat} (f : Fra H S (Ow fp) H1 S1 (Ow fp1)) (h : OutE K T W Γ' k σ H S fp Q r) : OutE K T W Γ' k σ H1 S1 fp1 Q r := by
  cases r with
  | ok a => exact fun v H' S' fp' Fv s x g => h v H' S' fp' Fv s x (f.trans g)
  | er c fs => exact OutX.before f h
  | bad => exact h
theorem OutT.before {r : R (Bool × Env)} {Γ' : List Nat} {Q : Bool → Hp → Prop} (f : Fra H S (Ow fp) H1 S1 (Ow fp1)) (h : OutT K T W Γ' σ H S fp Q r) : OutT K T W Γ' σ H1 S1 fp1 Q r := by
  cases r with
  | ok a => exact fun H' S' fp' s g => h H' S' fp' s (f.trans g)
  | er c fs => exact OutX.before f h
  | bad => exact h
theorem OutA.before {r : R (List D × Env)} {Γ' : List Nat} {Q : List V → Hp → Prop} (f : Fra H S (Ow fp) H1 S1 (Ow fp1)) (h : OutA K T W Γ' σ H S fp Q r) : OutA K T W Γ' σ H1 S1 fp1 Q r := by
  cases r with
  | ok a => exact fun vs H' S' fp' s r g => h vs H' S' fp' s r (f.trans g)
  | er c fs => exact OutX.before f h
  | bad => exact h
/-- a value without owned objects -/
theorem Val.rep {d : D} {v : V} {F : List Addr} (x : Val K T S H fp 0 d v F) : F = [] ∧ Rep K T H S d v := own_zero.mp x.own
theorem Val.of {d : D} {v : V} (r : Rep K T H S d v) : Val K T S H fp 0 d v [] := ⟨own_zero.mpr ⟨rfl, r⟩, List.nodup_nil, fun a h => (nomatch h), fun a h => (nomatch h)⟩
/-- THE STEP: an expression's value goes on to what follows -/
theorem OutE.then0 {r : R (D × Env)} {Γ' : List Nat} {Q' : VK} {g : D × Env → R (D × Env)} (h : OutE K T W Γ2 k σ H S fp Q (r.bind g))
    (go : ∀ d ρ1 v H1 S1 fp1, r = .ok (d, ρ1) → Stt K T Γ' S1 σ H1 ρ1 fp1 → Rep K T H1 S1 d v → Fra H S (Ow fp) H1 S1 (Ow fp1) → OutE K T W Γ2 k σ H1 S1 fp1 Q (g (d, ρ1)) → Q' v H1) : OutE K T W Γ' 0 σ H S fp Q' r := by
  cases r with
  | ok a =>
    obtain ⟨d, ρ1⟩ := a
    intro v H' S' fp' Fv s x f
    obtain ⟨e, rr⟩ := x.rep
    subst e
    exact go d ρ1 v H' S' fp' rfl s rr f.ow (OutE.before f.ow h)
  | er c fs => exact h
  | bad => exact h
theorem OutE.thenA {r : R (D × Env)} {Γ' : List Nat} {Q' : VK} {Q2 : List V → Hp → Prop} {g : D × Env → R (List D × Env)} (h : OutA K T W Γ2 σ H S fp Q2 (r.bind g))
    (go : ∀ d ρ1 v H1 S1 fp1, r = .ok (d, ρ1) → Stt K T Γ' S1 σ H1 ρ1 fp1 → Rep K T H1 S1 d v → Fra H S (Ow fp) H1 S1 (Ow fp1) → OutA K T W Γ2 σ H1 S1 fp1 Q2 (g (d, ρ1)) → Q' v H1) : OutE K T W Γ' 0 σ H S fp Q' r := by
  cases r with
  | ok a =>
    obtain ⟨d, ρ1⟩ := a
    intro v H' S' fp' Fv s x f
    obtain ⟨e, rr⟩ := x.rep
    subst e
    exact go d ρ1 v H' S' fp' rfl s rr f.ow (OutA.before f.ow h)
  | er c fs => exact h
  | bad => exact h
theorem OutE.thenT {r : R (D × Env)} {Γ' : List Nat} {Q' : VK} {Q2 : Bool → Hp → Prop} {g : D × Env → R (Bool × Env)} (h : OutT K T W Γ2 σ H S fp Q2 (r.bind g))
    (go : ∀ d ρ1 v H1 S1 fp1, r = .ok (d, ρ1) → Stt K T Γ' S1 σ H1 ρ1 fp1 → Rep K T H1 S1 d v → Fra H S (Ow fp) H1 S1 (Ow fp1) → OutT K T W Γ2 σ H1 S1 fp1 Q2 (g (d, ρ1)) → Q' v H1) : OutE K T W Γ' 0 σ H S fp Q' r := by
  cases r with
  | ok a =>
    obtain ⟨d, ρ1⟩ := a
    intro v H' S' fp' Fv s x f
    obtain ⟨e, rr⟩ := x.rep
    subst e
    exact go d ρ1 v H' S' fp' rfl s rr f.ow (OutT.before f.ow h)
  | er c fs => exact h
  | bad => exact h
theorem OutT.thenE {r : R (Bool × Env)} {Γ' : List Nat} {Q' : Bool → Hp → Prop} {g : Bool × Env → R (D × Env)} (h : OutE K T W Γ2 k σ H S fp Q (r.bind g))
    (go : ∀ b ρ1 H1 S1 fp1, r = .ok (b, ρ1) → Stt K T Γ' S1 σ H1 ρ1 fp1 → Fra H S (Ow fp) H1 S1 (Ow fp1) → OutE K T W Γ2 k σ H1 S1 fp1 Q (g (b, ρ1)) → Q' b H1) : OutT K T W Γ' σ H S fp Q' r := by
  cases r with
  | ok a =>
    obtain ⟨d, ρ1⟩ := a
    intro H' S' fp' s f
    exact go d ρ1 H' S' fp' rfl s f (OutE.before f h)
  | er c fs => exact h
  | bad => exact h
theorem OutT.thenT {r : R (Bool × Env)} {Γ' : List Nat} {Q' Q2 : Bool → Hp → Prop} {g : Bool × Env → R (Bool × Env)} (h : OutT K T W Γ2 σ H S fp Q2 (r.bind g))
    (go : ∀ b ρ1 H1 S1 fp1, r = .ok (b, ρ1) → Stt K T Γ' S1 σ H1 ρ1 fp1 → Fra H S (Ow fp) H1 S1 (Ow fp1) → OutT K T W Γ2 σ H1 S1 fp1 Q2 (g (b, ρ1)) → Q' b H1) : OutT K T W Γ' σ H S fp Q' r := by
  cases r with
  | ok a =>
    obtain ⟨d, ρ1⟩ := a
    intro H' S' fp' s f
    exact go d ρ1 H' S' fp' rfl s f (OutT.before f h)
  | er c fs => exact h
  | bad => exact h
theorem OutA.thenE {r : R (List D × Env)} {Γ' : List Nat} {Q' : List V → Hp → Prop} {g : List D × Env → R (D × Env)} (h : OutE K T W Γ2 k σ H S fp Q (r.bind g))
    (go : ∀ ds ρ1 vs H1 S1 fp1, r = .ok (ds, ρ1) → Stt K T Γ' S1 σ H1 ρ1 fp1 → Reps K T H1 S1 ds vs → Fra H S (Ow fp) H1 S1 (Ow fp1) → OutE K T W Γ2 k σ H1 S1 fp1 Q (g (ds, ρ1)) → Q' vs H1) : OutA K T W Γ' σ H S fp Q' r := by
  cases r with
  | ok a =>
    obtain ⟨d, ρ1⟩ := a
    intro vs H' S' fp' s rr f
    exact go d ρ1 vs H' S' fp' rfl s rr f (OutE.before f h)
  | er c fs => exact h
  | bad => exact h
theorem OutA.thenA {r : R (List D × Env)} {Γ' : List Nat} {Q' Q2 : List V → Hp → Prop} {g : List D × Env → R (List D × Env)} (h : OutA K T W Γ2 σ H S fp Q2 (r.bind g))
    (go : ∀ ds ρ1 vs H1 S1 fp1, r = .ok (ds, ρ1) → Stt K T Γ' S1 σ H1 ρ1 fp1 → Reps K T H1 S1 ds vs → Fra H S (Ow fp) H1 S1 (Ow fp1) → OutA K T W Γ2 σ H1 S1 fp1 Q2 (g (ds, ρ1)) → Q' vs H1) : OutA K T W Γ' σ H S fp Q' r := by
  cases r with
  | ok a =>
    obtain ⟨d, ρ1⟩ := a
    intro vs H' S' fp' s rr f
    exact go d ρ1 vs H' S' fp' rfl s rr f (OutA.before f h)
  | er c fs => exact h
  | bad => exact h
theorem Stt.rep_fra {d : D} {v : V} {ρ : Env} {O' : Addr → Prop} (s : Stt K T Γ S σ H ρ fp) (r : Rep K T H S d v) (f : Fra H S (Ow fp) H1 S1 O') : Rep K T H1 S1 d v := (s.sep.stay f).rep r
theorem Stt.reps_fra {d : List D} {v : List V} {ρ : Env} {O' : Addr → Prop} (s : Stt K T Γ S σ H ρ fp) (r : Reps K T H S d v) (f : Fra H S (Ow fp) H1 S1 O') : Reps K T H1 S1 d v := (s.sep.stay f).reps r
end
end Z
set_option Elab.async false
set_option linter.all false
set_option maxRecDepth 100000
/-! Z2: expressions: names, constants, operators on plain data, displays -/
namespace Z
open PySem PySem.Spec L2
open PyProof.Rows hiding St

/-! ### the mirror's words -/
def mVar (i : Nat) : Env → R (D × Env) := fun ρ => match ρ[i]? with
  | some (some d) => .ok (d, ρ)
  | _ => .bad
def mMov (i : Nat) : Env → R (D × Env) := fun ρ => match ρ[i]? with
  | some (some d) => .ok (d, ρ.set i none)
  | _ => .bad
def mCon (d : D) : Env → R (D × Env) := fun ρ => .ok (d, ρ)
def ofO {α : Type} : Option α → R α
  | some a => .ok a
  | none => .bad
def mUn (g : D → Option D) (fa : Env → R (D × Env)) : Env → R (D × Env) := fun ρ => (fa ρ).bind fun (x, ρ1) => (ofO (g x)).bind fun d => .ok (d, ρ1)
def mBin (g : D → D → Option D) (fa fb : Env → R (D × Env)) : Env → R (D × Env) := fun ρ => (fa ρ).bind fun (x, ρ1) => (fb ρ1).bind fun (y, ρ2) => (ofO (g x y)).bind fun d => .ok (d, ρ2)
def mNil : Env → R (List D × Env) := fun ρ => .ok ([], ρ)
def mCons (fa : Env → R (D × Env)) (fr : Env → R (List D × Env)) : Env → R (List D × Env) := fun ρ => (fa ρ).bind fun (x, ρ1) => (fr ρ1).bind fun (xs, ρ2) => .ok (x :: xs, ρ2)
def mPrim (g : List D → Option D) (f : Env → R (List D × Env)) : Env → R (D × Env) := fun ρ => (f ρ).bind fun (xs, ρ1) => (ofO (g xs)).bind fun d => .ok (d, ρ1)

def fpSet (fp : Nat → List Addr) (i : Nat) (F : List Addr) : Nat → List Addr := fun j => if j = i then F else fp j
theorem fpSet_same {fp : Nat → List Addr} {i : Nat} {F : List Addr} : fpSet fp i F i = F := if_pos rfl
theorem fpSet_ne {fp : Nat → List Addr} {i j : Nat} {F : List Addr} (h : j ≠ i) : fpSet fp i F j = fp j := if_neg h

section
variable {K : PySem.W.Frag} {T : Tab} {W : WX} {Γ Γ' : List Nat} {k : Nat} {σ : St} {H : Hp} {S : Addr → Prop} {fp : Nat → List Addr} {ρ : Env} {Q : VK}
theorem mem_fpSet {i : Nat} {F : List Addr} {j : Nat} {a : Addr} (h : a ∈ fpSet fp i F j) : (j = i ∧ a ∈ F) ∨ (j ≠ i ∧ a ∈ fp j) := by
  by_cases e : j = i
  · subst e; rw [fpSet_same] at h; exact .inl ⟨rfl, h⟩
  · rw [fpSet_ne e] at h; exact .inr ⟨e, h⟩
theorem Sep.set {i : Nat} {F : List Addr} (s : Sep S H fp) (mu : ∀ a ∈ F, Mut (H a)) (nd : F.Nodup) (ns : ∀ a ∈ F, ¬ S a) (dj : ∀ a ∈ F, ∀ j, j ≠ i → a ∉ fp j) : Sep S H (fpSet fp i F) where
  mu := fun j a h => by
    rcases mem_fpSet h with ⟨_, h⟩ | ⟨_, h⟩
    · exact mu a h
    · exact s.mu j a h
  nd := fun j => by
    by_cases e : j = i
    · subst e; rw [fpSet_same]; exact nd
    · rw [fpSet_ne e]; exact s.nd j
  dj := fun j l a h h' => by
    rcases mem_fpSet h with ⟨e, h⟩ | ⟨e, h⟩ <;> rcases mem_fpSet h' with ⟨e', h'⟩ | ⟨e', h'⟩
    · rw [e, e']
    · exact absurd h' (dj a h l e')
    · exact absurd h (dj a h' j e)
    · exact s.dj j l a h h'
  ns := fun j a h => by
    rcases mem_fpSet h with ⟨_, h⟩ | ⟨_, h⟩
    · exact ns a h
    · exact s.ns j a h
  al := s.al
/-- what i owned is given to the shared -/
theorem Sep.give (s : Sep S H fp) (i : Nat) : Sep (fun a => S a ∨ a ∈ fp i) H (fpSet fp i []) where
  mu := fun j a h => by
    rcases mem_fpSet h with ⟨_, h⟩ | ⟨_, h⟩
    · cases h
    · exact s.mu j a h
  nd := fun j => by
    by_cases e : j = i
    · subst e; rw [fpSet_same]; exact List.nodup_nil
    · rw [fpSet_ne e]; exact s.nd j
  dj := fun j l a h h' => by
    rcases mem_fpSet h with ⟨e, h⟩ | ⟨e, h⟩ <;> rcases mem_fpSet h' with ⟨e', h'⟩ | ⟨e', h'⟩
    · cases h
    · cases h
    · cases h'
    · exact s.dj j l a h h'
  ns := fun j a h => by
    rcases mem_fpSet h with ⟨_, h⟩ | ⟨e, h⟩
    · cases h
    · intro z
      rcases z with z | z
      · exact s.ns j a h z
      · exact e (s.dj j i a h z)
  al := fun a h => by
    rcases h with h | h
    · exact s.al a h
    · have m := s.mu i a h
      cases q : H a with
      | none => rw [q] at m; exact m.elim
      | some o => exact ⟨o, rfl⟩
theorem Fra.give (s : Sep S H fp) (i : Nat) : Fra H S (Ow fp) H (fun a => S a ∨ a ∈ fp i) (Ow (fpSet fp i [])) where
  kp := fun b o h _ => h
  sm := fun b h => .inl h
  so := fun b h => h.elim .inl fun z => .inr (.inl ⟨i, z⟩)
  oo := fun b ⟨j, h⟩ => by
    rcases mem_fpSet h with ⟨_, h⟩ | ⟨_, h⟩
    · cases h
    · exact .inl ⟨j, h⟩
theorem Stt.give (s : Stt K T Γ S σ H ρ fp) (i : Nat) : Stt K T (Γ.set i 0) (fun a => S a ∨ a ∈ fp i) σ H ρ (fpSet fp i []) := by
  refine ⟨s.sep.give i, s.len, by simp [s.gl], fun j d h => ?_⟩
  obtain ⟨v, hv, o⟩ := s.sl j d h
  refine ⟨v, hv, ?_⟩
  by_cases e : j = i
  · subst e
    rw [fpSet_same]
    have z : (Γ.set j 0).getD j 0 = 0 := by
      by_cases hh : j < Γ.length
      · simp [List.getD_eq_getElem?_getD, List.getElem?_set, hh]
      · rw [List.getD_eq_getElem?_getD, List.getElem?_eq_none (by simpa using hh)]; rfl
    rw [z]
    exact own_zero.mpr ⟨rfl, o.freeze⟩
  · rw [fpSet_ne e]
    have z : (Γ.set i 0).getD j 0 = Γ.getD j 0 := by
      simp only [List.getD_eq_getElem?_getD]
      rw [List.getElem?_set_ne (Ne.symm e)]
    rw [z]
    exact o.stay (Stay.more fun a h => .inl h) fun a _ o h => h
theorem getD_set_same {Γ : List Nat} {i k : Nat} (h : i < Γ.length) : (Γ.set i k).getD i 0 = k := by
  simp [List.getD_eq_getElem?_getD, List.getElem?_set, h]
theorem getD_set_ne {Γ : List Nat} {i j k : Nat} (e : j ≠ i) : (Γ.set i k).getD j 0 = Γ.getD j 0 := by
  simp only [List.getD_eq_getElem?_getD]
  rw [List.getElem?_set_ne (Ne.symm e)]
/-- a name takes a value -/
theorem Stt.put {i : Nat} {d : D} {v : V} {Fv : List Addr} (s : Stt K T Γ S σ H ρ fp) (hi : i < Γ.length) (x : Val K T S H fp k d v Fv) : Stt K T (Γ.set i k) S (σ.set i (some v)) H (ρ.set i (some d)) (fpSet fp i Fv) := by
  have hl : i < σ.length := by rw [← s.gl]; exact hi
  refine ⟨s.sep.set x.own.mut x.nd x.ns fun a h j _ => x.dj a h j, by simp [s.len], by simp [s.gl], fun j e h => ?_⟩
  by_cases q : j = i
  · subst q
    rw [List.getElem?_set_self (by rw [s.len]; exact hl)] at h
    cases h
    exact ⟨v, by rw [List.getElem?_set_self hl], by rw [getD_set_same hi, fpSet_same]; exact x.own⟩
  · rw [List.getElem?_set_ne (Ne.symm q)] at h
    obtain ⟨u, hu, o⟩ := s.sl j e h
    exact ⟨u, by rw [List.getElem?_set_ne (Ne.symm q)]; exact hu, by rw [getD_set_ne q, fpSet_ne q]; exact o⟩
theorem Fra.put {i : Nat} {Fv : List Addr} : Fra H S (fun a => Ow fp a ∨ a ∈ Fv) H S (Ow (fpSet fp i Fv)) :=
  ⟨fun _ _ h _ => h, fun _ h => h, fun _ h => .inl h, fun b ⟨j, h⟩ => by
    rcases mem_fpSet h with ⟨_, h⟩ | ⟨_, h⟩
    · exact .inl (.inr h)
    · exact .inl (.inl ⟨j, h⟩)⟩
/-- a name's value is forgotten; what it owned is let go -/
theorem Stt.drop (s : Stt K T Γ S σ H ρ fp) (i : Nat) : Stt K T Γ S σ H (ρ.set i none) (fpSet fp i []) := by
  refine ⟨s.sep.set (fun a h => (nomatch h)) List.nodup_nil (fun a h => (nomatch h)) (fun a h => (nomatch h)), by simp [s.len], s.gl, fun j e h => ?_⟩
  by_cases q : j = i
  · subst q
    by_cases hl : j < ρ.length
    · rw [List.getElem?_set_self hl] at h; cases h
    · rw [List.getElem?_eq_none (by simpa using hl)] at h; cases h
  · rw [List.getElem?_set_ne (Ne.symm q)] at h
    obtain ⟨u, hu, o⟩ := s.sl j e h
    exact ⟨u, hu, by rw [fpSet_ne q]; exact o⟩
theorem Fra.drop (i : Nat) : Fra H S (Ow fp) H S (Ow (fpSet fp i [])) :=
  ⟨fun _ _ h _ => h, fun _ h => h, fun _ h => .inl h, fun b ⟨j, h⟩ => by
    rcases mem_fpSet h with ⟨_, h⟩ | ⟨_, h⟩
    · cases h
    · exact .inl ⟨j, h⟩⟩
end

/-! ### names, constants -/
section
variable {X : Cx} {C : Cz} {Γ Γ' Γ1 Γ2 : List Nat} {k i : Nat} {x : Str} {pos : Pos} {a b e : Expr} {es : List Expr} {fa fb : Env → R (D × Env)} {fs : Env → R (List D × Env)}
theorem mVar_ok {ρ : Env} {d : D} {ρ' : Env} (h : mVar i ρ = .ok (d, ρ')) : ρ[i]? = some (some d) ∧ ρ' = ρ := by
  unfold mVar at h
  split at h
  · rename_i q; cases h; exact ⟨q, rfl⟩
  · cases h
/-- a name that owns nothing -/
theorem de_var (hv : PE X (.Name x pos) (tVar i)) (hk : Γ.getD i 0 = 0 := by rfl) : DE X C Γ (.Name x pos) Γ 0 (mVar i) := by
  refine pe_imp hv fun σ H Q h => ?_
  obtain ⟨S, ρ, fp, s, h⟩ := h
  unfold mVar at h
  split at h
  · rename_i d q
    obtain ⟨v, hv, o⟩ := s.sl i d q
    rw [hk] at o
    obtain ⟨e, r⟩ := own_zero.mp o
    exact ⟨v, hv, h v H S fp [] s (.of r) Fra.refl.ow'⟩
  · exact h.elim
/-- a name whose objects become shared -/
theorem de_frz (hv : PE X (.Name x pos) (tVar i)) (hΓ : Γ.set i 0 = Γ' := by rfl) : DE X C Γ (.Name x pos) Γ' 0 (mVar i) := by
  subst hΓ
  refine pe_imp hv fun σ H Q h => ?_
  obtain ⟨S, ρ, fp, s, h⟩ := h
  unfold mVar at h
  split at h
  · rename_i d q
    obtain ⟨v, hv, o⟩ := s.sl i d q
    exact ⟨v, hv, h v H _ _ [] (s.give i) (.of o.freeze) (Fra.give s.sep i).ow'⟩
  · exact h.elim
/-- a name's last use: its objects go with the value -/
theorem de_mov (hv : PE X (.Name x pos) (tVar i)) (hk : Γ.getD i 0 = k := by rfl) : DE X C Γ (.Name x pos) Γ k (mMov i) := by
  refine pe_imp hv fun σ H Q h => ?_
  obtain ⟨S, ρ, fp, s, h⟩ := h
  unfold mMov at h
  split at h
  · rename_i d q
    obtain ⟨v, hv, o⟩ := s.sl i d q
    rw [hk] at o
    refine ⟨v, hv, h v H S (fpSet fp i []) (fp i) (s.drop i) ⟨o, s.sep.nd i, fun a h => s.sep.ns i a h, fun a h j z => ?_⟩ ⟨fun _ _ h _ => h, fun _ h => h, fun _ h => .inl h, fun b z => ?_⟩⟩
    · rcases mem_fpSet z with ⟨_, z⟩ | ⟨e, z⟩
      · cases z
      · exact e (s.sep.dj j i a z h)
    · rcases z with ⟨j, z⟩ | z
      · rcases mem_fpSet z with ⟨_, z⟩ | ⟨_, z⟩
        · cases z
        · exact .inl ⟨j, z⟩
      · exact .inl ⟨i, z⟩
  · exact h.elim
theorem de_con {v : V} {d : D} (h : PE X e (tC v)) (r : ∀ S H, Rep X.K C.T H S d v) : DE X C Γ e Γ 0 (mCon d) := by
  refine pe_imp h fun σ H Q h => ?_
  obtain ⟨S, ρ, fp, s, h⟩ := h
  exact h v H S fp [] s (.of (r S H)) Fra.refl.ow'
theorem de_int {j : Int} {n : Nat} : DE X C Γ (.Constant (.int j) n pos) Γ 0 (mCon (.int j)) := de_con pe_int fun S H => by simp [Rep]
theorem de_str {j : Str} {n : Nat} : DE X C Γ (.Constant (.str j) n pos) Γ 0 (mCon (.str j)) := de_con pe_str fun S H => by simp [Rep]
theorem de_bl {j : Bool} {n : Nat} : DE X C Γ (.Constant (.bool j) n pos) Γ 0 (mCon (.bl j)) := de_con pe_bl fun S H => by simp [Rep]
theorem de_non {n : Nat} : DE X C Γ (.Constant .none n pos) Γ 0 (mCon .non) := de_con pe_non fun S H => by simp [Rep]
/-- a module's constant -/
theorem de_glob {v : V} {u : Value} {d : D} (hg : Gl X x) (hm : X.mg x = some u) (r : RelV v u) (rd : ∀ S H, Rep X.K C.T H S d v) (hd : (x == ("__debug__" : Str)) = false := by decide) : DE X C Γ (.Name x pos) Γ 0 (mCon d) := de_con (pe_glob hg hm r hd) rd
end

/-! ### what an operation on plain data gives -/
/-- rd: what is asked of the operation; d: what it gives: a value that stands, or a new list or tuple -/
def Gives (K : PySem.W.Frag) (T : Tab) (S : Addr → Prop) (H : Hp) (k : Nat) (d : D) (rd : VK → Prop) : Prop :=
  (∃ v, Rep K T H S d v ∧ k = 0 ∧ ∀ Q, Q v H → rd Q) ∨
  (∃ xs vs, d = .lst xs ∧ k ≤ 1 ∧ Reps K T H S xs vs ∧ ∀ Q : VK, (∀ p, H p = none → Q (.ref p) (upd H p (.lst vs))) → rd Q) ∨
  (∃ xs vs, d = .tup xs ∧ k ≤ 1 ∧ Reps K T H S xs vs ∧ ∀ Q : VK, (∀ p, H p = none → Q (.ref p) (upd H p (.tup vs))) → rd Q)
section
variable {K : PySem.W.Frag} {T : Tab} {W : WX} {Γ Γ' : List Nat} {k : Nat} {σ : St} {H : Hp} {S : Addr → Prop} {fp : Nat → List Addr} {ρ : Env} {Q : VK} {rd : VK → Prop} {d : D}
theorem Sep.fresh (s : Sep S H fp) {p : Addr} (hp : H p = none) : ¬ S p ∧ ∀ i, p ∉ fp i := by
  refine ⟨fun z => ?_, fun i z => ?_⟩
  · obtain ⟨o, e⟩ := s.al p z; rw [hp] at e; cases e
  · have m := s.mu i p z; rw [hp] at m; exact m
theorem kept_upd {p : Addr} {u : HO} (hp : H p = none) : ∀ b o, H b = some o → upd H p u b = some o := fun b o h => by rw [upd_ne (ne_of_none h hp)]; exact h
theorem Sep.grow (s : Sep S H fp) {H' : Hp} (k : ∀ b o, H b = some o → H' b = some o) : Sep S H' fp :=
  ⟨fun i a h => by
    have m := s.mu i a h
    cases q : H a with
    | none => rw [q] at m; exact m.elim
    | some o => rw [k a o q]; rw [q] at m; exact m, s.nd, s.dj, s.ns, fun a h => let ⟨o, e⟩ := s.al a h; ⟨o, k a o e⟩⟩
theorem Stay.grow {H' : Hp} (kk : ∀ b o, H b = some o → H' b = some o) : Stay K H S H' S :=
  ⟨fun a vs h s => ⟨kk _ _ h, s⟩, fun a vs h => by
    rcases h with ⟨o, h⟩ | h
    · exact .inl ⟨o, kk _ _ h⟩
    · exact .inr h, fun a vs h => by
    rcases h with (h | ⟨o, h⟩) | h
    · exact .inl (.inl (kk _ _ h))
    · exact .inl (.inr ⟨o, kk _ _ h⟩)
    · exact .inr h, fun a C dx fs h s => ⟨kk _ _ h, s⟩, fun _ _ h => kk _ _ h⟩
theorem Stt.grow (s : Stt K T Γ S σ H ρ fp) {H' : Hp} (kk : ∀ b o, H b = some o → H' b = some o) : Stt K T Γ S σ H' ρ fp :=
  ⟨s.sep.grow kk, s.len, s.gl, fun i d h => let ⟨v, hv, o⟩ := s.sl i d h; ⟨v, hv, o.stay (Stay.grow kk) fun a _ o h => kk a o h⟩⟩
/-- a new place becomes shared -/
theorem Stt.share (s : Stt K T Γ S σ H ρ fp) {p : Addr} {u : HO} (hp : H p = none) : Stt K T Γ (fun a => S a ∨ a = p) σ (upd H p u) ρ fp := by
  have f := s.sep.fresh hp
  have g := s.grow (kept_upd (u := u) hp)
  refine ⟨⟨g.sep.mu, g.sep.nd, g.sep.dj, fun i a h z => ?_, fun a z => ?_⟩, g.len, g.gl, fun i d h => ?_⟩
  · rcases z with z | z
    · exact g.sep.ns i a h z
    · subst z; exact f.2 i h
  · rcases z with z | z
    · exact g.sep.al a z
    · subst z; exact ⟨u, upd_same⟩
  · obtain ⟨v, hv, o⟩ := g.sl i d h
    exact ⟨v, hv, o.stay (Stay.more fun a h => .inl h) fun a _ o h => h⟩
theorem gives_out (s : Stt K T Γ S σ H ρ fp) (g : Gives K T S H k d rd) (h : OutE K T W Γ k σ H S fp Q (.ok (d, ρ))) : rd Q := by
  rcases g with ⟨v, r, e, q⟩ | ⟨xs, vs, e, hk, r, q⟩ | ⟨xs, vs, e, hk, r, q⟩
  · subst e
    exact q Q (h v H S fp [] s (.of r) Fra.refl.ow')
  · subst e
    refine q Q fun p hp => ?_
    have f := s.sep.fresh hp
    have kk := kept_upd (u := .lst vs) hp
    match k, hk with
    | 0, _ =>
      refine h _ _ (fun a => S a ∨ a = p) fp [] (s.share hp) (.of ?_) ⟨fun b o h _ => kk b o h, fun b z => .inl z, fun b z => z.elim .inl fun e => by subst e; exact .inr (.inr hp), fun b z => z.elim .inl fun z => nomatch z⟩
      simp only [Rep]
      exact ⟨p, vs, rfl, upd_same, .inr rfl, (Stay.more fun a h => .inl h).reps ((Stay.grow kk).reps r)⟩
    | 1, _ =>
      refine h _ _ S fp [p] (s.grow kk) ⟨own_lst1.mpr ⟨p, vs, rfl, upd_same, rfl, (Stay.grow kk).reps r⟩, by simp, fun a m => ?_, fun a m i => ?_⟩ ⟨fun b o h _ => kk b o h, fun b z => z, fun b z => .inl z, fun b z => ?_⟩
      · rw [List.mem_singleton] at m; subst m; exact f.1
      · rw [List.mem_singleton] at m; subst m; exact f.2 i
      · rcases z with z | z
        · exact .inl z
        · rw [List.mem_singleton] at z; subst z; exact .inr hp
  · subst e
    refine q Q fun p hp => ?_
    have kk := kept_upd (u := .tup vs) hp
    have rr : Rep K T (upd H p (.tup vs)) S (.tup xs) (.ref p) := by
      simp only [Rep]
      exact ⟨p, vs, rfl, .inl (.inl upd_same), (Stay.grow kk).reps r⟩
    have fr : Fra H S (Ow fp) (upd H p (.tup vs)) S (fun a => Ow fp a ∨ a ∈ ([] : List Addr)) := ⟨fun b o h _ => kk b o h, fun b z => z, fun b z => .inl z, fun b z => z.elim .inl fun z => nomatch z⟩
    match k, hk with
    | 0, _ => exact h _ _ S fp [] (s.grow kk) (.of rr) fr
    | 1, _ => exact h _ _ S fp [] (s.grow kk) ⟨by simp only [Own]; exact ⟨trivial, rr⟩, List.nodup_nil, fun a h => (nomatch h), fun a h => (nomatch h)⟩ fr
end

def PrimR (K : PySem.W.Frag) (T : Tab) (k : Nat) (r : List V → Hp → VK → Prop) (g : List D → Option D) : Prop :=
  ∀ S H ds vs d, Reps K T H S ds vs → g ds = some d → Gives K T S H k d (r vs H)
def Prim2 (K : PySem.W.Frag) (T : Tab) (k : Nat) (r : R2) (g : D → D → Option D) : Prop :=
  ∀ S H x y v w d, Rep K T H S x v → Rep K T H S y w → g x y = some d → Gives K T S H k d (r v w H)
def Prim1 (K : PySem.W.Frag) (T : Tab) (k : Nat) (r : V → Hp → VK → Prop) (g : D → Option D) : Prop :=
  ∀ S H x v d, Rep K T H S x v → g x = some d → Gives K T S H k d (r v H)

section
variable {X : Cx} {C : Cz} {Γ Γ' Γ1 Γ2 : List Nat} {k i : Nat} {x : Str} {pos p : Pos} {a b e : Expr} {es : List Expr} {fa fb : Env → R (D × Env)} {fs : Env → R (List D × Env)}
theorem bin_data {r : R2} {g : D → D → Option D} {σ : St} {H : Hp} {Q : VK} (hr : Prim2 X.K C.T k r g) (h : tE X.K C.T C.W Γ Γ2 k (mBin g fa fb) σ H Q) :
    tE X.K C.T C.W Γ Γ1 0 fa σ H (fun x H1 => tE X.K C.T C.W Γ1 Γ2 0 fb σ H1 (fun y H2 => r x y H2 Q)) := by
  obtain ⟨S, ρ, fp, s, h⟩ := h
  refine ⟨S, ρ, fp, s, OutE.then0 h fun d1 ρ1 v1 H1 S1 fp1 e1 s1 r1 f1 h1 => ?_⟩
  refine ⟨S1, ρ1, fp1, s1, OutE.then0 h1 fun d2 ρ2 v2 H2 S2 fp2 e2 s2 r2 f2 h2 => ?_⟩
  dsimp only at h2
  cases q : g d1 d2 with
  | none => rw [q] at h2; exact h2.elim
  | some d =>
    rw [q] at h2
    exact gives_out s2 (hr S2 H2 d1 d2 v1 v2 d (s1.rep_fra r1 f2) r2 q) h2
theorem de_op {op : Operator} {r : R2} {g : D → D → Option D} (ho : OpR X (binaryOp op) r) (hr : Prim2 X.K C.T k r g) (ha : DE X C Γ a Γ1 0 fa) (hb : DE X C Γ1 b Γ2 0 fb) : DE X C Γ (.BinOp a op b pos) Γ2 k (mBin g fa fb) :=
  pe_imp (pe_op ho ha hb) fun σ H Q h => bin_data hr h
theorem de_cmp {op : CmpOp} {r : R2} {g : D → D → Option D} (ho : OpR X (compareOp op) r) (hr : Prim2 X.K C.T k r g) (ha : DE X C Γ a Γ1 0 fa) (hb : DE X C Γ1 b Γ2 0 fb) (hn : behindInMarks op b = false) :
    DE X C Γ (.Compare a [op] [b] pos) Γ2 k (mBin g fa fb) :=
  pe_imp (pe_cmpR ho ha hb hn) fun σ H Q h => bin_data hr h
theorem de_ix {r : R2} {g : D → D → Option D} (ho : IxR X r) (hr : Prim2 X.K C.T k r g) (ha : DE X C Γ a Γ1 0 fa) (hb : DE X C Γ1 b Γ2 0 fb) (hs : PlainIx b := by exact fun _ _ => rfl) : DE X C Γ (.Subscript a b pos) Γ2 k (mBin g fa fb) :=
  pe_imp (pe_ix ho ha hb hs) fun σ H Q h => bin_data hr h
theorem un_data {r : V → Hp → VK → Prop} {g : D → Option D} {σ : St} {H : Hp} {Q : VK} (hr : Prim1 X.K C.T k r g) (h : tE X.K C.T C.W Γ Γ1 k (mUn g fa) σ H Q) : tE X.K C.T C.W Γ Γ1 0 fa σ H (fun x H1 => r x H1 Q) := by
  obtain ⟨S, ρ, fp, s, h⟩ := h
  refine ⟨S, ρ, fp, s, OutE.then0 h fun d1 ρ1 v1 H1 S1 fp1 e1 s1 r1 f1 h1 => ?_⟩
  dsimp only at h1
  cases q : g d1 with
  | none => rw [q] at h1; exact h1.elim
  | some d =>
    rw [q] at h1
    exact gives_out s1 (hr S1 H1 d1 v1 d r1 q) h1
theorem de_un {op : UnaryOp} {r : V → Hp → VK → Prop} {g : D → Option D} (ho : UnR X (unaryOp op) r) (hr : Prim1 X.K C.T k r g) (ha : DE X C Γ a Γ1 0 fa) : DE X C Γ (.UnaryOp op a pos) Γ1 k (mUn g fa) :=
  pe_imp (pe_un ho ha) fun σ H Q h => un_data hr h
/-! arguments -/
theorem da_nil : DA X C Γ [] Γ mNil := pa_imp pa_nil fun σ H Q h => by
  obtain ⟨S, ρ, fp, s, h⟩ := h
  exact h [] H S fp s (by simp [Reps]) Fra.refl
theorem da_cons (ha : DE X C Γ a Γ1 0 fa) (hr : DA X C Γ1 es Γ2 fs) (hs : starEach (a :: es) X.env = (false, eval a X.env) :: starEach es X.env := by rfl) : DA X C Γ (a :: es) Γ2 (mCons fa fs) := by
  refine pa_imp (pa_cons ha hr hs) fun σ H Q h => ?_
  obtain ⟨S, ρ, fp, s, h⟩ := h
  refine ⟨S, ρ, fp, s, OutE.thenA h fun d1 ρ1 v1 H1 S1 fp1 e1 s1 r1 f1 h1 => ?_⟩
  refine ⟨S1, ρ1, fp1, s1, OutA.thenA h1 fun ds ρ2 vs H2 S2 fp2 e2 s2 r2 f2 h2 => ?_⟩
  refine h2 (v1 :: vs) H2 S2 fp2 s2 ?_ Fra.refl
  simp only [Reps]
  exact ⟨v1, vs, rfl, s1.rep_fra r1 f2, r2⟩
theorem args_data {r : List V → Hp → VK → Prop} {g : List D → Option D} {σ : St} {H : Hp} {Q : VK} (hr : PrimR X.K C.T k r g) (h : tE X.K C.T C.W Γ Γ1 k (mPrim g fs) σ H Q) : tA X.K C.T C.W Γ Γ1 fs σ H (fun vs H1 => r vs H1 Q) := by
  obtain ⟨S, ρ, fp, s, h⟩ := h
  refine ⟨S, ρ, fp, s, OutA.thenE h fun ds ρ1 vs H1 S1 fp1 e1 s1 r1 f1 h1 => ?_⟩
  dsimp only at h1
  cases q : g ds with
  | none => rw [q] at h1; exact h1.elim
  | some d =>
    rw [q] at h1
    exact gives_out s1 (hr S1 H1 ds vs d r1 q) h1
/-- a built-in function by its name -/
theorem de_callB {id : String} {r : List V → Hp → VK → Prop} {g : List D → Option D} (hc : CallR X (.builtin id) r) (hr : PrimR X.K C.T k r g) (hg : Gl X x) (hm : X.mg x = none) (hv : bootBuiltins x = some (.builtin id)) (ha : DA X C Γ (e :: es) Γ1 fs) (hn : x ≠ "__name__" := by decide) (hdb : (x == ("__debug__" : Str)) = false := by decide)
    (he : starEach (e :: es) X.env = (false, eval e X.env) :: starEach es X.env := by rfl) (hpl : (backTo pos (starEach es X.env)).any (·.1) = false := by rfl) : DE X C Γ (.Call (.Name x p) (e :: es) [] pos) Γ1 k (mPrim g fs) :=
  pe_imp (pe_callB hc hg hm hv ha hn hdb he hpl) fun σ H Q h => args_data hr h
/-- a built-in function under a module's name (from math import gcd) -/
theorem de_callM {id : String} {r : List V → Hp → VK → Prop} {g : List D → Option D} (hc : CallR X (.builtin id) r) (hr : PrimR X.K C.T k r g) (hg : Gl X x) (hm : X.mg x = some (.builtin id)) (ha : DA X C Γ (e :: es) Γ1 fs) (hdb : (x == ("__debug__" : Str)) = false := by decide)
    (he : starEach (e :: es) X.env = (false, eval e X.env) :: starEach es X.env := by rfl) (hpl : (backTo pos (starEach es X.env)).any (·.1) = false := by rfl) : DE X C Γ (.Call (.Name x p) (e :: es) [] pos) Γ1 k (mPrim g fs) := by
  refine pe_imp (t := tCB r (tA X.K C.T C.W Γ Γ1 fs)) ⟨fun pins s σ H Q I h => ?_⟩ fun σ H Q h => args_data hr h
  refine wpAny_Call_Name_kw (ld_glob I hg hm ?_ hdb)
  exact PyProof.Rows.callWith_builtin1 (thn (ha.run pos pins s σ H _ I h) fun us s1 ⟨vs, H1, I1, r1, q1⟩ => hc pins s1 σ H1 vs us Q I1 r1 q1) he hpl
theorem de_callTy {t : String} {r : List V → Hp → VK → Prop} {g : List D → Option D} (hc : CallR X (.type t) r) (hr : PrimR X.K C.T k r g) (hg : Gl X x) (hm : X.mg x = none) (hv : bootBuiltins x = some (.type t)) (ha : DA X C Γ (e :: es) Γ1 fs) (hn : x ≠ "__name__" := by decide) (hdb : (x == ("__debug__" : Str)) = false := by decide)
    (he : starEach (e :: es) X.env = (false, eval e X.env) :: starEach es X.env := by rfl) (hpl : (backTo pos (starEach es X.env)).any (·.1) = false := by rfl) : DE X C Γ (.Call (.Name x p) (e :: es) [] pos) Γ1 k (mPrim g fs) :=
  pe_imp (pe_callTy hc hg hm hv ha hn hdb he hpl) fun σ H Q h => args_data hr h
/-! displays -/
def gTup (xs : List D) : Option D := if xs.length ≤ 1000 then some (.tup xs) else none
def gLst (xs : List D) : Option D := if xs.length ≤ 1000 then some (.lst xs) else none
theorem line_of {n : Nat} (h : n ≤ 1000) : n ≤ sizeLine := by rw [sizeLine_eq]; omega
theorem de_tup {n : Nat} (h : DA X C Γ es Γ1 fs) (hk : k ≤ 1 := by decide) : DE X C Γ (.Tuple es n pos) Γ1 k (mPrim gTup fs) := by
  refine pe_imp (pe_tup h) fun σ H Q h => args_data (r := fun vs H1 Q => vs.length ≤ sizeLine ∧ ∀ p, H1 p = none → Q (.ref p) (upd H1 p (.tup vs))) (fun S H ds vs d r e => ?_) h
  unfold gTup at e
  split at e
  · rename_i hl
    cases e
    exact .inr (.inr ⟨ds, vs, rfl, hk, r, fun Q q => ⟨line_of (by rw [← r.length]; exact hl), q⟩⟩)
  · cases e
theorem de_lst (h : DA X C Γ es Γ1 fs) (hk : k ≤ 1 := by decide) : DE X C Γ (.List es pos) Γ1 k (mPrim gLst fs) := by
  refine pe_imp (pe_lst h) fun σ H Q h => args_data (r := fun vs H1 Q => vs.length ≤ sizeLine ∧ ∀ p, H1 p = none → Q (.ref p) (upd H1 p (.lst vs))) (fun S H ds vs d r e => ?_) h
  unfold gLst at e
  split at e
  · rename_i hl
    cases e
    exact .inr (.inl ⟨ds, vs, rfl, hk, r, fun Q q => ⟨line_of (by rw [← r.length]; exact hl), q⟩⟩)
  · cases e
end
end Z
set_option Elab.async false
set_option linter.all false
set_option maxRecDepth 100000
/-! Z3: contracts and calls of defs, fields, tests -/
namespace Z
open PySem PySem.Spec L2
open PyProof.Rows hiding St

/-! ### contracts -/
def OutC (K : PySem.W.Frag) (T : Tab) (E : XK) (H : Hp) (S O : Addr → Prop) (c : Nat) (fs : List D) : Prop :=
  ∀ (dx : Addr) (xs : List (Str × V)) (vs : List V) (H' : Hp) (S' : Addr → Prop), H' dx = some (.xd xs) → (∀ (j : Nat) (f : Str), (T.fl c)[j]? = some f → xs.lookup f = vs[j]?) → Reps K T H' S' fs vs →
    Fra H S O H' S' (fun _ => False) → (∀ a, S' a → ∃ o, H' a = some o) → E (.ref (T.cm c)) (some dx) H'
/-- a def whose arguments are not changed: m what it computes, kr how far its value is new -/
def OutF (K : PySem.W.Frag) (T : Tab) (kr : Nat) (H : Hp) (S : Addr → Prop) (Q : VK) (E : XK) : R D → Prop
  | .ok d => ∀ v H' S' Fv, Own K T H' S' kr d v Fv → Fv.Nodup → (∀ a ∈ Fv, ¬ S' a) → (∀ a, S' a → ∃ o, H' a = some o) → Fra H S (fun _ => False) H' S' (fun a => a ∈ Fv) → Q v H'
  | .er c fs => OutC K T E H S (fun _ => False) c fs
  | .bad => False
def spF (K : PySem.W.Frag) (T : Tab) (kr : Nat) (m : List D → R D) : Sp := fun vs H Q E => ∃ S ds, Reps K T H S ds vs ∧ (∀ a, S a → ∃ o, H a = some o) ∧ OutF K T kr H S Q E (m ds)
/-- a def that may change its first argument (k1 levels of it) -/
def OutB (K : PySem.W.Frag) (T : Tab) (k1 kr : Nat) (v0 : V) (F0 : List Addr) (H : Hp) (S : Addr → Prop) (Q : VK) (E : XK) : R (D × D) → Prop
  | .ok (d, d0) => ∀ v H' S' Fv F0', Own K T H' S' k1 d0 v0 F0' → Own K T H' S' kr d v Fv → (F0' ++ Fv).Nodup → (∀ a ∈ F0' ++ Fv, ¬ S' a) → (∀ a, S' a → ∃ o, H' a = some o) →
      Fra H S (fun a => a ∈ F0) H' S' (fun a => a ∈ F0' ∨ a ∈ Fv) → Q v H'
  | .er c fs => OutC K T E H S (fun a => a ∈ F0) c fs
  | .bad => False
def spB (K : PySem.W.Frag) (T : Tab) (k1 kr : Nat) (m : List D → R (D × D)) : Sp := fun vs H Q E => ∃ S d0 v0 F0 ds vs', vs = v0 :: vs' ∧ Own K T H S k1 d0 v0 F0 ∧ F0.Nodup ∧ (∀ a ∈ F0, ¬ S a) ∧ Reps K T H S ds vs' ∧ (∀ a, S a → ∃ o, H a = some o) ∧
  OutB K T k1 kr v0 F0 H S Q E (m (d0 :: ds))

section
variable {K : PySem.W.Frag} {T : Tab} {W : WX} {Γ Γ' : List Nat} {k : Nat} {σ : St} {H H' : Hp} {S S' O' : Addr → Prop} {fp : Nat → List Addr} {ρ : Env} {Q : VK}
/-- a state behind code that owns nothing of it -/
theorem Stt.after0 (s : Stt K T Γ S σ H ρ fp) (f : Fra H S (fun _ => False) H' S' O') (al : ∀ a, S' a → ∃ o, H' a = some o) : Stt K T Γ S' σ H' ρ fp := by
  have st : Stay K H S H' S' := .of (fun _ z => z.elim) (fun _ z => z.elim) f
  refine ⟨⟨fun i a h => ?_, s.sep.nd, s.sep.dj, fun i a h z => ?_, al⟩, s.len, s.gl, fun i d h => ?_⟩
  · have m := s.sep.mu i a h
    cases q : H a with
    | none => rw [q] at m; exact m.elim
    | some o => rw [f.kp a o q fun z => z]; rw [q] at m; exact m
  · rcases f.so a z with z | z | z
    · exact s.sep.ns i a h z
    · exact z
    · have m := s.sep.mu i a h; rw [z] at m; exact m
  · obtain ⟨v, hv, o⟩ := s.sl i d h
    exact ⟨v, hv, o.stay st fun a _ o h => f.kp a o h fun z => z⟩
/-- .. behind code that was handed what i owned, and handed it back as F0' -/
theorem Stt.after1 {i k1 : Nat} {d0 : D} {v0 : V} {F0' : List Addr} (s : Stt K T Γ S σ H ρ fp) (hv : σ[i]? = some (some v0)) (hi : i < Γ.length) (hk : Γ.getD i 0 = k1) (f : Fra H S (fun a => a ∈ fp i) H' S' O') (al : ∀ a, S' a → ∃ o, H' a = some o)
    (o : Own K T H' S' k1 d0 v0 F0') (nd : F0'.Nodup) (ns : ∀ a ∈ F0', ¬ S' a) (oo : ∀ a ∈ F0', O' a) : Stt K T Γ S' σ H' (ρ.set i (some d0)) (fpSet fp i F0') := by
  have hl : i < σ.length := by
    rcases Nat.lt_or_ge i σ.length with h | h
    · exact h
    · rw [List.getElem?_eq_none h] at hv; cases hv
  have st : Stay K H S H' S' := .of (fun a z => s.sep.mu i a z) (fun a z => s.sep.ns i a z) f
  have mu : ∀ j a, j ≠ i → a ∈ fp j → ∀ o, H a = some o → H' a = some o := fun j a e h o q => f.kp a o q fun z => e (s.sep.dj j i a h z)
  have new : ∀ a ∈ F0', ∀ j, j ≠ i → a ∉ fp j := fun a h j e z => by
    rcases f.oo a (oo a h) with q | q
    · exact e (s.sep.dj j i a z q)
    · have m := s.sep.mu j a z; rw [q] at m; exact m
  refine ⟨⟨fun j a h => ?_, fun j => ?_, fun j l a h h' => ?_, fun j a h z => ?_, al⟩, by simp [s.len], s.gl, fun j d h => ?_⟩
  · rcases mem_fpSet h with ⟨_, h⟩ | ⟨e, h⟩
    · exact o.mut a h
    · have m := s.sep.mu j a h
      cases q : H a with
      | none => rw [q] at m; exact m.elim
      | some o => rw [mu j a e h o q]; rw [q] at m; exact m
  · by_cases e : j = i
    · subst e; rw [fpSet_same]; exact nd
    · rw [fpSet_ne e]; exact s.sep.nd j
  · rcases mem_fpSet h with ⟨e, h⟩ | ⟨e, h⟩ <;> rcases mem_fpSet h' with ⟨e', h'⟩ | ⟨e', h'⟩
    · rw [e, e']
    · exact absurd h' (new a h l e')
    · exact absurd h (new a h' j e)
    · exact s.sep.dj j l a h h'
  · rcases mem_fpSet h with ⟨_, h⟩ | ⟨e, h⟩
    · exact ns a h z
    · rcases f.so a z with z | z | z
      · exact s.sep.ns j a h z
      · exact e (s.sep.dj j i a h z)
      · have m := s.sep.mu j a h; rw [z] at m; exact m
  · by_cases q : j = i
    · subst q
      rw [List.getElem?_set_self (by rw [s.len]; exact hl)] at h
      cases h
      exact ⟨v0, hv, by rw [hk, fpSet_same]; exact o⟩
    · rw [List.getElem?_set_ne (Ne.symm q)] at h
      obtain ⟨v, hv', o'⟩ := s.sl j d h
      exact ⟨v, hv', by rw [fpSet_ne q]; exact o'.stay st fun a m o h => mu j a q m o h⟩
theorem OutX.of_call {E : XK} {c : Nat} {fs : List D} {O O1 : Addr → Prop} (h : OutX K T W σ H S O c fs) (hE : ∀ cls d H', W cls d σ H' → E cls d H') (hO : ∀ a, O1 a → O a) : OutC K T E H S O1 c fs :=
  fun dx xs vs H' S' e1 e2 r f al => hE _ _ _ (h dx xs vs H' S' e1 e2 r (f.more hO) al)
end

/-! ### calls -/
def mCall (m : List D → R D) (fs : Env → R (List D × Env)) : Env → R (D × Env) := fun ρ => (fs ρ).bind fun (xs, ρ1) => (m xs).bind fun d => .ok (d, ρ1)
def mCallB (i : Nat) (m : List D → R (D × D)) (fs : Env → R (List D × Env)) : Env → R (D × Env) := fun ρ => match ρ[i]? with
  | some (some _) => (fs ρ).bind fun (xs, ρ1) => match ρ1[i]? with
    | some (some d0) => (m (d0 :: xs)).bind fun (d, d1) => .ok (d, ρ1.set i (some d1))
    | _ => .bad
  | _ => .bad
section
variable {X : Cx} {C : Cz} {Γ Γ' Γ1 Γ2 : List Nat} {k kr k1 lv i : Nat} {x y : Str} {pos p p2 : Pos} {a b e : Expr} {es : List Expr} {fa fb : Env → R (D × Env)} {fs : Env → R (List D × Env)} {m : List D → R D} {mB : List D → R (D × D)}
  {f : Addr} {fd : FuncData} {ps : List Str} {ds : List Value} {dvs : List V}
/-- the call itself, at the arguments' data -/
theorem call_data {σ : St} {H : Hp} {S : Addr → Prop} {ρ : Env} {fp : Nat → List Addr} {Q : VK} {xs : List D} {vs : List V} (s : Stt X.K C.T Γ S σ H ρ fp) (r : Reps X.K C.T H S xs vs)
    (h : OutE X.K C.T C.W Γ k σ H S fp Q ((m xs).bind fun d => .ok (d, ρ))) : spF X.K C.T k m vs H Q (WE C.W σ) := by
  refine ⟨S, xs, r, s.sep.al, ?_⟩
  cases q : m xs with
  | ok d =>
    rw [q] at h
    intro v H' S' Fv o nd ns al fr
    refine h v H' S' fp Fv (s.after0 fr al) ⟨o, nd, ns, fun a ma j z => ?_⟩ ?_
    · rcases fr.oo a ma with w | w
      · exact w
      · have m := s.sep.mu j a z; rw [w] at m; exact m
    · refine ⟨fun b o h _ => fr.kp b o h fun z => z, fr.sm, fun b z => ?_, fun b z => ?_⟩
      · rcases fr.so b z with z | z | z
        · exact .inl z
        · exact z.elim
        · exact .inr (.inr z)
      · rcases z with z | z
        · exact .inl z
        · rcases fr.oo b z with z | z
          · exact z.elim
          · exact .inr z
  | er c fs => rw [q] at h; exact OutX.of_call h (fun _ _ _ w => w) fun a z => z.elim
  | bad => rw [q] at h; exact h
/-- f(e, ..), an own def that keeps its arguments; ds: defaults that fill up, as data xd -/
theorem de_call {xd : List D} (F : FnOk X.prog X.w X.K X.mg X.base (L2N.CX X.prog X.w) lv f fd ps (spF X.K C.T kr m)) (hr : Room lv X.A) (tk : L2N.Takes X C.W) (hg : Gl X x) (hm : X.mg x = some (.ref f)) (hk : PySem.W.keepIn X.K (.ref f) = true) (hb : Binds X.K fd ps ds) (hd : Vals dvs ds)
    (hxd : ∀ S H, Reps X.K C.T H S xd dvs) (ha : DA X C Γ (e :: es) Γ1 fs) (hdb : (x == ("__debug__" : Str)) = false := by decide) (he : starEach (e :: es) X.env = (false, eval e X.env) :: starEach es X.env := by rfl) (hpl : (backTo pos (starEach es X.env)).any (·.1) = false := by rfl) :
    DE X C Γ (.Call (.Name x p) (e :: es) [] pos) Γ1 kr (mCall (fun xs => m (xs ++ xd)) fs) := by
  refine pe_imp (pe_callSD (E := WE C.W) F hr hg hm hk hb hd (fun σ => L2N.passAt tk σ) ha hdb he hpl) fun σ H Q h => ?_
  obtain ⟨S, ρ, fp, s, h⟩ := h
  refine ⟨S, ρ, fp, s, OutA.thenE h fun xs ρ1 vs H1 S1 fp1 e1 s1 r1 f1 h1 => ?_⟩
  exact call_data s1 (r1.append (hxd S1 H1)) h1
theorem callB_data {σ : St} {H : Hp} {S : Addr → Prop} {ρ : Env} {fp : Nat → List Addr} {Q : VK} {xs : List D} {vs : List V} {d0 : D} {v0 : V} (s : Stt X.K C.T Γ S σ H ρ fp) (r : Reps X.K C.T H S xs vs) (hd : ρ[i]? = some (some d0)) (hv : σ[i]? = some (some v0))
    (hi : i < Γ.length) (hk : Γ.getD i 0 = k1) (h : OutE X.K C.T C.W Γ k σ H S fp Q ((mB (d0 :: xs)).bind fun (d, d1) => .ok (d, ρ.set i (some d1)))) : spB X.K C.T k1 k mB (v0 :: vs) H Q (WE C.W σ) := by
  obtain ⟨v0', hv', o⟩ := s.sl i d0 hd
  rw [hv] at hv'; cases hv'
  rw [hk] at o
  refine ⟨S, d0, v0, fp i, xs, vs, rfl, o, s.sep.nd i, fun a z => s.sep.ns i a z, r, s.sep.al, ?_⟩
  cases q : mB (d0 :: xs) with
  | ok a =>
    obtain ⟨d, d1⟩ := a
    rw [q] at h
    intro v H' S' Fv F0' o0 o1 nd ns al fr
    obtain ⟨nd0, nd1, nd2⟩ := List.nodup_append.mp nd
    refine h v H' S' (fpSet fp i F0') Fv (s.after1 hv hi hk fr al o0 nd0 (fun a z => ns a (List.mem_append_left _ z)) fun a z => .inl z) ⟨o1, nd1, fun a z => ns a (List.mem_append_right _ z), fun a ma j z => ?_⟩ ?_
    · rcases mem_fpSet z with ⟨_, z⟩ | ⟨e, z⟩
      · exact nd2 a z a ma rfl
      · rcases fr.oo a (.inr ma) with w | w
        · exact e (s.sep.dj j i a z w)
        · have m := s.sep.mu j a z; rw [w] at m; exact m
    · refine ⟨fun b o h n => fr.kp b o h fun z => n ⟨i, z⟩, fr.sm, fun b z => ?_, fun b z => ?_⟩
      · rcases fr.so b z with z | z | z
        · exact .inl z
        · exact .inr (.inl ⟨i, z⟩)
        · exact .inr (.inr z)
      · have up : ∀ b, b ∈ F0' ∨ b ∈ Fv → Ow fp b ∨ H b = none := fun b z => (fr.oo b z).imp_left fun z => ⟨i, z⟩
        rcases z with ⟨j, z⟩ | z
        · rcases mem_fpSet z with ⟨_, z⟩ | ⟨e, z⟩
          · exact up b (.inl z)
          · exact .inl ⟨j, z⟩
        · exact up b (.inr z)
  | er c fs => rw [q] at h; exact OutX.of_call h (fun _ _ _ w => w) fun a z => ⟨i, z⟩
  | bad => rw [q] at h; exact h
/-- f(y, e, ..): y's objects may be changed -/
theorem de_callBr (F : FnOk X.prog X.w X.K X.mg X.base (L2N.CX X.prog X.w) lv f fd ps (spB X.K C.T k1 kr mB)) (hr : Room lv X.A) (tk : L2N.Takes X C.W) (hg : Gl X x) (hm : X.mg x = some (.ref f)) (hk : PySem.W.keepIn X.K (.ref f) = true) (hb : Binds X.K fd ps [])
    (hy : PE X (.Name y p2) (tVar i)) (ha : DA X C Γ es Γ1 fs) (hΓ : Γ1.getD i 0 = k1 := by rfl) (hi : i < Γ1.length := by decide) (hdb : (x == ("__debug__" : Str)) = false := by decide)
    (he : starEach (.Name y p2 :: es) X.env = (false, eval (.Name y p2) X.env) :: starEach es X.env := by rfl) (hpl : (backTo pos (starEach es X.env)).any (·.1) = false := by rfl) :
    DE X C Γ (.Call (.Name x p) (.Name y p2 :: es) [] pos) Γ1 kr (mCallB i mB fs) := by
  refine pe_imp (pe_callSD (E := WE C.W) (dvs := []) F hr hg hm hk hb .nil (fun σ => L2N.passAt tk σ) (pa_cons hy ha he) hdb he hpl) fun σ H Q h => ?_
  obtain ⟨S, ρ, fp, s, h⟩ := h
  show ∃ v, σ[i]? = some (some v) ∧ tA X.K C.T C.W Γ Γ1 fs σ H (fun vs H1 => spB X.K C.T k1 kr mB (v :: vs ++ []) H1 Q (WE C.W σ))
  unfold mCallB at h
  split at h
  · rename_i d0 q0
    obtain ⟨v0, hv0, _⟩ := s.sl i d0 q0
    refine ⟨v0, hv0, S, ρ, fp, s, OutA.thenE h fun xs ρ1 vs H1 S1 fp1 e1 s1 r1 f1 h1 => ?_⟩
    rw [List.append_nil]
    dsimp only at h1
    split at h1
    · rename_i d1 q1
      exact callB_data s1 r1 q1 hv0 hi hΓ h1
    · exact h1.elim
  · exact h.elim
/-- f(y) -/
theorem de_callBr0 (F : FnOk X.prog X.w X.K X.mg X.base (L2N.CX X.prog X.w) lv f fd ps (spB X.K C.T k1 kr mB)) (hr : Room lv X.A) (tk : L2N.Takes X C.W) (hg : Gl X x) (hm : X.mg x = some (.ref f)) (hk : PySem.W.keepIn X.K (.ref f) = true) (hb : Binds X.K fd ps [])
    (hy : PE X (.Name y p2) (tVar i)) (hΓ : Γ.getD i 0 = k1 := by rfl) (hi : i < Γ.length := by decide) (hdb : (x == ("__debug__" : Str)) = false := by decide) :
    DE X C Γ (.Call (.Name x p) [.Name y p2] [] pos) Γ kr (mCallB i mB mNil) := de_callBr F hr tk hg hm hk hb hy da_nil hΓ hi hdb

/-! ### fields -/
def gFld (ix : List (Nat × Nat)) : D → Option D
  | .ins c fs => (ix.lookup c).bind fun j => fs[j]?
  | _ => none
/-- what of the own classes must be known where an attribute f is read: at c it is the j-th -/
structure FldOk (K : PySem.W.Frag) (T : Tab) (f : Str) (ix : List (Nat × Nat)) : Prop where
  ok : ∀ c j, ix.lookup c = some j → Cls K (T.cm c) ∧ NoAttr K (T.cm c) f ∧ (T.fl c)[j]? = some f ∧ (T.fl c).Nodup
theorem lookup_zip : ∀ {ns : List Str} {vs : List V} {j : Nat} {f : Str}, ns.Nodup → ns[j]? = some f → vs.length ≤ ns.length → (ns.zip vs).lookup f = vs[j]?
  | [], vs, j, f, _, h, _ => by simp at h
  | n :: ns, [], j, f, _, h, _ => by simp
  | n :: ns, v :: vs, 0, f, _, h, _ => by
    simp at h; subst h; simp [List.lookup]
  | n :: ns, v :: vs, j + 1, f, nd, h, l => by
    have h' : ns[j]? = some f := by simpa using h
    have ne : f ≠ n := fun e => (List.nodup_cons.mp nd).1 (e ▸ List.mem_of_getElem? h')
    have e : (f == n) = false := by simpa using ne
    simp only [List.zip_cons_cons, List.lookup_cons, e]
    simpa using lookup_zip (List.nodup_cons.mp nd).2 h' (by simpa using l)
def rFld (K : PySem.W.Frag) (f : Str) : V → Hp → VK → Prop := fun x H1 Q => ∃ a C dx fs v, x = .ref a ∧ H1 a = some (.ins C dx fs) ∧ Cls K C ∧ NoAttr K C f ∧ fs.lookup f = some v ∧ Q v H1
theorem fld_at {K : PySem.W.Frag} {T : Tab} {H : Hp} {f : Str} {ix : List (Nat × Nat)} (ok : FldOk K T f ix) {c j : Nat} {fs : List D} {vs : List V} {a dx : Addr} {S : Addr → Prop} {d : D} (h : H a = some (.ins (T.cm c) dx ((T.fl c).zip vs)))
    (hl : fs.length ≤ (T.fl c).length) (r : Reps K T H S fs vs) (hj : ix.lookup c = some j) (hd : fs[j]? = some d) : ∃ v, Rep K T H S d v ∧ ∀ Q : VK, Q v H → rFld K f (.ref a) H Q := by
  obtain ⟨c1, c2, c3, c4⟩ := ok.ok c j hj
  obtain ⟨v, hv, rv⟩ := r.get hd
  exact ⟨v, rv, fun Q q => ⟨a, _, dx, _, v, rfl, h, c1, c2, by rw [lookup_zip c4 c3 (by rw [← r.length]; exact hl)]; exact hv, q⟩⟩
theorem de_fld {fn : Str} {ix : List (Nat × Nat)} (ok : FldOk X.K C.T fn ix) (ha : DE X C Γ a Γ1 0 fa) (hb : attributeBase a fn X.env (eval a X.env) = eval a X.env := by rfl) : DE X C Γ (.Attribute a fn pos) Γ1 0 (mUn (gFld ix) fa) := by
  refine pe_imp (pe_fld ha hb) fun σ H Q h => un_data (r := rFld X.K fn) (fun S H d v d' r e => ?_) h
  cases d with
  | ins c fs =>
    simp only [Rep] at r
    obtain ⟨b, dx, vs, rfl, h1, s, hl, r⟩ := r
    simp only [gFld] at e
    cases q : ix.lookup c with
    | none => rw [q] at e; cases e
    | some j =>
      rw [q] at e
      obtain ⟨v, rv, g⟩ := fld_at ok h1 hl r q e
      exact .inl ⟨v, rv, rfl, g⟩
  | _ => cases e
/-- at a name: what it owns stays its own -/
def mFldN (i : Nat) (ix : List (Nat × Nat)) : Env → R (D × Env) := fun ρ => match ρ[i]? with
  | some (some d) => (ofO (gFld ix d)).bind fun e => .ok (e, ρ)
  | _ => .bad
theorem peek_ins {K : PySem.W.Frag} {T : Tab} {H : Hp} {S : Addr → Prop} {k : Nat} {c : Nat} {fs : List D} {v : V} {F : List Addr} (h : Own K T H S k (.ins c fs) v F) (hk : k ≤ 1) : ∃ a dx vs, v = .ref a ∧ H a = some (.ins (T.cm c) dx ((T.fl c).zip vs)) ∧ fs.length ≤ (T.fl c).length ∧ Reps K T H S fs vs := by
  match k, hk with
  | 0, _ =>
    obtain ⟨_, r⟩ := own_zero.mp h
    simp only [Rep] at r
    obtain ⟨b, dx, vs, e, h1, s, hl, r⟩ := r
    exact ⟨b, dx, vs, e, h1, hl, r⟩
  | 1, _ =>
    obtain ⟨b, dx, vs, e, h1, _, hl, r⟩ := own_ins1.mp h
    exact ⟨b, dx, vs, e, h1, hl, r⟩
theorem peek_lst {K : PySem.W.Frag} {T : Tab} {H : Hp} {S : Addr → Prop} {k : Nat} {xs : List D} {v : V} {F : List Addr} (h : Own K T H S k (.lst xs) v F) (hk : k ≤ 1) : ∃ a vs, v = .ref a ∧ H a = some (.lst vs) ∧ Reps K T H S xs vs := by
  match k, hk with
  | 0, _ =>
    obtain ⟨_, r⟩ := own_zero.mp h
    simp only [Rep] at r
    obtain ⟨b, vs, e, h1, s, r⟩ := r
    exact ⟨b, vs, e, h1, r⟩
  | 1, _ =>
    obtain ⟨b, vs, e, h1, _, r⟩ := own_lst1.mp h
    exact ⟨b, vs, e, h1, r⟩
theorem de_fldN {fn : Str} {ix : List (Nat × Nat)} (ok : FldOk X.K C.T fn ix) (hv : PE X (.Name x p) (tVar i)) (hk : Γ.getD i 0 ≤ 1 := by decide) (hb : attributeBase (.Name x p) fn X.env (eval (.Name x p) X.env) = eval (.Name x p) X.env := by rfl) :
    DE X C Γ (.Attribute (.Name x p) fn pos) Γ 0 (mFldN i ix) := by
  refine pe_imp (pe_fld hv hb) fun σ H Q h => ?_
  obtain ⟨S, ρ, fp, s, h⟩ := h
  unfold mFldN at h
  split at h
  · rename_i d q
    obtain ⟨v, hv, o⟩ := s.sl i d q
    refine ⟨v, hv, ?_⟩
    show rFld X.K fn v H Q
    cases d with
    | ins c fs =>
      obtain ⟨b, dx, vs, rfl, h1, hl, r⟩ := peek_ins o hk
      simp only [gFld] at h
      cases q1 : ix.lookup c with
      | none => rw [q1] at h; exact h.elim
      | some j =>
        rw [q1] at h
        cases q2 : fs[j]? with
        | none => dsimp only [Option.bind_some] at h; rw [q2] at h; exact h.elim
        | some e =>
          dsimp only [Option.bind_some] at h
          rw [q2] at h
          obtain ⟨w, rv, g⟩ := fld_at ok h1 hl r q1 q2
          exact g Q (h w H S fp [] s (.of rv) Fra.refl.ow')
    | _ => exact h.elim
  · exact h.elim
end

/-! ### tests -/
def mVal (fa : Env → R (D × Env)) : Env → R (Bool × Env) := fun ρ => (fa ρ).bind fun (x, ρ1) => match x with
  | .bl b => .ok (b, ρ1)
  | _ => .bad
def mAnd (fa fb : Env → R (Bool × Env)) : Env → R (Bool × Env) := fun ρ => (fa ρ).bind fun (b, ρ1) => if b = true then fb ρ1 else .ok (false, ρ1)
def mOr (fa fb : Env → R (Bool × Env)) : Env → R (Bool × Env) := fun ρ => (fa ρ).bind fun (b, ρ1) => if b = true then .ok (true, ρ1) else fb ρ1
def mNot (fa : Env → R (Bool × Env)) : Env → R (Bool × Env) := fun ρ => (fa ρ).bind fun (b, ρ1) => .ok (!b, ρ1)
def mIf (ft : Env → R (Bool × Env)) (fa fb : Env → R (D × Env)) : Env → R (D × Env) := fun ρ => (ft ρ).bind fun (b, ρ1) => if b = true then fa ρ1 else fb ρ1
def mAndV (fa fb : Env → R (D × Env)) : Env → R (D × Env) := fun ρ => (fa ρ).bind fun (x, ρ1) => match x with
  | .bl b => if b = true then fb ρ1 else .ok (.bl false, ρ1)
  | _ => .bad
def mOrV (fa fb : Env → R (D × Env)) : Env → R (D × Env) := fun ρ => (fa ρ).bind fun (x, ρ1) => match x with
  | .bl b => if b = true then .ok (.bl true, ρ1) else fb ρ1
  | _ => .bad
def gNot : D → Option D
  | .bl b => some (.bl (!b))
  | _ => none
def mChain (g g' : D → D → Option D) (fa fb fc : Env → R (D × Env)) : Env → R (D × Env) := fun ρ => (fa ρ).bind fun (x, ρ1) => (fb ρ1).bind fun (y, ρ2) => (ofO (g x y)).bind fun z => match z with
  | .bl b => if b = true then (fc ρ2).bind fun (w, ρ3) => (ofO (g' y w)).bind fun d => .ok (d, ρ3) else .ok (.bl false, ρ2)
  | _ => .bad
section
variable {X : Cx} {C : Cz} {Γ Γ' Γ1 Γ2 : List Nat} {k i : Nat} {x : Str} {pos p : Pos} {a b c e : Expr} {es : List Expr} {fa fb fc : Env → R (D × Env)} {ta tb : Env → R (Bool × Env)} {fs : Env → R (List D × Env)}
theorem rep_bl {K : PySem.W.Frag} {T : Tab} {H : Hp} {S : Addr → Prop} {b : Bool} {v : V} (h : Rep K T H S (.bl b) v) : v = .bl b := by simpa [Rep] using h
theorem rep_int {K : PySem.W.Frag} {T : Tab} {H : Hp} {S : Addr → Prop} {b : Int} {v : V} (h : Rep K T H S (.int b) v) : v = .int b := by simpa [Rep] using h
theorem rep_str {K : PySem.W.Frag} {T : Tab} {H : Hp} {S : Addr → Prop} {b : Str} {v : V} (h : Rep K T H S (.str b) v) : v = .str b := by simpa [Rep] using h
theorem rep_non {K : PySem.W.Frag} {T : Tab} {H : Hp} {S : Addr → Prop} {v : V} (h : Rep K T H S .non v) : v = .non := by simpa [Rep] using h
theorem val_data {σ : St} {H : Hp} {Q : Bool → Hp → Prop} (h : tT X.K C.T C.W Γ Γ1 (mVal fa) σ H Q) : tE X.K C.T C.W Γ Γ1 0 fa σ H (fun x H1 => ∃ c, x = .bl c ∧ Q c H1) := by
  obtain ⟨S, ρ, fp, s, h⟩ := h
  refine ⟨S, ρ, fp, s, OutE.thenT h fun d1 ρ1 v1 H1 S1 fp1 e1 s1 r1 f1 h1 => ?_⟩
  cases d1 with
  | bl b => exact ⟨b, rep_bl r1, h1 H1 S1 fp1 s1 Fra.refl⟩
  | _ => exact h1.elim
theorem dt_val (h : DE X C Γ e Γ1 0 fa) (he : ∀ whole, isTrue e X.env whole = (do let v ← whole; standAt e.pos; holding [v] (truthy v)) := by intro _; rfl) : DT X C Γ e Γ1 (mVal fa) :=
  pt_imp (pt_val h he) fun σ H Q h => val_data h
theorem dt_cmp {op : CmpOp} {r : R2} {g : D → D → Option D} (ho : OpR X (compareOp op) r) (hr : Prim2 X.K C.T 0 r g) (ha : DE X C Γ a Γ1 0 fa) (hb : DE X C Γ1 b Γ2 0 fb) (hn : behindInMarks op b = false) : DT X C Γ (.Compare a [op] [b] pos) Γ2 (mVal (mBin g fa fb)) :=
  pt_imp (pt_cmpR ho ha hb hn) fun σ H Q h => bin_data hr (val_data h)
abbrev DW (X : Cx) (Z : Cz) (Γ : List Nat) (e : Expr) (Γ' : List Nat) (f : Env → R (Bool × Env)) : Prop := PW X e (tT X.K Z.T Z.W Γ Γ' f)
theorem dw_and1 (ha : DT X C Γ a Γ1 ta) : DW X C Γ (.BoolOp .And [a] pos) Γ1 ta := pw_and1 ha
theorem dw_or1 (ha : DT X C Γ a Γ1 ta) : DW X C Γ (.BoolOp .Or [a] pos) Γ1 ta := pw_or1 ha
theorem dw_and (ha : DT X C Γ a Γ1 ta) (hb : DW X C Γ1 (.BoolOp .And (b :: es) pos) Γ1 tb) : DW X C Γ (.BoolOp .And (a :: b :: es) pos) Γ1 (mAnd ta tb) :=
  pw_imp (pw_and ha hb) fun σ H Q h => by
    obtain ⟨S, ρ, fp, s, h⟩ := h
    refine ⟨S, ρ, fp, s, OutT.thenT h fun b ρ1 H1 S1 fp1 e1 s1 f1 h1 => ?_⟩
    cases b with
    | true => exact ⟨S1, ρ1, fp1, s1, h1⟩
    | false => exact h1 H1 S1 fp1 s1 Fra.refl
theorem dw_or (ha : DT X C Γ a Γ1 ta) (hb : DW X C Γ1 (.BoolOp .Or (b :: es) pos) Γ1 tb) : DW X C Γ (.BoolOp .Or (a :: b :: es) pos) Γ1 (mOr ta tb) :=
  pw_imp (pw_or ha hb) fun σ H Q h => by
    obtain ⟨S, ρ, fp, s, h⟩ := h
    refine ⟨S, ρ, fp, s, OutT.thenT h fun b ρ1 H1 S1 fp1 e1 s1 f1 h1 => ?_⟩
    cases b with
    | false => exact ⟨S1, ρ1, fp1, s1, h1⟩
    | true => exact h1 H1 S1 fp1 s1 Fra.refl
theorem dt_w (h : DW X C Γ e Γ1 ta) : DT X C Γ e Γ1 ta := PW.pt h
theorem dt_not (ha : DT X C Γ a Γ1 ta) : DT X C Γ (.UnaryOp .Not a pos) Γ1 (mNot ta) :=
  pt_imp (pt_not ha) fun σ H Q h => by
    obtain ⟨S, ρ, fp, s, h⟩ := h
    exact ⟨S, ρ, fp, s, OutT.thenT h fun b ρ1 H1 S1 fp1 e1 s1 f1 h1 => h1 H1 S1 fp1 s1 Fra.refl⟩
theorem de_if (hc : DT X C Γ c Γ1 ta) (ha : DE X C Γ1 a Γ2 k fa) (hb : DE X C Γ1 b Γ2 k fb) : DE X C Γ (.IfExp c a b pos) Γ2 k (mIf ta fa fb) :=
  pe_imp (pe_ifExp hc ha hb) fun σ H Q h => by
    obtain ⟨S, ρ, fp, s, h⟩ := h
    refine ⟨S, ρ, fp, s, OutT.thenE h fun b ρ1 H1 S1 fp1 e1 s1 f1 h1 => ?_⟩
    cases b with
    | true => exact ⟨S1, ρ1, fp1, s1, h1⟩
    | false => exact ⟨S1, ρ1, fp1, s1, h1⟩
theorem de_one {op : BoolOp} (ha : DE X C Γ a Γ1 k fa) : DE X C Γ (.BoolOp op [a] pos) Γ1 k fa := pe_one ha
theorem de_and (ha : DE X C Γ a Γ1 0 fa) (hb : DE X C Γ1 (.BoolOp .And (b :: es) pos) Γ1 0 fb) : DE X C Γ (.BoolOp .And (a :: b :: es) pos) Γ1 0 (mAndV fa fb) :=
  pe_imp (pe_and ha hb) fun σ H Q h => by
    obtain ⟨S, ρ, fp, s, h⟩ := h
    refine ⟨S, ρ, fp, s, OutE.then0 h fun d ρ1 v H1 S1 fp1 e1 s1 r1 f1 h1 => ?_⟩
    cases d with
    | bl b =>
      refine ⟨b, rep_bl r1, ?_⟩
      cases b with
      | true => exact ⟨S1, ρ1, fp1, s1, h1⟩
      | false => exact h1 _ H1 S1 fp1 [] s1 (.of (by simp [Rep])) Fra.refl.ow'
    | _ => exact h1.elim
theorem de_or (ha : DE X C Γ a Γ1 0 fa) (hb : DE X C Γ1 (.BoolOp .Or (b :: es) pos) Γ1 0 fb) : DE X C Γ (.BoolOp .Or (a :: b :: es) pos) Γ1 0 (mOrV fa fb) :=
  pe_imp (pe_or ha hb) fun σ H Q h => by
    obtain ⟨S, ρ, fp, s, h⟩ := h
    refine ⟨S, ρ, fp, s, OutE.then0 h fun d ρ1 v H1 S1 fp1 e1 s1 r1 f1 h1 => ?_⟩
    cases d with
    | bl b =>
      refine ⟨b, rep_bl r1, ?_⟩
      cases b with
      | false => exact ⟨S1, ρ1, fp1, s1, h1⟩
      | true => exact h1 _ H1 S1 fp1 [] s1 (.of (by simp [Rep])) Fra.refl.ow'
    | _ => exact h1.elim
theorem de_not (ha : DE X C Γ a Γ1 0 fa) : DE X C Γ (.UnaryOp .Not a pos) Γ1 0 (mUn gNot fa) :=
  pe_imp (pe_not ha) fun σ H Q h => un_data (r := fun x H1 Q => ∃ c, x = .bl c ∧ Q (.bl (!c)) H1) (fun S H d v d' r e => by
    cases d with
    | bl b => cases e; exact .inl ⟨.bl (!b), by simp [Rep], rfl, fun Q q => ⟨b, rep_bl r, q⟩⟩
    | _ => cases e) h
theorem chain_data {r r' : R2} {g g' : D → D → Option D} {σ : St} {H : Hp} {Q : VK} (hr : Prim2 X.K C.T 0 r g) (hr' : Prim2 X.K C.T 0 r' g') (h : tE X.K C.T C.W Γ Γ 0 (mChain g g' fa fb fc) σ H Q) :
    tChain r r' (tE X.K C.T C.W Γ Γ 0 fa) (tE X.K C.T C.W Γ Γ 0 fb) (tE X.K C.T C.W Γ Γ 0 fc) σ H Q := by
  obtain ⟨S, ρ, fp, s, h⟩ := h
  refine ⟨S, ρ, fp, s, OutE.then0 h fun d1 ρ1 v1 H1 S1 fp1 e1 s1 r1 f1 h1 => ?_⟩
  refine ⟨S1, ρ1, fp1, s1, OutE.then0 h1 fun d2 ρ2 v2 H2 S2 fp2 e2 s2 r2 f2 h2 => ?_⟩
  dsimp only at h2
  cases q : g d1 d2 with
  | none => rw [q] at h2; exact h2.elim
  | some d =>
    rw [q] at h2
    refine gives_out (Γ := Γ) (k := 0) (W := C.W) (ρ := ρ2) s2 (hr S2 H2 d1 d2 v1 v2 d (s1.rep_fra r1 f2) r2 q) ?_
    intro v3 H3 S3 fp3 Fv s3 x3 f3
    obtain ⟨e3, r3⟩ := x3.rep
    subst e3
    cases d with
    | bl b =>
      refine ⟨b, rep_bl r3, ?_⟩
      have h3 := OutE.before f3.ow h2
      cases b with
      | true =>
        refine ⟨S3, ρ2, fp3, s3, OutE.then0 h3 fun d4 ρ4 v4 H4 S4 fp4 e4 s4 r4 f4 h4 => ?_⟩
        dsimp only at h4
        cases q' : g' d2 d4 with
        | none => rw [q'] at h4; exact h4.elim
        | some d' =>
          rw [q'] at h4
          exact gives_out s4 (hr' S4 H4 d2 d4 v2 v4 d' (s3.rep_fra (s2.rep_fra r2 f3) f4) r4 q') h4
      | false => exact h3 _ H3 S3 fp3 [] s3 (.of (by simp [Rep])) Fra.refl.ow'
    | _ => exact h2.elim
theorem de_chain {op op' : CmpOp} {r r' : R2} {g g' : D → D → Option D} (ho : OpR X (compareOp op) r) (ho' : OpR X (compareOp op') r') (hr : Prim2 X.K C.T 0 r g) (hr' : Prim2 X.K C.T 0 r' g') (ha : DE X C Γ a Γ 0 fa) (hb : DE X C Γ b Γ 0 fb) (hc : DE X C Γ c Γ 0 fc)
    (hm : lastMarks [op, op'] [b, c] = false := by with_unfolding_all rfl) : DE X C Γ (.Compare a [op, op'] [b, c] pos) Γ 0 (mChain g g' fa fb fc) :=
  pe_imp (pe_chain ho ho' ha hb hc hm) fun σ H Q h => chain_data hr hr' h
theorem dt_chain {op op' : CmpOp} {r r' : R2} {g g' : D → D → Option D} (ho : OpR X (compareOp op) r) (ho' : OpR X (compareOp op') r') (hr : Prim2 X.K C.T 0 r g) (hr' : Prim2 X.K C.T 0 r' g') (ha : DE X C Γ a Γ 0 fa) (hb : DE X C Γ b Γ 0 fb) (hc : DE X C Γ c Γ 0 fc)
    (hm : lastMarks [op, op'] [b, c] = false := by with_unfolding_all rfl) : DT X C Γ (.Compare a [op, op'] [b, c] pos) Γ (mVal (mChain g g' fa fb fc)) :=
  pt_imp (pt_chain ho ho' ha hb hc hm) fun σ H Q h => chain_data hr hr' (val_data h)
end
end Z
set_option Elab.async false
set_option linter.all false
set_option maxRecDepth 100000
/-! Z4: statements -/
namespace Z
open PySem PySem.Spec L2
open PyProof.Rows hiding St

/-- how a block ends -/
inductive Fl where
  | nx | bk | ct | rt (d : D)
/-- what is owned at each end; kr: how far a returned value is new -/
structure Js where
  nx : List Nat
  bk : List Nat
  ct : List Nat
  rt : List Nat
  kr : Nat
/-- the slots of P are not stored to -/
def Kp (P : List Nat) (σ σ' : St) : Prop := σ'.length = σ.length ∧ ∀ i ∈ P, σ'[i]? = σ[i]?
theorem Kp.refl {P : List Nat} {σ : St} : Kp P σ σ := ⟨rfl, fun _ _ => rfl⟩
theorem Kp.trans {P : List Nat} {σ σ1 σ2 : St} (a : Kp P σ σ1) (b : Kp P σ1 σ2) : Kp P σ σ2 := ⟨b.1.trans a.1, fun i h => (b.2 i h).trans (a.2 i h)⟩
theorem Kp.set {P : List Nat} {σ : St} {i : Nat} {x : Option V} (h : i ∉ P) : Kp P σ (σ.set i x) := ⟨List.length_set .., fun j hj => by
  rw [List.getElem?_set_ne]
  rintro rfl; exact h hj⟩

def OutS (K : PySem.W.Frag) (T : Tab) (W : WX) (P : List Nat) (J : Js) (σ : St) (H : Hp) (S : Addr → Prop) (fp : Nat → List Addr) (E : Ends) : R (Fl × Env) → Prop
  | .ok (.nx, ρ') => ∀ σ' H' S' fp', Stt K T J.nx S' σ' H' ρ' fp' → Kp P σ σ' → Fra H S (Ow fp) H' S' (Ow fp') → E.nx σ' H'
  | .ok (.bk, ρ') => ∀ σ' H' S' fp', Stt K T J.bk S' σ' H' ρ' fp' → Kp P σ σ' → Fra H S (Ow fp) H' S' (Ow fp') → E.bk σ' H'
  | .ok (.ct, ρ') => ∀ σ' H' S' fp', Stt K T J.ct S' σ' H' ρ' fp' → Kp P σ σ' → Fra H S (Ow fp) H' S' (Ow fp') → E.ct σ' H'
  | .ok (.rt d, ρ') => ∀ v σ' H' S' fp' Fv, Stt K T J.rt S' σ' H' ρ' fp' → Val K T S' H' fp' J.kr d v Fv → Kp P σ σ' → Fra H S (Ow fp) H' S' (fun a => Ow fp' a ∨ a ∈ Fv) → E.rt v H'
  | .er c fs => ∀ σ', Kp P σ σ' → OutX K T W σ' H S (Ow fp) c fs
  | .bad => False
def tS (K : PySem.W.Frag) (T : Tab) (W : WX) (P : List Nat) (J : Js) (Γ : List Nat) (f : Env → R (Fl × Env)) : TS := fun E σ H => ∃ S ρ fp, Stt K T Γ S σ H ρ fp ∧ OutS K T W P J σ H S fp E (f ρ)
abbrev DS (X : Cx) (Z : Cz) (P : List Nat) (J : Js) (Γ : List Nat) (st : Stmt) (f : Env → R (Fl × Env)) : Prop := PS X st (tS X.K Z.T Z.W P J Γ f)
abbrev DSs (X : Cx) (Z : Cz) (P : List Nat) (J : Js) (Γ : List Nat) (st : List Stmt) (f : Env → R (Fl × Env)) : Prop := PSs X st (tS X.K Z.T Z.W P J Γ f)

section
variable {K : PySem.W.Frag} {T : Tab} {W : WX} {P : List Nat} {J J' : Js} {Γ Γ1 Γ2 : List Nat} {k : Nat} {σ σ1 : St} {H H1 : Hp} {S S1 : Addr → Prop} {fp fp1 : Nat → List Addr} {ρ ρ1 : Env} {E : Ends}
theorem OutX.stepσ {c : Nat} {fs : List D} {O : Addr → Prop} (h : OutX K T W σ H S O c fs) : OutX K T W σ H S O c fs := h
theorem OutS.before {r : R (Fl × Env)} (kp : Kp P σ σ1) (f : Fra H S (Ow fp) H1 S1 (Ow fp1)) (h : OutS K T W P J σ H S fp E r) : OutS K T W P J σ1 H1 S1 fp1 E r := by
  match r, h with
  | .ok (.nx, ρ'), h => exact fun σ' H' S' fp' s k g => h σ' H' S' fp' s (kp.trans k) (f.trans g)
  | .ok (.bk, ρ'), h => exact fun σ' H' S' fp' s k g => h σ' H' S' fp' s (kp.trans k) (f.trans g)
  | .ok (.ct, ρ'), h => exact fun σ' H' S' fp' s k g => h σ' H' S' fp' s (kp.trans k) (f.trans g)
  | .ok (.rt d, ρ'), h => exact fun v σ' H' S' fp' Fv s x k g => h v σ' H' S' fp' Fv s x (kp.trans k) (f.trans g)
  | .er c fs, h => exact fun σ' k => OutX.before f (h σ' (kp.trans k))
  | .bad, h => exact h
theorem OutS.er {c : Nat} {fs : List D} (h : OutS K T W P J σ H S fp E (.er c fs)) : OutX K T W σ H S (Ow fp) c fs := h σ Kp.refl
/-- an expression ahead of a statement's end -/
theorem OutE.thenS {r : R (D × Env)} {Γ' : List Nat} {Q' : VK} {g : D × Env → R (Fl × Env)} (h : OutS K T W P J σ H S fp E (r.bind g))
    (go : ∀ d ρ1 v H1 S1 fp1 Fv, r = .ok (d, ρ1) → Stt K T Γ' S1 σ H1 ρ1 fp1 → Val K T S1 H1 fp1 k d v Fv → Fra H S (Ow fp) H1 S1 (fun a => Ow fp1 a ∨ a ∈ Fv) → OutS K T W P J σ H S fp E (g (d, ρ1)) → Q' v H1) : OutE K T W Γ' k σ H S fp Q' r := by
  cases r with
  | ok a =>
    obtain ⟨d, ρ1⟩ := a
    intro v H' S' fp' Fv s x f
    exact go d ρ1 v H' S' fp' Fv rfl s x f h
  | er c fs => exact OutS.er h
  | bad => exact h
theorem OutT.thenS {r : R (Bool × Env)} {Γ' : List Nat} {Q' : Bool → Hp → Prop} {g : Bool × Env → R (Fl × Env)} (h : OutS K T W P J σ H S fp E (r.bind g))
    (go : ∀ b ρ1 H1 S1 fp1, r = .ok (b, ρ1) → Stt K T Γ' S1 σ H1 ρ1 fp1 → Fra H S (Ow fp) H1 S1 (Ow fp1) → OutS K T W P J σ H1 S1 fp1 E (g (b, ρ1)) → Q' b H1) : OutT K T W Γ' σ H S fp Q' r := by
  cases r with
  | ok a =>
    obtain ⟨d, ρ1⟩ := a
    intro H' S' fp' s f
    exact go d ρ1 H' S' fp' rfl s f (OutS.before Kp.refl f h)
  | er c fs => exact OutS.er h
  | bad => exact h
theorem OutA.thenS {r : R (List D × Env)} {Γ' : List Nat} {Q' : List V → Hp → Prop} {g : List D × Env → R (Fl × Env)} (h : OutS K T W P J σ H S fp E (r.bind g))
    (go : ∀ ds ρ1 vs H1 S1 fp1, r = .ok (ds, ρ1) → Stt K T Γ' S1 σ H1 ρ1 fp1 → Reps K T H1 S1 ds vs → Fra H S (Ow fp) H1 S1 (Ow fp1) → OutS K T W P J σ H1 S1 fp1 E (g (ds, ρ1)) → Q' vs H1) : OutA K T W Γ' σ H S fp Q' r := by
  cases r with
  | ok a =>
    obtain ⟨d, ρ1⟩ := a
    intro vs H' S' fp' s r f
    exact go d ρ1 vs H' S' fp' rfl s r f (OutS.before Kp.refl f h)
  | er c fs => exact OutS.er h
  | bad => exact h
/-- a statement ahead of what follows -/
theorem OutS.then {r : R (Fl × Env)} {g : Env → R (Fl × Env)} {nx' : St → Hp → Prop} (h : OutS K T W P J σ H S fp E (r.bind fun (fl, ρ1) => match fl with | .nx => g ρ1 | _ => .ok (fl, ρ1)))
    (go : ∀ ρ1 σ1 H1 S1 fp1, r = .ok (.nx, ρ1) → Stt K T Γ1 S1 σ1 H1 ρ1 fp1 → Kp P σ σ1 → OutS K T W P J σ1 H1 S1 fp1 E (g ρ1) → nx' σ1 H1) : OutS K T W P { J with nx := Γ1 } σ H S fp { E with nx := nx' } r := by
  match r, h with
  | .ok (.nx, ρ'), h => exact fun σ' H' S' fp' s k f => go ρ' σ' H' S' fp' rfl s k (OutS.before k f h)
  | .ok (.bk, ρ'), h => exact h
  | .ok (.ct, ρ'), h => exact h
  | .ok (.rt d, ρ'), h => exact h
  | .er c fs, h => exact h
  | .bad, h => exact h
end

def mSkip : Env → R (Fl × Env) := fun ρ => .ok (.nx, ρ)
def mSeq (f g : Env → R (Fl × Env)) : Env → R (Fl × Env) := fun ρ => (f ρ).bind fun (fl, ρ1) => match fl with
  | .nx => g ρ1
  | _ => .ok (fl, ρ1)
def mSet (i : Nat) (fa : Env → R (D × Env)) : Env → R (Fl × Env) := fun ρ => (fa ρ).bind fun (d, ρ1) => .ok (.nx, ρ1.set i (some d))
def mRet (fa : Env → R (D × Env)) : Env → R (Fl × Env) := fun ρ => (fa ρ).bind fun (d, ρ1) => .ok (.rt d, ρ1)
def mRetN : Env → R (Fl × Env) := fun ρ => .ok (.rt .non, ρ)
def mBrk : Env → R (Fl × Env) := fun ρ => .ok (.bk, ρ)
def mCnt : Env → R (Fl × Env) := fun ρ => .ok (.ct, ρ)
def mDrop (fa : Env → R (D × Env)) : Env → R (Fl × Env) := fun ρ => (fa ρ).bind fun (_, ρ1) => .ok (.nx, ρ1)
def mIfS (ft : Env → R (Bool × Env)) (fa fb : Env → R (Fl × Env)) : Env → R (Fl × Env) := fun ρ => (ft ρ).bind fun (b, ρ1) => if b = true then fa ρ1 else fb ρ1

section
variable {X : Cx} {C : Cz} {P : List Nat} {J : Js} {Γ Γ' Γ1 Γ2 : List Nat} {k i j : Nat} {x y : Str} {pos p p2 : Pos} {a b e : Expr} {es : List Expr} {fa fb : Env → R (D × Env)} {ta tb : Env → R (Bool × Env)} {fs : Env → R (List D × Env)} {st : Stmt} {sts s2 : List Stmt} {f g : Env → R (Fl × Env)}
theorem pss_imp {t t' : TS} (h : PSs X sts t) (i : ∀ E σ H, t' E σ H → t E σ H) : PSs X sts t' := ⟨fun pins s σ H E I q => h.run pins s σ H E I (i E σ H q)⟩
theorem ps_imp {t t' : TS} (h : PS X st t) (i : ∀ E σ H, t' E σ H → t E σ H) : PS X st t' := ⟨fun pins s σ H E I q => h.run pins s σ H E I (i E σ H q)⟩
theorem dss_nil (h : J.nx = Γ := by rfl) : DSs X C P J Γ [] mSkip := pss_imp pss_nil fun E σ H h' => by
  subst h
  obtain ⟨S, ρ, fp, s, h'⟩ := h'
  exact h' σ H S fp s Kp.refl Fra.refl
theorem dss_cons (ha : DS X C P { J with nx := Γ1 } Γ st f) (hb : DSs X C P J Γ1 sts g) : DSs X C P J Γ (st :: sts) (mSeq f g) := pss_imp (pss_cons ha hb) fun E σ H h => by
  obtain ⟨S, ρ, fp, s, h⟩ := h
  exact ⟨S, ρ, fp, s, OutS.then h fun ρ1 σ1 H1 S1 fp1 e1 s1 k1 h1 => ⟨S1, ρ1, fp1, s1, h1⟩⟩
theorem dss_one (ha : DS X C P J Γ st f) : DSs X C P J Γ [st] f := pss_one ha
theorem ds_pass (h : J.nx = Γ := by rfl) : DS X C P J Γ (.Pass pos) mSkip := ps_imp ps_pass fun E σ H h' => by
  subst h
  obtain ⟨S, ρ, fp, s, h'⟩ := h'
  exact h' σ H S fp s Kp.refl Fra.refl
theorem ds_brk (h : J.bk = Γ := by rfl) : DS X C P J Γ (.Break pos) mBrk := ps_imp ps_break fun E σ H h' => by
  subst h
  obtain ⟨S, ρ, fp, s, h'⟩ := h'
  exact h' σ H S fp s Kp.refl Fra.refl
theorem ds_cnt (h : J.ct = Γ := by rfl) : DS X C P J Γ (.Continue pos) mCnt := ps_imp ps_continue fun E σ H h' => by
  subst h
  obtain ⟨S, ρ, fp, s, h'⟩ := h'
  exact h' σ H S fp s Kp.refl Fra.refl
theorem ds_ret (ha : DE X C Γ e Γ1 k fa) (h1 : J.rt = Γ1 := by rfl) (h2 : J.kr = k := by rfl) : DS X C P J Γ (.Return (some e) pos) (mRet fa) := ps_imp (ps_ret ha) fun E σ H h => by
  subst h1 h2
  obtain ⟨S, ρ, fp, s, h⟩ := h
  exact ⟨S, ρ, fp, s, OutE.thenS h fun d ρ1 v H1 S1 fp1 Fv e1 s1 x1 f1 h1 => h1 v σ H1 S1 fp1 Fv s1 x1 Kp.refl f1⟩
theorem ds_retN (h1 : J.rt = Γ := by rfl) : DS X C P J Γ (.Return none pos) mRetN := ps_imp ps_retN fun E σ H h => by
  subst h1
  obtain ⟨S, ρ, fp, s, h⟩ := h
  refine h .non σ H S fp [] s ⟨?_, List.nodup_nil, fun a h => (nomatch h), fun a h => (nomatch h)⟩ Kp.refl Fra.refl.ow'
  cases J.kr with
  | zero => exact own_zero.mpr ⟨rfl, by simp [Rep]⟩
  | succ k => simp [Own, Rep]
theorem ds_drop (ha : DE X C Γ e Γ1 0 fa) (h1 : J.nx = Γ1 := by rfl) (hs : swapsWith e none pos.line X.env = pure false := by rfl) : DS X C P J Γ (.Expr e pos) (mDrop fa) := ps_imp (ps_expr ha hs) fun E σ H h => by
  subst h1
  obtain ⟨S, ρ, fp, s, h⟩ := h
  exact ⟨S, ρ, fp, s, OutE.thenS h fun d ρ1 v H1 S1 fp1 Fv e1 s1 x1 f1 h1 => h1 σ H1 S1 fp1 s1 Kp.refl (f1.less fun b z => .inl z)⟩
theorem ds_if {cnd : Expr} (hc : DT X C Γ cnd Γ1 ta) (ha : DSs X C P J Γ1 sts f) (hb : DSs X C P J Γ1 s2 g) : DS X C P J Γ (.If cnd sts s2 pos) (mIfS ta f g) := ps_imp (ps_if hc ha hb) fun E σ H h => by
  obtain ⟨S, ρ, fp, s, h⟩ := h
  refine ⟨S, ρ, fp, s, OutT.thenS h fun b ρ1 H1 S1 fp1 e1 s1 f1 h1 => ?_⟩
  cases b with
  | true => exact ⟨S1, ρ1, fp1, s1, h1⟩
  | false => exact ⟨S1, ρ1, fp1, s1, h1⟩
/-- at the end of a block what i owns is shared -/
theorem dss_wk (i : Nat) (Γn : List Nat) (h : DSs X C P { J with nx := Γn } Γ sts f) (e : J.nx = Γn.set i 0 := by rfl) : DSs X C P J Γ sts f := pss_imp h fun E σ H h => by
  obtain ⟨S, ρ, fp, s, h⟩ := h
  refine ⟨S, ρ, fp, s, ?_⟩
  revert h
  generalize f ρ = r
  intro h
  match r, h with
  | .ok (.nx, ρ'), h => exact fun σ' H' S' fp' s' k f' => h σ' H' _ _ (by rw [e]; exact s'.give i) k (f'.trans (Fra.give s'.sep i))
  | .ok (.bk, ρ'), h => exact h
  | .ok (.ct, ρ'), h => exact h
  | .ok (.rt d, ρ'), h => exact h
  | .er c fs, h => exact h
  | .bad, h => exact h
/-- x = e; t0: the reading of e that the store's rule has -/
theorem ds_set {t0 : TE} (hps : PS X (.Assign [.Name x p] e pos) (tAsg t0 (gName i))) (h0 : ∀ σ H Q, tE X.K C.T C.W Γ Γ1 k fa σ H Q → t0 σ H Q) (hi : i < Γ1.length := by decide) (hp : i ∉ P := by decide) (h1 : J.nx = Γ1.set i k := by rfl) :
    DS X C P J Γ (.Assign [.Name x p] e pos) (mSet i fa) := ps_imp hps fun E σ H h => by
  obtain ⟨S, ρ, fp, s, h⟩ := h
  refine h0 σ H _ ⟨S, ρ, fp, s, OutE.thenS h fun d ρ1 v H1 S1 fp1 Fv e1 s1 x1 f1 h2 => ?_⟩
  exact h2 _ H1 S1 _ (by rw [h1]; exact s1.put hi x1) (Kp.set hp) (f1.trans Fra.put)
end

/-! ### targets -/
def tGt (K : PySem.W.Frag) (T : Tab) (P Γ Γ' : List Nat) (g : D → Env → Option Env) : TG := fun v σ H Q => ∃ S ρ fp d, Stt K T Γ S σ H ρ fp ∧ Rep K T H S d v ∧ match g d ρ with
  | some ρ' => ∀ σ' H' S' fp', Stt K T Γ' S' σ' H' ρ' fp' → Kp P σ σ' → Fra H S (Ow fp) H' S' (Ow fp') → Q σ' H'
  | none => False
def tGs (K : PySem.W.Frag) (T : Tab) (P Γ Γ' : List Nat) (g : List D → Env → Option Env) : TGs := fun vs σ H Q => ∃ S ρ fp ds, Stt K T Γ S σ H ρ fp ∧ Reps K T H S ds vs ∧ match g ds ρ with
  | some ρ' => ∀ σ' H' S' fp', Stt K T Γ' S' σ' H' ρ' fp' → Kp P σ σ' → Fra H S (Ow fp) H' S' (Ow fp') → Q σ' H'
  | none => False
abbrev DG (X : Cx) (Z : Cz) (P Γ : List Nat) (tg : Expr) (Γ' : List Nat) (g : D → Env → Option Env) : Prop := PG X tg (tGt X.K Z.T P Γ Γ' g)
abbrev DGs (X : Cx) (Z : Cz) (P Γ : List Nat) (tg : List Expr) (Γ' : List Nat) (g : List D → Env → Option Env) : Prop := PGs X tg (tGs X.K Z.T P Γ Γ' g)
def gtN (i : Nat) : D → Env → Option Env := fun d ρ => some (ρ.set i (some d))
def gtT (n : Nat) (g : List D → Env → Option Env) : D → Env → Option Env := fun d ρ => match d with
  | .tup xs => if xs.length = n then g xs ρ else none
  | _ => none
def gtNil : List D → Env → Option Env := fun ds ρ => match ds with
  | [] => some ρ
  | _ => none
def gtCons (g : D → Env → Option Env) (gs : List D → Env → Option Env) : List D → Env → Option Env := fun ds ρ => match ds with
  | d :: r => (g d ρ).bind fun ρ1 => gs r ρ1
  | [] => none
def mAsg (g : D → Env → Option Env) (fa : Env → R (D × Env)) : Env → R (Fl × Env) := fun ρ => (fa ρ).bind fun (d, ρ1) => (ofO (g d ρ1)).bind fun ρ2 => .ok (.nx, ρ2)
def mPar (i j : Nat) (fs : Env → R (List D × Env)) : Env → R (Fl × Env) := fun ρ => (fs ρ).bind fun (ds, ρ1) => match ds with
  | [d, e] => .ok (.nx, (ρ1.set i (some d)).set j (some e))
  | _ => .bad
def mAug (i : Nat) (g : D → D → Option D) (fb : Env → R (D × Env)) : Env → R (Fl × Env) := fun ρ => match ρ[i]? with
  | some (some x) => (fb ρ).bind fun (y, ρ1) => (ofO (g x y)).bind fun d => .ok (.nx, ρ1.set i (some d))
  | _ => .bad
section
variable {X : Cx} {C : Cz} {P : List Nat} {J : Js} {Γ Γ' Γ1 Γ2 : List Nat} {k i j : Nat} {x y : Str} {pos p p2 : Pos} {a b e tg : Expr} {es : List Expr} {fa fb : Env → R (D × Env)} {ta tb : Env → R (Bool × Env)} {fs : Env → R (List D × Env)} {g1 : D → Env → Option Env} {gs : List D → Env → Option Env}
theorem pg_imp {t t' : TG} (h : PG X tg t) (i : ∀ v σ H Q, t' v σ H Q → t v σ H Q) : PG X tg t' := ⟨fun pins s σ H v u Q I r q => h.run pins s σ H v u Q I r (i v σ H Q q)⟩
theorem pgs_imp {t t' : TGs} (h : PGs X es t) (i : ∀ v σ H Q, t' v σ H Q → t v σ H Q) : PGs X es t' := ⟨fun pins s σ H v u Q I r q => h.run pins s σ H v u Q I r (i v σ H Q q)⟩
theorem dg_name (hn : PG X (.Name x p) (gName i)) (hi : i < Γ.length := by decide) (hp : i ∉ P := by decide) (hΓ : Γ.set i 0 = Γ' := by rfl) : DG X C P Γ (.Name x p) Γ' (gtN i) := pg_imp hn fun v σ H Q h => by
  subst hΓ
  obtain ⟨S, ρ, fp, d, s, r, h⟩ := h
  exact h _ H S _ (s.put hi (.of r)) (Kp.set hp) (Fra.trans (Fra.refl.ow') Fra.put)
theorem dgs_nil : DGs X C P Γ [] Γ gtNil := pgs_imp pgs_nil fun vs σ H Q h => by
  obtain ⟨S, ρ, fp, ds, s, r, h⟩ := h
  cases ds with
  | nil => simp only [Reps] at r; exact ⟨r, h σ H S fp s Kp.refl Fra.refl⟩
  | cons d r => exact h.elim
theorem dgs_cons (h1 : DG X C P Γ e Γ1 g1) (h2 : DGs X C P Γ1 es Γ2 gs) (hs : (assignEach (e :: es) X.env).map (·.2) = assign e X.env :: (assignEach es X.env).map (·.2) := by rfl) : DGs X C P Γ (e :: es) Γ2 (gtCons g1 gs) := pgs_imp (pgs_cons h1 h2 hs) fun vs σ H Q h => by
  obtain ⟨S, ρ, fp, ds, s, r, h⟩ := h
  cases ds with
  | nil => exact h.elim
  | cons d dr =>
    simp only [Reps] at r
    obtain ⟨v, ws, rfl, r1, r2⟩ := r
    refine ⟨v, ws, rfl, S, ρ, fp, d, s, r1, ?_⟩
    simp only [gtCons] at h
    cases q : g1 d ρ with
    | none => rw [q] at h; exact h.elim
    | some ρ1 =>
      rw [q] at h
      intro σ1 H1 S1 fp1 s1 k1 f1
      refine ⟨S1, ρ1, fp1, dr, s1, s.reps_fra r2 f1, ?_⟩
      dsimp only [Option.bind_some] at h
      cases q2 : gs dr ρ1 with
      | none => rw [q2] at h; exact h.elim
      | some ρ2 =>
        rw [q2] at h
        exact fun σ' H' S' fp' s' k' f' => h σ' H' S' fp' s' (k1.trans k') (f1.trans f')
theorem dg_tup {n m : Nat} (hc : X.calm = true) (h : DGs X C P Γ es Γ1 gs) (hn : (assignEach es X.env).length = n := by rfl) (hst : (assignEach es X.env).findIdx? (·.1) = none := by rfl) : DG X C P Γ (.Tuple es m pos) Γ1 (gtT n gs) := pg_imp (pg_tup hc h hn hst) fun v σ H Q h => by
  obtain ⟨S, ρ, fp, d, s, r, h⟩ := h
  cases d with
  | tup xs =>
    simp only [Rep] at r
    obtain ⟨a, vs, rfl, t, r⟩ := r
    by_cases hl : xs.length = n
    · simp only [gtT, if_pos hl] at h
      exact ⟨a, vs, rfl, t, by rw [← r.length]; exact hl, S, ρ, fp, xs, s, r, h⟩
    · simp only [gtT, if_neg hl] at h
  | _ => exact h.elim
theorem ds_asg (ha : DE X C Γ e Γ1 0 fa) (hg : DG X C P Γ1 tg Γ2 g1) (h1 : J.nx = Γ2 := by rfl) (hs : swapsWithSole [tg] e pos.line X.env = pure false := by rfl) (hw : swappedStores [tg] e X.env = pure none := by rfl)
    (hx : (assignEach [tg] X.env).map (·.2) = [assign tg X.env] := by rfl) : DS X C P J Γ (.Assign [tg] e pos) (mAsg g1 fa) := ps_imp (ps_asg ha hg hs hw hx) fun E σ H h => by
  subst h1
  obtain ⟨S, ρ, fp, s, h⟩ := h
  refine ⟨S, ρ, fp, s, OutE.thenS h fun d ρ1 v H1 S1 fp1 Fv e1 s1 x1 f1 h2 => ?_⟩
  obtain ⟨e2, r⟩ := x1.rep
  subst e2
  refine ⟨S1, ρ1, fp1, d, s1, r, ?_⟩
  dsimp only at h2
  cases q : g1 d ρ1 with
  | none => rw [q] at h2; exact h2.elim
  | some ρ2 =>
    rw [q] at h2
    exact fun σ' H' S' fp' s' k' f' => h2 σ' H' S' fp' s' k' (f1.ow.trans f')
/-- a, b = e1, e2 -/
theorem ds_par {px py pt : Pos} {kt k2 : Nat} {pt2 : Pos} (hps : PS X (.Assign [.Tuple [.Name x px, .Name y py] kt pt] (.Tuple [a, b] k2 pt2) pos) (tPar i j (tA X.K C.T C.W Γ Γ1 fs))) (hi : i < Γ1.length := by decide) (hj : j < Γ1.length := by decide)
    (hp : i ∉ P := by decide) (hq : j ∉ P := by decide) (h1 : J.nx = (Γ1.set i 0).set j 0 := by rfl) : DS X C P J Γ (.Assign [.Tuple [.Name x px, .Name y py] kt pt] (.Tuple [a, b] k2 pt2) pos) (mPar i j fs) := ps_imp hps fun E σ H h => by
  obtain ⟨S, ρ, fp, s, h⟩ := h
  refine ⟨S, ρ, fp, s, OutA.thenS h fun ds ρ1 vs H1 S1 fp1 e1 s1 r1 f1 h2 => ?_⟩
  dsimp only at h2
  match ds, r1, h2 with
  | [d, e], rr, hh =>
    simp only [Reps] at rr
    obtain ⟨v, ws, ev, q1, w, us, ew, q2, eu⟩ := rr
    subst ev ew eu
    refine ⟨v, w, rfl, ?_⟩
    have s2 := s1.put hi (.of q1)
    have s3 := s2.put (i := j) (by simpa using hj) (.of q2)
    exact hh _ H1 S1 _ (by rw [h1]; exact s3) (Kp.trans (Kp.set hp) (Kp.set hq)) ((Fra.trans Fra.refl.ow' Fra.put).trans (Fra.trans Fra.refl.ow' Fra.put))
theorem ds_aug {op : Operator} {r : R2} {g : D → D → Option D} (ho : OpR X (inplaceOp op) r) (hr : Prim2 X.K C.T 0 r g) (hps : ∀ te, PE X e te → PS X (.AugAssign (.Name x p) op e pos) (tAug i te r)) (hb : DE X C Γ e Γ1 0 fb) (hk : Γ.getD i 0 = 0 := by rfl) (hi : i < Γ1.length := by decide) (hp : i ∉ P := by decide)
    (h1 : J.nx = Γ1.set i 0 := by rfl) : DS X C P J Γ (.AugAssign (.Name x p) op e pos) (mAug i g fb) := ps_imp (hps _ hb) fun E σ H h => by
  obtain ⟨S, ρ, fp, s, h⟩ := h
  unfold mAug at h
  split at h
  · rename_i dx q
    obtain ⟨v, hv, o⟩ := s.sl i dx q
    rw [hk] at o
    obtain ⟨e0, rx⟩ := own_zero.mp o
    refine ⟨v, hv, S, ρ, fp, s, OutE.thenS h fun d ρ1 w H1 S1 fp1 Fv e1 s1 x1 f1 h2 => ?_⟩
    obtain ⟨e2, rw1⟩ := x1.rep
    subst e2
    dsimp only at h2
    cases q2 : g dx d with
    | none => rw [q2] at h2; exact h2.elim
    | some z =>
      rw [q2] at h2
      refine gives_out (Γ := Γ1) (k := 0) (W := C.W) (ρ := ρ1) s1 (hr S1 H1 dx d v w z (s.rep_fra rx f1) rw1 q2) ?_
      intro v3 H3 S3 fp3 F3 s3 x3 f3
      obtain ⟨e3, r3⟩ := x3.rep
      subst e3
      exact h2 _ H3 S3 _ (by rw [h1]; exact s3.put hi (.of r3)) (Kp.set hp) ((f1.ow.trans f3.ow).trans (Fra.trans Fra.refl.ow' Fra.put))
  · exact h.elim
end
end Z
set_option Elab.async false
set_option linter.all false
set_option maxRecDepth 100000
/-! Z5: loops and comprehensions -/
namespace Z
open PySem PySem.Spec L2
open PyProof.Rows hiding St

/-- an iterator that walks the data ds, wherever the shared stays -/
structure ItOk (K : PySem.W.Frag) (T : Tab) (S : Addr → Prop) (H : Hp) (J : It) (ds : List D) : Prop where
  stop : ∀ S' H', Stay K H S H' S' → ∀ i, ds.length ≤ i → J.stop i H'
  go : ∀ S' H', Stay K H S H' S' → ∀ (i : Nat) d, ds[i]? = some d → J.go i H'
  yld : ∀ S' H', Stay K H S H' S' → ∀ (i : Nat) d, ds[i]? = some d → ∀ x H2, J.yld i H' x H2 → (∀ b o, H' b = some o → H2 b = some o) ∧ Rep K T H2 S' d x
def OutI (K : PySem.W.Frag) (T : Tab) (W : WX) (Γ' : List Nat) (σ : St) (H : Hp) (S : Addr → Prop) (fp : Nat → List Addr) (Q : It → Hp → Prop) : R (List D × Env) → Prop
  | .ok (ds, ρ') => ∀ J H' S' fp', Stt K T Γ' S' σ H' ρ' fp' → ItOk K T S' H' J ds → Fra H S (Ow fp) H' S' (Ow fp') → Q J H'
  | .er c fs => OutX K T W σ H S (Ow fp) c fs
  | .bad => False
def tI (K : PySem.W.Frag) (T : Tab) (W : WX) (Γ Γ' : List Nat) (f : Env → R (List D × Env)) : TI := fun σ H Q => ∃ S ρ fp, Stt K T Γ S σ H ρ fp ∧ OutI K T W Γ' σ H S fp Q (f ρ)
abbrev DI (X : Cx) (Z : Cz) (tg : Expr) (Γ : List Nat) (e : Expr) (Γ' : List Nat) (f : Env → R (List D × Env)) : Prop := PI X tg e (tI X.K Z.T Z.W Γ Γ' f)

section
variable {K : PySem.W.Frag} {T : Tab} {S S1 S2 : Addr → Prop} {H H1 H2 : Hp} {J : It} {ds : List D}
theorem Stay.refl : Stay K H S H S := Stay.more fun _ h => h
theorem Stay.trans (a : Stay K H S H1 S1) (b : Stay K H1 S1 H2 S2) : Stay K H S H2 S2 :=
  ⟨fun x vs h s => let ⟨h', s'⟩ := a.l x vs h s; b.l x vs h' s', fun x vs h => b.c x vs (a.c x vs h), fun x vs h => b.t x vs (a.t x vs h), fun x C dx fs h s => let ⟨h', s'⟩ := a.i x C dx fs h s; b.i x C dx fs h' s', fun x xs h => b.x x xs (a.x x xs h)⟩
theorem it_list {a : Addr} {vs : List V} (r : Reps K T H S ds vs) (h : H a = some (.lst vs)) (s : S a) : ItOk K T S H (Itl K a) ds := by
  refine ⟨fun S' H' st i hi => ?_, fun S' H' st i d hd => ?_, fun S' H' st i d hd x H2 hy => ?_⟩
  · exact ⟨vs, .inl (.inl (st.l a vs h s).1), by rw [← r.length]; exact hi⟩
  · obtain ⟨v, hv, _⟩ := r.get hd
    exact ⟨vs, v, .inl (.inl (st.l a vs h s).1), hv⟩
  · obtain ⟨e, hy⟩ := hy
    subst e
    obtain ⟨v, hv, rv⟩ := r.get hd
    have := hy vs (.inl (.inl (st.l a vs h s).1))
    rw [hv] at this; cases this
    exact ⟨fun _ _ h => h, st.rep rv⟩
theorem it_tup {a : Addr} {vs : List V} (r : Reps K T H S ds vs) (h : SqT K H a vs) : ItOk K T S H (Itt K a) ds := by
  refine ⟨fun S' H' st i hi => ?_, fun S' H' st i d hd => ?_, fun S' H' st i d hd x H2 hy => ?_⟩
  · exact ⟨vs, st.t a vs h, by rw [← r.length]; exact hi⟩
  · obtain ⟨v, hv, _⟩ := r.get hd
    exact ⟨vs, v, st.t a vs h, hv⟩
  · obtain ⟨e, hy⟩ := hy
    subst e
    obtain ⟨v, hv, rv⟩ := r.get hd
    have := hy vs (st.t a vs h)
    rw [hv] at this; cases this
    exact ⟨fun _ _ h => h, st.rep rv⟩
def intsFrom (lo : Int) (n : Nat) : List D := (List.range n).map fun (i : Nat) => .int (lo + (i : Int))
theorem intsFrom_length {lo : Int} {n : Nat} : (intsFrom lo n).length = n := by simp [intsFrom]
theorem intsFrom_get {lo : Int} {n i : Nat} {d : D} (h : (intsFrom lo n)[i]? = some d) : i < n ∧ d = .int (lo + (i : Int)) := by
  unfold intsFrom at h
  rw [List.getElem?_map] at h
  cases q : (List.range n)[i]? with
  | none => rw [q] at h; cases h
  | some j =>
    rw [q] at h
    have hl : i < n := by
      have := (List.getElem?_eq_some_iff.mp q).1
      simpa using this
    rw [List.getElem?_range hl] at q
    cases q
    cases h
    exact ⟨hl, rfl⟩
theorem it_range {lo : Int} {n : Nat} : ItOk K T S H (Itr lo n) (intsFrom lo n) := by
  refine ⟨fun S' H' st i hi => by rw [intsFrom_length] at hi; exact hi, fun S' H' st i d hd => (intsFrom_get hd).1, fun S' H' st i d hd x H2 hy => ?_⟩
  obtain ⟨e, hy⟩ := hy
  subst e hy
  rw [(intsFrom_get hd).2]
  exact ⟨fun _ _ h => h, by simp [Rep]⟩
end

def mItL (fa : Env → R (D × Env)) : Env → R (List D × Env) := fun ρ => (fa ρ).bind fun (d, ρ1) => match d with
  | .lst xs => .ok (xs, ρ1)
  | _ => .bad
def mItT (fa : Env → R (D × Env)) : Env → R (List D × Env) := fun ρ => (fa ρ).bind fun (d, ρ1) => match d with
  | .tup xs => .ok (xs, ρ1)
  | _ => .bad
def inLine (i : Int) : Bool := decide (-(2 ^ 62) ≤ i) && decide (i < 2 ^ 62)
def asI1 : List D → Option Int
  | [.int j] => some j
  | _ => none
def asI2 : List D → Option (Int × Int)
  | [.int i, .int j] => some (i, j)
  | _ => none
theorem asI1_of : ∀ {ds : List D} {j : Int}, asI1 ds = some j → ds = [.int j]
  | [.int j], _, h => by cases h; rfl
theorem asI2_of : ∀ {ds : List D} {p : Int × Int}, asI2 ds = some p → ds = [.int p.1, .int p.2]
  | [.int i, .int j], _, h => by cases h; rfl
def mItR1 (fs : Env → R (List D × Env)) : Env → R (List D × Env) := fun ρ => (fs ρ).bind fun (ds, ρ1) => match asI1 ds with
  | some j => if inLine j = true then .ok (intsFrom 0 j.toNat, ρ1) else .bad
  | none => .bad
def mItR2 (fs : Env → R (List D × Env)) : Env → R (List D × Env) := fun ρ => (fs ρ).bind fun (ds, ρ1) => match asI2 ds with
  | some (i, j) => if (inLine i && inLine j) = true then .ok (intsFrom i (j - i).toNat, ρ1) else .bad
  | none => .bad

section
variable {X : Cx} {C : Cz} {P : List Nat} {J : Js} {Γ Γ' Γ1 Γ2 : List Nat} {k i j : Nat} {x y : Str} {pos p p2 : Pos} {a b e tg : Expr} {es : List Expr} {fa fb : Env → R (D × Env)} {ta tb : Env → R (Bool × Env)} {fs : Env → R (List D × Env)}
theorem pi_imp {t t' : TI} (h : PI X tg e t) (i : ∀ σ H Q, t' σ H Q → t σ H Q) : PI X tg e t' := ⟨fun pins s σ H Q I q => h.run pins s σ H Q I (i σ H Q q)⟩
theorem inLine_of {i : Int} (h : inLine i = true) : -(2 ^ 62) ≤ i ∧ i < 2 ^ 62 := by
  unfold inLine at h
  rw [Bool.and_eq_true] at h
  exact ⟨of_decide_eq_true h.1, of_decide_eq_true h.2⟩
theorem OutE.thenI {K : PySem.W.Frag} {T : Tab} {W : WX} {σ : St} {H : Hp} {S : Addr → Prop} {fp : Nat → List Addr} {r : R (D × Env)} {Q' : VK} {Q : It → Hp → Prop} {g : D × Env → R (List D × Env)} (h : OutI K T W Γ2 σ H S fp Q (r.bind g))
    (go : ∀ d ρ1 v H1 S1 fp1, r = .ok (d, ρ1) → Stt K T Γ' S1 σ H1 ρ1 fp1 → Rep K T H1 S1 d v → Fra H S (Ow fp) H1 S1 (Ow fp1) → OutI K T W Γ2 σ H S fp Q (g (d, ρ1)) → Q' v H1) : OutE K T W Γ' 0 σ H S fp Q' r := by
  cases r with
  | ok a =>
    obtain ⟨d, ρ1⟩ := a
    intro v H' S' fp' Fv s x f
    obtain ⟨e, rr⟩ := x.rep
    subst e
    exact go d ρ1 v H' S' fp' rfl s rr f.ow h
  | er c fs => exact h
  | bad => exact h
theorem OutA.thenI {K : PySem.W.Frag} {T : Tab} {W : WX} {σ : St} {H : Hp} {S : Addr → Prop} {fp : Nat → List Addr} {r : R (List D × Env)} {Q' : List V → Hp → Prop} {Q : It → Hp → Prop} {g : List D × Env → R (List D × Env)} (h : OutI K T W Γ2 σ H S fp Q (r.bind g))
    (go : ∀ d ρ1 v H1 S1 fp1, r = .ok (d, ρ1) → Stt K T Γ' S1 σ H1 ρ1 fp1 → Reps K T H1 S1 d v → Fra H S (Ow fp) H1 S1 (Ow fp1) → OutI K T W Γ2 σ H S fp Q (g (d, ρ1)) → Q' v H1) : OutA K T W Γ' σ H S fp Q' r := by
  cases r with
  | ok a =>
    obtain ⟨d, ρ1⟩ := a
    intro v H' S' fp' s rr f
    exact go d ρ1 v H' S' fp' rfl s rr f h
  | er c fs => exact h
  | bad => exact h
theorem di_list (ha : DE X C Γ e Γ1 0 fa) : DI X C tg Γ e Γ1 (mItL fa) := pi_imp (pi_list ha) fun σ H Q h => by
  obtain ⟨S, ρ, fp, s, h⟩ := h
  refine ⟨S, ρ, fp, s, OutE.thenI h fun d ρ1 v H1 S1 fp1 e1 s1 r1 f1 h1 => ?_⟩
  cases d with
  | lst xs =>
    simp only [Rep] at r1
    obtain ⟨a, vs, rfl, h2, sa, r⟩ := r1
    exact ⟨a, rfl, ⟨vs, .inl (.inl h2)⟩, h1 _ H1 S1 fp1 s1 (it_list r h2 sa) f1⟩
  | _ => exact h1.elim
theorem di_tup (ha : DE X C Γ e Γ1 0 fa) : DI X C tg Γ e Γ1 (mItT fa) := pi_imp (pi_tup ha) fun σ H Q h => by
  obtain ⟨S, ρ, fp, s, h⟩ := h
  refine ⟨S, ρ, fp, s, OutE.thenI h fun d ρ1 v H1 S1 fp1 e1 s1 r1 f1 h1 => ?_⟩
  cases d with
  | tup xs =>
    simp only [Rep] at r1
    obtain ⟨a, vs, rfl, h2, r⟩ := r1
    exact ⟨a, rfl, ⟨vs, h2⟩, h1 _ H1 S1 fp1 s1 (it_tup r h2) f1⟩
  | _ => exact h1.elim
theorem reps_ints1 {K : PySem.W.Frag} {T : Tab} {S : Addr → Prop} {H : Hp} {i : Int} {vs : List V} (h : Reps K T H S [.int i] vs) : vs = [.int i] := by
  simp only [Reps, Rep] at h
  obtain ⟨v, ws, rfl, rfl, rfl⟩ := h
  rfl
theorem reps_ints2 {K : PySem.W.Frag} {T : Tab} {S : Addr → Prop} {H : Hp} {i j : Int} {vs : List V} (h : Reps K T H S [.int i, .int j] vs) : vs = [.int i, .int j] := by
  simp only [Reps, Rep] at h
  obtain ⟨v, ws, rfl, rfl, v2, w2, rfl, rfl, rfl⟩ := h
  rfl
theorem di_range1 (hg : Gl X "range") (hm : X.mg "range" = none) (ha : DA X C Γ [a] Γ1 fs) (hs : starEach [a] X.env = [(false, eval a X.env)] := by rfl) : DI X C tg Γ (.Call (.Name "range" p) [a] [] pos) Γ1 (mItR1 fs) := pi_imp (pi_range1 hg hm ha hs) fun σ H Q h => by
  obtain ⟨S, ρ, fp, s, h⟩ := h
  refine ⟨S, ρ, fp, s, OutA.thenI h fun ds ρ1 vs H1 S1 fp1 e1 s1 r1 f1 h1 => ?_⟩
  dsimp only at h1
  cases q : asI1 ds with
  | none => rw [q] at h1; exact h1.elim
  | some j =>
    rw [q] at h1
    rw [asI1_of q] at r1
    have e := reps_ints1 r1
    subst e
    by_cases hl : inLine j = true
    · simp only [if_pos hl] at h1
      obtain ⟨l1, l2⟩ := inLine_of hl
      exact ⟨j, rfl, l1, l2, h1 _ H1 S1 fp1 s1 it_range f1⟩
    · simp only [if_neg hl] at h1; exact h1.elim
theorem di_range2 (hg : Gl X "range") (hm : X.mg "range" = none) (ha : DA X C Γ [a, b] Γ1 fs) (hs : starEach [a, b] X.env = [(false, eval a X.env), (false, eval b X.env)] := by rfl) (hs2 : starEach [b] X.env = [(false, eval b X.env)] := by rfl) :
    DI X C tg Γ (.Call (.Name "range" p) [a, b] [] pos) Γ1 (mItR2 fs) := pi_imp (pi_range2 hg hm ha hs hs2) fun σ H Q h => by
  obtain ⟨S, ρ, fp, s, h⟩ := h
  refine ⟨S, ρ, fp, s, OutA.thenI h fun ds ρ1 vs H1 S1 fp1 e1 s1 r1 f1 h1 => ?_⟩
  dsimp only at h1
  cases q : asI2 ds with
  | none => rw [q] at h1; exact h1.elim
  | some ij =>
    obtain ⟨i, j⟩ := ij
    rw [q] at h1
    rw [asI2_of q] at r1
    have e := reps_ints2 r1
    subst e
    by_cases hl : (inLine i && inLine j) = true
    · simp only [if_pos hl] at h1
      rw [Bool.and_eq_true] at hl
      obtain ⟨l1, l2⟩ := inLine_of hl.1
      obtain ⟨l3, l4⟩ := inLine_of hl.2
      exact ⟨i, j, rfl, ⟨l1, l2, l3, l4⟩, h1 _ H1 S1 fp1 s1 it_range f1⟩
    · simp only [if_neg hl] at h1; exact h1.elim
end

/-! ### for -/
def mForL (g : D → Env → Option Env) (fb : Env → R (Fl × Env)) : List D → Env → R (Fl × Env)
  | [], ρ => .ok (.nx, ρ)
  | d :: r, ρ => (ofO (g d ρ)).bind fun ρ1 => (fb ρ1).bind fun (fl, ρ2) => match fl with
    | .nx => mForL g fb r ρ2
    | .ct => mForL g fb r ρ2
    | .bk => .ok (.nx, ρ2)
    | .rt d => .ok (.rt d, ρ2)
def mFor (src : Env → R (List D × Env)) (g : D → Env → Option Env) (fb : Env → R (Fl × Env)) : Env → R (Fl × Env) := fun ρ => (src ρ).bind fun (ds, ρ1) => mForL g fb ds ρ1
def mWhile (n : Nat) (ft : Env → R (Bool × Env)) (fb : Env → R (Fl × Env)) : Env → R (Fl × Env) := match n with
  | 0 => fun _ => .bad
  | n + 1 => fun ρ => (ft ρ).bind fun (b, ρ1) => if b = true then (fb ρ1).bind fun (fl, ρ2) => match fl with
      | .nx => mWhile n ft fb ρ2
      | .ct => mWhile n ft fb ρ2
      | .bk => .ok (.nx, ρ2)
      | .rt d => .ok (.rt d, ρ2)
    else .ok (.nx, ρ1)
section
variable {X : Cx} {C : Cz} {P : List Nat} {J : Js} {Γ Γ' Γ1 Γ2 : List Nat} {k i j n : Nat} {x y : Str} {pos p p2 : Pos} {a b e tg iter : Expr} {es : List Expr} {ft : Env → R (Bool × Env)} {src : Env → R (List D × Env)} {g : D → Env → Option Env} {fb : Env → R (Fl × Env)} {body : List Stmt}
theorem drop_cons {α : Type} {l : List α} {i : Nat} {d : α} (h : l[i]? = some d) : l.drop i = d :: l.drop (i + 1) := by
  obtain ⟨hl, e⟩ := List.getElem?_eq_some_iff.mp h
  rw [List.drop_eq_getElem_cons hl, e]
theorem for_data {E : Ends} {σ : St} {H : Hp} (hΓ : J.nx = Γ1) (h : tS X.K C.T C.W P J Γ (mFor src g fb) E σ H) : tFor (tI X.K C.T C.W Γ Γ1 src) (tGt X.K C.T P Γ1 Γ2 g) (tS X.K C.T C.W P { J with nx := Γ1, ct := Γ1, bk := J.nx } Γ2 fb) E σ H := by
  obtain ⟨S, ρ, fp, s, h⟩ := h
  refine ⟨S, ρ, fp, s, ?_⟩
  unfold mFor at h
  cases q : src ρ with
  | er c fs => rw [q] at h; exact OutS.er h
  | bad => rw [q] at h; exact h
  | ok ar =>
    obtain ⟨ds, ρ1⟩ := ar
    rw [q] at h
    intro Jt H1 S1 fp1 s1 it f1
    have h := OutS.before (σ1 := σ) Kp.refl f1 h
    refine ⟨fun i m σ' H' => m = ds.length - i ∧ i ≤ ds.length ∧ ∃ S' ρ' fp', Stt X.K C.T Γ1 S' σ' H' ρ' fp' ∧ Stay X.K H1 S1 H' S' ∧ OutS X.K C.T C.W P J σ' H' S' fp' E (mForL g fb (ds.drop i) ρ'), ⟨_, rfl, Nat.zero_le _, S1, ρ1, fp1, s1, .refl, h⟩, ?_⟩
    rintro i m σ2 H2 ⟨rfl, hle, S2, ρ2, fp2, s2, st2, h2⟩
    cases hd : ds[i]? with
    | none =>
      have hl : ds.length ≤ i := List.getElem?_eq_none_iff.mp hd
      refine .inl ⟨it.stop S2 H2 st2 i hl, ?_⟩
      rw [List.drop_eq_nil_of_le hl] at h2
      exact h2 σ2 H2 S2 fp2 (by rw [hΓ]; exact s2) Kp.refl Fra.refl
    | some d =>
      have hl : i < ds.length := (List.getElem?_eq_some_iff.mp hd).1
      rw [drop_cons hd] at h2
      refine .inr ⟨it.go S2 H2 st2 i d hd, fun σ' H' => ∃ S' ρ' fp', Stt X.K C.T Γ1 S' σ' H' ρ' fp' ∧ Stay X.K H1 S1 H' S' ∧ OutS X.K C.T C.W P J σ' H' S' fp' E (mForL g fb (ds.drop (i + 1)) ρ'), fun σ' H' z => ⟨ds.length - (i + 1), by omega, rfl, hl, z⟩, fun x H3 hy => ?_⟩
      obtain ⟨kk, r3⟩ := it.yld S2 H2 st2 i d hd x H3 hy
      have s3 := s2.grow kk
      have f3 : Fra H2 S2 (Ow fp2) H3 S2 (Ow fp2) := ⟨fun b o h _ => kk b o h, fun _ z => z, fun _ z => .inl z, fun _ z => .inl z⟩
      refine ⟨S2, ρ2, fp2, d, s3, r3, ?_⟩
      unfold mForL at h2
      cases qg : g d ρ2 with
      | none => rw [qg] at h2; exact h2.elim
      | some ρ3 =>
        rw [qg] at h2
        intro σ4 H4 S4 fp4 s4 k4 f4
        have h4 := OutS.before k4 (f3.trans f4) h2
        refine ⟨S4, ρ3, fp4, s4, ?_⟩
        have st4 : Stay X.K H1 S1 H4 S4 := (st2.trans (Stay.grow kk)).trans (s3.sep.stay f4)
        dsimp only [ofO, R.bind] at h4
        revert h4
        generalize fb ρ3 = r
        intro h4
        match r, h4 with
        | .ok (.nx, ρ5), h4 => exact fun σ5 H5 S5 fp5 s5 k5 f5 => ⟨S5, ρ5, fp5, s5, st4.trans (s4.sep.stay f5), OutS.before k5 f5 h4⟩
        | .ok (.ct, ρ5), h4 => exact fun σ5 H5 S5 fp5 s5 k5 f5 => ⟨S5, ρ5, fp5, s5, st4.trans (s4.sep.stay f5), OutS.before k5 f5 h4⟩
        | .ok (.bk, ρ5), h4 => exact h4
        | .ok (.rt v, ρ5), h4 => exact h4
        | .er c fs, h4 => exact h4
        | .bad, h4 => exact h4
theorem ds_for (hp : PassesOwn (model X.prog X.w) X.A X.env X.xe) (hc : X.calm = true) (hi : DI X C tg Γ iter Γ1 src) (hg : DG X C P Γ1 tg Γ2 g) (hb : DSs X C P { J with nx := Γ1, ct := Γ1, bk := J.nx } Γ2 body fb) (hΓ : J.nx = Γ1 := by rfl)
    (hs : ∀ x, foldedSetIterable iter X.env x = pure x := by intro _; rfl) : DS X C P J Γ (.For tg iter body [] pos) (mFor src g fb) := ps_imp (ps_for hp hc hi hg hb hs) fun E σ H h => for_data hΓ h
theorem ds_while {cnd : Expr} (hp : PassesOwn (model X.prog X.w) X.A X.env X.xe) (hc : DT X C Γ cnd Γ ft) (hb : DSs X C P { J with nx := Γ, ct := Γ, bk := J.nx } Γ body fb) (hΓ : J.nx = Γ := by rfl) : DS X C P J Γ (.While cnd body [] pos) (mWhile n ft fb) := ps_imp (ps_while hp hc hb) fun E σ H h => by
  obtain ⟨S, ρ, fp, s, h⟩ := h
  refine ⟨fun m σ' H' => ∃ S' ρ' fp', Stt X.K C.T Γ S' σ' H' ρ' fp' ∧ OutS X.K C.T C.W P J σ' H' S' fp' E (mWhile m ft fb ρ'), ⟨n, S, ρ, fp, s, h⟩, ?_⟩
  rintro m σ2 H2 ⟨S2, ρ2, fp2, s2, h2⟩
  cases m with
  | zero => exact h2.elim
  | succ m =>
    refine ⟨S2, ρ2, fp2, s2, OutT.thenS h2 fun b ρ3 H3 S3 fp3 e3 s3 f3 h3 => ?_⟩
    cases b with
    | false => exact h3 σ2 H3 S3 fp3 (by rw [hΓ]; exact s3) Kp.refl Fra.refl
    | true =>
      dsimp only at h3
      rw [if_pos rfl] at h3
      rw [if_pos rfl]
      refine ⟨fun σ' H' => ∃ S' ρ' fp', Stt X.K C.T Γ S' σ' H' ρ' fp' ∧ OutS X.K C.T C.W P J σ' H' S' fp' E (mWhile m ft fb ρ'), fun σ' H' z => ⟨m, Nat.lt_succ_self m, z⟩, S3, ρ3, fp3, s3, ?_⟩
      revert h3
      generalize fb ρ3 = r
      intro h4
      match r, h4 with
      | .ok (.nx, ρ5), h4 => exact fun σ5 H5 S5 fp5 s5 k5 f5 => ⟨S5, ρ5, fp5, s5, OutS.before k5 f5 h4⟩
      | .ok (.ct, ρ5), h4 => exact fun σ5 H5 S5 fp5 s5 k5 f5 => ⟨S5, ρ5, fp5, s5, OutS.before k5 f5 h4⟩
      | .ok (.bk, ρ5), h4 => exact h4
      | .ok (.rt v, ρ5), h4 => exact h4
      | .er c fs, h4 => exact h4
      | .bad, h4 => exact h4
end

/-! ### comprehensions -/
def noEr {α : Type} : R α → R α
  | .er _ _ => .bad
  | r => r
def wipeE (ρ : Env) : List Nat → Env
  | [] => ρ
  | v :: vs => (wipeE ρ vs).set v none
/-- behind a comprehension its own names are as they were -/
def backE (ρ ρ' : Env) (vs : List Nat) : Env := vs.foldr (fun v r => r.set v ((ρ[v]?).getD none)) ρ'
def mCompL (vs : List Nat) (g : D → Env → Option Env) (ft : Env → R (Bool × Env)) (fe : Env → R (D × Env)) : List D → Env → R (List D × Env)
  | [], ρ => .ok ([], ρ)
  | d :: r, ρ => (ofO (g d ρ)).bind fun ρ1 => (noEr (ft ρ1)).bind fun (b, ρ2) => if b = true then
      (noEr (fe ρ2)).bind fun (y, ρ3) => (mCompL vs g ft fe r (wipeE ρ3 vs)).bind fun (ys, ρ4) => .ok (y :: ys, ρ4)
    else mCompL vs g ft fe r (wipeE ρ2 vs)
def mComp (vs : List Nat) (src : Env → R (List D × Env)) (g : D → Env → Option Env) (ft : Env → R (Bool × Env)) (fe : Env → R (D × Env)) : Env → R (D × Env) := fun ρ => (src ρ).bind fun (ds, ρ1) => if ds.length ≤ 100000 then
    (mCompL vs g ft fe ds (wipeE ρ1 vs)).bind fun (ys, ρ2) => .ok (.lst ys, backE ρ1 ρ2 vs)
  else .bad
def mYes : Env → R (Bool × Env) := fun ρ => .ok (true, ρ)
theorem wipeE_length {ρ : Env} : ∀ {vs : List Nat}, (wipeE ρ vs).length = ρ.length
  | [] => rfl
  | v :: vs => by unfold wipeE; rw [List.length_set, wipeE_length]
theorem wipeE_get {ρ : Env} {i : Nat} {d : D} : ∀ {vs : List Nat}, (wipeE ρ vs)[i]? = some (some d) → i ∉ vs ∧ ρ[i]? = some (some d)
  | [], h => ⟨by simp, h⟩
  | v :: vs, h => by
    unfold wipeE at h
    by_cases e : i = v
    · subst e
      rw [List.getElem?_set] at h
      simp at h
    · rw [List.getElem?_set_ne (Ne.symm e)] at h
      obtain ⟨a, b⟩ := wipeE_get h
      exact ⟨by simp [e, a], b⟩
theorem wipeV_get {σ : St} {i : Nat} : ∀ {vs : List Nat}, i ∉ vs → (wipe σ vs)[i]? = σ[i]?
  | [], _ => rfl
  | v :: vs, h => by
    unfold wipe
    rw [List.getElem?_set_ne (fun e => h (by simp [e]))]
    exact wipeV_get fun z => h (List.mem_cons_of_mem _ z)
theorem backE_length {ρ ρ' : Env} : ∀ {vs : List Nat}, (backE ρ ρ' vs).length = ρ'.length
  | [] => rfl
  | v :: vs => by
    show (List.set _ _ _).length = _
    rw [List.length_set]; exact backE_length
theorem backE_get {ρ ρ' : Env} {i : Nat} {d : D} : ∀ {vs : List Nat}, (backE ρ ρ' vs)[i]? = some (some d) → (i ∈ vs ∧ ρ[i]? = some (some d)) ∨ (i ∉ vs ∧ ρ'[i]? = some (some d))
  | [], h => .inr ⟨by simp, h⟩
  | v :: vs, h => by
    have h : ((backE ρ ρ' vs).set v ((ρ[v]?).getD none))[i]? = some (some d) := h
    by_cases e : i = v
    · subst e
      refine .inl ⟨by simp, ?_⟩
      rw [List.getElem?_set] at h
      simp only [if_true] at h
      split at h
      · cases q : ρ[i]? with
        | none => rw [q] at h; simp at h
        | some z => rw [q] at h; simpa using h
      · cases h
    · rw [List.getElem?_set_ne (Ne.symm e)] at h
      rcases backE_get h with ⟨a, b⟩ | ⟨a, b⟩
      · exact .inl ⟨List.mem_cons_of_mem _ a, b⟩
      · exact .inr ⟨by simp [e, a], b⟩
theorem wipe_eq {σ σ' : St} (hl : σ'.length = σ.length) : ∀ {vs : List Nat}, (∀ i, i ∉ vs → σ'[i]? = σ[i]?) → wipe σ' vs = wipe σ vs := fun {vs} h => by
  have z : ∀ (τ : St) (vs : List Nat) (i : Nat), i ∈ vs → i < τ.length → (wipe τ vs)[i]? = some none := by
    intro τ vs
    induction vs with
    | nil => intro i h; cases h
    | cons v vs ih =>
      intro i hi hl
      unfold wipe
      by_cases e : i = v
      · subst e
        rw [List.getElem?_set_self (by rw [wipe_length]; exact hl)]
      · rw [List.getElem?_set_ne (Ne.symm e)]
        exact ih i (by simpa [e] using hi) hl
  refine List.ext_getElem? fun i => ?_
  by_cases hi : i ∈ vs
  · by_cases hlt : i < σ.length
    · rw [z σ vs i hi hlt, z σ' vs i hi (by omega)]
    · rw [List.getElem?_eq_none (by rw [wipe_length]; omega), List.getElem?_eq_none (by rw [wipe_length]; omega)]
  · rw [wipeV_get hi, wipeV_get hi, h i hi]
section
variable {K : PySem.W.Frag} {T : Tab} {W : WX} {Γ : List Nat} {k : Nat} {σ : St} {H : Hp} {S : Addr → Prop} {fp : Nat → List Addr} {ρ : Env} {vs : List Nat}
theorem Stt.wipe (s : Stt K T Γ S σ H ρ fp) : Stt K T Γ S (wipe σ vs) H (wipeE ρ vs) fp := by
  refine ⟨s.sep, by rw [wipeE_length, wipe_length]; exact s.len, by rw [wipe_length]; exact s.gl, fun i d h => ?_⟩
  obtain ⟨n, h⟩ := wipeE_get h
  obtain ⟨v, hv, o⟩ := s.sl i d h
  exact ⟨v, by rw [wipeV_get n]; exact hv, o⟩
end
/-- in a comprehension's block no error goes out -/
abbrev Cz.in (C : Cz) : Cz := ⟨C.T, fun _ _ _ _ => False⟩
section
variable {X : Cx} {C : Cz} {P : List Nat} {J : Js} {Γ Γ' Γ1 Γ2 : List Nat} {k i j n : Nat} {x y : Str} {pos p p2 : Pos} {elt e tg iter : Expr} {ifs : List Expr} {ft : Env → R (Bool × Env)} {fe : Env → R (D × Env)} {src : Env → R (List D × Env)} {g : D → Env → Option Env} {vs : List Nat}
theorem neS {S : Addr → Prop} {a p : Addr} (s : S a) (n : ¬ S p) : a ≠ p := fun z => n (by rw [← z]; exact s)
theorem Stay.poke {K : PySem.W.Frag} {H : Hp} {S : Addr → Prop} {p : Addr} {av aw : List V} (h : H p = some (.lst av)) (n : ¬ S p) : Stay K H S (upd H p (.lst aw)) S := by
  have ne : ∀ {b : Addr} {o : HO}, H b = some o → (∀ xs, o ≠ .lst xs) → b ≠ p := fun {b o} e z q => by subst q; rw [h] at e; cases e; exact z _ rfl
  refine ⟨fun a vs e s => ⟨by rw [upd_ne (neS s n)]; exact e, s⟩, fun a vs e => ?_, fun a vs e => ?_, fun a C dx fs e s => ⟨by rw [upd_ne (neS s n)]; exact e, s⟩, fun a xs e => by rw [upd_ne (ne e fun xs z => by cases z)]; exact e⟩
  · rcases e with ⟨o, e⟩ | e
    · exact .inl ⟨o, by rw [upd_ne (ne e fun xs z => by cases z)]; exact e⟩
    · exact .inr e
  · rcases e with (e | ⟨o, e⟩) | e
    · exact .inl (.inl (by rw [upd_ne (ne e fun xs z => by cases z)]; exact e))
    · exact .inl (.inr ⟨o, by rw [upd_ne (ne e fun xs z => by cases z)]; exact e⟩)
    · exact .inr e
theorem Stt.poke {K : PySem.W.Frag} {T : Tab} {Γ : List Nat} {S : Addr → Prop} {σ : St} {H : Hp} {ρ : Env} {fp : Nat → List Addr} {p : Addr} {av aw : List V} (s : Stt K T Γ S σ H ρ fp) (h : H p = some (.lst av)) (n : ¬ S p) (nf : ∀ i, p ∉ fp i) : Stt K T Γ S σ (upd H p (.lst aw)) ρ fp := by
  have ne : ∀ i a, a ∈ fp i → a ≠ p := fun i a m z => nf i (z ▸ m)
  refine ⟨⟨fun i a m => by rw [upd_ne (ne i a m)]; exact s.sep.mu i a m, s.sep.nd, s.sep.dj, s.sep.ns, fun a m => ?_⟩, s.len, s.gl, fun i d e => ?_⟩
  · obtain ⟨o, e⟩ := s.sep.al a m
    exact ⟨o, by rw [upd_ne (neS m n)]; exact e⟩
  · obtain ⟨v, hv, o⟩ := s.sl i d e
    exact ⟨v, hv, o.stay (Stay.poke h n) fun a m o q => by rw [upd_ne (ne i a m)]; exact q⟩
def fpOff (fp : Nat → List Addr) (vs : List Nat) : Nat → List Addr := fun i => if i ∈ vs then [] else fp i
theorem mem_fpOff {fp : Nat → List Addr} {vs : List Nat} {i : Nat} {a : Addr} (h : a ∈ fpOff fp vs i) : i ∉ vs ∧ a ∈ fp i := by
  unfold fpOff at h
  split at h
  · cases h
  · rename_i n; exact ⟨n, h⟩
theorem Sep.off {S : Addr → Prop} {H : Hp} {fp : Nat → List Addr} (s : Sep S H fp) (vs : List Nat) : Sep S H (fpOff fp vs) :=
  ⟨fun i a h => s.mu i a (mem_fpOff h).2, fun i => by unfold fpOff; split; exact List.nodup_nil; exact s.nd i, fun i j a h h' => s.dj i j a (mem_fpOff h).2 (mem_fpOff h').2, fun i a h => s.ns i a (mem_fpOff h).2, s.al⟩
theorem bind_asc {α β γ : Type} {x : R α} {f : α → R β} {g : β → R γ} : (x.bind f).bind g = x.bind fun a => (f a).bind g := by cases x <;> rfl
theorem lc_data {σ : St} {H : Hp} {Q : VK} (hv : ∀ i ∈ vs, Γ1.getD i 0 = 0) (hP : ∀ i, i < Γ1.length → i ∉ vs → i ∈ P) (hk : k ≤ 1) (h : tE X.K C.T C.W Γ Γ1 k (mComp vs src g ft fe) σ H Q) :
    tLc (tI X.K C.T C.W Γ Γ1 src) (tGt X.K C.T P Γ1 Γ1 g) (tT X.K C.T (fun _ _ _ _ => False) Γ1 Γ1 ft) (tE X.K C.T (fun _ _ _ _ => False) Γ1 Γ1 0 fe) vs σ H Q := by
  obtain ⟨S, ρ, fp, s, h⟩ := h
  refine ⟨S, ρ, fp, s, ?_⟩
  unfold mComp at h
  cases q : src ρ with
  | er c fs => rw [q] at h; exact h
  | bad => rw [q] at h; exact h
  | ok ar =>
    obtain ⟨ds, ρ1⟩ := ar
    rw [q] at h
    intro Jt H1 S1 fp1 s1 it f1 Dl hD
    have h := OutE.before f1 h
    simp only [R.bind_ok] at h
    by_cases hlen : ds.length ≤ 100000
    · rw [if_pos hlen] at h
      have kk := kept_upd (u := .lst []) hD
      have hDf := s1.sep.fresh hD
      -- the word: behind i turns the new list holds what was made; the rest makes the rest
      let Wc : Nat → Hp → Prop := fun i H' => ∃ S' ρ' fp' acc av, Stt X.K C.T Γ1 S' (wipe σ vs) H' ρ' fp' ∧ Stay X.K H1 S1 H' S' ∧ Fra H1 S1 (Ow fp1) H' S' (Ow fp') ∧ H' Dl = some (.lst av) ∧ ¬ S' Dl ∧ (∀ i, Dl ∉ fp' i) ∧
        Reps X.K C.T H' S' acc av ∧ acc.length ≤ i ∧ OutE X.K C.T C.W Γ1 k σ H1 S1 fp1 Q ((mCompL vs g ft fe (ds.drop i) ρ').bind fun (ys, ρ2) => .ok (.lst (acc ++ ys), backE ρ1 ρ2 vs))
      refine ⟨fun i m H' => m = ds.length - i ∧ i ≤ ds.length ∧ Wc i H', ⟨_, rfl, Nat.zero_le _, S1, _, fp1, [], [], s1.wipe.grow kk, Stay.grow kk, ⟨fun b o h _ => kk b o h, fun _ z => z, fun _ z => .inl z, fun _ z => .inl z⟩, upd_same, hDf.1, hDf.2, by simp [Reps], by simp, h⟩, ?_⟩
      rintro i m H2 ⟨rfl, hle, S2, ρ2, fp2, acc, av, s2, st2, fr2, hD2, nS2, nf2, ra2, ha2, h2⟩
      cases hd : ds[i]? with
      | none =>
        have hl : ds.length ≤ i := List.getElem?_eq_none_iff.mp hd
        refine .inl ⟨it.stop S2 H2 st2 i hl, ?_⟩
        rw [List.drop_eq_nil_of_le hl] at h2
        simp only [mCompL, R.bind_ok, List.append_nil] at h2
        -- the frame's own names come back
        have back : Stt X.K C.T Γ1 S2 σ H2 (backE ρ1 ρ2 vs) (fpOff fp2 vs) := by
          refine ⟨s2.sep.off vs, by rw [backE_length, s2.len, wipe_length], s1.gl, fun i d h => ?_⟩
          rcases backE_get h with ⟨m, h⟩ | ⟨m, h⟩
          · obtain ⟨v, hv1, o⟩ := s1.sl i d h
            rw [hv i m] at o ⊢
            obtain ⟨ef, r⟩ := own_zero.mp o
            refine ⟨v, hv1, ?_⟩
            have hf : fpOff fp2 vs i = [] := if_pos m
            rw [hf]
            exact own_zero.mpr ⟨rfl, st2.rep r⟩
          · obtain ⟨v, hv1, o⟩ := s2.sl i d h
            rw [wipeV_get m] at hv1
            have hf : fpOff fp2 vs i = fp2 i := if_neg m
            rw [hf]
            exact ⟨v, hv1, o⟩
        have lessO : ∀ b, Ow (fpOff fp2 vs) b → Ow fp2 b := fun b ⟨i, z⟩ => ⟨i, (mem_fpOff z).2⟩
        match k, hk with
        | 0, _ =>
          have frS : Fra H1 S1 (Ow fp1) H2 (fun a => S2 a ∨ a = Dl) (Ow (fpOff fp2 vs)) := ⟨fr2.kp, fun b z => .inl (fr2.sm b z), fun b z => by
            rcases z with z | z
            · exact fr2.so b z
            · subst z; exact .inr (.inr hD), fun b z => fr2.oo b (lessO b z)⟩
          refine h2 _ H2 (fun a => S2 a ∨ a = Dl) (fpOff fp2 vs) [] ⟨⟨back.sep.mu, back.sep.nd, back.sep.dj, fun i a h z => ?_, fun a z => ?_⟩, back.len, back.gl, fun i d h => ?_⟩ (.of ?_) frS.ow'
          · rcases z with z | z
            · exact back.sep.ns i a h z
            · subst z; exact nf2 i (mem_fpOff h).2
          · rcases z with z | z
            · exact back.sep.al a z
            · subst z; exact ⟨_, hD2⟩
          · obtain ⟨v, hv, o⟩ := back.sl i d h
            exact ⟨v, hv, o.stay (Stay.more fun a h => .inl h) fun a _ o h => h⟩
          · simp only [Rep]
            exact ⟨Dl, av, rfl, hD2, .inr rfl, (Stay.more fun a h => .inl h).reps ra2⟩
        | 1, _ =>
          refine h2 _ H2 S2 (fpOff fp2 vs) [Dl] back ⟨own_lst1.mpr ⟨Dl, av, rfl, hD2, rfl, ra2⟩, by simp, fun a m => ?_, fun a m i z => ?_⟩ ⟨fr2.kp, fr2.sm, fr2.so, fun b z => ?_⟩
          · rw [List.mem_singleton] at m; subst m; exact nS2
          · rw [List.mem_singleton] at m; subst m; exact nf2 i (mem_fpOff z).2
          · rcases z with z | z
            · exact fr2.oo b (lessO b z)
            · rw [List.mem_singleton] at z; subst z; exact .inr hD
      | some d =>
        have hl : i < ds.length := (List.getElem?_eq_some_iff.mp hd).1
        rw [drop_cons hd] at h2
        refine .inr ⟨it.go S2 H2 st2 i d hd, Wc (i + 1), fun H' z => ⟨ds.length - (i + 1), by omega, rfl, hl, z⟩, fun x H3 hy => ?_⟩
        obtain ⟨kk3, r3⟩ := it.yld S2 H2 st2 i d hd x H3 hy
        refine ⟨S2, ρ2, fp2, d, s2.grow kk3, r3, ?_⟩
        unfold mCompL at h2
        cases qg : g d ρ2 with
        | none => rw [qg] at h2; exact h2.elim
        | some ρ3 =>
          rw [qg] at h2
          simp only [ofO, R.bind_ok] at h2
          intro σ4 H4 S4 fp4 s4 k4 f4
          have hl4 : σ4.length = σ.length := by rw [← s4.gl, ← s1.gl]
          have hw4 : wipe σ4 vs = wipe σ vs := by
            refine wipe_eq hl4 fun j nj => ?_
            by_cases hj : j < Γ1.length
            · rw [k4.2 j (hP j hj nj), wipeV_get nj]
            · rw [List.getElem?_eq_none (by rw [← s4.gl]; omega), List.getElem?_eq_none (by rw [← s1.gl]; omega)]
          refine ⟨hw4, S4, ρ3, fp4, s4, ?_⟩
          have fr3 : Fra H2 S2 (Ow fp2) H3 S2 (Ow fp2) := ⟨fun b o h _ => kk3 b o h, fun _ z => z, fun _ z => .inl z, fun _ z => .inl z⟩
          -- what any later state of the turn keeps of the new list
          have fin : ∀ {H' : Hp} {S' : Addr → Prop} {fp' : Nat → List Addr}, Fra H2 S2 (Ow fp2) H' S' (Ow fp') → H' Dl = some (.lst av) ∧ ¬ S' Dl ∧ ∀ i, Dl ∉ fp' i := fun {H' S' fp'} f => by
            have nO : ¬ Ow fp2 Dl := fun ⟨i, z⟩ => nf2 i z
            refine ⟨f.kp Dl _ hD2 nO, fun z => ?_, fun i z => ?_⟩
            · rcases f.so Dl z with z | z | z
              · exact nS2 z
              · exact nO z
              · rw [hD2] at z; cases z
            · rcases f.oo Dl ⟨i, z⟩ with z | z
              · exact nO z
              · rw [hD2] at z; cases z
          cases qt : ft ρ3 with
          | er c fs => rw [qt] at h2; exact h2.elim
          | bad => rw [qt] at h2; exact h2.elim
          | ok br =>
            obtain ⟨b, ρ5⟩ := br
            rw [qt] at h2
            simp only [noEr, R.bind_ok] at h2
            intro H5 S5 fp5 s5 f5
            have fr5 := (fr3.trans f4).trans f5
            cases b with
            | false =>
              rw [if_neg (by decide)] at h2
              rw [if_neg (by decide)]
              obtain ⟨d1, d2, d3⟩ := fin fr5
              refine ⟨S5, _, fp5, acc, av, by rw [← hw4]; exact s5.wipe, st2.trans (s2.sep.stay fr5), fr2.trans fr5, d1, d2, d3, s2.reps_fra ra2 fr5, by omega, h2⟩
            | true =>
              rw [if_pos rfl] at h2
              rw [if_pos rfl]
              refine ⟨S5, ρ5, fp5, s5, ?_⟩
              cases qe : fe ρ5 with
              | er c fs => rw [qe] at h2; exact h2.elim
              | bad => rw [qe] at h2; exact h2.elim
              | ok yr =>
                obtain ⟨y, ρ6⟩ := yr
                rw [qe] at h2
                simp only [noEr, R.bind_ok, bind_asc] at h2
                intro v H6 S6 fp6 Fv s6 x6 f6
                obtain ⟨eF, r6⟩ := x6.rep
                subst eF
                have fr6 := fr5.trans f6.ow
                obtain ⟨d1, d2, d3⟩ := fin fr6
                have ra6 := s2.reps_fra ra2 fr6
                have pk : Stay X.K H6 S6 (upd H6 Dl (.lst (av ++ [v]))) S6 := Stay.poke d1 d2
                have lav : av.length = acc.length := ra2.length.symm
                refine ⟨av, d1, by rw [sizeLine_eq]; omega, S6, _, fp6, acc ++ [y], av ++ [v], by rw [← hw4]; exact s6.wipe.poke d1 d2 d3, (st2.trans (s2.sep.stay fr6)).trans pk, ?_, upd_same, d2, d3, pk.reps (ra6.append ?_), by simp; omega, ?_⟩
                · have fr7 := fr2.trans fr6
                  exact ⟨fun b o h n => by rw [upd_ne (fun z => by rw [z, hD] at h; cases h)]; exact fr7.kp b o h n, fr7.sm, fr7.so, fr7.oo⟩
                · simp only [Reps]
                  exact ⟨v, [], rfl, r6, rfl⟩
                · simp only [List.append_assoc, List.singleton_append]
                  exact h2
    · rw [if_neg hlen] at h; exact h.elim
end
end Z
set_option Elab.async false
set_option linter.all false
set_option maxRecDepth 100000
/-! Z6: comprehensions as expressions; what is changed in place; contracts from bodies; instances; methods -/
namespace Z
open PySem PySem.Spec L2
open PyProof.Rows hiding St

/-! ### code that is not come to -/
section
variable {X : Cx} {C : Cz} {P : List Nat} {J : Js} {Γ Γ' : List Nat} {k : Nat} {e : Expr} {es : List Expr} {st : Stmt} {sts : List Stmt}
theorem de_never : DE X C Γ e Γ' k (fun _ => .bad) := ⟨fun _ _ _ _ _ _ h => by obtain ⟨_, _, _, _, h⟩ := h; exact h.elim⟩
theorem dt_never : DT X C Γ e Γ' (fun _ => .bad) := ⟨fun _ _ _ _ _ _ h => by obtain ⟨_, _, _, _, h⟩ := h; exact h.elim⟩
theorem ds_never : DS X C P J Γ st (fun _ => .bad) := ⟨fun _ _ _ _ _ _ h => by obtain ⟨_, _, _, _, h⟩ := h; exact h.elim⟩
theorem dss_never : DSs X C P J Γ sts (fun _ => .bad) := ⟨fun _ _ _ _ _ _ h => by obtain ⟨_, _, _, _, h⟩ := h; exact h.elim⟩
end

/-! ### comprehensions -/
section
variable {X : Cx} {C : Cz} {P : List Nat} {J : Js} {Γ Γ' Γ1 Γ2 : List Nat} {k i j n : Nat} {x y : Str} {pos p p2 spos : Pos} {elt e tg iter : Expr} {ifs : List Expr} {ft : Env → R (Bool × Env)} {fe : Env → R (D × Env)} {src : Env → R (List D × Env)} {g : D → Env → Option Env} {scope : Scope} {own : List (Str × Nat)}
abbrev DTs (X : Cx) (Z : Cz) (Γ : List Nat) (ifs : List Expr) (f : Env → R (Bool × Env)) : Prop := PTs X ifs (tT X.K Z.T Z.W Γ Γ f)
theorem dts_nil : DTs X C Γ [] mYes := ⟨fun pins s σ H Q I h => by
  obtain ⟨S, ρ, fp, st, h⟩ := h
  exact PySem.wpAny_tests_nil ⟨H, I, h H S fp st Fra.refl⟩⟩
theorem dts_one {c : Expr} (h : DT X C Γ c Γ ft) : DTs X C Γ [c] ft := pts_one h
theorem de_lc (hc : X.calm = true) (hN : X.N.Nodup) (hi : DI X C tg Γ iter Γ1 src) (ok : BlkOk X.N X.env.scope scope own)
    (hg : ∀ (s : Shared) (H : Hp) (A : Addr) (cl : List (Str × Addr)) (fp : List Addr), DG (X.blk s H scope (compEnvC scope cl A X.env) fp) C.in P Γ1 tg Γ1 g)
    (ht : ∀ (s : Shared) (H : Hp) (A : Addr) (cl : List (Str × Addr)) (fp : List Addr), DTs (X.blk s H scope (compEnvC scope cl A X.env) fp) C.in Γ1 ifs ft)
    (he : ∀ (s : Shared) (H : Hp) (A : Addr) (cl : List (Str × Addr)) (fp : List Addr), DE (X.blk s H scope (compEnvC scope cl A X.env) fp) C.in Γ1 elt Γ1 0 fe)
    (hv : ∀ i ∈ own.map (·.2), Γ1.getD i 0 = 0 := by decide) (hP : ∀ i, i < Γ1.length → i ∉ own.map (·.2) → i ∈ P := by decide) (hk : k ≤ 1 := by decide) (hs : ∀ x, foldedSetIterable iter X.env x = pure x := by intro _; rfl) :
    DE X C Γ (.ListComp elt [⟨tg, iter, ifs, 0⟩] scope pos) Γ1 k (mComp (own.map (·.2)) src g ft fe) :=
  pe_imp (pe_lc hc hN hi ok hg ht he hs) fun σ H Q h => lc_data hv hP hk h
theorem ds_setLc {P2 : List Nat} (hc : X.calm = true) (hN : X.N.Nodup) (hy : X.N[i]? = some y) (hyl : X.env.scope.names.lookup y = some .local)
    (hsw : swapsWith (.ListComp elt [⟨tg, iter, ifs, 0⟩] scope pos) (some (.Name y p)) spos.line X.env = pure true) (hi : DI X C tg Γ iter Γ1 src) (ok : BlkOk X.N X.env.scope scope own)
    (hg : ∀ (s : Shared) (H : Hp) (A : Addr) (cl : List (Str × Addr)) (fp : List Addr), DG (X.blk s H scope (compEnvC scope cl A X.env) fp) C.in P Γ1 tg Γ1 g)
    (ht : ∀ (s : Shared) (H : Hp) (A : Addr) (cl : List (Str × Addr)) (fp : List Addr), DTs (X.blk s H scope (compEnvC scope cl A X.env) fp) C.in Γ1 ifs ft)
    (he : ∀ (s : Shared) (H : Hp) (A : Addr) (cl : List (Str × Addr)) (fp : List Addr), DE (X.blk s H scope (compEnvC scope cl A X.env) fp) C.in Γ1 elt Γ1 0 fe)
    (hv : ∀ i ∈ own.map (·.2), Γ1.getD i 0 = 0 := by decide) (hP : ∀ i, i < Γ1.length → i ∉ own.map (·.2) → i ∈ P := by decide) (hk : k ≤ 1 := by decide) (hs : ∀ x, foldedSetIterable iter X.env x = pure x := by intro _; rfl)
    (hil : i < Γ1.length := by decide) (hp : i ∉ P2 := by decide) (h1 : J.nx = Γ1.set i k := by rfl) :
    DS X C P2 J Γ (.Assign [.Name y p] (.ListComp elt [⟨tg, iter, ifs, 0⟩] scope pos) spos) (mSet i (mComp (own.map (·.2)) src g ft fe)) :=
  ds_set (ps_setLc hc hN hy hyl hsw hi ok hg ht he hs) (fun σ H Q h => lc_data hv hP hk h) hil hp h1
end

/-! ### changes in place, at a name -/
def mApp (i : Nat) (fe : Env → R (D × Env)) : Env → R (Fl × Env) := fun ρ => match ρ[i]? with
  | some (some (.lst _)) => (fe ρ).bind fun (d, ρ1) => match ρ1[i]? with
    | some (some (.lst xs)) => if xs.length < 100000 then .ok (.nx, ρ1.set i (some (.lst (xs ++ [d])))) else .bad
    | _ => .bad
  | _ => .bad
/-- o[j] = d -/
def gPut (xs : List D) (j : Int) (d : D) : Option (List D) := (ixN xs.length j).map fun n => xs.set n d
def mSetIx (i : Nat) (fe fi : Env → R (D × Env)) : Env → R (Fl × Env) := fun ρ => (fe ρ).bind fun (d, ρ1) => match ρ1[i]? with
  | some (some (.lst _)) => (fi ρ1).bind fun (j, ρ2) => match j, ρ2[i]? with
    | .int j, some (some (.lst xs)) => (ofO (gPut xs j d)).bind fun ys => .ok (.nx, ρ2.set i (some (.lst ys)))
    | _, _ => .bad
  | _ => .bad
def mPop (i : Nat) : Env → R (D × Env) := fun ρ => match ρ[i]? with
  | some (some (.lst xs)) => match xs.getLast? with
    | some d => .ok (d, ρ.set i (some (.lst xs.dropLast)))
    | none => .bad
  | _ => .bad
def mFldSet (i c j : Nat) (fe : Env → R (D × Env)) : Env → R (Fl × Env) := fun ρ => (fe ρ).bind fun (d, ρ1) => match ρ1[i]? with
  | some (some (.ins c' fs)) => if c' = c then (if j = fs.length then .ok (.nx, ρ1.set i (some (.ins c (fs ++ [d])))) else if j < fs.length then .ok (.nx, ρ1.set i (some (.ins c (fs.set j d)))) else .bad) else .bad
  | _ => .bad
section
variable {K : PySem.W.Frag} {T : Tab} {Γ : List Nat} {σ : St} {H : Hp} {S : Addr → Prop} {fp : Nat → List Addr} {ρ : Env} {i : Nat}
theorem upd_kept {a : Addr} {u o : HO} {b : Addr} (h : H b = some o) (n : b ≠ a) : upd H a u b = some o := by rw [upd_ne n]; exact h
/-- what i owns is written anew: its list -/
theorem Stt.relist {a : Addr} {vs ws : List V} {ys : List D} {xs : List D} (s : Stt K T Γ S σ H ρ fp) (hi : ρ[i]? = some (some (.lst xs))) (hk : Γ.getD i 0 = 1) (hv : σ[i]? = some (some (.ref a))) (h : H a = some (.lst vs)) (r : Reps K T H S ys ws) :
    fp i = [a] ∧ Stt K T Γ S σ (upd H a (.lst ws)) (ρ.set i (some (.lst ys))) fp ∧ Fra H S (Ow fp) (upd H a (.lst ws)) S (Ow fp) := by
  obtain ⟨v, hv', o⟩ := s.sl i _ hi
  rw [hv] at hv'; cases hv'
  rw [hk] at o
  obtain ⟨a', vs', e, h', ef, _⟩ := own_lst1.mp o
  cases e
  have nS : ¬ S a := s.sep.ns i a (by rw [ef]; simp)
  have other : ∀ j b, j ≠ i → b ∈ fp j → b ≠ a := fun j b ne m z => ne (s.sep.dj j i b m (by rw [ef, z]; simp))
  have st : Stay K H S (upd H a (.lst ws)) S := Stay.poke h nS
  refine ⟨ef, ⟨⟨fun j b m => ?_, s.sep.nd, s.sep.dj, s.sep.ns, fun b m => ?_⟩, by simp [s.len], s.gl, fun j d e => ?_⟩, ⟨fun b o e n => ?_, fun _ z => z, fun _ z => .inl z, fun _ z => .inl z⟩⟩
  · by_cases e : b = a
    · subst e; rw [upd_same]; trivial
    · rw [upd_ne e]; exact s.sep.mu j b m
  · obtain ⟨o, e⟩ := s.sep.al b m
    exact ⟨o, upd_kept e (neS m nS)⟩
  · by_cases q : j = i
    · subst q
      rw [List.getElem?_set_self (List.getElem?_eq_some_iff.mp hi).1] at e
      cases e
      refine ⟨_, hv, ?_⟩
      rw [hk]
      exact own_lst1.mpr ⟨a, ws, rfl, upd_same, ef, st.reps r⟩
    · rw [List.getElem?_set_ne (Ne.symm q)] at e
      obtain ⟨v, hv, o⟩ := s.sl j d e
      exact ⟨v, hv, o.stay st fun b m o e => upd_kept e (other j b q m)⟩
  · exact upd_kept e fun z => n (by rw [z]; exact ⟨i, by rw [ef]; simp⟩)
/-- .. its instance -/
theorem Stt.refield {a dx : Addr} {c : Nat} {vs ws : List V} {ys fs : List D} (s : Stt K T Γ S σ H ρ fp) (hi : ρ[i]? = some (some (.ins c fs))) (hk : Γ.getD i 0 = 1) (hv : σ[i]? = some (some (.ref a))) (h : H a = some (.ins (T.cm c) dx ((T.fl c).zip vs)))
    (hl : ys.length ≤ (T.fl c).length) (r : Reps K T H S ys ws) :
    Stt K T Γ S σ (upd H a (.ins (T.cm c) dx ((T.fl c).zip ws))) (ρ.set i (some (.ins c ys))) fp ∧ Fra H S (Ow fp) (upd H a (.ins (T.cm c) dx ((T.fl c).zip ws))) S (Ow fp) := by
  obtain ⟨v, hv', o⟩ := s.sl i _ hi
  rw [hv] at hv'; cases hv'
  rw [hk] at o
  obtain ⟨a', dx', vs', e, h', ef, _⟩ := own_ins1.mp o
  cases e
  have nS : ¬ S a := s.sep.ns i a (by rw [ef]; simp)
  have other : ∀ j b, j ≠ i → b ∈ fp j → b ≠ a := fun j b ne m z => ne (s.sep.dj j i b m (by rw [ef, z]; simp))
  have ne : ∀ {b : Addr} {o : HO}, H b = some o → (∀ C d xs, o ≠ .ins C d xs) → b ≠ a := fun {b o} e z q => by subst q; rw [h] at e; cases e; exact z _ _ _ rfl
  have st : Stay K H S (upd H a (.ins (T.cm c) dx ((T.fl c).zip ws))) S := by
    refine ⟨fun b vs e s => ⟨upd_kept e (neS s nS), s⟩, fun b vs e => ?_, fun b vs e => ?_, fun b C dx fs e s => ⟨upd_kept e (neS s nS), s⟩, fun b xs e => upd_kept e (ne e fun _ _ _ z => by cases z)⟩
    · rcases e with ⟨o, e⟩ | e
      · exact .inl ⟨o, upd_kept e (ne e fun _ _ _ z => by cases z)⟩
      · exact .inr e
    · rcases e with (e | ⟨o, e⟩) | e
      · exact .inl (.inl (upd_kept e (ne e fun _ _ _ z => by cases z)))
      · exact .inl (.inr ⟨o, upd_kept e (ne e fun _ _ _ z => by cases z)⟩)
      · exact .inr e
  refine ⟨⟨⟨fun j b m => ?_, s.sep.nd, s.sep.dj, s.sep.ns, fun b m => ?_⟩, by simp [s.len], s.gl, fun j d e => ?_⟩, ⟨fun b o e n => ?_, fun _ z => z, fun _ z => .inl z, fun _ z => .inl z⟩⟩
  · by_cases e : b = a
    · subst e; rw [upd_same]; trivial
    · rw [upd_ne e]; exact s.sep.mu j b m
  · obtain ⟨o, e⟩ := s.sep.al b m
    exact ⟨o, upd_kept e (neS m nS)⟩
  · by_cases q : j = i
    · subst q
      rw [List.getElem?_set_self (List.getElem?_eq_some_iff.mp hi).1] at e
      cases e
      refine ⟨_, hv, ?_⟩
      rw [hk]
      exact own_ins1.mpr ⟨a, dx, ws, rfl, upd_same, ef, hl, st.reps r⟩
    · rw [List.getElem?_set_ne (Ne.symm q)] at e
      obtain ⟨v, hv, o⟩ := s.sl j d e
      exact ⟨v, hv, o.stay st fun b m o e => upd_kept e (other j b q m)⟩
  · exact upd_kept e fun z => n (by rw [z]; exact ⟨i, by rw [ef]; simp⟩)
/-- an owned list at a name -/
theorem Stt.lst_at {xs : List D} (s : Stt K T Γ S σ H ρ fp) (hi : ρ[i]? = some (some (.lst xs))) (hk : Γ.getD i 0 = 1) : ∃ a vs, σ[i]? = some (some (.ref a)) ∧ H a = some (.lst vs) ∧ Reps K T H S xs vs := by
  obtain ⟨v, hv, o⟩ := s.sl i _ hi
  rw [hk] at o
  obtain ⟨a, vs, rfl, h, _, r⟩ := own_lst1.mp o
  exact ⟨a, vs, hv, h, r⟩
theorem zip_snoc : ∀ {ns : List Str} {vs : List V} {f : Str} {y : V}, ns.Nodup → ns[vs.length]? = some f → putF f y (ns.zip vs) = ns.zip (vs ++ [y])
  | [], vs, f, y, _, h => by simp at h
  | n :: ns, [], f, y, _, h => by
    simp at h; subst h; simp [putF]
  | n :: ns, v :: vs, f, y, nd, h => by
    have h' : ns[vs.length]? = some f := by simpa using h
    have ne : ¬ n = f := fun e => (List.nodup_cons.mp nd).1 (e ▸ List.mem_of_getElem? h')
    simp only [List.zip_cons_cons, List.cons_append]
    show (if n = f then (n, y) :: ns.zip vs else (n, v) :: putF f y (ns.zip vs)) = _
    rw [if_neg ne, zip_snoc (List.nodup_cons.mp nd).2 h']
theorem zip_set : ∀ {ns : List Str} {vs : List V} {j : Nat} {f : Str} {y : V}, ns.Nodup → ns[j]? = some f → j < vs.length → putF f y (ns.zip vs) = ns.zip (vs.set j y)
  | [], vs, j, f, y, _, h, _ => by simp at h
  | n :: ns, [], j, f, y, _, h, l => by simp at l
  | n :: ns, v :: vs, 0, f, y, nd, h, _ => by
    simp at h; subst h; simp [putF]
  | n :: ns, v :: vs, j + 1, f, y, nd, h, l => by
    have h' : ns[j]? = some f := by simpa using h
    have ne : ¬ n = f := fun e => (List.nodup_cons.mp nd).1 (e ▸ List.mem_of_getElem? h')
    simp only [List.zip_cons_cons, List.set_cons_succ]
    show (if n = f then (n, y) :: ns.zip vs else (n, v) :: putF f y (ns.zip vs)) = _
    rw [if_neg ne, zip_set (List.nodup_cons.mp nd).2 h' (by simpa using l)]
end
section
variable {X : Cx} {C : Cz} {P : List Nat} {J : Js} {Γ Γ' Γ1 Γ2 : List Nat} {k i j n : Nat} {x y : Str} {pos p p2 p3 spos : Pos} {a e ix : Expr} {fe fi : Env → R (D × Env)}
/-- x.append(e) -/
theorem ds_app (hv : PE X (.Name x p) (tVar i)) (ha : DE X C Γ e Γ1 0 fe) (hk0 : Γ.getD i 0 = 1 := by rfl) (hk : Γ1.getD i 0 = 1 := by rfl) (h1 : J.nx = Γ1 := by rfl)
    (hs : starEach (e :: []) X.env = (false, eval e X.env) :: starEach [] X.env := by rfl) (hpl : (backTo p3 (starEach [] X.env)).any (·.1) = false := by rfl) (hbase : attributeBase (.Name x p) "append" X.env (eval (.Name x p) X.env) = eval (.Name x p) X.env := by rfl) (hline : (p2.endLine == p3.line) = true := by rfl)
    (hfew : ((backTo p3 (starEach (e :: []) X.env)).all (fun x => !x.1) && (backToKw p3 (keywordEach [] X.env)).all (fun x => x.1.isSome)
      && decide ((e :: ([] : List Expr)).length + ([] : List Keyword).length + (if ([] : List Keyword).isEmpty then 0 else 1) < 30)) = true := by rfl)
    (hsw : swapsWith (.Call (.Attribute (.Name x p) "append" p2) [e] [] p3) none spos.line X.env = pure false := by rfl) :
    DS X C P J Γ (.Expr (.Call (.Attribute (.Name x p) "append" p2) [e] [] p3) spos) (mApp i fe) :=
  ps_imp (ps_expr (pe_bm PySem.F.plainAttrs_list PySem.F.slot_list_append PySem.F.type_list_append mt_append hv (pa_cons ha pa_nil hs) hbase hfew hline hs hpl) hsw) fun E σ H h => by
  obtain ⟨S, ρ, fp, s, h⟩ := h
  unfold mApp at h
  split at h
  · rename_i xs0 q0
    obtain ⟨a, vs0, hv0, h0, _⟩ := s.lst_at q0 hk0
    refine ⟨_, hv0, .inl ⟨rfl, vs0, .inl (.inl h0)⟩, S, ρ, fp, s, OutE.thenS h fun d ρ1 v H1 S1 fp1 Fv e1 s1 x1 f1 h2 => ?_⟩
    obtain ⟨ef, rd⟩ := x1.rep
    subst ef
    dsimp only at h2
    split at h2
    · rename_i xs q1
      split at h2
      · rename_i hl
        obtain ⟨a', vs, hv1, h1', r⟩ := s1.lst_at q1 hk
        rw [hv0] at hv1; cases hv1
        have rr : Reps X.K C.T H1 S1 (xs ++ [d]) (vs ++ [v]) := r.append (by simp only [Reps]; exact ⟨v, [], rfl, rd, rfl⟩)
        obtain ⟨_, s2, f2⟩ := s1.relist q1 hk hv0 h1' rr
        refine ⟨a, vs, v, rfl, rfl, h1', by rw [sizeLine_eq, ← r.length]; omega, ?_⟩
        exact h2 σ _ S1 fp1 (by rw [h1]; exact s2) Kp.refl (f1.ow.trans f2)
      · exact h2.elim
    · exact h2.elim
  · exact h.elim
/-- x[ix] = e -/
theorem ds_setix (hv : PE X (.Name x p) (tVar i)) (ha : DE X C Γ e Γ1 0 fe) (hi : DE X C Γ1 ix Γ2 0 fi) (hk0 : Γ1.getD i 0 = 1 := by rfl) (hk : Γ2.getD i 0 = 1 := by rfl) (h1 : J.nx = Γ2 := by rfl)
    (has : ∀ v, assign (.Subscript (.Name x p) ix p2) X.env v = (do
      let ov ← holding [v] (eval (.Name x p) X.env)
      let iv ← holding [v, ov] (eval ix X.env)
      standAt p2
      holding [v, ov, iv] (setItem ov iv v)
      release [v, ov, iv] []) := by intro _; rfl)
    (hs : swapsWithSole [.Subscript (.Name x p) ix p2] e spos.line X.env = pure false := by rfl) (hw : swappedStores [.Subscript (.Name x p) ix p2] e X.env = pure none := by rfl)
    (hx : (assignEach [.Subscript (.Name x p) ix p2] X.env).map (·.2) = [assign (.Subscript (.Name x p) ix p2) X.env] := by rfl) :
    DS X C P J Γ (.Assign [.Subscript (.Name x p) ix p2] e spos) (mSetIx i fe fi) :=
  ps_imp (ps_asg ha (pg_sub hv hi set_list has) hs hw hx) fun E σ H h => by
  obtain ⟨S, ρ, fp, s, h⟩ := h
  refine ⟨S, ρ, fp, s, OutE.thenS h fun d ρ1 v H1 S1 fp1 Fv e1 s1 x1 f1 h2 => ?_⟩
  obtain ⟨ef, rd⟩ := x1.rep
  subst ef
  dsimp only at h2
  split at h2
  · rename_i xs0 q0
    obtain ⟨a, vs0, hv0, h0, _⟩ := s1.lst_at q0 hk0
    have h2 := OutS.before (σ1 := σ) Kp.refl f1.ow h2
    refine ⟨_, hv0, S1, ρ1, fp1, s1, OutE.thenS h2 fun dj ρ2 vj H2 S2 fp2 Fj e2 s2 x2 f2 h3 => ?_⟩
    obtain ⟨ej, rj⟩ := x2.rep
    subst ej
    dsimp only at h3
    split at h3
    · rename_i j xs q1
      have ej := rep_int rj
      subst ej
      obtain ⟨a', vs, hv1, h1', r⟩ := s2.lst_at q1 hk
      rw [hv0] at hv1; cases hv1
      unfold gPut at h3
      cases qn : ixN xs.length j with
      | none => rw [qn] at h3; exact h3.elim
      | some m =>
        rw [qn] at h3
        have rr : Reps X.K C.T H2 S2 (xs.set m d) (vs.set m v) := r.set m (s1.rep_fra rd f2)
        obtain ⟨_, s3, f3⟩ := s2.relist q1 hk hv0 h1' rr
        refine ⟨a, vs, j, m, rfl, rfl, h1', by rw [← r.length]; exact qn, ?_⟩
        exact h3 σ _ S2 fp2 (by rw [h1]; exact s3) Kp.refl (f2.ow.trans f3)
    · exact h3.elim
  · exact h2.elim
/-- x.pop() -/
theorem de_pop (hv : PE X (.Name x p) (tVar i)) (hk : Γ.getD i 0 = 1 := by rfl) (hbase : attributeBase (.Name x p) "pop" X.env (eval (.Name x p) X.env) = eval (.Name x p) X.env := by rfl) (hline : (p2.endLine == p3.line) = true := by rfl) :
    DE X C Γ (.Call (.Attribute (.Name x p) "pop" p2) [] [] p3) Γ 0 (mPop i) :=
  pe_imp (pe_bm0 PySem.F.plainAttrs_list PySem.F.slot_list_pop PySem.F.type_list_pop mt_pop hv hbase hline) fun σ H Q h => by
  obtain ⟨S, ρ, fp, s, h⟩ := h
  unfold mPop at h
  split at h
  · rename_i xs q0
    obtain ⟨a, vs, hv0, h0, r⟩ := s.lst_at q0 hk
    split at h
    · rename_i d qd
      have hd : xs[xs.length - 1]? = some d := by rw [← List.getLast?_eq_getElem?]; exact qd
      obtain ⟨v, hvv, rv⟩ := r.get hd
      obtain ⟨_, s2, f2⟩ := s.relist q0 hk hv0 h0 r.dropLast
      refine ⟨_, hv0, .inl ⟨rfl, vs, .inl (.inl h0)⟩, a, vs, v, rfl, rfl, h0, by rw [← r.length]; exact hvv, ?_⟩
      exact h v _ S fp [] s2 (.of (s.rep_fra rv f2)) f2.ow'
    · exact h.elim
  · exact h.elim
/-- self.f = e -/
theorem ds_fldset {c : Nat} {f : Str} (hcl : Cls X.K (C.T.cm c)) (hna : NoAttr X.K (C.T.cm c) f) (hf : (C.T.fl c)[j]? = some f) (hnd : (C.T.fl c).Nodup) (hsm : (C.T.fl c).length < 1000) (hv : PE X (.Name x p) (tVar i)) (ha : DE X C Γ e Γ1 0 fe) (hk : Γ1.getD i 0 = 1 := by rfl) (h1 : J.nx = Γ1 := by rfl)
    (hs : swapsWith e (some (.Attribute (.Name x p) f p2)) spos.line X.env = pure false := by rfl) : DS X C P J Γ (.Assign [.Attribute (.Name x p) f p2] e spos) (mFldSet i c j fe) :=
  ps_imp (ps_fld hv ha hs) fun E σ H h => by
  obtain ⟨S, ρ, fp, s, h⟩ := h
  refine ⟨S, ρ, fp, s, OutE.thenS h fun d ρ1 v H1 S1 fp1 Fv e1 s1 x1 f1 h2 => ?_⟩
  obtain ⟨ef, rd⟩ := x1.rep
  subst ef
  dsimp only at h2
  split at h2
  · rename_i c' fs q0
    split at h2
    · rename_i ec
      subst ec
      obtain ⟨v0, hv0, o⟩ := s1.sl i _ q0
      rw [hk] at o
      obtain ⟨a, dx, vs, rfl, h0, _, hl, r⟩ := own_ins1.mp o
      have hzl : ((C.T.fl c').zip vs).length < 1000 := by rw [List.length_zip]; omega
      split at h2
      · rename_i ej
        have rr : Reps X.K C.T H1 S1 (fs ++ [d]) (vs ++ [v]) := r.append (by simp only [Reps]; exact ⟨v, [], rfl, rd, rfl⟩)
        have hj : j < (C.T.fl c').length := (List.getElem?_eq_some_iff.mp hf).1
        obtain ⟨s2, f2⟩ := s1.refield (dx := dx) q0 hk hv0 h0 (ys := fs ++ [d]) (by simp; omega) rr
        refine ⟨_, hv0, a, _, dx, _, rfl, h0, hcl, hna, hzl, ?_⟩
        rw [zip_snoc hnd (by rw [← r.length, ← ej]; exact hf)]
        exact h2 σ _ S1 fp1 (by rw [h1]; exact s2) Kp.refl (f1.ow.trans f2)
      · split at h2
        · rename_i lj
          have rr : Reps X.K C.T H1 S1 (fs.set j d) (vs.set j v) := r.set j rd
          obtain ⟨s2, f2⟩ := s1.refield (dx := dx) q0 hk hv0 h0 (ys := fs.set j d) (by simpa using hl) rr
          refine ⟨_, hv0, a, _, dx, _, rfl, h0, hcl, hna, hzl, ?_⟩
          rw [zip_set hnd hf (by rw [← r.length]; exact lj)]
          exact h2 σ _ S1 fp1 (by rw [h1]; exact s2) Kp.refl (f1.ow.trans f2)
        · exact h2.elim
    · exact h2.elim
  · exact h2.elim
end

/-! ### contracts from bodies -/
def mFn (n N : Nat) (fb : Env → R (Fl × Env)) (ds : List D) : R D := if ds.length = n then (fb (ds.map some ++ List.replicate (N - n) none)).bind fun (fl, _) => match fl with
    | .rt d => .ok d
    | .nx => .ok .non
    | _ => .bad
  else .bad
def mFnB (n N : Nat) (fb : Env → R (Fl × Env)) (ds : List D) : R (D × D) := if ds.length = n then (fb (ds.map some ++ List.replicate (N - n) none)).bind fun (fl, ρ) => match ρ[0]? with
    | some (some d0) => (match fl with
      | .rt d => .ok (d, d0)
      | .nx => .ok (.non, d0)
      | _ => .bad)
    | _ => .bad
  else .bad
section
variable {P : Program} {w : World} {K : PySem.W.Frag} {T : Tab} {mg : Str → Option Value} {base : Heap} {x qual : Str} {params : Arguments} {body : List Stmt} {scope : Scope} {dvs : List V} {kws : List (Str × V)} {f : Addr} {fd : FuncData} {N ps : List Str} {k kr k1 n : Nat} {Pk : List Nat} {J : Js} {Γ : List Nat} {fb : Env → R (Fl × Env)}
theorem spF_len {m : List D → R D} (hm : ∀ ds, ds.length ≠ n → m ds = .bad) : ∀ vs H Q E, spF K T kr m vs H Q E → vs.length = n := fun vs H Q E h => by
  obtain ⟨S, ds, r, al, h⟩ := h
  by_cases e : ds.length = n
  · rw [← r.length]; exact e
  · rw [hm ds e] at h; exact h.elim
theorem mFn_len {N : Nat} : ∀ ds, ds.length ≠ n → mFn n N fb ds = .bad := fun ds h => if_neg h
theorem start_len {vs : List V} (h : vs.length ≤ N.length) : (L2.start N vs).length = N.length := by
  simp [L2.start]; omega
theorem start_get {vs : List V} {i : Nat} {v : V} (h : vs[i]? = some v) : (L2.start N vs)[i]? = some (some v) := by
  unfold L2.start
  have hl : i < vs.length := (List.getElem?_eq_some_iff.mp h).1
  rw [List.getElem?_append_left (by simpa using hl), List.getElem?_map, h]; rfl
theorem env_get {ds : List D} {m i : Nat} {d : D} (h : (ds.map some ++ List.replicate m none)[i]? = some (some d)) : i < ds.length ∧ ds[i]? = some d := by
  by_cases hl : i < ds.length
  · rw [List.getElem?_append_left (by simpa using hl), List.getElem?_map] at h
    cases q : ds[i]? with
    | none => rw [q] at h; cases h
    | some e => rw [q] at h; cases h; exact ⟨hl, rfl⟩
  · rw [List.getElem?_append_right (by simpa using hl), List.getElem?_replicate] at h
    split at h <;> cases h
theorem stt_start {S : Addr → Prop} {H : Hp} {ds : List D} {vs : List V} (r : Reps K T H S ds vs) (al : ∀ a, S a → ∃ o, H a = some o) (hn : ds.length = n) (hN : n ≤ N.length) (hΓ : Γ.length = N.length) (h0 : ∀ i, i < n → Γ.getD i 0 = 0) :
    Stt K T Γ S (L2.start N vs) H (ds.map some ++ List.replicate (N.length - n) none) (fun _ => []) := by
  have lv : vs.length = n := by rw [← r.length]; exact hn
  refine ⟨⟨fun i a h => (nomatch h), fun i => List.nodup_nil, fun i j a h => (nomatch h), fun i a h => (nomatch h), al⟩, by simp [L2.start, lv, hn], by simp [L2.start, lv, hΓ]; omega, fun i d h => ?_⟩
  obtain ⟨hl, h⟩ := env_get h
  obtain ⟨v, hv, rv⟩ := r.get h
  exact ⟨v, start_get hv, by rw [h0 i (by omega)]; exact own_zero.mpr ⟨rfl, rv⟩⟩
/-- a def keeps its contract, by its body -/
theorem okF (F : FunD K x qual params body scope dvs kws f fd) (S : FnScope N ps scope) (hn : ps.length = n) (hΓ : Γ.length = N.length) (h0 : ∀ i, i < n → Γ.getD i 0 = 0) (hkr : J.kr = kr)
    (hbody : ∀ (cdv : Value) (A : Around) (outer : List PySem.Env) (s : Shared) (H : Hp) (E : XK), Room k (A.deeper (envOfC qual scope s.heap.objs.size f cdv)) →
      L2N.Takes (cxOf (L2N.CX P w) P w K mg base N qual scope f cdv A outer s H E) (fun cls d _ H => E cls d H) →
      DSs (cxOf (L2N.CX P w) P w K mg base N qual scope f cdv A outer s H E) ⟨T, fun cls d _ H => E cls d H⟩ Pk J Γ body fb) : FnOk P w K mg base (L2N.CX P w) (k + 1) f fd ps (spF K T kr (mFn n N.length fb)) := by
  have hN : n ≤ N.length := by
    have := congrArg List.length S.pre
    rw [List.length_take, hn] at this
    omega
  refine F.ok S (fun vs H Q E h => by rw [hn]; exact spF_len mFn_len vs H Q E h) fun cdv A outer s H vs Q E hr h => ⟨_, hbody cdv A outer s H E hr (L2N.takes_of rfl rfl rfl rfl), ?_⟩
  obtain ⟨S1, ds, r, al, h⟩ := h
  unfold mFn at h
  by_cases e : ds.length = n
  · rw [if_pos e] at h
    refine ⟨S1, _, _, stt_start r al e hN hΓ h0, ?_⟩
    have ow0 : ∀ b, Ow (fun _ => []) b → False := fun b ⟨_, z⟩ => nomatch z
    have fr : ∀ {H' : Hp} {S' O' : Addr → Prop}, Fra H S1 (Ow fun _ => []) H' S' O' → Fra H S1 (fun _ => False) H' S' O' := fun f =>
      ⟨fun b o h _ => f.kp b o h (ow0 b), f.sm, fun b z => (f.so b z).imp id (Or.imp_left (ow0 b)), fun b z => (f.oo b z).imp_left (ow0 b)⟩
    revert h
    generalize fb (ds.map some ++ List.replicate (N.length - n) none) = res
    intro h
    match res, h with
    | .ok (.nx, ρ'), h =>
      intro σ' H' S' fp' s' k f
      refine h .non H' S' [] ?_ List.nodup_nil (fun a z => (nomatch z)) s'.sep.al ((fr f).less fun b z => (nomatch z))
      cases kr with
      | zero => exact own_zero.mpr ⟨rfl, by simp [Rep]⟩
      | succ k => simp [Own, Rep]
    | .ok (.bk, ρ'), h => exact h.elim
    | .ok (.ct, ρ'), h => exact h.elim
    | .ok (.rt d, ρ'), h =>
      intro v σ' H' S' fp' Fv s' x' k f
      rw [hkr] at x'
      exact h v H' S' Fv x'.own x'.nd x'.ns s'.sep.al ((fr f).less fun b z => .inr z)
    | .er c fs, h => exact fun σ' k dx xs vs H' S' e1 e2 r f al => h dx xs vs H' S' e1 e2 r (fr f) al
    | .bad, h => exact h.elim
  · rw [if_neg e] at h; exact h.elim
/-- .. where it may change its first argument -/
theorem okB (F : FunD K x qual params body scope dvs kws f fd) (S : FnScope N ps scope) (hn : ps.length = n) (hn1 : 1 ≤ n) (hΓ : Γ.length = N.length) (hk1 : Γ.getD 0 0 = k1) (h0 : ∀ i, 1 ≤ i → i < n → Γ.getD i 0 = 0) (hkr : J.kr = kr) (hP : 0 ∈ Pk) (hrt : J.rt.getD 0 0 = k1) (hnx : J.nx.getD 0 0 = k1)
    (hbody : ∀ (cdv : Value) (A : Around) (outer : List PySem.Env) (s : Shared) (H : Hp) (E : XK), Room k (A.deeper (envOfC qual scope s.heap.objs.size f cdv)) →
      L2N.Takes (cxOf (L2N.CX P w) P w K mg base N qual scope f cdv A outer s H E) (fun cls d _ H => E cls d H) →
      DSs (cxOf (L2N.CX P w) P w K mg base N qual scope f cdv A outer s H E) ⟨T, fun cls d _ H => E cls d H⟩ Pk J Γ body fb) : FnOk P w K mg base (L2N.CX P w) (k + 1) f fd ps (spB K T k1 kr (mFnB n N.length fb)) := by
  have hN : n ≤ N.length := by
    have := congrArg List.length S.pre
    rw [List.length_take, hn] at this
    omega
  refine F.ok S (fun vs H Q E h => ?_) fun cdv A outer s H vs Q E hr h => ⟨_, hbody cdv A outer s H E hr (L2N.takes_of rfl rfl rfl rfl), ?_⟩
  · obtain ⟨S1, d0, v0, F0, ds, vs', rfl, o, nd, ns, r, al, h⟩ := h
    unfold mFnB at h
    by_cases e : (d0 :: ds).length = n
    · rw [hn, List.length_cons, ← r.length]; exact e
    · rw [if_neg e] at h; exact h.elim
  · obtain ⟨S1, d0, v0, F0, ds, vs', rfl, o, nd, ns, r, al, h⟩ := h
    unfold mFnB at h
    by_cases e : (d0 :: ds).length = n
    · rw [if_pos e] at h
      have lv : (v0 :: vs').length = n := by rw [List.length_cons, ← r.length]; exact e
      have st : Stt K T Γ S1 (L2.start N (v0 :: vs')) H ((d0 :: ds).map some ++ List.replicate (N.length - n) none) (fun i => if i = 0 then F0 else []) := by
        have mem : ∀ {i : Nat} {a : Addr}, a ∈ (if i = 0 then F0 else []) → i = 0 ∧ a ∈ F0 := fun {i a} h => by
          split at h
          · rename_i z; exact ⟨z, h⟩
          · cases h
        refine ⟨⟨fun i a h => o.mut a (mem h).2, fun i => ?_, fun i j a h h' => by rw [(mem h).1, (mem h').1], fun i a h => ns a (mem h).2, al⟩, by rw [start_len (by omega)]; simp at e ⊢; omega, by rw [start_len (by omega)]; exact hΓ, fun i d h => ?_⟩
        · split
          · exact nd
          · exact List.nodup_nil
        · obtain ⟨hl, h⟩ := env_get h
          cases i with
          | zero =>
            simp at h; subst h
            exact ⟨v0, start_get rfl, by rw [hk1]; exact o⟩
          | succ i =>
            have h' : ds[i]? = some d := by simpa using h
            obtain ⟨v, hv, rv⟩ := r.get h'
            refine ⟨v, start_get (by simpa using hv), ?_⟩
            rw [h0 (i + 1) (by omega) (by omega)]
            exact own_zero.mpr ⟨rfl, rv⟩
      refine ⟨S1, _, _, st, ?_⟩
      have ow0 : ∀ b, Ow (fun i => if i = 0 then F0 else []) b → b ∈ F0 := fun b ⟨i, z⟩ => by
        dsimp only at z
        split at z
        · exact z
        · cases z
      have fr : ∀ {H' : Hp} {S' O' : Addr → Prop}, Fra H S1 (Ow fun i => if i = 0 then F0 else []) H' S' O' → Fra H S1 (fun a => a ∈ F0) H' S' O' := fun f => f.more ow0
      have hv0 : (L2.start N (v0 :: vs'))[0]? = some (some v0) := start_get rfl
      revert h
      generalize fb ((d0 :: ds).map some ++ List.replicate (N.length - n) none) = res
      intro h
      have get0 : ∀ {ρ' : Env} {σ' : St} {H' : Hp} {S' : Addr → Prop} {fp' : Nat → List Addr} {Γ' : List Nat} {d1 : D}, Stt K T Γ' S' σ' H' ρ' fp' → Γ'.getD 0 0 = k1 → Kp Pk (L2.start N (v0 :: vs')) σ' → ρ'[0]? = some (some d1) → Own K T H' S' k1 d1 v0 (fp' 0) := by
        intro ρ' σ' H' S' fp' Γ' d1 s' e1 kp e2
        obtain ⟨v, hv, o⟩ := s'.sl 0 d1 e2
        rw [kp.2 0 hP, hv0] at hv
        cases hv
        rw [e1] at o
        exact o
      match res, h with
      | .ok (.nx, ρ'), h =>
        intro σ' H' S' fp' s' kp f
        cases q : ρ'[0]? with
        | none => simp only [R.bind_ok, q] at h; exact h.elim
        | some od =>
          cases od with
          | none => simp only [R.bind_ok, q] at h; exact h.elim
          | some d1 =>
            simp only [R.bind_ok, q] at h
            refine h .non H' S' [] (fp' 0) (get0 s' hnx kp q) ?_ (by simpa using s'.sep.nd 0) (fun a z => by simp at z; exact s'.sep.ns 0 a z) s'.sep.al ((fr f).less fun b z => z.elim (fun z => ⟨0, z⟩) fun z => nomatch z)
            cases kr with
            | zero => exact own_zero.mpr ⟨rfl, by simp [Rep]⟩
            | succ k => simp [Own, Rep]
      | .ok (.bk, ρ'), h =>
        simp only [R.bind_ok] at h
        split at h <;> exact h.elim
      | .ok (.ct, ρ'), h =>
        simp only [R.bind_ok] at h
        split at h <;> exact h.elim
      | .ok (.rt d, ρ'), h =>
        intro v σ' H' S' fp' Fv s' x' kp f
        cases q : ρ'[0]? with
        | none => simp only [R.bind_ok, q] at h; exact h.elim
        | some od =>
          cases od with
          | none => simp only [R.bind_ok, q] at h; exact h.elim
          | some d1 =>
            simp only [R.bind_ok, q] at h
            rw [hkr] at x'
            refine h v H' S' Fv (fp' 0) (get0 s' hrt kp q) x'.own (List.nodup_append.mpr ⟨s'.sep.nd 0, x'.nd, fun a h1 b h2 e => x'.dj b h2 0 (e ▸ h1)⟩) (fun a z => ?_) s'.sep.al ((fr f).less fun b z => z.elim (fun z => .inl ⟨0, z⟩) .inr)
            rcases List.mem_append.mp z with z | z
            · exact s'.sep.ns 0 a z
            · exact x'.ns a z
      | .er c fs, h => exact fun σ' k dx xs vs H' S' e1 e2 r f al => h dx xs vs H' S' e1 e2 r (fr f) al
      | .bad, h => exact h.elim
    · rw [if_neg e] at h; exact h.elim
end
end Z
set_option Elab.async false
set_option linter.all false
set_option maxRecDepth 100000
/-! Z7: instances are made; methods; keywords -/
namespace Z
open PySem PySem.Spec L2
open PyProof.Rows hiding St

section
variable {K : PySem.W.Frag} {T : Tab} {W : WX} {Γ Γ' : List Nat} {k : Nat} {σ : St} {H H' : Hp} {S S' O O' : Addr → Prop} {fp : Nat → List Addr} {ρ : Env} {Q : VK}
/-- a value's own objects become shared -/
theorem Stt.mix {d : D} {v : V} {Fv : List Addr} (s : Stt K T Γ S σ H ρ fp) (x : Val K T S H fp k d v Fv) : Stt K T Γ (fun a => S a ∨ a ∈ Fv) σ H ρ fp := by
  refine ⟨⟨s.sep.mu, s.sep.nd, s.sep.dj, fun i a h z => ?_, fun a z => ?_⟩, s.len, s.gl, fun i d h => ?_⟩
  · rcases z with z | z
    · exact s.sep.ns i a h z
    · exact x.dj a z i h
  · rcases z with z | z
    · exact s.sep.al a z
    · have m := x.own.mut a z
      cases q : H a with
      | none => rw [q] at m; exact m.elim
      | some o => exact ⟨o, rfl⟩
  · obtain ⟨v, hv, o⟩ := s.sl i d h
    exact ⟨v, hv, o.stay (Stay.more fun a h => .inl h) fun a _ o h => h⟩
theorem Fra.mix {fp' : Nat → List Addr} {Fv : List Addr} (f : Fra H S O H' S' (fun a => Ow fp' a ∨ a ∈ Fv)) : Fra H S O H' (fun a => S' a ∨ a ∈ Fv) (Ow fp') :=
  ⟨f.kp, fun b z => .inl (f.sm b z), fun b z => z.elim (f.so b) fun z => .inr (f.oo b (.inr z)), fun b z => f.oo b (.inl z)⟩
/-- a state behind code whose own objects are none of the frame's -/
theorem Stt.afterO (s : Stt K T Γ S σ H ρ fp) (mO : ∀ a, O a → Mut (H a)) (nO : ∀ a, O a → ¬ S a ∧ ∀ i, a ∉ fp i) (f : Fra H S O H' S' O') (al : ∀ a, S' a → ∃ o, H' a = some o) : Stt K T Γ S' σ H' ρ fp := by
  have st : Stay K H S H' S' := .of mO (fun a z => (nO a z).1) f
  have keep : ∀ i a, a ∈ fp i → ∀ o, H a = some o → H' a = some o := fun i a m o h => f.kp a o h fun z => (nO a z).2 i m
  refine ⟨⟨fun i a h => ?_, s.sep.nd, s.sep.dj, fun i a h z => ?_, al⟩, s.len, s.gl, fun i d h => ?_⟩
  · have m := s.sep.mu i a h
    cases q : H a with
    | none => rw [q] at m; exact m.elim
    | some o => rw [keep i a h o q]; rw [q] at m; exact m
  · rcases f.so a z with z | z | z
    · exact s.sep.ns i a h z
    · exact (nO a z).2 i h
    · have m := s.sep.mu i a h; rw [z] at m; exact m
  · obtain ⟨v, hv, o⟩ := s.sl i d h
    exact ⟨v, hv, o.stay st fun a m o h => keep i a m o h⟩
end

section
variable {X : Cx} {C : Cz} {Γ Γ' Γ1 Γ2 : List Nat} {k kr k1 lv i : Nat} {x y mn : Str} {pos p p2 apos : Pos} {a b e o : Expr} {es : List Expr} {kws : List Keyword} {fa fb : Env → R (D × Env)} {fs fk : Env → R (List D × Env)} {m : List D → R D} {mB : List D → R (D × D)}
  {f cl : Addr} {fd : FuncData} {ps ks : List Str} {ds : List Value} {dvs : List V} {E : XK}
/-- an owned value is used as a shared one -/
theorem de_sh (h : DE X C Γ e Γ1 k fa) : DE X C Γ e Γ1 0 fa := pe_imp h fun σ H Q h => by
  obtain ⟨S, ρ, fp, s, h⟩ := h
  refine ⟨S, ρ, fp, s, ?_⟩
  revert h
  generalize fa ρ = r
  intro h
  match r, h with
  | .ok (d, ρ'), h => exact fun v H' S' fp' Fv s' x' f' => h v H' _ fp' [] (s'.mix x') (.of x'.own.freeze) f'.mix.ow'
  | .er c fs, h => exact h
  | .bad, h => exact h

/-! ### C(..) -/
def mMake (c : Nat) (m : List D → R (D × D)) (fs : Env → R (List D × Env)) : Env → R (D × Env) := fun ρ => (fs ρ).bind fun (xs, ρ1) => (m (.ins c [] :: xs)).bind fun (d, d0) => match d with
  | .non => .ok (d0, ρ1)
  | _ => .bad
theorem make_data {c : Nat} {σ : St} {H : Hp} {S : Addr → Prop} {ρ : Env} {fp : Nat → List Addr} {Q : VK} {xs : List D} {vs : List V} {E : XK} (hW : ∀ cls d H', C.W cls d σ H' → E cls d H') (s : Stt X.K C.T Γ S σ H ρ fp) (r : Reps X.K C.T H S xs vs)
    (h : OutE X.K C.T C.W Γ 1 σ H S fp Q ((mB (.ins c [] :: xs)).bind fun (d, d0) => match d with | .non => .ok (d0, ρ) | _ => .bad)) (p dx : Addr) (hp : H p = none) (hdx : H dx = none) (hne : dx ≠ p) :
    spB X.K C.T 1 0 mB (.ref p :: vs) (upd (upd H dx (.own p)) p (.ins (C.T.cm c) dx [])) (fun v H2 => v = .non ∧ Q (.ref p) H2) E := by
  have k1 : ∀ b o, H b = some o → upd (upd H dx (.own p)) p (.ins (C.T.cm c) dx []) b = some o := fun b o e => by
    rw [upd_ne (ne_of_none e hp), upd_ne (ne_of_none e hdx)]; exact e
  have s1 := s.grow k1
  have fr := s.sep.fresh hp
  refine ⟨S, .ins c [], .ref p, [p], xs, vs, rfl, own_ins1.mpr ⟨p, dx, [], rfl, by simp [upd_same], rfl, by simp, by simp [Reps]⟩, by simp, fun a m => by rw [List.mem_singleton] at m; subst m; exact fr.1, (Stay.grow k1).reps r, s1.sep.al, ?_⟩
  have g0 : Fra H S (Ow fp) (upd (upd H dx (.own p)) p (.ins (C.T.cm c) dx [])) S (fun a => a ∈ [p]) := ⟨fun b o e _ => k1 b o e, fun _ z => z, fun _ z => .inl z, fun b z => by rw [List.mem_singleton] at z; subst z; exact .inr hp⟩
  cases q : mB (.ins c [] :: xs) with
  | ok ar =>
    obtain ⟨d, d0⟩ := ar
    rw [q] at h
    simp only [R.bind_ok] at h
    intro v H' S' Fv F0' o0 o1 nd ns al f
    cases d with
    | non =>
      obtain ⟨e1, e2⟩ := own_zero.mp o1
      subst e1
      rw [List.append_nil] at nd ns
      refine ⟨rep_non e2, ?_⟩
      refine h _ H' S' fp F0' (s1.afterO (fun a m => ?_) (fun a m => ?_) f al) ⟨o0, nd, ns, fun a m j z => ?_⟩ ?_
      · rw [List.mem_singleton] at m; subst m; rw [upd_same]; trivial
      · rw [List.mem_singleton] at m; subst m; exact fr
      · rcases f.oo a (.inl m) with w | w
        · rw [List.mem_singleton] at w; subst w; exact fr.2 j z
        · have mm := s1.sep.mu j a z; rw [w] at mm; exact mm
      · refine ⟨fun b o e n => f.kp b o (k1 b o e) fun z => ?_, f.sm, fun b z => ?_, fun b z => ?_⟩
        · rw [List.mem_singleton] at z; subst z; rw [hp] at e; cases e
        · exact (g0.trans f).so b z
        · rcases z with z | z
          · exact .inl z
          · exact (g0.trans f).oo b (.inl z)
    | _ => exact h.elim
  | er c' fs' =>
    rw [q] at h
    intro dx' xs' vs' H' S' e1 e2 r' f al
    exact hW _ _ _ (h dx' xs' vs' H' S' e1 e2 r' (g0.trans f) al)
  | bad => rw [q] at h; exact h
theorem de_make {c : Nat} {xd : List D} (hW : C.W = fun cls d _ H => E cls d H) (M : Mk X.K (C.T.cm c) f) (F : FnOk X.prog X.w X.K X.mg X.base (L2N.CX X.prog X.w) lv f fd ps (spB X.K C.T 1 0 mB)) (hr : Room (lv + 1) X.A) (tk : L2N.Takes X C.W) (hg : Gl X x) (hm : X.mg x = some (.ref (C.T.cm c))) (hb : Binds X.K fd ps ds) (hd : Vals dvs ds)
    (hxd : ∀ S H, Reps X.K C.T H S xd dvs) (ha : DA X C Γ (e :: es) Γ1 fs) (hdb : (x == ("__debug__" : Str)) = false := by decide) (he : starEach (e :: es) X.env = (false, eval e X.env) :: starEach es X.env := by rfl) (hpl : (backTo pos (starEach es X.env)).any (·.1) = false := by rfl) :
    DE X C Γ (.Call (.Name x p) (e :: es) [] pos) Γ1 1 (mMake c (fun xs => mB (xs ++ xd)) fs) := by
  refine pe_imp (pe_make (E := E) M F hr hg hm hb hd (L2N.passes_call tk fun cls d σ H z => by rw [hW]; exact z) ha hdb he hpl) fun σ H Q h => ?_
  obtain ⟨S, ρ, fp, s, h⟩ := h
  refine ⟨S, ρ, fp, s, OutA.thenE h fun xs ρ1 vs H1 S1 fp1 e1 s1 r1 f1 h1 => ?_⟩
  intro p dx hp hdx hne
  exact make_data (fun cls d H' z => by rw [hW] at z; exact z) s1 (r1.append (hxd S1 H1)) h1 p dx hp hdx hne

/-! ### keywords -/
/-- the keywords' values in the parameters' order -/
def permL {α : Type} (ix : List Nat) (ws : List α) : List α := ix.filterMap fun j => ws[j]?
theorem vals_perm {vs : List V} {us : List Value} (h : Vals vs us) : ∀ {ix : List Nat}, Vals (permL ix vs) (permL ix us)
  | [] => .nil
  | j :: ix => by
    unfold permL
    simp only [List.filterMap_cons]
    cases q : vs[j]? with
    | none =>
      have q2 : us[j]? = none := by
        rw [List.getElem?_eq_none_iff] at q ⊢
        rw [← h.length]; exact q
      rw [q2]
      exact vals_perm h (ix := ix)
    | some v =>
      obtain ⟨u, e, r⟩ := h.get q
      rw [e]
      exact .cons r (vals_perm h (ix := ix))
theorem reps_perm {K : PySem.W.Frag} {T : Tab} {H : Hp} {S : Addr → Prop} {vs : List D} {us : List V} (h : Reps K T H S vs us) : ∀ {ix : List Nat}, Reps K T H S (permL ix vs) (permL ix us)
  | [] => by simp [permL, Reps]
  | j :: ix => by
    unfold permL
    simp only [List.filterMap_cons]
    cases q : vs[j]? with
    | none =>
      have q2 : us[j]? = none := by
        rw [List.getElem?_eq_none_iff] at q ⊢
        rw [← h.length]; exact q
      rw [q2]
      exact reps_perm h (ix := ix)
    | some v =>
      obtain ⟨u, e, r⟩ := h.get q
      rw [e]
      simp only [Reps]
      exact ⟨u, _, rfl, r, reps_perm h (ix := ix)⟩
/-- n positional values, then the keywords ks -/
theorem kbn_of {n : Nat} {ix : List Nat} (h : ∀ us ws : List Value, us.length = n → ws.length = ks.length → bindArgs fd ⟨us, ks.zip ws⟩ = pure (ps.zip (us ++ permL ix ws))) : KBn X.K fd ps n ks (fun us ws => us ++ permL ix ws) (fun us ws => us ++ permL ix ws) :=
  ⟨fun s us ws _ l1 l2 => BindsTo.of_eq (h us ws l1 l2), fun r1 r2 => r1.append (vals_perm r2)⟩
abbrev DK (X : Cx) (Z : Cz) (Γ : List Nat) (kws : List Keyword) (Γ' : List Nat) (f : Env → R (List D × Env)) : Prop := PK X kws (tA X.K Z.T Z.W Γ Γ' f)
theorem pk_imp {t t' : TA} (h : PK X kws t) (i : ∀ σ H Q, t' σ H Q → t σ H Q) : PK X kws t' := ⟨fun pos pins s σ H Q I q => h.run pos pins s σ H Q I (i σ H Q q)⟩
theorem dk_nil : DK X C Γ [] Γ mNil := pk_imp pk_nil fun σ H Q h => by
  obtain ⟨S, ρ, fp, s, h⟩ := h
  exact h [] H S fp s (by simp [Reps]) Fra.refl
theorem dk_cons {nm : Option Str} {kpos : Pos} (ha : DE X C Γ a Γ1 0 fa) (hr : DK X C Γ1 kws Γ2 fk) : DK X C Γ (⟨nm, a, kpos⟩ :: kws) Γ2 (mCons fa fk) := by
  refine pk_imp (pk_cons ha hr) fun σ H Q h => ?_
  obtain ⟨S, ρ, fp, s, h⟩ := h
  refine ⟨S, ρ, fp, s, OutE.thenA h fun d1 ρ1 v1 H1 S1 fp1 e1 s1 r1 f1 h1 => ?_⟩
  refine ⟨S1, ρ1, fp1, s1, OutA.thenA h1 fun ds ρ2 vs H2 S2 fp2 e2 s2 r2 f2 h2 => ?_⟩
  refine h2 (v1 :: vs) H2 S2 fp2 s2 ?_ Fra.refl
  simp only [Reps]
  exact ⟨v1, vs, rfl, s1.rep_fra r1 f2, r2⟩
def mLen (n : Nat) (f : Env → R (List D × Env)) : Env → R (List D × Env) := fun ρ => (f ρ).bind fun (xs, ρ1) => if xs.length = n then .ok (xs, ρ1) else .bad
/-- f(k = v, ..), no positional values; n: how many keywords -/
def mCallK (m : List D → R D) (n : Nat) (ix : List Nat) (fs : Env → R (List D × Env)) : Env → R (D × Env) := fun ρ => (fs ρ).bind fun (xs, ρ1) => if xs.length = n then (m (permL ix xs)).bind fun d => .ok (d, ρ1) else .bad
theorem de_callK {ix : List Nat} (hW : C.W = fun cls d _ H => E cls d H) (F : FnOk X.prog X.w X.K X.mg X.base (L2N.CX X.prog X.w) lv f fd ps (spF X.K C.T kr m)) (hr : Room lv X.A) (tk : L2N.Takes X C.W) (hg : Gl X x) (hm : X.mg x = some (.ref f)) (hk : PySem.W.keepIn X.K (.ref f) = true)
    (hb : KBn X.K fd ps 0 ks (fun us ws => us ++ permL ix ws) (fun us ws => us ++ permL ix ws)) (hkw : DK X C Γ kws Γ1 fk) (hall : (backToKw pos (keywordEach kws X.env)).all (·.1.isSome) = true := by rfl) (hks : (backToKw pos (keywordEach kws X.env)).filterMap (·.1) = ks := by rfl)
    (hdb : (x == ("__debug__" : Str)) = false := by decide) (hpl : ((backTo pos (starEach [] X.env)).any (·.1) || (backToKw pos (keywordEach kws X.env)).any (·.1.isNone)) = false := by rfl) :
    DE X C Γ (.Call (.Name x p) [] kws pos) Γ1 kr (mCallK m ks.length ix fk) := by
  refine ⟨fun pins s σ H Q I h => ?_⟩
  refine wpAny_Call_Name_kw (ld_glob I hg hm ?_ hdb)
  have go : tA X.K C.T C.W Γ Γ1 fk σ H (fun zs H1 => zs.length = ks.length ∧ spF X.K C.T kr m ([] ++ permL ix zs) H1 Q E) := by
    obtain ⟨S, ρ, fp, st, h⟩ := h
    refine ⟨S, ρ, fp, st, OutA.thenE h fun xs ρ1 vs H1 S1 fp1 e1 s1 r1 f1 h1 => ?_⟩
    dsimp only at h1
    by_cases hl : xs.length = ks.length
    · rw [if_pos hl] at h1
      refine ⟨by rw [← r1.length]; exact hl, ?_⟩
      have z := call_data (m := m) (C := C) s1 (reps_perm r1 (ix := ix)) h1
      rw [hW] at z
      exact z
    · rw [if_neg hl] at h1; exact h1.elim
  refine PySem.W.callWith_KW0 (h₀ := X.base) I.ok.mod.kin hk hall ?_ hpl
  refine thn (hkw.run pos pins s σ H _ I go) fun ws s2 ⟨zs, H2, I2, rz, l2, q2⟩ => ⟨I2.kIn, ?_⟩
  rw [hks]
  exact run_fnN (us := []) (vs := []) F hr hb (L2N.passes_call tk fun cls d σ H z => by rw [hW]; exact z) I2 .nil rz rfl l2 q2
/-- C(k = v, ..) -/
def mMakeK (c : Nat) (m : List D → R (D × D)) (n : Nat) (ix : List Nat) (fs : Env → R (List D × Env)) : Env → R (D × Env) := mMake c m (fun ρ => (fs ρ).bind fun (xs, ρ1) => if xs.length = n then .ok (permL ix xs, ρ1) else .bad)
theorem de_makeK {c : Nat} {ix : List Nat} (hW : C.W = fun cls d _ H => E cls d H) (M : Mk X.K (C.T.cm c) f) (F : FnOk X.prog X.w X.K X.mg X.base (L2N.CX X.prog X.w) lv f fd ps (spB X.K C.T 1 0 mB)) (hr : Room (lv + 1) X.A) (tk : L2N.Takes X C.W) (hg : Gl X x) (hm : X.mg x = some (.ref (C.T.cm c)))
    (hb : KBn X.K fd ps 1 ks (fun us ws => us ++ permL ix ws) (fun us ws => us ++ permL ix ws)) (hkw : DK X C Γ kws Γ1 fk) (hall : (backToKw pos (keywordEach kws X.env)).all (·.1.isSome) = true := by rfl) (hks : (backToKw pos (keywordEach kws X.env)).filterMap (·.1) = ks := by rfl)
    (hdb : (x == ("__debug__" : Str)) = false := by decide) (hpl : ((backTo pos (starEach [] X.env)).any (·.1) || (backToKw pos (keywordEach kws X.env)).any (·.1.isNone)) = false := by rfl) :
    DE X C Γ (.Call (.Name x p) [] kws pos) Γ1 1 (mMakeK c mB ks.length ix fk) := by
  refine pe_imp (pe_makeK0 (E := E) M F hr hg hm hb (L2N.passes_call tk fun cls d σ H z => by rw [hW]; exact z) hkw hall hks hdb hpl) fun σ H Q h => ?_
  obtain ⟨S, ρ, fp, s, h⟩ := h
  refine ⟨S, ρ, fp, s, ?_⟩
  unfold mMakeK mMake at h
  rw [bind_asc] at h
  refine OutA.thenE h fun xs ρ1 vs H1 S1 fp1 e1 s1 r1 f1 h1 => ?_
  dsimp only at h1
  by_cases hl : xs.length = ks.length
  · rw [if_pos hl] at h1
    refine ⟨rfl, by rw [← r1.length]; exact hl, ?_⟩
    intro p dx hp hdx hne
    exact make_data (fun cls d H' z => by rw [hW] at z; exact z) s1 (reps_perm r1 (ix := ix)) h1 p dx hp hdx hne
  · rw [if_neg hl] at h1; exact h1.elim
end
end Z
set_option Elab.async false
set_option linter.all false
set_option maxRecDepth 100000
/-! Z8: operations on plain data -/
namespace Z
open PySem PySem.Spec L2
open PyProof.Rows hiding St

/-! ### what may be read: shared data, or a list that a name owns -/
/-- the items of a list (true) or a tuple (false) -/
def seqD : D → Option (Bool × List D)
  | .lst xs => some (true, xs)
  | .kls xs => some (true, xs)
  | .tup xs => some (false, xs)
  | _ => none
structure Pe (K : PySem.W.Frag) (T : Tab) (H : Hp) (S : Addr → Prop) (d : D) (v : V) : Prop where
  sq : ∀ b xs, seqD d = some (b, xs) → ∃ a vs, v = .ref a ∧ (b = true → SqL K H a vs) ∧ (b = false → SqT K H a vs) ∧ Reps K T H S xs vs
  st : ∀ x, d = .str x → v = .str x
  lh : ∀ xs, d = .lst xs → ∃ a vs, v = .ref a ∧ H a = some (.lst vs) ∧ Reps K T H S xs vs
section
variable {K : PySem.W.Frag} {T : Tab} {H : Hp} {S : Addr → Prop} {d : D} {v : V} {xs : List D} {k : Nat} {F : List Addr}
theorem Pe.of (h : Rep K T H S d v) : Pe K T H S d v := by
  refine ⟨fun b xs e => ?_, fun x e => ?_, fun xs e => ?_⟩
  · cases d with
    | lst ys =>
      cases e
      simp only [Rep] at h
      obtain ⟨a, vs, e, h1, _, r⟩ := h
      exact ⟨a, vs, e, fun _ => .inl (.inl h1), fun z => (nomatch z), r⟩
    | kls ys =>
      cases e
      simp only [Rep] at h
      obtain ⟨a, vs, e, h1, r⟩ := h
      exact ⟨a, vs, e, fun _ => h1.sql, fun z => (nomatch z), r⟩
    | tup ys =>
      cases e
      simp only [Rep] at h
      obtain ⟨a, vs, e, h1, r⟩ := h
      exact ⟨a, vs, e, fun z => (nomatch z), fun _ => h1, r⟩
    | _ => cases e
  · subst e; exact rep_str h
  · subst e
    simp only [Rep] at h
    obtain ⟨a, vs, e, h1, _, r⟩ := h
    exact ⟨a, vs, e, h1, r⟩
theorem Pe.own (h : Own K T H S k d v F) (hk : k ≤ 1) : Pe K T H S d v := by
  match k, hk with
  | 0, _ => exact .of (own_zero.mp h).2
  | 1, _ =>
    cases d with
    | lst ys =>
      obtain ⟨a, vs, e, h1, r⟩ := peek_lst h (Nat.le_refl _)
      refine ⟨fun b xs e2 => ?_, fun x e => (nomatch e), fun xs e2 => ?_⟩
      · cases e2; exact ⟨a, vs, e, fun _ => .inl (.inl h1), fun z => (nomatch z), r⟩
      · cases e2; exact ⟨a, vs, e, h1, r⟩
    | ins c fs => exact ⟨fun b xs e => (nomatch e), fun x e => (nomatch e), fun x e => (nomatch e)⟩
    | _ => simp only [Own] at h; exact .of h.2
theorem at_len {α β : Type} {xs : List α} {ys : List β} {i : Int} {a : α} (hl : xs.length = ys.length) (h : atI xs i = some a) : ∃ j, ixN ys.length i = some j ∧ xs[j]? = some a := by
  unfold atI at h
  rw [hl] at h
  cases q : ixN ys.length i with
  | none => rw [q] at h; cases h
  | some j => rw [q] at h; exact ⟨j, rfl, h⟩
end
def Prim2P (K : PySem.W.Frag) (T : Tab) (k : Nat) (r : R2) (g : D → D → Option D) : Prop :=
  ∀ S H x y v w d, Pe K T H S x v → Rep K T H S y w → g x y = some d → Gives K T S H k d (r v w H)
def Prim1P (K : PySem.W.Frag) (T : Tab) (k : Nat) (r : V → Hp → VK → Prop) (g : D → Option D) : Prop :=
  ∀ S H x v d, Pe K T H S x v → g x = some d → Gives K T S H k d (r v H)
theorem Prim2P.to {K : PySem.W.Frag} {T : Tab} {k : Nat} {r : R2} {g : D → D → Option D} (h : Prim2P K T k r g) : Prim2 K T k r g := fun S H x y v w d r1 r2 e => h S H x y v w d (.of r1) r2 e
theorem Prim1P.to {K : PySem.W.Frag} {T : Tab} {k : Nat} {r : V → Hp → VK → Prop} {g : D → Option D} (h : Prim1P K T k r g) : Prim1 K T k r g := fun S H x v d r1 e => h S H x v d (.of r1) e
/-- one argument, by the list of arguments -/
def rOne (r : List V → Hp → VK → Prop) : V → Hp → VK → Prop := fun v H Q => r [v] H Q
def gOne (g : D → Option D) : List D → Option D
  | [x] => g x
  | _ => none
def gTwo (g : D → D → Option D) : List D → Option D
  | [x, y] => g x y
  | _ => none
theorem gOne_some {g : D → Option D} {ds : List D} {d : D} (h : gOne g ds = some d) : ∃ x, ds = [x] ∧ g x = some d := by
  cases ds with
  | nil => cases h
  | cons x r =>
    cases r with
    | nil => exact ⟨x, rfl, h⟩
    | cons y r => cases h
theorem gTwo_some {g : D → D → Option D} {ds : List D} {d : D} (h : gTwo g ds = some d) : ∃ x y, ds = [x, y] ∧ g x y = some d := by
  cases ds with
  | nil => cases h
  | cons x r =>
    cases r with
    | nil => cases h
    | cons y r =>
      cases r with
      | nil => exact ⟨x, y, rfl, h⟩
      | cons z r => cases h
theorem Prim1.args {K : PySem.W.Frag} {T : Tab} {k : Nat} {r : List V → Hp → VK → Prop} {g : D → Option D} (h : Prim1 K T k (rOne r) g) : PrimR K T k r (gOne g) := fun S H ds vs d r1 e => by
  obtain ⟨x, rfl, e⟩ := gOne_some e
  simp only [Reps] at r1
  obtain ⟨v, ws, rfl, r1, rfl⟩ := r1
  exact h S H x v d r1 e
theorem Prim2.args {K : PySem.W.Frag} {T : Tab} {k : Nat} {r : List V → Hp → VK → Prop} {g : D → D → Option D} (h : Prim2 K T k (fun v w H Q => r [v, w] H Q) g) : PrimR K T k r (gTwo g) := fun S H ds vs d r1 e => by
  obtain ⟨x, y, rfl, e⟩ := gTwo_some e
  simp only [Reps] at r1
  obtain ⟨v, ws, rfl, r1, w, us, rfl, r2, rfl⟩ := r1
  exact h S H x y v w d r1 r2 e

/-! ### whole numbers -/
def gII (c : Int → Int → Bool) (f : Int → Int → Int) : D → D → Option D
  | .int i, .int j => if c i j = true then some (.int (f i j)) else none
  | _, _ => none
def gI0 (f : Int → Int → Int) : D → D → Option D
  | .int i, .int j => some (.int (f i j))
  | _, _ => none
def gIB (f : Int → Int → Bool) : D → D → Option D
  | .int i, .int j => some (.bl (f i j))
  | _, _ => none
def gU (f : Int → Int) : D → Option D
  | .int i => some (.int (f i))
  | _ => none
theorem gII_some {c : Int → Int → Bool} {f : Int → Int → Int} {x y d : D} (h : gII c f x y = some d) : ∃ i j, x = .int i ∧ y = .int j ∧ c i j = true ∧ d = .int (f i j) := by
  cases x with
  | int i =>
    cases y with
    | int j =>
      simp only [gII] at h
      split at h
      · rename_i q; cases h; exact ⟨i, j, rfl, rfl, q, rfl⟩
      · cases h
    | _ => cases h
  | _ => cases h
theorem gI0_some {f : Int → Int → Int} {x y d : D} (h : gI0 f x y = some d) : ∃ i j, x = .int i ∧ y = .int j ∧ d = .int (f i j) := by
  cases x with
  | int i =>
    cases y with
    | int j => cases h; exact ⟨i, j, rfl, rfl, rfl⟩
    | _ => cases h
  | _ => cases h
theorem gIB_some {f : Int → Int → Bool} {x y d : D} (h : gIB f x y = some d) : ∃ i j, x = .int i ∧ y = .int j ∧ d = .bl (f i j) := by
  cases x with
  | int i =>
    cases y with
    | int j => cases h; exact ⟨i, j, rfl, rfl, rfl⟩
    | _ => cases h
  | _ => cases h
theorem gU_some {f : Int → Int} {x d : D} (h : gU f x = some d) : ∃ i, x = .int i ∧ d = .int (f i) := by
  cases x with
  | int i => cases h; exact ⟨i, rfl, rfl⟩
  | _ => cases h
section
variable {K : PySem.W.Frag} {T : Tab} {X : Cx}
theorem gives_val {S : Addr → Prop} {H : Hp} {d : D} {v : V} {rd : VK → Prop} (r : Rep K T H S d v) (h : ∀ Q, Q v H → rd Q) : Gives K T S H 0 d rd := .inl ⟨v, r, rfl, h⟩
theorem p_i0 {f : Int → Int → Int} : Prim2 K T 0 (rI0 fun i j => .int (f i j)) (gI0 f) := fun S H x y v w d r1 r2 e => by
  obtain ⟨i, j, rfl, rfl, rfl⟩ := gI0_some e
  exact gives_val (by simp [Rep]) fun Q q => ⟨i, j, rep_int r1, rep_int r2, q⟩
theorem p_ib {f : Int → Int → Bool} : Prim2 K T 0 (rI0 fun i j => .bl (f i j)) (gIB f) := fun S H x y v w d r1 r2 e => by
  obtain ⟨i, j, rfl, rfl, rfl⟩ := gIB_some e
  exact gives_val (by simp [Rep]) fun Q q => ⟨i, j, rep_int r1, rep_int r2, q⟩
theorem p_ii {C : Int → Int → Prop} {c : Int → Int → Bool} {f : Int → Int → Int} (hc : ∀ i j, c i j = true → C i j) : Prim2 K T 0 (rI C fun i j => .int (f i j)) (gII c f) := fun S H x y v w d r1 r2 e => by
  obtain ⟨i, j, rfl, rfl, q, rfl⟩ := gII_some e
  exact gives_val (by simp [Rep]) fun Q q' => ⟨i, j, rep_int r1, rep_int r2, hc i j q, q'⟩
theorem p_u {f : Int → Int} : Prim1 K T 0 (rU fun i => .int (f i)) (gU f) := fun S H x v d r1 e => by
  obtain ⟨i, rfl, rfl⟩ := gU_some e
  exact gives_val (by simp [Rep]) fun Q q => ⟨i, rep_int r1, q⟩
theorem OpR.or2 {f : Value → Value → Sem Value} {r r' : R2} (a : OpR X f r) (b : OpR X f r') : OpR X f (fun x y H Q => r x y H Q ∨ r' x y H Q) := fun pins s σ H x y v u Q I rx ry h => h.elim (a pins s σ H x y v u Q I rx ry) (b pins s σ H x y v u Q I rx ry)
theorem Gives.imp {S : Addr → Prop} {H : Hp} {k : Nat} {d : D} {rd rd' : VK → Prop} (h : Gives K T S H k d rd) (i : ∀ Q, rd Q → rd' Q) : Gives K T S H k d rd' := by
  rcases h with ⟨v, a, b, q⟩ | ⟨xs, vs, a, b, c, q⟩ | ⟨xs, vs, a, b, c, q⟩
  · exact .inl ⟨v, a, b, fun Q z => i Q (q Q z)⟩
  · exact .inr (.inl ⟨xs, vs, a, b, c, fun Q z => i Q (q Q z)⟩)
  · exact .inr (.inr ⟨xs, vs, a, b, c, fun Q z => i Q (q Q z)⟩)
/-! * -/
def small64 (i : Int) : Bool := decide (i.natAbs < 18446744073709551616)
def small5k (i : Int) : Bool := decide (i.natAbs.log2 < 9000)
theorem small64_of {i : Int} (h : small64 i = true) : -(2 ^ 64) < i ∧ i < 2 ^ 64 := by
  have z : i.natAbs < 18446744073709551616 := of_decide_eq_true h
  have e : (2 : Int) ^ 64 = 18446744073709551616 := by decide
  omega
def cMul (i j : Int) : Bool := small64 i || small64 j || (small5k i && small5k j)
def rMul : R2 := fun x y H Q => rI CMul (fun i j => .int (i * j)) x y H Q ∨ rI CMulW (fun i j => .int (i * j)) x y H Q
theorem o_mul : OpR X (binaryOp .Mult) rMul := OpR.or2 op_mul op_mulW
theorem p_mul : Prim2 K T 0 rMul (gII cMul (· * ·)) := fun S H x y v w d r1 r2 e => by
  obtain ⟨i, j, rfl, rfl, q, rfl⟩ := gII_some e
  refine gives_val (v := .int (i * j)) (by simp [Rep]) fun Q q' => ?_
  unfold cMul at q
  rw [Bool.or_eq_true, Bool.or_eq_true, Bool.and_eq_true] at q
  rcases q with (q | q) | ⟨q1, q2⟩
  · exact .inl ⟨i, j, rep_int r1, rep_int r2, .inl (small64_of q), q'⟩
  · exact .inl ⟨i, j, rep_int r1, rep_int r2, .inr (small64_of q), q'⟩
  · have z1 : i.natAbs.log2 < 9000 := of_decide_eq_true q1
    have z2 : j.natAbs.log2 < 9000 := of_decide_eq_true q2
    exact .inr ⟨i, j, rep_int r1, rep_int r2, by unfold CMulW; omega, q'⟩
/-! // -/
def cDiv (_ j : Int) : Bool := decide (j ≠ 0) && (decide (j.natAbs < 1073741824) || (decide (0 < j) && small5k j))
def rDiv : R2 := fun x y H Q => rI CDivN (fun i j => .int (i.fdiv j)) x y H Q ∨ rI CDivW (fun i j => .int (i / j)) x y H Q
theorem o_div : OpR X (binaryOp .FloorDiv) rDiv := OpR.or2 op_fdivN op_fdivW
theorem p_div : Prim2 K T 0 rDiv (gII cDiv Int.fdiv) := fun S H x y v w d r1 r2 e => by
  obtain ⟨i, j, rfl, rfl, q, rfl⟩ := gII_some e
  refine gives_val (v := .int (i.fdiv j)) (by simp [Rep]) fun Q q' => ?_
  unfold cDiv at q
  rw [Bool.and_eq_true, Bool.or_eq_true, Bool.and_eq_true] at q
  obtain ⟨n, q | ⟨q1, q2⟩⟩ := q
  · exact .inl ⟨i, j, rep_int r1, rep_int r2, ⟨of_decide_eq_true n, of_decide_eq_true q⟩, q'⟩
  · have z1 : 0 < j := of_decide_eq_true q1
    have z2 : j.natAbs.log2 < 9000 := of_decide_eq_true q2
    exact .inr ⟨i, j, rep_int r1, rep_int r2, ⟨z1, z2⟩, by show Q (.int (i / j)) H; rw [← Int.fdiv_eq_ediv_of_nonneg i (by omega)]; exact q'⟩
def cNz (_ j : Int) : Bool := decide (j ≠ 0)
theorem p_mod : Prim2 K T 0 (rI (fun _ j => j ≠ 0) fun i j => .int (i.fmod j)) (gII cNz Int.fmod) := p_ii fun i j h => of_decide_eq_true h
def cPow (i j : Int) : Bool := decide (0 ≤ j) && decide (j ≤ 10000) && small64 i
theorem p_pow : Prim2 K T 0 (rI CPow fun i j => .int (i ^ j.toNat)) (gII cPow fun i j => i ^ j.toNat) := p_ii fun i j h => by
  unfold cPow at h
  rw [Bool.and_eq_true, Bool.and_eq_true] at h
  have h1 : 0 ≤ j := of_decide_eq_true h.1.1
  have h2 : j ≤ 10000 := of_decide_eq_true h.1.2
  have h3 : i.natAbs < 18446744073709551616 := of_decide_eq_true h.2
  exact ⟨h1, by omega, by have e : (2 : Nat) ^ 64 = 18446744073709551616 := by decide
                          omega⟩
/-! functions of whole numbers -/
def gIntO : D → Option D
  | .int i => some (.int i)
  | .bl b => some (.int (if b = true then 1 else 0))
  | _ => none
theorem p_int : PrimR K T 0 (fun xs H Q => (∃ i, xs = [.int i] ∧ Q (.int i) H) ∨ ∃ k, xs = [.bl k] ∧ Q (.int (if k then 1 else 0)) H) (gOne gIntO) := Prim1.args fun S H x v d r e => by
  cases x with
  | int i => cases e; exact gives_val (by simp [Rep]) fun Q q => .inl ⟨i, by rw [rep_int r], q⟩
  | bl b => cases e; exact gives_val (by simp [Rep]) fun Q q => .inr ⟨b, by rw [rep_bl r], q⟩
  | _ => cases e
theorem p_abs : PrimR K T 0 (fun xs H Q => ∃ i, xs = [.int i] ∧ Q (.int (if i < 0 then -i else i)) H) (gOne (gU fun i => if i < 0 then -i else i)) := Prim1.args fun S H x v d r e => by
  obtain ⟨i, rfl, rfl⟩ := gU_some e
  exact gives_val (by simp [Rep]) fun Q q => ⟨i, by rw [rep_int r], q⟩
theorem p_two {f : Int → Int → Int} : PrimR K T 0 (fun xs H Q => ∃ i j, xs = [.int i, .int j] ∧ Q (.int (f i j)) H) (gTwo (gI0 f)) := Prim2.args fun S H x y v w d r1 r2 e => by
  obtain ⟨i, j, rfl, rfl, rfl⟩ := gI0_some e
  exact gives_val (by simp [Rep]) fun Q q => ⟨i, j, by rw [rep_int r1, rep_int r2], q⟩
/-- the kernel does not look into these -/
noncomputable def gcdI (a b : Int) : Int := Classical.choose (⟨_, rfl⟩ : ∃ j : Int, j = ((Nat.gcd a.natAbs b.natAbs : Nat) : Int))
theorem gcdI_def (a b : Int) : gcdI a b = ((Nat.gcd a.natAbs b.natAbs : Nat) : Int) := Classical.choose_spec (⟨_, rfl⟩ : ∃ j : Int, j = ((Nat.gcd a.natAbs b.natAbs : Nat) : Int))
theorem p_gcd : PrimR K T 0 rGcd (gTwo (gI0 gcdI)) := by
  have e : gcdI = fun a b => ((Nat.gcd a.natAbs b.natAbs : Nat) : Int) := funext fun a => funext fun b => gcdI_def a b
  rw [e]
  exact p_two (f := fun a b => ((Nat.gcd a.natAbs b.natAbs : Nat) : Int))
def cLcm (a b : Int) : Bool := small64 a && small64 b
noncomputable def lcmI (a b : Int) : Int := Classical.choose (⟨_, rfl⟩ : ∃ j : Int, j = ((Nat.lcm a.natAbs b.natAbs : Nat) : Int))
theorem lcmI_def (a b : Int) : lcmI a b = ((Nat.lcm a.natAbs b.natAbs : Nat) : Int) := Classical.choose_spec (⟨_, rfl⟩ : ∃ j : Int, j = ((Nat.lcm a.natAbs b.natAbs : Nat) : Int))
def rLcm : List V → Hp → VK → Prop := fun xs H Q => ∃ i j, xs = [.int i, .int j] ∧ cLcm i j = true ∧ Q (.int (lcmI i j)) H
theorem cr_lcm : CallR X (.builtin "math.lcm") rLcm := by
  intro pins s σ H vs us Q I r h
  obtain ⟨a, b, rfl, hc, q⟩ := h
  obtain ⟨t, u, rfl⟩ := Vals.int2 r
  unfold cLcm at hc
  rw [Bool.and_eq_true] at hc
  have h1 : a.natAbs < 18446744073709551616 := of_decide_eq_true hc.1
  have h2 : b.natAbs < 18446744073709551616 := of_decide_eq_true hc.2
  have e64 : (2 : Nat) ^ 64 = 18446744073709551616 := by decide
  have el : ((Nat.lcm 1 a.natAbs).lcm b.natAbs : Nat) = Nat.lcm a.natAbs b.natAbs := by rw [Nat.lcm_one_left]
  refine PySem.W.mg_lcm_v (c := lcmI a b) (by omega) (by omega) (by rw [el, lcmI_def]) ?_ ⟨.int _, H, I.tok _, ⟨_, rfl⟩, q⟩
  have eb : bitsLine = 134217728 := by decide
  rw [eb]
  have hle : (lcmI a b).natAbs < 2 ^ 128 := by
    rw [lcmI_def, Int.natAbs_natCast]
    by_cases z : a.natAbs = 0
    · rw [z, Nat.lcm_zero_left]; decide
    · have : Nat.lcm a.natAbs b.natAbs ≤ a.natAbs * b.natAbs := by
        unfold Nat.lcm; exact Nat.div_le_self _ _
      have : a.natAbs * b.natAbs < 18446744073709551616 * 18446744073709551616 := Nat.mul_lt_mul'' h1 h2
      have e : (2 : Nat) ^ 128 = 18446744073709551616 * 18446744073709551616 := by decide
      omega
  have := PySem.Flt.log2_lt_of (n := (lcmI a b).natAbs) (k := 128) (by decide) hle
  omega
theorem p_lcm : PrimR K T 0 rLcm (gTwo (gII cLcm lcmI)) := Prim2.args fun S H x y v w d r1 r2 e => by
  obtain ⟨i, j, rfl, rfl, q, rfl⟩ := gII_some e
  exact gives_val (by simp [Rep]) fun Q q' => ⟨i, j, by rw [rep_int r1, rep_int r2], q, q'⟩
end
/-- x.bit_length() -/
noncomputable def bitLen (i : Int) : Int := Classical.choose (⟨_, rfl⟩ : ∃ j : Int, j = ((Builtin.Int.intBits i : Nat) : Int))
theorem bitLen_def (i : Int) : bitLen i = ((Builtin.Int.intBits i : Nat) : Int) := Classical.choose_spec (⟨_, rfl⟩ : ∃ j : Int, j = ((Builtin.Int.intBits i : Nat) : Int))
section
variable {X : Cx} {C : Cz} {Γ Γ' Γ1 Γ2 : List Nat} {k i : Nat} {x : Str} {pos p apos : Pos} {a b e o : Expr} {es : List Expr} {fa fb : Env → R (D × Env)} {fs : Env → R (List D × Env)}
theorem de_bits (ha : DE X C Γ o Γ1 0 fa) (hbase : attributeBase o "bit_length" X.env (eval o X.env) = eval o X.env := by rfl) (hline : (apos.endLine == pos.line) = true := by rfl) : DE X C Γ (.Call (.Attribute o "bit_length" apos) [] [] pos) Γ1 0 (mUn (gU bitLen) fa) :=
  pe_imp (pe_bits ha hbase hline) fun σ H Q h => un_data (r := fun x H1 Q => ∃ i, x = .int i ∧ Q (.int (Builtin.Int.intBits i : Nat)) H1) (fun S H x v d r e => by
    obtain ⟨i, rfl, rfl⟩ := gU_some e
    rw [bitLen_def]
    exact gives_val (by simp [Rep]) fun Q q => ⟨i, rep_int r, q⟩) h

/-! ### names that own a list: what is read of it -/
def mUnN (i : Nat) (g : D → Option D) : Env → R (D × Env) := fun ρ => match ρ[i]? with
  | some (some d) => (ofO (g d)).bind fun e => .ok (e, ρ)
  | _ => .bad
def mBinN (i : Nat) (g : D → D → Option D) (fb : Env → R (D × Env)) : Env → R (D × Env) := fun ρ => match ρ[i]? with
  | some (some _) => (fb ρ).bind fun (y, ρ1) => (match ρ1[i]? with
    | some (some d) => (ofO (g d y)).bind fun e => .ok (e, ρ1)
    | _ => .bad)
  | _ => .bad
theorem unN_data {r : V → Hp → VK → Prop} {g : D → Option D} {σ : St} {H : Hp} {Q : VK} (hk : Γ.getD i 0 ≤ 1) (hr : Prim1P X.K C.T k r g) (h : tE X.K C.T C.W Γ Γ k (mUnN i g) σ H Q) : tVar i σ H (fun v H1 => r v H1 Q) := by
  obtain ⟨S, ρ, fp, s, h⟩ := h
  unfold mUnN at h
  split at h
  · rename_i d q
    obtain ⟨v, hv, o⟩ := s.sl i d q
    refine ⟨v, hv, ?_⟩
    cases q2 : g d with
    | none => rw [q2] at h; exact h.elim
    | some e =>
      rw [q2] at h
      exact gives_out s (hr S H d v e (.own o hk) q2) h
  · exact h.elim
theorem binN_data {r : R2} {g : D → D → Option D} {σ : St} {H : Hp} {Q : VK} (hk : Γ1.getD i 0 ≤ 1) (hr : Prim2P X.K C.T k r g) (h : tE X.K C.T C.W Γ Γ1 k (mBinN i g fb) σ H Q) :
    tVar i σ H (fun v H1 => tE X.K C.T C.W Γ Γ1 0 fb σ H1 (fun y H2 => r v y H2 Q)) := by
  obtain ⟨S, ρ, fp, s, h⟩ := h
  unfold mBinN at h
  split at h
  · rename_i d0 q0
    obtain ⟨v, hv, _⟩ := s.sl i d0 q0
    refine ⟨v, hv, S, ρ, fp, s, OutE.then0 h fun y ρ1 w H1 S1 fp1 e1 s1 r1 f1 h1 => ?_⟩
    dsimp only at h1
    split at h1
    · rename_i d q
      obtain ⟨v', hv', o⟩ := s1.sl i d q
      rw [hv] at hv'; cases hv'
      cases q2 : g d y with
      | none => rw [q2] at h1; exact h1.elim
      | some e =>
        rw [q2] at h1
        exact gives_out s1 (hr S1 H1 d y v w e (.own o hk) r1 q2) h1
    · exact h1.elim
  · exact h.elim
theorem de_ixN {r : R2} {g : D → D → Option D} (ho : IxR X r) (hr : Prim2P X.K C.T k r g) (hv : PE X (.Name x p) (tVar i)) (hb : DE X C Γ b Γ1 0 fb) (hk : Γ1.getD i 0 ≤ 1 := by decide) (hs : PlainIx b := by exact fun _ _ => rfl) : DE X C Γ (.Subscript (.Name x p) b pos) Γ1 k (mBinN i g fb) :=
  pe_imp (pe_ix ho hv hb hs) fun σ H Q h => binN_data hk hr h
theorem de_opN {op : Operator} {r : R2} {g : D → D → Option D} (ho : OpR X (binaryOp op) r) (hr : Prim2P X.K C.T k r g) (hv : PE X (.Name x p) (tVar i)) (hb : DE X C Γ b Γ1 0 fb) (hk : Γ1.getD i 0 ≤ 1 := by decide) : DE X C Γ (.BinOp (.Name x p) op b pos) Γ1 k (mBinN i g fb) :=
  pe_imp (pe_op ho hv hb) fun σ H Q h => binN_data hk hr h
/-- f(x), f a built-in function, x a name -/
theorem de_callBN {id : String} {y : Str} {p2 : Pos} {r : List V → Hp → VK → Prop} {g : D → Option D} (hc : CallR X (.builtin id) r) (hr : Prim1P X.K C.T k (rOne r) g) (hg : Gl X y) (hm : X.mg y = none) (hv : bootBuiltins y = some (.builtin id)) (ha : PE X (.Name x p) (tVar i)) (hk : Γ.getD i 0 ≤ 1 := by decide) (hn : y ≠ "__name__" := by decide) (hdb : (y == ("__debug__" : Str)) = false := by decide)
    (he : starEach [.Name x p] X.env = (false, eval (.Name x p) X.env) :: starEach [] X.env := by rfl) (hpl : (backTo pos (starEach [] X.env)).any (·.1) = false := by rfl) : DE X C Γ (.Call (.Name y p2) [.Name x p] [] pos) Γ k (mUnN i g) :=
  pe_imp (pe_callB hc hg hm hv (pa_cons ha pa_nil he) hn hdb he hpl) fun σ H Q h => unN_data hk hr h
theorem de_callTyN {id : String} {y : Str} {p2 : Pos} {r : List V → Hp → VK → Prop} {g : D → Option D} (hc : CallR X (.type id) r) (hr : Prim1P X.K C.T k (rOne r) g) (hg : Gl X y) (hm : X.mg y = none) (hv : bootBuiltins y = some (.type id)) (ha : PE X (.Name x p) (tVar i)) (hk : Γ.getD i 0 ≤ 1 := by decide) (hn : y ≠ "__name__" := by decide) (hdb : (y == ("__debug__" : Str)) = false := by decide)
    (he : starEach [.Name x p] X.env = (false, eval (.Name x p) X.env) :: starEach [] X.env := by rfl) (hpl : (backTo pos (starEach [] X.env)).any (·.1) = false := by rfl) : DE X C Γ (.Call (.Name y p2) [.Name x p] [] pos) Γ k (mUnN i g) :=
  pe_imp (pe_callTy hc hg hm hv (pa_cons ha pa_nil he) hn hdb he hpl) fun σ H Q h => unN_data hk hr h
end

/-! ### subscripts, len, list(), tuple(), + -/
def gIx : D → D → Option D
  | .str z, .int i => if z.length ≤ 1000 then (atI z.cps.toList i).map fun c => .str ⟨#[c]⟩ else none
  | x, .int i => (seqD x).bind fun p => atI p.2 i
  | _, _ => none
def gLen : D → Option D
  | .str z => if z.length ≤ 1000 then some (.int z.length) else none
  | x => (seqD x).map fun p => .int p.2.length
def gListOf (x : D) : Option D := (seqD x).map fun p => .lst p.2
def gTupOf (x : D) : Option D := (seqD x).map fun p => .tup p.2
section
variable {K : PySem.W.Frag} {T : Tab} {X : Cx}
theorem p_ix : Prim2P K T 0 (rIx K) gIx := fun S H x y v w d r1 r2 e => by
  have seq : ∀ b xs i, y = .int i → seqD x = some (b, xs) → atI xs i = some d → Gives K T S H 0 d (rIx K v w H) := by
    intro b xs i ey e1 e2
    subst ey
    obtain ⟨a, vs, ev, hl, ht, r⟩ := r1.sq b xs e1
    obtain ⟨j, q1, q2⟩ := at_len r.length e2
    obtain ⟨u, hu, ru⟩ := r.get q2
    have hat : atI vs i = some u := by unfold atI; rw [q1]; exact hu
    refine gives_val ru fun Q q => ?_
    cases b with
    | true => exact .inl ⟨a, vs, i, u, ev, rep_int r2, hl rfl, hat, q⟩
    | false => exact .inr (.inl ⟨a, vs, i, u, ev, rep_int r2, ht rfl, hat, q⟩)
  cases y with
  | int i =>
    cases x with
    | str z =>
      simp only [gIx] at e
      split at e
      · rename_i hl
        cases q : atI z.cps.toList i with
        | none => rw [q] at e; cases e
        | some c =>
          rw [q] at e
          cases e
          exact gives_val (by simp [Rep]) fun Q q' => .inr (.inr ⟨z, i, c, r1.st z rfl, rep_int r2, line_of hl, q, q'⟩)
      · cases e
    | lst xs => exact seq true xs i rfl rfl (by simpa [gIx, seqD] using e)
    | kls xs => exact seq true xs i rfl rfl (by simpa [gIx, seqD] using e)
    | tup xs => exact seq false xs i rfl rfl (by simpa [gIx, seqD] using e)
    | _ => simp [gIx, seqD] at e
  | _ => cases x <;> simp [gIx] at e
def rLen (K : PySem.W.Frag) : List V → Hp → VK → Prop := fun xs H Q => ∃ x n, xs = [x] ∧ LenV K x H n ∧ Q (.int n) H
theorem p_len : Prim1P K T 0 (rOne (rLen K)) gLen := fun S H x v d r1 e => by
  have seq : ∀ b xs, seqD x = some (b, xs) → Gives K T S H 0 (.int xs.length) (rOne (rLen K) v H) := fun b xs e1 => by
    obtain ⟨a, vs, ev, hl, ht, r⟩ := r1.sq b xs e1
    subst ev
    refine gives_val (v := .int (xs.length : Int)) (by simp [Rep]) fun Q q => ⟨.ref a, xs.length, rfl, ?_, q⟩
    cases b with
    | true => exact .inl ⟨vs, hl rfl, r.length⟩
    | false => exact .inr ⟨vs, ht rfl, r.length⟩
  cases x with
  | str z =>
    simp only [gLen] at e
    split at e
    · rename_i hl
      cases e
      exact gives_val (v := .int (z.length : Int)) (by simp [Rep]) fun Q q => ⟨.str z, z.length, by rw [r1.st z rfl], ⟨line_of hl, rfl⟩, q⟩
    · cases e
  | lst xs => cases e; exact seq true xs rfl
  | kls xs => cases e; exact seq true xs rfl
  | tup xs => cases e; exact seq false xs rfl
  | _ => simp [gLen, seqD] at e
theorem o_len : CallR X (.builtin "len") (rLen X.K) := call_len
def rListOf (K : PySem.W.Frag) : List V → Hp → VK → Prop := fun xs H Q => ∃ p ys, xs = [.ref p] ∧ (SqL K H p ys ∨ SqT K H p ys) ∧ ∀ l, H l = none → Q (.ref l) (upd H l (.lst ys))
theorem o_list : CallR X (.type "list") (rListOf X.K) := call_list_of
theorem p_list {k : Nat} (hk : k ≤ 1 := by decide) : Prim1P K T k (rOne (rListOf K)) gListOf := fun S H x v d r1 e => by
  unfold gListOf at e
  cases q : seqD x with
  | none => rw [q] at e; cases e
  | some p =>
    obtain ⟨b, xs⟩ := p
    rw [q] at e
    cases e
    obtain ⟨a, vs, ev, hl, ht, r⟩ := r1.sq b xs q
    subst ev
    refine .inr (.inl ⟨xs, vs, rfl, hk, r, fun Q q => ⟨a, vs, rfl, ?_, q⟩⟩)
    cases b with
    | true => exact .inl (hl rfl)
    | false => exact .inr (ht rfl)
def rTupOf (K : PySem.W.Frag) : List V → Hp → VK → Prop := fun xs H Q => ∃ p ys, xs = [.ref p] ∧ ((SqL K H p ys ∧ ∀ l, H l = none → Q (.ref l) (upd H l (.tup ys))) ∨ (SqT K H p ys ∧ Q (.ref p) H))
theorem o_tuple : CallR X (.type "tuple") (rTupOf X.K) := call_tuple_of
theorem p_tuple : Prim1P K T 0 (rOne (rTupOf K)) gTupOf := fun S H x v d r1 e => by
  unfold gTupOf at e
  cases q : seqD x with
  | none => rw [q] at e; cases e
  | some p =>
    obtain ⟨b, xs⟩ := p
    rw [q] at e
    cases e
    obtain ⟨a, vs, ev, hl, ht, r⟩ := r1.sq b xs q
    subst ev
    cases b with
    | true => exact .inr (.inr ⟨xs, vs, rfl, by decide, r, fun Q q => ⟨a, vs, rfl, .inl ⟨hl rfl, q⟩⟩⟩)
    | false =>
      refine gives_val (v := .ref a) ?_ fun Q q => ⟨a, vs, rfl, .inr ⟨ht rfl, q⟩⟩
      simp only [Rep]
      exact ⟨a, vs, rfl, ht rfl, r⟩
/-! xs + ys -/
def gCat : D → D → Option D
  | .lst xs, .lst ys => if xs.length + ys.length ≤ 1000 then some (.lst (xs ++ ys)) else none
  | _, _ => none
theorem gCat_some {x y d : D} (h : gCat x y = some d) : ∃ xs ys, x = .lst xs ∧ y = .lst ys ∧ xs.length + ys.length ≤ 1000 ∧ d = .lst (xs ++ ys) := by
  cases x with
  | lst xs =>
    cases y with
    | lst ys =>
      simp only [gCat] at h
      split at h
      · rename_i q; cases h; exact ⟨xs, ys, rfl, rfl, q, rfl⟩
      · cases h
    | _ => cases h
  | _ => cases h
theorem p_cat {k : Nat} (hk : k ≤ 1 := by decide) : Prim2P K T k rCat gCat := fun S H x y v w d r1 r2 e => by
  obtain ⟨xs, ys, rfl, rfl, hl, rfl⟩ := gCat_some e
  obtain ⟨a, vs, rfl, h1, r⟩ := r1.lh xs rfl
  simp only [Rep] at r2
  obtain ⟨b, ws, rfl, h2, _, r'⟩ := r2
  exact .inr (.inl ⟨xs ++ ys, vs ++ ws, rfl, hk, r.append r', fun Q q => ⟨a, b, vs, ws, rfl, rfl, h1, h2, line_of (by rw [← r.length, ← r'.length]; exact hl), q⟩⟩)
def gCatT : D → D → Option D
  | .tup xs, .tup ys => if xs.length + ys.length ≤ 1000 ∧ xs ≠ [] then some (.tup (xs ++ ys)) else none
  | _, _ => none
theorem gCatT_some {x y d : D} (h : gCatT x y = some d) : ∃ xs ys, x = .tup xs ∧ y = .tup ys ∧ (xs.length + ys.length ≤ 1000 ∧ xs ≠ []) ∧ d = .tup (xs ++ ys) := by
  cases x with
  | tup xs =>
    cases y with
    | tup ys =>
      simp only [gCatT] at h
      split at h
      · rename_i q; cases h; exact ⟨xs, ys, rfl, rfl, q, rfl⟩
      · cases h
    | _ => cases h
  | _ => cases h
theorem p_catT : Prim2 K T 0 (rCatT K) gCatT := fun S H x y v w d r1 r2 e => by
  obtain ⟨xs, ys, rfl, rfl, hl, rfl⟩ := gCatT_some e
  simp only [Rep] at r1 r2
  obtain ⟨a, vs, rfl, h1, r⟩ := r1
  obtain ⟨b, ws, rfl, h2, r'⟩ := r2
  have ne : vs ≠ [] := fun z => hl.2 (by have := r.length; rw [z] at this; exact List.length_eq_zero_iff.mp this)
  have ll : vs.length + ws.length ≤ sizeLine := line_of (by rw [← r.length, ← r'.length]; exact hl.1)
  by_cases hy : ys = []
  · subst hy
    simp only [Reps] at r'
    subst r'
    refine gives_val (v := .ref a) ?_ fun Q q => ⟨a, b, vs, [], rfl, rfl, h1, h2, ne, ll, fun _ => q, fun z => absurd rfl z⟩
    simp only [Rep, List.append_nil]
    exact ⟨a, vs, rfl, h1, r⟩
  · have nw : ws ≠ [] := fun z => hy (by have := r'.length; rw [z] at this; exact List.length_eq_zero_iff.mp this)
    exact .inr (.inr ⟨xs ++ ys, vs ++ ws, rfl, by decide, r.append r', fun Q q => ⟨a, b, vs, ws, rfl, rfl, h1, h2, ne, ll, fun z => absurd z nw, fun _ => q⟩⟩)
/-- xs * n -/
def gRep : D → D → Option D
  | .lst xs, .int i => if i < 1000 ∧ -1000 < i ∧ xs.length * i.toNat ≤ 1000 then some (.lst (List.replicate i.toNat xs).flatten) else none
  | _, _ => none
theorem gRep_some {x y d : D} (h : gRep x y = some d) : ∃ xs i, x = .lst xs ∧ y = .int i ∧ (i < 1000 ∧ -1000 < i ∧ xs.length * i.toNat ≤ 1000) ∧ d = .lst (List.replicate i.toNat xs).flatten := by
  cases x with
  | lst xs =>
    cases y with
    | int i =>
      simp only [gRep] at h
      split at h
      · rename_i q; cases h; exact ⟨xs, i, rfl, rfl, q, rfl⟩
      · cases h
    | _ => cases h
  | _ => cases h
theorem reps_replicate {S : Addr → Prop} {H : Hp} {xs : List D} {vs : List V} (r : Reps K T H S xs vs) : ∀ n, Reps K T H S (List.replicate n xs).flatten (List.replicate n vs).flatten
  | 0 => by simp [Reps]
  | n + 1 => by
    simp only [List.replicate_succ, List.flatten_cons]
    exact r.append (reps_replicate r n)
theorem p_rep {k : Nat} (hk : k ≤ 1 := by decide) : Prim2P K T k rRep gRep := fun S H x y v w d r1 r2 e => by
  obtain ⟨xs, i, rfl, rfl, hl, rfl⟩ := gRep_some e
  obtain ⟨a, vs, rfl, h1, r⟩ := r1.lh xs rfl
  have e2 := rep_int r2
  have e63 : (2 : Int) ^ 63 = 9223372036854775808 := by decide
  exact .inr (.inl ⟨_, _, rfl, hk, reps_replicate r i.toNat, fun Q q => ⟨a, i, vs, rfl, e2, h1, by omega, by omega, line_of (by rw [← r.length]; exact hl.2.2), q⟩⟩)
/-! sum, all, any -/
def intsOf : List D → Option (List Int)
  | [] => some []
  | .int i :: r => (intsOf r).map (i :: ·)
  | _ => none
def blsOf : List D → Option (List Bool)
  | [] => some []
  | .bl i :: r => (blsOf r).map (i :: ·)
  | _ => none
theorem reps_ints {S : Addr → Prop} {H : Hp} : ∀ {xs : List D} {vs : List V} {ns : List Int}, Reps K T H S xs vs → intsOf xs = some ns → vs = ns.map V.int
  | [], vs, ns, r, e => by
    simp only [Reps] at r
    cases e; exact r
  | d :: xs, vs, ns, r, e => by
    simp only [Reps] at r
    obtain ⟨v, ws, rfl, r1, r2⟩ := r
    cases d with
    | int i =>
      simp only [intsOf] at e
      cases q : intsOf xs with
      | none => rw [q] at e; cases e
      | some l => rw [q] at e; cases e; rw [reps_ints r2 q, rep_int r1]; rfl
    | _ => cases e
theorem reps_bls {S : Addr → Prop} {H : Hp} : ∀ {xs : List D} {vs : List V} {ns : List Bool}, Reps K T H S xs vs → blsOf xs = some ns → vs = ns.map V.bl
  | [], vs, ns, r, e => by
    simp only [Reps] at r
    cases e; exact r
  | d :: xs, vs, ns, r, e => by
    simp only [Reps] at r
    obtain ⟨v, ws, rfl, r1, r2⟩ := r
    cases d with
    | bl i =>
      simp only [blsOf] at e
      cases q : blsOf xs with
      | none => rw [q] at e; cases e
      | some l => rw [q] at e; cases e; rw [reps_bls r2 q, rep_bl r1]; rfl
    | _ => cases e
def gSum (x : D) : Option D := (seqD x).bind fun p => if p.1 = true then (intsOf p.2).map fun ns => .int ns.sum else none
def gAll (x : D) : Option D := (seqD x).bind fun p => if p.1 = true then (blsOf p.2).map fun ns => .bl (ns.all id) else none
def gAny (x : D) : Option D := (seqD x).bind fun p => if p.1 = true then (blsOf p.2).map fun ns => .bl (ns.any id) else none
theorem p_sum : Prim1P K T 0 (rOne (rSum K)) gSum := fun S H x v d r1 e => by
  unfold gSum at e
  cases q : seqD x with
  | none => rw [q] at e; cases e
  | some p =>
    obtain ⟨b, xs⟩ := p
    rw [q] at e
    simp only [Option.bind_some] at e
    cases b with
    | false => cases e
    | true =>
      rw [if_pos rfl] at e
      cases q2 : intsOf xs with
      | none => rw [q2] at e; cases e
      | some ns =>
        rw [q2] at e
        cases e
        obtain ⟨a, vs, ev, hl, ht, r⟩ := r1.sq true xs q
        subst ev
        exact gives_val (v := .int ns.sum) (by simp [Rep]) fun Q q => ⟨a, ns, rfl, by rw [← reps_ints r q2]; exact hl rfl, q⟩
theorem p_all : Prim1P K T 0 (rOne (rAll K)) gAll := fun S H x v d r1 e => by
  unfold gAll at e
  cases q : seqD x with
  | none => rw [q] at e; cases e
  | some p =>
    obtain ⟨b, xs⟩ := p
    rw [q] at e
    simp only [Option.bind_some] at e
    cases b with
    | false => cases e
    | true =>
      rw [if_pos rfl] at e
      cases q2 : blsOf xs with
      | none => rw [q2] at e; cases e
      | some ns =>
        rw [q2] at e
        cases e
        obtain ⟨a, vs, ev, hl, ht, r⟩ := r1.sq true xs q
        subst ev
        exact gives_val (v := .bl (ns.all id)) (by simp [Rep]) fun Q q => ⟨a, ns, rfl, by rw [← reps_bls r q2]; exact hl rfl, q⟩
theorem p_any : Prim1P K T 0 (rOne (rAny K)) gAny := fun S H x v d r1 e => by
  unfold gAny at e
  cases q : seqD x with
  | none => rw [q] at e; cases e
  | some p =>
    obtain ⟨b, xs⟩ := p
    rw [q] at e
    simp only [Option.bind_some] at e
    cases b with
    | false => cases e
    | true =>
      rw [if_pos rfl] at e
      cases q2 : blsOf xs with
      | none => rw [q2] at e; cases e
      | some ns =>
        rw [q2] at e
        cases e
        obtain ⟨a, vs, ev, hl, ht, r⟩ := r1.sq true xs q
        subst ev
        exact gives_val (v := .bl (ns.any id)) (by simp [Rep]) fun Q q => ⟨a, ns, rfl, by rw [← reps_bls r q2]; exact hl rfl, q⟩
/-! ==, is None -/
def gEq : D → D → Option D
  | .non, .non => some (.bl true)
  | .non, .int _ => some (.bl false) | .int _, .non => some (.bl false) | .non, .bl _ => some (.bl false) | .bl _, .non => some (.bl false) | .non, .str _ => some (.bl false) | .str _, .non => some (.bl false)
  | .int i, .int j => some (.bl (decide (i = j)))
  | .bl i, .bl j => some (.bl (decide (i = j)))
  | .str i, .str j => some (.bl (decide (i = j)))
  | .int _, .str _ => some (.bl false) | .str _, .int _ => some (.bl false) | .bl _, .str _ => some (.bl false) | .str _, .bl _ => some (.bl false)
  | _, _ => none
def gNe (x y : D) : Option D := (gEq x y).bind gNot
theorem eq_rep {S : Addr → Prop} {H : Hp} {x y d : D} {v w : V} (r1 : Rep K T H S x v) (r2 : Rep K T H S y w) (e : gEq x y = some d) : scal v w = true ∧ d = .bl (decide (v = w)) := by
  cases x <;> cases y <;> simp only [gEq] at e <;> first
    | (cases e; simp only [Rep] at r1 r2; subst r1; subst r2; simp [scal]; done)
    | (cases e; done)
theorem p_eq : Prim2 K T 0 rEq gEq := fun S H x y v w d r1 r2 e => by
  obtain ⟨h1, h2⟩ := eq_rep r1 r2 e
  subst h2
  exact gives_val (by simp [Rep]) fun Q q => ⟨h1, q⟩
theorem p_ne : Prim2 K T 0 rNe gNe := fun S H x y v w d r1 r2 e => by
  unfold gNe at e
  cases q : gEq x y with
  | none => rw [q] at e; cases e
  | some z =>
    rw [q] at e
    obtain ⟨h1, h2⟩ := eq_rep r1 r2 q
    subst h2
    cases e
    exact gives_val (by simp [Rep]) fun Q q => ⟨h1, q⟩
def isNon : D → Bool
  | .non => true
  | _ => false
theorem isNon_rep {S : Addr → Prop} {H : Hp} {x : D} {v : V} (r : Rep K T H S x v) : decide (v = .non) = isNon x := by
  cases x <;> simp only [Rep] at r <;> first
    | (subst r; simp [isNon])
    | (obtain ⟨a, dd, xs, vs, _, rfl, _⟩ := r; simp [isNon])
    | (obtain ⟨a, z⟩ := r; obtain ⟨vs, z⟩ := z; first | (obtain ⟨rfl, _⟩ := z; simp [isNon]) | (obtain ⟨vs2, rfl, _⟩ := z; simp [isNon]))
def gIs (f : Bool → Bool) : D → D → Option D
  | x, .non => some (.bl (f (isNon x)))
  | _, _ => none
theorem p_isN : Prim2 K T 0 (fun x y H Q => y = .non ∧ Q (.bl (decide (x = .non))) H) (gIs id) := fun S H x y v w d r1 r2 e => by
  cases y with
  | non => cases e; exact gives_val (v := .bl (isNon x)) (by simp [Rep]) fun Q q => ⟨rep_non r2, by rw [isNon_rep r1]; exact q⟩
  | _ => simp [gIs] at e
theorem p_notN : Prim2 K T 0 (fun x y H Q => y = .non ∧ Q (.bl (!decide (x = .non))) H) (gIs not) := fun S H x y v w d r1 r2 e => by
  cases y with
  | non => cases e; exact gives_val (v := .bl (!isNon x)) (by simp [Rep]) fun Q q => ⟨rep_non r2, by rw [isNon_rep r1]; exact q⟩
  | _ => simp [gIs] at e
end
end Z
set_option Elab.async false
set_option linter.all false
set_option maxRecDepth 100000
/-! Y1: enumerate over a tuple -/
namespace Z
open PySem PySem.Spec
open PyProof.Rows hiding St

abbrev tupIt (t : Addr) : Obj := { cls := .type "tuple_iterator", data := .fields #[.ref t, .int 0 0] }
abbrev enumOf (it : Addr) : Obj := { cls := .type "enumerate", data := .fields #[.none, .bool false, .ref it, rawInt 0, .none, .none] }
set_option maxHeartbeats 1000000 in
theorem enum_new_tup (t : Addr) (its : Array Value) :
    Meets (Builtin.«enumerate.__new__» ⟨[.type "enumerate", .ref t], []⟩) (fun _ G s => s.heap.IsTuple t its ∧ G (.ok (.ret (.ref (s.heap.push (tupIt t)).objs.size))) { s with heap := (s.heap.push (tupIt t)).push (enumOf s.heap.objs.size) }) :=
  .of_wp fun prog w A G s hg => by
    obtain ⟨hp, gl, dd, tk, os⟩ := s
    obtain ⟨ht, hg⟩ := hg
    have sb := sub_enumerate
    have go : ∀ {A' : Around} {E : Value → Shared → Prop} {Q : Value → Shared → Prop}, Q (.ref hp.objs.size) ⟨hp.push (tupIt t), gl, dd, tk, os⟩ → wpAny (model prog w) A' (pyIter (.ref t)) Q E ⟨hp, gl, dd, tk, os⟩ := fun q => wpAny_pyIter_tuple (s := ⟨hp, gl, dd, tk, os⟩) ht q
    wp_walk using go
    refine wpAny_stack_any fun stk => wpAny_pure ?_
    split
    · rename_i cc _ _ _ _ _
      by_cases z : (cc == Value.type "enumerate") = true
      · rw [z]
        wp_walk using go
        exact Exists.intro _ ⟨rfl, hg⟩
      · rw [Bool.not_eq_true] at z
        rw [z]
        wp_walk using go
        exact Exists.intro _ ⟨rfl, hg⟩
    · wp_walk using go
      exact Exists.intro _ ⟨rfl, hg⟩
theorem enum_tup {prog : Program} {w : World} {A : Around} {E : Value → Shared → Prop} {s : Shared} {t : Addr} {its : Array Value} {Q : Value → Shared → Prop} (ht : s.heap.IsTuple t its)
    (h : ∀ h', IsEnum h' (s.heap.objs.size + 1) s.heap.objs.size 0 .none → h'.IsTupleIter s.heap.objs.size t 0 → (∀ b o, s.heap.get? b = some o → h'.get? b = some o) → Q (.ref (s.heap.objs.size + 1)) { s with heap := h' }) :
    wpAny (model prog w) A (call (.type "enumerate") [.ref t]) Q E s := by
  refine callType_new F.called_enumerate (by decide) (F.typeCall_enumerate_1 _) (F.newCall_enumerate_1 _) (fun b => F.args_object_init_2 b _) F.entry_enumerate_new (enum_new_tup t its) (And.intro ht ?_)
  have sz : (s.heap.push (tupIt t)).objs.size = s.heap.objs.size + 1 := Heap.size_push ..
  have he : IsEnum ((s.heap.push (tupIt t)).push (enumOf s.heap.objs.size)) (s.heap.objs.size + 1) s.heap.objs.size 0 .none := by
    have z := Heap.get?_push_size (s.heap.push (tupIt t)) (o := enumOf s.heap.objs.size) rfl
    rw [sz] at z
    exact z
  show _ ∧ _
  rw [sz]
  exact ⟨⟨_, he, rfl⟩, h _ he ⟨_, Heap.get?_push_of_some _ (Heap.get?_push_size _ rfl), rfl, rfl⟩ fun b o x => Heap.get?_push_of_some _ (Heap.get?_push_of_some _ x)⟩
theorem enum_tup_end {prog : Program} {w : World} {A : Around} {E : Value → Shared → Prop} {s : Shared} {e it t : Addr} {j : Nat} {c : Int} {its : Array Value} {old : Value} {Q : Option Value → Shared → Prop} (hh : A.in1.handled = none) (hen : IsEnum s.heap e it c old)
    (hti : s.heap.IsTupleIter it t j) (htu : s.heap.IsTuple t its) (gone : its[j]? = none) (q : ∀ h', Heap.ExtBut it s.heap h' → Q none { s with heap := h' }) : wpAny (model prog w) A (pyNext (.ref e)) Q E s := by
  have ty : s.TypeIs (.ref e) "enumerate" := ⟨_, hen, rfl⟩
  unfold pyNext
  refine wpAny_bind (wpAny_attempt (wpAny_callSpecial?_slot (name := Str.ofString "__next__") ty F.slot_enumerate_next (wpAny_call_entry F.slot_enumerate_next ty F.entry_enumerate_next ?_ (F.args_enumerate_next_1 _))))
  refine wpAny_bind (m := field (.ref e) 2) (wpAny_field hen rfl (x := .ref it) rfl ?_)
  refine wpAny_bind (wpAny_nextOf_tuple_end hh hti htu gone fun h' x eb ex => ?_)
  refine wpAny_bind (wpAny_isInstance (T := "StopIteration") (b := true) (let ⟨ob, h1, h2⟩ := ex; ⟨ob, h1, h2⟩) isSubtype_stop ?_)
  exact wpAny_pure (q _ eb)
open L2
/-- the tuple at a, each item in a new pair -/
def ItEt (K : PySem.W.Frag) (a : Addr) : It :=
  ⟨fun i H => ∃ (xs : List V) (x : V), SqT K H a xs ∧ xs[i]? = some x, fun i H v H' => ∃ T x, v = .ref T ∧ H T = none ∧ H' = upd H T (.tup [.int (i : Nat), x]) ∧ ∀ ys, SqT K H a ys → ys[i]? = some x, fun i H => ∃ ys : List V, SqT K H a ys ∧ ys.length ≤ i⟩
theorem turn_enumT {P : Program} {w : World} {K : PySem.W.Frag} {elts : List Expr} {kk : Nat} {tpos : Pos} (a e it : Addr) (na : a ≠ it) (nea : e ≠ a) :
    Turn P w K (.Tuple elts kk tpos) (ItEt K a) [e, it] e (fun j hp => (∃ old, IsEnum hp e it ((j : Nat) : Int) old) ∧ hp.IsTupleIter it a j ∧ e ≠ it) where
  mem := List.mem_cons_self
  obj := fun j hp st b hb => by
    obtain ⟨⟨old, he⟩, ⟨o, ho, hc, hd⟩, _⟩ := st
    rcases (show b = e ∨ b = it by simpa using hb) with z | z
    · subst z; exact ⟨_, he, fun v q => nomatch q⟩
    · subst z; exact ⟨o, ho, fun v q => by rw [hd] at q; cases q⟩
  keep := fun j hp hp' st kk => ⟨⟨st.1.choose, kk e (by simp) _ st.1.choose_spec⟩, st.2.1.at fun o q => kk it (by simp) o q, st.2.2⟩
  item := by
    intro X hP hw hK hc j pins s σ H E I hf st hg
    subst hP hw hK
    obtain ⟨⟨old, he⟩, hit, hne⟩ := st
    obtain ⟨xs, x, hq, hx⟩ := hg
    obtain ⟨its, rv, pt, _⟩ := I.tuple hq
    obtain ⟨u, hu, ru⟩ := rv.get hx
    have hel : e < s.heap.objs.size := Heap.lt_size he
    have hil : it < s.heap.objs.size := by obtain ⟨_, q, _⟩ := hit; exact Heap.lt_size q
    have ptt : s.heap.IsTuple a its.toArray := pt
    have hjl : j < its.toArray.size := by
      rw [List.size_toArray]
      exact (List.getElem?_eq_some_iff.mp hu).1
    refine wpAny_pyNext_enum_itemD (Draws.tuple (A := X.A.in1) (show X.A.in1.handled = none from I.ok.hd hc) it a na its.toArray) he ⟨hit, ptt⟩ hjl hne (by simp [hne, nea]) fun y h' tk hy ho hst' hT hsz hk => ?_
    have ey : y = u := by
      have : its.toArray[j]? = some u := by simpa using hu
      rw [this] at hy; cases hy; rfl
    subst ey
    refine ⟨_, rfl, wpAny_letOwnedTupleGo_enum (s := { s with heap := h', toks := tk + 1 }) ho fun h'' he' sb => ?_⟩
    have hT2 : h''.get? s.heap.objs.size = some { cls := .type "tuple", data := .seq #[.int j tk, y] } := (sb.2 _ (Nat.ne_of_gt hel)).trans hT
    have new : ObjOk X.prog X.w (upd H s.heap.objs.size (.tup [.int (j : Nat), x])) h'' s.heap.objs.size (.tup [.int (j : Nat), x]) :=
      ⟨by show 2 ≤ sizeLine; decide, [.int j tk, y], .cons ⟨_, rfl⟩ (.cons ru .nil), _, hT2, rfl, _, rfl⟩
    have I1 : Inv X pins σ (upd H s.heap.objs.size (.tup [.int (j : Nat), x])) { s with heap := h'', toks := tk + 1 } :=
      I.turnedNew (ch := [e, it]) (fun b ob hb q => (sb.2 b fun z => hb (by rw [z]; simp)).trans (hk b ob (fun z => hb (by rw [z]; simp)) (fun z => hb (by rw [z]; simp)) q)) hf (Nat.le_refl _) new
    refine ⟨.ref s.heap.objs.size, _, I1, rfl, ⟨_, x, rfl, I.hok.fresh (Nat.le_refl _), rfl, fun ys hy => by rw [I.tuple_inj hy hq]; exact hx⟩, ⟨⟨y, ?_⟩, hst'.1.at fun o q => (sb.2 it (Ne.symm hne)).trans q, hne⟩, fun b hb => ?_⟩
    · rw [show ((j + 1 : Nat) : Int) = (j : Int) + 1 by omega]; exact he'
    · have lb : b < s.heap.objs.size := by
        rcases (show b = e ∨ b = it by simpa using hb) with z | z
        · rw [z]; exact hel
        · rw [z]; exact hil
      rw [upd_ne (Nat.ne_of_lt lb)]
      exact (hf b hb).1
  done := by
    intro X hP hw hK hc j pins s σ H E I hf st hg
    subst hP hw hK
    obtain ⟨⟨old, he⟩, hit, hne⟩ := st
    obtain ⟨xs, hq, hx⟩ := hg
    obtain ⟨its, rv, pt, _⟩ := I.tuple hq
    have gone : its.toArray[j]? = none := by
      rw [Array.getElem?_eq_none]
      rw [List.size_toArray, ← rv.length]
      exact hx
    exact enum_tup_end (show X.A.in1.handled = none from I.ok.hd hc) he hit pt gone fun h' eb => ⟨rfl, I.turned (t' := s.toks) (fun b o hb q => eb b o hb q) (hf it (by simp)).1 (hf it (by simp)).2.1 (hf it (by simp)).2.2.2.1 (hf it (by simp)).2.2.2.2.1 (hf it (by simp)).2.2.2.2.2⟩
  self := fun A j s Q E st h => let ⟨⟨_, he⟩, _⟩ := st; wpAny_pyIter_enum he h
section
variable {X : Cx} {C : Cz} {Γ Γ1 : List Nat} {p pos tpos : Pos} {e : Expr} {elts : List Expr} {kk : Nat} {fa : Env → R (D × Env)}
def iEnumA (K : PySem.W.Frag) (te : TE) : TI := fun σ H G => te σ H fun v H1 => ∃ (a : Addr) (xs : List V), v = .ref a ∧ ((SqL K H1 a xs ∧ G (Ite K a) H1) ∨ (SqT K H1 a xs ∧ G (ItEt K a) H1))
theorem pi_enumA {te : TE} (hg : Gl X "enumerate") (hm : X.mg "enumerate" = none) (ha : PE X e te) (hs : starEach [e] X.env = (false, eval e X.env) :: starEach [] X.env := by rfl) : PI X (.Tuple elts kk tpos) (.Call (.Name "enumerate" p) [e] [] pos) (iEnumA X.K te) := by
  refine ⟨fun pins s σ H G I h => ?_⟩
  refine Call_ (ld_blt I hg hm boot_enumerate (PyProof.Rows.callWith_type1 (args_cons (thn (ha.run pins s σ H _ I h) fun u s1 ⟨v, H1, I1, r1, q1⟩ => args_nil ?_) hs) hs rfl))
  obtain ⟨a, xs, ev, q⟩ := q1
  subst ev
  obtain rfl : u = Value.ref a := r1
  rcases q with ⟨hq, q⟩ | ⟨hq, q⟩
  · obtain ⟨its, rv, pl, _⟩ := I1.list hq
    refine call_enumerate_list pl.isList fun h' he hit hsz hk => wpAny_pyIter_enum he ?_
    have I2 : Inv X pins σ H1 { s1 with heap := h' } := I1.kept (t' := s1.toks) hk
    refine ⟨s1.heap.objs.size + 1, [s1.heap.objs.size + 1, s1.heap.objs.size], _, _, H1, rfl, I2, turn_enum a (s1.heap.objs.size + 1) s1.heap.objs.size, ⟨⟨.none, he⟩, hit, Nat.succ_ne_self _⟩, fun b hb => ?_, q⟩
    have lb : s1.heap.objs.size ≤ b := by
      rcases (show b = s1.heap.objs.size + 1 ∨ b = s1.heap.objs.size by simpa using hb) with z | z <;> rw [z]
      · exact Nat.le_add_right _ _
      · exact Nat.le_refl _
    exact I1.fpOk lb (I1.hok.fresh lb)
  · obtain ⟨its, rv, pl, _⟩ := I1.tuple hq
    have al : a < s1.heap.objs.size := by
      obtain ⟨o, ho, _⟩ := pl
      exact Heap.lt_size ho
    refine enum_tup (its := its.toArray) pl fun h' he hit hk => wpAny_pyIter_enum he ?_
    have I2 : Inv X pins σ H1 { s1 with heap := h' } := I1.kept (t' := s1.toks) hk
    refine ⟨s1.heap.objs.size + 1, [s1.heap.objs.size + 1, s1.heap.objs.size], _, _, H1, rfl, I2, turn_enumT a (s1.heap.objs.size + 1) s1.heap.objs.size (Nat.ne_of_lt al) (Ne.symm (Nat.ne_of_lt (Nat.lt_succ_of_lt al))), ⟨⟨.none, he⟩, hit, Nat.succ_ne_self _⟩, fun b hb => ?_, q⟩
    have lb : s1.heap.objs.size ≤ b := by
      rcases (show b = s1.heap.objs.size + 1 ∨ b = s1.heap.objs.size by simpa using hb) with z | z <;> rw [z]
      · exact Nat.le_add_right _ _
      · exact Nat.le_refl _
    exact I1.fpOk lb (I1.hok.fresh lb)
def enumD (i : Nat) : List D → List D
  | [] => []
  | d :: r => .tup [.int (i : Nat), d] :: enumD (i + 1) r
theorem enumD_length : ∀ {ds : List D} {i : Nat}, (enumD i ds).length = ds.length
  | [], _ => rfl
  | d :: r, i => by simp [enumD, enumD_length]
theorem enumD_get : ∀ {ds : List D} {i j : Nat} {d : D}, (enumD i ds)[j]? = some d → ∃ x, ds[j]? = some x ∧ d = .tup [.int ((i + j : Nat) : Int), x]
  | [], i, j, d, h => by simp [enumD] at h
  | x :: r, i, 0, d, h => by
    simp [enumD] at h
    exact ⟨x, rfl, h.symm⟩
  | x :: r, i, j + 1, d, h => by
    simp only [enumD, List.getElem?_cons_succ] at h
    obtain ⟨y, h1, h2⟩ := enumD_get h
    exact ⟨y, by simpa using h1, by rw [h2]; congr 4; omega⟩
theorem it_enumL {K : PySem.W.Frag} {T : Tab} {S : Addr → Prop} {H : Hp} {ds : List D} {a : Addr} {vs : List V} (r : Reps K T H S ds vs) (st : ∀ H' S', Stay K H S H' S' → SqL K H' a vs) : ItOk K T S H (Ite K a) (enumD 0 ds) := by
  refine ⟨fun S' H' s i hi => ?_, fun S' H' s i d hd => ?_, fun S' H' s i d hd x H2 hy => ?_⟩
  · exact ⟨vs, st H' S' s, by rw [← r.length, ← enumD_length (i := 0)]; exact hi⟩
  · obtain ⟨y, h1, _⟩ := enumD_get hd
    obtain ⟨v, hv, _⟩ := r.get h1
    exact ⟨vs, v, st H' S' s, hv⟩
  · obtain ⟨y, h1, rfl⟩ := enumD_get hd
    obtain ⟨v, hv, rv⟩ := r.get h1
    obtain ⟨t, u, rfl, hn, rfl, hu⟩ := hy
    have e := hu vs (st H' S' s)
    rw [hv] at e; cases e
    refine ⟨kept_upd hn, ?_⟩
    simp only [Rep, Reps]
    exact ⟨t, _, rfl, .inl (.inl upd_same), .int _, _, rfl, by simp, v, [], rfl, (Stay.grow (kept_upd hn)).rep (s.rep rv), rfl⟩
theorem it_enumT {K : PySem.W.Frag} {T : Tab} {S : Addr → Prop} {H : Hp} {ds : List D} {a : Addr} {vs : List V} (r : Reps K T H S ds vs) (st : ∀ H' S', Stay K H S H' S' → SqT K H' a vs) : ItOk K T S H (ItEt K a) (enumD 0 ds) := by
  refine ⟨fun S' H' s i hi => ?_, fun S' H' s i d hd => ?_, fun S' H' s i d hd x H2 hy => ?_⟩
  · exact ⟨vs, st H' S' s, by rw [← r.length, ← enumD_length (i := 0)]; exact hi⟩
  · obtain ⟨y, h1, _⟩ := enumD_get hd
    obtain ⟨v, hv, _⟩ := r.get h1
    exact ⟨vs, v, st H' S' s, hv⟩
  · obtain ⟨y, h1, rfl⟩ := enumD_get hd
    obtain ⟨v, hv, rv⟩ := r.get h1
    obtain ⟨t, u, rfl, hn, rfl, hu⟩ := hy
    have e := hu vs (st H' S' s)
    rw [hv] at e; cases e
    refine ⟨kept_upd hn, ?_⟩
    simp only [Rep, Reps]
    exact ⟨t, _, rfl, .inl (.inl upd_same), .int _, _, rfl, by simp, v, [], rfl, (Stay.grow (kept_upd hn)).rep (s.rep rv), rfl⟩
/-- a shared sequence, wherever it stays -/
def mSeqD (h : List D → List D) (fa : Env → R (D × Env)) : Env → R (List D × Env) := fun ρ => (fa ρ).bind fun (d, ρ1) => match seqD d with
  | some (_, xs) => .ok (h xs, ρ1)
  | none => .bad
theorem seq_stay {K : PySem.W.Frag} {T : Tab} {S : Addr → Prop} {H : Hp} {d : D} {v : V} {b : Bool} {xs : List D} (r : Rep K T H S d v) (e : seqD d = some (b, xs)) : ∃ a vs, v = .ref a ∧ Reps K T H S xs vs ∧ (b = true → ∀ H' S', Stay K H S H' S' → SqL K H' a vs) ∧ (b = false → ∀ H' S', Stay K H S H' S' → SqT K H' a vs) := by
  cases d with
  | lst ys =>
    cases e
    simp only [Rep] at r
    obtain ⟨a, vs, e, h1, sa, r⟩ := r
    exact ⟨a, vs, e, r, fun _ H' S' s => .inl (.inl (s.l a vs h1 sa).1), fun z => (nomatch z)⟩
  | kls ys =>
    cases e
    simp only [Rep] at r
    obtain ⟨a, vs, e, h1, r⟩ := r
    exact ⟨a, vs, e, r, fun _ H' S' s => (s.c a vs h1).sql, fun z => (nomatch z)⟩
  | tup ys =>
    cases e
    simp only [Rep] at r
    obtain ⟨a, vs, e, h1, r⟩ := r
    exact ⟨a, vs, e, r, fun z => (nomatch z), fun _ H' S' s => s.t a vs h1⟩
  | _ => cases e
theorem di_enum (hg : Gl X "enumerate") (hm : X.mg "enumerate" = none) (ha : DE X C Γ e Γ1 0 fa) (hs : starEach [e] X.env = (false, eval e X.env) :: starEach [] X.env := by rfl) : DI X C (.Tuple elts kk tpos) Γ (.Call (.Name "enumerate" p) [e] [] pos) Γ1 (mSeqD (enumD 0) fa) :=
  pi_imp (pi_enumA hg hm ha hs) fun σ H Q h => by
  obtain ⟨S, ρ, fp, s, h⟩ := h
  refine ⟨S, ρ, fp, s, OutE.thenI h fun d ρ1 v H1 S1 fp1 e1 s1 r1 f1 h1 => ?_⟩
  dsimp only at h1
  cases q : seqD d with
  | none => rw [q] at h1; exact h1.elim
  | some bx =>
    obtain ⟨b, xs⟩ := bx
    rw [q] at h1
    obtain ⟨a, vs, rfl, r, hl, ht⟩ := seq_stay r1 q
    refine ⟨a, vs, rfl, ?_⟩
    cases b with
    | true => exact .inl ⟨hl rfl H1 S1 Stay.refl, h1 _ H1 S1 fp1 s1 (it_enumL r (hl rfl)) f1⟩
    | false => exact .inr ⟨ht rfl H1 S1 Stay.refl, h1 _ H1 S1 fp1 s1 (it_enumT r (ht rfl)) f1⟩
end
end Z
set_option Elab.async false
set_option linter.all false
set_option maxRecDepth 100000
/-! Y2: isinstance, slices, methods, more iterators -/
namespace Z
open PySem PySem.Spec L2
open PyProof.Rows hiding St

/-! ### isinstance -/
inductive Ty where
  | int | bool | list | tuple | str
  | own (c : Nat)
def Ty.v (T : Tab) : Ty → V
  | .int => .ty "int"
  | .bool => .ty "bool"
  | .list => .ty "list"
  | .tuple => .ty "tuple"
  | .str => .ty "str"
  | .own c => .ref (T.cm c)
def Ty.u (T : Tab) : Ty → Value
  | .int => .type "int"
  | .bool => .type "bool"
  | .list => .type "list"
  | .tuple => .type "tuple"
  | .str => .type "str"
  | .own c => .ref (T.cm c)
theorem Ty.cls (T : Tab) (t : Ty) : ClsV (t.v T) (t.u T) := by cases t <;> constructor
def tyHas : Ty → D → Bool
  | .int, .int _ => true
  | .int, .bl _ => true
  | .bool, .bl _ => true
  | .list, .lst _ => true
  | .list, .kls _ => true
  | .tuple, .tup _ => true
  | .str, .str _ => true
  | .own c, .ins c' _ => c' == c
  | _, _ => false
def kindT (T : Tab) : D → Value
  | .non => .type "NoneType"
  | .bl _ => .type "bool"
  | .int _ => .type "int"
  | .str _ => .type "str"
  | .lst _ => .type "list"
  | .kls _ => .type "list"
  | .tup _ => .type "tuple"
  | .ins c _ => .ref (T.cm c)
  | .cls _ => .type "type"
  | .exc c _ => .ref (T.cm c)
structure IsC (K : PySem.W.Frag) (C : Addr) : Prop where
  cl : Cls K C
  ha : PySem.W.findIn K (.ref C) "__class__" = some (some (.builtin "object.__class__"))
  hn : PySem.W.specialIn K (.builtin "object.__class__") "__get__" = some (some (.builtin "getset_descriptor.__get__"))
  tk : PySem.W.takesIn K (.builtin "object.__class__") = some true
  ob : PySem.W.mroIn K C (.type "object") = some true
structure TyOk (K : PySem.W.Frag) (T : Tab) (cs : List Nat) : Prop where
  is : ∀ c ∈ cs, IsC K (T.cm c)
  bo : ∀ c ∈ cs, ∀ n ∈ ["NoneType", "bool", "int", "str", "list", "tuple"], PySem.W.kitOne K (.type n) (.ref (T.cm c)) = some false
  ob : ∀ c ∈ cs, ∀ n ∈ ["int", "bool", "list", "tuple", "str"], PySem.W.kitOne K (.ref (T.cm c)) (.type n) = some false
  oo : ∀ c ∈ cs, ∀ c' ∈ cs, PySem.W.kitOne K (.ref (T.cm c)) (.ref (T.cm c')) = some (c == c')
def okD (cs : List Nat) : D → Bool
  | .ins c _ => cs.contains c
  | .cls _ => false
  | .exc _ _ => false
  | _ => true
def okTy (cs : List Nat) : Ty → Bool
  | .own c => cs.contains c
  | _ => true
section
variable {K : PySem.W.Frag} {T : Tab} {cs : List Nat}
theorem kit_bb {a b : String} {r : Bool} (h : kitB a b = some r) : PySem.W.kitOne K (.type a) (.type b) = some r := kit_ty h
theorem kit_all (ok : TyOk K T cs) {d : D} {t : Ty} (hd : okD cs d = true) (ht : okTy cs t = true) : PySem.W.kitOne K (kindT T d) (t.u T) = some (tyHas t d) := by
  cases t with
  | own c =>
    have hc : c ∈ cs := by simpa [okTy] using ht
    cases d with
    | ins c' fs => exact ok.oo c' (by simpa [okD] using hd) c hc
    | cls c' => cases hd
    | exc c' fs => cases hd
    | _ => exact ok.bo c hc _ (by simp)
  | _ =>
    cases d with
    | ins c' fs => exact ok.ob c' (by simpa [okD] using hd) _ (by simp)
    | cls c' => cases hd
    | exc c' fs => cases hd
    | _ => first | exact kit_bb (r := false) (by decide +kernel) | exact kit_bb (r := true) (by decide +kernel)
theorem kit_any (ok : TyOk K T cs) {d : D} (hd : okD cs d = true) : ∀ {ts : List Ty}, ts.all (okTy cs) = true → PySem.W.kitAny K (kindT T d) (ts.map fun t => t.u T) = some (ts.any fun t => tyHas t d)
  | [], _ => rfl
  | t :: ts, h => by
    rw [List.all_cons, Bool.and_eq_true] at h
    refine kitAny_cons (kit_all ok hd h.1) (fun e => ?_) fun e => ?_
    · rw [List.any_cons, e, Bool.false_or]; exact kit_any ok hd h.2
    · rw [List.any_cons, e, Bool.true_or]
theorem type_of {H : Hp} {S : Addr → Prop} {d : D} {v : V} (ok : TyOk K T cs) (hd : okD cs d = true) (r : Rep K T H S d v) : TyX K H v (kindT T d) := by
  cases d with
  | cls c => cases hd
  | exc c fs => cases hd
  | non => rw [rep_non r]; exact .base .non
  | bl b => rw [rep_bl r]; exact .base (.bl b)
  | int b => rw [rep_int r]; exact .base (.int b)
  | str b => rw [rep_str r]; exact .base (.str b)
  | lst xs =>
    simp only [Rep] at r
    obtain ⟨a, vs, rfl, h, _⟩ := r
    exact .base (.lst h)
  | kls xs =>
    simp only [Rep] at r
    obtain ⟨a, vs, rfl, h, _⟩ := r
    rcases h with ⟨o, h⟩ | ⟨o, its, n, h1, h2, _⟩
    · exact .base (.frz h)
    · exact .kList h1 h2
  | tup xs =>
    simp only [Rep] at r
    obtain ⟨a, vs, rfl, h, _⟩ := r
    rcases h with (h | ⟨o, h⟩) | ⟨o, its, n, h1, h2, _⟩
    · exact .base (.tup h)
    · exact .fTuple h
    · exact .kTuple h1 h2
  | ins c fs =>
    simp only [Rep] at r
    obtain ⟨a, dx, vs, rfl, h, _⟩ := r
    have q := ok.is c (by simpa [okD] using hd)
    exact .base (.ins h q.cl q.ha q.hn q.tk q.ob)
end
def gIsi (cs : List Nat) (ts : List Ty) (d : D) : Option D := if okD cs d = true then some (.bl (ts.any fun t => tyHas t d)) else none
section
variable {X : Cx} {C : Cz} {Γ Γ' Γ1 Γ2 : List Nat} {k kr lv i : Nat} {x mn : Str} {p pos apos tpos : Pos} {a b e o te : Expr} {es : List Expr} {fa fb : Env → R (D × Env)} {fs : Env → R (List D × Env)} {cs : List Nat} {ts : List Ty} {t : Ty}
/-- the classes' expressions -/
structure PTy (X : Cx) (T : Tab) (es : List Expr) (ts : List Ty) : Prop where
  pa : ∃ q, PA X es q ∧ ∀ σ H (Q : List V → Hp → Prop), Q (ts.map fun t => t.v T) H → q σ H Q
theorem pty_nil {T : Tab} : PTy X T [] [] := ⟨_, pa_nil, fun σ H Q h => h⟩
theorem pty_cons {T : Tab} (h : PE X e (tC (t.v T))) (r : PTy X T es ts) (hs : starEach (e :: es) X.env = (false, eval e X.env) :: starEach es X.env := by rfl) : PTy X T (e :: es) (t :: ts) := by
  obtain ⟨q, pa, hq⟩ := r
  exact ⟨_, pa_cons h pa hs, fun σ H Q h => hq σ H _ h⟩
theorem pty_own {c : Nat} {T : Tab} (hg : Gl X x) (hm : X.mg x = some (.ref (T.cm c))) (hd : (x == ("__debug__" : Str)) = false := by decide) : PE X (.Name x pos) (tC ((Ty.own c).v T)) := pe_glob hg hm rfl hd
theorem pty_bt {T : Tab} {u : Value} (hg : Gl X x) (hm : X.mg x = none) (hv : bootBuiltins x = some u) (hu : t.u T = u) (ho : ∀ c, t ≠ .own c) (hn : x ≠ "__name__" := by decide) (hd : (x == ("__debug__" : Str)) = false := by decide) : PE X (.Name x pos) (tC (t.v T)) :=
  pe_bltn hg hm hv (by cases t <;> first | exact hu.symm | exact absurd rfl (ho _)) hn hd
theorem p_isi1 (ok : TyOk X.K C.T cs) (ht : okTy cs t = true) : Prim1 X.K C.T 0 (fun v H Q => rIsi X.K [v, t.v C.T] H Q) (gIsi cs [t]) := fun S H x v d r e => by
  unfold gIsi at e
  split at e
  · rename_i hd
    cases e
    refine gives_val (v := .bl (tyHas t x || false)) (by simp [Rep]) fun Q q => ⟨v, t.v C.T, kindT C.T x, t.u C.T, tyHas t x, rfl, t.cls C.T, type_of ok hd r, kit_all ok hd ht, by simpa using q⟩
  · cases e
/-- isinstance(e, C) -/
theorem de_isi (ok : TyOk X.K C.T cs) (ht : okTy cs t = true) (hte : PE X te (tC (t.v C.T))) (hg : Gl X "isinstance") (hm : X.mg "isinstance" = none) (ha : DE X C Γ e Γ1 0 fa) (he : starEach (e :: [te]) X.env = (false, eval e X.env) :: starEach [te] X.env := by rfl) (he2 : starEach (te :: []) X.env = (false, eval te X.env) :: starEach [] X.env := by rfl)
    (hpl : (backTo pos (starEach [te] X.env)).any (·.1) = false := by rfl) : DE X C Γ (.Call (.Name "isinstance" p) [e, te] [] pos) Γ1 0 (mUn (gIsi cs [t]) fa) :=
  pe_imp (pe_callB call_isi hg hm PyProof.Rows.boot_isinstance (pa_cons ha (pa_cons hte pa_nil he2) he) (by decide) (by decide) he hpl) fun σ H Q h => un_data (r := fun v H1 Q => rIsi X.K [v, t.v C.T] H1 Q) (p_isi1 ok ht) h
theorem paired_ty {T : Tab} : ∀ {ts : List Ty}, Paired ClsV (ts.map fun t => t.v T) (ts.map fun t => t.u T)
  | [] => .nil
  | t :: ts => .cons (t.cls T) paired_ty
/-- isinstance(e, (C1, C2, ..)) -/
theorem de_isiT {n : Nat} (ok : TyOk X.K C.T cs) (ht : ts.all (okTy cs) = true) (hl : ts.length ≤ 100) (hte : PTy X C.T es ts) (hg : Gl X "isinstance") (hm : X.mg "isinstance" = none) (ha : DE X C Γ e Γ1 0 fa) (he : starEach (e :: [.Tuple es n tpos]) X.env = (false, eval e X.env) :: starEach [.Tuple es n tpos] X.env := by rfl)
    (he2 : starEach (.Tuple es n tpos :: []) X.env = (false, eval (.Tuple es n tpos) X.env) :: starEach [] X.env := by rfl) (hpl : (backTo pos (starEach [.Tuple es n tpos] X.env)).any (·.1) = false := by rfl) : DE X C Γ (.Call (.Name "isinstance" p) [e, .Tuple es n tpos] [] pos) Γ1 0 (mUn (gIsi cs ts) fa) := by
  obtain ⟨q, pa, hq⟩ := hte.pa
  refine pe_imp (pe_callB call_isiT hg hm PyProof.Rows.boot_isinstance (pa_cons ha (pa_cons (pe_tup pa) pa_nil he2) he) (by decide) (by decide) he hpl) fun σ H Q h => ?_
  obtain ⟨S, ρ, fp, s, h⟩ := h
  refine ⟨S, ρ, fp, s, OutE.then0 h fun d ρ1 v H1 S1 fp1 e1 s1 r1 f1 h1 => hq σ H1 _ ?_⟩
  dsimp only at h1
  cases q2 : gIsi cs ts d with
  | none => rw [q2] at h1; exact h1.elim
  | some b =>
    rw [q2] at h1
    unfold gIsi at q2
    split at q2
    · rename_i hd
      cases q2
      refine ⟨line_of (by rw [List.length_map]; omega), fun tp hp => ?_⟩
      have kk := kept_upd (u := .tup (ts.map fun t => t.v C.T)) hp
      have s2 := s1.grow kk
      refine ⟨v, tp, _, kindT C.T d, _, _, rfl, upd_same, paired_ty, type_of ok hd ((Stay.grow kk).rep r1), kit_any ok hd ht, ?_⟩
      exact h1 _ _ S1 fp1 [] s2 (.of (by simp [Rep])) ⟨fun b o h _ => kk b o h, fun _ z => z, fun _ z => .inl z, fun b z => z.elim .inl fun z => nomatch z⟩
    · cases q2

/-! ### slices -/
abbrev DO (X : Cx) (Z : Cz) (Γ : List Nat) (e : Option Expr) (Γ' : List Nat) (f : Env → R (Option Int × Env)) : Prop :=
  PO X e (fun σ H Q => ∃ S ρ fp, Stt X.K Z.T Γ S σ H ρ fp ∧ match f ρ with
    | .ok (j, ρ') => ∀ H' S' fp', Stt X.K Z.T Γ' S' σ H' ρ' fp' → Fra H S (Ow fp) H' S' (Ow fp') → Q j H'
    | .er c fs => OutX X.K Z.T Z.W σ H S (Ow fp) c fs
    | .bad => False)
def mNoP : Env → R (Option Int × Env) := fun ρ => .ok (none, ρ)
def mPart (fa : Env → R (D × Env)) : Env → R (Option Int × Env) := fun ρ => (fa ρ).bind fun (d, ρ1) => match d with
  | .int j => .ok (some j, ρ1)
  | _ => .bad
theorem po_imp {e : Option Expr} {t t' : TO} (h : PO X e t) (i : ∀ σ H Q, t' σ H Q → t σ H Q) : PO X e t' := ⟨fun pins s σ H Q I q => h.run pins s σ H Q I (i σ H Q q)⟩
theorem do_none : DO X C Γ none Γ mNoP := po_imp po_none fun σ H Q h => by
  obtain ⟨S, ρ, fp, s, h⟩ := h
  exact h H S fp s Fra.refl
theorem do_some (ha : DE X C Γ e Γ1 0 fa) : DO X C Γ (some e) Γ1 (mPart fa) := po_imp (po_some ha) fun σ H Q h => by
  obtain ⟨S, ρ, fp, s, h⟩ := h
  refine ⟨S, ρ, fp, s, ?_⟩
  unfold mPart at h
  cases q : fa ρ with
  | ok ar =>
    obtain ⟨d, ρ1⟩ := ar
    rw [q] at h
    intro v H1 S1 fp1 Fv s1 x1 f1
    obtain ⟨ef, r1⟩ := x1.rep
    subst ef
    cases d with
    | int j => exact ⟨j, rep_int r1, h H1 S1 fp1 s1 f1.ow⟩
    | _ => exact h.elim
  | er c fs => rw [q] at h; exact h
  | bad => rw [q] at h; exact h.elim
/-- the cut of a list -/
def cutD (xs : List D) (lo hi : Option Int) : List D := (xs.drop (HT.sIx xs.length 0 lo)).take (HT.sIx xs.length xs.length hi - HT.sIx xs.length 0 lo)
def gSl (x : D) (lo hi : Option Int) : Option D := match x with
  | .lst xs => some (.lst (cutD xs lo hi))
  | .kls xs => some (.lst (cutD xs lo hi))
  | .tup xs => if HT.sIx xs.length 0 lo = 0 ∧ HT.sIx xs.length xs.length hi = xs.length then none else some (.tup (cutD xs lo hi))
  | _ => none
theorem reps_cut {K : PySem.W.Frag} {T : Tab} {S : Addr → Prop} {H : Hp} {xs : List D} {vs : List V} {lo hi : Option Int} (r : Reps K T H S xs vs) : Reps K T H S (cutD xs lo hi) (cutV vs lo hi) := by
  unfold cutD cutV
  rw [r.length]
  exact (r.drop _).take _
def rSl (K : PySem.W.Frag) : V → Option Int → Option Int → Hp → VK → Prop := fun x lo hi H Q => rSlL K x lo hi H Q ∨ rSlT K x lo hi H Q
theorem o_sl : SlR X (rSl X.K) := SlR.or sl_list sl_tup
theorem p_sl {K : PySem.W.Frag} {T : Tab} {S : Addr → Prop} {H : Hp} {x d : D} {v : V} {lo hi : Option Int} (hk : k ≤ 1) (pe : Pe K T H S x v) (e : gSl x lo hi = some d) : Gives K T S H k d (rSl K v lo hi H) := by
  have lst : ∀ xs, seqD x = some (true, xs) → Gives K T S H k (.lst (cutD xs lo hi)) (rSl K v lo hi H) := fun xs e1 => by
    obtain ⟨a, vs, ev, hl, ht, r⟩ := pe.sq true xs e1
    exact .inr (.inl ⟨_, _, rfl, hk, reps_cut r, fun Q q => .inl ⟨a, vs, ev, hl rfl, q⟩⟩)
  cases x with
  | lst xs => cases e; exact lst xs rfl
  | kls xs => cases e; exact lst xs rfl
  | tup xs =>
    simp only [gSl] at e
    split at e
    · cases e
    · rename_i hn
      cases e
      obtain ⟨a, vs, ev, hl, ht, r⟩ := pe.sq false xs rfl
      rw [r.length] at hn
      exact .inr (.inr ⟨_, _, rfl, hk, reps_cut r, fun Q q => .inr ⟨a, vs, ev, ht rfl, hn, q⟩⟩)
  | _ => cases e
def mSl (fa : Env → R (D × Env)) (fl fu : Env → R (Option Int × Env)) : Env → R (D × Env) := fun ρ => (fa ρ).bind fun (x, ρ1) => (fl ρ1).bind fun (l, ρ2) => (fu ρ2).bind fun (u, ρ3) => (ofO (gSl x l u)).bind fun d => .ok (d, ρ3)
/-- e[lo:hi] -/
theorem de_sl {lo hi : Option Expr} {fl fu : Env → R (Option Int × Env)} {Γ3 : List Nat} {p2 : Pos} (ha : DE X C Γ e Γ1 0 fa) (hl : DO X C Γ1 lo Γ2 fl) (hu : DO X C Γ2 hi Γ3 fu) (hk : k ≤ 1 := by decide) : DE X C Γ (.Subscript e (.Slice lo hi none p2) pos) Γ3 k (mSl fa fl fu) :=
  pe_imp (pe_slice o_sl ha hl hu) fun σ H Q h => by
  obtain ⟨S, ρ, fp, s, h⟩ := h
  refine ⟨S, ρ, fp, s, OutE.then0 h fun d ρ1 v H1 S1 fp1 e1 s1 r1 f1 h1 => ⟨S1, ρ1, fp1, s1, ?_⟩⟩
  dsimp only at h1
  cases ql : fl ρ1 with
  | er c fs => rw [ql] at h1; exact h1
  | bad => rw [ql] at h1; exact h1.elim
  | ok lr =>
    obtain ⟨l, ρ2⟩ := lr
    rw [ql] at h1
    intro H2 S2 fp2 s2 f2
    refine ⟨S2, ρ2, fp2, s2, ?_⟩
    simp only [R.bind_ok] at h1
    have h2 := OutE.before f2 h1
    cases qu : fu ρ2 with
    | er c fs => rw [qu] at h2; exact h2
    | bad => rw [qu] at h2; exact h2.elim
    | ok ur =>
      obtain ⟨u, ρ3⟩ := ur
      rw [qu] at h2
      intro H3 S3 fp3 s3 f3
      simp only [R.bind_ok] at h2
      have h3 := OutE.before f3 h2
      cases qd : gSl d l u with
      | none => rw [qd] at h3; exact h3.elim
      | some y =>
        rw [qd] at h3
        exact gives_out s3 (p_sl hk (.of (s2.rep_fra (s1.rep_fra r1 f2) f3)) qd) h3
/-- x[lo:hi], x a name that owns its list; lo and hi do not change it -/
def mSlN (i : Nat) (fl fu : Env → R (Option Int × Env)) : Env → R (D × Env) := fun ρ => match ρ[i]? with
  | some (some _) => (fl ρ).bind fun (l, ρ2) => (fu ρ2).bind fun (u, ρ3) => match ρ3[i]? with
    | some (some x) => (ofO (gSl x l u)).bind fun d => .ok (d, ρ3)
    | _ => .bad
  | _ => .bad
theorem de_slN {lo hi : Option Expr} {fl fu : Env → R (Option Int × Env)} {p2 : Pos} (hv : PE X (.Name x p) (tVar i)) (hl : DO X C Γ lo Γ1 fl) (hu : DO X C Γ1 hi Γ2 fu) (hk : k ≤ 1 := by decide) (hki : Γ2.getD i 0 ≤ 1 := by decide) : DE X C Γ (.Subscript (.Name x p) (.Slice lo hi none p2) pos) Γ2 k (mSlN i fl fu) :=
  pe_imp (pe_slice o_sl hv hl hu) fun σ H Q h => by
  obtain ⟨S, ρ, fp, s, h⟩ := h
  unfold mSlN at h
  split at h
  · rename_i d0 q0
    obtain ⟨v, hv0, _⟩ := s.sl i d0 q0
    refine ⟨v, hv0, S, ρ, fp, s, ?_⟩
    cases ql : fl ρ with
    | er c fs => rw [ql] at h; exact h
    | bad => rw [ql] at h; exact h.elim
    | ok lr =>
      obtain ⟨l, ρ2⟩ := lr
      rw [ql] at h
      intro H2 S2 fp2 s2 f2
      refine ⟨S2, ρ2, fp2, s2, ?_⟩
      simp only [R.bind_ok] at h
      have h2 := OutE.before f2 h
      cases qu : fu ρ2 with
      | er c fs => rw [qu] at h2; exact h2
      | bad => rw [qu] at h2; exact h2.elim
      | ok ur =>
        obtain ⟨u, ρ3⟩ := ur
        rw [qu] at h2
        intro H3 S3 fp3 s3 f3
        simp only [R.bind_ok] at h2
        have h3 := OutE.before f3 h2
        split at h3
        · rename_i d q3
          obtain ⟨v', hv3, o⟩ := s3.sl i d q3
          rw [hv0] at hv3; cases hv3
          cases qd : gSl d l u with
          | none => rw [qd] at h3; exact h3.elim
          | some y =>
            rw [qd] at h3
            exact gives_out s3 (p_sl hk (.own o hki) qd) h3
        · exact h3.elim
  · exact h.elim
/-- xs[::-1] -/
def gRev (x : D) : Option D := (seqD x).bind fun p => if p.1 = true then some (.lst p.2.reverse) else none
def rRevL (K : PySem.W.Frag) : V → Hp → VK → Prop := fun x H1 Q => ∃ a xs, x = .ref a ∧ SqL K H1 a xs ∧ ∀ p, H1 p = none → Q (.ref p) (upd H1 p (.lst xs.reverse))
theorem p_rev {K : PySem.W.Frag} {T : Tab} (hk : k ≤ 1 := by decide) : Prim1P K T k (rRevL K) gRev := fun S H x v d r e => by
  unfold gRev at e
  cases q : seqD x with
  | none => rw [q] at e; cases e
  | some p =>
    obtain ⟨b, xs⟩ := p
    rw [q] at e
    cases b with
    | false => cases e
    | true =>
      cases e
      obtain ⟨a, vs, ev, hl, ht, r⟩ := r.sq true xs q
      exact .inr (.inl ⟨_, _, rfl, hk, r.reverse, fun Q q => ⟨a, vs, ev, hl rfl, q⟩⟩)
theorem de_rev {n : Nat} {p1 p2 p3 : Pos} (ha : DE X C Γ e Γ1 0 fa) (hk : k ≤ 1 := by decide) : DE X C Γ (.Subscript e (.Slice none none (some (.UnaryOp .USub (.Constant (.int 1) n p1) p2)) p3) pos) Γ1 k (mUn gRev fa) :=
  pe_imp (pe_revL ha) fun σ H Q h => un_data (r := rRevL X.K) (p_rev hk).to h
theorem de_revN {n : Nat} {p1 p2 p3 : Pos} (hv : PE X (.Name x p) (tVar i)) (hi : Γ.getD i 0 ≤ 1 := by decide) (hk : k ≤ 1 := by decide) : DE X C Γ (.Subscript (.Name x p) (.Slice none none (some (.UnaryOp .USub (.Constant (.int 1) n p1) p2)) p3) pos) Γ k (mUnN i gRev) :=
  pe_imp (pe_revL hv) fun σ H Q h => unN_data (r := rRevL X.K) hi (p_rev hk) h

/-! ### methods that keep their receiver -/
def mMeth (c : Nat) (m : List D → R D) (fo : Env → R (D × Env)) (fs : Env → R (List D × Env)) : Env → R (D × Env) := fun ρ => (fo ρ).bind fun (x, ρ1) => match x with
  | .ins c' _ => if c' = c then (fs ρ1).bind fun (xs, ρ2) => (m (x :: xs)).bind fun d => .ok (d, ρ2) else .bad
  | _ => .bad
theorem lookup_out : ∀ {ns : List Str} {vs : List V} {f : Str}, f ∉ ns → (ns.zip vs).lookup f = none
  | [], _, _, _ => rfl
  | _ :: _, [], _, _ => rfl
  | n :: ns, v :: vs, f, h => by
    have e : (f == n) = false := by simpa using fun z => h (by rw [z]; exact List.mem_cons_self)
    simp only [List.zip_cons_cons, List.lookup_cons, e]
    exact lookup_out fun z => h (List.mem_cons_of_mem _ z)
section
variable {c : Nat} {f : Addr} {fd : FuncData} {ps : List Str} {ds : List Value} {dvs : List V} {xd : List D} {m : List D → R D} {E : XK} {pl : Sem Bool}
theorem meth_data {σ : St} {H : Hp} {Q : VK} (hW : C.W = fun cls d _ H => E cls d H) (hf : mn ∉ C.T.fl c) (hxd : ∀ S H, Reps X.K C.T H S xd dvs) (h : tE X.K C.T C.W Γ Γ2 kr (mMeth c (fun xs => m (xs ++ xd)) fa fs) σ H Q) :
    tMeth (C.T.cm c) mn (spF X.K C.T kr m) dvs E (tE X.K C.T C.W Γ Γ1 0 fa) (tA X.K C.T C.W Γ1 Γ2 fs) σ H Q := by
  obtain ⟨S, ρ, fp, s, h⟩ := h
  refine ⟨S, ρ, fp, s, OutE.then0 h fun d ρ1 v H1 S1 fp1 e1 s1 r1 f1 h1 => ?_⟩
  cases d with
  | ins c' fs' =>
    dsimp only at h1
    by_cases ec : c' = c
    · subst ec
      rw [if_pos rfl] at h1
      have r0 := r1
      simp only [Rep] at r0
      obtain ⟨a, dx, vs, rfl, h2, _⟩ := r0
      refine ⟨a, dx, _, rfl, h2, lookup_out hf, S1, ρ1, fp1, s1, OutA.thenE h1 fun xs ρ2 ws H2 S2 fp2 e2 s2 r2 f2 h3 => ?_⟩
      have rr : Reps X.K C.T H2 S2 (.ins c' fs' :: (xs ++ xd)) (.ref a :: (ws ++ dvs)) := by
        simp only [Reps]
        exact ⟨_, _, rfl, s1.rep_fra r1 f2, r2.append (hxd S2 H2)⟩
      have z := call_data (m := m) (C := C) s2 rr h3
      rw [hW] at z
      exact z
    · rw [if_neg ec] at h1; exact h1.elim
  | _ => exact h1.elim
/-- o.m(e, ..) -/
theorem de_meth (hW : C.W = fun cls d _ H => E cls d H) (hcl : Cls X.K (C.T.cm c)) (hm : Meth X.K (C.T.cm c) mn f) (hf : mn ∉ C.T.fl c) (F : FnOk X.prog X.w X.K X.mg X.base (L2N.CX X.prog X.w) lv f fd ps (spF X.K C.T kr m)) (hr : Room lv X.A) (tk : L2N.Takes X C.W) (hb : Binds X.K fd ps ds) (hd : Vals dvs ds)
    (hxd : ∀ S H, Reps X.K C.T H S xd dvs) (ho : DE X C Γ o Γ1 0 fa) (ha : DA X C Γ1 (e :: es) Γ2 fs) (hst : starEach (e :: es) X.env = (false, eval e X.env) :: starEach es X.env := by rfl) (hpl : (backTo pos (starEach es X.env)).any (·.1) = false := by rfl)
    (ht : eval (.Call (.Attribute o mn apos) (e :: es) [] pos) X.env = (do
      let ov ← eval o X.env
      standAt apos.atName
      let (g, first) ← holding [ov] (getMethod ov mn pl)
      callWith pos g first (backTo pos (starEach (e :: es) X.env)) (backToKw pos (keywordEach [] X.env))) := by rfl) :
    DE X C Γ (.Call (.Attribute o mn apos) (e :: es) [] pos) Γ2 kr (mMeth c (fun xs => m (xs ++ xd)) fa fs) :=
  pe_imp (pe_meth (pl := pl) (E := E) ho hcl hm F hr hb hd (L2N.passes_call tk fun cls d σ H z => by rw [hW]; exact z) ha hst hpl ht) fun σ H Q h => meth_data hW hf hxd h
/-- o.m() -/
theorem de_meth0 (hW : C.W = fun cls d _ H => E cls d H) (hcl : Cls X.K (C.T.cm c)) (hm : Meth X.K (C.T.cm c) mn f) (hf : mn ∉ C.T.fl c) (F : FnOk X.prog X.w X.K X.mg X.base (L2N.CX X.prog X.w) lv f fd ps (spF X.K C.T kr m)) (hr : Room lv X.A) (tk : L2N.Takes X C.W) (hb : Binds X.K fd ps ds) (hd : Vals dvs ds)
    (hxd : ∀ S H, Reps X.K C.T H S xd dvs) (ho : DE X C Γ o Γ1 0 fa) 
    (ht : eval (.Call (.Attribute o mn apos) [] [] pos) X.env = (do
      let ov ← eval o X.env
      standAt apos.atName
      let (g, first) ← holding [ov] (getMethod ov mn pl)
      callWith pos g first (backTo pos (starEach [] X.env)) (backToKw pos (keywordEach [] X.env))) := by rfl) :
    DE X C Γ (.Call (.Attribute o mn apos) [] [] pos) Γ1 kr (mMeth c (fun xs => m (xs ++ xd)) fa mNil) :=
  pe_imp (pe_meth0 (pl := pl) (E := E) ho hcl hm F hr hb hd (L2N.passes_call tk fun cls d σ H z => by rw [hW]; exact z) ht) fun σ H Q h => by
    have z := meth_data (Γ1 := Γ1) hW hf hxd h
    obtain ⟨S, ρ, fp, s, z⟩ := z
    refine ⟨S, ρ, fp, s, ?_⟩
    revert z
    generalize fa ρ = r
    intro z
    match r, z with
    | .ok (d, ρ'), z =>
      intro v H' S' fp' Fv s' x' f'
      obtain ⟨a, dx, gs, ev, hh, hl, z⟩ := z v H' S' fp' Fv s' x' f'
      obtain ⟨S2, ρ2, fp2, s2, z⟩ := z
      exact ⟨a, dx, gs, ev, hh, hl, z [] H' S2 fp2 s2 (by simp [Reps]) Fra.refl⟩
    | .er c fs, z => exact z
    | .bad, z => exact z
end

/-! ### reversed, ranges with a step -/
theorem it_revL {K : PySem.W.Frag} {T : Tab} {S : Addr → Prop} {H : Hp} {ds : List D} {a : Addr} {vs : List V} (r : Reps K T H S ds vs) (st : ∀ H' S', Stay K H S H' S' → SqL K H' a vs) : ItOk K T S H (Itv K a vs.length) ds.reverse := by
  have hl := r.length
  refine ⟨fun S' H' s i hi => ?_, fun S' H' s i d hd => ?_, fun S' H' s i d hd x H2 hy => ?_⟩
  · rw [List.length_reverse, hl] at hi; exact hi
  · have hi : i < ds.length := by have := (List.getElem?_eq_some_iff.mp hd).1; simpa using this
    rw [List.getElem?_reverse hi, hl] at hd
    obtain ⟨v, hv, _⟩ := r.get hd
    exact ⟨by omega, vs, v, st H' S' s, hv⟩
  · have hi : i < ds.length := by have := (List.getElem?_eq_some_iff.mp hd).1; simpa using this
    rw [List.getElem?_reverse hi, hl] at hd
    obtain ⟨v, hv, rv⟩ := r.get hd
    obtain ⟨rfl, hu⟩ := hy
    have q := hu vs (st H2 S' s)
    rw [hv] at q; cases q
    exact ⟨fun _ _ h => h, s.rep rv⟩
theorem it_revT {K : PySem.W.Frag} {T : Tab} {S : Addr → Prop} {H : Hp} {ds : List D} {a : Addr} {vs : List V} (r : Reps K T H S ds vs) (st : ∀ H' S', Stay K H S H' S' → SqT K H' a vs) : ItOk K T S H (RT.ItvT K a vs.length) ds.reverse := by
  have hl := r.length
  refine ⟨fun S' H' s i hi => ?_, fun S' H' s i d hd => ?_, fun S' H' s i d hd x H2 hy => ?_⟩
  · rw [List.length_reverse, hl] at hi; exact hi
  · have hi : i < ds.length := by have := (List.getElem?_eq_some_iff.mp hd).1; simpa using this
    rw [List.getElem?_reverse hi, hl] at hd
    obtain ⟨v, hv, _⟩ := r.get hd
    exact ⟨by omega, vs, v, st H' S' s, hv⟩
  · have hi : i < ds.length := by have := (List.getElem?_eq_some_iff.mp hd).1; simpa using this
    rw [List.getElem?_reverse hi, hl] at hd
    obtain ⟨v, hv, rv⟩ := r.get hd
    obtain ⟨rfl, hu⟩ := hy
    have q := hu vs (st H2 S' s)
    rw [hv] at q; cases q
    exact ⟨fun _ _ h => h, s.rep rv⟩
theorem di_revd {tg : Expr} (hg : Gl X "reversed") (hm : X.mg "reversed" = none) (ha : DE X C Γ e Γ1 0 fa) (hs : starEach [e] X.env = (false, eval e X.env) :: starEach [] X.env := by rfl) : DI X C tg Γ (.Call (.Name "reversed" p) [e] [] pos) Γ1 (mSeqD List.reverse fa) :=
  pi_imp (RT.pi_revA hg hm ha hs) fun σ H Q h => by
  obtain ⟨S, ρ, fp, s, h⟩ := h
  refine ⟨S, ρ, fp, s, OutE.thenI h fun d ρ1 v H1 S1 fp1 e1 s1 r1 f1 h1 => ?_⟩
  dsimp only at h1
  cases q : seqD d with
  | none => rw [q] at h1; exact h1.elim
  | some bx =>
    obtain ⟨b, xs⟩ := bx
    rw [q] at h1
    obtain ⟨a, vs, rfl, r, hl, ht⟩ := seq_stay r1 q
    refine ⟨a, vs, rfl, ?_⟩
    cases b with
    | true => exact .inl ⟨hl rfl H1 S1 Stay.refl, h1 _ H1 S1 fp1 s1 (it_revL r (hl rfl)) f1⟩
    | false => exact .inr ⟨ht rfl H1 S1 Stay.refl, h1 _ H1 S1 fp1 s1 (it_revT r (ht rfl)) f1⟩
/-- a shared list or tuple -/
theorem di_seq {tg : Expr} (hl : DI X C tg Γ e Γ1 (mItL fa)) : DI X C tg Γ e Γ1 (mItL fa) := hl
def intsDown (lo : Int) (n : Nat) : List D := (List.range n).map fun (i : Nat) => .int (lo - (i : Int))
theorem it_down {K : PySem.W.Frag} {T : Tab} {S : Addr → Prop} {H : Hp} {lo : Int} {n : Nat} : ItOk K T S H (Itc lo (-1) n) (intsDown lo n) := by
  have len : (intsDown lo n).length = n := by simp [intsDown]
  have get : ∀ {i : Nat} {d : D}, (intsDown lo n)[i]? = some d → i < n ∧ d = .int (lo - (i : Int)) := fun {i d} h => by
    have hi : i < n := by have := (List.getElem?_eq_some_iff.mp h).1; rw [len] at this; exact this
    unfold intsDown at h
    rw [List.getElem?_map, List.getElem?_range hi] at h
    cases h
    exact ⟨hi, rfl⟩
  refine ⟨fun S' H' st i hi => by rw [len] at hi; exact hi, fun S' H' st i d hd => (get hd).1, fun S' H' st i d hd x H2 hy => ?_⟩
  obtain ⟨rfl, rfl⟩ := hy
  rw [(get hd).2]
  refine ⟨fun _ _ h => h, ?_⟩
  simp only [Rep]
  congr 1; omega
def asI3 : List D → Option (Int × Int × Int)
  | [.int i, .int j, .int k] => some (i, j, k)
  | _ => none
theorem asI3_of {ds : List D} {q : Int × Int × Int} (h : asI3 ds = some q) : ds = [.int q.1, .int q.2.1, .int q.2.2] := by
  unfold asI3 at h
  split at h
  · cases h; rfl
  · cases h
/-- range(i, j, -1) -/
def mItR3 (fs : Env → R (List D × Env)) : Env → R (List D × Env) := fun ρ => (fs ρ).bind fun (ds, ρ1) => match asI3 ds with
  | some (i, j, k) => if (inLine i && inLine j && decide (k = -1)) = true then .ok (intsDown i (i - j).toNat, ρ1) else .bad
  | none => .bad
theorem di_range3 {tg c : Expr} (hg : Gl X "range") (hm : X.mg "range" = none) (ha : DA X C Γ [a, b, c] Γ1 fs) (hs : starEach [a, b, c] X.env = (false, eval a X.env) :: starEach [b, c] X.env := by rfl) (hpl : (backTo pos (starEach [b, c] X.env)).any (·.1) = false := by rfl) :
    DI X C tg Γ (.Call (.Name "range" p) [a, b, c] [] pos) Γ1 (mItR3 fs) := pi_imp (pi_range3 hg hm ha hs hpl) fun σ H Q h => by
  obtain ⟨S, ρ, fp, s, h⟩ := h
  refine ⟨S, ρ, fp, s, OutA.thenI h fun ds ρ1 vs H1 S1 fp1 e1 s1 r1 f1 h1 => ?_⟩
  dsimp only at h1
  cases q : asI3 ds with
  | none => rw [q] at h1; exact h1.elim
  | some j =>
    obtain ⟨i, j, k⟩ := j
    rw [q] at h1
    rw [asI3_of q] at r1
    simp only [Reps, Rep] at r1
    obtain ⟨_, _, rfl, rfl, _, _, rfl, rfl, _, _, rfl, rfl, rfl⟩ := r1
    by_cases hl : (inLine i && inLine j && decide (k = -1)) = true
    · simp only [if_pos hl] at h1
      rw [Bool.and_eq_true, Bool.and_eq_true] at hl
      obtain ⟨⟨hi, hj⟩, hk⟩ := hl
      have ek : k = -1 := of_decide_eq_true hk
      subst ek
      obtain ⟨i1, i2⟩ := inLine_of hi
      obtain ⟨j1, j2⟩ := inLine_of hj
      exact ⟨i, j, -1, _, rfl, RgC.neg i1 i2 j1 j2, h1 _ H1 S1 fp1 s1 it_down f1⟩
    · simp only [if_neg hl] at h1; exact h1.elim
end
end Z
set_option Elab.async false
set_option linter.all false
set_option maxRecDepth 100000
/-! Y3: short words for printed terms; the law's end -/
namespace Z
open PySem PySem.Spec L2
open PyProof.Rows hiding St

/-- a def of the module: its name's value, its binding -/
structure Gf (K : PySem.W.Frag) (mg : Str → Option Value) (x : Str) (f : Addr) (fd : FuncData) (ps : List Str) : Prop where
  mg : mg x = some (.ref f)
  kp : PySem.W.keepIn K (.ref f) = true
  bi : Binds K fd ps []
section
variable {X : Cx} {C : Cz} {P : List Nat} {J : Js} {Γ Γ' Γ1 Γ2 : List Nat} {k kr k1 lv i : Nat} {x y mn : Str} {pos p p2 apos : Pos} {a b e o : Expr} {es : List Expr} {kws : List Keyword} {fa fb : Env → R (D × Env)} {fs fk : Env → R (List D × Env)} {m : List D → R D} {mB : List D → R (D × D)}
  {f cl : Addr} {fd : FuncData} {ps ks : List Str} {E : XK} {ft : Env → R (Bool × Env)} {fst' : Env → R (Fl × Env)} {sts : List Stmt}
theorem de_fn (G : Gf X.K X.mg x f fd ps) (F : FnOk X.prog X.w X.K X.mg X.base (L2N.CX X.prog X.w) lv f fd ps (spF X.K C.T kr m)) (hr : Room lv X.A) (tk : L2N.Takes X C.W) (hg : Gl X x) (ha : DA X C Γ (e :: es) Γ1 fs) (hdb : (x == ("__debug__" : Str)) = false := by decide)
    (he : starEach (e :: es) X.env = (false, eval e X.env) :: starEach es X.env := by rfl) (hpl : (backTo pos (starEach es X.env)).any (·.1) = false := by rfl) : DE X C Γ (.Call (.Name x p) (e :: es) [] pos) Γ1 kr (mCall m fs) := by
  have z := de_call (xd := []) (dvs := []) (ds := []) (p := p) (pos := pos) F hr tk hg G.mg G.kp G.bi .nil (fun S H => by simp [Reps]) ha hdb he hpl
  simpa using z
theorem de_fnB (G : Gf X.K X.mg x f fd ps) (F : FnOk X.prog X.w X.K X.mg X.base (L2N.CX X.prog X.w) lv f fd ps (spB X.K C.T k1 kr mB)) (hr : Room lv X.A) (tk : L2N.Takes X C.W) (hg : Gl X x) (hy : PE X (.Name y p2) (tVar i)) (ha : DA X C Γ es Γ1 fs) (hΓ : Γ1.getD i 0 = k1 := by rfl) (hi : i < Γ1.length := by decide)
    (hdb : (x == ("__debug__" : Str)) = false := by decide) (he : starEach (.Name y p2 :: es) X.env = (false, eval (.Name y p2) X.env) :: starEach es X.env := by rfl) (hpl : (backTo pos (starEach es X.env)).any (·.1) = false := by rfl) :
    DE X C Γ (.Call (.Name x p) (.Name y p2 :: es) [] pos) Γ1 kr (mCallB i mB fs) := de_callBr F hr tk hg G.mg G.kp G.bi hy ha hΓ hi hdb he hpl
/-- f(k = v, ..) -/
theorem de_fnK {ix : List Nat} {n : Nat} (hW : C.W = fun cls d _ H => E cls d H) (G : Gf X.K X.mg x f fd ps) (hb : KBn X.K fd ps 0 ks (fun us ws => us ++ permL ix ws) (fun us ws => us ++ permL ix ws)) (F : FnOk X.prog X.w X.K X.mg X.base (L2N.CX X.prog X.w) lv f fd ps (spF X.K C.T kr m)) (hr : Room lv X.A) (tk : L2N.Takes X C.W) (hg : Gl X x) (hkw : DK X C Γ kws Γ1 fk)
    (hall : (backToKw pos (keywordEach kws X.env)).all (·.1.isSome) = true := by rfl) (hks : (backToKw pos (keywordEach kws X.env)).filterMap (·.1) = ks := by rfl) (hn : ks.length = n := by rfl) (hdb : (x == ("__debug__" : Str)) = false := by decide)
    (hpl : ((backTo pos (starEach [] X.env)).any (·.1) || (backToKw pos (keywordEach kws X.env)).any (·.1.isNone)) = false := by rfl) : DE X C Γ (.Call (.Name x p) [] kws pos) Γ1 kr (mCallK m n ix fk) := by
  subst hn
  exact de_callK hW F hr tk hg G.mg G.kp hb hkw hall hks hdb hpl
/-- a class that is made: C(..) -/
structure Gc (K : PySem.W.Frag) (mg : Str → Option Value) (x : Str) (C f : Addr) : Prop where
  mg : mg x = some (.ref C)
  mkk : Mk K C f
/-- what is bound where arguments lack -/
structure Gd (K : PySem.W.Frag) (fd : FuncData) (ps : List Str) (dvs : List V) : Prop where
  bi : ∃ ds, Vals dvs ds ∧ Binds K fd ps ds
theorem Gd.all {K : PySem.W.Frag} (b : Binds K fd ps []) : Gd K fd ps [] := ⟨[], .nil, b⟩
theorem de_new {c : Nat} {xd : List D} {dvs : List V} (hW : C.W = fun cls d _ H => E cls d H) (M : Gc X.K X.mg x (C.T.cm c) f) (hb : Gd X.K fd ps dvs) (F : FnOk X.prog X.w X.K X.mg X.base (L2N.CX X.prog X.w) lv f fd ps (spB X.K C.T 1 0 mB)) (hr : Room (lv + 1) X.A) (tk : L2N.Takes X C.W) (hg : Gl X x)
    (hxd : ∀ S H, Reps X.K C.T H S xd dvs) (ha : DA X C Γ (e :: es) Γ1 fs) (hdb : (x == ("__debug__" : Str)) = false := by decide) (he : starEach (e :: es) X.env = (false, eval e X.env) :: starEach es X.env := by rfl) (hpl : (backTo pos (starEach es X.env)).any (·.1) = false := by rfl) :
    DE X C Γ (.Call (.Name x p) (e :: es) [] pos) Γ1 1 (mMake c (fun xs => mB (xs ++ xd)) fs) := by
  obtain ⟨ds, hd, hb⟩ := hb.bi
  exact de_make hW M.mkk F hr tk hg M.mg hb hd hxd ha hdb he hpl
theorem de_newK {c : Nat} {ix : List Nat} {n : Nat} (hW : C.W = fun cls d _ H => E cls d H) (M : Gc X.K X.mg x (C.T.cm c) f) (hb : KBn X.K fd ps 1 ks (fun us ws => us ++ permL ix ws) (fun us ws => us ++ permL ix ws)) (F : FnOk X.prog X.w X.K X.mg X.base (L2N.CX X.prog X.w) lv f fd ps (spB X.K C.T 1 0 mB)) (hr : Room (lv + 1) X.A) (tk : L2N.Takes X C.W)
    (hg : Gl X x) (hkw : DK X C Γ kws Γ1 fk) (hall : (backToKw pos (keywordEach kws X.env)).all (·.1.isSome) = true := by rfl) (hks : (backToKw pos (keywordEach kws X.env)).filterMap (·.1) = ks := by rfl) (hn : ks.length = n := by rfl) (hdb : (x == ("__debug__" : Str)) = false := by decide)
    (hpl : ((backTo pos (starEach [] X.env)).any (·.1) || (backToKw pos (keywordEach kws X.env)).any (·.1.isNone)) = false := by rfl) : DE X C Γ (.Call (.Name x p) [] kws pos) Γ1 1 (mMakeK c mB n ix fk) := by
  subst hn
  exact de_makeK hW M.mkk F hr tk hg M.mg hb hkw hall hks hdb hpl
theorem reps_nil {K : PySem.W.Frag} {T : Tab} : ∀ S H, Reps K T H S [] [] := fun S H => by simp [Reps]
theorem reps_one {K : PySem.W.Frag} {T : Tab} {n : Int} : ∀ S H, Reps K T H S [.int n] [.int n] := fun S H => by simp [Reps, Rep]
/-- ahead of a block i's objects become shared -/
theorem dss_frz (i : Nat) {Γ0 : List Nat} (h : DSs X C P J Γ0 sts fst') (e : Γ0 = Γ.set i 0 := by rfl) : DSs X C P J Γ sts fst' := pss_imp h fun E σ H h => by
  obtain ⟨S, ρ, fp, s, h⟩ := h
  exact ⟨_, ρ, _, by rw [e]; exact s.give i, OutS.before Kp.refl (Fra.give s.sep i) h⟩
/-- try .. where nothing is raised -/
def mTry (f : Env → R (Fl × Env)) : Env → R (Fl × Env) := fun ρ => noEr (f ρ)
theorem ds_try {h0 : ExceptHandler} {hs : List ExceptHandler} (hb : DSs X.nox C.in P J Γ sts fst') : DS X C P J Γ (.Try sts (h0 :: hs) [] [] pos) (mTry fst') := ps_imp (ps_try_thru0 hb) fun E σ H h => by
  obtain ⟨S, ρ, fp, s, h⟩ := h
  refine ⟨S, ρ, fp, s, ?_⟩
  unfold mTry at h
  revert h
  generalize fst' ρ = r
  intro h
  match r, h with
  | .ok (.nx, ρ'), h => exact h
  | .ok (.bk, ρ'), h => exact h
  | .ok (.ct, ρ'), h => exact h
  | .ok (.rt d, ρ'), h => exact h
  | .er c fs, h => exact h.elim
  | .bad, h => exact h.elim
end
/-- at a return what i owns is shared -/
theorem ds_wkR {X : Cx} {C : Cz} {P : List Nat} {J : Js} {Γ : List Nat} {st : Stmt} {f : Env → R (Fl × Env)} (i : Nat) (Γn : List Nat) (h : DS X C P { J with rt := Γn } Γ st f) (e : J.rt = Γn.set i 0 := by rfl) : DS X C P J Γ st f := ps_imp h fun E σ H h => by
  obtain ⟨S, ρ, fp, s, h⟩ := h
  refine ⟨S, ρ, fp, s, ?_⟩
  revert h
  generalize f ρ = r
  intro h
  match r, h with
  | .ok (.nx, ρ'), h => exact h
  | .ok (.bk, ρ'), h => exact h
  | .ok (.ct, ρ'), h => exact h
  | .ok (.rt d, ρ'), h =>
    intro v σ' H' S' fp' Fv s' x' k f'
    refine h v σ' H' (fun a => S' a ∨ a ∈ fp' i) (fpSet fp' i []) Fv (by rw [e]; exact s'.give i) ⟨x'.own.stay (Stay.more fun a h => .inl h) fun a _ o h => h, x'.nd, fun a m z => z.elim (x'.ns a m) (x'.dj a m i), fun a m j z => ?_⟩ k ⟨f'.kp, fun b z => .inl (f'.sm b z), fun b z => z.elim (f'.so b) fun z => .inr (f'.oo b (.inl ⟨i, z⟩)), fun b z => ?_⟩
    · rcases mem_fpSet z with ⟨_, z⟩ | ⟨_, z⟩
      · cases z
      · exact x'.dj a m j z
    · rcases z with ⟨j, z⟩ | z
      · rcases mem_fpSet z with ⟨_, z⟩ | ⟨_, z⟩
        · cases z
        · exact f'.oo b (.inl ⟨j, z⟩)
      · exact f'.oo b (.inr z)
  | .er c fs, h => exact h
  | .bad, h => exact h
theorem fn_bad {P : Program} {w : World} {K : PySem.W.Frag} {T : Tab} {mg : Str → Option Value} {base : Heap} {lv kr : Nat} {f : Addr} {fd : FuncData} {ps : List Str} : FnOk P w K mg base (L2N.CX P w) lv f fd ps (spF K T kr fun _ => .bad) :=
  ⟨fun _ _ _ _ h => by obtain ⟨_, _, _, _, h⟩ := h; exact h.elim, fun _ _ _ _ _ _ _ _ _ _ _ _ _ h => by obtain ⟨_, _, _, _, h⟩ := h; exact h.elim⟩
theorem fn_badB {P : Program} {w : World} {K : PySem.W.Frag} {T : Tab} {mg : Str → Option Value} {base : Heap} {lv kr k1 : Nat} {f : Addr} {fd : FuncData} {ps : List Str} : FnOk P w K mg base (L2N.CX P w) lv f fd ps (spB K T k1 kr fun _ => .bad) :=
  ⟨fun _ _ _ _ h => by obtain ⟨_, _, _, _, _, _, _, _, _, _, _, _, h⟩ := h; exact h.elim, fun _ _ _ _ _ _ _ _ _ _ _ _ _ h => by obtain ⟨_, _, _, _, _, _, _, _, _, _, _, _, h⟩ := h; exact h.elim⟩
theorem de_globE {X : Cx} {C : Cz} {Γ : List Nat} {x : Str} {pos : Pos} {v : V} {d : D} (h : ∃ u, X.mg x = some u ∧ RelV v u) (hg : Gl X x) (rd : ∀ S H, Rep X.K C.T H S d v) (hd : (x == ("__debug__" : Str)) = false := by decide) : DE X C Γ (.Name x pos) Γ 0 (mCon d) := by
  obtain ⟨u, h1, h2⟩ := h
  exact de_glob hg h1 h2 rd hd
section
variable {K : PySem.W.Frag} {x qual : Str} {st : Stmt} {f : Addr} {oc : Value} {od an : Option Addr} {osl : Array (Option Value)} {kV doc pm cdv ct : Value}
theorem funD_mk (l : K.lookup f = some ⟨oc, od, .func (PySem.W.fnOf x qual (defArgs st) (defBody st) (defScope st) .none kV doc pm an cdv ct), osl⟩) (c : PySem.W.codeIn K cdv qual = true) (k : PySem.W.keepIn K (.ref f) = true) :
    FunD K x qual (defArgs st) (defBody st) (defScope st) [] [] f (PySem.W.fnOf x qual (defArgs st) (defBody st) (defScope st) .none kV doc pm an cdv ct) := ⟨⟨oc, od, .none, kV, doc, pm, an, cdv, ct, osl, rfl, l, c, .inl ⟨rfl, rfl⟩, .inl rfl⟩, k⟩
/-- one default, an int -/
theorem funD_mk1 {T : Addr} {j : Int} {tj : Tok} {n : Nat} {tc : Value} {td : Option Addr} {tsl : Array (Option Value)} (l : K.lookup f = some ⟨oc, od, .func (PySem.W.fnOf x qual (defArgs st) (defBody st) (defScope st) (.ref T) kV doc pm an cdv ct), osl⟩) (c : PySem.W.codeIn K cdv qual = true) (k : PySem.W.keepIn K (.ref f) = true)
    (lT : K.lookup T = some ⟨tc, td, .seq #[.int j tj] n, tsl⟩) :
    FunD K x qual (defArgs st) (defBody st) (defScope st) [.int j] [] f (PySem.W.fnOf x qual (defArgs st) (defBody st) (defScope st) (.ref T) kV doc pm an cdv ct) :=
  ⟨⟨oc, od, .ref T, kV, doc, pm, an, cdv, ct, osl, rfl, l, c, .inr ⟨by simp, T, _, [.int j tj], n, rfl, lT, rfl, .cons ⟨tj, rfl⟩ .nil⟩, .inl rfl⟩, k⟩
end
section
variable {X : Cx} {C : Cz} {P : List Nat} {J : Js} {Γ Γ1 : List Nat} {k i j : Nat} {x y : Str} {pos p px py pt pt2 : Pos} {a b e : Expr} {kt k2 : Nat} {fa : Env → R (D × Env)} {fs : Env → R (List D × Env)}
/-- x = e -/
theorem ds_nm (hN : X.N.Nodup) (hi : X.N[i]? = some x) (hx : Loc X.env.scope x) (ha : DE X C Γ e Γ1 k fa) (hil : i < Γ1.length := by decide) (hp : i ∉ P := by decide) (h1 : J.nx = Γ1.set i k := by rfl) (hs : swapsWith e (some (.Name x p)) pos.line X.env = pure false := by rfl)
    (hf : X.fn x = true ∨ X.env.scope.names.lookup x = some .local := by first | exact .inl rfl | exact .inr rfl | assumption) : DS X C P J Γ (.Assign [.Name x p] e pos) (mSet i fa) := ds_set (ps_set hN hi hx ha hs hf) (fun _ _ _ h => h) hil hp h1
theorem ds_nm2 (hc : X.calm = true) (hN : X.N.Nodup) (hi : X.N[i]? = some x) (hj : X.N[j]? = some y) (hij : i ≠ j) (hx : X.env.scope.names.lookup x = some .local) (hy : X.env.scope.names.lookup y = some .local) (ha : DA X C Γ [a, b] Γ1 fs)
    (hw : swappedStores [.Tuple [.Name x px, .Name y py] kt pt] (.Tuple [a, b] k2 pt2) X.env = pure (some [x, y])) (hil : i < Γ1.length := by decide) (hjl : j < Γ1.length := by decide) (hp : i ∉ P := by decide) (hq : j ∉ P := by decide) (h1 : J.nx = (Γ1.set i 0).set j 0 := by rfl)
    (hs : swapsWithSole [.Tuple [.Name x px, .Name y py] kt pt] (.Tuple [a, b] k2 pt2) pos.line X.env = pure false := by rfl) :
    DS X C P J Γ (.Assign [.Tuple [.Name x px, .Name y py] kt pt] (.Tuple [a, b] k2 pt2) pos) (mPar i j fs) := ds_par (ps_par hc hN hi hj hij hx hy ha hw hs) hil hjl hp hq h1
end
/-- the script at the law's door -/
theorem law_start {K : PySem.W.Frag} {T : Tab} {H : Hp} {a : Addr} {ns : List Int} {m : List D → R D} (hO : Only H) (hS : SqL K H a (ns.map V.int)) (h : m [.kls (ns.map D.int)] = .ok (.bl true)) : spF K T 0 m [.ref a] H (fun v _ => v = .bl true) fun _ _ _ => False := by
  have reps : ∀ ns : List Int, Reps K T H (fun _ => False) (ns.map D.int) (ns.map V.int) := by
    intro ns
    induction ns with
    | nil => simp [Reps]
    | cons n r ih =>
      simp only [List.map_cons, Reps]
      exact ⟨_, _, rfl, by simp [Rep], ih⟩
  refine ⟨fun _ => False, [.kls (ns.map D.int)], ?_, fun _ z => z.elim, ?_⟩
  · simp only [Reps, Rep]
    refine ⟨.ref a, [], rfl, ⟨a, ns.map V.int, rfl, ?_, reps ns⟩, rfl⟩
    rcases hS with (h | ⟨o, h⟩) | h
    · rcases hO a with z | ⟨o, xs, z⟩
      · rw [h] at z; cases z
      · rw [h] at z; cases z
    · exact .inl ⟨o, h⟩
    · exact .inr h
  · rw [h]
    intro v H' S' Fv o _ _ _ _
    exact rep_bl (own_zero.mp o).2
end Z
set_option Elab.async false
set_option linter.all false
set_option maxRecDepth 100000
/-! Y4: the law's end: from facts of the written part to contracts -/
namespace Z
open PySem PySem.Spec L2
open PyProof.Rows hiding St

def spLaw (K : PySem.W.Frag) : Sp := fun vs H Q _ => ∃ (a : Addr) (ns : List Int), vs = [.ref a] ∧ SqL K H a (ns.map V.int) ∧ ns.length ≤ 63 ∧ Only H ∧ ∀ H', Q (.bl true) H'
theorem law_imp {K : PySem.W.Frag} {T : Tab} {m : List D → R D} (hm : ∀ ns : List Int, ns.length ≤ 63 → m [.kls (ns.map D.int)] = .ok (.bl true)) : ∀ vs H Q E, spLaw K vs H Q E → spF K T 0 m vs H Q E := by
  rintro vs H Q E ⟨a, ns, rfl, hS, hl, hO, q⟩
  have z := law_start (T := T) (m := m) hO hS (hm ns hl)
  obtain ⟨S, ds, r, al, h⟩ := z
  have reps : ∀ ns : List Int, Reps K T H (fun _ => False) (ns.map D.int) (ns.map V.int) := by
    intro ns
    induction ns with
    | nil => simp [Reps]
    | cons n r ih =>
      simp only [List.map_cons, Reps]
      exact ⟨_, _, rfl, by simp [Rep], ih⟩
  refine ⟨fun _ => False, [.kls (ns.map D.int)], ?_, fun _ z => z.elim, ?_⟩
  · simp only [Reps, Rep]
    refine ⟨.ref a, [], rfl, ⟨a, ns.map V.int, rfl, ?_, reps ns⟩, rfl⟩
    rcases hS with (h | ⟨o, h⟩) | h
    · rcases hO a with z | ⟨o, xs, z⟩
      · rw [h] at z; cases z
      · rw [h] at z; cases z
    · exact .inl ⟨o, h⟩
    · exact .inr h
  · rw [hm ns hl]
    intro v H' S' Fv o _ _ _ _
    rw [rep_bl (own_zero.mp o).2]
    exact q H'
theorem walk {l : PySem.W.OpenLaw} {q : Program} {loose : List Str} {XP : (Str → Option Value) → Heap → Prop} {YP : World → Heap → Prop} {d : DefRec} {K : Params → PySem.W.Frag} {k : Nat} (hn : l.most = some 63) (hdf : d.params.defaults = []) (hk : Room k callerA)
    (hY : ∀ (w : World) (h : Heap), YP w h → (K w.params).In h)
    (F : ∀ (w : World) (mg : Str → Option Value) (fa : Addr) (h : Heap), (K w.params).In h → h.Ns mainGlobals mg → mg d.name = some (.ref fa) →
      ∃ fd : FuncData, (∀ (s : Shared) (u : Value), BindsTo s fd ⟨[u], []⟩ [("script", u)]) ∧ ∀ base : Heap, (K w.params).In base → base.Ns mainGlobals mg → FnOk l.prog w (K w.params) mg base (L2N.CX l.prog w) k fa fd ["script"] (spLaw (K w.params))) :
    PySem.W.WalkO q loose XP YP l.row.toRowW d [] (fun f vs => PySem.call f vs) :=
  L2.walk_of (n := 63) (k := k) (x := "script") (CX := fun w => L2N.CX l.prog w) (sp := fun w => spLaw (K w.params)) hn (by decide) hdf hk hY F (fun _ _ a ns hl hO hS => ⟨a, ns, rfl, hS, hl, hO, fun _ => rfl⟩) fun _ _ _ _ _ ⟨_, _, _, _, _, _, _, _, _, _, _, _, z⟩ => z

section
variable {K : PySem.W.Frag}
theorem kit_bo {C : Addr} {n : String} (h1 : PySem.W.isClsIn K C = true) (h2 : PySem.W.typeIn K (.ref C) = some (.type "type")) (h3 : PySem.W.subIn K (.type n) (.ref C) = some false) : PySem.W.kitOne K (.type n) (.ref C) = some false := by
  unfold PySem.W.kitOne
  rw [if_neg (show ¬ ((Value.type n == Value.ref C) = true) from Bool.false_ne_true)]
  unfold PySem.W.kitCls
  dsimp only
  rw [if_pos (by rw [h2, show (PySem.W.clsIn K C).isSome = true from h1]; rfl)]
  exact h3
theorem kit_ob {C : Addr} {n : String} (hm : PySem.W.kitMeta n = true) (h3 : PySem.W.subIn K (.ref C) (.type n) = some false) : PySem.W.kitOne K (.ref C) (.type n) = some false := by
  unfold PySem.W.kitOne
  rw [if_neg (show ¬ ((Value.ref C == Value.type n) = true) from Bool.false_ne_true)]
  unfold PySem.W.kitCls
  dsimp only
  rw [if_pos hm]
  exact h3
theorem kit_oo {C C' : Addr} (hn : (C == C') = false) (h1 : PySem.W.isClsIn K C' = true) (h2 : PySem.W.typeIn K (.ref C') = some (.type "type")) (h3 : PySem.W.subIn K (.ref C) (.ref C') = some false) : PySem.W.kitOne K (.ref C) (.ref C') = some false := by
  unfold PySem.W.kitOne
  rw [if_neg (show ¬ ((Value.ref C == Value.ref C') = true) from fun z => by
    have e : Value.ref C = Value.ref C' := beq_iff_eq.mp z
    cases e
    rw [beq_self_eq_true] at hn; cases hn)]
  unfold PySem.W.kitCls
  dsimp only
  rw [if_pos (by rw [h2, show (PySem.W.clsIn K C').isSome = true from h1]; rfl)]
  exact h3
theorem kit_self {C : Addr} : PySem.W.kitOne K (.ref C) (.ref C) = some true := by
  unfold PySem.W.kitOne
  rw [if_pos (show (Value.ref C == Value.ref C) = true from beq_self_eq_true _)]
/-- a class's own facts about types -/
structure ClF (K : PySem.W.Frag) (C : Addr) : Prop where
  isc : PySem.W.isClsIn K C = true
  ty : PySem.W.typeIn K (.ref C) = some (.type "type")
  cl : PySem.W.findIn K (.ref C) "__class__" = some (some (.builtin "object.__class__"))
  mo : PySem.W.mroIn K C (.type "object") = some true
  b1 : PySem.W.subIn K (.type "NoneType") (.ref C) = some false
  b2 : PySem.W.subIn K (.type "bool") (.ref C) = some false
  b3 : PySem.W.subIn K (.type "int") (.ref C) = some false
  b4 : PySem.W.subIn K (.type "str") (.ref C) = some false
  b5 : PySem.W.subIn K (.type "list") (.ref C) = some false
  b6 : PySem.W.subIn K (.type "tuple") (.ref C) = some false
  o1 : PySem.W.subIn K (.ref C) (.type "int") = some false
  o2 : PySem.W.subIn K (.ref C) (.type "bool") = some false
  o3 : PySem.W.subIn K (.ref C) (.type "list") = some false
  o4 : PySem.W.subIn K (.ref C) (.type "tuple") = some false
  o5 : PySem.W.subIn K (.ref C) (.type "str") = some false
theorem tyOk_mk {T : Tab} {cs : List Nat} (hn : PySem.W.specialIn K (.builtin "object.__class__") "__get__" = some (some (.builtin "getset_descriptor.__get__"))) (tk : PySem.W.takesIn K (.builtin "object.__class__") = some true)
    (cl : ∀ c ∈ cs, Cls K (T.cm c) ∧ ClF K (T.cm c)) (oo : ∀ c ∈ cs, ∀ c' ∈ cs, (c == c') = false → (T.cm c == T.cm c') = false ∧ PySem.W.subIn K (.ref (T.cm c)) (.ref (T.cm c')) = some false) : TyOk K T cs := by
  refine ⟨fun c hc => ⟨(cl c hc).1, (cl c hc).2.cl, hn, tk, (cl c hc).2.mo⟩, fun c hc n h => ?_, fun c hc n h => ?_, fun c hc c' hc' => ?_⟩
  · have q := (cl c hc).2
    have z : PySem.W.subIn K (.type n) (.ref (T.cm c)) = some false := by
      simp only [List.mem_cons, List.mem_nil_iff, or_false] at h
      rcases h with rfl | rfl | rfl | rfl | rfl | rfl
      · exact q.b1
      · exact q.b2
      · exact q.b3
      · exact q.b4
      · exact q.b5
      · exact q.b6
    exact kit_bo q.isc q.ty z
  · have q := (cl c hc).2
    simp only [List.mem_cons, List.mem_nil_iff, or_false] at h
    rcases h with rfl | rfl | rfl | rfl | rfl
    · exact kit_ob (by decide +kernel) q.o1
    · exact kit_ob (by decide +kernel) q.o2
    · exact kit_ob (by decide +kernel) q.o3
    · exact kit_ob (by decide +kernel) q.o4
    · exact kit_ob (by decide +kernel) q.o5
  · cases e : c == c' with
    | true =>
      have : c = c' := by simpa using e
      subst this
      exact kit_self
    | false =>
      obtain ⟨h1, h2⟩ := oo c hc c' hc' e
      exact kit_oo h1 (cl c' hc').2.isc (cl c' hc').2.ty h2
theorem fld_mk {T : Tab} {f : Str} {ix : List (Nat × Nat)} (h : ∀ p ∈ ix, Cls K (T.cm p.1) ∧ NoAttr K (T.cm p.1) f ∧ (T.fl p.1)[p.2]? = some f ∧ (T.fl p.1).Nodup) : FldOk K T f ix := by
  refine ⟨fun c j e => ?_⟩
  have m : (c, j) ∈ ix := by
    clear h
    induction ix with
    | nil => cases e
    | cons p r ih =>
      obtain ⟨c', j'⟩ := p
      simp only [List.lookup_cons] at e
      split at e
      · rename_i z
        have : c = c' := by simpa using z
        cases e; subst this; exact List.mem_cons_self
      · exact List.mem_cons_of_mem _ (ih e)
  exact h _ m
theorem kbn_of2 {fd : FuncData} {ps ks : List Str} {n : Nat} {ix : List Nat} (h : ∀ us ws : List Value, us.length = n → ws.length = ks.length → bindArgs fd ⟨us, ks.zip ws⟩ = pure (ps.zip (us ++ permL ix ws))) : KBn K fd ps n ks (fun us ws => us ++ permL ix ws) (fun us ws => us ++ permL ix ws) :=
  ⟨fun s us ws _ l1 l2 => BindsTo.of_eq (h us ws l1 l2), fun r1 r2 => r1.append (vals_perm r2)⟩
theorem const_mk {h : Heap} {mg : Str → Option Value} {x : Str} {u : Value} {v : V} (X : K.In h) (G : h.Ns mainGlobals mg) (e : PySem.W.nsIn K mainGlobals x = some (some u)) (r : RelV v u) : ∃ u, mg x = some u ∧ RelV v u := ⟨u, PySem.W.mg_of X G e, r⟩
end
end Z
set_option Elab.async false
set_option linter.all false
set_option maxRecDepth 100000
/-! W1: plain reasoning about mirrors -/
namespace Z
open PySem PySem.Spec L2
open PyProof.Rows hiding St

theorem bind_ite {α β : Type} {c : Prop} [Decidable c] {a b : R α} {f : α → R β} : (if c then a else b).bind f = if c then a.bind f else b.bind f := by split <;> rfl
/-- a loop by its invariant -/
theorem for_inv {g : D → Env → Option Env} {fb : Env → R (Fl × Env)} (I : Nat → Env → Prop) : ∀ (ds : List D) (k : Nat) (ρ : Env), I k ρ →
    (∀ i d ρ, ds[i]? = some d → I (k + i) ρ → ∃ ρ1 ρ2, g d ρ = some ρ1 ∧ (fb ρ1 = .ok (.nx, ρ2) ∨ fb ρ1 = .ok (.ct, ρ2)) ∧ I (k + i + 1) ρ2) → ∃ ρ', mForL g fb ds ρ = .ok (.nx, ρ') ∧ I (k + ds.length) ρ'
  | [], k, ρ, h0, _ => ⟨ρ, rfl, h0⟩
  | d :: ds, k, ρ, h0, st => by
    obtain ⟨ρ1, ρ2, e1, e2, h1⟩ := st 0 d ρ rfl h0
    obtain ⟨ρ', e3, h3⟩ := for_inv I ds (k + 1) ρ2 h1 fun i d' ρ' hd hi => by
      have e : k + 1 + i = k + (i + 1) := by omega
      rw [e] at hi ⊢
      exact st (i + 1) d' ρ' (by simpa using hd) hi
    refine ⟨ρ', ?_, by have e : k + (d :: ds).length = k + 1 + ds.length := by simp; omega
                       rw [e]; exact h3⟩
    rw [mForL, e1]
    rcases e2 with e2 | e2
    · simp only [ofO, R.bind_ok, e2]; exact e3
    · simp only [ofO, R.bind_ok, e2]; exact e3
/-- a comprehension by its invariant -/
theorem comp_inv {vs : List Nat} {g : D → Env → Option Env} {ft : Env → R (Bool × Env)} {fe : Env → R (D × Env)} (I : Nat → List D → Env → Prop) : ∀ (ds : List D) (k : Nat) (acc : List D) (ρ : Env), I k acc ρ →
    (∀ i d acc ρ, ds[i]? = some d → I (k + i) acc ρ → ∃ ρ1 b ρ2, g d ρ = some ρ1 ∧ ft ρ1 = .ok (b, ρ2) ∧ ((b = true ∧ ∃ y ρ3, fe ρ2 = .ok (y, ρ3) ∧ I (k + i + 1) (acc ++ [y]) (wipeE ρ3 vs)) ∨ (b = false ∧ I (k + i + 1) acc (wipeE ρ2 vs)))) →
    ∃ ys ρ', mCompL vs g ft fe ds ρ = .ok (ys, ρ') ∧ I (k + ds.length) (acc ++ ys) ρ'
  | [], k, acc, ρ, h0, _ => ⟨[], ρ, rfl, by simpa using h0⟩
  | d :: ds, k, acc, ρ, h0, st => by
    obtain ⟨ρ1, b, ρ2, e1, e2, h1⟩ := st 0 d acc ρ rfl h0
    have next : ∀ acc' ρ3, I (k + 1) acc' ρ3 → ∃ ys ρ', mCompL vs g ft fe ds ρ3 = .ok (ys, ρ') ∧ I (k + 1 + ds.length) (acc' ++ ys) ρ' := fun acc' ρ3 h => comp_inv I ds (k + 1) acc' ρ3 h fun i d' a' ρ' hd hi => by
      have e : k + 1 + i = k + (i + 1) := by omega
      rw [e] at hi ⊢
      exact st (i + 1) d' a' ρ' (by simpa using hd) hi
    have el : k + (d :: ds).length = k + 1 + ds.length := by simp; omega
    rw [el]
    rcases h1 with ⟨rfl, y, ρ3, e3, h3⟩ | ⟨rfl, h3⟩
    · obtain ⟨ys, ρ', e4, h4⟩ := next _ _ h3
      refine ⟨y :: ys, ρ', ?_, by simpa using h4⟩
      unfold mCompL
      simp only [e1, e2, e3, e4, ofO, noEr, R.bind_ok, if_true]
    · obtain ⟨ys, ρ', e4, h4⟩ := next _ _ h3
      refine ⟨ys, ρ', ?_, h4⟩
      unfold mCompL
      simp only [e1, e2, e4, ofO, noEr, R.bind_ok, Bool.false_eq_true, if_false]
/-- a comprehension that changes nothing -/
theorem comp_map {vs : List Nat} {g : D → Env → Option Env} {fe : Env → R (D × Env)} {ρ : Env} {h : D → D} : ∀ (ds : List D), (∀ d ∈ ds, ∃ ρ1 ρ2, g d ρ = some ρ1 ∧ fe ρ1 = .ok (h d, ρ2) ∧ wipeE ρ2 vs = ρ) → mCompL vs g mYes fe ds ρ = .ok (ds.map h, ρ)
  | [], _ => rfl
  | d :: ds, st => by
    obtain ⟨ρ1, ρ2, e1, e2, e3⟩ := st d List.mem_cons_self
    have e4 := comp_map ds fun d' m => st d' (List.mem_cons_of_mem _ m)
    unfold mCompL
    simp only [e1, e2, e3, e4, ofO, noEr, mYes, R.bind_ok, if_true, List.map_cons]
theorem gII_eq {c : Int → Int → Bool} {f : Int → Int → Int} {i j : Int} (h : c i j = true) : gII c f (.int i) (.int j) = some (.int (f i j)) := if_pos h
theorem cMul_r {i j : Int} (h : j.natAbs < 18446744073709551616) : cMul i j = true := by
  have : small64 j = true := decide_eq_true h
  unfold cMul; rw [this, Bool.or_true, Bool.true_or]
theorem cMul_l {i j : Int} (h : i.natAbs < 18446744073709551616) : cMul i j = true := by
  have : small64 i = true := decide_eq_true h
  unfold cMul; rw [this, Bool.true_or, Bool.true_or]
theorem cDiv_r {i j : Int} (h0 : 0 < j) (h : j < 1073741824) : cDiv i j = true := by
  unfold cDiv
  rw [decide_eq_true (show j ≠ 0 by omega), decide_eq_true (show j.natAbs < 1073741824 by omega)]; rfl
theorem cDiv_p {i j : Int} (h0 : 0 < j) (h : j < 1180591620717411303424) : cDiv i j = true := by
  have l : j.natAbs.log2 < 9000 := by
    have e : (2 : Nat) ^ 70 = 1180591620717411303424 := by decide
    have := PySem.Flt.log2_lt_of (n := j.natAbs) (k := 70) (by decide) (by omega)
    omega
  unfold cDiv small5k
  rw [decide_eq_true (show j ≠ 0 by omega), decide_eq_true h0, decide_eq_true l, Bool.true_and, Bool.true_and, Bool.or_true]
theorem cNz_r {i j : Int} (h0 : j ≠ 0) : cNz i j = true := decide_eq_true h0
theorem cLcm_of {i j : Int} (h : i.natAbs < 18446744073709551616) (h' : j.natAbs < 18446744073709551616) : cLcm i j = true := by
  unfold cLcm small64
  rw [decide_eq_true h, decide_eq_true h']; rfl
theorem inLine_ok {i : Int} (h : -4611686018427387904 ≤ i) (h' : i < 4611686018427387904) : inLine i = true := by
  unfold inLine
  have e : (2 : Int) ^ 62 = 4611686018427387904 := by decide
  rw [e, decide_eq_true h, decide_eq_true h']; rfl
theorem fdiv_pos (a : Int) {b : Int} (h : 0 < b) : a.fdiv b = a / b := Int.fdiv_eq_ediv_of_nonneg a (Int.le_of_lt h)
theorem atI_nat {α : Type} {xs : List α} {i : Nat} {a : α} (h : xs[i]? = some a) : atI xs (i : Int) = some a := by
  have hl := (List.getElem?_eq_some_iff.mp h).1
  unfold atI ixN
  rw [if_pos (Int.natCast_nonneg i), if_pos (by omega)]
  simpa using h
theorem atI_of {α : Type} {xs : List α} {i : Int} {a : α} (h0 : 0 ≤ i) (h : xs[i.toNat]? = some a) : atI xs i = some a := by
  obtain ⟨n, rfl⟩ := Int.eq_ofNat_of_zero_le h0
  exact atI_nat (by simpa using h)
theorem atI_last {α : Type} {xs : List α} {a : α} (h : xs.getLast? = some a) : atI xs (-1) = some a := by
  rw [List.getLast?_eq_getElem?] at h
  have hl := (List.getElem?_eq_some_iff.mp h).1
  unfold atI ixN
  rw [if_neg (by decide), if_pos (by omega)]
  simp only [Option.bind_some]
  rw [show (-1 + (xs.length : Int)).toNat = xs.length - 1 by omega]
  exact h
/-! numbers -/
theorem gcdI_comm (a b : Int) : gcdI a b = gcdI b a := by rw [gcdI_def, gcdI_def, Nat.gcd_comm]
theorem gcdI_nn (a b : Int) : 0 ≤ gcdI a b := by rw [gcdI_def]; exact Int.natCast_nonneg _
theorem gcdI_pos {a b : Int} (h : 0 < b) : 0 < gcdI a b := by
  rw [gcdI_def]
  have := Nat.gcd_pos_of_pos_right a.natAbs (show 0 < b.natAbs by omega)
  omega
theorem gcdI_le {a b : Int} (h : 0 < b) : gcdI a b ≤ b := by
  rw [gcdI_def]
  have := Nat.gcd_le_right a.natAbs (show 0 < b.natAbs by omega)
  omega
theorem gcd_zero (a : Int) (ha : 0 ≤ a) : gcdI a 0 = a := by
  rw [gcdI_def]
  simp
  omega
theorem gcd_step (a b : Int) (ha : 0 ≤ a) (hb : 0 < b) : gcdI a b = gcdI b (a.fmod b) := by
  rw [gcdI_def, gcdI_def]
  obtain ⟨x, rfl⟩ := Int.eq_ofNat_of_zero_le ha
  obtain ⟨y, rfl⟩ := Int.eq_ofNat_of_zero_le (Int.le_of_lt hb)
  rw [Int.fmod_eq_emod_of_nonneg _ (by omega)]
  simp only [Int.natAbs_natCast, ← Int.natCast_emod]
  rw [Nat.gcd_comm x y, Nat.gcd_rec y x, Nat.gcd_comm (x % y) y]
theorem lcmI_eq {a b : Int} (ha : 0 < a) (hb : 0 < b) : a * (b / gcdI a b) = lcmI a b := by
  obtain ⟨x, rfl⟩ := Int.eq_ofNat_of_zero_le (Int.le_of_lt ha)
  obtain ⟨y, rfl⟩ := Int.eq_ofNat_of_zero_le (Int.le_of_lt hb)
  rw [gcdI_def, lcmI_def]
  unfold Nat.lcm
  simp only [Int.natAbs_natCast]
  rw [← Int.natCast_ediv, ← Int.natCast_mul, Nat.mul_div_assoc _ (Nat.gcd_dvd_right x y)]
theorem lcmI_le {a b : Int} (ha : 0 < a) (hb : 0 < b) : 0 < lcmI a b ∧ lcmI a b ≤ a * b := by
  obtain ⟨x, rfl⟩ := Int.eq_ofNat_of_zero_le (Int.le_of_lt ha)
  obtain ⟨y, rfl⟩ := Int.eq_ofNat_of_zero_le (Int.le_of_lt hb)
  rw [lcmI_def]
  simp only [Int.natAbs_natCast]
  have h1 : 0 < Nat.lcm x y := Nat.lcm_pos (by omega) (by omega)
  have h2 : Nat.lcm x y ≤ x * y := by unfold Nat.lcm; exact Nat.div_le_self _ _
  constructor
  · omega
  · rw [← Int.natCast_mul]; omega
theorem dvd_lcmI_l (a b : Int) : a ∣ lcmI a b := by
  rw [lcmI_def]
  exact Int.ofNat_dvd_right.mpr (Nat.dvd_lcm_left _ _)
theorem dvd_lcmI_r (a b : Int) : b ∣ lcmI a b := by
  rw [lcmI_def]
  exact Int.ofNat_dvd_right.mpr (Nat.dvd_lcm_right _ _)
/-- Frac's lowest terms: num / g, den / g -/
theorem gcdI_dvd_l (a b : Int) : gcdI a b ∣ a := by
  rw [gcdI_def]
  exact Int.ofNat_dvd_left.mpr (Nat.gcd_dvd_left _ _)
theorem gcdI_dvd_r (a b : Int) : gcdI a b ∣ b := by
  rw [gcdI_def]
  exact Int.ofNat_dvd_left.mpr (Nat.gcd_dvd_right _ _)
theorem gcdI_lowest {a b : Int} (hb : 0 < b) : gcdI (a / gcdI a b) (b / gcdI a b) = 1 := by
  have hp := gcdI_pos (a := a) hb
  have h1 := gcdI_dvd_l a b
  have h2 := gcdI_dvd_r a b
  rw [gcdI_def] at hp h1 h2
  rw [gcdI_def (a / gcdI a b), gcdI_def a b]
  have hg : 0 < a.natAbs.gcd b.natAbs := by omega
  have e1 : (a / ((a.natAbs.gcd b.natAbs : Nat) : Int)).natAbs = a.natAbs / a.natAbs.gcd b.natAbs := by
    rw [Int.natAbs_ediv_of_dvd h1, Int.natAbs_natCast]
  have e2 : (b / ((a.natAbs.gcd b.natAbs : Nat) : Int)).natAbs = b.natAbs / a.natAbs.gcd b.natAbs := by
    rw [Int.natAbs_ediv_of_dvd h2, Int.natAbs_natCast]
  rw [e1, e2, Nat.gcd_div (Nat.gcd_dvd_left _ _) (Nat.gcd_dvd_right _ _), Nat.div_self hg]
  rfl
end Z
namespace Z
open PySem PySem.Spec L2
theorem mItR1_ok {fs : Env → R (List D × Env)} {ρ ρ1 : Env} {j : Int} (h : fs ρ = .ok ([.int j], ρ1)) (hj : inLine j = true) : mItR1 fs ρ = .ok (intsFrom 0 j.toNat, ρ1) := by
  unfold mItR1
  rw [h]
  exact if_pos hj
theorem mItR2_ok {fs : Env → R (List D × Env)} {ρ ρ1 : Env} {i j : Int} (h : fs ρ = .ok ([.int i, .int j], ρ1)) (hi : inLine i = true) (hj : inLine j = true) : mItR2 fs ρ = .ok (intsFrom i (j - i).toNat, ρ1) := by
  unfold mItR2
  rw [h]
  exact if_pos (by rw [hi, hj]; rfl)
theorem mFor_ok {src : Env → R (List D × Env)} {g : D → Env → Option Env} {fb : Env → R (Fl × Env)} {ρ ρ1 : Env} {ds : List D} (h : src ρ = .ok (ds, ρ1)) : mFor src g fb ρ = mForL g fb ds ρ1 := by
  unfold mFor
  rw [h]; rfl
theorem mComp_ok {vs : List Nat} {src : Env → R (List D × Env)} {g : D → Env → Option Env} {ft : Env → R (Bool × Env)} {fe : Env → R (D × Env)} {ρ ρ1 ρ2 ρ3 : Env} {ds ys : List D} (h : src ρ = .ok (ds, ρ1)) (hl : ds.length ≤ 100000) (h2 : mCompL vs g ft fe ds (wipeE ρ1 vs) = .ok (ys, ρ2)) (h3 : backE ρ1 ρ2 vs = ρ3) :
    mComp vs src g ft fe ρ = .ok (.lst ys, ρ3) := by
  subst h3
  unfold mComp
  rw [h]
  simp only [R.bind_ok, if_pos hl, h2]
/-- a loop over a list, by its invariant -/
theorem for_list {src : Env → R (List D × Env)} {g : D → Env → Option Env} {fb : Env → R (Fl × Env)} {ρ ρ1 : Env} {ds : List D} (I : Nat → Env → Prop) (h : src ρ = .ok (ds, ρ1)) (h0 : I 0 ρ1)
    (st : ∀ i d ρ, ds[i]? = some d → I i ρ → ∃ ρ1 ρ2, g d ρ = some ρ1 ∧ (fb ρ1 = .ok (.nx, ρ2) ∨ fb ρ1 = .ok (.ct, ρ2)) ∧ I (i + 1) ρ2) : ∃ ρ', mFor src g fb ρ = .ok (.nx, ρ') ∧ I ds.length ρ' := by
  rw [mFor_ok h]
  have z := for_inv (g := g) (fb := fb) I ds 0 ρ1 h0 fun i d ρ hd hi => by
    rw [Nat.zero_add] at hi ⊢
    exact st i d ρ hd hi
  rwa [Nat.zero_add] at z
theorem intsFrom_at {lo : Int} {n i : Nat} {d : D} (h : (intsFrom lo n)[i]? = some d) : i < n ∧ d = .int (lo + (i : Int)) := intsFrom_get h
theorem foldl_take {α β : Type} {f : β → α → β} {xs : List α} {b : β} {i : Nat} {a : α} (h : xs[i]? = some a) : (xs.take (i + 1)).foldl f b = f ((xs.take i).foldl f b) a := by
  rw [List.take_add_one, h]
  simp
theorem lcm_bound : ∀ (ds : List Int) (acc : Int), 0 < acc → (∀ d ∈ ds, 1 ≤ d ∧ d ≤ 99) → 0 < ds.foldl lcmI acc ∧ ds.foldl lcmI acc ≤ acc * 99 ^ ds.length
  | [], acc, h, _ => by simp [h]
  | d :: ds, acc, h, hd => by
    obtain ⟨h1, h2⟩ := hd d List.mem_cons_self
    obtain ⟨p, q⟩ := lcmI_le h (show 0 < d by omega)
    obtain ⟨a, b⟩ := lcm_bound ds (lcmI acc d) p fun x hx => hd x (List.mem_cons_of_mem _ hx)
    refine ⟨a, Int.le_trans b ?_⟩
    have e : acc * 99 ^ (d :: ds).length = acc * 99 * 99 ^ ds.length := by
      rw [List.length_cons, Int.pow_succ, Int.mul_comm (99 ^ ds.length) 99, Int.mul_assoc]
    rw [e]
    refine Int.mul_le_mul_of_nonneg_right (Int.le_trans q (Int.mul_le_mul_of_nonneg_left h2 (Int.le_of_lt h))) ?_
    exact Int.le_of_lt (Int.pow_pos (by decide))
theorem pow99 {n : Nat} (h : n ≤ 6) : (99 : Int) ^ n ≤ 941480149401 := by
  match n, h with
  | 0, _ => decide
  | 1, _ => decide
  | 2, _ => decide
  | 3, _ => decide
  | 4, _ => decide
  | 5, _ => decide
  | 6, _ => decide
end Z
namespace Z
open PySem PySem.Spec L2
theorem gI0_e {f : Int → Int → Int} {i j : Int} : gI0 f (.int i) (.int j) = some (.int (f i j)) := rfl
theorem gIB_e {f : Int → Int → Bool} {i j : Int} : gIB f (.int i) (.int j) = some (.bl (f i j)) := rfl
theorem gII_e {c : Int → Int → Bool} {f : Int → Int → Int} {i j : Int} : gII c f (.int i) (.int j) = if c i j = true then some (.int (f i j)) else none := rfl
theorem gU_e {f : Int → Int} {i : Int} : gU f (.int i) = some (.int (f i)) := rfl
theorem gInt_i {i : Int} : gIntO (.int i) = some (.int i) := rfl
theorem gInt_b {b : Bool} : gIntO (.bl b) = some (.int (if b = true then 1 else 0)) := rfl
theorem gEq_ii {i j : Int} : gEq (.int i) (.int j) = some (.bl (decide (i = j))) := rfl
theorem gNe_ii {i j : Int} : gNe (.int i) (.int j) = some (.bl (!decide (i = j))) := rfl
theorem gIx_t {xs : List D} {i : Int} : gIx (.tup xs) (.int i) = atI xs i := rfl
theorem gIx_l {xs : List D} {i : Int} : gIx (.lst xs) (.int i) = atI xs i := rfl
theorem gIx_k {xs : List D} {i : Int} : gIx (.kls xs) (.int i) = atI xs i := rfl
theorem gLen_t {xs : List D} : gLen (.tup xs) = some (.int xs.length) := rfl
theorem gLen_l {xs : List D} : gLen (.lst xs) = some (.int xs.length) := rfl
theorem gLen_k {xs : List D} : gLen (.kls xs) = some (.int xs.length) := rfl
theorem gNot_b {b : Bool} : gNot (.bl b) = some (.bl (!b)) := rfl
theorem gFld_e {ix : List (Nat × Nat)} {c : Nat} {fs : List D} : gFld ix (.ins c fs) = (ix.lookup c).bind fun j => fs[j]? := rfl
theorem seqD_t {xs : List D} : seqD (.tup xs) = some (false, xs) := rfl
theorem seqD_l {xs : List D} : seqD (.lst xs) = some (true, xs) := rfl
theorem seqD_k {xs : List D} : seqD (.kls xs) = some (true, xs) := rfl
end Z
namespace Z
theorem mFn_rt {n N : Nat} {fb : Env → R (Fl × Env)} {ds : List D} {d : D} {ρ : Env} (hl : ds.length = n) (h : fb (ds.map some ++ List.replicate (N - n) none) = .ok (.rt d, ρ)) : mFn n N fb ds = .ok d := by
  unfold mFn
  rw [if_pos hl, h]; rfl
theorem mFnB_rt {n N : Nat} {fb : Env → R (Fl × Env)} {ds : List D} {d d0 : D} {ρ : Env} (hl : ds.length = n) (h : fb (ds.map some ++ List.replicate (N - n) none) = .ok (.rt d, ρ)) (h0 : ρ[0]? = some (some d0)) : mFnB n N fb ds = .ok (d, d0) := by
  unfold mFnB
  rw [if_pos hl, h]
  simp only [R.bind_ok, h0]
theorem mFnB_nx {n N : Nat} {fb : Env → R (Fl × Env)} {ds : List D} {d0 : D} {ρ : Env} (hl : ds.length = n) (h : fb (ds.map some ++ List.replicate (N - n) none) = .ok (.nx, ρ)) (h0 : ρ[0]? = some (some d0)) : mFnB n N fb ds = .ok (.non, d0) := by
  unfold mFnB
  rw [if_pos hl, h]
  simp only [R.bind_ok, h0]
theorem mSeq_nx {f g : Env → R (Fl × Env)} {ρ ρ' : Env} {r : R (Fl × Env)} (h : f ρ = .ok (.nx, ρ')) (h2 : g ρ' = r) : mSeq f g ρ = r := by
  unfold mSeq
  rw [h]; exact h2
theorem mSeq_rt {f g : Env → R (Fl × Env)} {ρ ρ' : Env} {d : D} (h : f ρ = .ok (.rt d, ρ')) : mSeq f g ρ = .ok (.rt d, ρ') := by
  unfold mSeq
  rw [h]; rfl
theorem mIfS_t {t : Env → R (Bool × Env)} {f g : Env → R (Fl × Env)} {ρ ρ' : Env} {r : R (Fl × Env)} (h : t ρ = .ok (true, ρ')) (h2 : f ρ' = r) : mIfS t f g ρ = r := by
  unfold mIfS
  rw [h]; exact h2
theorem mIfS_f {t : Env → R (Bool × Env)} {f g : Env → R (Fl × Env)} {ρ ρ' : Env} {r : R (Fl × Env)} (h : t ρ = .ok (false, ρ')) (h2 : g ρ' = r) : mIfS t f g ρ = r := by
  unfold mIfS
  rw [h]; exact h2
theorem mSet_ok {i : Nat} {fa : Env → R (D × Env)} {ρ ρ' : Env} {d : D} (h : fa ρ = .ok (d, ρ')) : mSet i fa ρ = .ok (.nx, ρ'.set i (some d)) := by
  unfold mSet
  rw [h]; rfl
theorem mRet_ok {fa : Env → R (D × Env)} {ρ ρ' : Env} {d : D} (h : fa ρ = .ok (d, ρ')) : mRet fa ρ = .ok (.rt d, ρ') := by
  unfold mRet
  rw [h]; rfl
theorem mCall_ok {m : List D → R D} {fs : Env → R (List D × Env)} {ρ ρ' : Env} {ds : List D} {d : D} (h : fs ρ = .ok (ds, ρ')) (h2 : m ds = .ok d) : mCall m fs ρ = .ok (d, ρ') := by
  unfold mCall
  rw [h]
  simp only [R.bind_ok, h2]
theorem mPrim_ok {g : List D → Option D} {fs : Env → R (List D × Env)} {ρ ρ' : Env} {ds : List D} {d : D} (h : fs ρ = .ok (ds, ρ')) (h2 : g ds = some d) : mPrim g fs ρ = .ok (d, ρ') := by
  unfold mPrim
  rw [h]
  simp only [R.bind_ok, h2, ofO]
theorem mCons_ok {fa : Env → R (D × Env)} {fr : Env → R (List D × Env)} {ρ ρ1 ρ2 : Env} {d : D} {ds : List D} (h : fa ρ = .ok (d, ρ1)) (h2 : fr ρ1 = .ok (ds, ρ2)) : mCons fa fr ρ = .ok (d :: ds, ρ2) := by
  unfold mCons
  rw [h]
  simp only [R.bind_ok, h2]
end Z
namespace Z
theorem mItR3_ok {fs : Env → R (List D × Env)} {ρ ρ1 : Env} {i j : Int} (h : fs ρ = .ok ([.int i, .int j, .int (-1)], ρ1)) (hi : inLine i = true) (hj : inLine j = true) : mItR3 fs ρ = .ok (intsDown i (i - j).toNat, ρ1) := by
  unfold mItR3
  rw [h]
  exact if_pos (by rw [hi, hj]; rfl)
theorem intsDown_at {lo : Int} {n i : Nat} {d : D} (h : (intsDown lo n)[i]? = some d) : i < n ∧ d = .int (lo - (i : Int)) := by
  have len : (intsDown lo n).length = n := by simp [intsDown]
  have hi : i < n := by have := (List.getElem?_eq_some_iff.mp h).1; rw [len] at this; exact this
  unfold intsDown at h
  rw [List.getElem?_map, List.getElem?_range hi] at h
  cases h
  exact ⟨hi, rfl⟩
end Z
set_option Elab.async false
set_option linter.all false
set_option maxRecDepth 100000
/-! Y5: classes as values: cls(..), C.m(..) -/
namespace Z
open PySem PySem.Spec L2
open PyProof.Rows hiding St

section
variable {X : Cx} {C : Cz} {Γ Γ' Γ1 Γ2 : List Nat} {k kr lv i c : Nat} {x mn : Str} {p pos apos p2 : Pos} {e : Expr} {es : List Expr} {fs : Env → R (List D × Env)} {m : List D → R D} {mB : List D → R (D × D)} {f g pr : Addr} {fd : FuncData} {ps : List Str} {dvs : List V} {xd : List D} {E : XK} {mc : Value} {pl : Sem Bool}
/-- the i-th slot holds the class c -/
def mMakeL (i c : Nat) (m : List D → R (D × D)) (fs : Env → R (List D × Env)) : Env → R (D × Env) := fun ρ => match ρ[i]? with
  | some (some (.cls c')) => if c' = c then mMake c m fs ρ else .bad
  | _ => .bad
theorem de_newL (hW : C.W = fun cls d _ H => E cls d H) (M : Mk X.K (C.T.cm c) f) (hb : Gd X.K fd ps dvs) (F : FnOk X.prog X.w X.K X.mg X.base (L2N.CX X.prog X.w) lv f fd ps (spB X.K C.T 1 0 mB)) (hr : Room (lv + 1) X.A) (tk : L2N.Takes X C.W) (hv : PE X (.Name x p) (tVar i)) (hΓ : Γ.getD i 0 = 0)
    (hxd : ∀ S H, Reps X.K C.T H S xd dvs) (ha : DA X C Γ (e :: es) Γ1 fs) (he : starEach (e :: es) X.env = (false, eval e X.env) :: starEach es X.env := by rfl) (hpl : (backTo pos (starEach es X.env)).any (·.1) = false := by rfl) :
    DE X C Γ (.Call (.Name x p) (e :: es) [] pos) Γ1 1 (mMakeL i c (fun xs => mB (xs ++ xd)) fs) := by
  obtain ⟨ds, hd, hb⟩ := hb.bi
  refine ⟨fun pins s σ H Q I h => ?_⟩
  obtain ⟨S, ρ, fp, st, h⟩ := h
  unfold mMakeL at h
  split at h
  · rename_i c' q
    split at h
    · rename_i ec
      subst ec
      obtain ⟨v, hv0, o⟩ := st.sl i _ q
      rw [hΓ] at o
      have ev : v = .ref (C.T.cm c') := by
        have z := (own_zero.mp o).2
        simpa [Rep] using z
      subst ev
      refine wpAny_Call_Name_kw (thn (hv.run pins s σ H (fun v H1 => v = .ref (C.T.cm c') ∧ H1 = H) I ⟨_, hv0, rfl, rfl⟩) fun u s1 ⟨v, H1, I1, r1, q1⟩ => ?_)
      obtain ⟨rfl, rfl⟩ := q1
      cases r1
      have go : tA X.K C.T C.W Γ Γ1 fs σ H1 (fun vs H2 => ∀ y dy, H2 y = none → H2 dy = none → dy ≠ y → spB X.K C.T 1 0 mB (.ref y :: (vs ++ dvs)) (upd (upd H2 dy (.own y)) y (.ins (C.T.cm c') dy [])) (fun v H3 => v = .non ∧ Q (.ref y) H3) E) := by
        refine ⟨S, ρ, fp, st, ?_⟩
        unfold mMake at h
        refine OutA.thenE h fun xs ρ1 vs H2 S2 fp2 e2 s2 r2 f2 h2 => ?_
        intro y dy hy hdy hne
        exact make_data (fun cls d H' z => by rw [hW] at z; exact z) s2 (r2.append (hxd S2 H2)) h2 y dy hy hdy hne
      refine PySem.W.callWith_K (h₀ := X.base) I1.ok.mod.kin M.kp (thn (ha.run pos pins s1 σ _ _ I1 go) fun us s2 ⟨vs, H2, I2, r, q⟩ => ⟨I2.kIn, ?_⟩) he hpl
      exact run_make M F hr hb hd (L2N.passes_call tk fun cls d σ H z => by rw [hW]; exact z) I2 r q
    · exact h.elim
  · exact h.elim
/-- what must be known of a classmethod -/
structure Cm (K : PySem.W.Frag) (mg : Str → Option Value) (x : Str) (C : Addr) (m : Str) (g : Addr) (fd : FuncData) (ps : List Str) : Prop where
  mg : mg x = some (.ref C)
  rd : ∃ mc p, ClX.CRead K C mc ∧ ClX.CMet K C mc m p g
  bi : Binds K fd ps []
/-- C.m(..): the def's first argument is the class -/
theorem de_cmeth (hW : C.W = fun cls d _ H => E cls d H) (M : Cm X.K X.mg x (C.T.cm c) mn g fd ps) (F : FnOk X.prog X.w X.K X.mg X.base (L2N.CX X.prog X.w) lv g fd ps (spF X.K C.T kr m)) (hr : Room lv X.A) (tk : L2N.Takes X C.W) (hg : Gl X x) (ha : DA X C Γ (e :: es) Γ1 fs) (hdb : (x == ("__debug__" : Str)) = false := by decide)
    (hst : starEach (e :: es) X.env = (false, eval e X.env) :: starEach es X.env := by rfl) (hpl : (backTo pos (starEach es X.env)).any (·.1) = false := by rfl)
    (ht : eval (.Call (.Attribute (.Name x p) mn apos) (e :: es) [] pos) X.env = (do
      let ov ← eval (.Name x p) X.env
      standAt apos.atName
      let (g, first) ← holding [ov] (getMethod ov mn pl)
      callWith pos g first (backTo pos (starEach (e :: es) X.env)) (backToKw pos (keywordEach [] X.env))) := by rfl) :
    DE X C Γ (.Call (.Attribute (.Name x p) mn apos) (e :: es) [] pos) Γ1 kr (mCall (fun xs => m (.cls c :: xs)) fs) := by
  obtain ⟨mc, pr, rd, cm⟩ := M.rd
  refine pe_imp (ClX.pe_cmeth (pl := pl) (E := E) (pe_glob hg M.mg (v := .ref (C.T.cm c)) rfl hdb) rd cm (FnOk.raw (dvs := []) F M.bi .nil) hr (L2N.passes_call tk fun cls d σ H z => by rw [hW]; exact z) ha hst hpl ht) fun σ H Q h => ?_
  refine ⟨rfl, ?_⟩
  obtain ⟨S, ρ, fp, s, h⟩ := h
  refine ⟨S, ρ, fp, s, OutA.thenE h fun xs ρ1 vs H1 S1 fp1 e1 s1 r1 f1 h1 => ?_⟩
  have r2 : Reps X.K C.T H1 S1 (.cls c :: xs) (.ref (C.T.cm c) :: vs) := by
    simp only [Reps, Rep]
    exact ⟨_, _, rfl, rfl, r1⟩
  have z := call_data (m := m) (C := C) s1 r2 h1
  rw [hW] at z
  show spF X.K C.T kr m ((.ref (C.T.cm c) :: vs) ++ []) H1 Q E
  rw [List.append_nil]
  exact z
end
end Z
set_option Elab.async false
set_option linter.all false
set_option maxRecDepth 100000
/-! Y6: x.extend(list) -/
namespace Z
open PySem PySem.Spec L2
open PyProof.Rows hiding St
def mExt (i : Nat) (fe : Env → R (D × Env)) : Env → R (Fl × Env) := fun ρ => match ρ[i]? with
  | some (some (.lst _)) => (fe ρ).bind fun (d, ρ1) => match ρ1[i]?, d with
    | some (some (.lst xs)), .lst ys => if xs.length + ys.length < 100000 then .ok (.nx, ρ1.set i (some (.lst (xs ++ ys)))) else .bad
    | _, _ => .bad
  | _ => .bad
section
variable {X : Cx} {C : Cz} {P : List Nat} {J : Js} {Γ Γ' Γ1 Γ2 : List Nat} {k i j n : Nat} {x y : Str} {pos p p2 p3 spos : Pos} {a e ix : Expr} {fe fi : Env → R (D × Env)}
theorem ds_ext (hv : PE X (.Name x p) (tVar i)) (hk2 : k = 0 ∨ k = 1) (ha : DE X C Γ e Γ1 k fe) (hk0 : Γ.getD i 0 = 1 := by rfl) (hk : Γ1.getD i 0 = 1 := by rfl) (h1 : J.nx = Γ1 := by rfl)
    (hs : starEach (e :: []) X.env = (false, eval e X.env) :: starEach [] X.env := by rfl) (hpl : (backTo p3 (starEach [] X.env)).any (·.1) = false := by rfl) (hbase : attributeBase (.Name x p) "extend" X.env (eval (.Name x p) X.env) = eval (.Name x p) X.env := by rfl) (hline : (p2.endLine == p3.line) = true := by rfl)
    (hfew : ((backTo p3 (starEach (e :: []) X.env)).all (fun x => !x.1) && (backToKw p3 (keywordEach [] X.env)).all (fun x => x.1.isSome)
      && decide ((e :: ([] : List Expr)).length + ([] : List Keyword).length + (if ([] : List Keyword).isEmpty then 0 else 1) < 30)) = true := by rfl)
    (hsw : swapsWith (.Call (.Attribute (.Name x p) "extend" p2) [e] [] p3) none spos.line X.env = pure false := by rfl) :
    DS X C P J Γ (.Expr (.Call (.Attribute (.Name x p) "extend" p2) [e] [] p3) spos) (mExt i fe) :=
  ps_imp (ps_expr (pe_bm PySem.F.plainAttrs_list PySem.F.slot_list_extend PySem.F.type_list_extend mt_extend hv (pa_cons ha pa_nil hs) hbase hfew hline hs hpl) hsw) fun E σ H h => by
  obtain ⟨S, ρ, fp, s, h⟩ := h
  unfold mExt at h
  split at h
  · rename_i xs0 q0
    obtain ⟨a, vs0, hv0, h0, _⟩ := s.lst_at q0 hk0
    refine ⟨_, hv0, .inl ⟨rfl, vs0, .inl (.inl h0)⟩, S, ρ, fp, s, OutE.thenS h fun d ρ1 v H1 S1 fp1 Fv e1 s1 x1 f1 h2 => ?_⟩
    have hl : ∀ ys, d = .lst ys → ∃ b zs, v = .ref b ∧ H1 b = some (.lst zs) ∧ Reps X.K C.T H1 S1 ys zs := by
      rintro ys rfl
      rcases hk2 with rfl | rfl
      · obtain ⟨_, rd⟩ := x1.rep
        simp only [Rep] at rd
        obtain ⟨b, zs, e1, e2, _, e3⟩ := rd
        exact ⟨b, zs, e1, e2, e3⟩
      · obtain ⟨b, zs, e1, e2, _, e3⟩ := own_lst1.mp x1.own
        exact ⟨b, zs, e1, e2, e3⟩
    dsimp only at h2
    split at h2
    · rename_i xs ys q1
      obtain ⟨b, zs, rfl, hb, rz⟩ := hl _ rfl
      split at h2
      · rename_i hl
        obtain ⟨a', vs, hv1, h1', r⟩ := s1.lst_at q1 hk
        rw [hv0] at hv1; cases hv1
        have rr : Reps X.K C.T H1 S1 (xs ++ ys) (vs ++ zs) := r.append rz
        obtain ⟨_, s2, f2⟩ := s1.relist q1 hk hv0 h1' rr
        refine ⟨a, b, vs, zs, rfl, rfl, h1', hb, by rw [sizeLine_eq, ← r.length, ← rz.length]; omega, ?_⟩
        exact h2 σ _ S1 fp1 (by rw [h1]; exact s2) Kp.refl ((f1.less fun b z => .inl z).trans f2)
      · exact h2.elim
    · exact h2.elim
  · exact h.elim
end
end Z
set_option Elab.async false
set_option linter.all false
set_option maxRecDepth 100000
/-! Y7: own binary operators; x.insert(i, y) -/
namespace Z
open PySem PySem.Spec L2
open PyProof.Rows hiding St
/-- a operator b by the class's own def -/
def mBinO (c : Nat) (m : List D → R D) (fa fb : Env → R (D × Env)) : Env → R (D × Env) := fun ρ => (fa ρ).bind fun (x, ρ1) => (fb ρ1).bind fun (y, ρ2) => match x, y with
  | .ins c1 _, .ins c2 _ => if c1 = c ∧ c2 = c then (m [x, y]).bind fun d => .ok (d, ρ2) else .bad
  | _, _ => .bad
/-- what of the class is asked -/
structure OpM (K : PySem.W.Frag) (C : Addr) (mn : Str) (f : Addr) (fd : FuncData) (ps : List Str) : Prop where
  at_ : PySem.W.findIn K (.ref C) mn = some (some (.ref f))
  fn : PySem.W.isFn K (.ref f) = true
  first : PySem.W.selfFirst K C = true
  bi : Binds K fd ps []
section
variable {X : Cx} {C : Cz} {P : List Nat} {J : Js} {Γ Γ' Γ1 Γ2 : List Nat} {k kr lv i j n c : Nat} {x y mn : Str} {pos p p2 p3 spos : Pos} {a b e e2 ix : Expr} {fa fb fe fi : Env → R (D × Env)} {m : List D → R D} {f : Addr} {fd : FuncData} {ps : List Str} {op : Operator}
theorem de_opO (hop : PySem.dunder op.info.2 = mn) (M : OpM X.K (C.T.cm c) mn f fd ps) (F : FnOk X.prog X.w X.K X.mg X.base (L2N.CX X.prog X.w) lv f fd ps (spF X.K C.T kr m)) (hr : Room lv X.A) (tk : L2N.Takes X C.W) (ha : DE X C Γ a Γ1 0 fa) (hb : DE X C Γ1 b Γ2 0 fb) :
    DE X C Γ (.BinOp a op b pos) Γ2 kr (mBinO c m fa fb) := by
  refine ⟨fun pins s σ H Q I h => ?_⟩
  obtain ⟨S, ρ, fp, st, h⟩ := h
  have h' : tE X.K C.T C.W Γ Γ1 0 fa σ H (fun v1 H1 => tE X.K C.T C.W Γ1 Γ2 0 fb σ H1 (fun v2 H2 => ∃ a' b' dx dy fs gs, v1 = .ref a' ∧ v2 = .ref b' ∧ H2 a' = some (.ins (C.T.cm c) dx fs) ∧ H2 b' = some (.ins (C.T.cm c) dy gs) ∧ spF X.K C.T kr m [v1, v2] H2 Q (WE C.W σ))) := by
    refine ⟨S, ρ, fp, st, OutE.then0 h fun d1 ρ1 v1 H1 S1 fp1 e1 s1 r1 f1 h1 => ?_⟩
    refine ⟨S1, ρ1, fp1, s1, OutE.then0 h1 fun d2 ρ2 v2 H2 S2 fp2 e2 s2 r2 f2 h2 => ?_⟩
    dsimp only at h2
    have r1' := s1.rep_fra r1 f2
    split at h2
    · rename_i c1 fs1 c2 fs2
      split at h2
      · rename_i hc
        obtain ⟨ec1, ec2⟩ := hc
        subst ec1; subst ec2
        have rr : Reps X.K C.T H2 S2 [.ins c2 fs1, .ins c2 fs2] [v1, v2] := by
          simp only [Reps]
          exact ⟨_, _, rfl, r1', _, _, rfl, r2, rfl⟩
        have z := call_data (m := m) (C := C) s2 rr h2
        simp only [Rep] at r1' r2
        obtain ⟨a', dx, vs, rfl, q1, _⟩ := r1'
        obtain ⟨b', dy, ws, rfl, q2, _⟩ := r2
        exact ⟨a', b', dx, dy, _, _, rfl, rfl, q1, q2, z⟩
      · exact h2.elim
    · exact h2.elim
  refine wpAny_BinOp (binT ha hb I h' fun v u s2 x y H2 I2 rx ry q => ?_)
  obtain ⟨a', b', dx, dy, fs, gs, rfl, rfl, q1, q2, z⟩ := q
  obtain rfl : v = Value.ref a' := rx
  obtain rfl : u = Value.ref b' := ry
  obtain ⟨_, o1, _⟩ := ins_get I2.hok q1
  obtain ⟨_, o2, _⟩ := ins_get I2.hok q2
  obtain ⟨_, l1, _⟩ := o1.look
  obtain ⟨_, l2, _⟩ := o2.look
  obtain ⟨_, fr⟩ := I2.fr
  refine PySem.W.binop_K fr I2.ok.mod.kin l1 l2.type M.first (by rw [hop]; exact M.at_) M.fn ?_
  refine thn (run_fnSD (us := [.ref a', .ref b']) (vs := [.ref a', .ref b']) (dvs := []) (E := WE C.W) F hr M.bi .nil (L2N.passAt tk σ) I2 (.cons rfl (.cons rfl .nil)) z) fun r s3 hq => ?_
  obtain ⟨w, H3, I3, rw', qw⟩ := id hq
  cases w <;> simp only [L2.RelV] at rw'
  all_goals first
    | (subst rw'; exact hq)
    | (obtain ⟨t, rfl⟩ := rw'; exact hq)
end

def mInsr (i : Nat) (fi fe : Env → R (D × Env)) : Env → R (Fl × Env) := fun ρ => match ρ[i]? with
  | some (some (.lst _)) => (fi ρ).bind fun (j, ρ1) => (fe ρ1).bind fun (d, ρ2) => match ρ2[i]?, j with
    | some (some (.lst xs)), .int j => if xs.length < 100000 ∧ 0 ≤ j ∧ j < 100000 then .ok (.nx, ρ2.set i (some (.lst (xs.take j.toNat ++ [d] ++ xs.drop j.toNat)))) else .bad
    | _, _ => .bad
  | _ => .bad
section
variable {X : Cx} {C : Cz} {P : List Nat} {J : Js} {Γ Γ' Γ1 Γ2 : List Nat} {k i j n : Nat} {x y : Str} {pos p p2 p3 spos : Pos} {a e e2 ix : Expr} {fe fi : Env → R (D × Env)}
theorem ds_insr (hv : PE X (.Name x p) (tVar i)) (hi : DE X C Γ ix Γ1 0 fi) (ha : DE X C Γ1 e Γ2 0 fe) (hk0 : Γ.getD i 0 = 1 := by rfl) (hk : Γ2.getD i 0 = 1 := by rfl) (h1 : J.nx = Γ2 := by rfl)
    (hs : starEach (ix :: e :: []) X.env = (false, eval ix X.env) :: starEach [e] X.env := by rfl) (hs2 : starEach (e :: []) X.env = (false, eval e X.env) :: starEach [] X.env := by rfl) (hpl : (backTo p3 (starEach [e] X.env)).any (·.1) = false := by rfl) (hbase : attributeBase (.Name x p) "insert" X.env (eval (.Name x p) X.env) = eval (.Name x p) X.env := by rfl) (hline : (p2.endLine == p3.line) = true := by rfl)
    (hfew : ((backTo p3 (starEach (ix :: e :: []) X.env)).all (fun x => !x.1) && (backToKw p3 (keywordEach [] X.env)).all (fun x => x.1.isSome)
      && decide ((ix :: e :: ([] : List Expr)).length + ([] : List Keyword).length + (if ([] : List Keyword).isEmpty then 0 else 1) < 30)) = true := by rfl)
    (hsw : swapsWith (.Call (.Attribute (.Name x p) "insert" p2) [ix, e] [] p3) none spos.line X.env = pure false := by rfl) :
    DS X C P J Γ (.Expr (.Call (.Attribute (.Name x p) "insert" p2) [ix, e] [] p3) spos) (mInsr i fi fe) :=
  ps_imp (ps_expr (pe_bm PySem.F.plainAttrs_list PySem.F.slot_list_insert PySem.F.type_list_insert mt_insert hv (pa_cons hi (pa_cons ha pa_nil hs2) hs) hbase hfew hline hs hpl) hsw) fun E σ H h => by
  obtain ⟨S, ρ, fp, s, h⟩ := h
  unfold mInsr at h
  split at h
  · rename_i xs0 q0
    obtain ⟨a, vs0, hv0, h0, _⟩ := s.lst_at q0 hk0
    refine ⟨_, hv0, .inl ⟨rfl, vs0, .inl (.inl h0)⟩, S, ρ, fp, s, OutE.thenS h fun d0 ρ0 v0 H0 S0 fp0 F0 e0 s0 x0 f0 h2 => ?_⟩
    obtain ⟨ef0, rd0⟩ := x0.rep
    subst ef0
    refine ⟨S0, ρ0, fp0, s0, OutE.thenS (OutS.before Kp.refl f0.ow h2) fun d ρ1 v H1 S1 fp1 Fv e1 s1 x1 f1 h3 => ?_⟩
    obtain ⟨ef, rd⟩ := x1.rep
    subst ef
    dsimp only at h3
    split at h3
    · rename_i xs j q1
      split at h3
      · rename_i hl
        obtain ⟨hl, hj0, hj1⟩ := hl
        obtain ⟨a', vs, hv1, h1', r⟩ := s1.lst_at q1 hk
        rw [hv0] at hv1; cases hv1
        simp only [Rep] at rd0
        subst rd0
        have rr : Reps X.K C.T H1 S1 (xs.take j.toNat ++ [d] ++ xs.drop j.toNat) (vs.take j.toNat ++ [v] ++ vs.drop j.toNat) := ((r.take _).append (by simp only [Reps]; exact ⟨v, [], rfl, rd, rfl⟩)).append (r.drop _)
        obtain ⟨_, s2, f2⟩ := s1.relist q1 hk hv0 h1' rr
        refine ⟨a, vs, j, v, rfl, rfl, h1', by rw [sizeLine_eq, ← r.length]; omega, hj0, by omega, ?_⟩
        exact h3 σ _ S1 fp1 (by rw [h1]; exact s2) Kp.refl (f1.ow.trans f2)
      · exact h3.elim
    · exact h3.elim
  · exact h.elim
end

/-! a shared list or tuple is walked -/
section
variable {K : PySem.W.Frag} {T : Tab} {S : Addr → Prop} {H : Hp} {ds : List D} {a : Addr} {vs : List V}
theorem it_seqL (r : Reps K T H S ds vs) (st : ∀ H' S', Stay K H S H' S' → SqL K H' a vs) : ItOk K T S H (Itl K a) ds := by
  have hl := r.length
  refine ⟨fun S' H' s i hi => ⟨vs, st H' S' s, by omega⟩, fun S' H' s i d hd => ?_, fun S' H' s i d hd x H2 hy => ?_⟩
  · obtain ⟨v, hv, _⟩ := r.get hd
    exact ⟨vs, v, st H' S' s, hv⟩
  · obtain ⟨he, hu⟩ := hy
    subst he
    obtain ⟨v, hv, rv⟩ := r.get hd
    have q := hu vs (st _ S' s)
    rw [hv] at q; cases q
    exact ⟨fun _ _ h => h, s.rep rv⟩
theorem it_seqT (r : Reps K T H S ds vs) (st : ∀ H' S', Stay K H S H' S' → SqT K H' a vs) : ItOk K T S H (Itt K a) ds := by
  have hl := r.length
  refine ⟨fun S' H' s i hi => ⟨vs, st H' S' s, by omega⟩, fun S' H' s i d hd => ?_, fun S' H' s i d hd x H2 hy => ?_⟩
  · obtain ⟨v, hv, _⟩ := r.get hd
    exact ⟨vs, v, st H' S' s, hv⟩
  · obtain ⟨he, hu⟩ := hy
    subst he
    obtain ⟨v, hv, rv⟩ := r.get hd
    have q := hu vs (st _ S' s)
    rw [hv] at q; cases q
    exact ⟨fun _ _ h => h, s.rep rv⟩
end
section
variable {X : Cx} {C : Cz} {Γ Γ1 : List Nat} {k : Nat} {pos p p2 pos2 : Pos} {e tg : Expr} {fa : Env → R (D × Env)}
theorem seq_iter {pins : List (Addr × Obj)} {σ : St} {H : Hp} {s : Shared} {a : Addr} {vs : List V} {G : It → Hp → Prop} (I : L2.Inv X pins σ H s) (h : (SqL X.K H a vs ∧ G (Itl X.K a) H) ∨ (SqT X.K H a vs ∧ G (Itt X.K a) H)) :
    wpAny (model X.prog X.w) X.A (pyIter (.ref a)) (PIE X pins σ tg G) X.xe s := by
  have new := I.fpOk (H' := H) (b := s.heap.objs.size) (Nat.le_refl _) (I.hok.fresh (Nat.le_refl _))
  have one : ∀ b ∈ [s.heap.objs.size], b = s.heap.objs.size := fun b hb => by simpa using hb
  rcases h with ⟨hq, g⟩ | ⟨hq, g⟩
  · obtain ⟨its, _, q, _⟩ := I.list hq
    exact wpAny_pyIter_list q.isList ⟨_, [s.heap.objs.size], _, _, H, rfl, I.kept (t' := s.toks) (fun _ _ w => Heap.get?_push_of_some _ w), turn_list a _, ⟨_, Heap.get?_push_size _ rfl, rfl, rfl⟩, fun b hb => by rw [one b hb]; exact new, g⟩
  · obtain ⟨its, _, q, _⟩ := I.tuple hq
    have q' : s.heap.IsTuple a its.toArray := q
    exact wpAny_pyIter_tuple q' ⟨_, [s.heap.objs.size], _, _, H, rfl, I.kept (t' := s.toks) (fun _ _ w => Heap.get?_push_of_some _ w), turn_tuple a _, ⟨_, Heap.get?_push_size _ rfl, rfl, rfl⟩, fun b hb => by rw [one b hb]; exact new, g⟩
theorem di_any (ha : DE X C Γ e Γ1 0 fa) : DI X C tg Γ e Γ1 (mSeqD id fa) := by
  refine ⟨fun pins sh σ H Q I h => ?_⟩
  obtain ⟨S, ρ, fp, s, h⟩ := h
  have h' : tE X.K C.T C.W Γ Γ1 0 fa σ H (fun v H1 => ∃ a vs, v = .ref a ∧ ((SqL X.K H1 a vs ∧ Q (Itl X.K a) H1) ∨ (SqT X.K H1 a vs ∧ Q (Itt X.K a) H1))) := by
    refine ⟨S, ρ, fp, s, OutE.thenI h fun d ρ1 v H1 S1 fp1 e1 s1 r1 f1 h1 => ?_⟩
    dsimp only at h1
    cases q : seqD d with
    | none => rw [q] at h1; exact h1.elim
    | some bx =>
      obtain ⟨b, xs⟩ := bx
      rw [q] at h1
      obtain ⟨a, vs, rfl, r, hl, ht⟩ := seq_stay r1 q
      refine ⟨a, vs, rfl, ?_⟩
      cases b with
      | true => exact .inl ⟨hl rfl H1 S1 Stay.refl, h1 _ H1 S1 fp1 s1 (it_seqL r (hl rfl)) f1⟩
      | false => exact .inr ⟨ht rfl H1 S1 Stay.refl, h1 _ H1 S1 fp1 s1 (it_seqT r (ht rfl)) f1⟩
  refine thn (ha.run pins sh σ H _ I h') fun v s1 ⟨x, H1, I1, r1, a, vs, ex, q⟩ => ?_
  subst ex
  obtain rfl : v = Value.ref a := r1
  exact seq_iter I1 q
/-! tuple(reversed(a list)) -/
def gTupRev : D → Option D
  | .lst xs => some (.tup xs.reverse)
  | .kls xs => some (.tup xs.reverse)
  | _ => none
theorem de_tupRev (hc : X.calm = true) (hm : X.mg "tuple" = none) (hm2 : X.mg "reversed" = none) (hg : Gl X "tuple") (hg2 : Gl X "reversed") (ha : DE X C Γ e Γ1 0 fa) (hk : k ≤ 1 := by decide)
    (hs : starEach [e] X.env = (false, eval e X.env) :: starEach [] X.env := by rfl)
    (hs2 : starEach [.Call (.Name "reversed" p2) [e] [] pos2] X.env = (false, eval (.Call (.Name "reversed" p2) [e] [] pos2) X.env) :: starEach [] X.env := by rfl) :
    DE X C Γ (.Call (.Name "tuple" p) [.Call (.Name "reversed" p2) [e] [] pos2] [] pos) Γ1 k (mUn gTupRev fa) :=
  pe_imp (RT.pe_tupRev hc hg hm hg2 hm2 ha hs hs2) fun σ H Q h => un_data (r := fun v H1 G => ∃ a xs, v = .ref a ∧ SqL X.K H1 a xs ∧ ∀ b, H1 b = none → G (.ref b) (upd H1 b (.tup xs.reverse))) (fun S H d v d' r e => by
    cases d with
    | lst ys =>
      cases e
      simp only [Rep] at r
      obtain ⟨a, vs, rfl, h1, sa, r⟩ := r
      exact .inr (.inr ⟨_, vs.reverse, rfl, hk, r.reverse, fun G g => ⟨a, vs, rfl, .inl (.inl h1), g⟩⟩)
    | kls ys =>
      cases e
      simp only [Rep] at r
      obtain ⟨a, vs, rfl, h1, r⟩ := r
      exact .inr (.inr ⟨_, vs.reverse, rfl, hk, r.reverse, fun G g => ⟨a, vs, rfl, h1.sql, g⟩⟩)
    | _ => cases e) h
end
end Z
set_option Elab.async false
set_option linter.all false
set_option maxRecDepth 100000
/-! Y8: calls where the wish hangs on the frame's slots -/
namespace Z
open PySem PySem.Spec L2
open PyProof.Rows hiding St
section
variable {X : Cx} {C : Cz} {Γ Γ' Γ1 Γ2 : List Nat} {k kr lv i j n c : Nat} {x y mn : Str} {pos p p2 apos : Pos} {a b e o : Expr} {es : List Expr} {kws : List Keyword} {fa fb : Env → R (D × Env)} {fs fk : Env → R (List D × Env)} {m : List D → R D} {mB : List D → R (D × D)} {f cl : Addr} {fd : FuncData} {ps ks : List Str} {ds : List Value} {dvs : List V} {xd : List D} {pl : Sem Bool}
theorem methS_data {σ : St} {H : Hp} {Q : VK} (hf : mn ∉ C.T.fl c) (hxd : ∀ S H, Reps X.K C.T H S xd dvs) (h : tE X.K C.T C.W Γ Γ2 kr (mMeth c (fun xs => m (xs ++ xd)) fa fs) σ H Q) :
    tE X.K C.T C.W Γ Γ1 0 fa σ H (fun x H1 => ∃ a dx gs, x = .ref a ∧ H1 a = some (.ins (C.T.cm c) dx gs) ∧ gs.lookup mn = none ∧ tA X.K C.T C.W Γ1 Γ2 fs σ H1 (fun vs H2 => spF X.K C.T kr m (x :: (vs ++ dvs)) H2 Q (WE C.W σ))) := by
  obtain ⟨S, ρ, fp, s, h⟩ := h
  refine ⟨S, ρ, fp, s, OutE.then0 h fun d ρ1 v H1 S1 fp1 e1 s1 r1 f1 h1 => ?_⟩
  dsimp only at h1
  split at h1
  · rename_i c' fs'
    split at h1
    · rename_i ec
      subst ec
      have r0 := r1
      simp only [Rep] at r0
      obtain ⟨a, dx, vs, rfl, h2, _⟩ := r0
      refine ⟨a, dx, _, rfl, h2, lookup_out hf, S1, ρ1, fp1, s1, OutA.thenE h1 fun xs ρ2 ws H2 S2 fp2 e2 s2 r2 f2 h3 => ?_⟩
      have rr : Reps X.K C.T H2 S2 (.ins c' fs' :: (xs ++ xd)) (.ref a :: (ws ++ dvs)) := by
        simp only [Reps]
        exact ⟨_, _, rfl, s1.rep_fra r1 f2, r2.append (hxd S2 H2)⟩
      exact call_data (m := m) (C := C) s2 rr h3
    · exact h1.elim
  · exact h1.elim
theorem de_methS (hcl : Cls X.K (C.T.cm c)) (hm : Meth X.K (C.T.cm c) mn f) (hf : mn ∉ C.T.fl c) (F : FnOk X.prog X.w X.K X.mg X.base (L2N.CX X.prog X.w) lv f fd ps (spF X.K C.T kr m)) (hr : Room lv X.A) (tk : L2N.Takes X C.W) (hb : Binds X.K fd ps ds) (hd : Vals dvs ds)
    (hxd : ∀ S H, Reps X.K C.T H S xd dvs) (ho : DE X C Γ o Γ1 0 fa) (ha : DA X C Γ1 (e :: es) Γ2 fs) (hst : starEach (e :: es) X.env = (false, eval e X.env) :: starEach es X.env := by rfl) (hpl : (backTo pos (starEach es X.env)).any (·.1) = false := by rfl)
    (ht : eval (.Call (.Attribute o mn apos) (e :: es) [] pos) X.env = (do
      let ov ← eval o X.env
      standAt apos.atName
      let (g, first) ← holding [ov] (getMethod ov mn pl)
      callWith pos g first (backTo pos (starEach (e :: es) X.env)) (backToKw pos (keywordEach [] X.env))) := by rfl) :
    DE X C Γ (.Call (.Attribute o mn apos) (e :: es) [] pos) Γ2 kr (mMeth c (fun xs => m (xs ++ xd)) fa fs) := by
  refine ⟨fun pins sh σ H Q I h => PySem.W.methodCall_KW (pl := pl) (thn (ho.run pins sh σ H _ I (methS_data (Γ1 := Γ1) hf hxd h)) fun w s1 hw => ?_) ht⟩
  obtain ⟨v, H1, J, rv, b, dx, gs, rfl, hb1, hl, q⟩ := hw
  have ew : w = Value.ref b := rv
  rw [ew]
  refine getmeth_ok J hb1 hcl hm hl (PySem.W.callWith_K (first := [.ref b]) (h₀ := X.base) J.ok.mod.kin hm.kp (thn (ha.run pos pins s1 σ H1 _ J q) fun ws s2 hz => ?_) hst hpl)
  obtain ⟨vs, H2, J2, rs, q2⟩ := hz
  exact ⟨J2.kIn, run_fnSD (us := .ref b :: ws) (vs := .ref b :: vs) F hr hb hd (L2N.passAt tk σ) J2 (.cons rfl rs) q2⟩
theorem de_meth0S (hcl : Cls X.K (C.T.cm c)) (hm : Meth X.K (C.T.cm c) mn f) (hf : mn ∉ C.T.fl c) (F : FnOk X.prog X.w X.K X.mg X.base (L2N.CX X.prog X.w) lv f fd ps (spF X.K C.T kr m)) (hr : Room lv X.A) (tk : L2N.Takes X C.W) (hb : Binds X.K fd ps ds) (hd : Vals dvs ds)
    (hxd : ∀ S H, Reps X.K C.T H S xd dvs) (ho : DE X C Γ o Γ1 0 fa)
    (ht : eval (.Call (.Attribute o mn apos) [] [] pos) X.env = (do
      let ov ← eval o X.env
      standAt apos.atName
      let (g, first) ← holding [ov] (getMethod ov mn pl)
      callWith pos g first (backTo pos (starEach [] X.env)) (backToKw pos (keywordEach [] X.env))) := by rfl) :
    DE X C Γ (.Call (.Attribute o mn apos) [] [] pos) Γ1 kr (mMeth c (fun xs => m (xs ++ xd)) fa mNil) := by
  refine ⟨fun pins sh σ H Q I h => PySem.W.methodCall_KW (pl := pl) (thn (ho.run pins sh σ H _ I (methS_data (Γ1 := Γ1) hf hxd h)) fun w s1 hw => ?_) ht⟩
  obtain ⟨v, H1, J, rv, b, dx, gs, rfl, hb1, hl, q⟩ := hw
  have ew : w = Value.ref b := rv
  rw [ew]
  obtain ⟨S, ρ, fp, st, q⟩ := q
  have q2 := q [] H1 S fp st (by simp [Reps]) Fra.refl
  exact getmeth_ok J hb1 hcl hm hl (PySem.W.callWith_K0 (first := [.ref b]) J.kIn hm.kp (run_fnSD (us := [.ref b]) (vs := [.ref b]) F hr hb hd (L2N.passAt tk σ) J (.cons rfl .nil) q2))
def MadeR (X : Cx) (pins : List (Addr × Obj)) (σ : St) (Q : VK) (q : Addr) (r : Result) (s' : Shared) : Prop := match r with
  | .error u => X.xe u s'
  | .ok (.ret u) => u = .none ∧ EP X pins σ Q (.ref q) s'
  | .ok _ => False
/-- what a made instance's __init__ leaves -/
theorem made_ends {pins : List (Addr × Obj)} {σ : St} {H0 : Hp} {s0 s' : Shared} {Q : VK} {q : Addr} {E : XK} {r : Result} (hx : PassesAt (L2N.CX X.prog X.w) X σ E) (J : L2.Inv X pins σ H0 s0)
    (h : CR (L2N.CX X.prog X.w) X.stack X.prog X.w H0 s0 (fun v H2 => v = .non ∧ Q (.ref q) H2) E r s') :
    MadeR X pins σ Q q r s' := by
  match r, h with
  | .error u, h => exact hx pins H0 s0 u s' J h
  | .ok (.ret u), h =>
    obtain ⟨v, H2, J2, rv, ev, qq⟩ := J.after h
    rw [ev] at rv
    exact ⟨rv, .ref q, H2, J2, rfl, qq⟩
  | .ok .next, h => exact h.elim
  | .ok .brk, h => exact h.elim
  | .ok .cont, h => exact h.elim
theorem run_new {pins : List (Addr × Obj)} {σ : St} {H : Hp} {sh : Shared} {Q : VK} {us zs : List Value} {kw : List (Str × Value)} {vs : List V} {cl f : Addr} {fd : FuncData} {ps : List Str} {sp : Sp} {E : XK} (M : Mk X.K cl f) (F : FnOk X.prog X.w X.K X.mg X.base (L2N.CX X.prog X.w) lv f fd ps sp) (hr : Room (lv + 1) X.A)
    (hx : PassesAt (L2N.CX X.prog X.w) X σ E) (J : L2.Inv X pins σ H sh) (r : Vals vs zs) (hb : ∀ (q : Addr) (s1 : Shared), X.K.In s1.heap → (Value.ref q :: zs).length = ps.length → BindsTo s1 fd ⟨.ref q :: us, kw⟩ (ps.zip (.ref q :: zs)))
    (h : ∀ q dx, H q = none → H dx = none → dx ≠ q → sp (.ref q :: vs) (upd (upd H dx (.own q)) q (.ins cl dx [])) (fun v H2 => v = .non ∧ Q (.ref q) H2) E) : wpAny (model X.prog X.w) X.A (call (.ref cl) us kw) (EP X pins σ Q) X.xe sh := by
  have hq := h (sh.heap.objs.size + 1) sh.heap.objs.size (J.hok.fresh (Nat.le_succ _)) (J.hok.fresh (Nat.le_refl _)) (Nat.ne_of_lt (Nat.lt_succ_self _))
  have len : (Value.ref (sh.heap.objs.size + 1) :: zs).length = ps.length := by
    have w := F.len _ _ _ _ hq
    rw [List.length_cons] at w ⊢
    rw [← w, r.length]
  have rr : Vals (V.ref (sh.heap.objs.size + 1) :: vs) (Value.ref (sh.heap.objs.size + 1) :: zs) := .cons rfl r
  have J2 := Inv.made (C := cl) J
  refine wpAny_call (make_map (f := f) J.kIn M.makes M.init (beq_iff_eq.mp M.fn) (codeAny_mono (F.run _ X.stack _ _ ⟨_ :: us, kw⟩ _ _ _ E (hr.make cl us kw) (J2.env0.make cl us kw) (hb _ _ J2.kIn len) rr hq) fun res s' w => ?_))
  have z := made_ends hx J2 w
  cases res with
  | error u => exact z
  | ok fl => cases fl <;> first | exact z | exact z.elim
theorem makeS_data {σ : St} {H : Hp} {S : Addr → Prop} {ρ : Env} {fp : Nat → List Addr} {Q : VK} {xs : List D} {vs : List V} (s : Stt X.K C.T Γ S σ H ρ fp) (r : Reps X.K C.T H S xs vs)
    (h : OutE X.K C.T C.W Γ 1 σ H S fp Q ((mB (.ins c [] :: xs)).bind fun (d, d0) => match d with | .non => .ok (d0, ρ) | _ => .bad)) (q dx : Addr) (hq : H q = none) (hdx : H dx = none) (hne : dx ≠ q) :
    spB X.K C.T 1 0 mB (.ref q :: vs) (upd (upd H dx (.own q)) q (.ins (C.T.cm c) dx [])) (fun v H2 => v = .non ∧ Q (.ref q) H2) (WE C.W σ) :=
  make_data (fun cls d H' w => w) s r h q dx hq hdx hne
theorem de_newS {c : Nat} {xd : List D} {dvs : List V} (M : Gc X.K X.mg x (C.T.cm c) f) (hb : Gd X.K fd ps dvs) (F : FnOk X.prog X.w X.K X.mg X.base (L2N.CX X.prog X.w) lv f fd ps (spB X.K C.T 1 0 mB)) (hr : Room (lv + 1) X.A) (tk : L2N.Takes X C.W) (hg : Gl X x)
    (hxd : ∀ S H, Reps X.K C.T H S xd dvs) (ha : DA X C Γ (e :: es) Γ1 fs) (hdb : (x == ("__debug__" : Str)) = false := by decide) (he : starEach (e :: es) X.env = (false, eval e X.env) :: starEach es X.env := by rfl) (hpl : (backTo pos (starEach es X.env)).any (·.1) = false := by rfl) :
    DE X C Γ (.Call (.Name x p) (e :: es) [] pos) Γ1 1 (mMake c (fun xs => mB (xs ++ xd)) fs) := by
  obtain ⟨ds, hd, hb⟩ := hb.bi
  refine ⟨fun pins sh σ H Q I h => ?_⟩
  have go : tA X.K C.T C.W Γ Γ1 fs σ H (fun vs H1 => ∀ q dx, H1 q = none → H1 dx = none → dx ≠ q → spB X.K C.T 1 0 mB (.ref q :: (vs ++ dvs)) (upd (upd H1 dx (.own q)) q (.ins (C.T.cm c) dx [])) (fun v H2 => v = .non ∧ Q (.ref q) H2) (WE C.W σ)) := by
    obtain ⟨S, ρ, fp, s, h⟩ := h
    exact ⟨S, ρ, fp, s, OutA.thenE h fun xs ρ1 vs H1 S1 fp1 e1 s1 r1 f1 h1 => fun q dx hq hdx hne => makeS_data s1 (r1.append (hxd S1 H1)) h1 q dx hq hdx hne⟩
  refine wpAny_Call_Name_kw (ld_glob I hg M.mg (PySem.W.callWith_K (h₀ := X.base) I.ok.mod.kin M.mkk.kp (thn (ha.run pos pins sh σ H _ I go) fun us s1 hz => ?_) he hpl) hdb)
  obtain ⟨vs, H1, J, r, q⟩ := hz
  exact ⟨J.kIn, run_new M.mkk F hr (L2N.passAt tk σ) J (r.append hd) (fun b s1 k l => hb s1 (.ref b :: us) k l) q⟩
theorem de_newKS {c : Nat} {ix : List Nat} {n : Nat} (M : Gc X.K X.mg x (C.T.cm c) f) (hb : KBn X.K fd ps 1 ks (fun us ws => us ++ permL ix ws) (fun us ws => us ++ permL ix ws)) (F : FnOk X.prog X.w X.K X.mg X.base (L2N.CX X.prog X.w) lv f fd ps (spB X.K C.T 1 0 mB)) (hr : Room (lv + 1) X.A) (tk : L2N.Takes X C.W)
    (hg : Gl X x) (hkw : DK X C Γ kws Γ1 fk) (hall : (backToKw pos (keywordEach kws X.env)).all (·.1.isSome) = true := by rfl) (hks : (backToKw pos (keywordEach kws X.env)).filterMap (·.1) = ks := by rfl) (hn : ks.length = n := by rfl) (hdb : (x == ("__debug__" : Str)) = false := by decide)
    (hpl : ((backTo pos (starEach [] X.env)).any (·.1) || (backToKw pos (keywordEach kws X.env)).any (·.1.isNone)) = false := by rfl) : DE X C Γ (.Call (.Name x p) [] kws pos) Γ1 1 (mMakeK c mB n ix fk) := by
  subst hn
  refine ⟨fun pins sh σ H Q I h => ?_⟩
  have go : tA X.K C.T C.W Γ Γ1 fk σ H (fun zs H1 => zs.length = ks.length ∧ ∀ q dx, H1 q = none → H1 dx = none → dx ≠ q → spB X.K C.T 1 0 mB (.ref q :: permL ix zs) (upd (upd H1 dx (.own q)) q (.ins (C.T.cm c) dx [])) (fun v H2 => v = .non ∧ Q (.ref q) H2) (WE C.W σ)) := by
    obtain ⟨S, ρ, fp, s, h⟩ := h
    refine ⟨S, ρ, fp, s, ?_⟩
    unfold mMakeK mMake at h
    rw [bind_asc] at h
    refine OutA.thenE h fun xs ρ1 vs H1 S1 fp1 e1 s1 r1 f1 h1 => ?_
    dsimp only at h1
    by_cases hl : xs.length = ks.length
    · rw [if_pos hl] at h1
      exact ⟨by rw [← r1.length]; exact hl, fun q dx hq hdx hne => makeS_data s1 (reps_perm r1 (ix := ix)) h1 q dx hq hdx hne⟩
    · rw [if_neg hl] at h1; exact h1.elim
  refine wpAny_Call_Name_kw (ld_glob I hg M.mg (PySem.W.callWith_KW0 (h₀ := X.base) I.ok.mod.kin M.mkk.kp hall (thn (hkw.run pos pins sh σ H _ I go) fun ws s1 hz => ?_) hpl) hdb)
  obtain ⟨zs, H1, J, r, hl, q⟩ := hz
  refine ⟨J.kIn, ?_⟩
  rw [hks]
  exact run_new (us := []) M.mkk F hr (L2N.passAt tk σ) J (vals_perm r (ix := ix)) (fun b s1 k l => hb.to s1 [.ref b] ws k rfl (r.length.symm.trans hl)) q
theorem de_fnKS {ix : List Nat} {n : Nat} (G : Gf X.K X.mg x f fd ps) (hb : KBn X.K fd ps 0 ks (fun us ws => us ++ permL ix ws) (fun us ws => us ++ permL ix ws)) (F : FnOk X.prog X.w X.K X.mg X.base (L2N.CX X.prog X.w) lv f fd ps (spF X.K C.T kr m)) (hr : Room lv X.A) (tk : L2N.Takes X C.W) (hg : Gl X x) (hkw : DK X C Γ kws Γ1 fk)
    (hall : (backToKw pos (keywordEach kws X.env)).all (·.1.isSome) = true := by rfl) (hks : (backToKw pos (keywordEach kws X.env)).filterMap (·.1) = ks := by rfl) (hn : ks.length = n := by rfl) (hdb : (x == ("__debug__" : Str)) = false := by decide)
    (hpl : ((backTo pos (starEach [] X.env)).any (·.1) || (backToKw pos (keywordEach kws X.env)).any (·.1.isNone)) = false := by rfl) : DE X C Γ (.Call (.Name x p) [] kws pos) Γ1 kr (mCallK m n ix fk) := by
  subst hn
  refine ⟨fun pins sh σ H Q I h => ?_⟩
  have go : tA X.K C.T C.W Γ Γ1 fk σ H (fun zs H1 => zs.length = ks.length ∧ spF X.K C.T kr m (permL ix zs) H1 Q (WE C.W σ)) := by
    obtain ⟨S, ρ, fp, st, h⟩ := h
    refine ⟨S, ρ, fp, st, OutA.thenE h fun xs ρ1 vs H1 S1 fp1 e1 s1 r1 f1 h1 => ?_⟩
    dsimp only at h1
    by_cases hl : xs.length = ks.length
    · rw [if_pos hl] at h1
      exact ⟨by rw [← r1.length]; exact hl, call_data (m := m) (C := C) s1 (reps_perm r1 (ix := ix)) h1⟩
    · rw [if_neg hl] at h1; exact h1.elim
  refine wpAny_Call_Name_kw (ld_glob I hg G.mg (PySem.W.callWith_KW0 (h₀ := X.base) I.ok.mod.kin G.kp hall (thn (hkw.run pos pins sh σ H _ I go) fun ws s1 hz => ?_) hpl) hdb)
  obtain ⟨zs, H1, J, r, hl, q⟩ := hz
  refine ⟨J.kIn, ?_⟩
  rw [hks]
  have fits : (permL ix ws).length = ps.length := by rw [← (vals_perm r (ix := ix)).length]; exact F.len _ _ _ _ q
  refine wpAny_call (codeAny_mono (F.run X.A X.stack s1 H1 ⟨[], ks.zip ws⟩ (permL ix ws) (permL ix zs) Q (WE C.W σ) hr J.env0 (hb.to s1 [] ws J.kIn rfl (r.length.symm.trans hl)) (vals_perm r (ix := ix)) q) fun res s' w => ?_)
  match res, w with
  | .error u, w => exact L2N.passAt tk σ pins H1 s1 u s' J w
  | .ok (.ret u), w => exact J.after w
  | .ok .next, w => exact w.elim
  | .ok .brk, w => exact w.elim
  | .ok .cont, w => exact w.elim
end
end Z
set_option Elab.async false
set_option linter.all false
set_option maxRecDepth 100000
/-! Y9: own exceptions: made, raised, caught -/
namespace Z
open PySem PySem.Spec L2
open PyProof.Rows hiding St

/-! ### an exception's __init__ -/
/-- what an __init__ that stores its arguments under ns promises -/
def spX (C : Addr) (ns : List Str) : Sp := fun vs H Q _ => ∃ a ws, vs = .ref a :: ws ∧ ws.length = ns.length ∧ H a = some (exo a C none) ∧ ∀ dx H', H dx = none → dx ≠ a → (∀ b, b ≠ a → b ≠ dx → H' b = H b) → H' a = some (exo a C (some dx)) →
  (∃ fs, H' dx = some (exd dx fs) ∧ ∀ (j : Nat) (g : Str), ns[j]? = some g → fs.lookup g = ws[j]?) → Q .non H'
section
variable {P : Program} {w : World} {K : PySem.W.Frag} {mg : Str → Option Value} {base : Heap} {x qual p1 p2 g g' : Str} {params : Arguments} {body : List Stmt} {scope : Scope} {f C : Addr} {fd : FuncData} {N : List Str} {k : Nat} {dvs : List V} {kws : List (Str × V)}
theorem okX1 (F : FunD K x qual params body scope dvs kws f fd) (S : FnScope N ["self", p1] scope) (T : OexC K C) (hno : PySem.W.findIn K (.ref C) g = some none)
    (hbody : ∀ (cdv : Value) (A : Around) (outer : List PySem.Env) (s : Shared) (H : Hp) (E : XK), PSs (cxOf (L2N.CX P w) P w K mg base N qual scope f cdv A outer s H E) body (tOst K g (tVar 0) (tVar 1))) : FnOk P w K mg base (L2N.CX P w) (k + 1) f fd ["self", p1] (spX C [g]) := by
  refine F.ok S (fun vs H Q E h => ?_) fun cdv A outer s H vs Q E hr h => ⟨_, hbody cdv A outer s H E, ?_⟩
  · obtain ⟨a, ws, rfl, hl, _⟩ := h
    simpa using hl
  · obtain ⟨a, ws, rfl, hl, ha, q⟩ := h
    match ws, hl with
    | [y], _ =>
      refine ⟨y, start_get (vs := [.ref a, y]) (i := 1) rfl, .ref a, start_get (vs := [.ref a, y]) (i := 0) rfl, a, C, rfl, T, hno, .inl ⟨ha, fun dx hdx hne => ?_⟩⟩
      refine q dx _ hdx hne (fun b b1 b2 => by rw [upd_ne b1, upd_ne b2]) upd_same ⟨[(g, y)], by rw [upd_ne hne, upd_same], fun j e he => ?_⟩
      match j, he with
      | 0, he => cases he; simp [List.lookup]
      | j + 1, he => simp at he
theorem okX2 (F : FunD K x qual params body scope dvs kws f fd) (S : FnScope N ["self", p1, p2] scope) (T : OexC K C) (hno : PySem.W.findIn K (.ref C) g = some none) (hno2 : PySem.W.findIn K (.ref C) g' = some none) (hne : g ≠ g')
    (hbody : ∀ (cdv : Value) (A : Around) (outer : List PySem.Env) (s : Shared) (H : Hp) (E : XK), PSs (cxOf (L2N.CX P w) P w K mg base N qual scope f cdv A outer s H E) body (tSeq (tOst K g (tVar 0) (tVar 1)) (tOst K g' (tVar 0) (tVar 2)))) : FnOk P w K mg base (L2N.CX P w) (k + 1) f fd ["self", p1, p2] (spX C [g, g']) := by
  refine F.ok S (fun vs H Q E h => ?_) fun cdv A outer s H vs Q E hr h => ⟨_, hbody cdv A outer s H E, ?_⟩
  · obtain ⟨a, ws, rfl, hl, _⟩ := h
    simpa using hl
  · obtain ⟨a, ws, rfl, hl, ha, q⟩ := h
    match ws, hl with
    | [y, z], _ =>
      have s0 := start_get (N := N) (vs := [.ref a, y, z]) (i := 0) rfl
      refine ⟨y, start_get (vs := [.ref a, y, z]) (i := 1) rfl, .ref a, s0, a, C, rfl, T, hno, .inl ⟨ha, fun dx hdx hnd => ?_⟩⟩
      refine ⟨z, start_get (vs := [.ref a, y, z]) (i := 2) rfl, .ref a, s0, a, C, rfl, T, hno2, .inr ⟨dx, [(g, y)], upd_same, by rw [upd_ne hnd, upd_same], by simp, ?_⟩⟩
      refine q dx _ hdx hnd (fun b b1 b2 => by rw [upd_ne b2, upd_ne b1, upd_ne b2]) (by rw [upd_ne (Ne.symm hnd), upd_same]) ⟨[(g', z), (g, y)], upd_same, fun j e he => ?_⟩
      have e1 : (g == g') = false := by simpa using hne
      match j, he with
      | 0, he => cases he; simp [List.lookup, e1]
      | 1, he => cases he; simp [List.lookup]
      | j + 2, he => simp at he
end
/-- C(e, ..) where nothing is handled: the exception's context is None -/
theorem pmkN_oex {X : Cx} {x : Str} {cl fI : Addr} {k : Nat} {fd : FuncData} {ps : List Str} {sp : Sp} {e : Expr} {es : List Expr} {ta : TA} {p pos : Pos} (T : OexC X.K cl) (hi : PySem.W.findIn X.K (.ref cl) "__init__" = some (some (.ref fI))) (ht : PySem.W.typeIn X.K (.ref fI) = some (.type "function"))
    (F1 : FnOk X.prog X.w X.K X.mg X.base (L2N.CX X.prog X.w) k fI fd ps sp) (hr : Room (k + 1) X.A) (hb : Binds X.K fd ps []) (hg : Gl X x) (hm : X.mg x = some (.ref cl)) (ha : PA X (e :: es) ta)
    (hdb : (x == ("__debug__" : Str)) = false := by decide) (he : starEach (e :: es) X.env = (false, eval e X.env) :: starEach es X.env := by rfl) (hpl : (backTo pos (starEach es X.env)).any (·.1) = false := by rfl) :
    L2N.PMk X (.Call (.Name x p) (e :: es) [] pos) (tMkO cl sp [] ta) := by
  intro pins sh σ H Q I h
  obtain ⟨nm, q, N, bs, bm, sn, sub, ab, col, dd, k0, k1, k2, k3, k5, lk, hbm⟩ := T.cls
  refine wpAny_Call_Name_kw (ld_glob I hg hm (PySem.W.callWith_K (h₀ := X.base) I.ok.mod.kin T.kC (thn (ha.run pos pins sh σ H _ I h) fun us s1 hz => ?_) he hpl) hdb)
  obtain ⟨vs, H1, J, r, small, q1⟩ := hz
  refine ⟨J.kIn, ?_⟩
  obtain ⟨hp, gg, dr, tk, os⟩ := s1
  have grow : ∀ b o, hp.get? b = some o → ((hp.push (PySem.W.kdv_tup us)).push (PySem.HandSPX.excO cl hp.objs.size)).get? b = some o := fun _ _ w => Heap.get?_push_of_some _ (Heap.get?_push_of_some _ w)
  have there : ((hp.push (PySem.W.kdv_tup us)).push (PySem.HandSPX.excO cl hp.objs.size)).get? (hp.objs.size + 1) = some (PySem.HandSPX.excO cl hp.objs.size) := by heap_get
  have J2 := J.laid (t' := tk) (a := hp.objs.size + 1) (o := exo (hp.objs.size + 1) cl none) grow (Nat.le_succ _) (exo_ok there)
  have q2 := q1 (hp.objs.size + 1) (J.hok.fresh (Nat.le_succ _))
  rw [List.append_nil] at q2
  have rr : Vals (V.ref (hp.objs.size + 1) :: vs) (Value.ref (hp.objs.size + 1) :: us) := .cons rfl r
  have len : (Value.ref (hp.objs.size + 1) :: us ++ []).length = ps.length := by
    rw [List.append_nil, ← rr.length]; exact F1.len _ _ _ _ q2
  have bd := hb _ (Value.ref (hp.objs.size + 1) :: us) J2.kIn len
  rw [List.append_nil] at bd
  have few : us.length ≤ sizeLine := by rw [← r.length, sizeLine_eq]; omega
  show wpAny _ _ (call (.ref cl) us) _ _ _
  refine wpAny_call (PySem.HandSPX.call_own F.excBase_ValueError (fun Y => PySem.HandSPX.refsVE_contains Y bm hbm) (J.kIn _ _ lk) (PySem.W.looks_findIn J.kIn hi) (fun self => PySem.W.bind_fn J.kIn self ht) few
    (codeAny_mono (F1.run _ X.stack _ _ ⟨_ :: us, []⟩ _ _ _ (fun _ _ _ => False) (hr.make cl us []) (J2.env0.make cl us []) bd rr q2) fun res s' w => ?_))
  cases res with
  | error er =>
    obtain ⟨_, _, _, _, _, _, _, _, _, _, _, _, z⟩ := w
    exact z.elim
  | ok fl =>
    cases fl with
    | ret u =>
      obtain ⟨v, H2, o2, b2, un2, hk2, rv, ev, d, gs, ea, ed, hd1, q3⟩ := w
      subst ev
      obtain ⟨h2, g2, d2, t2, os'⟩ := s'
      obtain ⟨t0, G, J3, kG, ge, ho, na⟩ := mk_end0 (d2 := d2) (t2 := t2) J (Nat.le_succ _) grow un2 hk2 o2 b2 ea ed hd1
      exact ⟨rv, _, _, _, ⟨G, g2, d2, t2, os'⟩, _, .ref cl, some d, rfl, J3, kG, ge, ho, ⟨rfl, rfl, fun vs z => by cases z; rfl⟩, rfl, rfl, na, rfl, b2, raises_own T.exC T.tyC, q3⟩
    | next => exact False.elim w
    | brk => exact False.elim w
    | cont => exact False.elim w
/-! ### raise C(e, ..) -/
def mRaise (c n : Nat) (fs : Env → R (List D × Env)) : Env → R (Fl × Env) := fun ρ => (fs ρ).bind fun (xs, _) => if xs.length = n then .er c xs else .bad
/-- what is asked of an exception class -/
structure Ex (K : PySem.W.Frag) (mg : Str → Option Value) (x : Str) (C f : Addr) (fd : FuncData) (ps : List Str) : Prop where
  mg : mg x = some (.ref C)
  ox : OexC K C
  at_ : PySem.W.findIn K (.ref C) "__init__" = some (some (.ref f))
  ty : PySem.W.typeIn K (.ref f) = some (.type "function")
  bi : Binds K fd ps []
section
variable {X : Cx} {C : Cz} {P : List Nat} {J : Js} {Γ Γ1 : List Nat} {lv i c n : Nat} {x : Str} {pos p pos' : Pos} {e : Expr} {es : List Expr} {fs : Env → R (List D × Env)} {f : Addr} {fd : FuncData} {ps : List Str}
theorem ds_raise (T : Ex X.K X.mg x (C.T.cm c) f fd ps) (F : FnOk X.prog X.w X.K X.mg X.base (L2N.CX X.prog X.w) lv f fd ps (spX (C.T.cm c) (C.T.fl c))) (hr : Room (lv + 1) X.A) (tk : L2N.Takes X C.W) (hc : X.calm = true) (hn : (C.T.fl c).length = n) (hl : n ≤ 1000) (hg : Gl X x) (ha : DA X C Γ (e :: es) Γ1 fs)
    (hdb : (x == ("__debug__" : Str)) = false := by decide) (he : starEach (e :: es) X.env = (false, eval e X.env) :: starEach es X.env := by rfl) (hpl : (backTo pos (starEach es X.env)).any (·.1) = false := by rfl) :
    DS X C P J Γ (.Raise (some (.Call (.Name x p) (e :: es) [] pos)) none pos') (mRaise c n fs) := by
  refine ps_imp (L2N.ps_raise hc tk (pmkN_oex T.ox T.at_ T.ty F hr T.bi hg T.mg ha hdb he hpl)) fun E σ H h => ?_
  · obtain ⟨S, ρ, fp, s, h⟩ := h
    unfold mRaise at h
    refine ⟨S, ρ, fp, s, ?_⟩
    revert h
    generalize fs ρ = r
    intro h
    match r, h with
    | .ok (xs, ρ1), h =>
      intro vs H1 S1 fp1 s1 r1 f1
      simp only [R.bind_ok] at h
      by_cases e1 : xs.length = n
      · rw [if_pos e1] at h
        have lv1 : vs.length = (C.T.fl c).length := by rw [← r1.length, hn]; exact e1
        refine ⟨by rw [lv1, hn]; exact hl, fun a ha1 => ⟨a, vs, by simp, lv1, upd_same, fun dx H' h1 h2 h3 h4 h5 => ?_⟩⟩
        obtain ⟨gs, h5, h6⟩ := h5
        have h1' : H1 dx = none := by rw [upd_ne h2] at h1; exact h1
        refine ⟨rfl, dx, gs, h4, h5, h1', ?_⟩
        have kk : ∀ b o, H1 b = some o → upd (del H' a) dx (.xd gs) b = some o := fun b o z => by
          have b1 : b ≠ a := ne_of_none z ha1
          have b2 : b ≠ dx := ne_of_none z h1'
          rw [upd_ne b2, del_ne b1, h3 b b1 b2, upd_ne b1]; exact z
        exact h σ Kp.refl dx gs vs _ S1 upd_same h6 ((Stay.grow kk).reps r1) ((f1.less (O2 := fun _ => False) fun b z => False.elim z).trans ⟨fun b o z _ => kk b o z, fun _ z => z, fun _ z => .inl z, fun _ z => False.elim z⟩) fun b z => let ⟨o, w⟩ := s1.sep.al b z; ⟨o, kk b o w⟩
      · rw [if_neg e1] at h; exact h.elim
    | .er c' fs', h => exact h σ Kp.refl
    | .bad, h => exact h.elim
end
/-! ### data without a caught exception -/
mutual
def noX : D → Bool
  | .exc _ _ => false
  | .lst xs => noXs xs
  | .kls xs => noXs xs
  | .tup xs => noXs xs
  | .ins _ fs => noXs fs
  | _ => true
def noXs : List D → Bool
  | [] => true
  | d :: ds => noX d && noXs ds
end
/-- the same classes -/
structure Same (T T' : Tab) : Prop where
  cm : T'.cm = T.cm
  fl : T'.fl = T.fl
section
variable {K : PySem.W.Frag} {T T' : Tab} {H : Hp} {S : Addr → Prop}
mutual
theorem Rep.off (h : Same T T') : ∀ (d : D) (v : V), noX d = true → Rep K T H S d v → Rep K T' H S d v
  | .non, v, _, r => by simp only [Rep] at r ⊢; exact r
  | .bl b, v, _, r => by simp only [Rep] at r ⊢; exact r
  | .int i, v, _, r => by simp only [Rep] at r ⊢; exact r
  | .str x, v, _, r => by simp only [Rep] at r ⊢; exact r
  | .cls c, v, _, r => by simp only [Rep, h.cm] at r ⊢; exact r
  | .lst xs, v, n, r => by
    simp only [Rep] at r ⊢
    obtain ⟨a, vs, e, f, s, r⟩ := r
    exact ⟨a, vs, e, f, s, Reps.off h xs vs (by simpa only [noX] using n) r⟩
  | .kls xs, v, n, r => by
    simp only [Rep] at r ⊢
    obtain ⟨a, vs, e, f, r⟩ := r
    exact ⟨a, vs, e, f, Reps.off h xs vs (by simpa only [noX] using n) r⟩
  | .tup xs, v, n, r => by
    simp only [Rep] at r ⊢
    obtain ⟨a, vs, e, f, r⟩ := r
    exact ⟨a, vs, e, f, Reps.off h xs vs (by simpa only [noX] using n) r⟩
  | .ins c fs, v, n, r => by
    simp only [Rep, h.cm, h.fl] at r ⊢
    obtain ⟨a, dx, vs, e, f, s, l, r⟩ := r
    exact ⟨a, dx, vs, e, f, s, l, Reps.off h fs vs (by simpa only [noX] using n) r⟩
  | .exc c fs, v, n, r => by simp [noX] at n
theorem Reps.off (h : Same T T') : ∀ (ds : List D) (vs : List V), noXs ds = true → Reps K T H S ds vs → Reps K T' H S ds vs
  | [], vs, _, r => by simp only [Reps] at r ⊢; exact r
  | d :: ds, vs, n, r => by
    simp only [Reps] at r ⊢
    obtain ⟨v, ws, e, r1, r2⟩ := r
    simp only [noXs, Bool.and_eq_true] at n
    exact ⟨v, ws, e, Rep.off h d v n.1 r1, Reps.off h ds ws n.2 r2⟩
end
mutual
theorem rep_noX (h : T.ex = none) : ∀ (d : D) (v : V), Rep K T H S d v → noX d = true
  | .non, v, _ => by simp [noX]
  | .bl b, v, _ => by simp [noX]
  | .int i, v, _ => by simp [noX]
  | .str x, v, _ => by simp [noX]
  | .cls c, v, _ => by simp [noX]
  | .lst xs, v, r => by
    simp only [Rep] at r
    obtain ⟨a, vs, e, f, s, r⟩ := r
    simp only [noX]; exact reps_noX h xs vs r
  | .kls xs, v, r => by
    simp only [Rep] at r
    obtain ⟨a, vs, e, f, r⟩ := r
    simp only [noX]; exact reps_noX h xs vs r
  | .tup xs, v, r => by
    simp only [Rep] at r
    obtain ⟨a, vs, e, f, r⟩ := r
    simp only [noX]; exact reps_noX h xs vs r
  | .ins c fs, v, r => by
    simp only [Rep] at r
    obtain ⟨a, dx, vs, e, f, s, l, r⟩ := r
    simp only [noX]; exact reps_noX h fs vs r
  | .exc c fs, v, r => by
    simp only [Rep] at r
    obtain ⟨a, dd, xs, vs, e, _⟩ := r
    rw [h] at e; cases e
theorem reps_noX (h : T.ex = none) : ∀ (ds : List D) (vs : List V), Reps K T H S ds vs → noXs ds = true
  | [], vs, _ => by simp [noXs]
  | d :: ds, vs, r => by
    simp only [Reps] at r
    obtain ⟨v, ws, e, r1, r2⟩ := r
    simp only [noXs, Bool.and_eq_true]
    exact ⟨rep_noX h d v r1, reps_noX h ds ws r2⟩
end
/-- into a suite -/
theorem Rep.on (h : Same T T') (hn : T.ex = none) {d : D} {v : V} (r : Rep K T H S d v) : Rep K T' H S d v := r.off h d v (rep_noX hn d v r)
theorem Reps.on (h : Same T T') (hn : T.ex = none) {d : List D} {v : List V} (r : Reps K T H S d v) : Reps K T' H S d v := r.off h d v (reps_noX hn d v r)
end
/-- what a suite is begun with -/
def supE : List Bool → Env → Env
  | true :: m, x :: r => x :: supE m r
  | false :: m, _ :: r => none :: supE m r
  | _, _ => []
theorem supE_len : ∀ {m : List Bool} {ρ : Env}, m.length = ρ.length → (supE m ρ).length = ρ.length
  | [], [], _ => rfl
  | true :: m, x :: r, h => by simp only [supE, List.length_cons]; rw [supE_len (by simpa using h)]
  | false :: m, x :: r, h => by simp only [supE, List.length_cons]; rw [supE_len (by simpa using h)]
theorem supE_get : ∀ {m : List Bool} {ρ : Env} {j : Nat} {d : D}, (supE m ρ)[j]? = some (some d) → m[j]? = some true ∧ ρ[j]? = some (some d)
  | [], _, j, d, h => by simp [supE] at h
  | b :: m, [], j, d, h => by cases b <;> simp [supE] at h
  | true :: m, x :: r, 0, d, h => by simpa [supE] using h
  | false :: m, x :: r, 0, d, h => by simp [supE] at h
  | true :: m, x :: r, j + 1, d, h => by simpa using supE_get (m := m) (ρ := r) (by simpa [supE] using h)
  | false :: m, x :: r, j + 1, d, h => by simpa using supE_get (m := m) (ρ := r) (by simpa [supE] using h)
/-- an environment of which nothing is known -/
def offE (ρ : Env) : Env := ρ.map fun _ => none
def noXE (ρ : Env) : Bool := ρ.all fun x => match x with
  | some d => noX d
  | none => true
/-- try: body, except x as n: suite; tbl: which own classes the clause takes; m: which names are known in the suite; i: n's slot -/
def mTryAs (tbl : List (Nat × Bool)) (m : List Bool) (i : Nat) (fb fu : Env → R (Fl × Env)) : Env → R (Fl × Env) := fun ρ => match fb ρ with
  | .ok a => .ok a
  | .er c fs => match tbl.lookup c with
    | some true => match fu ((supE m ρ).set i (some (.exc c fs))) with
      | .ok (.rt d, ρ') => if noX d = true then .ok (.rt d, offE ρ') else .bad
      | .ok (.nx, ρ') => if noXE (ρ'.set i none) = true then .ok (.nx, ρ'.set i none) else .bad
      | _ => .bad
    | some false => .er c fs
    | none => .bad
  | .bad => .bad
section
variable {K : PySem.W.Frag} {T T' : Tab} {H : Hp} {S : Addr → Prop}
theorem Own.off (h : Same T T') : ∀ {k : Nat} {d : D} {v : V} {F : List Addr}, noX d = true → Own K T H S k d v F → Own K T' H S k d v F := by
  intro k
  induction k with
  | zero =>
    intro d v F n o
    obtain ⟨e, r⟩ := own_zero.mp o
    exact own_zero.mpr ⟨e, r.off h d v n⟩
  | succ k ih =>
    have o3 : ∀ {xs : List D} {vs : List V} {Fs : List (List Addr)}, noXs xs = true → O3 (Own K T H S k) xs vs Fs → O3 (Own K T' H S k) xs vs Fs := by
      intro xs vs Fs n o
      induction o with
      | nil => exact .nil
      | cons p _ ih2 =>
        simp only [noXs, Bool.and_eq_true] at n
        exact .cons (ih n.1 p) (ih2 n.2)
    intro d v F n o
    cases d with
    | lst xs =>
      simp only [Own] at o ⊢
      obtain ⟨a, vs, Fs, e1, e2, e3, o⟩ := o
      exact ⟨a, vs, Fs, e1, e2, e3, o3 (by simpa only [noX] using n) o⟩
    | ins c fs =>
      simp only [Own, h.cm, h.fl] at o ⊢
      obtain ⟨a, dx, vs, Fs, e1, e2, e3, e4, o⟩ := o
      exact ⟨a, dx, vs, Fs, e1, e2, e3, e4, o3 (by simpa only [noX] using n) o⟩
    | _ =>
      simp only [Own] at o ⊢
      exact ⟨o.1, o.2.off h _ _ n⟩
end
theorem Kp.less {P P' : List Nat} {σ σ' : St} (h : Kp P' σ σ') (hp : ∀ j ∈ P, j ∈ P') : Kp P σ σ' := ⟨h.1, fun j hj => h.2 j (hp j hj)⟩
theorem ow_nil {b : Addr} : ¬ Ow (fun _ => []) b := fun ⟨_, z⟩ => nomatch z
section
variable {X : Cx} {C : Cz} {P P' : List Nat} {J : Js} {Γ Γ0 : List Nat} {i : Nat} {x n : Str} {cv : Value} {pos pos' np : Pos} {body suite : List Stmt} {b₀ : Stmt} {fb fu : Env → R (Fl × Env)} {tbl : List (Nat × Bool)} {m : List Bool}
theorem ds_tryAs (hs : X.stack = X.env :: X.outer) (hf : X.env.frame = some X.env.locals) (hN : X.N.Nodup) (hi : X.N[i]? = some n) (hln : X.env.kindOf n = some .local) (hc : Names X x cv) (tk : L2N.Takes X C.W) (hT : C.T.ex = none)
    (hx : ∀ c b, tbl.lookup c = some b → PySem.W.exmOne X.K (.ref (C.T.cm c)) cv = some b) (hP : ∀ j ∈ P, j ∈ P') (hiP : i ∉ P) (hiΓ : i < Γ.length) (hm : m.length = Γ.length) (hmask : ∀ j, m[j]? = some true → j ∈ P' ∧ Γ.getD j 0 = 0) (h0 : ∀ j, Γ0.getD j 0 = 0) (hΓ0 : Γ0.length = Γ.length)
    (hb : ∀ (W : WX) (pn : List (Addr × Obj)) (xe : Value → Shared → Prop), L2N.Takes (X.tr pn xe) W → PassesOwn (model X.prog X.w) X.A X.env xe → DSs (X.tr pn xe) ⟨C.T, W⟩ P' J Γ body fb)
    (hsu : ∀ (a dd : Addr) (oe : Obj) (cls : Value) (d : Option Addr) (pn : List (Addr × Obj)) (c : Nat), L2N.Zn cls d oe → (∃ vs, oe.data = .fields vs) → cls = .ref (C.T.cm c) → d = some dd → DSs (X.suite a ((a, oe) :: pn)) ⟨{ C.T with ex := some (c, a, dd) }, fun _ _ _ _ => False⟩ P J Γ0 (b₀ :: suite) fu) :
    DS X C P J Γ (.Try body [.ExceptHandler (some (.Name x np)) (some n) (b₀ :: suite) pos'] [] [] pos) (mTryAs tbl m i fb fu) := by
  refine ps_imp (L2N.ps_try_as (tb := fun W => tS X.K C.T W P' J Γ fb) (ts := fun a cls d E σ H => ∃ c dd, cls = .ref (C.T.cm c) ∧ d = some dd ∧ tS X.K { C.T with ex := some (c, a, dd) } (fun _ _ _ _ => False) P J Γ0 fu E σ H) hs hf hN hi hln hc tk hb fun a oe cls d pn hz hd => ⟨fun pins s σ H E I q => ?_⟩) fun E σ H h => ?_
  · obtain ⟨c, dd, e1, e2, q⟩ := q
    exact (hsu a dd oe cls d pn c hz hd e1 e2).run pins s σ H E I q
  · obtain ⟨S, ρ, fp, s, h⟩ := h
    refine ⟨S, ρ, fp, s, ?_⟩
    unfold mTryAs at h
    revert h
    generalize fb ρ = r
    intro h
    match r, h with
    | .ok (.nx, ρ'), h => exact fun σ' H' S' fp' s' k f => h σ' H' S' fp' s' (k.less hP) f
    | .ok (.bk, ρ'), h => exact fun σ' H' S' fp' s' k f => h σ' H' S' fp' s' (k.less hP) f
    | .ok (.ct, ρ'), h => exact fun σ' H' S' fp' s' k f => h σ' H' S' fp' s' (k.less hP) f
    | .ok (.rt d, ρ'), h => exact fun v σ' H' S' fp' Fv s' x' k f => h v σ' H' S' fp' Fv s' x' (k.less hP) f
    | .bad, h => exact h.elim
    | .er c fs, h =>
      intro σ' kp dx xs vs H' S' e1 e2 r f al
      dsimp only at h
      cases q : tbl.lookup c with
      | none => rw [q] at h; exact h.elim
      | some b =>
        rw [q] at h
        cases b with
        | false => exact ⟨false, hx c false q, fun z => (by cases z), fun _ => h σ' (kp.less hP) dx xs vs H' S' e1 e2 r f al⟩
        | true =>
          refine ⟨true, hx c true q, fun _ a ha => ⟨c, dx, rfl, rfl, S', (supE m ρ).set i (some (.exc c fs)), fun _ => [], ?_, ?_⟩, fun z => by cases z⟩
          · have sm : Same C.T { C.T with ex := some (c, a, dx) } := ⟨rfl, rfl⟩
            have st : Stay X.K H S H' S' := .of (fun b ⟨j, z⟩ => s.sep.mu j b z) (fun b ⟨j, z⟩ => s.sep.ns j b z) f
            have ml : m.length = ρ.length := by rw [hm, s.gl, s.len]
            refine ⟨⟨fun j b z => (nomatch z), fun j => List.nodup_nil, fun j l b z => (nomatch z), fun j b z => (nomatch z), al⟩, by rw [List.length_set, List.length_set, supE_len ml, s.len, kp.1], by rw [hΓ0, s.gl, List.length_set, kp.1], fun j d hd => ?_⟩
            rw [h0 j]
            by_cases e : j = i
            · subst e
              have lj : j < (supE m ρ).length := by rw [supE_len ml, s.len, ← s.gl]; exact hiΓ
              rw [List.getElem?_set_self lj] at hd
              cases hd
              refine ⟨.ref a, by rw [List.getElem?_set_self (by rw [kp.1, ← s.gl]; exact hiΓ)], own_zero.mpr ⟨rfl, ?_⟩⟩
              simp only [Rep]
              exact ⟨a, dx, xs, vs, rfl, rfl, e1, e2, r.on sm hT⟩
            · rw [List.getElem?_set_ne (Ne.symm e)] at hd
              obtain ⟨m1, m2⟩ := supE_get hd
              obtain ⟨k1, k2⟩ := hmask j m1
              obtain ⟨v, hv, o⟩ := s.sl j d m2
              rw [k2] at o
              obtain ⟨_, rd⟩ := own_zero.mp o
              exact ⟨v, by rw [List.getElem?_set_ne (Ne.symm e), kp.2 j k1]; exact hv, own_zero.mpr ⟨rfl, (st.rep rd).on sm hT⟩⟩
          · have sm : Same { C.T with ex := some (c, a, dx) } C.T := ⟨rfl, rfl⟩
            have kk : Kp P σ (σ'.set i (some (.ref a))) := (kp.less hP).trans (Kp.set hiP)
            have f0 : Fra H S (Ow fp) H' S' (Ow fun _ => []) := f.less fun b z => absurd z ow_nil
            revert h
            generalize fu ((supE m ρ).set i (some (.exc c fs))) = r2
            intro h
            match r2, h with
            | .ok (.rt d, ρ'), h =>
              intro v σ2 H2 S2 fp2 Fv s2 x2 k2 f2
              dsimp only at h
              by_cases hn : noX d = true
              · rw [if_pos hn] at h
                refine h v σ2 H2 S2 (fun _ => []) Fv ⟨⟨fun j b z => (nomatch z), fun j => List.nodup_nil, fun j l b z => (nomatch z), fun j b z => (nomatch z), s2.sep.al⟩, by unfold offE; rw [List.length_map]; exact s2.len, s2.gl, fun j d' hd => ?_⟩ ⟨x2.own.off sm hn, x2.nd, x2.ns, fun a' ma j => List.not_mem_nil⟩ (kk.trans k2) ((f0.trans f2).less fun b z => ?_)
                · unfold offE at hd
                  rw [List.getElem?_map] at hd
                  cases q2 : ρ'[j]? with
                  | none => rw [q2] at hd; cases hd
                  | some y => rw [q2] at hd; cases hd
                · exact z.elim (fun z => absurd z ow_nil) .inr
              · rw [if_neg hn] at h; exact h.elim
            | .ok (.nx, ρ'), h =>
              intro σ2 H2 S2 fp2 s2 k2 f2
              dsimp only at h
              by_cases hn : noXE (ρ'.set i none) = true
              · rw [if_pos hn] at h
                refine h (σ2.set i none) H2 S2 fp2 ⟨s2.sep, by rw [List.length_set, List.length_set]; exact s2.len, by rw [List.length_set]; exact s2.gl, fun j d hd => ?_⟩ ((kk.trans k2).trans (Kp.set hiP)) (f0.trans f2)
                have nd : noX d = true := by
                  have z := List.all_eq_true.mp hn _ (List.mem_of_getElem? hd)
                  exact z
                by_cases e : j = i
                · subst e
                  rw [List.getElem?_set] at hd
                  split at hd
                  · split at hd <;> cases hd
                  · rename_i z; exact absurd rfl z
                · rw [List.getElem?_set_ne (Ne.symm e)] at hd
                  obtain ⟨v, hv, o⟩ := s2.sl j d hd
                  exact ⟨v, by rw [List.getElem?_set_ne (Ne.symm e)]; exact hv, o.off sm nd⟩
              · rw [if_neg hn] at h; exact h.elim
            | .ok (.bk, ρ'), h => exact h.elim
            | .ok (.ct, ρ'), h => exact h.elim
            | .er c' fs', h => exact h.elim
            | .bad, h => exact h.elim
end
end Z
set_option Elab.async false
set_option linter.all false
set_option maxRecDepth 100000
/-! Y10: within an except suite: the exception's attributes, calls -/
namespace Z
open PySem PySem.Spec L2
open PyProof.Rows hiding St
/-- e.f, e the caught exception in slot i -/
def mFldX (i : Nat) (ix : List (Nat × Nat)) : Env → R (D × Env) := fun ρ => match ρ[i]? with
  | some (some (.exc c fs)) => (ofO ((ix.lookup c).bind fun j => fs[j]?)).bind fun d => .ok (d, ρ)
  | _ => .bad
structure XfOk (K : PySem.W.Frag) (T : Tab) (f : Str) (ix : List (Nat × Nat)) : Prop where
  ok : ∀ c j, ix.lookup c = some j → XfC K (T.cm c) ∧ PySem.W.findIn K (.ref (T.cm c)) f = some none ∧ (T.fl c)[j]? = some f
section
variable {X : Cx} {T : Tab} {W : WX} {Γ Γ1 : List Nat} {i c kr lv : Nat} {a dd : Addr} {oe : Obj} {cls : Value} {d : Option Addr} {pn : List (Addr × Obj)} {fn x y : Str} {pos p p2 : Pos} {e : Expr} {es : List Expr} {ix : List (Nat × Nat)} {f : Addr} {fd : FuncData} {ps : List Str} {m : List D → R D} {fs : Env → R (List D × Env)}
theorem de_xf (ok : XfOk X.K T fn ix) (hz : L2N.Zn cls d oe) (hf : ∃ vs, oe.data = .fields vs) (ec : cls = .ref (T.cm c)) (ed : d = some dd) (hv : PE (X.suite a ((a, oe) :: pn)) (.Name x p) (tVar i)) (hk : Γ.getD i 0 = 0 := by rfl)
    (hb : attributeBase (.Name x p) fn X.env (eval (.Name x p) X.env) = eval (.Name x p) X.env := by rfl) :
    DE (X.suite a ((a, oe) :: pn)) ⟨{ T with ex := some (c, a, dd) }, W⟩ Γ (.Attribute (.Name x p) fn pos) Γ 0 (mFldX i ix) := by
  have key : ∀ {σ : St} {H : Hp} {Q : VK}, tE X.K { T with ex := some (c, a, dd) } W Γ Γ 0 (mFldX i ix) σ H Q → ∃ j v xs, ix.lookup c = some j ∧ σ[i]? = some (some (.ref a)) ∧ H dd = some (.xd xs) ∧ xs.lookup fn = some v ∧ Q v H := by
    rintro σ H Q ⟨S, ρ, fp, s, h⟩
    unfold mFldX at h
    split at h
    · rename_i c' gs q
      obtain ⟨v, hv, o⟩ := s.sl i _ q
      rw [hk] at o
      obtain ⟨_, r⟩ := own_zero.mp o
      simp only [Rep] at r
      obtain ⟨a', dd', xs, vs, e1, e2, e3, e4, r⟩ := r
      cases e1
      subst e2
      cases q2 : ix.lookup c with
      | none => rw [q2] at h; exact h.elim
      | some j =>
        rw [q2] at h
        obtain ⟨_, _, k3⟩ := ok.ok c j q2
        cases q3 : gs[j]? with
        | none => simp only [Option.bind_some, q3] at h; exact h.elim
        | some g =>
          simp only [Option.bind_some, q3] at h
          obtain ⟨w, hw, rw'⟩ := r.get q3
          exact ⟨j, w, xs, rfl, hv, e3, by rw [e4 j fn k3]; exact hw, h w H S fp [] s (.of rw') Fra.refl.ow'⟩
    · exact h.elim
  cases q : ix.lookup c with
  | none => exact ⟨fun pins s σ H Q I h => by
      obtain ⟨j, _, _, z, _⟩ := key h
      rw [q] at z; cases z⟩
  | some j =>
    obtain ⟨k1, k2, k3⟩ := ok.ok c j q
    refine pe_imp (pe_xf (cls := cls) (d := d) k1 k2 hz.zc hf hv hb) fun σ H Q h => ?_
    obtain ⟨j', v, xs, _, z1, z2, z3, z4⟩ := key h
    exact ⟨_, z1, rfl, ec, dd, xs, v, ed, z2, z3, z4⟩
theorem hotC_suite (hz : L2N.Zn cls d oe) (hf : ∃ vs, oe.data = .fields vs) : L2H.HotC (X.suite a ((a, oe) :: pn)) := by
  obtain ⟨vs, e⟩ := hf
  exact ⟨(a, oe), ⟨rfl, vs, e, hz.2.2 vs e⟩, List.mem_cons_self⟩
end
section
variable {X : Cx} {C : Cz} {Γ Γ1 : List Nat} {kr lv : Nat} {x : Str} {pos p : Pos} {e : Expr} {es : List Expr} {f : Addr} {fd : FuncData} {ps : List Str} {m : List D → R D} {fs : Env → R (List D × Env)}
/-- f(e, ..) where an exception is handled -/
theorem de_fnH (G : Gf X.K X.mg x f fd ps) (F : L2H.FnH X.prog X.w X.K X.mg X.base (L2N.CX X.prog X.w) lv f fd ps (spF X.K C.T kr m)) (hr : L2H.RoomH lv X.A) (tk : L2N.Takes X C.W) (hot : L2H.HotC X) (hg : Gl X x) (ha : DA X C Γ (e :: es) Γ1 fs) (hdb : (x == ("__debug__" : Str)) = false := by decide)
    (he : starEach (e :: es) X.env = (false, eval e X.env) :: starEach es X.env := by rfl) (hpl : (backTo pos (starEach es X.env)).any (·.1) = false := by rfl) : DE X C Γ (.Call (.Name x p) (e :: es) [] pos) Γ1 kr (mCall m fs) := by
  refine pe_imp (L2H.pe_callH (E := WE C.W) F hr hot hg G.mg G.kp G.bi (fun σ => L2N.passAt tk σ) ha hdb he hpl) fun σ H Q h => ?_
  obtain ⟨S, ρ, fp, s, h⟩ := h
  exact ⟨S, ρ, fp, s, OutA.thenE h fun xs ρ1 vs H1 S1 fp1 e1 s1 r1 f1 h1 => call_data s1 r1 h1⟩
end
section
variable {P : Program} {w : World} {K : PySem.W.Frag} {T : Tab} {mg : Str → Option Value} {base : Heap} {x qual : Str} {params : Arguments} {body : List Stmt} {scope : Scope} {dvs : List V} {kws : List (Str × V)} {f : Addr} {fd : FuncData} {N ps : List Str} {k kr n : Nat} {J : Js} {Γ Pk : List Nat} {fb : Env → R (Fl × Env)}
theorem start_F {vs : List V} {H : Hp} {Q : VK} {E : XK} (hN : n ≤ N.length) (hΓ : Γ.length = N.length) (h0 : ∀ i, i < n → Γ.getD i 0 = 0) (hkr : J.kr = kr) (h : spF K T kr (mFn n N.length fb) vs H Q E) :
    tS K T (fun cls d _ H => E cls d H) Pk J Γ fb { nx := fun _ H' => Q .non H', rt := Q } (L2.start N vs) H := by
  obtain ⟨S1, ds, r, al, h⟩ := h
  unfold mFn at h
  by_cases e : ds.length = n
  · rw [if_pos e] at h
    refine ⟨S1, _, _, stt_start r al e hN hΓ h0, ?_⟩
    have fr : ∀ {H' : Hp} {S' O' : Addr → Prop}, Fra H S1 (Ow fun _ => []) H' S' O' → Fra H S1 (fun _ => False) H' S' O' := fun f =>
      ⟨fun b o h _ => f.kp b o h ow_nil, f.sm, fun b z => (f.so b z).imp id (Or.imp_left ow_nil), fun b z => (f.oo b z).imp_left ow_nil⟩
    revert h
    generalize fb (ds.map some ++ List.replicate (N.length - n) none) = res
    intro h
    match res, h with
    | .ok (.nx, ρ'), h =>
      intro σ' H' S' fp' s' k f
      refine h .non H' S' [] ?_ List.nodup_nil (fun a z => (nomatch z)) s'.sep.al ((fr f).less fun b z => (nomatch z))
      cases kr with
      | zero => exact own_zero.mpr ⟨rfl, by simp [Rep]⟩
      | succ k => simp [Own, Rep]
    | .ok (.bk, ρ'), h => exact h.elim
    | .ok (.ct, ρ'), h => exact h.elim
    | .ok (.rt d, ρ'), h =>
      intro v σ' H' S' fp' Fv s' x' k f
      rw [hkr] at x'
      exact h v H' S' Fv x'.own x'.nd x'.ns s'.sep.al ((fr f).less fun b z => .inr z)
    | .er c fs, h => exact fun σ' k dx xs vs H' S' e1 e2 r f al => h dx xs vs H' S' e1 e2 r (fr f) al
    | .bad, h => exact h.elim
  · rw [if_neg e] at h; exact h.elim
theorem okFH (F : FunD K x qual params body scope dvs kws f fd) (S : FnScope N ps scope) (hn : ps.length = n) (hΓ : Γ.length = N.length) (h0 : ∀ i, i < n → Γ.getD i 0 = 0) (hkr : J.kr = kr)
    (hbody : ∀ (cdv : Value) (A : Around) (outer : List PySem.Env) (s : Shared) (H : Hp) (E : XK) (p : Addr × Obj), L2H.HotC (L2H.cxH (L2N.CX P w) P w K mg base N qual scope f cdv A outer s H E p) → L2H.RoomH k (A.deeper (envOfC qual scope s.heap.objs.size f cdv)) →
      L2N.Takes (L2H.cxH (L2N.CX P w) P w K mg base N qual scope f cdv A outer s H E p) (fun cls d _ H => E cls d H) →
      DSs (L2H.cxH (L2N.CX P w) P w K mg base N qual scope f cdv A outer s H E p) ⟨T, fun cls d _ H => E cls d H⟩ Pk J Γ body fb) : L2H.FnH P w K mg base (L2N.CX P w) (k + 1) f fd ps (spF K T kr (mFn n N.length fb)) := by
  have hN : n ≤ N.length := by
    have := congrArg List.length S.pre
    rw [List.length_take, hn] at this
    omega
  obtain ⟨oc, od, dV, kV, doc, pm, an, cdv, ct, osl, rfl, lk, hcd, _, _⟩ := F.ex
  exact L2H.fn_ofH lk hcd S (fun vs H Q E h => by rw [hn]; exact spF_len mFn_len vs H Q E h) fun A outer s H vs Q E p hot hr h =>
    ⟨_, hbody cdv A outer s H E p ⟨p, ⟨hot.1, hot.2⟩, List.mem_cons_self⟩ hr (L2N.takes_of rfl rfl rfl rfl), start_F hN hΓ h0 hkr h⟩
end
theorem takes0N {X : Cx} : L2N.Takes X (fun _ _ _ _ => False) := fun _ _ ⟨_, _, _, _, _, _, _, _, _, _, _, _, _, _, _, _, w⟩ => w.elim
end Z
set_option Elab.async false
set_option linter.all false
set_option maxRecDepth 100000
/-! Y11: short words for printed terms with exceptions; isinstance of the caught exception -/
namespace Z
open PySem PySem.Spec L2
open PyProof.Rows hiding St
theorem roomH_mark {k : Nat} {A : Around} {hd : Option Value} (h : Room k A) : L2H.RoomH k (A.mark hd) := ⟨h.dp, h.un⟩
theorem mask_ok {P' Γ : List Nat} {mb : List Bool} (h : ((List.range mb.length).all fun j => !(mb.getD j false) || (P'.contains j && Γ.getD j 0 == 0)) = true) : ∀ j, mb[j]? = some true → j ∈ P' ∧ Γ.getD j 0 = 0 := fun j hj => by
  have hl : j < mb.length := (List.getElem?_eq_some_iff.mp hj).1
  have z := List.all_eq_true.mp h j (List.mem_range.mpr hl)
  have e : mb.getD j false = true := by rw [List.getD_eq_getElem?_getD, hj]; rfl
  rw [e] at z
  simp only [Bool.not_true, Bool.false_or, Bool.and_eq_true, List.contains_iff_mem, beq_iff_eq] at z
  exact z
theorem zeros_ok {Γ : List Nat} (h : Γ.all (· == 0) = true) : ∀ j, Γ.getD j 0 = 0 := fun j => by
  rw [List.getD_eq_getElem?_getD]
  cases e : Γ[j]? with
  | none => rfl
  | some x => exact beq_iff_eq.mp (List.all_eq_true.mp h x (List.mem_of_getElem? e))
section
variable {K : PySem.W.Frag} {cm : Nat → Addr} {fl : Nat → List Str} {D : Addr} {tbl : List (Nat × Bool)} {k : Nat} {b0 : Bool}
/-- an own exception class in an except clause: which classes it takes -/
def EmOk (K : PySem.W.Frag) (cm : Nat → Addr) (D : Addr) (tbl : List (Nat × Bool)) : Prop := ∀ c b, tbl.lookup c = some b → PySem.W.exmOne K (.ref (cm c)) (.ref D) = some b
theorem em_nil : EmOk K cm D [] := fun c b h => by cases h
theorem em_cons (h1 : PySem.W.subIn K (.ref D) (.type "BaseException") = some true) (h2 : PySem.W.hasDictIn K D = true) (h3 : PySem.W.typeIn K (.ref D) = some (.type "type")) (h4 : PySem.W.subIn K (.ref (cm k)) (.ref D) = some b0) (r : EmOk K cm D tbl) : EmOk K cm D ((k, b0) :: tbl) := fun c b h => by
  rw [List.lookup_cons] at h
  split at h
  · rename_i e
    cases h
    have e := beq_iff_eq.mp e
    subst e
    exact PySem.W.exm_ref h1 h2 h3 h4
  · exact r c b h
theorem xf_nil {T : Tab} {f : Str} : XfOk K T f [] := ⟨fun c j h => by cases h⟩
theorem xf_cons {T : Tab} {f : Str} {k n : Nat} {ix : List (Nat × Nat)} (h1 : PySem.W.findIn K (.ref (T.cm k)) "__getattribute__" = some (some (.builtin "BaseException.__getattribute__"))) (h2 : PySem.W.findIn K (.ref (T.cm k)) "__getattr__" = some none) (h3 : PySem.W.subIn K (.ref (T.cm k)) (.type "BaseException") = some true) (h4 : PySem.W.hasDictIn K (T.cm k) = true)
    (h5 : PySem.W.findIn K (.ref (T.cm k)) f = some none) (h6 : (T.fl k)[n]? = some f) (r : XfOk K T f ix) : XfOk K T f ((k, n) :: ix) := ⟨fun c j h => by
  rw [List.lookup_cons] at h
  split at h
  · rename_i e
    cases h
    have e := beq_iff_eq.mp e
    subst e
    exact ⟨⟨h1, h2, h3, h4⟩, h5, h6⟩
  · exact r.ok c j h⟩
end
/-! ### isinstance(e, C), e the caught exception -/
structure ExI (K : PySem.W.Frag) (D : Addr) : Prop where
  c : (PySem.W.clsIn K D).isSome = true
  g : PySem.W.findIn K (.ref D) "__getattribute__" = some (some (.builtin "BaseException.__getattribute__"))
  k : PySem.W.findIn K (.ref D) "__getattr__" = some none
  s : PySem.W.subIn K (.ref D) (.type "BaseException") = some true
  a : PySem.W.findIn K (.ref D) "__class__" = some (some (.builtin "object.__class__"))
  n : PySem.W.specialIn K (.builtin "object.__class__") "__get__" = some (some (.builtin "getset_descriptor.__get__"))
  t : PySem.W.takesIn K (.builtin "object.__class__") = some true
  m : PySem.W.mroIn K D (.type "object") = some true
/-- which classes are D or under it -/
structure IsOk (K : PySem.W.Frag) (cm : Nat → Addr) (D : Addr) (tbl : List (Nat × Bool)) : Prop where
  ok : ∀ c b, tbl.lookup c = some b → ExI K (cm c) ∧ PySem.W.kitOne K (.ref (cm c)) (.ref D) = some b
theorem is_nil {K : PySem.W.Frag} {cm : Nat → Addr} {D : Addr} : IsOk K cm D [] := ⟨fun c b h => by cases h⟩
theorem is_cons {K : PySem.W.Frag} {cm : Nat → Addr} {D : Addr} {tbl : List (Nat × Bool)} {k : Nat} {b0 : Bool} (h1 : ExI K (cm k)) (h2 : PySem.W.kitOne K (.ref (cm k)) (.ref D) = some b0) (r : IsOk K cm D tbl) : IsOk K cm D ((k, b0) :: tbl) := ⟨fun c b h => by
  rw [List.lookup_cons] at h
  split at h
  · rename_i e
    cases h
    have e := beq_iff_eq.mp e
    subst e
    exact ⟨h1, h2⟩
  · exact r.ok c b h⟩
theorem kit_ne {K : PySem.W.Frag} {C D : Addr} {b : Bool} (hn : (C == D) = false) (h1 : PySem.W.isClsIn K D = true) (h2 : PySem.W.typeIn K (.ref D) = some (.type "type")) (h3 : PySem.W.subIn K (.ref C) (.ref D) = some b) : PySem.W.kitOne K (.ref C) (.ref D) = some b := by
  have e1 : ((Value.ref C) == (Value.ref D)) = false := by
    rw [Bool.eq_false_iff]
    intro z
    have := Value.ref.inj (beq_iff_eq.mp z)
    rw [this] at hn
    simp at hn
  have e2 : ((PySem.W.clsIn K D).isSome && PySem.W.typeIn K (.ref D) == some (.type "type")) = true := by
    have h1' : (PySem.W.clsIn K D).isSome = true := h1
    rw [h1', h2] <;> rfl
  unfold PySem.W.kitOne
  rw [if_neg (by rw [e1]; decide)]
  show (if ((PySem.W.clsIn K D).isSome && PySem.W.typeIn K (.ref D) == some (.type "type")) = true then PySem.W.subIn K (.ref C) (.ref D) else none) = some b
  rw [if_pos e2]; exact h3
theorem kit_eq {K : PySem.W.Frag} {C : Addr} : PySem.W.kitOne K (.ref C) (.ref C) = some true := by
  unfold PySem.W.kitOne
  rw [if_pos (by simp)]
def mIsX (i : Nat) (tbl : List (Nat × Bool)) : Env → R (D × Env) := fun ρ => match ρ[i]? with
  | some (some (.exc c _)) => (ofO (tbl.lookup c)).bind fun b => .ok (.bl b, ρ)
  | _ => .bad
section
variable {X : Cx} {T : Tab} {W : WX} {Γ : List Nat} {i c : Nat} {a dd D : Addr} {oe : Obj} {cls : Value} {d : Option Addr} {pn : List (Addr × Obj)} {x y : Str} {pos pf p p2 : Pos} {tbl : List (Nat × Bool)}
theorem call_isX {a D dd : Addr} (C : ExI X.K D) (hz : Zc (.ref D) (some dd) oe) (hf : ∃ vs, oe.data = .fields vs) :
    CallR (X.suite a ((a, oe) :: pn)) (.builtin "isinstance") (fun xs H Q => ∃ (E : Addr) (b : Bool) (fs : List (Str × V)), xs = [.ref a, .ref E] ∧ PySem.W.kitOne X.K (.ref D) (.ref E) = some b ∧ H dd = some (.xd fs) ∧ Q (.bl b) H) := by
  intro pins s σ H xs us Q I r h
  obtain ⟨E, b, fs, rfl, e, hd, q⟩ := h
  match us, r with
  | [v1, v2], .cons r1 (.cons r2 .nil) =>
    obtain rfl : v1 = Value.ref a := r1
    obtain rfl : v2 = Value.ref E := r2
    obtain ⟨hget, _⟩ := I.pin (a, oe) (List.mem_append.mpr (.inl List.mem_cons_self))
    obtain ⟨vs, hv⟩ := hf
    obtain ⟨mA, hns, hr⟩ := show ObjOk X.prog X.w H s.heap dd (.xd fs) from I.hok dd _ hd
    obtain ⟨od, ho, hl⟩ := lookIn_ns hns
    have J : PySem.W.InstAt s.heap a oe D (some od) := ⟨hget, hz.1, by unfold PySem.W.notCls; rw [hv] <;> rfl, by rw [hz.2]; exact ho⟩
    exact PySem.W.kia_one (PySem.W.kitx_exc C.c C.g C.k C.s C.a C.n C.t C.m) I.kIn J e (fun z => nomatch z) fun tk => ⟨.bl b, H, I.kept (t' := tk) (fun _ _ z => z), rfl, q⟩
theorem de_isX (ok : IsOk X.K T.cm D tbl) (hz : L2N.Zn cls d oe) (hf : ∃ vs, oe.data = .fields vs) (ec : cls = .ref (T.cm c)) (ed : d = some dd) (hv : PE (X.suite a ((a, oe) :: pn)) (.Name x p) (tVar i)) (hg : Gl X "isinstance") (hm : X.mg "isinstance" = none) (hgy : Gl X y) (hmy : X.mg y = some (.ref D)) (hk : Γ.getD i 0 = 0 := by rfl)
    (hdb : (y == ("__debug__" : Str)) = false := by decide)
    (hs1 : starEach [.Name x p, .Name y p2] X.env = (false, eval (.Name x p) X.env) :: starEach [.Name y p2] X.env := by rfl) (hs2 : starEach [.Name y p2] X.env = (false, eval (.Name y p2) X.env) :: starEach [] X.env := by rfl) (hpl : (backTo pos (starEach [.Name y p2] X.env)).any (·.1) = false := by rfl) :
    DE (X.suite a ((a, oe) :: pn)) ⟨{ T with ex := some (c, a, dd) }, W⟩ Γ (.Call (.Name "isinstance" pf) [.Name x p, .Name y p2] [] pos) Γ 0 (mIsX i tbl) := by
  have key : ∀ {σ : St} {H : Hp} {Q : VK}, tE X.K { T with ex := some (c, a, dd) } W Γ Γ 0 (mIsX i tbl) σ H Q → ∃ b xs, tbl.lookup c = some b ∧ σ[i]? = some (some (.ref a)) ∧ H dd = some (.xd xs) ∧ Q (.bl b) H := by
    rintro σ H Q ⟨S, ρ, fp, s, h⟩
    unfold mIsX at h
    split at h
    · rename_i c' gs q
      obtain ⟨v, hv, o⟩ := s.sl i _ q
      rw [hk] at o
      obtain ⟨_, r⟩ := own_zero.mp o
      simp only [Rep] at r
      obtain ⟨a', dd', xs, vs, e1, e2, e3, e4, r⟩ := r
      cases e1
      subst e2
      cases q2 : tbl.lookup c with
      | none => rw [q2] at h; exact h.elim
      | some b =>
        rw [q2] at h
        exact ⟨b, xs, rfl, hv, e3, h (.bl b) H S fp [] s (.of (by simp [Rep])) Fra.refl.ow'⟩
    · exact h.elim
  cases q : tbl.lookup c with
  | none => exact ⟨fun pins s σ H Q I h => by
      obtain ⟨b, _, z, _⟩ := key h
      rw [q] at z; cases z⟩
  | some b =>
    obtain ⟨k1, k2⟩ := ok.ok c b q
    subst ec
    subst ed
    refine pe_imp (pe_callB (X := X.suite a ((a, oe) :: pn)) (call_isX k1 hz.zc hf) hg hm (by rfl) (pa_cons hv (pa_cons (pe_glob hgy hmy (show RelV (V.ref D) (.ref D) from rfl) hdb) pa_nil hs2) hs1) (by decide) (by decide) hs1 hpl) fun σ H Q h => ?_
    obtain ⟨b', xs, z1, z2, z3, z4⟩ := key h
    rw [q] at z1
    cases z1
    exact ⟨_, z2, D, b, xs, rfl, k2, z3, z4⟩
end
end Z
set_option Elab.async false
set_option linter.all false
set_option maxRecDepth 100000
set_option maxHeartbeats 1000000
/-! Y12: list(reversed(x)), x a list -/
namespace Z
open PySem PySem.Spec L2
open PyProof.Rows hiding St
section
variable {prog : Program} {w : World} {A : Around} {E : Value → Shared → Prop} {s : Shared}
abbrev nwL : Obj := { cls := .type "list", data := .seq #[] }
theorem call_lstRev {it l : Addr} {xs : Array Value} {Q : Value → Shared → Prop} (hh : A.handled = none) (hit : s.heap.IsRevIter it l ((xs.size : Int) - 1)) (hl : s.heap.IsList l xs) (hne : l ≠ it) (hn : xs.size ≤ sizeLine)
    (hQ : ∀ (h' : Heap) (tk : Nat) (acc : Array Value) (c : Nat), (∀ b o, b ≠ it → s.heap.get? b = some o → h'.get? b = some o) → h'.get? s.heap.objs.size = some { cls := .type "list", dict := none, data := .seq acc c, slots := #[] } →
      ItemsOf (fun i v => xs[xs.size - 1 - i]? = some v) acc xs.size → Q (.ref s.heap.objs.size) { s with heap := h', toks := tk }) : wpAny (model prog w) A (call (.type "list") [.ref it]) Q E s := by
  have W := (Walks.listRev (prog := prog) (w := w) (A := A.in1.in1) hh it l hne xs).toS
  have hSi : s.heap.objs.size ≠ it := by obtain ⟨oi, hoi, _⟩ := id hit; exact Nat.ne_of_gt (Heap.lt_size hoi)
  have hSl : s.heap.objs.size ≠ l := by obtain ⟨ol, hol, _⟩ := id hl; exact Nat.ne_of_gt (Heap.lt_size hol)
  have hSf : s.heap.objs.size ∉ [it, l] := by simp [hSi, hSl]
  refine callType_codes (Q₁ := fun ob s' => ob = .ref s.heap.objs.size ∧ s' = { s with heap := s.heap.push nwL }) F.called_list (F.typeCall_list_1 _) F.entry_list_init (code_list_new _ ⟨rfl, rfl⟩) fun ob s' h1 => ?_
  obtain ⟨rfl, rfl⟩ := h1
  have g1 : (s.heap.push nwL).get? s.heap.objs.size = some nwL := Heap.get?_push_size _ rfl
  refine ⟨⟨_, g1, rfl⟩, F.args_list_init_2 _ _, ?_⟩
  show wpAny _ _ (do let old ← Builtin.List.listItems (.ref s.heap.objs.size); Builtin.List.listUpdate (.ref s.heap.objs.size) (fun _ => #[]); letGo old.toList.reverse; Builtin.List.listExtendWith (.ref s.heap.objs.size) (.ref it) .none) _ _ _
  refine wpAny_bind ?_; unfold Builtin.List.listItems
  refine wpAny_bind (wpAny_seqItems g1 rfl (wpAny_pure ?_)); show wpAny _ _ (updateSeq s.heap.objs.size (fun _ => #[]) >>= fun _ => letGo (#[] : Array Value).toList.reverse >>= fun _ => Builtin.List.listExtendWith (.ref s.heap.objs.size) (.ref it) .none) _ _ _
  refine wpAny_bind (wpAny_updateSeq g1 rfl ?_); refine wpAny_bind (wpAny_letGo ?_)
  have g2 := Heap.get?_update_self (Obj.mapSeq (fun _ => (#[] : Array Value))) g1 rfl
  have oth : ∀ b o, b ≠ s.heap.objs.size → s.heap.get? b = some o → ((s.heap.push nwL).update s.heap.objs.size (Obj.mapSeq (fun _ => (#[] : Array Value)))).get? b = some o := fun b o hb e => (Heap.get?_update_other _ _ (Ne.symm hb)).trans (Heap.get?_push_of_some _ e)
  generalize ((s.heap.push nwL).update s.heap.objs.size (Obj.mapSeq (fun _ => (#[] : Array Value)))) = hp at g2 oth ⊢
  have hit1 : hp.IsRevIter it l ((xs.size : Int) - 1) := hit.at fun o e => oth _ _ (Ne.symm hSi) e
  have hl1 : hp.IsList l xs := by obtain ⟨ol, hol, z⟩ := id hl; exact ⟨ol, oth _ _ (Ne.symm hSl) hol, z⟩
  have hT : ({ s with heap := hp } : Shared).TypeIs (.ref it) "list_reverseiterator" := Heap.IsRevIter.typeIs (s := { s with heap := hp }) hit1
  have same : Builtin.List.listSameRef (.ref s.heap.objs.size) (.ref it) = false := by simp [Builtin.List.listSameRef, hSi]
  unfold Builtin.List.listExtendWith
  refine wpAny_bind (wpAny_typeOf hT ?_); rw [if_neg (by rw [same]; decide)]
  refine wpAny_bind (wpAny_pyIter_revIter (s := { s with heap := hp }) hit1 ?_); refine wpAny_bind (wpAny_holding ?_)
  unfold Builtin.List.listLengthHint
  refine wpAny_bind (wpAny_specialOf hT RT.nolen_lri ?_); show wpAny _ _ (specialOf (Value.ref it) (Str.ofString "__length_hint__") >>= _) _ _ _
  refine wpAny_bind (wpAny_specialOf hT RT.hint_lri ?_); generalize hid : ("list_reverseiterator.__length_hint__" : String) = id1
  wp_delta; rw [show splitId id1 = some ("list_reverseiterator", "__length_hint__") from by subst hid; decide +kernel]; subst hid
  refine wpAny_bind (wpAny_isInstance (b := true) hT (by rw [isSubtype_type]; kernel_rfl) ?_); refine wpAny_pure ?_; rw [if_neg (by decide)]
  have e0 : ((xs.size : Nat) : Int) - 1 - ((0 : Nat) : Int) = (xs.size : Int) - 1 := by omega
  refine wpAny_pure ⟨plainId_quiet F.plain_extend_loop _, codeAny_extend_loopS W hn _ hSf _ xs.size 0 _ _ _ rfl (Nat.zero_le _) ⟨Nat.zero_le _, by rw [e0]; exact hit1, hl1⟩ g2 (ItemsOf.nil _) fun s2 acc c hm gS hacc => ?_⟩
  rw [Moved.eq_with hm]
  refine ⟨rfl, hQ s2.heap s2.toks acc c (fun b o hb e => ?_) gS hacc⟩
  have nS : b ≠ s.heap.objs.size := Nat.ne_of_lt (Heap.lt_size e)
  exact hm.heap b o (fun z => (List.mem_cons.mp z).elim nS fun z => hb (List.mem_singleton.mp z)) (oth b o nS e)
end
/-- list(reversed(x)) -/
def gLstRev : D → Option D
  | .lst xs => some (.lst xs.reverse)
  | .kls xs => some (.lst xs.reverse)
  | _ => none
def tLstRev (K : PySem.W.Frag) (te : TE) : TE := fun σ H Q => te σ H fun v H1 => ∃ (a : Addr) (xs : List V), v = .ref a ∧ SqL K H1 a xs ∧ ∀ q, H1 q = none → Q (.ref q) (upd H1 q (.lst xs.reverse))
section
variable {X : Cx} {C : Cz} {Γ Γ1 : List Nat} {k : Nat} {fa : Env → R (D × Env)}
theorem pe_lstRev {e : Expr} {te : TE} {p p2 pos pos2 : Pos} (hc : X.calm = true) (hm : X.mg "list" = none) (hm2 : X.mg "reversed" = none) (hg : Gl X "list") (hg2 : Gl X "reversed") (he : PE X e te)
    (hs : starEach [e] X.env = (false, eval e X.env) :: starEach [] X.env := by rfl)
    (hs2 : starEach [.Call (.Name "reversed" p2) [e] [] pos2] X.env = (false, eval (.Call (.Name "reversed" p2) [e] [] pos2) X.env) :: starEach [] X.env := by rfl) :
    PE X (.Call (.Name "list" p) [.Call (.Name "reversed" p2) [e] [] pos2] [] pos) (tLstRev X.K te) := by
  refine ⟨fun pins s σ H Q I h => ?_⟩
  refine Call_ (ld_blt I hg hm boot_list (callWith_type1 (args_cons (Call_ (ld_blt I hg2 hm2 boot_reversed (callWith_type1 (args_cons (thn (he.run pins s σ H _ I h) fun u s1 ⟨v, H1, I1, r1, q1⟩ => args_nil ?_) hs) hs rfl))) hs2) hs2 rfl))
  obtain ⟨a, xs, ev, hq, q⟩ := q1
  subst ev
  obtain rfl : u = Value.ref a := r1
  obtain ⟨its, rv, p', hz⟩ := I1.list hq
  refine call_reversed_list p'.isList (args_nil ?_)
  have kp0 : ∀ b o, s1.heap.get? b = some o → (s1.heap.push (revObj a ((its.toArray.size : Int) - 1))).get? b = some o := fun b o e => Heap.get?_push_of_some _ e
  have I2 : Inv X pins σ H1 { s1 with heap := s1.heap.push (revObj a ((its.toArray.size : Int) - 1)) } := I1.kept (t' := s1.toks) kp0
  obtain ⟨f0, f1, f2, f3, f4, f5⟩ := I1.fpOk (H' := H1) (b := s1.heap.objs.size) (Nat.le_refl _) (I1.hok.fresh (Nat.le_refl _))
  have hl := p'.isList
  have hne : a ≠ s1.heap.objs.size := by obtain ⟨ol, hol, _⟩ := id hl; exact Nat.ne_of_lt (Heap.lt_size hol)
  refine call_lstRev (s := { s1 with heap := s1.heap.push (revObj a ((its.toArray.size : Int) - 1)) }) (I1.ok.hd hc) ⟨_, Heap.get?_push_size _ rfl, rfl, rfl⟩ (hl.push _) hne (by rw [List.size_toArray, ← rv.length]; exact hz) fun h' tk acc c hk hS hi => ?_
  have e1 : (s1.heap.push (revObj a ((its.toArray.size : Int) - 1))).objs.size = s1.heap.objs.size + 1 := by simp
  refine ⟨.ref _, upd H1 _ (.lst xs.reverse), I1.laid (t' := tk) (fun b o e => hk b o (Nat.ne_of_lt (Heap.lt_size e)) (kp0 b o e)) (by rw [e1]; exact Nat.le_succ _) (show ObjOk X.prog X.w _ _ _ (.lst xs.reverse) from ⟨by rw [List.length_reverse]; exact hz, acc.toList, c, RT.vals_rev rv hi, by rw [Array.toArray_toList]; exact hS⟩), rfl, q _ (I1.hok.fresh (by rw [e1]; exact Nat.le_succ _))⟩
theorem de_lstRev {e : Expr} {p p2 pos pos2 : Pos} (hc : X.calm = true) (hm : X.mg "list" = none) (hm2 : X.mg "reversed" = none) (hg : Gl X "list") (hg2 : Gl X "reversed") (ha : DE X C Γ e Γ1 0 fa) (hk : k ≤ 1 := by decide)
    (hs : starEach [e] X.env = (false, eval e X.env) :: starEach [] X.env := by rfl)
    (hs2 : starEach [.Call (.Name "reversed" p2) [e] [] pos2] X.env = (false, eval (.Call (.Name "reversed" p2) [e] [] pos2) X.env) :: starEach [] X.env := by rfl) : DE X C Γ (.Call (.Name "list" p) [.Call (.Name "reversed" p2) [e] [] pos2] [] pos) Γ1 k (mUn gLstRev fa) :=
  pe_imp (pe_lstRev hc hm hm2 hg hg2 ha hs hs2) fun σ H Q h => un_data (r := fun v H1 G => ∃ a xs, v = .ref a ∧ SqL X.K H1 a xs ∧ ∀ b, H1 b = none → G (.ref b) (upd H1 b (.lst xs.reverse))) (fun S H d v d' r e => by
    match d, e with
    | .lst xs, e =>
      cases e
      simp only [Rep] at r
      obtain ⟨a, vs, rfl, h1, h2, r⟩ := r
      exact .inr (.inl ⟨_, _, rfl, hk, r.reverse, fun Q q => ⟨a, vs, rfl, .inl (.inl h1), q⟩⟩)
    | .kls xs, e =>
      cases e
      simp only [Rep] at r
      obtain ⟨a, vs, rfl, h1, r⟩ := r
      exact .inr (.inl ⟨_, _, rfl, hk, r.reverse, fun Q q => ⟨a, vs, rfl, h1.sql, q⟩⟩)) h
end
end Z
set_option Elab.async false
set_option linter.all false
set_option maxRecDepth 100000
/-! Y13: math.comb; walks over zip(a, b) -/
namespace Z
open PySem PySem.Spec L2
open PyProof.Rows hiding St
def cComb (a b : Int) : Bool := decide (0 ≤ a) && decide (0 ≤ b) && decide (a ≤ 9000)
def combI (a b : Int) : Int := PySem.W.mcComb a b
def rComb : List V → Hp → VK → Prop := fun xs H Q => ∃ i j, xs = [.int i, .int j] ∧ cComb i j = true ∧ Q (.int (combI i j)) H
theorem cr_comb {X : Cx} : CallR X (.builtin "math.comb") rComb := by
  intro pins s σ H vs us Q I r h
  obtain ⟨a, b, rfl, hc, q⟩ := h
  obtain ⟨t, u, rfl⟩ := Vals.int2 r
  simp only [cComb, Bool.and_eq_true, decide_eq_true_eq] at hc
  exact PySem.W.mc_comb_v (c := combI a b) hc.1.1 hc.1.2 (by omega) (.inr (by omega)) rfl ⟨.int _, H, I.tok _, ⟨_, rfl⟩, q⟩
theorem p_comb {K : PySem.W.Frag} {T : Tab} : PrimR K T 0 rComb (gTwo (gII cComb combI)) := Prim2.args fun S H x y v w d r1 r2 e => by
  obtain ⟨i, j, rfl, rfl, q, rfl⟩ := gII_some e
  exact gives_val (by simp [Rep]) fun Q q' => ⟨i, j, by rw [rep_int r1, rep_int r2], q, q'⟩
/-! zip -/
def zipD (xs ys : List D) : List D := List.zipWith (fun x y => D.tup [x, y]) xs ys
def mZip (fs : Env → R (List D × Env)) : Env → R (List D × Env) := fun ρ => (fs ρ).bind fun (ds, ρ1) => match ds with
  | [d, e] => match seqD d, seqD e with
    | some (true, xs), some (true, ys) => .ok (zipD xs ys, ρ1)
    | some (false, xs), some (false, ys) => .ok (zipD xs ys, ρ1)
    | _, _ => .bad
  | _ => .bad
theorem zipD_len (xs ys : List D) : (zipD xs ys).length = min xs.length ys.length := List.length_zipWith
theorem zipD_get {xs ys : List D} {i : Nat} {d : D} (h : (zipD xs ys)[i]? = some d) : ∃ x y, xs[i]? = some x ∧ ys[i]? = some y ∧ d = .tup [x, y] := by
  unfold zipD at h
  rw [List.getElem?_zipWith] at h
  cases e1 : xs[i]? with
  | none => rw [e1] at h; cases h
  | some x =>
    cases e2 : ys[i]? with
    | none => rw [e1, e2] at h; cases h
    | some y => rw [e1, e2] at h; cases h; exact ⟨x, y, rfl, rfl, rfl⟩
section
variable {K : PySem.W.Frag} {T : Tab} {S : Addr → Prop} {H : Hp} {xs ys : List D} {a b : Addr} {vs ws : List V}
theorem it_zipL (r : Reps K T H S xs vs) (r' : Reps K T H S ys ws) (st : ∀ H' S', Stay K H S H' S' → SqL K H' a vs) (st' : ∀ H' S', Stay K H S H' S' → SqL K H' b ws) : ItOk K T S H (Itz K a b) (zipD xs ys) := by
  refine ⟨fun S' H' s i hi => ?_, fun S' H' s i d hd => ?_, fun S' H' s i d hd x H2 hy => ?_⟩
  · rw [zipD_len, r.length, r'.length] at hi
    exact ⟨vs, ws, st H' S' s, st' H' S' s, by omega⟩
  · obtain ⟨y, z, h1, h2, _⟩ := zipD_get hd
    obtain ⟨v, hv, _⟩ := r.get h1
    obtain ⟨w, hw, _⟩ := r'.get h2
    exact ⟨vs, ws, v, w, st H' S' s, st' H' S' s, hv, hw⟩
  · obtain ⟨y, z, h1, h2, rfl⟩ := zipD_get hd
    obtain ⟨v, hv, rv⟩ := r.get h1
    obtain ⟨w, hw, rw'⟩ := r'.get h2
    obtain ⟨t, u, u', rfl, hn, rfl, hu, hu'⟩ := hy
    have e := hu vs (st H' S' s)
    rw [hv] at e; cases e
    have e := hu' ws (st' H' S' s)
    rw [hw] at e; cases e
    refine ⟨kept_upd hn, ?_⟩
    have g := Stay.grow (K := K) (S := S') (kept_upd (u := .tup [v, w]) hn)
    simp only [Rep, Reps]
    exact ⟨t, _, rfl, .inl (.inl upd_same), v, _, rfl, g.rep (s.rep rv), w, [], rfl, g.rep (s.rep rw'), rfl⟩
theorem it_zipT (r : Reps K T H S xs vs) (r' : Reps K T H S ys ws) (st : ∀ H' S', Stay K H S H' S' → SqT K H' a vs) (st' : ∀ H' S', Stay K H S H' S' → SqT K H' b ws) : ItOk K T S H (RZ.ItzT K a b) (zipD xs ys) := by
  refine ⟨fun S' H' s i hi => ?_, fun S' H' s i d hd => ?_, fun S' H' s i d hd x H2 hy => ?_⟩
  · rw [zipD_len, r.length, r'.length] at hi
    exact ⟨vs, ws, st H' S' s, st' H' S' s, by omega⟩
  · obtain ⟨y, z, h1, h2, _⟩ := zipD_get hd
    obtain ⟨v, hv, _⟩ := r.get h1
    obtain ⟨w, hw, _⟩ := r'.get h2
    exact ⟨vs, ws, v, w, st H' S' s, st' H' S' s, hv, hw⟩
  · obtain ⟨y, z, h1, h2, rfl⟩ := zipD_get hd
    obtain ⟨v, hv, rv⟩ := r.get h1
    obtain ⟨w, hw, rw'⟩ := r'.get h2
    obtain ⟨t, u, u', rfl, hn, rfl, hu, hu'⟩ := hy
    have e := hu vs (st H' S' s)
    rw [hv] at e; cases e
    have e := hu' ws (st' H' S' s)
    rw [hw] at e; cases e
    refine ⟨kept_upd hn, ?_⟩
    have g := Stay.grow (K := K) (S := S') (kept_upd (u := .tup [v, w]) hn)
    simp only [Rep, Reps]
    exact ⟨t, _, rfl, .inl (.inl upd_same), v, _, rfl, g.rep (s.rep rv), w, [], rfl, g.rep (s.rep rw'), rfl⟩
end
section
variable {X : Cx} {C : Cz} {Γ Γ1 : List Nat} {fs : Env → R (List D × Env)} {e e2 : Expr} {p pos tpos : Pos} {elts : List Expr} {kk : Nat}
theorem OutA.thenI2 {K : PySem.W.Frag} {T : Tab} {W : WX} {σ : St} {H : Hp} {S : Addr → Prop} {fp : Nat → List Addr} {r : R (List D × Env)} {Q' : List V → Hp → Prop} {Γ' Γ2 : List Nat} {Q : It → Hp → Prop} {g : List D × Env → R (List D × Env)} (h : OutI K T W Γ2 σ H S fp Q (r.bind g))
    (go : ∀ ds ρ1 vs H1 S1 fp1, r = .ok (ds, ρ1) → Stt K T Γ' S1 σ H1 ρ1 fp1 → Reps K T H1 S1 ds vs → Fra H S (Ow fp) H1 S1 (Ow fp1) → OutI K T W Γ2 σ H S fp Q (g (ds, ρ1)) → Q' vs H1) : OutA K T W Γ' σ H S fp Q' r := by
  cases r with
  | ok a =>
    obtain ⟨d, ρ1⟩ := a
    intro vs H' S' fp' s rr f
    exact go d ρ1 vs H' S' fp' rfl s rr f h
  | er c fs => exact h
  | bad => exact h
theorem di_zip (hg : Gl X "zip") (hm : X.mg "zip" = none) (ha : DA X C Γ [e, e2] Γ1 fs) (hs : starEach [e, e2] X.env = (false, eval e X.env) :: starEach [e2] X.env := by rfl) (hpl : (backTo pos (starEach [e2] X.env)).any (·.1) = false := by rfl) :
    DI X C (.Tuple elts kk tpos) Γ (.Call (.Name "zip" p) [e, e2] [] pos) Γ1 (mZip fs) := pi_imp (RZ.pi_zipA hg hm ha hs hpl) fun σ H Q h => by
  obtain ⟨S, ρ, fp, s, h⟩ := h
  refine ⟨S, ρ, fp, s, OutA.thenI2 h fun ds ρ1 vs H1 S1 fp1 e1 s1 r1 f1 h1 => ?_⟩
  dsimp only at h1
  match ds, h1, r1 with
  | [], h1, _ => exact h1.elim
  | [_], h1, _ => exact h1.elim
  | _ :: _ :: _ :: _, h1, _ => exact h1.elim
  | [d, d'], h1, r1 =>
    simp only [Reps] at r1
    obtain ⟨v, _, rfl, r, w, _, rfl, r', rfl⟩ := r1
    dsimp only at h1
    cases q : seqD d with
    | none => rw [q] at h1; exact h1.elim
    | some bx =>
      obtain ⟨b, xs⟩ := bx
      cases q' : seqD d' with
      | none => rw [q, q'] at h1; cases b <;> exact h1.elim
      | some by' =>
        obtain ⟨b', ys⟩ := by'
        rw [q, q'] at h1
        obtain ⟨a, vs, rfl, z, hl, ht⟩ := seq_stay r q
        obtain ⟨a', vs', rfl, z', hl', ht'⟩ := seq_stay r' q'
        match b, b', h1, hl, ht, hl', ht' with
        | true, true, h1, hl, ht, hl', ht' => exact ⟨a, a', vs, vs', rfl, .inl ⟨hl rfl H1 S1 Stay.refl, hl' rfl H1 S1 Stay.refl, h1 _ H1 S1 fp1 s1 (it_zipL z z' (hl rfl) (hl' rfl)) f1⟩⟩
        | false, false, h1, hl, ht, hl', ht' => exact ⟨a, a', vs, vs', rfl, .inr ⟨ht rfl H1 S1 Stay.refl, ht' rfl H1 S1 Stay.refl, h1 _ H1 S1 fp1 s1 (it_zipT z z' (ht rfl) (ht' rfl)) f1⟩⟩
        | true, false, h1, _, _, _, _ => exact h1.elim
        | false, true, h1, _, _, _, _ => exact h1.elim
end
end Z
set_option Elab.async false
set_option linter.all false
set_option maxRecDepth 100000
/-! Y14: t + u, any tuples -/
namespace Z
open PySem PySem.Spec L2
open PyProof.Rows hiding St
def gCatA : D → D → Option D
  | .tup xs, .tup ys => if xs.length + ys.length ≤ 1000 then some (.tup (xs ++ ys)) else none
  | _, _ => none
theorem gCatA_some {x y d : D} (h : gCatA x y = some d) : ∃ xs ys, x = .tup xs ∧ y = .tup ys ∧ xs.length + ys.length ≤ 1000 ∧ d = .tup (xs ++ ys) := by
  cases x with
  | tup xs =>
    cases y with
    | tup ys =>
      simp only [gCatA] at h
      split at h
      · rename_i q; cases h; exact ⟨xs, ys, rfl, rfl, q, rfl⟩
      · cases h
    | _ => cases h
  | _ => cases h
theorem p_catA {K : PySem.W.Frag} {T : Tab} : Prim2 K T 0 (rCatA K) gCatA := fun S H x y v w d r1 r2 e => by
  obtain ⟨xs, ys, rfl, rfl, hl, rfl⟩ := gCatA_some e
  have r1' := r1
  have r2' := r2
  simp only [Rep] at r1 r2
  obtain ⟨a, vs, rfl, h1, r⟩ := r1
  obtain ⟨b, ws, rfl, h2, r'⟩ := r2
  have ll : vs.length + ws.length ≤ sizeLine := line_of (by rw [← r.length, ← r'.length]; exact hl)
  by_cases hx : xs = []
  · subst hx
    simp only [Reps] at r
    subst r
    exact gives_val (v := .ref b) r2' fun Q q => ⟨a, b, [], ws, rfl, rfl, h1, h2, ll, fun _ => q, fun z => absurd rfl z, fun z => absurd rfl z⟩
  · have nv : vs ≠ [] := fun z => hx (by have := r.length; rw [z] at this; exact List.length_eq_zero_iff.mp this)
    by_cases hy : ys = []
    · subst hy
      simp only [Reps] at r'
      subst r'
      refine gives_val (v := .ref a) ?_ fun Q q => ⟨a, b, vs, [], rfl, rfl, h1, h2, ll, fun z => absurd z nv, fun _ _ => q, fun _ z => absurd rfl z⟩
      rw [List.append_nil]; exact r1'
    · have nw : ws ≠ [] := fun z => hy (by have := r'.length; rw [z] at this; exact List.length_eq_zero_iff.mp this)
      exact .inr (.inr ⟨xs ++ ys, vs ++ ws, rfl, by decide, r.append r', fun Q q => ⟨a, b, vs, ws, rfl, rfl, h1, h2, ll, fun z => absurd z nv, fun _ z => absurd z nw, fun _ _ => q⟩⟩)

end Z
set_option Elab.async false
set_option linter.all false
set_option maxRecDepth 100000
set_option maxHeartbeats 1000000
/-! Y15: where an exception is handled: all(a list), comprehensions over a range -/
namespace Z
open PySem PySem.Spec L2 HotX
open PyProof.Rows hiding St
section
variable {prog : Program} {w : World} {A : Around} {E : Value → Shared → Prop} {s : Shared}
theorem next_list_endH {it l x1 : Addr} {i : Nat} {xs : Array Value} {Q : Option Value → Shared → Prop} (hot : HotAt A x1 s.heap) (hne : x1 ≠ it) (hit : s.heap.IsListIter it l i) (hl : s.heap.IsList l xs) (hx : xs[i]? = none)
    (hQ : ∀ h', (∀ b o, b ≠ it → s.heap.get? b = some o → h'.get? b = some o) → Q none { s with heap := h' }) : wpAny (model prog w) A (pyNext (.ref it)) Q E s := by
  obtain ⟨o, ho, hc, hd⟩ := id hit
  obtain ⟨ol, hol, _, nl, hdl⟩ := hl
  obtain ⟨hh, o1, vs1, h1, d1, c1⟩ := hot
  unfold pyNext
  refine wpAny_bind (wpAny_attempt (wpAny_callSpecial?_slot (name := Str.ofString "__next__") hit.typeIs slot_listiter_next (wpAny_call_entry slot_listiter_next hit.typeIs entry_listiter_next ?_ (args_listiter_next _))))
  show wpAny _ _ (field (.ref it) 0 >>= _) _ _ s; refine wpAny_bind (wpAny_field ho hd (x := .ref l) rfl ?_)
  show wpAny _ _ (if (Value.ref l == Value.none) = true then _ else _) _ _ s; rw [if_neg (show ¬ ((Value.ref l == Value.none) = true) from Bool.false_ne_true)]
  show wpAny _ _ (field (.ref it) 1 >>= _) _ _ s; refine wpAny_bind (wpAny_field ho hd (x := .int i 0) rfl ?_)
  show wpAny _ _ (seqItems? (.ref l) >>= _) _ _ s; refine wpAny_bind (wpAny_seqItems hol hdl ?_)
  simp only [Int.toNat_natCast, hx]
  refine wpAny_bind (wpAny_rule (wpAny_bind (wpAny_setField ho hd (by simp) ?_))); show wpAny _ _ (newExc (.type "StopIteration") [] >>= _) _ _ _
  refine wpAny_bind ?_; simp only [newExc, newTuple]
  refine wpAny_bind (wpAny_newObj_type ?_ (by size_fits)); refine wpAny_bind (m := firstArgMember _ _) (wpAny_of_eq (a := Value.none) (by first | rfl | (simp only [firstArgMember]; rfl)) ?_)
  have k1 : ∀ b u, b ≠ it → s.heap.get? b = some u → (s.heap.update it (Obj.mapFields (·.setIfInBounds 0 .none))).get? b = some u := fun b u hb e => (Heap.get?_update_other _ _ (Ne.symm hb)).trans e
  generalize s.heap.update it (Obj.mapFields (·.setIfInBounds 0 .none)) = hp at k1 ⊢
  have e1 := k1 _ _ hne h1
  refine wpAny_newObj_type ?_ (by size_fits); refine raiseNew_hot ⟨hh, o1, vs1, Heap.get?_push_of_some _ (Heap.get?_push_of_some _ e1), d1, c1⟩ (Nat.ne_of_lt (Heap.lt_size (Heap.get?_push_of_some _ e1))) (Heap.get?_push_size _ rfl) rfl (by first | (simp; done) | (simp; omega)) ?_
  refine wpAny_bind (wpAny_isInstance (T := "StopIteration") (b := true) ⟨_, Heap.get?_update_self _ (Heap.get?_push_size _ rfl) rfl, rfl⟩ isSubtype_stop ?_)
  refine wpAny_pure (hQ _ fun b u hb e => ?_)
  have e2 := k1 b u hb e
  rw [Heap.get?_update_other _ _ (Nat.ne_of_gt (Heap.lt_size (Heap.get?_push_of_some _ e2)))]
  exact Heap.get?_push_of_some _ (Heap.get?_push_of_some _ e2)
theorem walk_listH {A : Around} {x1 : Addr} (I ax : Addr) (hne : ax ≠ I) (hn1 : x1 ≠ I) (xs : Array Value) :
    Walks prog w A I [I, ax, x1] [I] xs.size (fun i v => xs[i]? = some v) (fun i h => h.IsListIter I ax i ∧ h.IsList ax xs ∧ HotAt A x1 h) where
  sub := fun b hb => by simp at hb; simp [hb]
  frame := fun _ _ _ st hk => ⟨st.1.at fun o e => hk I (by simp) o e, st.2.1.at fun o e => hk ax (by simp) o e, by
    obtain ⟨hh, o, vs, e1, e2, e3⟩ := st.2.2
    exact ⟨hh, o, vs, hk x1 (by simp) o e1, e2, e3⟩⟩
  item := fun i s Q E hi st hQ => by
    refine wpAny_pyNext_list_item st.1 st.2.1 (x := xs[i]) (by simp [hi]) fun h' hit' hs' => ?_
    refine hQ _ h' s.toks (by simp [hi]) ⟨hit', st.2.1.extBut hs'.extBut hne, ?_⟩ fun b o hb e => hs'.extBut b o (fun h => hb (by simp [h])) e
    obtain ⟨hh, o, vs, e1, e2, e3⟩ := st.2.2
    exact ⟨hh, o, vs, hs'.extBut _ _ hn1 e1, e2, e3⟩
  done := fun s Q E st hQ => next_list_endH st.2.2 hn1 st.1 st.2.1 (by simp) fun h' he' => hQ h' s.toks fun b o hb e => he' b o (fun h => hb (by simp [h])) e
  self := fun _ _ _ _ st hQ => wpAny_pyIter_listiter st.1 hQ
end
theorem cr_allH {X : Cx} (hot : L2H.HotC X) : CallR X (.builtin "all") (rAll X.K) := by
  intro pins s σ H vs us Q I r h
  obtain ⟨a, bs, rfl, hs, q⟩ := h
  obtain ⟨its, rv, hl, _⟩ := I.list hs
  rw [Vals.ref1 r]
  have hb := rv.bls
  obtain ⟨x1, hx⟩ := hot.at I
  have lx : x1 < s.heap.objs.size := by obtain ⟨_, o, vs, e, _⟩ := hx; exact Heap.lt_size e
  refine call_all_walk (iter_any hl.isList fun s₂ e2 st hne => ?_)
  subst e2
  refine ⟨_, _, _, _, _, _, _, rfl, walk_listH (A := X.A.in1) (x1 := x1) _ a hne (Nat.ne_of_lt lx) its.toArray, ⟨st.1, st.2, ?_⟩, truth_bools hb, fun h' tk hk => ?_⟩
  · obtain ⟨hh, o, vs, e1, e2, e3⟩ := hx
    exact ⟨hh, o, vs, Heap.get?_push_of_some _ e1, e2, e3⟩
  · refine ⟨.bl _, H, I.kept fun b o eo => hk b o (fun hmem => ?_) (Heap.get?_push_of_some _ eo), ?_, q⟩
    · exact absurd (List.mem_singleton.mp hmem ▸ Heap.lt_size eo) (Nat.lt_irrefl _)
    · show Value.bool _ = Value.bool _
      rw [← L2.all_range, hb, List.size_toArray, List.length_map]
/-! comprehensions -/
abbrev blkH (X : Cx) (p : Addr × Obj) (s : Shared) (H : Hp) (scope : Scope) (ce : PySem.Env) (fp : List Addr) : Cx := (X.blk s H scope ce fp).tr [p] (fun _ _ => False)
section
variable {X : Cx} {pins : List (Addr × Obj)} {s : Shared} {σ : St} {H : Hp} {Q : VK} {elt tg iter : Expr} {scope : Scope} {own : List (Str × Nat)} {pos pos' : Pos} {ifs : List Expr} {wi : TI} {g : TG} {tt : TT} {te : TE} {use : Option (Value → Sem Unit)} {Qf : Value → Shared → Prop}
theorem lcH_core {p : Addr × Obj} (hot : L2H.Hot1 X.A p) (hpm : p ∈ X.pn) (hN : X.N.Nodup) (I : Inv X pins σ H s) (hi : L2H.PIH X tg iter wi) (ok : BlkOk X.N X.env.scope scope own)
    (hg : ∀ (s : Shared) (H : Hp) (C : Addr) (cl : List (Str × Addr)) (fp : List Addr), PG (blkH X p s H scope (compEnvC scope cl C X.env) fp) tg g)
    (ht : ∀ (s : Shared) (H : Hp) (C : Addr) (cl : List (Str × Addr)) (fp : List Addr), PTs (blkH X p s H scope (compEnvC scope cl C X.env) fp) ifs tt)
    (he : ∀ (s : Shared) (H : Hp) (C : Addr) (cl : List (Str × Addr)) (fp : List Addr), PE (blkH X p s H scope (compEnvC scope cl C X.env) fp) elt te) (hs : ∀ x, foldedSetIterable iter X.env x = pure x)
    (h : tLc wi g tt te (own.map (·.2)) σ H Q)
    (hRR : ∀ D C s' m H', Inv X pins σ H' s' → Q (.ref D) H' → s'.heap.Ns C m → FpOk X pins H' C → compPost (model X.prog X.w) X.A X.xe use Qf (.ref D) C (.ok .next) s') :
    wpAny (model X.prog X.w) X.A (comprehension (.ListComp elt [⟨tg, iter, ifs, 0⟩] scope pos) scope X.env pos' (newList []) false (eval iter X.env) use) Qf X.xe s := by
  have hfree : ∀ y ∈ scope.names, y.2 = .free → ∃ c, X.env.cells.lookup y.1 = some c := fun y hy e => (ok.free y hy e).elim (fun k => I.ok.has _ (.inl k)) fun k => I.ok.has _ (.inr k)
  refine wpAny_comprehension_free (use := use) rfl hs (closure_ok hfree) ok.kind (fun y hy e => by rw [ok.uniq y hy, e]) (thn (hi.run pins s σ H _ I h) fun xv s1 hx => thn hx fun itv s2 h2 => ?_)
  obtain ⟨it, fp, tn, J, H2, e, I2, T, st2, f2, q⟩ := h2
  subst e
  refine wpAny_newObj_type (newEnv_comp ?_) (by show 0 ≤ sizeLine; decide)
  obtain ⟨pg2, pn2, pl2, pf2, pc2⟩ := I2.pin p (List.mem_append_left _ hpm)
  have plt := Heap.lt_size pg2
  generalize hD : s2.heap.objs.size = D at plt
  have hDn : H2 D = none := I2.hok.fresh (Nat.le_of_eq hD)
  obtain ⟨W, ⟨m0, w0⟩, turn⟩ := q D hDn
  generalize hs3 : ({ s2 with heap := s2.heap.push { cls := .type "list", data := .seq ([] : List Value).toArray } } : Shared) = s3
  have I3 : Inv X pins σ (upd H2 D (.lst [])) s3 := by
    rw [← hs3]; refine I2.laid (t' := s2.toks) (fun b o e => Heap.get?_push_of_some _ e) (Nat.le_of_eq hD) ⟨Nat.zero_le _, [], 0, .nil, ?_⟩
    rw [← hD]; exact Heap.get?_push_size _ rfl
  have h3 : s3.heap = s2.heap.push { cls := .type "list", data := .seq ([] : List Value).toArray } := by rw [← hs3]
  have sz : ∀ b ∈ fp, b < D := fun b hb => by
    obtain ⟨o, e, _⟩ := T.obj _ _ st2 b hb
    rw [← hD]; exact Heap.lt_size e
  have z3 : s3.heap.objs.size = D + 1 := by rw [h3, Heap.size_push, hD]
  have f3 : ∀ b ∈ fp, FpOk X pins (upd H2 D (.lst [])) b ∧ b < s3.heap.objs.size := fun b hb => by
    have hlt := sz b hb
    exact ⟨⟨by rw [upd_ne (Nat.ne_of_lt hlt)]; exact (f2 b hb).1, (f2 b hb).2⟩, by rw [z3]; exact Nat.lt_succ_of_lt hlt⟩
  have st3 : tn 0 s3.heap := T.keep _ _ _ st2 fun b _ o e => by rw [h3]; exact Heap.get?_push_of_some _ e
  have I4 := block_start I3 ok hN f3
  have pg := hg s3 (upd H2 D (.lst [])) s3.heap.objs.size (cellsFrom (s3.heap.objs.size + 1) scope.names (cloFrom X.env.cells scope.names [])) fp
  have pt := ht s3 (upd H2 D (.lst [])) s3.heap.objs.size (cellsFrom (s3.heap.objs.size + 1) scope.names (cloFrom X.env.cells scope.names [])) fp
  have pe := he s3 (upd H2 D (.lst [])) s3.heap.objs.size (cellsFrom (s3.heap.objs.size + 1) scope.names (cloFrom X.env.cells scope.names [])) fp
  show codeAny _ _ (.compStart (.ListComp elt [⟨tg, iter, ifs, 0⟩] scope pos) 0 (.ref it) (.ref D) (compEnvC scope (cellsFrom (s3.heap.objs.size + 1) scope.names (cloFrom X.env.cells scope.names [])) s3.heap.objs.size X.env)) (compPost (model X.prog X.w) X.A X.xe use Qf (.ref D) s3.heap.objs.size) { s3 with heap := pushCells (s3.heap.push { cls := .type "dict", data := .dict #[] }) scope.names }
  have nfp : ∀ b ∈ fp, (upd H2 D (.lst [])) b = none := fun b hb => (f3 b hb).1.1
  generalize hce : compEnvC scope (cellsFrom (s3.heap.objs.size + 1) scope.names (cloFrom X.env.cells scope.names [])) s3.heap.objs.size X.env = ce at I4 pg pt pe ⊢
  have cL : ce.locals = s3.heap.objs.size := by subst hce; rfl
  have pH3 : (upd H2 D (.lst [])) p.1 = none := by rw [upd_ne (Nat.ne_of_lt plt)]; exact pn2
  generalize hH3 : upd H2 D (.lst []) = H3 at I3 I4 pg pt pe w0 nfp f3 pH3
  have grow : ∀ b o, s2.heap.get? b = some o → (pushCells (s3.heap.push { cls := .type "dict", data := .dict #[] }) scope.names).get? b = some o := fun b o e => pushCells_keeps _ _ _ _ (Heap.get?_push_of_some _ (by rw [h3]; exact Heap.get?_push_of_some _ e))
  generalize hs4 : ({ s3 with heap := pushCells (s3.heap.push { cls := .type "dict", data := .dict #[] }) scope.names } : Shared) = s4 at I4 ⊢
  have st4 : tn 0 s4.heap := T.keep _ _ _ st2 fun b _ o e => by rw [← hs4]; exact grow b o e
  -- the block with the handled exception
  have I5 : Inv (blkH X p s3 H3 scope ce fp) [] (wipe σ (own.map (·.2))) H3 s4 := by
    refine (I4.pins_of (pins' := [p]) fun r hr => ?_).toTry (fun _ _ => False)
    rw [List.mem_singleton.mp hr]
    refine ⟨by rw [← hs4]; exact grow _ _ pg2, pH3, ?_, fun z => ?_, pc2⟩
    · show p.1 ≠ ce.locals
      rw [cL, z3]; exact Nat.ne_of_lt (Nat.lt_succ_of_lt plt)
    · exact (List.mem_cons.mp (I2.stkSub p.1 z)).elim pl2 pf2
  have hotB : L2H.HotC (blkH X p s3 H3 scope ce fp) := ⟨p, hot, List.mem_singleton.mpr rfl⟩
  have stat : ∀ {σ' : St} {H' : Hp} {s' : Shared}, Inv (blkH X p s3 H3 scope ce fp) [] σ' H' s' → (∀ b ∈ fp, H' b = none) → ∀ b ∈ fp, FpOk (blkH X p s3 H3 scope ce fp) [] H' b := fun {σ' H' s'} I' hn b hb =>
    ⟨hn b hb, (I'.ok.exf b hb).1, I'.ok.exfs b hb, .inl hb, fun x c e => (I'.ok.exf b hb).2 x c e, fun r hr => by
      rw [List.append_nil] at hr
      rw [List.mem_singleton.mp hr]
      exact fun z => (f2 b hb).2.2.2.2.2 p (List.mem_append_left _ hpm) (by rw [z])⟩
  have loop : codeAny (model X.prog X.w) X.A (.compLoop (.ListComp elt [⟨tg, iter, ifs, 0⟩] scope pos) 0 (.ref it) (.ref D) ce) (compPost (model X.prog X.w) X.A X.xe use Qf (.ref D) s3.heap.objs.size) s4 := by
    refine compLoop_any (fun n s' => ∃ i H', Inv (blkH X p s3 H3 scope ce fp) [] (wipe σ (own.map (·.2))) H' s' ∧ tn i s'.heap ∧ (∀ b ∈ fp, H' b = none) ∧ W i n H') ?_ m0 ⟨0, H3, I5, st4, nfp, w0⟩
    rintro n s5 ⟨i, H5, I5, st5, n5, w5⟩
    rcases turn i n H5 w5 with ⟨stop, qq⟩ | ⟨go, Nx, hNx, step⟩
    · refine thnF (T.done (blkH X p s3 H3 scope ce fp) rfl rfl rfl hotB i [] s5 _ H5 (fun _ _ => False) I5 (stat I5 n5) st5 stop) fun r s6 ⟨hr, I6⟩ => ?_
      subst hr
      have I7 : Inv X pins σ H5 s6 := I3.call' (ch := fp) I6.os I6.base I6.hok I6.bare fun b hb => ⟨(f3 b hb).1.2.2.2.1, (f3 b hb).1.2.1, (f3 b hb).1.2.2.2.2.1, (f3 b hb).1.2.2.2.2.2⟩
      have nC : H5 ce.locals = none := I6.free
      obtain ⟨m, hn, _⟩ := I6.loc
      have hn : s6.heap.Ns ce.locals m := hn
      rw [cL] at hn nC
      exact hRR D s3.heap.objs.size s6 m H5 I7 qq hn (I3.fpOk (Nat.le_refl _) nC)
    · refine thnF (T.item (blkH X p s3 H3 scope ce fp) rfl rfl rfl hotB i [] s5 _ H5 (fun _ _ => False) I5 (stat I5 n5) st5 go) fun r s6 ⟨u, hr, h6⟩ => ?_
      subst hr
      refine thnF h6 fun _ s7 ⟨x, H7, I7, r7, y7, st7, n7⟩ => ?_
      have I7' := I7.pinned (stat I7 n7) (T.obj _ _ st7)
      refine thnF (pg.run _ s7 _ H7 x u _ I7' r7 (step x H7 y7)) fun _ s8 ⟨σ8, H8, I8, hw8, q8⟩ => ?_
      refine thnF (pt.run _ s8 σ8 H8 _ I8 q8) fun b s9 ⟨H9, I9, q9⟩ => ?_
      have fin : ∀ {s' : Shared} {H' : Hp}, Inv (blkH X p s3 H3 scope ce fp) ([] ++ pinsAt fp s7.heap) σ8 H' s' → Nx H' → ∃ m, m < n ∧ ∃ i H', Inv (blkH X p s3 H3 scope ce fp) [] (wipe σ (own.map (·.2))) H' s' ∧ tn i s'.heap ∧ (∀ b ∈ fp, H' b = none) ∧ W i m H' := fun {s' H'} I' nx => by
        obtain ⟨m', hm, w'⟩ := hNx H' nx
        have pin' : ∀ b ∈ fp, ∀ o, s7.heap.get? b = some o → s'.heap.get? b = some o ∧ H' b = none := fun b hb o e =>
          let z := I'.pin (b, o) (List.mem_append_right _ (List.mem_append_right _ (mem_pinsAt hb e)))
          ⟨z.1, z.2.1⟩
        refine ⟨m', hm, i + 1, H', (I'.unpinned (pins := [])).weak (by rw [← hw8, wipe_length]) (fun j v e => by rw [← hw8] at e; exact (wipe_some e).1), T.keep _ _ _ st7 fun b hb o e => (pin' b hb o e).1, fun b hb => ?_, w'⟩
        obtain ⟨o, e, _⟩ := T.obj _ _ st7 b hb
        exact (pin' b hb o e).2
      cases b with
      | false => simp only [Bool.false_eq_true, if_false] at q9 ⊢; exact fin I9 q9
      | true =>
        simp only [if_true] at q9 ⊢
        exact thnF (pe.run _ s9 σ8 H9 _ I9 q9) fun z s10 ⟨yv, H10, I10, r10, acc, hD10, hz10, nx⟩ => app_ok (X := blkH X p s3 H3 scope ce fp) I10 hD10 hz10 r10 fun s11 I11 => fin I11 nx
  exact codeAny_compStart_list loop (T.self X.A 0 _ _ _ st4 loop)
theorem pe_lcH {p : Addr × Obj} (hot : L2H.Hot1 X.A p) (hpm : p ∈ X.pn) (hN : X.N.Nodup) (hi : L2H.PIH X tg iter wi) (ok : BlkOk X.N X.env.scope scope own)
    (hg : ∀ (s : Shared) (H : Hp) (C : Addr) (cl : List (Str × Addr)) (fp : List Addr), PG (blkH X p s H scope (compEnvC scope cl C X.env) fp) tg g)
    (ht : ∀ (s : Shared) (H : Hp) (C : Addr) (cl : List (Str × Addr)) (fp : List Addr), PTs (blkH X p s H scope (compEnvC scope cl C X.env) fp) ifs tt)
    (he : ∀ (s : Shared) (H : Hp) (C : Addr) (cl : List (Str × Addr)) (fp : List Addr), PE (blkH X p s H scope (compEnvC scope cl C X.env) fp) elt te) (hs : ∀ x, foldedSetIterable iter X.env x = pure x := by intro _; rfl) :
    PE X (.ListComp elt [⟨tg, iter, ifs, 0⟩] scope pos) (tLc wi g tt te (own.map (·.2))) := by
  refine ⟨fun pins s σ H Q I h => ?_⟩
  rw [eval_ListComp]
  refine lcH_core hot hpm hN I hi ok hg ht he hs h fun D C s' m H' I' q hn f => ⟨m, hn, fun h'' sb => ?_⟩
  obtain ⟨f0, f1, f2, f3, f4, f5⟩ := f
  exact ⟨.ref D, H', I'.turned (t' := s'.toks) (fun b o hb e => (sb.2 b hb).trans e) f0 f1 f3 f4 f5, rfl, q⟩
end
theorem pih_imp {X : Cx} {tg e : Expr} {t t' : TI} (h : L2H.PIH X tg e t) (i : ∀ σ H Q, t' σ H Q → t σ H Q) : L2H.PIH X tg e t' := ⟨fun pins s σ H R I q => h.run pins s σ H R I (i σ H R q)⟩
abbrev DIH (X : Cx) (Z : Cz) (tg : Expr) (Γ : List Nat) (e : Expr) (Γ' : List Nat) (f : Env → R (List D × Env)) : Prop := L2H.PIH X tg e (tI X.K Z.T Z.W Γ Γ' f)
section
variable {X : Cx} {C : Cz} {P Γ Γ1 : List Nat} {k : Nat} {a elt tg iter : Expr} {ifs : List Expr} {ft : Env → R (Bool × Env)} {p pos : Pos} {scope : Scope} {own : List (Str × Nat)} {fs src : Env → R (List D × Env)} {fe : Env → R (D × Env)} {g : D → Env → Option Env}
theorem di_range1H (hg : Gl X "range") (hm : X.mg "range" = none) (ha : DA X C Γ [a] Γ1 fs) (hs : starEach [a] X.env = [(false, eval a X.env)] := by rfl) : DIH X C tg Γ (.Call (.Name "range" p) [a] [] pos) Γ1 (mItR1 fs) := pih_imp (L2H.pi_range1H hg hm ha hs) fun σ H Q h => by
  obtain ⟨S, ρ, fp, s, h⟩ := h
  refine ⟨S, ρ, fp, s, OutA.thenI h fun ds ρ1 vs H1 S1 fp1 e1 s1 r1 f1 h1 => ?_⟩
  dsimp only at h1
  cases q : asI1 ds with
  | none => rw [q] at h1; exact h1.elim
  | some j =>
    rw [q] at h1
    rw [asI1_of q] at r1
    have e := reps_ints1 r1
    subst e
    by_cases hl : inLine j = true
    · simp only [if_pos hl] at h1
      obtain ⟨l1, l2⟩ := inLine_of hl
      exact ⟨j, rfl, l1, l2, h1 _ H1 S1 fp1 s1 it_range f1⟩
    · simp only [if_neg hl] at h1; exact h1.elim
theorem de_lcH (hot : L2H.HotC X) (hN : X.N.Nodup) (hi : DIH X C tg Γ iter Γ1 src) (ok : BlkOk X.N X.env.scope scope own)
    (hg : ∀ (p : Addr × Obj) (s : Shared) (H : Hp) (A : Addr) (cl : List (Str × Addr)) (fp : List Addr), DG (blkH X p s H scope (compEnvC scope cl A X.env) fp) C.in P Γ1 tg Γ1 g)
    (ht : ∀ (p : Addr × Obj) (s : Shared) (H : Hp) (A : Addr) (cl : List (Str × Addr)) (fp : List Addr), L2H.HotC (blkH X p s H scope (compEnvC scope cl A X.env) fp) → DTs (blkH X p s H scope (compEnvC scope cl A X.env) fp) C.in Γ1 ifs ft)
    (he : ∀ (p : Addr × Obj) (s : Shared) (H : Hp) (A : Addr) (cl : List (Str × Addr)) (fp : List Addr), L2H.HotC (blkH X p s H scope (compEnvC scope cl A X.env) fp) → DE (blkH X p s H scope (compEnvC scope cl A X.env) fp) C.in Γ1 elt Γ1 0 fe)
    (hv : ∀ i ∈ own.map (·.2), Γ1.getD i 0 = 0 := by decide) (hP : ∀ i, i < Γ1.length → i ∉ own.map (·.2) → i ∈ P := by decide) (hk : k ≤ 1 := by decide) (hs : ∀ x, foldedSetIterable iter X.env x = pure x := by intro _; rfl) :
    DE X C Γ (.ListComp elt [⟨tg, iter, ifs, 0⟩] scope pos) Γ1 k (mComp (own.map (·.2)) src g ft fe) := by
  obtain ⟨p, h1, hp⟩ := hot
  exact pe_imp (pe_lcH h1 hp hN hi ok (hg p) (fun s H A cl fp => ht p s H A cl fp ⟨p, h1, List.mem_singleton.mpr rfl⟩) (fun s H A cl fp => he p s H A cl fp ⟨p, h1, List.mem_singleton.mpr rfl⟩) hs) fun σ H Q h => lc_data hv hP hk h
theorem fnH_bad {P : Program} {w : World} {K : PySem.W.Frag} {T : Tab} {mg : Str → Option Value} {base : Heap} {lv kr : Nat} {f : Addr} {fd : FuncData} {ps : List Str} : L2H.FnH P w K mg base (L2N.CX P w) lv f fd ps (spF K T kr fun _ => .bad) :=
  ⟨fun _ _ _ _ h => by obtain ⟨_, _, _, _, h⟩ := h; exact h.elim, fun A outer s H args us vs Q E p _ _ _ _ _ _ h => by obtain ⟨_, _, _, _, h⟩ := h; exact h.elim⟩
end
end Z
set_option Elab.async false
set_option linter.all false
set_option maxRecDepth 100000
set_option maxHeartbeats 1000000
/-! Y16: where an exception is handled: loops over a range, two names at once -/
namespace Z
open PySem PySem.Spec L2 HotX
open PyProof.Rows hiding St
section
variable {prog : Program} {w : World} {A : Around} {E : Value → Shared → Prop} {s : Shared}
theorem next_tup_endH {it l x1 : Addr} {i : Nat} {xs : Array Value} {Q : Option Value → Shared → Prop} (hot : HotAt A x1 s.heap) (hne : x1 ≠ it) (hit : IsTupIter s.heap it l i) (hl : IsTup s.heap l xs) (hx : xs[i]? = none)
    (hQ : ∀ h', (∀ b o, b ≠ it → s.heap.get? b = some o → h'.get? b = some o) → Q none { s with heap := h' }) : wpAny (model prog w) A (pyNext (.ref it)) Q E s := by
  obtain ⟨o, ho, hc, hd⟩ := id hit
  obtain ⟨ol, hol, _, nl, hdl⟩ := hl
  obtain ⟨hh, o1, vs1, h1, d1, c1⟩ := hot
  unfold pyNext
  refine wpAny_bind (wpAny_attempt (wpAny_callSpecial?_slot (name := Str.ofString "__next__") hit.typeIs slot_tupleiter_next (wpAny_call_entry slot_tupleiter_next hit.typeIs entry_tupleiter_next ?_ (args_tupleiter_next _))))
  show wpAny _ _ (field (.ref it) 0 >>= _) _ _ s; refine wpAny_bind (wpAny_field ho hd (x := .ref l) rfl ?_)
  show wpAny _ _ (if (Value.ref l == Value.none) = true then _ else _) _ _ s; rw [if_neg (show ¬ ((Value.ref l == Value.none) = true) from Bool.false_ne_true)]
  show wpAny _ _ (field (.ref it) 1 >>= _) _ _ s; refine wpAny_bind (wpAny_field ho hd (x := .int i 0) rfl ?_)
  show wpAny _ _ (seqItems? (.ref l) >>= _) _ _ s; refine wpAny_bind (wpAny_seqItems hol hdl ?_)
  simp only [Int.toNat_natCast, hx]
  refine wpAny_bind (wpAny_rule (wpAny_bind (wpAny_setField ho hd (by simp) ?_))); show wpAny _ _ (newExc (.type "StopIteration") [] >>= _) _ _ _
  refine wpAny_bind ?_; simp only [newExc, newTuple]
  refine wpAny_bind (wpAny_newObj_type ?_ (by size_fits)); refine wpAny_bind (m := firstArgMember _ _) (wpAny_of_eq (a := Value.none) (by first | rfl | (simp only [firstArgMember]; rfl)) ?_)
  have k1 : ∀ b u, b ≠ it → s.heap.get? b = some u → (s.heap.update it (Obj.mapFields (·.setIfInBounds 0 .none))).get? b = some u := fun b u hb e => (Heap.get?_update_other _ _ (Ne.symm hb)).trans e
  generalize s.heap.update it (Obj.mapFields (·.setIfInBounds 0 .none)) = hp at k1 ⊢
  have e1 := k1 _ _ hne h1
  refine wpAny_newObj_type ?_ (by size_fits); refine raiseNew_hot ⟨hh, o1, vs1, Heap.get?_push_of_some _ (Heap.get?_push_of_some _ e1), d1, c1⟩ (Nat.ne_of_lt (Heap.lt_size (Heap.get?_push_of_some _ e1))) (Heap.get?_push_size _ rfl) rfl (by first | (simp; done) | (simp; omega)) ?_
  refine wpAny_bind (wpAny_isInstance (T := "StopIteration") (b := true) ⟨_, Heap.get?_update_self _ (Heap.get?_push_size _ rfl) rfl, rfl⟩ isSubtype_stop ?_)
  refine wpAny_pure (hQ _ fun b u hb e => ?_)
  have e2 := k1 b u hb e
  rw [Heap.get?_update_other _ _ (Nat.ne_of_gt (Heap.lt_size (Heap.get?_push_of_some _ e2)))]
  exact Heap.get?_push_of_some _ (Heap.get?_push_of_some _ e2)
theorem unpackH {t x1 : Addr} {xs : Array Value} {Q : List Value → Shared → Prop} (hot : HotAt A x1 s.heap) (ht : IsTup s.heap t xs)
    (hQ : ∀ h', (∀ b o, b ≠ s.heap.objs.size → s.heap.get? b = some o → h'.get? b = some o) → Q xs.toList { s with heap := h' }) : wpAny (model prog w) A (unpackItems (.ref t) xs.size none) Q E s := by
  have hlt : t ≠ s.heap.objs.size := by obtain ⟨o, ho, _⟩ := ht; exact Nat.ne_of_lt (Heap.lt_size ho)
  obtain ⟨hh, o1, vs1, h1, d1, c1⟩ := hot
  have hx1 : x1 ≠ s.heap.objs.size := Nat.ne_of_lt (Heap.lt_size h1)
  unfold unpackItems
  refine wpAny_bind ?_; unfold notIterableAtAll
  refine wpAny_bind (wpAny_specialOf ht.typeIs slot_tuple_iter.lookup ?_); refine wpAny_pure ?_
  simp only [Bool.false_eq_true, if_false]
  refine wpAny_bind (wpAny_holding (iter_tuple ht ?_)); refine wpAny_bind (wpAny_holding (draw_tuple hlt xs.size 0 _ _ ⟨_, Heap.get?_push_size _ rfl, rfl, rfl⟩ (ht.push _) (by omega) fun h2 hit2 hs2 => ?_))
  have hall : List.take xs.size (List.drop 0 xs.toList) = xs.toList := by rw [List.drop_zero]; exact List.take_of_length_le (by simp)
  rw [hall, if_neg (by simp)]
  have ht2 : IsTup h2 t xs := (ht.push _).extBut hs2.extBut hlt
  have hot2 : HotAt A x1 h2 := ⟨hh, o1, vs1, hs2.extBut _ _ hx1 (Heap.get?_push_of_some _ h1), d1, c1⟩
  refine wpAny_bind (wpAny_holding (next_tup_endH hot2 hx1 hit2 ht2 (by simp) fun h3 he3 => ?_))
  simp only [Option.isSome_none, Bool.false_eq_true, if_false]
  exact wpAny_pure (hQ h3 fun b o hb e => he3 b o hb (hs2.extBut b o hb (Heap.get?_push_of_some _ e)))
end
section
variable {X : Cx} {C : Cz} {P : List Nat} {J : Js} {Γ Γ1 Γ2 : List Nat} {i j : Nat} {x y : Str} {a b tg iter : Expr} {px py pt pos p : Pos} {kt k2 : Nat} {pt2 : Pos} {ta : TA} {fs src : Env → R (List D × Env)} {g : D → Env → Option Env} {fb : Env → R (Fl × Env)} {body : List Stmt}
theorem two_vals {v u : V} {us : List Value} (r : Vals [v, u] us) : ∃ u1 u2, us = [u1, u2] ∧ RelV v u1 ∧ RelV u u2 := by
  cases r with
  | cons r1 r2 =>
    cases r2 with
    | cons r2 r3 => cases r3; exact ⟨_, _, rfl, r1, r2⟩
theorem ps_parH (hot : L2H.HotC X) (hN : X.N.Nodup) (hi : X.N[i]? = some x) (hj : X.N[j]? = some y) (hij : i ≠ j)
    (hx : X.env.scope.names.lookup x = some .local) (hy : X.env.scope.names.lookup y = some .local) (ha : PA X [a, b] ta)
    (hw : swappedStores [.Tuple [.Name x px, .Name y py] kt pt] (.Tuple [a, b] k2 pt2) X.env = pure (some [x, y]))
    (hs : swapsWithSole [.Tuple [.Name x px, .Name y py] kt pt] (.Tuple [a, b] k2 pt2) pos.line X.env = pure false := by rfl) :
    PS X (.Assign [.Tuple [.Name x px, .Name y py] kt pt] (.Tuple [a, b] k2 pt2) pos) (tPar i j ta) := by
  refine ⟨fun pins s σ H D I h => ?_⟩
  rw [exec_Assign_arm]
  refine wpAny_bind (wpAny_standAt ?_); rw [hs]; refine wpAny_bind (wpAny_pure ?_)
  rw [if_neg (by decide)]
  refine wpAny_bind (Tuple_ (thn (ha.run _ pins s σ H _ I h) fun us s1 ⟨vs, H1, I1, r1, q1⟩ => ?_))
  obtain ⟨v, u, e1, q1⟩ := q1
  subst e1
  obtain ⟨u1, u2, rfl, rv, ru⟩ := two_vals r1
  refine wpAny_newObj_type ?_ (by show 2 ≤ sizeLine; decide)
  have I2 : Inv X pins σ H1 { s1 with heap := s1.heap.push { cls := .type "tuple", data := .seq [u1, u2].toArray } } := I1.kept (t' := s1.toks) fun b o e => Heap.get?_push_of_some _ e
  rw [hw]
  refine wpAny_bind (wpAny_pure ?_)
  show wpAny (model X.prog X.w) X.A (do rule "assign.swapped-stores"; let its ← unpackItems (.ref s1.heap.objs.size) 2 none; assignInOrder [fun v => bindName X.env y v, fun v => bindName X.env x v] its.reverse; pure Flow.next) _ _ _
  obtain ⟨x1, ht⟩ := hot.at I2
  refine wpAny_bind (wpAny_rule (wpAny_bind (unpackH (xs := #[u1, u2]) ht (IsTup.new s1.heap _) fun h' hx' => ?_)))
  have I3 := I2.kept (h' := h') (t' := s1.toks) fun b o e => hx' b o (Nat.ne_of_lt (Heap.lt_size e)) e
  show wpAny _ _ (assignInOrder [fun v => bindName X.env y v, fun v => bindName X.env x v] [u2, u1] >>= fun _ => pure Flow.next) _ _ _
  refine wpAny_bind (assignInOrder_cons (wpAny_bindName (store_ok I3 hN hj (.inl hy) ru (fun s2 I4 => ?_) (.inr hy))))
  refine assignInOrder_cons (wpAny_bindName (store_ok I4 hN hi (.inl hx) rv (fun s3 I5 => assignInOrder_nil (wpAny_pure ?_)) (.inr hx)))
  rw [List.set_comm _ _ (Ne.symm hij)] at I5
  exact ⟨_, H1, I5, q1⟩
theorem ds_nm2H (hot : L2H.HotC X) (hN : X.N.Nodup) (hi : X.N[i]? = some x) (hj : X.N[j]? = some y) (hij : i ≠ j) (hx : X.env.scope.names.lookup x = some .local) (hy : X.env.scope.names.lookup y = some .local) (ha : DA X C Γ [a, b] Γ1 fs)
    (hw : swappedStores [.Tuple [.Name x px, .Name y py] kt pt] (.Tuple [a, b] k2 pt2) X.env = pure (some [x, y])) (hil : i < Γ1.length := by decide) (hjl : j < Γ1.length := by decide) (hp : i ∉ P := by decide) (hq : j ∉ P := by decide) (h1 : J.nx = (Γ1.set i 0).set j 0 := by rfl)
    (hs : swapsWithSole [.Tuple [.Name x px, .Name y py] kt pt] (.Tuple [a, b] k2 pt2) pos.line X.env = pure false := by rfl) :
    DS X C P J Γ (.Assign [.Tuple [.Name x px, .Name y py] kt pt] (.Tuple [a, b] k2 pt2) pos) (mPar i j fs) := ds_par (ps_parH hot hN hi hj hij hx hy ha hw hs) hil hjl hp hq h1
theorem ds_forH (hp : PassesOwn (model X.prog X.w) X.A X.env X.xe) (hot : L2H.HotC X) (hi : DIH X C tg Γ iter Γ1 src) (hg : DG X C P Γ1 tg Γ2 g) (hb : DSs X C P { J with nx := Γ1, ct := Γ1, bk := J.nx } Γ2 body fb) (hΓ : J.nx = Γ1 := by rfl)
    (hs : ∀ x, foldedSetIterable iter X.env x = pure x := by intro _; rfl) : DS X C P J Γ (.For tg iter body [] pos) (mFor src g fb) := ps_imp (L2H.ps_forH hp hot hi hg hb hs) fun E σ H h => for_data hΓ h
end
end Z
set_option Elab.async false
set_option linter.all false
set_option maxRecDepth 100000
/-! Y17: calls with positional values and keywords -/
namespace Z
open PySem PySem.Spec L2
open PyProof.Rows hiding St
def mCallKM (m : List D → R D) (n k : Nat) (ix : List Nat) (fs fk : Env → R (List D × Env)) : Env → R (D × Env) := fun ρ => (fs ρ).bind fun (xs, ρ1) => (fk ρ1).bind fun (zs, ρ2) => if xs.length = n ∧ zs.length = k then (m (xs ++ permL ix zs)).bind fun d => .ok (d, ρ2) else .bad
section
variable {X : Cx} {C : Cz} {Γ Γ1 Γ2 : List Nat} {kr lv n k : Nat} {x : Str} {pos p : Pos} {e : Expr} {es : List Expr} {kws : List Keyword} {fs fk : Env → R (List D × Env)} {m : List D → R D} {f : Addr} {fd : FuncData} {ps ks : List Str} {ix : List Nat}
theorem de_fnKM (G : Gf X.K X.mg x f fd ps) (hb : KBn X.K fd ps n ks (fun us ws => us ++ permL ix ws) (fun us ws => us ++ permL ix ws)) (F : FnOk X.prog X.w X.K X.mg X.base (L2N.CX X.prog X.w) lv f fd ps (spF X.K C.T kr m)) (hr : Room lv X.A) (tk : L2N.Takes X C.W) (hg : Gl X x) (ha : DA X C Γ (e :: es) Γ1 fs) (hkw : DK X C Γ1 kws Γ2 fk)
    (hall : (backToKw pos (keywordEach kws X.env)).all (·.1.isSome) = true := by rfl) (hks : (backToKw pos (keywordEach kws X.env)).filterMap (·.1) = ks := by rfl) (hn : ks.length = k := by rfl) (hdb : (x == ("__debug__" : Str)) = false := by decide)
    (he : starEach (e :: es) X.env = (false, eval e X.env) :: starEach es X.env := by rfl)
    (hpl : ((backTo pos (starEach (e :: es) X.env)).any (·.1) || (backToKw pos (keywordEach kws X.env)).any (·.1.isNone)) = false := by rfl) : DE X C Γ (.Call (.Name x p) (e :: es) kws pos) Γ2 kr (mCallKM m n k ix fs fk) := by
  subst hn
  refine ⟨fun pins sh σ H Q I h => ?_⟩
  have go : tA X.K C.T C.W Γ Γ1 fs σ H (fun vs H1 => tA X.K C.T C.W Γ1 Γ2 fk σ H1 (fun zs H2 => vs.length = n ∧ zs.length = ks.length ∧ spF X.K C.T kr m (vs ++ permL ix zs) H2 Q (WE C.W σ))) := by
    obtain ⟨S, ρ, fp, st, h⟩ := h
    refine ⟨S, ρ, fp, st, OutA.thenE h fun xs ρ1 vs H1 S1 fp1 e1 s1 r1 f1 h1 => ?_⟩
    refine ⟨S1, ρ1, fp1, s1, OutA.thenE h1 fun ys ρ2 zs H2 S2 fp2 e2 s2 r2 f2 h2 => ?_⟩
    dsimp only at h2
    by_cases hl : xs.length = n ∧ ys.length = ks.length
    · rw [if_pos hl] at h2
      exact ⟨by rw [← r1.length]; exact hl.1, by rw [← r2.length]; exact hl.2, call_data (m := m) (C := C) s2 ((s1.reps_fra r1 f2).append (reps_perm r2 (ix := ix))) h2⟩
    · rw [if_neg hl] at h2; exact h2.elim
  refine wpAny_Call_Name_kw (ld_glob I hg G.mg (PySem.W.callWith_KW (h₀ := X.base) I.ok.mod.kin G.kp hall (thn (ha.run pos pins sh σ H _ I go) fun us s1 h1 => ?_) hpl he) hdb)
  obtain ⟨vs, H1, I1, r, q⟩ := h1
  refine thn (hkw.run pos pins s1 σ H1 _ I1 q) fun ws s2 hz => ?_
  obtain ⟨zs, H2, J, rz, l1, l2, q2⟩ := hz
  refine ⟨J.kIn, ?_⟩
  rw [hks]
  refine wpAny_call (codeAny_mono (F.run X.A X.stack s2 H2 ⟨us, ks.zip ws⟩ (us ++ permL ix ws) (vs ++ permL ix zs) Q (WE C.W σ) hr J.env0 (hb.to s2 us ws J.kIn (r.length.symm.trans l1) (rz.length.symm.trans l2)) (r.append (vals_perm rz (ix := ix))) q2) fun res s' w => ?_)
  match res, w with
  | .error u, w => exact L2N.passAt tk σ pins H2 s2 u s' J w
  | .ok (.ret u), w => exact J.after w
  | .ok .next, w => exact w.elim
  | .ok .brk, w => exact w.elim
  | .ok .cont, w => exact w.elim
end
end Z
set_option Elab.async false
set_option linter.all false
set_option maxRecDepth 100000
/-! V1: what a mirror gives, by continuation (symbolic steps) -/
namespace Z
open PySem PySem.Spec L2
abbrev Er := Nat → List D → Prop
@[irreducible] def WR {α : Type} (r : R α) (Q : α → Prop) (E : Er) : Prop := match r with
  | .ok a => Q a
  | .er c fs => E c fs
  | .bad => False
@[irreducible] def WB (r : R (D × D)) (Q : D → D → Prop) (E : Er) : Prop := match r with
  | .ok (a, b) => Q a b
  | .er c fs => E c fs
  | .bad => False
@[irreducible] def WE (r : R (D × Env)) (Q : D → Env → Prop) (E : Er) : Prop := match r with
  | .ok (a, b) => Q a b
  | .er c fs => E c fs
  | .bad => False
@[irreducible] def WA (r : R (List D × Env)) (Q : List D → Env → Prop) (E : Er) : Prop := match r with
  | .ok (a, b) => Q a b
  | .er c fs => E c fs
  | .bad => False
@[irreducible] def WT (r : R (Bool × Env)) (Q : Bool → Env → Prop) (E : Er) : Prop := match r with
  | .ok (a, b) => Q a b
  | .er c fs => E c fs
  | .bad => False
@[irreducible] def WS (r : R (Fl × Env)) (N : Env → Prop) (Rt : D → Env → Prop) (B C : Env → Prop) (E : Er) : Prop := match r with
  | .ok (.nx, ρ) => N ρ
  | .ok (.rt d, ρ) => Rt d ρ
  | .ok (.bk, ρ) => B ρ
  | .ok (.ct, ρ) => C ρ
  | .er c fs => E c fs
  | .bad => False
@[irreducible] def WO (r : R (Option Int × Env)) (Q : Option Int → Env → Prop) (E : Er) : Prop := match r with
  | .ok (a, b) => Q a b
  | .er c fs => E c fs
  | .bad => False
abbrev E0 : Er := fun _ _ => False
/-- a part that must be there -/
def Sm {α : Type} (o : Option α) (Q : α → Prop) : Prop := ∃ a, o = some a ∧ Q a
def Lk (ρ : Env) (i : Nat) (Q : D → Prop) : Prop := ∃ d, ρ[i]? = some (some d) ∧ Q d
def SetN (ρ : Env) (i : Nat) (x : Option D) (N : Env → Prop) : Prop := N (ρ.set i x)
def Br (b : Bool) (P Q : Prop) : Prop := (b = true → P) ∧ (b = false → Q)
class SetEq (ρ : Env) (i : Nat) (x : Option D) (ρ' : outParam Env) : Prop where
  eq : ρ.set i x = ρ'
instance {a x : Option D} {r : Env} : SetEq (a :: r) 0 x (x :: r) := ⟨rfl⟩
instance {a x : Option D} {r r' : Env} {i : Nat} [h : SetEq r i x r'] : SetEq (a :: r) (i + 1) x (a :: r') := ⟨by rw [List.set_cons_succ, h.eq]⟩

class WipeEq (ρ : Env) (vs : List Nat) (ρ' : outParam Env) : Prop where
  eq : wipeE ρ vs = ρ'
instance {ρ : Env} : WipeEq ρ [] ρ := ⟨rfl⟩
instance {ρ ρ1 ρ2 : Env} {v : Nat} {vs : List Nat} [h : WipeEq ρ vs ρ1] [k : SetEq ρ1 v none ρ2] : WipeEq ρ (v :: vs) ρ2 := ⟨by rw [wipeE, h.eq, k.eq]⟩
class GetEq (ρ : Env) (i : Nat) (d : outParam D) : Prop where
  eq : ρ[i]? = some (some d)
instance {d : D} {r : Env} : GetEq (some d :: r) 0 d := ⟨rfl⟩
instance {x : Option D} {d : D} {r : Env} {i : Nat} [h : GetEq r i d] : GetEq (x :: r) (i + 1) d := ⟨by rw [List.getElem?_cons_succ, h.eq]⟩
theorem WR_ok {α : Type} {a : α} {Q : α → Prop} {E : Er} : WR (.ok a) Q E = Q a := by with_unfolding_all rfl
theorem WE_ok {a : D} {b : Env} {Q : D → Env → Prop} {E : Er} : WE (.ok (a, b)) Q E = Q a b := by with_unfolding_all rfl
theorem WA_ok {a : List D} {b : Env} {Q : List D → Env → Prop} {E : Er} : WA (.ok (a, b)) Q E = Q a b := by with_unfolding_all rfl
theorem WT_ok {a : Bool} {b : Env} {Q : Bool → Env → Prop} {E : Er} : WT (.ok (a, b)) Q E = Q a b := by with_unfolding_all rfl
theorem WB_ok {a b : D} {Q : D → D → Prop} {E : Er} : WB (.ok (a, b)) Q E = Q a b := by with_unfolding_all rfl
theorem WO_ok {a : Option Int} {b : Env} {Q : Option Int → Env → Prop} {E : Er} : WO (.ok (a, b)) Q E = Q a b := by with_unfolding_all rfl
theorem WS_nx {b : Env} {N : Env → Prop} {Rt : D → Env → Prop} {B C : Env → Prop} {E : Er} : WS (.ok (.nx, b)) N Rt B C E = N b := by with_unfolding_all rfl
theorem WS_rt {d : D} {b : Env} {N : Env → Prop} {Rt : D → Env → Prop} {B C : Env → Prop} {E : Er} : WS (.ok (.rt d, b)) N Rt B C E = Rt d b := by with_unfolding_all rfl
theorem WR.get {α : Type} {r : R α} {Q : α → Prop} (h : WR r Q E0) : ∃ a, r = .ok a ∧ Q a := by
  with_unfolding_all
    cases r with
    | ok a => exact ⟨a, rfl, h⟩
    | er c fs => exact h.elim
    | bad => exact h.elim
theorem WB.get {r : R (D × D)} {Q : D → D → Prop} (h : WB r Q E0) : ∃ a b, r = .ok (a, b) ∧ Q a b := by
  with_unfolding_all
    cases r with
    | ok a => exact ⟨a.1, a.2, rfl, h⟩
    | er c fs => exact h.elim
    | bad => exact h.elim
theorem WE.get {r : R (D × Env)} {Q : D → Env → Prop} (h : WE r Q E0) : ∃ a b, r = .ok (a, b) ∧ Q a b := by
  with_unfolding_all
    cases r with
    | ok a => exact ⟨a.1, a.2, rfl, h⟩
    | er c fs => exact h.elim
    | bad => exact h.elim
theorem WT.get {r : R (Bool × Env)} {Q : Bool → Env → Prop} (h : WT r Q E0) : ∃ a b, r = .ok (a, b) ∧ Q a b := by
  with_unfolding_all
    cases r with
    | ok a => exact ⟨a.1, a.2, rfl, h⟩
    | er c fs => exact h.elim
    | bad => exact h.elim
theorem WR.mono {α : Type} {r : R α} {Q Q' : α → Prop} {E E' : Er} (h : WR r Q E) (q : ∀ a, Q a → Q' a) (e : ∀ c fs, E c fs → E' c fs) : WR r Q' E' := by
  with_unfolding_all
    cases r with
    | ok a => exact q _ h
    | er c fs => exact e _ _ h
    | bad => exact h
theorem WB.mono {r : R (D × D)} {Q Q' : D → D → Prop} {E E' : Er} (h : WB r Q E) (q : ∀ a b, Q a b → Q' a b) (e : ∀ c fs, E c fs → E' c fs) : WB r Q' E' := by
  with_unfolding_all
    cases r with
    | ok a => exact q _ _ h
    | er c fs => exact e _ _ h
    | bad => exact h
theorem WE.mono {r : R (D × Env)} {Q Q' : D → Env → Prop} {E E' : Er} (h : WE r Q E) (q : ∀ a b, Q a b → Q' a b) (e : ∀ c fs, E c fs → E' c fs) : WE r Q' E' := by
  with_unfolding_all
    cases r with
    | ok a => exact q _ _ h
    | er c fs => exact e _ _ h
    | bad => exact h
theorem WA.mono {r : R (List D × Env)} {Q Q' : List D → Env → Prop} {E E' : Er} (h : WA r Q E) (q : ∀ a b, Q a b → Q' a b) (e : ∀ c fs, E c fs → E' c fs) : WA r Q' E' := by
  with_unfolding_all
    cases r with
    | ok a => exact q _ _ h
    | er c fs => exact e _ _ h
    | bad => exact h
theorem WT.mono {r : R (Bool × Env)} {Q Q' : Bool → Env → Prop} {E E' : Er} (h : WT r Q E) (q : ∀ a b, Q a b → Q' a b) (e : ∀ c fs, E c fs → E' c fs) : WT r Q' E' := by
  with_unfolding_all
    cases r with
    | ok a => exact q _ _ h
    | er c fs => exact e _ _ h
    | bad => exact h
theorem WS.mono {r : R (Fl × Env)} {N N' : Env → Prop} {Rt Rt' : D → Env → Prop} {B B' C C' : Env → Prop} {E E' : Er} (h : WS r N Rt B C E) (n : ∀ ρ, N ρ → N' ρ) (t : ∀ d ρ, Rt d ρ → Rt' d ρ) (b : ∀ ρ, B ρ → B' ρ) (c : ∀ ρ, C ρ → C' ρ) (e : ∀ c fs, E c fs → E' c fs) : WS r N' Rt' B' C' E' := by
  with_unfolding_all
    match r, h with
    | .ok (.nx, ρ), h => exact n _ h
    | .ok (.rt d, ρ), h => exact t _ _ h
    | .ok (.bk, ρ), h => exact b _ h
    | .ok (.ct, ρ), h => exact c _ h
    | .er c fs, h => exact e _ _ h
    | .bad, h => exact h
theorem wr_ok {α : Type} {a : α} {Q : α → Prop} {E : Er} (h : Q a) : WR (.ok a) Q E := by with_unfolding_all exact h
theorem wr_eq {α : Type} {r : R α} {a : α} {Q : α → Prop} {E : Er} (e : r = .ok a) (h : Q a) : WR r Q E := by with_unfolding_all (rw [e]; exact h)
theorem wb_eq {r : R (D × D)} {a b : D} {Q : D → D → Prop} {E : Er} (e : r = .ok (a, b)) (h : Q a b) : WB r Q E := by with_unfolding_all (rw [e]; exact h)
theorem we_eq {r : R (D × Env)} {a : D} {b : Env} {Q : D → Env → Prop} {E : Er} (e : r = .ok (a, b)) (h : Q a b) : WE r Q E := by with_unfolding_all (rw [e]; exact h)
theorem wt_eq {r : R (Bool × Env)} {a : Bool} {b : Env} {Q : Bool → Env → Prop} {E : Er} (e : r = .ok (a, b)) (h : Q a b) : WT r Q E := by with_unfolding_all (rw [e]; exact h)
theorem wa_eq {r : R (List D × Env)} {a : List D} {b : Env} {Q : List D → Env → Prop} {E : Er} (e : r = .ok (a, b)) (h : Q a b) : WA r Q E := by with_unfolding_all (rw [e]; exact h)
theorem ws_nx {r : R (Fl × Env)} {ρ : Env} {N : Env → Prop} {Rt : D → Env → Prop} {B C : Env → Prop} {E : Er} (e : r = .ok (.nx, ρ)) (h : N ρ) : WS r N Rt B C E := by with_unfolding_all (rw [e]; exact h)
section
variable {Q : D → Env → Prop} {QA : List D → Env → Prop} {QT : Bool → Env → Prop} {QB : D → D → Prop} {QR : D → Prop} {QO : Option Int → Env → Prop} {E : Er} {ρ : Env} {i j c n N' : Nat} {d : D} {fa fb fc : Env → R (D × Env)} {fs : Env → R (List D × Env)} {ft fu : Env → R (Bool × Env)} {fl fh : Env → R (Option Int × Env)} {g g' : D → D → Option D} {g1 : D → Option D} {gl : List D → Option D} {m : List D → R D} {mB : List D → R (D × D)} {ix : List (Nat × Nat)} {pl : List Nat}
  {N : Env → Prop} {Rt : D → Env → Prop} {B C : Env → Prop} {f h : Env → R (Fl × Env)} {tg : D → Env → Option Env}
theorem sm_of {α : Type} {o : Option α} {a : α} {K : α → Prop} (e : o = some a) (h : K a) : Sm o K := ⟨a, e, h⟩
theorem lk_of [e : GetEq ρ i d] (h : QR d) : Lk ρ i QR := ⟨d, e.eq, h⟩
theorem lk_eq (e : ρ[i]? = some (some d)) (h : QR d) : Lk ρ i QR := ⟨d, e, h⟩
theorem setN_of {x : Option D} {ρ' : Env} [e : SetEq ρ i x ρ'] (h : N ρ') : SetN ρ i x N := by unfold SetN; rw [e.eq]; exact h
theorem br_t {P P' : Prop} (h : P) : Br true P P' := ⟨fun _ => h, fun z => (nomatch z)⟩
theorem br_f {P P' : Prop} (h : P') : Br false P P' := ⟨fun z => (nomatch z), fun _ => h⟩
theorem br_dt {p P P' : Prop} [Decidable p] (hp : p) (h : P) : Br (decide p) P P' := ⟨fun _ => h, fun z => absurd hp (of_decide_eq_false z)⟩
theorem br_df {p P P' : Prop} [Decidable p] (hp : ¬ p) (h : P') : Br (decide p) P P' := ⟨fun z => absurd (of_decide_eq_true z) hp, fun _ => h⟩
theorem br_d {p P P' : Prop} [Decidable p] (h1 : p → P) (h2 : ¬ p → P') : Br (decide p) P P' := ⟨fun z => h1 (of_decide_eq_true z), fun z => h2 (of_decide_eq_false z)⟩
theorem br_n {b : Bool} {P P' : Prop} (h : Br b P' P) : Br (!b) P P' := ⟨fun z => h.2 (by simpa using z), fun z => h.1 (by simpa using z)⟩
theorem br_b {b : Bool} {P P' : Prop} (h1 : b = true → P) (h2 : b = false → P') : Br b P P' := ⟨h1, h2⟩
/-! names -/
theorem we_var [g0 : GetEq ρ i d] (h : Q d ρ) : WE (mVar i ρ) Q E := by with_unfolding_all (unfold mVar; rw [g0.eq]; exact h)
theorem we_mov [g0 : GetEq ρ i d] (h : SetN ρ i none (Q d)) : WE (mMov i ρ) Q E := by with_unfolding_all (unfold mMov; rw [g0.eq]; exact h)
theorem we_con (h : Q d ρ) : WE (mCon d ρ) Q E := by with_unfolding_all exact h
theorem ofO_sm {α β : Type} {o : Option α} {k : α → R β} {K : β → Prop} (h : Sm o fun a => WR (k a) K E) : WR ((ofO o).bind k) K E := by
  with_unfolding_all
    obtain ⟨a, e, h⟩ := h
    rw [e]; exact h
theorem we_un (h : WE (fa ρ) (fun x ρ1 => Sm (g1 x) fun y => Q y ρ1) E) : WE (mUn g1 fa ρ) Q E := by
  with_unfolding_all
    unfold mUn
    revert h
    generalize fa ρ = r
    intro h
    match r, h with
    | .ok (x, ρ1), h =>
      simp only [WE_ok, WA_ok, WT_ok, WB_ok, WO_ok, WS_nx, WS_rt] at h
      obtain ⟨y, e, h⟩ := h
      simp only [R.bind_ok, e, ofO]; exact h
    | .er c fs, h => exact h
    | .bad, h => exact h
theorem we_bin (h : WE (fa ρ) (fun x ρ1 => WE (fb ρ1) (fun y ρ2 => Sm (g x y) fun z => Q z ρ2) E) E) : WE (mBin g fa fb ρ) Q E := by
  with_unfolding_all
    unfold mBin
    revert h
    generalize fa ρ = r
    intro h
    match r, h with
    | .ok (x, ρ1), h =>
      have h : WE (fb ρ1) _ E := h
      simp only [R.bind_ok]
      revert h
      generalize fb ρ1 = r
      intro h
      match r, h with
      | .ok (y, ρ2), h =>
        simp only [WE_ok, WA_ok, WT_ok, WB_ok, WO_ok, WS_nx, WS_rt] at h
        obtain ⟨z, e, h⟩ := h
        simp only [R.bind_ok, e, ofO]; exact h
      | .er c fs, h => exact h
      | .bad, h => exact h
    | .er c fs, h => exact h
    | .bad, h => exact h
theorem wa_nil (h : QA [] ρ) : WA (mNil ρ) QA E := by with_unfolding_all exact h
theorem wa_cons (h : WE (fa ρ) (fun x ρ1 => WA (fs ρ1) (fun xs ρ2 => QA (x :: xs) ρ2) E) E) : WA (mCons fa fs ρ) QA E := by
  with_unfolding_all
    unfold mCons
    revert h
    generalize fa ρ = r
    intro h
    match r, h with
    | .ok (x, ρ1), h =>
      have h : WA (fs ρ1) _ E := h
      simp only [R.bind_ok]
      revert h
      generalize fs ρ1 = r
      intro h
      match r, h with
      | .ok (y, ρ2), h => exact h
      | .er c fs, h => exact h
      | .bad, h => exact h
    | .er c fs, h => exact h
    | .bad, h => exact h
theorem we_prim (h : WA (fs ρ) (fun xs ρ1 => Sm (gl xs) fun z => Q z ρ1) E) : WE (mPrim gl fs ρ) Q E := by
  with_unfolding_all
    unfold mPrim
    revert h
    generalize fs ρ = r
    intro h
    match r, h with
    | .ok (x, ρ1), h =>
      simp only [WE_ok, WA_ok, WT_ok, WB_ok, WO_ok, WS_nx, WS_rt] at h
      obtain ⟨y, e, h⟩ := h
      simp only [R.bind_ok, e, ofO]; exact h
    | .er c fs, h => exact h
    | .bad, h => exact h
theorem we_fldN (h : Lk ρ i fun d => Sm (gFld ix d) fun y => Q y ρ) : WE (mFldN i ix ρ) Q E := by
  with_unfolding_all
    obtain ⟨d, e1, y, e2, h⟩ := h
    unfold mFldN
    simp only [e1, e2, ofO, R.bind_ok]; exact h
theorem we_unN (h : Lk ρ i fun d => Sm (g1 d) fun y => Q y ρ) : WE (mUnN i g1 ρ) Q E := by
  with_unfolding_all
    obtain ⟨d, e1, y, e2, h⟩ := h
    unfold mUnN
    simp only [e1, e2, ofO, R.bind_ok]; exact h
theorem we_binN [g0 : GetEq ρ i d] (h : WE (fb ρ) (fun y ρ1 => Lk ρ1 i fun d => Sm (g d y) fun z => Q z ρ1) E) : WE (mBinN i g fb ρ) Q E := by
  with_unfolding_all
    have e0 := g0.eq
    unfold mBinN
    simp only [e0]
    revert h
    generalize fb ρ = r
    intro h
    match r, h with
    | .ok (x, ρ1), h =>
      simp only [WE_ok, WA_ok, WT_ok, WB_ok, WO_ok, WS_nx, WS_rt] at h
      obtain ⟨d, e1, y, e2, h⟩ := h
      simp only [R.bind_ok, e1, e2, ofO]; exact h
    | .er c fs, h => exact h
    | .bad, h => exact h
/-! calls -/
theorem we_call (h : WA (fs ρ) (fun xs ρ1 => WR (m xs) (fun d => Q d ρ1) E) E) : WE (mCall m fs ρ) Q E := by
  with_unfolding_all
    unfold mCall
    revert h
    generalize fs ρ = r
    intro h
    match r, h with
    | .ok (x, ρ1), h =>
      have h : WR (m x) _ E := h
      simp only [R.bind_ok]
      revert h
      generalize m x = r
      intro h
      match r, h with
      | .ok y, h => exact h
      | .er c fs, h => exact h
      | .bad, h => exact h
    | .er c fs, h => exact h
    | .bad, h => exact h
theorem we_callB [g0 : GetEq ρ i d] (h : WA (fs ρ) (fun xs ρ1 => Lk ρ1 i fun d0 => WB (mB (d0 :: xs)) (fun d d1 => SetN ρ1 i (some d1) (Q d)) E) E) : WE (mCallB i mB fs ρ) Q E := by
  with_unfolding_all
    have e0 := g0.eq
    unfold mCallB
    simp only [e0]
    revert h
    generalize fs ρ = r
    intro h
    match r, h with
    | .ok (x, ρ1), h =>
      simp only [WE_ok, WA_ok, WT_ok, WB_ok, WO_ok, WS_nx, WS_rt] at h
      obtain ⟨d0, e1, h⟩ := h
      simp only [R.bind_ok, e1]
      revert h
      generalize mB (d0 :: x) = r
      intro h
      match r, h with
      | .ok (y, d1), h => exact h
      | .er c fs, h => exact h
      | .bad, h => exact h
    | .er c fs, h => exact h
    | .bad, h => exact h
theorem we_callK (h : WA (fs ρ) (fun xs ρ1 => xs.length = n ∧ WR (m (permL pl xs)) (fun d => Q d ρ1) E) E) : WE (mCallK m n pl fs ρ) Q E := by
  with_unfolding_all
    unfold mCallK
    revert h
    generalize fs ρ = r
    intro h
    match r, h with
    | .ok (x, ρ1), h =>
      simp only [WE_ok, WA_ok, WT_ok, WB_ok, WO_ok, WS_nx, WS_rt] at h
      obtain ⟨e, h⟩ := h
      simp only [R.bind_ok, if_pos e]
      revert h
      generalize m (permL pl x) = r
      intro h
      match r, h with
      | .ok y, h => exact h
      | .er c fs, h => exact h
      | .bad, h => exact h
    | .er c fs, h => exact h
    | .bad, h => exact h
/-- what an __init__ gives back -/
def Non (d : D) (P : Prop) : Prop := d = .non ∧ P
theorem non_of {P : Prop} (h : P) : Non .non P := ⟨rfl, h⟩
theorem we_make (h : WA (fs ρ) (fun xs ρ1 => WB (mB (.ins c [] :: xs)) (fun d d0 => Non d (Q d0 ρ1)) E) E) : WE (mMake c mB fs ρ) Q E := by
  with_unfolding_all
    unfold mMake
    revert h
    generalize fs ρ = r
    intro h
    match r, h with
    | .ok (x, ρ1), h =>
      have h : WB (mB (.ins c [] :: x)) _ E := h
      simp only [R.bind_ok]
      revert h
      generalize mB (.ins c [] :: x) = r
      intro h
      match r, h with
      | .ok (y, d1), h =>
        simp only [WE_ok, WA_ok, WT_ok, WB_ok, WO_ok, WS_nx, WS_rt] at h
        obtain ⟨e, h⟩ := h
        subst e; exact h
      | .er c fs, h => exact h
      | .bad, h => exact h
    | .er c fs, h => exact h
    | .bad, h => exact h
theorem we_makeK (h : WA (fs ρ) (fun xs ρ1 => xs.length = n ∧ WB (mB (.ins c [] :: permL pl xs)) (fun d d0 => Non d (Q d0 ρ1)) E) E) : WE (mMakeK c mB n pl fs ρ) Q E := by
  with_unfolding_all
    unfold mMakeK
    refine we_make ?_
    revert h
    generalize fs ρ = r
    intro h
    match r, h with
    | .ok (x, ρ1), h =>
      simp only [WE_ok, WA_ok, WT_ok, WB_ok, WO_ok, WS_nx, WS_rt] at h
      obtain ⟨e, h⟩ := h
      simp only [R.bind_ok, if_pos e]; exact h
    | .er c fs, h => exact h
    | .bad, h => exact h
theorem we_makeL [g0 : GetEq ρ i (.cls c)] (h : WE (mMake c mB fs ρ) Q E) : WE (mMakeL i c mB fs ρ) Q E := by
  with_unfolding_all
    have e0 := g0.eq
    unfold mMakeL
    simp only [e0, if_true]; exact h
/-- an instance of the class c -/
def Ins (c : Nat) (d : D) (P : List D → Prop) : Prop := ∃ fs, d = .ins c fs ∧ P fs
theorem ins_of {fs : List D} {P : List D → Prop} (h : P fs) : Ins c (.ins c fs) P := ⟨fs, rfl, h⟩
theorem we_meth (h : WE (fa ρ) (fun x ρ1 => Ins c x fun fd => WA (fs ρ1) (fun xs ρ2 => WR (m (.ins c fd :: xs)) (fun d => Q d ρ2) E) E) E) : WE (mMeth c m fa fs ρ) Q E := by
  with_unfolding_all
    unfold mMeth
    revert h
    generalize fa ρ = r
    intro h
    match r, h with
    | .ok (x, ρ1), h =>
      simp only [WE_ok, WA_ok, WT_ok, WB_ok, WO_ok, WS_nx, WS_rt] at h
      obtain ⟨fd, e, h⟩ := h
      subst e
      simp only [R.bind_ok, if_true]
      revert h
      generalize fs ρ1 = r
      intro h
      match r, h with
      | .ok (xs, ρ2), h =>
        have h : WR (m (.ins c fd :: xs)) _ E := h
        simp only [R.bind_ok]
        revert h
        generalize m (.ins c fd :: xs) = r
        intro h
        match r, h with
        | .ok y, h => exact h
        | .er c fs, h => exact h
        | .bad, h => exact h
      | .er c fs, h => exact h
      | .bad, h => exact h
    | .er c fs, h => exact h
    | .bad, h => exact h
/-! tests -/
def Bl (d : D) (P : Bool → Prop) : Prop := ∃ b, d = .bl b ∧ P b
theorem bl_of {b : Bool} {P : Bool → Prop} (h : P b) : Bl (.bl b) P := ⟨b, rfl, h⟩
theorem wt_val (h : WE (fa ρ) (fun x ρ1 => Bl x fun b => QT b ρ1) E) : WT (mVal fa ρ) QT E := by
  with_unfolding_all
    unfold mVal
    revert h
    generalize fa ρ = r
    intro h
    match r, h with
    | .ok (x, ρ1), h =>
      simp only [WE_ok, WA_ok, WT_ok, WB_ok, WO_ok, WS_nx, WS_rt] at h
      obtain ⟨b, e, h⟩ := h
      subst e; exact h
    | .er c fs, h => exact h
    | .bad, h => exact h
theorem wt_bind {k : Bool × Env → R (Bool × Env)} (h : WT (ft ρ) (fun b ρ1 => WT (k (b, ρ1)) QT E) E) : WT ((ft ρ).bind k) QT E := by
  with_unfolding_all
    revert h
    generalize ft ρ = r
    intro h
    match r, h with
    | .ok (b, ρ1), h => exact h
    | .er c fs, h => exact h
    | .bad, h => exact h
theorem wt_and (h : WT (ft ρ) (fun b ρ1 => Br b (WT (fu ρ1) QT E) (QT false ρ1)) E) : WT (mAnd ft fu ρ) QT E := by
  with_unfolding_all
    unfold mAnd
    refine wt_bind (h.mono (fun b ρ1 z => ?_) fun _ _ z => z)
    cases b with
    | true => exact z.1 rfl
    | false => exact z.2 rfl
theorem wt_or (h : WT (ft ρ) (fun b ρ1 => Br b (QT true ρ1) (WT (fu ρ1) QT E)) E) : WT (mOr ft fu ρ) QT E := by
  with_unfolding_all
    unfold mOr
    refine wt_bind (h.mono (fun b ρ1 z => ?_) fun _ _ z => z)
    cases b with
    | true => exact z.1 rfl
    | false => exact z.2 rfl
theorem wt_not (h : WT (ft ρ) (fun b ρ1 => QT (!b) ρ1) E) : WT (mNot ft ρ) QT E := by
  with_unfolding_all
    unfold mNot
    exact wt_bind h
theorem wt_keep (b0 : Bool) (h : WT (ft ρ) (fun b ρ1 => b = b0 ∧ ρ1 = ρ) E0) (k : QT b0 ρ) : WT (ft ρ) QT E := by
  with_unfolding_all
    refine h.mono (fun b ρ1 z => ?_) fun _ _ z => z.elim
    obtain ⟨rfl, rfl⟩ := z
    exact k
theorem we_keep (d0 : D) (h : WE (fa ρ) (fun b ρ1 => b = d0 ∧ ρ1 = ρ) E0) (k : Q d0 ρ) : WE (fa ρ) Q E := by
  with_unfolding_all
    refine h.mono (fun b ρ1 z => ?_) fun _ _ z => z.elim
    obtain ⟨rfl, rfl⟩ := z
    exact k
theorem wt_yes (h : QT true ρ) : WT (mYes ρ) QT E := by with_unfolding_all exact h
theorem we_bindT {k : Bool × Env → R (D × Env)} (h : WT (ft ρ) (fun b ρ1 => WE (k (b, ρ1)) Q E) E) : WE ((ft ρ).bind k) Q E := by
  with_unfolding_all
    revert h
    generalize ft ρ = r
    intro h
    match r, h with
    | .ok (b, ρ1), h => exact h
    | .er c fs, h => exact h
    | .bad, h => exact h
theorem we_bindE {k : D × Env → R (D × Env)} (h : WE (fa ρ) (fun b ρ1 => WE (k (b, ρ1)) Q E) E) : WE ((fa ρ).bind k) Q E := by
  with_unfolding_all
    revert h
    generalize fa ρ = r
    intro h
    match r, h with
    | .ok (b, ρ1), h => exact h
    | .er c fs, h => exact h
    | .bad, h => exact h
theorem we_if (h : WT (ft ρ) (fun b ρ1 => Br b (WE (fa ρ1) Q E) (WE (fb ρ1) Q E)) E) : WE (mIf ft fa fb ρ) Q E := by
  with_unfolding_all
    unfold mIf
    refine we_bindT (h.mono (fun b ρ1 z => ?_) fun _ _ z => z)
    cases b with
    | true => exact z.1 rfl
    | false => exact z.2 rfl
theorem we_and (h : WE (fa ρ) (fun x ρ1 => Bl x fun b => Br b (WE (fb ρ1) Q E) (Q (.bl false) ρ1)) E) : WE (mAndV fa fb ρ) Q E := by
  with_unfolding_all
    unfold mAndV
    refine we_bindE (h.mono (fun x ρ1 z => ?_) fun _ _ z => z)
    obtain ⟨b, rfl, z⟩ := z
    cases b with
    | true => exact z.1 rfl
    | false => exact z.2 rfl
theorem we_or (h : WE (fa ρ) (fun x ρ1 => Bl x fun b => Br b (Q (.bl true) ρ1) (WE (fb ρ1) Q E)) E) : WE (mOrV fa fb ρ) Q E := by
  with_unfolding_all
    unfold mOrV
    refine we_bindE (h.mono (fun x ρ1 z => ?_) fun _ _ z => z)
    obtain ⟨b, rfl, z⟩ := z
    cases b with
    | true => exact z.1 rfl
    | false => exact z.2 rfl
theorem we_ofO {o : Option D} {ρ1 : Env} (h : Sm o fun z => Q z ρ1) : WE ((ofO o).bind fun d => .ok (d, ρ1)) Q E := by
  with_unfolding_all
    obtain ⟨z, e, h⟩ := h
    rw [e]; exact h
theorem we_chain (h : WE (fa ρ) (fun x ρ1 => WE (fb ρ1) (fun y ρ2 => Sm (g x y) fun z => Bl z fun b => Br b (WE (fc ρ2) (fun w ρ3 => Sm (g' y w) fun d => Q d ρ3) E) (Q (.bl false) ρ2)) E) E) : WE (mChain g g' fa fb fc ρ) Q E := by
  with_unfolding_all
    unfold mChain
    refine we_bindE (h.mono (fun x ρ1 z => ?_) fun _ _ z => z)
    refine we_bindE (z.mono (fun y ρ2 z => ?_) fun _ _ z => z)
    obtain ⟨w, e, b, rfl, z⟩ := z
    dsimp only
    rw [e]
    cases b with
    | true => exact we_bindE ((z.1 rfl).mono (fun w ρ3 z => we_ofO z) fun _ _ z => z)
    | false => exact z.2 rfl
/-! slices -/
theorem wo_none (h : QO none ρ) : WO (mNoP ρ) QO E := by with_unfolding_all exact h
def In (d : D) (P : Int → Prop) : Prop := ∃ i, d = .int i ∧ P i
theorem in_of {k : Int} {P : Int → Prop} (h : P k) : In (.int k) P := ⟨k, rfl, h⟩
theorem wo_part (h : WE (fa ρ) (fun x ρ1 => In x fun k => QO (some k) ρ1) E) : WO (mPart fa ρ) QO E := by
  with_unfolding_all
    unfold mPart
    revert h
    generalize fa ρ = r
    intro h
    match r, h with
    | .ok (x, ρ1), h =>
      simp only [WE_ok, WA_ok, WT_ok, WB_ok, WO_ok, WS_nx, WS_rt] at h
      obtain ⟨b, e, h⟩ := h
      subst e; exact h
    | .er c fs, h => exact h
    | .bad, h => exact h
theorem we_bindO {k : Option Int × Env → R (D × Env)} (h : WO (fl ρ) (fun b ρ1 => WE (k (b, ρ1)) Q E) E) : WE ((fl ρ).bind k) Q E := by
  with_unfolding_all
    revert h
    generalize fl ρ = r
    intro h
    match r, h with
    | .ok (b, ρ1), h => exact h
    | .er c fs, h => exact h
    | .bad, h => exact h
theorem WO.mono {r : R (Option Int × Env)} {Q Q' : Option Int → Env → Prop} {E E' : Er} (h : WO r Q E) (q : ∀ a b, Q a b → Q' a b) (e : ∀ c fs, E c fs → E' c fs) : WO r Q' E' := by
  with_unfolding_all
    cases r with
    | ok a => exact q _ _ h
    | er c fs => exact e _ _ h
    | bad => exact h
theorem we_sl (h : WE (fa ρ) (fun x ρ1 => WO (fl ρ1) (fun l ρ2 => WO (fh ρ2) (fun u ρ3 => Sm (gSl x l u) fun d => Q d ρ3) E) E) E) : WE (mSl fa fl fh ρ) Q E := by
  with_unfolding_all
    unfold mSl
    refine we_bindE (h.mono (fun x ρ1 z => ?_) fun _ _ z => z)
    refine we_bindO (z.mono (fun y ρ2 z => ?_) fun _ _ z => z)
    exact we_bindO (z.mono (fun y ρ2 z => we_ofO z) fun _ _ z => z)
theorem we_slN [g0 : GetEq ρ i d] (h : WO (fl ρ) (fun l ρ2 => WO (fh ρ2) (fun u ρ3 => Lk ρ3 i fun x => Sm (gSl x l u) fun d => Q d ρ3) E) E) : WE (mSlN i fl fh ρ) Q E := by
  with_unfolding_all
    have e0 := g0.eq
    unfold mSlN
    simp only [e0]
    refine we_bindO (h.mono (fun y ρ2 z => ?_) fun _ _ z => z)
    refine we_bindO (z.mono (fun y ρ2 z => ?_) fun _ _ z => z)
    obtain ⟨x, e, z⟩ := z
    simp only [e]
    exact we_ofO z
/-! statements -/
theorem ws_bindE {k : D × Env → R (Fl × Env)} (h : WE (fa ρ) (fun d ρ1 => WS (k (d, ρ1)) N Rt B C E) E) : WS ((fa ρ).bind k) N Rt B C E := by
  with_unfolding_all
    revert h
    generalize fa ρ = r
    intro h
    match r, h with
    | .ok (b, ρ1), h => exact h
    | .er c fs, h => exact h
    | .bad, h => exact h
theorem ws_bindA {k : List D × Env → R (Fl × Env)} (h : WA (fs ρ) (fun d ρ1 => WS (k (d, ρ1)) N Rt B C E) E) : WS ((fs ρ).bind k) N Rt B C E := by
  with_unfolding_all
    revert h
    generalize fs ρ = r
    intro h
    match r, h with
    | .ok (b, ρ1), h => exact h
    | .er c fs, h => exact h
    | .bad, h => exact h
theorem ws_bindT {k : Bool × Env → R (Fl × Env)} (h : WT (ft ρ) (fun d ρ1 => WS (k (d, ρ1)) N Rt B C E) E) : WS ((ft ρ).bind k) N Rt B C E := by
  with_unfolding_all
    revert h
    generalize ft ρ = r
    intro h
    match r, h with
    | .ok (b, ρ1), h => exact h
    | .er c fs, h => exact h
    | .bad, h => exact h
theorem ws_skip (h : N ρ) : WS (mSkip ρ) N Rt B C E := by with_unfolding_all exact h
theorem ws_brk (h : B ρ) : WS (mBrk ρ) N Rt B C E := by with_unfolding_all exact h
theorem ws_cnt (h : C ρ) : WS (mCnt ρ) N Rt B C E := by with_unfolding_all exact h
theorem ws_retN (h : Rt .non ρ) : WS (mRetN ρ) N Rt B C E := by with_unfolding_all exact h
theorem ws_seq (k : WS (f ρ) (fun ρ1 => WS (h ρ1) N Rt B C E) Rt B C E) : WS (mSeq f h ρ) N Rt B C E := by
  with_unfolding_all
    unfold mSeq
    revert k
    generalize f ρ = r
    intro k
    match r, k with
    | .ok (.nx, ρ1), k => exact k
    | .ok (.rt d, ρ1), k => exact k
    | .ok (.bk, ρ1), k => exact k
    | .ok (.ct, ρ1), k => exact k
    | .er c fs, k => exact k
    | .bad, k => exact k
theorem ws_set (k : WE (fa ρ) (fun d ρ1 => SetN ρ1 i (some d) N) E) : WS (mSet i fa ρ) N Rt B C E := by
  with_unfolding_all
    unfold mSet
    exact ws_bindE k
theorem ws_ret (k : WE (fa ρ) Rt E) : WS (mRet fa ρ) N Rt B C E := by
  with_unfolding_all
    unfold mRet
    exact ws_bindE k
theorem ws_drop (k : WE (fa ρ) (fun _ ρ1 => N ρ1) E) : WS (mDrop fa ρ) N Rt B C E := by
  with_unfolding_all
    unfold mDrop
    exact ws_bindE k
theorem ws_if (k : WT (ft ρ) (fun b ρ1 => Br b (WS (f ρ1) N Rt B C E) (WS (h ρ1) N Rt B C E)) E) : WS (mIfS ft f h ρ) N Rt B C E := by
  with_unfolding_all
    unfold mIfS
    refine ws_bindT (k.mono (fun b ρ1 z => ?_) fun _ _ z => z)
    cases b with
    | true => exact z.1 rfl
    | false => exact z.2 rfl
theorem ws_asg (k : WE (fa ρ) (fun d ρ1 => Sm (tg d ρ1) N) E) : WS (mAsg tg fa ρ) N Rt B C E := by
  with_unfolding_all
    unfold mAsg
    refine ws_bindE (k.mono (fun b ρ1 z => ?_) fun _ _ z => z)
    obtain ⟨a, e, z⟩ := z
    dsimp only
    rw [e]; exact z
theorem sm_gtN (k : SetN ρ i (some d) N) : Sm (gtN i d ρ) N := ⟨_, rfl, k⟩
theorem sm_gtT {gs : List D → Env → Option Env} {xs : List D} (e : xs.length = n) (k : Sm (gs xs ρ) N) : Sm (gtT n gs (.tup xs) ρ) N := by
  obtain ⟨a, e2, k⟩ := k
  exact ⟨a, (if_pos e).trans e2, k⟩
theorem sm_gtNil (k : N ρ) : Sm (gtNil [] ρ) N := ⟨_, rfl, k⟩
theorem sm_gtCons {gs : List D → Env → Option Env} {xs : List D} (k : Sm (tg d ρ) fun ρ1 => Sm (gs xs ρ1) N) : Sm (gtCons tg gs (d :: xs) ρ) N := by
  obtain ⟨a, e, b, e2, k⟩ := k
  exact ⟨b, by show Option.bind (tg d ρ) _ = _; rw [e]; exact e2, k⟩
theorem ws_par {x y : Nat} (k : WA (fs ρ) (fun ds ρ1 => ∃ d e, ds = [d, e] ∧ SetN ρ1 x (some d) fun ρ2 => SetN ρ2 y (some e) N) E) : WS (mPar x y fs ρ) N Rt B C E := by
  with_unfolding_all
    unfold mPar
    refine ws_bindA (k.mono (fun b ρ1 z => ?_) fun _ _ z => z)
    obtain ⟨d, e, rfl, z⟩ := z
    exact z
theorem two_of {d e : D} {P : D → D → Prop} (h : P d e) : ∃ d' e', [d, e] = [d', e'] ∧ P d' e' := ⟨d, e, rfl, h⟩
theorem ws_aug (k : Lk ρ i fun x => WE (fb ρ) (fun y ρ1 => Sm (g x y) fun d => SetN ρ1 i (some d) N) E) : WS (mAug i g fb ρ) N Rt B C E := by
  with_unfolding_all
    obtain ⟨x, e, k⟩ := k
    unfold mAug
    simp only [e]
    refine ws_bindE (k.mono (fun b ρ1 z => ?_) fun _ _ z => z)
    obtain ⟨a, e, z⟩ := z
    dsimp only
    rw [e]; exact z
/-- a list at a name -/
def Lst (d : D) (P : List D → Prop) : Prop := ∃ xs, d = .lst xs ∧ P xs
theorem lst_of {xs : List D} {P : List D → Prop} (h : P xs) : Lst (.lst xs) P := ⟨xs, rfl, h⟩
theorem ws_app {xs0 : List D} [g0 : GetEq ρ i (.lst xs0)] (k : WE (fa ρ) (fun d ρ1 => Lk ρ1 i fun x => Lst x fun xs => xs.length < 100000 ∧ SetN ρ1 i (some (.lst (xs ++ [d]))) N) E) : WS (mApp i fa ρ) N Rt B C E := by
  with_unfolding_all
    have e0 := g0.eq
    unfold mApp
    simp only [e0]
    refine ws_bindE (k.mono (fun b ρ1 z => ?_) fun _ _ z => z)
    obtain ⟨x, e, xs, rfl, l, z⟩ := z
    simp only [e, if_pos l]
    exact z
theorem ws_ext {xs0 : List D} [g0 : GetEq ρ i (.lst xs0)] (k : WE (fa ρ) (fun d ρ1 => Lst d fun ys => Lk ρ1 i fun x => Lst x fun xs => xs.length + ys.length < 100000 ∧ SetN ρ1 i (some (.lst (xs ++ ys))) N) E) : WS (mExt i fa ρ) N Rt B C E := by
  with_unfolding_all
    have e0 := g0.eq
    unfold mExt
    simp only [e0]
    refine ws_bindE (k.mono (fun b ρ1 z => ?_) fun _ _ z => z)
    obtain ⟨ys, rfl, x, e, xs, rfl, l, z⟩ := z
    simp only [e, if_pos l]
    exact z
theorem ws_setix (k : WE (fa ρ) (fun d ρ1 => Lk ρ1 i fun x => Lst x fun _ => WE (fb ρ1) (fun j ρ2 => In j fun j => Lk ρ2 i fun x => Lst x fun xs => Sm (gPut xs j d) fun ys => SetN ρ2 i (some (.lst ys)) N) E) E) : WS (mSetIx i fa fb ρ) N Rt B C E := by
  with_unfolding_all
    unfold mSetIx
    refine ws_bindE (k.mono (fun b ρ1 z => ?_) fun _ _ z => z)
    obtain ⟨x, e, xs, rfl, z⟩ := z
    simp only [e]
    refine ws_bindE (z.mono (fun b ρ1 z => ?_) fun _ _ z => z)
    obtain ⟨j, rfl, x, e, xs, rfl, ys, e2, z⟩ := z
    simp only [e, e2, ofO, R.bind_ok]
    exact z
theorem we_pop {xs : List D} [g0 : GetEq ρ i (.lst xs)] (h : Sm xs.getLast? fun d => SetN ρ i (some (.lst xs.dropLast)) (Q d)) : WE (mPop i ρ) Q E := by
  with_unfolding_all
    have e0 := g0.eq
    obtain ⟨d, e, h⟩ := h
    unfold mPop
    simp only [e0, e]; exact h
theorem ws_fset {c j : Nat} (k : WE (fa ρ) (fun d ρ1 => Lk ρ1 i fun x => Ins c x fun fs => (j = fs.length ∧ SetN ρ1 i (some (.ins c (fs ++ [d]))) N) ∨ (j < fs.length ∧ SetN ρ1 i (some (.ins c (fs.set j d))) N)) E) : WS (mFldSet i c j fa ρ) N Rt B C E := by
  with_unfolding_all
    unfold mFldSet
    refine ws_bindE (k.mono (fun b ρ1 z => ?_) fun _ _ z => z)
    obtain ⟨x, e, fs, rfl, z⟩ := z
    simp only [e, if_true]
    rcases z with ⟨h, z⟩ | ⟨h, z⟩
    · rw [if_pos h]; exact z
    · rw [if_neg (by omega), if_pos h]; exact z
theorem ws_try (k : WS (f ρ) N Rt B C E0) : WS (mTry f ρ) N Rt B C E := by
  with_unfolding_all
    unfold mTry
    revert k
    generalize f ρ = r
    intro k
    match r, k with
    | .ok (.nx, ρ1), k => exact k
    | .ok (.rt d, ρ1), k => exact k
    | .ok (.bk, ρ1), k => exact k
    | .ok (.ct, ρ1), k => exact k
    | .er c fs, k => exact k.elim
    | .bad, k => exact k
/-! loops -/
theorem wa_bindE {k : D × Env → R (List D × Env)} (h : WE (fa ρ) (fun d ρ1 => WA (k (d, ρ1)) QA E) E) : WA ((fa ρ).bind k) QA E := by
  with_unfolding_all
    revert h
    generalize fa ρ = r
    intro h
    match r, h with
    | .ok (b, ρ1), h => exact h
    | .er c fs, h => exact h
    | .bad, h => exact h
theorem wa_bindA {k : List D × Env → R (List D × Env)} (h : WA (fs ρ) (fun d ρ1 => WA (k (d, ρ1)) QA E) E) : WA ((fs ρ).bind k) QA E := by
  with_unfolding_all
    revert h
    generalize fs ρ = r
    intro h
    match r, h with
    | .ok (b, ρ1), h => exact h
    | .er c fs, h => exact h
    | .bad, h => exact h
theorem wa_itL (h : WE (fa ρ) (fun d ρ1 => Lst d fun xs => QA xs ρ1) E) : WA (mItL fa ρ) QA E := by
  with_unfolding_all
    unfold mItL
    refine wa_bindE (h.mono (fun b ρ1 z => ?_) fun _ _ z => z)
    obtain ⟨xs, rfl, z⟩ := z
    exact z
def Tup (d : D) (P : List D → Prop) : Prop := ∃ xs, d = .tup xs ∧ P xs
theorem tup_of {xs : List D} {P : List D → Prop} (h : P xs) : Tup (.tup xs) P := ⟨xs, rfl, h⟩
theorem wa_itT (h : WE (fa ρ) (fun d ρ1 => Tup d fun xs => QA xs ρ1) E) : WA (mItT fa ρ) QA E := by
  with_unfolding_all
    unfold mItT
    refine wa_bindE (h.mono (fun b ρ1 z => ?_) fun _ _ z => z)
    obtain ⟨xs, rfl, z⟩ := z
    exact z
theorem wa_seqD {hh : List D → List D} (h : WE (fa ρ) (fun d ρ1 => Sm (seqD d) fun p => QA (hh p.2) ρ1) E) : WA (mSeqD hh fa ρ) QA E := by
  with_unfolding_all
    unfold mSeqD
    refine wa_bindE (h.mono (fun b ρ1 z => ?_) fun _ _ z => z)
    obtain ⟨p, e, z⟩ := z
    dsimp only
    rw [e]; exact z
/-- one int -/
def Is1 (ds : List D) (P : Int → Prop) : Prop := ∃ j, ds = [.int j] ∧ P j
theorem is1_of {j : Int} {P : Int → Prop} (h : P j) : Is1 [.int j] P := ⟨j, rfl, h⟩
def Is2 (ds : List D) (P : Int → Int → Prop) : Prop := ∃ i j, ds = [.int i, .int j] ∧ P i j
theorem is2_of {i j : Int} {P : Int → Int → Prop} (h : P i j) : Is2 [.int i, .int j] P := ⟨i, j, rfl, h⟩
def Is3 (ds : List D) (P : Int → Int → Prop) : Prop := ∃ i j, ds = [.int i, .int j, .int (-1)] ∧ P i j
theorem is3_of {i j : Int} {P : Int → Int → Prop} (h : P i j) : Is3 [.int i, .int j, .int (-1)] P := ⟨i, j, rfl, h⟩
def Rng (i : Int) : Prop := -4611686018427387904 ≤ i ∧ i < 4611686018427387904
theorem Rng.line {i : Int} (h : Rng i) : inLine i = true := inLine_ok h.1 h.2
theorem wa_r1 (h : WA (fs ρ) (fun ds ρ1 => Is1 ds fun j => Rng j ∧ QA (intsFrom 0 j.toNat) ρ1) E) : WA (mItR1 fs ρ) QA E := by
  with_unfolding_all
    unfold mItR1
    refine wa_bindA (h.mono (fun b ρ1 z => ?_) fun _ _ z => z)
    obtain ⟨j, rfl, l, z⟩ := z
    simp only [asI1, l.line, if_true]
    exact z
theorem wa_r2 (h : WA (fs ρ) (fun ds ρ1 => Is2 ds fun i j => (Rng i ∧ Rng j) ∧ QA (intsFrom i (j - i).toNat) ρ1) E) : WA (mItR2 fs ρ) QA E := by
  with_unfolding_all
    unfold mItR2
    refine wa_bindA (h.mono (fun b ρ1 z => ?_) fun _ _ z => z)
    obtain ⟨i, j, rfl, ⟨l, l'⟩, z⟩ := z
    simp only [asI2, l.line, l'.line, Bool.and_self, if_true]
    exact z
theorem wa_r3 (h : WA (fs ρ) (fun ds ρ1 => Is3 ds fun i j => (Rng i ∧ Rng j) ∧ QA (intsDown i (i - j).toNat) ρ1) E) : WA (mItR3 fs ρ) QA E := by
  with_unfolding_all
    unfold mItR3
    refine wa_bindA (h.mono (fun b ρ1 z => ?_) fun _ _ z => z)
    obtain ⟨i, j, rfl, ⟨l, l'⟩, z⟩ := z
    simp only [asI3, l.line, l'.line, Bool.and_self, if_true, decide_true, Bool.and_true]
    exact z
def WF (tg : D → Env → Option Env) (f : Env → R (Fl × Env)) (ds : List D) (ρ : Env) (N : Env → Prop) (Rt : D → Env → Prop) (E : Er) : Prop := WS (mForL tg f ds ρ) N Rt (fun _ => False) (fun _ => False) E
theorem ws_for (k : WA (fs ρ) (fun ds ρ1 => WF tg f ds ρ1 N Rt E) E) : WS (mFor fs tg f ρ) N Rt B C E := by
  with_unfolding_all
    unfold mFor
    refine ws_bindA (k.mono (fun b ρ1 z => ?_) fun _ _ z => z)
    exact z.mono (fun _ z => z) (fun _ _ z => z) (fun _ z => z.elim) (fun _ z => z.elim) fun _ _ z => z
theorem wf_nil (h : N ρ) : WF tg f [] ρ N Rt E := by with_unfolding_all exact h
theorem wf_cons {ds : List D} (k : Sm (tg d ρ) fun ρ1 => WS (f ρ1) (fun ρ2 => WF tg f ds ρ2 N Rt E) Rt N (fun ρ2 => WF tg f ds ρ2 N Rt E) E) : WF tg f (d :: ds) ρ N Rt E := by
  with_unfolding_all
    obtain ⟨ρ1, e, k⟩ := k
    unfold WF
    unfold mForL
    rw [e]
    simp only [ofO, R.bind_ok]
    revert k
    generalize f ρ1 = r
    intro k
    match r, k with
    | .ok (.nx, ρ1), k => exact k
    | .ok (.rt d, ρ1), k => exact k
    | .ok (.bk, ρ1), k => exact k
    | .ok (.ct, ρ1), k => exact k
    | .er c fs, k => exact k
    | .bad, k => exact k
theorem wf_inv0 (I : Nat → Env → Prop) : ∀ (ds : List D) (k : Nat) (ρ : Env), I k ρ → (∀ i d ρ, ds[i]? = some d → I (k + i) ρ → Sm (tg d ρ) fun ρ1 => WS (f ρ1) (I (k + i + 1)) Rt N (I (k + i + 1)) E) → (∀ ρ', I (k + ds.length) ρ' → N ρ') → WF tg f ds ρ N Rt E
  | [], k, ρ, h0, _, he => wf_nil (he ρ h0)
  | d :: ds, k, ρ, h0, st, he => by
    have next : ∀ ρ2, I (k + 1) ρ2 → WF tg f ds ρ2 N Rt E := fun ρ2 h1 => by
      refine wf_inv0 I ds (k + 1) ρ2 h1 (fun i d' ρ' hd hi => ?_) fun ρ' h => he ρ' (by rw [List.length_cons, show k + (ds.length + 1) = k + 1 + ds.length by omega]; exact h)
      have e : k + 1 + i = k + (i + 1) := by omega
      rw [e] at hi ⊢
      exact st (i + 1) d' ρ' (by simpa using hd) hi
    refine wf_cons ?_
    obtain ⟨ρ1, e1, s1⟩ := st 0 d ρ rfl h0
    exact ⟨ρ1, e1, s1.mono next (fun _ _ z => z) (fun _ z => z) next fun _ _ z => z⟩
/-- a loop by its invariant -/
theorem wf_inv {ds : List D} (I : Nat → Env → Prop) (h0 : I 0 ρ) (st : ∀ i d ρ, ds[i]? = some d → I i ρ → Sm (tg d ρ) fun ρ1 => WS (f ρ1) (I (i + 1)) Rt N (I (i + 1)) E) (he : ∀ ρ', I ds.length ρ' → N ρ') : WF tg f ds ρ N Rt E :=
  wf_inv0 I ds 0 ρ h0 (fun i d ρ hd hi => by rw [Nat.zero_add] at hi ⊢; exact st i d ρ hd hi) fun ρ' h => he ρ' (by rw [Nat.zero_add] at h; exact h)
/-- over range(n) -/
theorem wf_rng {lo : Int} {k : Nat} (I : Nat → Env → Prop) (h0 : I 0 ρ) (st : ∀ (i : Nat) (ρ : Env), i < k → I i ρ → Sm (tg (.int (lo + (i : Int))) ρ) fun ρ1 => WS (f ρ1) (I (i + 1)) Rt N (I (i + 1)) E) (he : ∀ ρ', I k ρ' → N ρ') : WF tg f (intsFrom lo k) ρ N Rt E :=
  wf_inv I h0 (fun i d ρ hd hi => by obtain ⟨l, rfl⟩ := intsFrom_at hd; exact st i ρ l hi) fun ρ' h => he ρ' (by rw [intsFrom_length] at h; exact h)
theorem wf_down {lo : Int} {k : Nat} (I : Nat → Env → Prop) (h0 : I 0 ρ) (st : ∀ (i : Nat) (ρ : Env), i < k → I i ρ → Sm (tg (.int (lo - (i : Int))) ρ) fun ρ1 => WS (f ρ1) (I (i + 1)) Rt N (I (i + 1)) E) (he : ∀ ρ', I k ρ' → N ρ') : WF tg f (intsDown lo k) ρ N Rt E :=
  wf_inv I h0 (fun i d ρ hd hi => by obtain ⟨l, rfl⟩ := intsDown_at hd; exact st i ρ l hi) fun ρ' h => he ρ' (by rw [show (intsDown lo k).length = k by simp [intsDown]] at h; exact h)
/-- over a list that is told by a list -/
theorem wf_map {α : Type} {enc : α → D} {as : List α} (I : Nat → Env → Prop) (h0 : I 0 ρ) (st : ∀ (i : Nat) (a : α) (ρ : Env), as[i]? = some a → I i ρ → Sm (tg (enc a) ρ) fun ρ1 => WS (f ρ1) (I (i + 1)) Rt N (I (i + 1)) E) (he : ∀ ρ', I as.length ρ' → N ρ') : WF tg f (as.map enc) ρ N Rt E :=
  wf_inv I h0 (fun i d ρ hd hi => by
    rw [List.getElem?_map] at hd
    cases q : as[i]? with
    | none => rw [q] at hd; cases hd
    | some a => rw [q] at hd; cases hd; exact st i a ρ q hi) fun ρ' h => he ρ' (by rw [List.length_map] at h; exact h)
/-- while, by a measure -/
theorem ws_while (I : Nat → Env → Prop) : ∀ (n k : Nat) (ρ : Env), k < n → I k ρ → (∀ k ρ, I k ρ → WT (ft ρ) (fun b ρ1 => Br b (WS (f ρ1) (fun ρ2 => ∃ k', k' < k ∧ I k' ρ2) Rt N (fun ρ2 => ∃ k', k' < k ∧ I k' ρ2) E) (N ρ1)) E) → WS (mWhile n ft f ρ) N Rt B C E
  | 0, k, ρ, hk, _, _ => by omega
  | n + 1, k, ρ, hk, h0, st => by
    with_unfolding_all
      unfold mWhile
      refine ws_bindT ((st k ρ h0).mono (fun b ρ1 z => ?_) fun _ _ z => z)
      cases b with
      | false => exact z.2 rfl
      | true =>
        have z := z.1 rfl
        have next : ∀ ρ2, (∃ k', k' < k ∧ I k' ρ2) → WS (mWhile n ft f ρ2) N Rt B C E := fun ρ2 ⟨k', l, h⟩ => ws_while I n k' ρ2 (by omega) h st
        simp only [if_true]
        revert z
        generalize f ρ1 = r
        intro z
        match r, z with
        | .ok (.nx, ρ1), z => exact next _ z
        | .ok (.rt d, ρ1), z => exact z
        | .ok (.bk, ρ1), z => exact z
        | .ok (.ct, ρ1), z => exact next _ z
        | .er c fs, z => exact z
        | .bad, z => exact z
/-! comprehensions -/
theorem back_wipe {ρ : Env} {vs : List Nat} : backE ρ (wipeE ρ vs) vs = ρ := by
  have h : ∀ (us : List Nat) (ρ' : Env), ρ'.length = ρ.length → (∀ k, k ∉ us → ρ'[k]? = ρ[k]?) → backE ρ ρ' us = ρ := by
    intro us
    induction us with
    | nil =>
      intro ρ' _ h
      exact List.ext_getElem? fun k => h k (by simp)
    | cons u us ih =>
      intro ρ' hl h
      show (backE ρ ρ' us).set u ((ρ[u]?).getD none) = ρ
      have e : backE ρ ρ' us = ρ.set u ((ρ'[u]?).getD none) ∨ backE ρ ρ' us = ρ := by
        by_cases hu : u ∈ us
        · refine .inr (ih ρ' hl fun k hk => h k ?_)
          intro z
          rcases List.mem_cons.mp z with z | z
          · subst z; exact hk hu
          · exact hk z
        · left
          have g : backE ρ (ρ'.set u ((ρ[u]?).getD none)) us = ρ := ih _ (by rw [List.length_set]; exact hl) fun k hk => by
            by_cases e : k = u
            · subst e
              by_cases hlt : k < ρ.length
              · rw [List.getElem?_set_self (by omega), List.getElem?_eq_getElem hlt]; rfl
              · rw [List.getElem?_eq_none (by rw [List.length_set]; omega), List.getElem?_eq_none (by omega)]
            · rw [List.getElem?_set_ne (Ne.symm e)]
              exact h k fun z => (List.mem_cons.mp z).elim e hk
          -- setting outside us goes through
          have comm : ∀ (us : List Nat) (τ : Env) (x : Option D), u ∉ us → backE ρ (τ.set u x) us = (backE ρ τ us).set u x := by
            intro us
            induction us with
            | nil => intro τ x _; rfl
            | cons w us ih2 =>
              intro τ x hu
              show (backE ρ (τ.set u x) us).set w _ = ((backE ρ τ us).set w _).set u x
              rw [ih2 τ x fun z => hu (List.mem_cons_of_mem _ z)]
              exact List.set_comm _ _ fun z => hu (by rw [z]; exact List.mem_cons_self)
          rw [comm us ρ' _ hu] at g
          refine List.ext_getElem? fun k => ?_
          by_cases e : k = u
          · subst e
            by_cases hlt : k < ρ.length
            · rw [List.getElem?_set_self hlt]
              have key : ∀ (us : List Nat), k ∉ us → (backE ρ ρ' us)[k]? = ρ'[k]? := by
                intro us
                induction us with
                | nil => intro _; rfl
                | cons w us ih2 =>
                  intro hu
                  show ((backE ρ ρ' us).set w _)[k]? = _
                  rw [List.getElem?_set_ne fun z => hu (by rw [z]; exact List.mem_cons_self)]
                  exact ih2 fun z => hu (List.mem_cons_of_mem _ z)
              rw [key us hu, List.getElem?_eq_getElem (by omega)]; rfl
            · rw [List.getElem?_eq_none (by rw [backE_length]; omega), List.getElem?_eq_none (by rw [List.length_set]; omega)]
          · have g2 := congrArg (fun l => l[k]?) g
            simp only [List.getElem?_set_ne (Ne.symm e)] at g2
            rw [g2, List.getElem?_set_ne (Ne.symm e)]
      rcases e with e | e
      · rw [e, List.set_set]
        refine List.ext_getElem? fun k => ?_
        by_cases e : k = u
        · subst e
          by_cases hlt : k < ρ.length
          · rw [List.getElem?_set_self hlt, List.getElem?_eq_getElem hlt]; rfl
          · rw [List.getElem?_eq_none (by rw [List.length_set]; omega), List.getElem?_eq_none (by omega)]
        · rw [List.getElem?_set_ne (Ne.symm e)]
      · rw [e]
        refine List.ext_getElem? fun k => ?_
        by_cases e : k = u
        · subst e
          by_cases hlt : k < ρ.length
          · rw [List.getElem?_set_self hlt, List.getElem?_eq_getElem hlt]; rfl
          · rw [List.getElem?_eq_none (by rw [List.length_set]; omega), List.getElem?_eq_none (by omega)]
        · rw [List.getElem?_set_ne (Ne.symm e)]
  refine h vs _ wipeE_length fun k hk => ?_
  have : ∀ (vs : List Nat), k ∉ vs → (wipeE ρ vs)[k]? = ρ[k]? := by
    intro vs
    induction vs with
    | nil => intro _; rfl
    | cons w us ih =>
      intro hu
      show ((wipeE ρ us).set w none)[k]? = _
      rw [List.getElem?_set_ne fun z => hu (by rw [z]; exact List.mem_cons_self)]
      exact ih fun z => hu (List.mem_cons_of_mem _ z)
  exact this vs hk
/-- what a comprehension's turns give -/
def WC (vs : List Nat) (tg : D → Env → Option Env) (ft : Env → R (Bool × Env)) (fa : Env → R (D × Env)) (ds : List D) (ρ : Env) (Q : List D → Env → Prop) (E : Er) : Prop := WA (mCompL vs tg ft fa ds (wipeE ρ vs)) (fun ys ρ2 => Q ys (backE ρ ρ2 vs)) E
theorem we_comp {vs : List Nat} (h : WA (fs ρ) (fun ds ρ1 => ds.length ≤ 100000 ∧ WC vs tg ft fa ds ρ1 (fun ys ρ2 => Q (.lst ys) ρ2) E) E) : WE (mComp vs fs tg ft fa ρ) Q E := by
  with_unfolding_all
    unfold mComp
    have bind : ∀ {r : R (List D × Env)} {k : List D × Env → R (D × Env)}, WA r (fun d ρ1 => WE (k (d, ρ1)) Q E) E → WE (r.bind k) Q E := by
      intro r k h
      match r, h with
      | .ok (b, ρ1), h => exact h
      | .er c fs, h => exact h
      | .bad, h => exact h
    refine bind (h.mono (fun b ρ1 z => ?_) fun _ _ z => z)
    obtain ⟨l, z⟩ := z
    dsimp only
    rw [if_pos l]
    exact bind z
theorem wc_map0 {α : Type} {enc f' : α → D} {vs : List Nat} : ∀ (as : List α), (∀ a ∈ as, Sm (tg (enc a) (wipeE ρ vs)) fun ρ1 => WE (fa ρ1) (fun y ρ2 => y = f' a ∧ wipeE ρ2 vs = wipeE ρ vs) E0) → mCompL vs tg mYes fa (as.map enc) (wipeE ρ vs) = .ok (as.map f', wipeE ρ vs)
  | [], _ => rfl
  | a :: as, st => by
    obtain ⟨ρ1, e1, s1⟩ := st a List.mem_cons_self
    have e4 := wc_map0 as fun d' m => st d' (List.mem_cons_of_mem _ m)
    obtain ⟨y, ρ2, q, e2, e3⟩ := s1.get
    · unfold mCompL
      simp only [List.map_cons, e1, ofO, noEr, mYes, R.bind_ok, if_true, q, e2, e3, e4]
/-- a comprehension that changes nothing -/
theorem wc_map {ρw : Env} {α : Type} {enc : α → D} {as : List α} {vs : List Nat} [w : WipeEq ρ vs ρw] (f' : α → D) (st : ∀ a ∈ as, Sm (tg (enc a) (ρw)) fun ρ1 => WE (fa ρ1) (fun y ρ2 => y = f' a ∧ wipeE ρ2 vs = ρw) E0) (h : QA (as.map f') ρ) : WC vs tg mYes fa (as.map enc) ρ QA E := by
  with_unfolding_all
    obtain ⟨rfl⟩ := w
    unfold WC
    rw [wc_map0 as st]
    show QA _ (backE ρ (wipeE ρ vs) vs)
    rw [back_wipe]; exact h
theorem wc_fil0 {α : Type} {enc f' : α → D} {p : α → Bool} {vs : List Nat} : ∀ (as : List α), (∀ a ∈ as, Sm (tg (enc a) (wipeE ρ vs)) fun ρ1 => WT (ft ρ1) (fun b ρ2 => b = p a ∧ (p a = true → WE (fa ρ2) (fun y ρ3 => y = f' a ∧ wipeE ρ3 vs = wipeE ρ vs) E0) ∧ (p a = false → wipeE ρ2 vs = wipeE ρ vs)) E0) →
    mCompL vs tg ft fa (as.map enc) (wipeE ρ vs) = .ok ((as.filter p).map f', wipeE ρ vs)
  | [], _ => rfl
  | a :: as, st => by
    obtain ⟨ρ1, e1, s1⟩ := st a List.mem_cons_self
    have e4 := wc_fil0 as fun d' m => st d' (List.mem_cons_of_mem _ m)
    obtain ⟨b, ρ2, q, e2, h1, h2⟩ := s1.get
    · subst e2
      cases pa : p a with
      | false =>
        unfold mCompL
        simp only [List.map_cons, e1, ofO, noEr, R.bind_ok, q, pa, h2 pa, e4, List.filter_cons, Bool.false_eq_true, if_false]
      | true =>
        have h1 := h1 pa
        obtain ⟨y, ρ3, q2, e2, e3⟩ := h1.get
        · unfold mCompL
          simp only [List.map_cons, e1, ofO, noEr, R.bind_ok, q, q2, pa, e2, e3, e4, List.filter_cons, if_true]
theorem wc_fil {ρw : Env} {α : Type} {enc : α → D} {as : List α} {vs : List Nat} [w : WipeEq ρ vs ρw] (p : α → Bool) (f' : α → D) (st : ∀ a ∈ as, Sm (tg (enc a) (ρw)) fun ρ1 => WT (ft ρ1) (fun b ρ2 => b = p a ∧ (p a = true → WE (fa ρ2) (fun y ρ3 => y = f' a ∧ wipeE ρ3 vs = ρw) E0) ∧ (p a = false → wipeE ρ2 vs = ρw)) E0)
    (h : QA ((as.filter p).map f') ρ) : WC vs tg ft fa (as.map enc) ρ QA E := by
  with_unfolding_all
    obtain ⟨rfl⟩ := w
    unfold WC
    rw [wc_fil0 as st]
    show QA _ (backE ρ (wipeE ρ vs) vs)
    rw [back_wipe]; exact h
theorem map_id' {ds : List D} : ds = ds.map id := by simp
theorem intsFrom_map {lo : Int} {k : Nat} : intsFrom lo k = (List.range k).map fun (i : Nat) => D.int (lo + (i : Int)) := rfl
/-- over range(n) -/
theorem wc_rng {ρw : Env} {lo : Int} {k : Nat} {vs : List Nat} [w : WipeEq ρ vs ρw] (f' : Nat → D) (st : ∀ i, i < k → Sm (tg (.int (lo + (i : Int))) (ρw)) fun ρ1 => WE (fa ρ1) (fun y ρ2 => y = f' i ∧ wipeE ρ2 vs = ρw) E0) (h : QA ((List.range k).map f') ρ) : WC vs tg mYes fa (intsFrom lo k) ρ QA E := by
  obtain ⟨rfl⟩ := w
  rw [intsFrom_map]
  haveI : WipeEq ρ vs (wipeE ρ vs) := ⟨rfl⟩
  exact wc_map f' (fun a m => st a (List.mem_range.mp m)) h
theorem wc_rngF {ρw : Env} {lo : Int} {k : Nat} {vs : List Nat} [w : WipeEq ρ vs ρw] (p : Nat → Bool) (f' : Nat → D) (st : ∀ i, i < k → Sm (tg (.int (lo + (i : Int))) (ρw)) fun ρ1 => WT (ft ρ1) (fun b ρ2 => b = p i ∧ (p i = true → WE (fa ρ2) (fun y ρ3 => y = f' i ∧ wipeE ρ3 vs = ρw) E0) ∧ (p i = false → wipeE ρ2 vs = ρw)) E0)
    (h : QA (((List.range k).filter p).map f') ρ) : WC vs tg ft fa (intsFrom lo k) ρ QA E := by
  obtain ⟨rfl⟩ := w
  rw [intsFrom_map]
  haveI : WipeEq ρ vs (wipeE ρ vs) := ⟨rfl⟩
  exact wc_fil p f' (fun a m => st a (List.mem_range.mp m)) h
/-- a comprehension that changes its names, by an invariant -/
theorem wc_inv0 {vs : List Nat} (I : Nat → List D → Env → Prop) : ∀ (ds : List D) (k : Nat) (acc : List D) (ρ : Env), I k acc ρ → (∀ i d acc ρ, ds[i]? = some d → I (k + i) acc ρ → Sm (tg d ρ) fun ρ1 => WE (fa ρ1) (fun y ρ2 => I (k + i + 1) (acc ++ [y]) (wipeE ρ2 vs)) E0) →
    ∃ ys ρ', mCompL vs tg mYes fa ds ρ = .ok (ys, ρ') ∧ I (k + ds.length) (acc ++ ys) ρ'
  | [], k, acc, ρ, h0, _ => ⟨[], ρ, rfl, by simpa using h0⟩
  | d :: ds, k, acc, ρ, h0, st => by
    obtain ⟨ρ1, e1, s1⟩ := st 0 d acc ρ rfl h0
    obtain ⟨y, ρ2, q, s1⟩ := s1.get
    · obtain ⟨ys, ρ', e4, h4⟩ := wc_inv0 I ds (k + 1) (acc ++ [y]) (wipeE ρ2 vs) s1 fun i d' a' ρ' hd hi => by
        have e : k + 1 + i = k + (i + 1) := by omega
        rw [e] at hi ⊢
        exact st (i + 1) d' a' ρ' (by simpa using hd) hi
      refine ⟨y :: ys, ρ', ?_, by rw [List.length_cons, show k + (ds.length + 1) = k + 1 + ds.length by omega]; simpa using h4⟩
      unfold mCompL
      simp only [e1, ofO, noEr, mYes, R.bind_ok, if_true, q, e4]
theorem wc_inv {ρw : Env} {vs : List Nat} {ds : List D} [w : WipeEq ρ vs ρw] (I : Nat → List D → Env → Prop) (h0 : I 0 [] (ρw)) (st : ∀ i d acc ρ, ds[i]? = some d → I i acc ρ → Sm (tg d ρ) fun ρ1 => WE (fa ρ1) (fun y ρ2 => I (i + 1) (acc ++ [y]) (wipeE ρ2 vs)) E0) (h : ∀ ys ρ', I ds.length ys ρ' → QA ys (backE ρ ρ' vs)) : WC vs tg mYes fa ds ρ QA E := by
  with_unfolding_all
    obtain ⟨rfl⟩ := w
    obtain ⟨ys, ρ', e, hi⟩ := wc_inv0 (tg := tg) (fa := fa) I ds 0 [] (wipeE ρ vs) h0 fun i d acc ρ hd hi => by rw [Nat.zero_add] at hi ⊢; exact st i d acc ρ hd hi
    rw [Nat.zero_add, List.nil_append] at hi
    unfold WC
    rw [e]
    exact h ys ρ' hi
/-! defs -/
theorem wr_fn {ds : List D} {ρ0 : Env} (e2 : ds.map some ++ List.replicate (N' - n) none = ρ0) (k : WS (f ρ0) (fun _ => QR .non) (fun d _ => QR d) (fun _ => False) (fun _ => False) E) (e : ds.length = n := by rfl) : WR (mFn n N' f ds) QR E := by
  with_unfolding_all
    unfold mFn
    rw [if_pos e, e2]
    revert k
    generalize f ρ0 = r
    intro k
    match r, k with
    | .ok (.nx, ρ1), k => exact k
    | .ok (.rt d, ρ1), k => exact k
    | .ok (.bk, ρ1), k => exact k
    | .ok (.ct, ρ1), k => exact k
    | .er c fs, k => exact k
    | .bad, k => exact k
theorem wb_fn {ds : List D} {ρ0 : Env} (e2 : ds.map some ++ List.replicate (N' - n) none = ρ0) (k : WS (f ρ0) (fun ρ1 => Lk ρ1 0 (QB .non)) (fun d ρ1 => Lk ρ1 0 (QB d)) (fun _ => False) (fun _ => False) E) (e : ds.length = n := by rfl) : WB (mFnB n N' f ds) QB E := by
  with_unfolding_all
    unfold mFnB
    rw [if_pos e, e2]
    revert k
    generalize f ρ0 = r
    intro k
    match r, k with
    | .ok (.nx, ρ1), h =>
      simp only [WE_ok, WA_ok, WT_ok, WB_ok, WO_ok, WS_nx, WS_rt] at h
      obtain ⟨d0, e, k⟩ := h
      simp only [R.bind_ok, e]; exact k
    | .ok (.rt d, ρ1), h =>
      simp only [WE_ok, WA_ok, WT_ok, WB_ok, WO_ok, WS_nx, WS_rt] at h
      obtain ⟨d0, e, k⟩ := h
      simp only [R.bind_ok, e]; exact k
    | .ok (.bk, ρ1), k => exact k.elim
    | .ok (.ct, ρ1), k => exact k.elim
    | .er c fs, k => exact k
    | .bad, k => exact k
end
/-! what operations give -/
theorem sm_I0 {f : Int → Int → Int} {i j : Int} {K : D → Prop} (h : K (.int (f i j))) : Sm (gI0 f (.int i) (.int j)) K := ⟨_, rfl, h⟩
theorem sm_IB {f : Int → Int → Bool} {i j : Int} {K : D → Prop} (h : K (.bl (f i j))) : Sm (gIB f (.int i) (.int j)) K := ⟨_, rfl, h⟩
theorem sm_II {c : Int → Int → Bool} {f : Int → Int → Int} {i j : Int} {K : D → Prop} (e : c i j = true) (h : K (.int (f i j))) : Sm (gII c f (.int i) (.int j)) K := ⟨_, gII_eq e, h⟩
theorem sm_U {f : Int → Int} {i : Int} {K : D → Prop} (h : K (.int (f i))) : Sm (gU f (.int i)) K := ⟨_, rfl, h⟩
theorem sm_eq {i j : Int} {K : D → Prop} (h : K (.bl (decide (i = j)))) : Sm (gEq (.int i) (.int j)) K := ⟨_, rfl, h⟩
theorem sm_ne {i j : Int} {K : D → Prop} (h : K (.bl (!decide (i = j)))) : Sm (gNe (.int i) (.int j)) K := ⟨_, rfl, h⟩
theorem sm_not {b : Bool} {K : D → Prop} (h : K (.bl (!b))) : Sm (gNot (.bl b)) K := ⟨_, rfl, h⟩
theorem sm_tup {xs : List D} {K : D → Prop} (e : xs.length ≤ 1000) (h : K (.tup xs)) : Sm (gTup xs) K := ⟨_, if_pos e, h⟩
theorem sm_lst {xs : List D} {K : D → Prop} (e : xs.length ≤ 1000) (h : K (.lst xs)) : Sm (gLst xs) K := ⟨_, if_pos e, h⟩
theorem sm_one {g : D → Option D} {x : D} {K : D → Prop} (h : Sm (g x) K) : Sm (gOne g [x]) K := h
theorem sm_two {g : D → D → Option D} {x y : D} {K : D → Prop} (h : Sm (g x y) K) : Sm (gTwo g [x, y]) K := h
theorem sm_ixl {xs : List D} {i : Int} {K : D → Prop} (h : Sm (atI xs i) K) : Sm (gIx (.lst xs) (.int i)) K := h
theorem sm_ixt {xs : List D} {i : Int} {K : D → Prop} (h : Sm (atI xs i) K) : Sm (gIx (.tup xs) (.int i)) K := h
theorem sm_ixk {xs : List D} {i : Int} {K : D → Prop} (h : Sm (atI xs i) K) : Sm (gIx (.kls xs) (.int i)) K := h
theorem sm_at {α : Type} {enc : α → D} {as : List α} {k : Nat} {a : α} {K : D → Prop} (e : as[k]? = some a) (h : K (enc a)) : Sm (atI (as.map enc) (k : Int)) K := ⟨_, atI_nat (by rw [List.getElem?_map, e]; rfl), h⟩
theorem sm_fld {ix : List (Nat × Nat)} {c : Nat} {fs : List D} {d : D} {K : D → Prop} (e : ((ix.lookup c).bind fun j => fs[j]?) = some d) (h : K d) : Sm (gFld ix (.ins c fs)) K := ⟨d, e, h⟩
theorem sm_atc {x : D} {xs : List D} {i : Int} {d : D} {K : D → Prop} (e : atI (x :: xs) i = some d) (h : K d) : Sm (atI (x :: xs) i) K := ⟨d, e, h⟩
theorem sm_isT {cs : List Nat} {ts : List Ty} {d : D} {K : D → Prop} (e : gIsi cs ts d = some (.bl true)) (h : K (.bl true)) : Sm (gIsi cs ts d) K := ⟨_, e, h⟩
theorem sm_isF {cs : List Nat} {ts : List Ty} {d : D} {K : D → Prop} (e : gIsi cs ts d = some (.bl false)) (h : K (.bl false)) : Sm (gIsi cs ts d) K := ⟨_, e, h⟩
theorem sm_nnT {f : Bool → Bool} {x y : D} {K : D → Prop} (e : gIs f x y = some (.bl true)) (h : K (.bl true)) : Sm (gIs f x y) K := ⟨_, e, h⟩
theorem sm_nnF {f : Bool → Bool} {x y : D} {K : D → Prop} (e : gIs f x y = some (.bl false)) (h : K (.bl false)) : Sm (gIs f x y) K := ⟨_, e, h⟩
theorem sm_lenl {xs : List D} {K : D → Prop} (h : K (.int xs.length)) : Sm (gLen (.lst xs)) K := ⟨_, rfl, h⟩
theorem sm_lent {xs : List D} {K : D → Prop} (h : K (.int xs.length)) : Sm (gLen (.tup xs)) K := ⟨_, rfl, h⟩
theorem sm_lenk {xs : List D} {K : D → Prop} (h : K (.int xs.length)) : Sm (gLen (.kls xs)) K := ⟨_, rfl, h⟩
theorem intsOf_map {α : Type} {g : α → Int} : ∀ (as : List α), intsOf (as.map fun a => D.int (g a)) = some (as.map g)
  | [] => rfl
  | a :: as => by simp only [List.map_cons, intsOf, intsOf_map as, Option.map_some]
theorem blsOf_map {α : Type} {g : α → Bool} : ∀ (as : List α), blsOf (as.map fun a => D.bl (g a)) = some (as.map g)
  | [] => rfl
  | a :: as => by simp only [List.map_cons, blsOf, blsOf_map as, Option.map_some]
theorem sm_sum {α : Type} {g : α → Int} {as : List α} {K : D → Prop} (h : K (.int (as.map g).sum)) : Sm (gSum (.lst (as.map fun a => D.int (g a)))) K := ⟨_, by unfold gSum; simp only [seqD, Option.bind_some, if_true, intsOf_map]; rfl, h⟩
theorem sm_sumI {as : List Int} {K : D → Prop} (h : K (.int as.sum)) : Sm (gSum (.lst (as.map D.int))) K := ⟨_, by unfold gSum; simp only [seqD, Option.bind_some, if_true, intsOf_map (g := id)]; rw [show as.map D.int = as.map (fun a => D.int (id a)) from rfl, intsOf_map]; simp, h⟩
theorem sm_all {α : Type} {g : α → Bool} {as : List α} {K : D → Prop} (h : K (.bl (as.all g))) : Sm (gAll (.lst (as.map fun a => D.bl (g a)))) K := ⟨_, by unfold gAll; simp only [seqD, Option.bind_some, if_true, blsOf_map]; rfl, by simpa [List.all_map] using h⟩
theorem sm_any {α : Type} {g : α → Bool} {as : List α} {K : D → Prop} (h : K (.bl (as.any g))) : Sm (gAny (.lst (as.map fun a => D.bl (g a)))) K := ⟨_, by unfold gAny; simp only [seqD, Option.bind_some, if_true, blsOf_map]; rfl, by simpa [List.any_map] using h⟩
end Z
set_option Elab.async false
set_option linter.all false
set_option maxRecDepth 100000
/-! V2: sizes of whole numbers in bits; sums over ranges -/
namespace Z
/-- at most k bits -/
def Bit (k : Nat) (i : Int) : Prop := i.natAbs < 2 ^ k
theorem Bit.lit {k : Nat} {i : Int} (n : Nat) (h : i.natAbs < n) (hn : n ≤ 2 ^ k := by decide) : Bit k i := Nat.lt_of_lt_of_le h hn
theorem Bit.mono {a b : Nat} {i : Int} (h : Bit a i) (hab : a ≤ b) : Bit b i := Nat.lt_of_lt_of_le h (Nat.pow_le_pow_right (by decide) hab)
theorem Bit.mul {a b : Nat} {i j : Int} (h : Bit a i) (h' : Bit b j) : Bit (a + b) (i * j) := by
  unfold Bit at *
  rw [Int.natAbs_mul, Nat.pow_add]
  exact Nat.mul_lt_mul'' h h'
theorem Bit.add {a : Nat} {i j : Int} (h : Bit a i) (h' : Bit a j) : Bit (a + 1) (i + j) := by
  unfold Bit at *
  rw [Nat.pow_succ]
  have := Int.natAbs_add_le i j
  omega
theorem Bit.sub {a : Nat} {i j : Int} (h : Bit a i) (h' : Bit a j) : Bit (a + 1) (i - j) := by
  unfold Bit at *
  rw [Nat.pow_succ]
  have := Int.natAbs_sub_le i j
  omega
theorem Bit.neg {a : Nat} {i : Int} (h : Bit a i) : Bit a (-i) := by unfold Bit at *; rw [Int.natAbs_neg]; exact h
theorem Bit.div {a : Nat} {i j : Int} (h : Bit a i) : Bit a (i / j) := by
  unfold Bit at *
  exact Nat.lt_of_le_of_lt (Int.natAbs_ediv_le_natAbs i j) h
theorem Bit.le {a : Nat} {i j : Int} (h : Bit a i) (h0 : 0 ≤ j) (h1 : j ≤ i) : Bit a j := by unfold Bit at *; omega
theorem Bit.small {k : Nat} {i : Int} (h : Bit k i) (hk : k ≤ 9000) : small5k i = true := by
  unfold small5k
  have z : i.natAbs.log2 < 9000 := by
    by_cases e : i.natAbs = 0
    · rw [e]; decide
    · have := (Nat.log2_lt e).mpr (Nat.lt_of_lt_of_le h (Nat.pow_le_pow_right (by decide) hk))
      exact this
  exact decide_eq_true z
theorem cMul_bits {a b : Nat} {i j : Int} (h : Bit a i) (h' : Bit b j) (ha : a ≤ 9000) (hb : b ≤ 9000) : cMul i j = true := by
  unfold cMul
  rw [h.small ha, h'.small hb]; simp
theorem cDiv_bits {b : Nat} {i j : Int} (h0 : 0 < j) (h' : Bit b j) (hb : b ≤ 9000) : cDiv i j = true := by
  unfold cDiv
  rw [h'.small hb, decide_eq_true (show j ≠ 0 by omega), decide_eq_true h0]; simp
theorem lcm_bits : ∀ (ds : List Int) (acc : Int) (b k : Nat), 0 < acc → Bit b acc → (∀ d ∈ ds, 0 < d ∧ Bit k d) → 0 < ds.foldl lcmI acc ∧ Bit (b + k * ds.length) (ds.foldl lcmI acc)
  | [], acc, b, k, h, hb, _ => ⟨h, by simpa using hb⟩
  | d :: ds, acc, b, k, h, hb, hd => by
    obtain ⟨d0, d1⟩ := hd d List.mem_cons_self
    obtain ⟨p, q⟩ := lcmI_le h d0
    have hb2 : Bit (b + k) (lcmI acc d) := (hb.mul d1).le (Int.le_of_lt p) q
    obtain ⟨x, y⟩ := lcm_bits ds (lcmI acc d) (b + k) k p hb2 fun e he => hd e (List.mem_cons_of_mem _ he)
    refine ⟨x, ?_⟩
    rw [List.length_cons, Nat.mul_succ, show b + (k * ds.length + k) = b + k + k * ds.length by omega]
    exact y
theorem lcm_dvd : ∀ (ds : List Int) (acc : Int), acc ∣ ds.foldl lcmI acc ∧ ∀ d ∈ ds, d ∣ ds.foldl lcmI acc
  | [], acc => ⟨Int.dvd_refl _, fun d h => by cases h⟩
  | d :: ds, acc => by
    obtain ⟨a, b⟩ := lcm_dvd ds (lcmI acc d)
    refine ⟨Int.dvd_trans (dvd_lcmI_l acc d) a, fun e he => ?_⟩
    rcases List.mem_cons.mp he with z | z
    · subst z; exact Int.dvd_trans (dvd_lcmI_r acc _) a
    · exact b e z
end Z
set_option Elab.async false
set_option linter.all false
set_option maxRecDepth 100000
/-! V3: rules for the words of Y7 -/
namespace Z
open PySem PySem.Spec L2
section
variable {fa fb fe fi : Env → R (D × Env)} {ρ : Env} {Q : D → Env → Prop} {E : Er} {c i : Nat} {m : List D → R D} {N B C : Env → Prop} {Rt : D → Env → Prop}
theorem we_bindR {α : Type} {r : R α} {k : α → R (D × Env)} (h : WR r (fun a => WE (k a) Q E) E) : WE (r.bind k) Q E := by
  with_unfolding_all
    match r, h with
    | .ok a, h => exact h
    | .er c fs, h => exact h
    | .bad, h => exact h
theorem we_opO (h : WE (fa ρ) (fun x ρ1 => WE (fb ρ1) (fun y ρ2 => Ins c x fun f1 => Ins c y fun f2 => WR (m [.ins c f1, .ins c f2]) (fun d => Q d ρ2) E) E) E) : WE (mBinO c m fa fb ρ) Q E := by
  with_unfolding_all
    unfold mBinO
    refine we_bindE (h.mono (fun x ρ1 z => ?_) fun _ _ z => z)
    refine we_bindE (z.mono (fun y ρ2 z => ?_) fun _ _ z => z)
    obtain ⟨f1, rfl, f2, rfl, z⟩ := z
    dsimp only
    rw [if_pos ⟨rfl, rfl⟩]
    exact we_bindR (z.mono (fun d z => by rw [WE_ok]; exact z) fun _ _ z => z)
theorem ws_insr {xs0 : List D} [g0 : GetEq ρ i (.lst xs0)] (k : WE (fi ρ) (fun j ρ1 => WE (fe ρ1) (fun d ρ2 => Lk ρ2 i fun x => Lst x fun xs => In j fun j => (xs.length < 100000 ∧ 0 ≤ j ∧ j < 100000) ∧ SetN ρ2 i (some (.lst (xs.take j.toNat ++ [d] ++ xs.drop j.toNat))) N) E) E) : WS (mInsr i fi fe ρ) N Rt B C E := by
  with_unfolding_all
    have e0 := g0.eq
    unfold mInsr
    simp only [e0]
    refine ws_bindE (k.mono (fun x ρ1 z => ?_) fun _ _ z => z)
    refine ws_bindE (z.mono (fun y ρ2 z => ?_) fun _ _ z => z)
    obtain ⟨d, e1, xs, rfl, j, rfl, hl, z⟩ := z
    simp only [e1, if_pos hl]
    rw [WS_nx]
    exact z
theorem sm_tupRevL {xs : List D} {P : D → Prop} (h : P (.tup xs.reverse)) : Sm (gTupRev (.lst xs)) P := ⟨_, rfl, h⟩
theorem sm_tupRevK {xs : List D} {P : D → Prop} (h : P (.tup xs.reverse)) : Sm (gTupRev (.kls xs)) P := ⟨_, rfl, h⟩
theorem sm_seqL {xs : List D} {P : Bool × List D → Prop} (h : P (true, xs)) : Sm (seqD (.lst xs)) P := ⟨_, rfl, h⟩
theorem sm_seqK {xs : List D} {P : Bool × List D → Prop} (h : P (true, xs)) : Sm (seqD (.kls xs)) P := ⟨_, rfl, h⟩
theorem sm_seqT {xs : List D} {P : Bool × List D → Prop} (h : P (false, xs)) : Sm (seqD (.tup xs)) P := ⟨_, rfl, h⟩
theorem sm_put1 {a b c d x : D} {P : List D → Prop} (h : P [a, x, c, d]) : Sm (gPut [a, b, c, d] 1 x) P := ⟨_, rfl, h⟩
theorem sm_put2 {a b c d x : D} {P : List D → Prop} (h : P [a, b, x, d]) : Sm (gPut [a, b, c, d] 2 x) P := ⟨_, rfl, h⟩
theorem sm_put3 {a b c d x : D} {P : List D → Prop} (h : P [a, b, c, x]) : Sm (gPut [a, b, c, d] 3 x) P := ⟨_, rfl, h⟩
theorem sm_ioI {k : Int} {P : D → Prop} (h : P (.int k)) : Sm (gIntO (.int k)) P := ⟨_, rfl, h⟩
theorem sm_pow {i j : Int} {P : D → Prop} (hc : cPow i j = true) (h : P (.int (i ^ j.toNat))) : Sm (gII cPow (fun i j => i ^ j.toNat) (.int i) (.int j)) P := ⟨_, gII_eq hc, h⟩
theorem cMul_fm {i m j : Int} (h : decide (0 < m ∧ m < 18446744073709551616) = true) : cMul (i.fmod m) j = true := by
  obtain ⟨h0, h1⟩ := of_decide_eq_true h
  have := Int.fmod_nonneg_of_pos i h0
  have := Int.fmod_lt_of_pos i h0
  exact cMul_l (by omega)
theorem sm_at_mod {cs : List Int} {p : Int} {P : D → Prop} (h : 0 < (((cs.map D.int).length : Nat) : Int)) (k : ∀ v, P (.int v)) : Sm (atI (cs.map D.int) (p.fmod (((cs.map D.int).length : Nat) : Int))) P := by
  have a := Int.fmod_nonneg_of_pos p h
  have b := Int.fmod_lt_of_pos p h
  rw [List.length_map] at *
  have hl : (p.fmod cs.length).toNat < cs.length := by omega
  exact ⟨.int cs[(p.fmod cs.length).toNat], atI_of a (by rw [List.getElem?_map, List.getElem?_eq_getElem hl]; rfl), k _⟩
theorem or_new {n m : Nat} {P R : Prop} (h : n = m) (p : P) : (n = m ∧ P) ∨ R := .inl ⟨h, p⟩
theorem sm_toL {xs : List D} {P : D → Prop} (h : P (.tup xs)) : Sm (gTupOf (.lst xs)) P := ⟨_, rfl, h⟩
theorem sm_toK {xs : List D} {P : D → Prop} (h : P (.tup xs)) : Sm (gTupOf (.kls xs)) P := ⟨_, rfl, h⟩
theorem sm_toT {xs : List D} {P : D → Prop} (h : P (.tup xs)) : Sm (gTupOf (.tup xs)) P := ⟨_, rfl, h⟩
theorem sm_loL {xs : List D} {P : D → Prop} (h : P (.lst xs)) : Sm (gListOf (.lst xs)) P := ⟨_, rfl, h⟩
theorem sm_loK {xs : List D} {P : D → Prop} (h : P (.lst xs)) : Sm (gListOf (.kls xs)) P := ⟨_, rfl, h⟩
theorem sm_loT {xs : List D} {P : D → Prop} (h : P (.lst xs)) : Sm (gListOf (.tup xs)) P := ⟨_, rfl, h⟩
theorem sm_catL {xs ys : List D} {P : D → Prop} (hl : xs.length + ys.length ≤ 1000) (h : P (.lst (xs ++ ys))) : Sm (gCat (.lst xs) (.lst ys)) P := ⟨_, if_pos hl, h⟩
theorem sm_catT {xs ys : List D} {P : D → Prop} (hl : xs.length + ys.length ≤ 1000) (hn : xs ≠ []) (h : P (.tup (xs ++ ys))) : Sm (gCatT (.tup xs) (.tup ys)) P := ⟨_, if_pos ⟨hl, hn⟩, h⟩
theorem sm_seq {d : D} {p : Bool × List D} {P : Bool × List D → Prop} (e : seqD d = some p) (h : P p) : Sm (seqD d) P := ⟨_, e, h⟩
theorem sm_len {d x : D} {P : D → Prop} (e : gLen d = some x) (h : P x) : Sm (gLen d) P := ⟨_, e, h⟩
theorem sm_ix {d i x : D} {P : D → Prop} (e : gIx d i = some x) (h : P x) : Sm (gIx d i) P := ⟨_, e, h⟩
theorem sm_ati {xs : List D} {i : Int} {x : D} {P : D → Prop} (e : atI xs i = some x) (h : P x) : Sm (atI xs i) P := ⟨_, e, h⟩
theorem sm_e {α : Type} {o : Option α} {a : α} {P : α → Prop} (e : o = some a) (h : P a) : Sm o P := ⟨a, e, h⟩
end
end Z
set_option Elab.async false
set_option linter.all false
set_option maxRecDepth 100000
/-! V4: rules for exceptions -/
namespace Z
open PySem PySem.Spec L2
section
variable {fs : Env → R (List D × Env)} {fb fu : Env → R (Fl × Env)} {ρ : Env} {Q : D → Env → Prop} {E : Er} {c i n : Nat} {N B C : Env → Prop} {Rt : D → Env → Prop} {tbl : List (Nat × Bool)} {m : List Bool} {ix : List (Nat × Nat)} {d : D} {gs : List D}
theorem ws_raise (k : WA (fs ρ) (fun xs _ => xs.length = n ∧ E c xs) E) : WS (mRaise c n fs ρ) N Rt B C E := by
  with_unfolding_all
    unfold mRaise
    refine ws_bindA (k.mono (fun xs ρ1 z => ?_) fun _ _ z => z)
    dsimp only
    rw [if_pos z.1]
    exact z.2
/-- where a caught exception goes -/
def Hd (tbl : List (Nat × Bool)) (m : List Bool) (i : Nat) (fu : Env → R (Fl × Env)) (ρ : Env) (N : Env → Prop) (Rt : D → Env → Prop) (E : Er) : Er := fun c fs => match tbl.lookup c with
  | some true => WS (fu ((supE m ρ).set i (some (.exc c fs)))) (fun ρ' => noXE (ρ'.set i none) = true ∧ N (ρ'.set i none)) (fun d ρ' => noX d = true ∧ Rt d (offE ρ')) (fun _ => False) (fun _ => False) E0
  | some false => E c fs
  | none => False
theorem ws_tryAs (k : WS (fb ρ) N Rt B C (Hd tbl m i fu ρ N Rt E)) : WS (mTryAs tbl m i fb fu ρ) N Rt B C E := by
  with_unfolding_all
    unfold mTryAs
    revert k
    generalize fb ρ = r
    intro k
    match r, k with
    | .ok (.nx, ρ'), k => exact k
    | .ok (.bk, ρ'), k => exact k
    | .ok (.ct, ρ'), k => exact k
    | .ok (.rt d, ρ'), k => exact k
    | .bad, k => exact k
    | .er c fs, k =>
      have k : Hd tbl m i fu ρ N Rt E c fs := k
      unfold Hd at k
      dsimp only
      cases q : tbl.lookup c with
      | none => rw [q] at k; exact k.elim
      | some b =>
        rw [q] at k
        cases b with
        | false => exact k
        | true =>
          dsimp only at k ⊢
          revert k
          generalize fu ((supE m ρ).set i (some (.exc c fs))) = r2
          intro k
          match r2, k with
          | .ok (.nx, ρ'), k =>
            have k : noXE (ρ'.set i none) = true ∧ N (ρ'.set i none) := k
            dsimp only
            rw [if_pos k.1]; exact k.2
          | .ok (.rt d, ρ'), k =>
            have k : noX d = true ∧ Rt d (offE ρ') := k
            dsimp only
            rw [if_pos k.1]; exact k.2
          | .ok (.bk, ρ'), k => exact k.elim
          | .ok (.ct, ρ'), k => exact k.elim
          | .er c' fs', k => exact k.elim
          | .bad, k => exact k
/-- a caught exception -/
theorem hd_in {fs : List D} (e : tbl.lookup c = some true) (k : WS (fu ((supE m ρ).set i (some (.exc c fs)))) (fun ρ' => noXE (ρ'.set i none) = true ∧ N (ρ'.set i none)) (fun d ρ' => noX d = true ∧ Rt d (offE ρ')) (fun _ => False) (fun _ => False) E0) : Hd tbl m i fu ρ N Rt E c fs := by
  unfold Hd; rw [e]; exact k
theorem hd_out {fs : List D} (e : tbl.lookup c = some false) (k : E c fs) : Hd tbl m i fu ρ N Rt E c fs := by
  unfold Hd; rw [e]; exact k
theorem we_fldX [g0 : GetEq ρ i (.exc c gs)] (e : ((ix.lookup c).bind fun j => gs[j]?) = some d) (h : Q d ρ) : WE (mFldX i ix ρ) Q E := by
  with_unfolding_all
    have e0 := g0.eq
    unfold mFldX
    simp only [e0, e]
    exact h
end
end Z
set_option Elab.async false
set_option linter.all false
set_option maxRecDepth 100000
/-! W2: fractions as core's rational numbers -/
namespace Z
open PySem PySem.Spec L2
/-- a Frac (class 0) -/
abbrev frD (q : Rat) : D := .ins 0 [.int q.num, .int (q.den : Int)]
/-- a pair in lowest terms -/
abbrev prD (q : Rat) : D := .tup [.int q.num, .int (q.den : Int)]
theorem den_pos' (q : Rat) : 0 < (q.den : Int) := by have := q.den_pos; omega
theorem gcdI_gcd (n d : Int) : gcdI n d = ((d.gcd n : Nat) : Int) := by rw [gcdI_def, Int.gcd, Nat.gcd_comm]
theorem low_num {n d : Int} (hd : 0 < d) : n / gcdI n d = (Rat.divInt n d).num := by
  rw [Rat.num_divInt, gcdI_gcd, Int.sign_eq_one_of_pos hd, Int.one_mul]
theorem low_den {n d : Int} (hd : 0 < d) : d / gcdI n d = ((Rat.divInt n d).den : Int) := by
  rw [Rat.den_divInt, gcdI_gcd, if_neg (by omega)]
  obtain ⟨m, rfl⟩ := Int.eq_ofNat_of_zero_le (Int.le_of_lt hd)
  simp
theorem cast_pos {d : Int} (h : 0 < d) : (0 : Rat) < (d : Rat) := by exact_mod_cast h
theorem divInt_eq {a b c d : Int} (hb : 0 < b) (hd : 0 < d) : Rat.divInt a b = Rat.divInt c d ↔ a * d = c * b := by
  rw [Rat.divInt_eq_div, Rat.divInt_eq_div]
  have h1 := cast_pos hb
  have h2 := cast_pos hd
  constructor
  · intro h
    have z : (a : Rat) * d = c * b := by grind
    exact_mod_cast z
  · intro h
    have z : (a : Rat) * d = c * b := by exact_mod_cast h
    grind
theorem divInt_lt {a b c d : Int} (hb : 0 < b) (hd : 0 < d) : Rat.divInt a b < Rat.divInt c d ↔ a * d < c * b := by
  have key : ∀ {a b : Int}, 0 < b → ∃ (g : Int), 0 < g ∧ a = (Rat.divInt a b).num * g ∧ b = ((Rat.divInt a b).den : Int) * g := fun {a b} hb => by
    refine ⟨gcdI a b, gcdI_pos hb, ?_, ?_⟩
    · rw [← low_num hb]; exact (Int.ediv_mul_cancel (gcdI_dvd_l a b)).symm
    · rw [← low_den hb]; exact (Int.ediv_mul_cancel (gcdI_dvd_r a b)).symm
  obtain ⟨g, g0, e1, e2⟩ := key (a := a) hb
  obtain ⟨k, k0, e3, e4⟩ := key (a := c) hd
  rw [Rat.lt_iff]
  generalize Rat.divInt a b = p at *
  generalize Rat.divInt c d = q at *
  rw [e1, e2, e3, e4]
  have z : 0 < g * k := Int.mul_pos g0 k0
  rw [show p.num * g * (↑q.den * k) = (p.num * ↑q.den) * (g * k) by grind, show q.num * k * (↑p.den * g) = (q.num * ↑p.den) * (g * k) by grind]
  exact ⟨fun h => Int.mul_lt_mul_of_pos_right h z, fun h => Int.lt_of_mul_lt_mul_right h (Int.le_of_lt z)⟩
theorem divInt_le {a b c d : Int} (hb : 0 < b) (hd : 0 < d) : Rat.divInt a b ≤ Rat.divInt c d ↔ a * d ≤ c * b := by
  have z := divInt_lt (a := c) (b := d) (c := a) (d := b) hd hb
  constructor
  · intro h
    have : ¬ c * b < a * d := fun w => absurd (z.mpr w) (Rat.not_lt.mpr h)
    omega
  · intro h
    exact Rat.not_lt.mp fun w => by have := z.mp w; omega
/-- at most k bits -/
def Sz (k : Nat) (q : Rat) : Prop := Bit k q.num ∧ Bit k (q.den : Int)
theorem Sz.mono {a b : Nat} {q : Rat} (h : Sz a q) (hab : a ≤ b) : Sz b q := ⟨h.1.mono hab, h.2.mono hab⟩
theorem num_bit {k : Nat} {n d : Int} (hd : 0 < d) (h : Bit k n) : Bit k (Rat.divInt n d).num := by rw [← low_num hd]; exact h.div
theorem den_bit {k : Nat} {n d : Int} (hd : 0 < d) (h : Bit k d) : Bit k ((Rat.divInt n d).den : Int) := by rw [← low_den hd]; exact h.div
theorem sz_div {k : Nat} {n d : Int} (hd : 0 < d) (h : Bit k n) (h' : Bit k d) : Sz k (Rat.divInt n d) := ⟨num_bit hd h, den_bit hd h'⟩
theorem rat_add (p q : Rat) : Rat.divInt (p.num * q.den + q.num * p.den) (p.den * q.den) = p + q := by
  have h1 := den_pos' p
  have h2 := den_pos' q
  rw [← Rat.divInt_add_divInt _ _ (by omega) (by omega), Rat.num_divInt_den, Rat.num_divInt_den]
theorem rat_sub (p q : Rat) : Rat.divInt (p.num * q.den - q.num * p.den) (p.den * q.den) = p - q := by
  have h1 := den_pos' p
  have h2 := den_pos' q
  rw [← Rat.divInt_sub_divInt _ _ (by omega) (by omega), Rat.num_divInt_den, Rat.num_divInt_den]
theorem rat_mul (p q : Rat) : Rat.divInt (p.num * q.num) (p.den * q.den) = p * q := by
  rw [← Rat.divInt_mul_divInt, Rat.num_divInt_den, Rat.num_divInt_den]
/-- a whole number of M-ths, at most B in amount -/
def Fit (M B : Int) (q : Rat) : Prop := 0 < M ∧ ∃ n : Int, q = Rat.divInt n M ∧ -(B * M) ≤ n ∧ n ≤ B * M
theorem Fit.sz {M B : Int} {k : Nat} {q : Rat} (h : Fit M B q) (h1 : Bit k (B * M)) (h2 : Bit k M) : Sz k q := by
  obtain ⟨h0, n, rfl, l, u⟩ := h
  refine sz_div h0 ?_ h2
  unfold Bit at *; omega
theorem Fit.add {M B C : Int} {p q : Rat} (h : Fit M B p) (h' : Fit M C q) : Fit M (B + C) (p + q) := by
  obtain ⟨h0, n, rfl, l, u⟩ := h
  obtain ⟨_, m, rfl, l', u'⟩ := h'
  refine ⟨h0, n + m, ?_, by rw [Int.add_mul]; omega, by rw [Int.add_mul]; omega⟩
  rw [Rat.divInt_add_divInt _ _ (by omega) (by omega), ← Int.add_mul, Rat.divInt_mul_right (by omega)]
theorem Fit.sub {M B C : Int} {p q : Rat} (h : Fit M B p) (h' : Fit M C q) : Fit M (B + C) (p - q) := by
  obtain ⟨h0, n, rfl, l, u⟩ := h
  obtain ⟨_, m, rfl, l', u'⟩ := h'
  refine ⟨h0, n - m, ?_, by rw [Int.add_mul]; omega, by rw [Int.add_mul]; omega⟩
  rw [Rat.divInt_sub_divInt _ _ (by omega) (by omega), ← Int.sub_mul, Rat.divInt_mul_right (by omega)]
theorem Fit.mul {M N B C : Int} {p q : Rat} (h : Fit M B p) (h' : Fit N C q) (hB : 0 ≤ B) : Fit (M * N) (B * C) (p * q) := by
  obtain ⟨h0, n, rfl, l, u⟩ := h
  obtain ⟨h0', m, rfl, l', u'⟩ := h'
  refine ⟨Int.mul_pos h0 h0', n * m, Rat.divInt_mul_divInt .., ?_⟩
  have e : B * C * (M * N) = (B * M) * (C * N) := by grind
  rw [e]
  have bm : 0 ≤ B * M := Int.mul_nonneg hB (Int.le_of_lt h0)
  have a1 : (n * m).natAbs ≤ (B * M).natAbs * (C * N).natAbs := by rw [Int.natAbs_mul]; exact Nat.mul_le_mul (by omega) (by omega)
  have a2 : ((B * M).natAbs * (C * N).natAbs : Int) = (B * M) * (C * N) := by
    rw [Int.natAbs_of_nonneg bm, Int.natAbs_of_nonneg (by omega)]
  have a3 : (((n * m).natAbs : Nat) : Int) ≤ (B * M) * (C * N) := by rw [← a2]; exact_mod_cast a1
  omega
theorem Fit.lift {M M' B : Int} {q : Rat} (h : Fit M B q) (hd : M ∣ M') (h' : 0 < M') : Fit M' B q := by
  obtain ⟨h0, n, rfl, l, u⟩ := h
  obtain ⟨c, rfl⟩ := hd
  have c0 : 0 < c := Int.pos_of_mul_pos_right h' h0
  refine ⟨h', n * c, ?_, ?_, ?_⟩
  · rw [Rat.divInt_mul_right (by omega)]
  · have z := Int.mul_le_mul_of_nonneg_right l (Int.le_of_lt c0)
    grind
  · have z := Int.mul_le_mul_of_nonneg_right u (Int.le_of_lt c0)
    grind
theorem Fit.more {M B C : Int} {q : Rat} (h : Fit M B q) (hc : B ≤ C) : Fit M C q := by
  obtain ⟨h0, n, e, l, u⟩ := h
  have z := Int.mul_le_mul_of_nonneg_right hc (Int.le_of_lt h0)
  exact ⟨h0, n, e, by omega, by omega⟩
theorem fit_div {n M B : Int} (h : 0 < M) (l : -(B * M) ≤ n) (u : n ≤ B * M) : Fit M B (Rat.divInt n M) := ⟨h, n, rfl, l, u⟩
theorem fit_self {q : Rat} {B : Int} (l : -(B * (q.den : Int)) ≤ q.num) (u : q.num ≤ B * (q.den : Int)) : Fit q.den B q := ⟨den_pos' q, q.num, (Rat.num_divInt_den q).symm, l, u⟩
theorem fit_zero {M : Int} (h : 0 < M) : Fit M 0 0 := ⟨h, 0, by rw [Rat.divInt_eq_div]; grind, by omega, by omega⟩
theorem divInt_one (i : Int) : Rat.divInt i 1 = (i : Rat) := by rw [Rat.divInt_eq_div]; grind
/-! Euclid's loop -/
theorem bitLen_nat {d : Int} (hd : 0 < d) (hb : Bit 9000 d) : ∃ L : Nat, bitLen d = (L : Int) ∧ L ≤ 9000 ∧ d < 2 ^ L ∧ 1 ≤ L := by
  refine ⟨d.natAbs.log2 + 1, ?_, ?_, ?_, by omega⟩
  · rw [bitLen_def]; unfold Builtin.Int.intBits
    rw [if_neg (by simp; omega)]
  · have := (Nat.log2_lt (n := d.natAbs) (k := 9000) (by omega)).mpr hb
    omega
  · have h := Nat.lt_log2_self (n := d.natAbs)
    have z : ((d.natAbs : Nat) : Int) < ((2 ^ (d.natAbs.log2 + 1) : Nat) : Int) := Int.ofNat_lt.mpr h
    rw [Int.natCast_pow] at z
    rw [Int.natAbs_of_nonneg (Int.le_of_lt hd)] at z
    exact z
theorem gcd_pb {n d : Int} (hd : 0 < d) (hb : Bit 9000 d) : 0 < gcdI n d ∧ Bit 9000 (gcdI n d) := ⟨gcdI_pos hd, hb.le (gcdI_nn _ _) (gcdI_le hd)⟩
structure EucI (n d : Int) (L i : Nat) (a b : Int) : Prop where
  a0 : 0 ≤ a
  b0 : 0 ≤ b
  g : gcdI a b = gcdI n d
  m : (i = 0 ∧ b = d) ∨ (1 ≤ i ∧ b < a ∧ a * b * 2 ^ (i - 1) < 2 ^ (2 * L))
theorem EucI.start {n d : Int} {L : Nat} (hd : 0 < d) : EucI n d L 0 (n.natAbs : Int) d :=
  ⟨Int.natCast_nonneg _, Int.le_of_lt hd, by rw [gcdI_def, gcdI_def, Int.natAbs_natCast], .inl ⟨rfl, rfl⟩⟩
theorem EucI.last {n d a : Int} {L i : Nat} (h : EucI n d L i a 0) : a = gcdI n d := by rw [← h.g]; exact (gcd_zero a h.a0).symm
theorem EucI.step {n d a b : Int} {L i : Nat} (h : EucI n d L i a b) (hd : 0 < d) (hL : d < 2 ^ L) (hz : b ≠ 0) : EucI n d L (i + 1) b (a.fmod b) := by
  have b1 : 0 < b := by have := h.b0; omega
  have r0 := Int.fmod_nonneg_of_pos a b1
  have r1 := Int.fmod_lt_of_pos a b1
  refine ⟨h.b0, r0, by rw [← gcd_step a b h.a0 b1]; exact h.g, .inr ⟨by omega, r1, ?_⟩⟩
  have re : a.fmod b = a % b := Int.fmod_eq_emod_of_nonneg a (Int.le_of_lt b1)
  rw [Nat.add_sub_cancel]
  rcases h.m with ⟨rfl, rfl⟩ | ⟨h1, h2, h3⟩
  · have z1 : b * a.fmod b < b * b := Int.mul_lt_mul_of_pos_left r1 b1
    have z2 : b * b ≤ 2 ^ L * 2 ^ L := Int.mul_le_mul (Int.le_of_lt hL) (Int.le_of_lt hL) (Int.le_of_lt b1) (by omega)
    have z3 : (2 : Int) ^ (2 * L) = 2 ^ L * 2 ^ L := by rw [Nat.two_mul, Int.pow_add]
    have z4 : (2 : Int) ^ 0 = 1 := rfl
    rw [z4]; omega
  · have e := Int.mul_ediv_add_emod a b
    have q1 : 1 ≤ a / b := (Int.le_ediv_iff_mul_le b1).mpr (by omega)
    have w1 : b * 1 ≤ b * (a / b) := Int.mul_le_mul_of_nonneg_left q1 (Int.le_of_lt b1)
    have w2 : 2 * a.fmod b ≤ a := by omega
    have w3 : b * (2 * a.fmod b) ≤ b * a := Int.mul_le_mul_of_nonneg_left w2 (Int.le_of_lt b1)
    have p0 : (0 : Int) < 2 ^ (i - 1) := Int.pow_pos (by decide)
    have w4 : b * (2 * a.fmod b) * 2 ^ (i - 1) ≤ b * a * 2 ^ (i - 1) := Int.mul_le_mul_of_nonneg_right w3 (Int.le_of_lt p0)
    obtain ⟨k, rfl⟩ : ∃ k, i = k + 1 := ⟨i - 1, by omega⟩
    rw [Nat.add_sub_cancel] at *
    rw [Int.pow_succ]
    have e1 : b * a.fmod b * (2 ^ k * 2) = b * (2 * a.fmod b) * 2 ^ k := by grind
    have e2 : b * a * 2 ^ k = a * b * 2 ^ k := by grind
    omega
theorem EucI.done {n d a b : Int} {L i : Nat} (h : EucI n d L i a b) (hi : 2 * L + 1 ≤ i) : b = 0 := by
  rcases h.m with ⟨rfl, _⟩ | ⟨h1, h2, h3⟩
  · omega
  · have b0 := h.b0
    rcases Int.lt_or_le 0 b with z | z
    · have z1 : (1 : Int) ≤ a * b := by have := Int.mul_pos (show 0 < a by omega) z; omega
      have p0 : (0 : Int) < 2 ^ (i - 1) := Int.pow_pos (by decide)
      have z2 := Int.mul_le_mul_of_nonneg_right z1 (Int.le_of_lt p0)
      have z3 : (2 : Int) ^ (2 * L) ≤ 2 ^ (i - 1) := by
        have : (2 : Nat) ^ (2 * L) ≤ 2 ^ (i - 1) := Nat.pow_le_pow_right (by decide) (by omega)
        have := Int.ofNat_le.mpr this
        simpa using this
      omega
    · omega
end Z
set_option Elab.async false
set_option linter.all false
set_option maxRecDepth 100000
/-! W3: rows of offers: weight and worth -/
namespace Z
open PySem PySem.Spec L2
abbrev Row := Int × Rat
structure ROk (r : Row) : Prop where
  w1 : 1 ≤ r.1
  w2 : r.1 ≤ 999
  n0 : 0 ≤ r.2.num
  n1 : r.2.num ≤ 9999
  d1 : (r.2.den : Int) ≤ 99
abbrev AscR (rs : List Row) : Prop := rs.Pairwise fun a b => a.2 < b.2
structure OfOk (m : Nat) (rs : List Row) : Prop where
  l1 : 1 ≤ rs.length
  l2 : rs.length ≤ m
  ok : ∀ r ∈ rs, ROk r
  asc : AscR rs
abbrev lrow (r : Row) : D := .tup [.int r.1, prD r.2]
abbrev offL (rs : List Row) : D := .lst (rs.map lrow)
abbrev prow (r : Row) : D := .tup [.int r.1, frD r.2]
abbrev offD (rs : List Row) : D := .ins 1 [.tup (rs.map prow)]
theorem low_b {n d : Int} (hd : 0 < d) (hn : 0 ≤ n) : 0 ≤ (Rat.divInt n d).num ∧ (Rat.divInt n d).num ≤ n ∧ ((Rat.divInt n d).den : Int) ≤ d := by
  rw [← low_num hd, ← low_den hd]
  have g := gcdI_pos (a := n) hd
  exact ⟨Int.ediv_nonneg hn (Int.le_of_lt g), Int.ediv_le_self _ hn, Int.ediv_le_self _ (Int.le_of_lt hd)⟩
theorem asc_ins {rs : List Row} {x : Row} {p : Nat} (h : AscR rs) (h1 : ∀ j r, rs[j]? = some r → j < p → r.2 < x.2) (h2 : ∀ j r, rs[j]? = some r → p ≤ j → x.2 < r.2) : AscR (rs.take p ++ [x] ++ rs.drop p) := by
  have t1 : ∀ a ∈ rs.take p, a.2 < x.2 := fun a ha => by
    obtain ⟨j, hj⟩ := List.getElem?_of_mem ha
    rw [List.getElem?_take] at hj
    split at hj
    · rename_i l
      exact h1 j a hj l
    · cases hj
  have t2 : ∀ a ∈ rs.drop p, x.2 < a.2 := fun a ha => by
    obtain ⟨j, hj⟩ := List.getElem?_of_mem ha
    rw [List.getElem?_drop] at hj
    exact h2 _ a hj (by omega)
  have e : AscR (rs.take p ++ rs.drop p) := by rw [List.take_append_drop]; exact h
  obtain ⟨a1, a2, a3⟩ := List.pairwise_append.mp e
  rw [List.append_assoc]
  refine List.pairwise_append.mpr ⟨a1, List.pairwise_append.mpr ⟨List.pairwise_singleton .., a2, fun a ha b hb => ?_⟩, fun a ha b hb => ?_⟩
  · rw [List.mem_singleton] at ha; subst ha; exact t2 b hb
  · rcases List.mem_append.mp hb with z | z
    · rw [List.mem_singleton] at z; subst z; exact t1 a ha
    · exact a3 a ha b z
/-- where a worth stands among the rows that were looked at -/
structure PlI (rs : List Row) (q : Rat) (i p : Nat) (f : Bool) : Prop where
  le : p ≤ i
  lo : ∀ j r, rs[j]? = some r → j < p → r.2 < q
  hi : ∀ j r, rs[j]? = some r → p ≤ j → j < i → q ≤ r.2
  fr : f = true → ∀ j r, rs[j]? = some r → j < i → r.2 ≠ q
  nf : rs = [] → f = true
theorem PlI.start (rs : List Row) (q : Rat) : PlI rs q 0 0 true := ⟨by omega, fun j r _ h => by omega, fun j r _ _ h => by omega, fun _ j r _ h => by omega, fun _ => rfl⟩
theorem PlI.step {rs : List Row} {q : Rat} {i p : Nat} {f : Bool} {r : Row} (h : PlI rs q i p f) (ha : AscR rs) (hr : rs[i]? = some r) : PlI rs q (i + 1) (if r.2 < q then i + 1 else p) (if r.2 = q then false else f) := by
  have hlt : ∀ j s, rs[j]? = some s → j < i → s.2 < r.2 := fun j s hj l => by
    obtain ⟨a, b⟩ := List.getElem?_eq_some_iff.mp hj
    obtain ⟨c, d⟩ := List.getElem?_eq_some_iff.mp hr
    have := List.pairwise_iff_getElem.mp ha j i a c l
    rw [b, d] at this
    exact this
  refine ⟨?_, ?_, ?_, ?_, fun z => by rw [z] at hr; simp at hr⟩
  · split <;> have := h.le <;> omega
  · intro j s hj l
    split at l
    · rename_i hq
      rcases Nat.lt_or_ge j i with z | z
      · have := hlt j s hj z; grind
      · have : j = i := by omega
        subst this; rw [hr] at hj; cases hj; exact hq
    · exact h.lo j s hj l
  · intro j s hj l u
    split at l
    · omega
    · rename_i hq
      rcases Nat.lt_or_ge j i with z | z
      · exact h.hi j s hj l z
      · have : j = i := by omega
        subst this; rw [hr] at hj; cases hj; exact Rat.not_lt.mp hq
  · intro hf j s hj l
    split at hf
    · cases hf
    · rename_i hq
      rcases Nat.lt_or_ge j i with z | z
      · exact h.fr hf j s hj z
      · have : j = i := by omega
        subst this; rw [hr] at hj; cases hj; exact hq
theorem PlI.ins {rs : List Row} {q : Rat} {p : Nat} {w : Int} (h : PlI rs q rs.length p true) (ha : AscR rs) : AscR (rs.take p ++ [(w, q)] ++ rs.drop p) :=
  asc_ins ha (fun j r hj l => h.lo j r hj l) fun j r hj l => by
    have a := (List.getElem?_eq_some_iff.mp hj).1
    have z1 := h.hi j r hj l a
    have z2 := h.fr rfl j r hj a
    show q < r.2
    grind
theorem mem_ins {rs : List Row} {x r : Row} {p : Nat} (h : r ∈ rs.take p ++ [x] ++ rs.drop p) : r ∈ rs ∨ r = x := by
  rw [List.append_assoc] at h
  rcases List.mem_append.mp h with z | z
  · exact .inl (List.mem_of_mem_take z)
  · rcases List.mem_append.mp z with z | z
    · exact .inr (List.mem_singleton.mp z)
    · exact .inl (List.mem_of_mem_drop z)
theorem map_ins {α : Type} {f : α → D} {rs : List α} {x : α} {p : Nat} : (rs.map f).take p ++ [f x] ++ (rs.map f).drop p = (rs.take p ++ [x] ++ rs.drop p).map f := by simp
theorem len_ins {rs : List Row} {x : Row} {p : Nat} (h : p ≤ rs.length) : (rs.take p ++ [x] ++ rs.drop p).length = rs.length + 1 := by simp; omega
theorem gap_pos {n d : Int} {q r : Rat} (hn : q.num = n) (hd : (q.den : Int) = d) : 0 < n * r.den - r.num * d ↔ r < q := by
  rw [Rat.lt_iff]; subst hn hd
  constructor <;> intro h <;> omega
theorem gap_zero {n d : Int} {q r : Rat} (hn : q.num = n) (hd : (q.den : Int) = d) : n * r.den - r.num * d = 0 ↔ r = q := by
  subst hn hd
  constructor
  · intro h
    have a : ¬ r < q := by rw [Rat.lt_iff]; omega
    have b : ¬ q < r := by rw [Rat.lt_iff]; omega
    grind
  · rintro rfl; omega
/-- how the law hands a worth, a row of prizes -/
def givenV (plain : Int) (q : Rat) : D := if plain = 1 ∧ (q.den : Int) = 1 then .int q.num else frD q
def prizesV (form : Int) (rs : List Row) : D := if form = 0 then .lst (rs.map fun r => .tup [.int r.1, givenV 0 r.2]) else .tup (rs.map fun r => .lst [.int r.1, givenV 1 r.2])
/-- a worth as a whole number of units -/
def scl (U : Int) (q : Rat) : Int := q.num * (U / (q.den : Int))
theorem scl_eq {U : Int} {q : Rat} (h : (q.den : Int) ∣ U) : ((scl U q : Int) : Rat) = q * (U : Rat) := by
  obtain ⟨c, rfl⟩ := h
  have d0 := den_pos' q
  unfold scl
  rw [Int.mul_ediv_cancel_left _ (by omega)]
  have e : Rat.divInt q.num q.den = q := Rat.num_divInt_den q
  rw [Rat.divInt_eq_div] at e
  have z := cast_pos d0
  rw [Rat.intCast_mul, Rat.intCast_mul]
  grind
abbrev srow (U : Int) (r : Row) : D := .tup [.int r.1, .int (scl U r.2)]
theorem of_worth {r : Int} {k : Int} (h0 : 0 ≤ r) (h1 : r < k) (hk : k ≤ 10000) : 0 ≤ ((r : Int) : Rat).num ∧ ((r : Int) : Rat).num ≤ 9999 ∧ ((((r : Int) : Rat).den : Nat) : Int) ≤ 99 := by
  rw [Rat.num_intCast, Rat.den_intCast]; omega
/-- what an Offer is made of -/
def GivenOK (v : D) (x : Rat) : Prop := v = frD x ∨ (v = .int x.num ∧ ((x.num : Int) : Rat) = x)
def IsPr (d : D) (r : Row) : Prop := ∃ v, (d = .tup [.int r.1, v] ∨ d = .lst [.int r.1, v]) ∧ GivenOK v r.2
def Prizes (v : D) (rs : List Row) : Prop := ∃ ds, (v = .lst ds ∨ v = .tup ds) ∧ ds.length = rs.length ∧ ∀ (i : Nat) d r, ds[i]? = some d → rs[i]? = some r → IsPr d r
theorem givenV_ok (plain : Int) (x : Rat) : GivenOK (givenV plain x) x := by
  unfold givenV
  split
  · rename_i h
    refine .inr ⟨rfl, ?_⟩
    have e := Rat.num_divInt_den x
    rw [show ((x.den : Nat) : Int) = 1 from h.2, divInt_one] at e
    exact e
  · exact .inl rfl
theorem map_pt {α : Type} {f : α → D} {as : List α} {i : Nat} {d : D} {a : α} (h : (as.map f)[i]? = some d) (h' : as[i]? = some a) : d = f a := by
  rw [List.getElem?_map, h'] at h; cases h; rfl
theorem prizesV_ok (form : Int) (rs : List Row) : Prizes (prizesV form rs) rs := by
  unfold prizesV
  split
  · exact ⟨_, .inl rfl, by simp, fun i d r hd hr => by rw [map_pt hd hr]; exact ⟨_, .inl rfl, givenV_ok _ _⟩⟩
  · exact ⟨_, .inr rfl, by simp, fun i d r hd hr => by rw [map_pt hd hr]; exact ⟨_, .inr rfl, givenV_ok _ _⟩⟩
/-! sums -/
def sumQ (qs : List Rat) : Rat := qs.foldl (· + ·) 0
theorem foldQ : ∀ (qs : List Rat) (a : Rat), qs.foldl (· + ·) a = a + sumQ qs
  | [], a => by unfold sumQ; simp only [List.foldl_nil]; grind
  | q :: qs, a => by
    unfold sumQ
    simp only [List.foldl_cons]
    rw [foldQ qs (a + q), foldQ qs (0 + q)]
    grind
theorem sumQ_nil : sumQ [] = 0 := rfl
theorem sumQ_cons (q : Rat) (qs : List Rat) : sumQ (q :: qs) = q + sumQ qs := by
  show qs.foldl (· + ·) (0 + q) = _
  rw [foldQ]; grind
theorem sumQ_snoc (qs : List Rat) (q : Rat) : sumQ (qs ++ [q]) = sumQ qs + q := by unfold sumQ; rw [List.foldl_append]; rfl
theorem sumQ_take {qs : List Rat} {i : Nat} {q : Rat} (h : qs[i]? = some q) : sumQ (qs.take (i + 1)) = sumQ (qs.take i) + q := by
  rw [List.take_succ, h]
  exact sumQ_snoc _ _
theorem fit_sum {M B : Int} (hM : 0 < M) : ∀ {qs : List Rat}, (∀ q ∈ qs, Fit M B q) → Fit M (B * (qs.length : Int)) (sumQ qs)
  | [], _ => by rw [sumQ_nil]; exact (fit_zero hM).more (by simp)
  | q :: qs, h => by
    rw [sumQ_cons]
    refine ((h q List.mem_cons_self).add (fit_sum hM fun x hx => h x (List.mem_cons_of_mem _ hx))).more ?_
    rw [List.length_cons, Int.natCast_add, Int.mul_add]
    omega
theorem fit_sumN {M B N : Int} {qs : List Rat} (hM : 0 < M) (hB : 0 ≤ B) (h : ∀ q ∈ qs, Fit M B q) (hn : (qs.length : Int) ≤ N) : Fit M (B * N) (sumQ qs) :=
  (fit_sum hM h).more (Int.mul_le_mul_of_nonneg_left hn hB)
/-- a multiple of all small denominators -/
def U0 : Int := 69720375229712477164533808935312303556800
theorem U0_pos : 0 < U0 := by decide
theorem U0_bit : Bit 140 U0 := by unfold Bit; decide
theorem U0_dvd {d : Int} (h0 : 0 < d) (h : d ≤ 99) : d ∣ U0 := by
  obtain ⟨n, rfl⟩ := Int.eq_ofNat_of_zero_le (Int.le_of_lt h0)
  have z : ∀ n : Fin 100, 0 < n.val → ((n.val : Nat) : Int) ∣ U0 := by decide
  exact z ⟨n, by omega⟩ (by show 0 < n; omega)
theorem ROk.fit {r : Row} (h : ROk r) : Fit U0 9999 r.2 := by
  have d0 := den_pos' r.2
  have := h.n0
  have := h.n1
  exact (fit_self (B := 9999) (by omega) (by omega)).lift (U0_dvd d0 h.d1) U0_pos
def wsum (rs : List Row) : Int := (rs.map fun r => r.1).sum
theorem wsum_b : ∀ {rs : List Row}, (∀ r ∈ rs, ROk r) → (rs.length : Int) ≤ wsum rs ∧ wsum rs ≤ 999 * (rs.length : Int)
  | [], _ => by simp [wsum]
  | r :: rs, h => by
    have a := h r List.mem_cons_self
    have := a.w1
    have := a.w2
    obtain ⟨x, y⟩ := wsum_b (rs := rs) fun s hs => h s (List.mem_cons_of_mem _ hs)
    unfold wsum at *
    rw [List.map_cons, List.sum_cons, List.length_cons]
    omega
theorem OfOk.ws {m : Nat} {rs : List Row} (h : OfOk m rs) (hm : m ≤ 6) : 0 < wsum rs ∧ wsum rs ≤ 5994 := by
  have := wsum_b h.ok
  have := h.l1
  have := h.l2
  omega
def shareQ (W : Int) (r : Row) : Rat := Rat.divInt r.1 W
theorem ROk.share {W : Int} {r : Row} (h : ROk r) (hW : r.1 ≤ W) : Fit W 1 (shareQ W r) := by
  have := h.w1
  exact fit_div (by omega) (by omega) (by omega)
theorem w_le : ∀ {rs : List Row}, (∀ r ∈ rs, ROk r) → ∀ r ∈ rs, r.1 ≤ wsum rs
  | [], _, r, hr => nomatch hr
  | s :: rs, h, r, hr => by
    have a := h s List.mem_cons_self
    have := a.w1
    have b := wsum_b (rs := rs) fun s hs => h s (List.mem_cons_of_mem _ hs)
    unfold wsum at *
    rw [List.map_cons, List.sum_cons]
    rcases List.mem_cons.mp hr with z | z
    · subst z; omega
    · have := w_le (rs := rs) (fun s hs => h s (List.mem_cons_of_mem _ hs)) r z
      unfold wsum at this
      omega
def maxQ (a b : Rat) : Rat := if b < a then a else b
def overQ (rs : List Row) (p : Rat) : Rat := sumQ ((rs.filter fun r => decide (p < r.2)).map fun r => shareQ (wsum rs) r * (r.2 - p))
def meanQ (rs : List Row) : Rat := sumQ (rs.map fun r => shareQ (wsum rs) r * r.2)
def liftQ (rs : List Row) (p : Rat) : Rat := sumQ (rs.map fun r => shareQ (wsum rs) r * maxQ r.2 p)
theorem over_gen (W : Int) (hW : 0 < W) (p : Rat) : ∀ (rs : List Row), Rat.divInt (wsum rs) W * p + sumQ ((rs.filter fun r => decide (p < r.2)).map fun r => shareQ W r * (r.2 - p)) = sumQ (rs.map fun r => shareQ W r * maxQ r.2 p)
  | [] => by
    have : Rat.divInt 0 W = 0 := by rw [Rat.divInt_eq_div]; grind
    simp only [wsum, List.map_nil, List.sum_nil, List.filter_nil, sumQ_nil, this]; grind
  | r :: rs => by
    have ih := over_gen W hW p rs
    have e : Rat.divInt (wsum (r :: rs)) W = shareQ W r + Rat.divInt (wsum rs) W := by
      unfold wsum shareQ
      rw [List.map_cons, List.sum_cons, Rat.divInt_add_divInt _ _ (by omega) (by omega), ← Int.add_mul, Rat.divInt_mul_right (by omega)]
    rw [e, List.map_cons, sumQ_cons]
    unfold maxQ at *
    by_cases h : p < r.2
    · rw [List.filter_cons_of_pos (by simpa using h), List.map_cons, sumQ_cons, if_pos h]
      grind
    · rw [List.filter_cons_of_neg (by simpa using h), if_neg h]
      grind
theorem over_eq {rs : List Row} (h : 0 < wsum rs) (p : Rat) : p + overQ rs p = liftQ rs p := by
  have z := over_gen (wsum rs) h p rs
  have e : Rat.divInt (wsum rs) (wsum rs) = 1 := Rat.divInt_self' (by omega)
  rw [e] at z
  unfold overQ liftQ
  grind
theorem fit_max {M B : Int} {p q : Rat} (h : Fit M B p) (h' : Fit M B q) : Fit M B (maxQ p q) := by unfold maxQ; split <;> assumption
theorem fit_over {rs : List Row} {m : Nat} {M B : Int} {p : Rat} (h : OfOk m rs) (hm : m ≤ 6) (hp : Fit M B p) (hB : 0 ≤ B) : (∀ q ∈ (rs.filter fun r => decide (p < r.2)).map fun r => shareQ (wsum rs) r * (r.2 - p), Fit (wsum rs * (U0 * M)) (1 * (9999 + B)) q) ∧
    Fit (wsum rs * (U0 * M)) (1 * (9999 + B) * 6) (overQ rs p) := by
  obtain ⟨w0, w1⟩ := h.ws hm
  have M0 := hp.1
  have u0 := U0_pos
  have um : 0 < U0 * M := Int.mul_pos u0 M0
  have a : ∀ q ∈ (rs.filter fun r => decide (p < r.2)).map fun r => shareQ (wsum rs) r * (r.2 - p), Fit (wsum rs * (U0 * M)) (1 * (9999 + B)) q := fun q hq => by
    obtain ⟨r, hr, rfl⟩ := List.mem_map.mp hq
    have hr := (List.mem_filter.mp hr).1
    have ro := h.ok r hr
    exact (ro.share (w_le h.ok r hr)).mul ((ro.fit.lift (Int.dvd_mul_right _ _) um).sub (hp.lift (Int.dvd_mul_left _ _) um)) (by omega)
  refine ⟨a, fit_sumN (Int.mul_pos w0 um) (by omega) a ?_⟩
  have l1 := List.length_filter_le (fun r => decide (p < r.2)) rs
  have := h.l2
  rw [List.length_map]
  omega
/-- sizes: a bits of the common denominator, b bits of the amount -/
def FB (a b : Nat) (q : Rat) : Prop := ∃ M B : Int, Fit M B q ∧ Bit a M ∧ Bit b B ∧ 0 ≤ B
section
variable {a b a' b' : Nat} {p q : Rat}
theorem FB.sz (h : FB a b q) : Sz (a + b) q := by
  obtain ⟨M, B, f, h1, h2, _⟩ := h
  rw [Nat.add_comm]
  exact f.sz (h2.mul h1) (h1.mono (by omega))
theorem FB.mono (h : FB a b q) (h1 : a ≤ a') (h2 : b ≤ b') : FB a' b' q := by
  obtain ⟨M, B, f, x, y, z⟩ := h
  exact ⟨M, B, f, x.mono h1, y.mono h2, z⟩
theorem FB.add (h : FB a b p) (h' : FB a' b' q) : FB (a + a') (max b b' + 1) (p + q) := by
  obtain ⟨M, B, f, x, y, z⟩ := h
  obtain ⟨M', B', f', x', y', z'⟩ := h'
  have mm := Int.mul_pos f.1 f'.1
  exact ⟨M * M', B + B', (f.lift (Int.dvd_mul_right _ _) mm).add (f'.lift (Int.dvd_mul_left _ _) mm), x.mul x', (y.mono (Nat.le_max_left ..)).add (y'.mono (Nat.le_max_right ..)), by omega⟩
theorem FB.sub (h : FB a b p) (h' : FB a' b' q) : FB (a + a') (max b b' + 1) (p - q) := by
  obtain ⟨M, B, f, x, y, z⟩ := h
  obtain ⟨M', B', f', x', y', z'⟩ := h'
  have mm := Int.mul_pos f.1 f'.1
  exact ⟨M * M', B + B', (f.lift (Int.dvd_mul_right _ _) mm).sub (f'.lift (Int.dvd_mul_left _ _) mm), x.mul x', (y.mono (Nat.le_max_left ..)).add (y'.mono (Nat.le_max_right ..)), by omega⟩
theorem FB.mul (h : FB a b p) (h' : FB a' b' q) : FB (a + a') (b + b') (p * q) := by
  obtain ⟨M, B, f, x, y, z⟩ := h
  obtain ⟨M', B', f', x', y', z'⟩ := h'
  exact ⟨M * M', B * B', f.mul f' z, x.mul x', y.mul y', Int.mul_nonneg z z'⟩
theorem FB.div {n d : Int} (hd : 0 < d) (h1 : Bit a d) (h2 : Bit b n) : FB a b (Rat.divInt n d) := by
  refine ⟨d, (n.natAbs : Int), fit_div hd ?_ ?_, h1, by unfold Bit at *; rw [Int.natAbs_natCast]; exact h2, Int.natCast_nonneg _⟩
  · have z : (n.natAbs : Int) * 1 ≤ n.natAbs * d := Int.mul_le_mul_of_nonneg_left (by omega) (Int.natCast_nonneg _)
    omega
  · have z : (n.natAbs : Int) * 1 ≤ n.natAbs * d := Int.mul_le_mul_of_nonneg_left (by omega) (Int.natCast_nonneg _)
    omega
theorem FB.int {n : Int} (h : Bit b n) : FB 1 b (n : Rat) := by rw [← divInt_one]; exact FB.div (by decide) (by unfold Bit; decide) h
theorem ROk.fb {r : Row} (h : ROk r) : FB 7 14 r.2 := by
  have d0 := den_pos' r.2
  have := h.n0; have := h.n1; have := h.d1
  have e : Rat.divInt r.2.num r.2.den = r.2 := Rat.num_divInt_den _
  rw [← e]
  exact FB.div d0 (by unfold Bit; omega) (by unfold Bit; omega)
end
/-- what an offer's stop is worth, in units -/
def needQ (U : Int) (rs : List Row) (h : Rat) : Rat := sumQ (rs.map fun r => shareQ (wsum rs) r * maxQ (r.2 * (U : Rat)) h)
theorem need_scale {U : Int} (hU : 0 < U) (rs : List Row) (h : Rat) : needQ U rs h = (U : Rat) * liftQ rs (h / (U : Rat)) := by
  unfold needQ liftQ
  have u0 := cast_pos hU
  have main : ∀ (W : Int) (ss : List Row), sumQ (ss.map fun r => shareQ W r * maxQ (r.2 * (U : Rat)) h) = (U : Rat) * sumQ (ss.map fun r => shareQ W r * maxQ r.2 (h / (U : Rat))) := by
    intro W ss
    induction ss with
    | nil => simp only [List.map_nil, sumQ_nil]; grind
    | cons r ss ih =>
      simp only [List.map_cons, sumQ_cons]
      rw [ih]
      have e : h = (U : Rat) * (h / (U : Rat)) := by grind
      generalize h / (U : Rat) = g at *
      have m : maxQ (r.2 * (U : Rat)) h = (U : Rat) * maxQ r.2 g := by
        unfold maxQ
        have iff : h < r.2 * (U : Rat) ↔ g < r.2 := by
          rw [e, Rat.mul_comm]
          exact ⟨fun z => (Rat.mul_lt_mul_right u0).mp z, fun z => (Rat.mul_lt_mul_right u0).mpr z⟩
        by_cases c : g < r.2
        · rw [if_pos c, if_pos (iff.mpr c)]; grind
        · rw [if_neg c, if_neg fun z => c (iff.mp z)]; exact e
      rw [m]; grind
  exact main _ rs
theorem need_int {U n d : Int} (hd : 0 < d) (rs : List Row) (hW : 0 < wsum rs) (hu : ∀ r ∈ rs, (r.2.den : Int) ∣ U) :
    Rat.divInt (rs.map fun r => r.1 * (if n < scl U r.2 * d then scl U r.2 * d else n)).sum (wsum rs * d) = needQ U rs (Rat.divInt n d) := by
  unfold needQ
  have d0 := cast_pos hd
  have main : ∀ (W : Int), 0 < W → ∀ (ss : List Row), (∀ r ∈ ss, (r.2.den : Int) ∣ U) → Rat.divInt (ss.map fun r => r.1 * (if n < scl U r.2 * d then scl U r.2 * d else n)).sum (W * d) = sumQ (ss.map fun r => shareQ W r * maxQ (r.2 * (U : Rat)) (Rat.divInt n d)) := by
    intro W hW ss
    have w0 := cast_pos hW
    have wd : W * d ≠ 0 := by have := Int.mul_pos hW hd; omega
    induction ss with
    | nil => intro _; simp only [List.map_nil, sumQ_nil, List.sum_nil]; rw [Rat.divInt_eq_div]; grind
    | cons r ss ih =>
      intro hs
      simp only [List.map_cons, sumQ_cons, List.sum_cons]
      rw [← ih fun s h => hs s (List.mem_cons_of_mem _ h)]
      generalize (ss.map fun r => r.1 * (if n < scl U r.2 * d then scl U r.2 * d else n)).sum = T
      have sc := scl_eq (hs r List.mem_cons_self)
      generalize scl U r.2 = x at *
      rw [← sc]
      have t : shareQ W r * maxQ (x : Rat) (Rat.divInt n d) = Rat.divInt (r.1 * (if n < x * d then x * d else n)) (W * d) := by
        have iff : Rat.divInt n d < (x : Rat) ↔ n < x * d := by
          rw [← divInt_one x, divInt_lt hd (by decide), Int.mul_one]
        unfold maxQ shareQ
        by_cases c : n < x * d
        · rw [if_pos (iff.mpr c), if_pos c, ← divInt_one x, Rat.divInt_mul_divInt, ← Int.mul_assoc, Rat.divInt_mul_right (by omega), Int.mul_one]
        · rw [if_neg (fun z => c (iff.mp z)), if_neg c, Rat.divInt_mul_divInt]
      rw [t, Rat.divInt_add_divInt _ _ wd wd, ← Int.add_mul, Rat.divInt_mul_right wd]
  exact main _ hW rs hu
theorem fb_need {U : Int} {rs : List Row} {a b c : Nat} {h : Rat} (ok : OfOk 6 rs) (hu : ∀ r ∈ rs, (r.2.den : Int) ∣ U) (u0 : 0 < U) (ub : Bit c U) (hh : FB a b h) : FB (13 + a) (max (14 + c) b + 4) (needQ U rs h) := by
  obtain ⟨M, B, f, x, y, z⟩ := hh
  obtain ⟨w0, w1⟩ := ok.ws (by decide)
  have bU : Bit (14 + c) (9999 * U) := Bit.mul (by unfold Bit; decide) ub
  have m9 : 0 ≤ 9999 * U := Int.mul_nonneg (by decide) (Int.le_of_lt u0)
  have bB : Bit (max (14 + c) b + 1) (9999 * U + B) := (bU.mono (Nat.le_max_left ..)).add (y.mono (Nat.le_max_right ..))
  refine ⟨wsum rs * M, 1 * (9999 * U + B) * 6, ?_, Bit.mul (by unfold Bit; omega) x, ?_, by omega⟩
  · refine fit_sumN (Int.mul_pos w0 f.1) (by omega) (fun q hq => ?_) (by rw [List.length_map]; exact_mod_cast ok.l2)
    obtain ⟨r, hr, rfl⟩ := List.mem_map.mp hq
    have ro := ok.ok r hr
    refine (ro.share (w_le ok.ok r hr)).mul (fit_max ?_ (f.more (by omega))) (by decide)
    have f1 : Fit 1 (9999 * U) (r.2 * (U : Rat)) := by
      have d0 := den_pos' r.2
      rw [← scl_eq (hu r hr), ← divInt_one]
      have n0 := ro.n0
      have n1 := ro.n1
      have e1 : 0 ≤ U / (r.2.den : Int) := Int.ediv_nonneg (Int.le_of_lt u0) (Int.le_of_lt d0)
      have e2 : U / (r.2.den : Int) ≤ U := Int.ediv_le_self _ (Int.le_of_lt u0)
      have e3 : scl U r.2 ≤ 9999 * U := Int.mul_le_mul n1 e2 e1 (by decide)
      have e4 : 0 ≤ scl U r.2 := Int.mul_nonneg n0 e1
      exact fit_div (by decide) (by omega) (by omega)
    exact (f1.lift (Int.one_dvd _) f.1).more (by omega)
  · have := (bB.mul (show Bit 3 (6 : Int) by unfold Bit; decide))
    rw [Int.one_mul]
    exact this
theorem fb_lift {rs : List Row} {a b : Nat} {h : Rat} (ok : OfOk 6 rs) (hh : FB a b h) : FB (153 + a) (max 14 b + 4) (liftQ rs h) := by
  obtain ⟨M, B, f, x, y, z⟩ := hh
  obtain ⟨w0, w1⟩ := ok.ws (by decide)
  have bB : Bit (max 14 b + 1) (9999 + B) := (Bit.mono (a := 14) (by unfold Bit; decide) (Nat.le_max_left ..)).add (y.mono (Nat.le_max_right ..))
  have um : 0 < U0 * M := Int.mul_pos U0_pos f.1
  refine ⟨wsum rs * (U0 * M), 1 * (9999 + B) * 6, ?_, ?_, ?_, by omega⟩
  · refine fit_sumN (Int.mul_pos w0 um) (by omega) (fun q hq => ?_) (by rw [List.length_map]; exact_mod_cast ok.l2)
    obtain ⟨r, hr, rfl⟩ := List.mem_map.mp hq
    have ro := ok.ok r hr
    exact (ro.share (w_le ok.ok r hr)).mul (fit_max ((ro.fit.lift (Int.dvd_mul_right _ _) um).more (by omega)) ((f.lift (Int.dvd_mul_left _ _) um).more (by omega))) (by decide)
  · exact (Bit.mul (show Bit 13 (wsum rs) by unfold Bit; omega) (U0_bit.mul x)).mono (by omega)
  · rw [Int.one_mul]
    exact bB.mul (show Bit 3 (6 : Int) by unfold Bit; decide)
/-- heights from the last one back -/
def chainL (U : Int) : List (List Row × Rat) → Rat → List Rat
  | [], last => [last]
  | (o, s) :: rest, last => (needQ U o ((chainL U rest last).headD 0) + s) :: chainL U rest last
theorem chainL_len {U : Int} {last : Rat} : ∀ {L : List (List Row × Rat)}, (chainL U L last).length = L.length + 1
  | [] => rfl
  | (o, s) :: rest => by rw [chainL, List.length_cons, chainL_len, List.length_cons]
theorem chainL_head {U : Int} {last : Rat} : ∀ {L : List (List Row × Rat)}, (chainL U L last).headD 0 = (chainL U L last).getD 0 0
  | [] => rfl
  | (o, s) :: rest => rfl
theorem chainL_at {U : Int} {last : Rat} : ∀ {L : List (List Row × Rat)} {k : Nat} {o : List Row} {s : Rat}, L[k]? = some (o, s) → (chainL U L last).getD k 0 = needQ U o ((chainL U L last).getD (k + 1) 0) + s
  | [], k, o, s, h => by simp at h
  | (o, s) :: rest, 0, _, _, h => by
    cases h
    show needQ U o ((chainL U rest last).headD 0) + s = _
    rw [chainL_head]; rfl
  | (o, s) :: rest, k + 1, _, _, h => by
    have := chainL_at (U := U) (last := last) (L := rest) (k := k) (by simpa using h)
    simpa [chainL] using this
theorem chainL_last {U : Int} {last : Rat} : ∀ {L : List (List Row × Rat)}, (chainL U L last).getD L.length 0 = last
  | [] => rfl
  | (o, s) :: rest => by
    have := chainL_last (U := U) (last := last) (L := rest)
    simpa [chainL] using this
theorem chainL_fb {U : Int} {last : Rat} {a b c d : Nat} (u0 : 0 < U) (ub : Bit c U) (hl : FB a b last) (hb : 14 + c ≤ b) (hd : d ≤ b) : ∀ {L : List (List Row × Rat)}, (∀ p ∈ L, OfOk 6 p.1 ∧ (∀ r ∈ p.1, (r.2.den : Int) ∣ U) ∧ FB 8 d p.2) → ∀ q ∈ chainL U L last, FB (a + 21 * L.length) (b + 5 * L.length) q
  | [], _, q, hq => by
    simp only [chainL, List.mem_singleton] at hq
    subst hq; simpa using hl
  | (o, s) :: rest, h, q, hq => by
    have ih := chainL_fb u0 ub hl hb hd (L := rest) fun p hp => h p (List.mem_cons_of_mem _ hp)
    obtain ⟨ok, hu, fs⟩ := h (o, s) List.mem_cons_self
    rw [List.length_cons]
    simp only [chainL, List.mem_cons] at hq
    rcases hq with rfl | hq
    · have hm : (chainL U rest last).headD 0 ∈ chainL U rest last := by
        have l := chainL_len (U := U) (last := last) (L := rest)
        match chainL U rest last, l with
        | [], l => simp at l
        | x :: xs, _ => simp
      exact ((fb_need ok hu u0 ub (ih _ hm)).add fs).mono (by omega) (by omega)
    · exact (ih q hq).mono (by omega) (by omega)
end Z
set_option Elab.async false
set_option linter.all false
set_option maxRecDepth 100000
/-! V5: rules for the words of Y11 to Y13 -/
namespace Z
open PySem PySem.Spec L2
def Zp (ds : List D) (P : List D → List D → Prop) : Prop := ∃ d e xs ys b, ds = [d, e] ∧ seqD d = some (b, xs) ∧ seqD e = some (b, ys) ∧ P xs ys
section
variable {fs : Env → R (List D × Env)} {fb fu : Env → R (Fl × Env)} {ρ ρ0 : Env} {Q : D → Env → Prop} {QA : List D → Env → Prop} {E : Er} {c i n : Nat} {N B C : Env → Prop} {Rt : D → Env → Prop} {tbl : List (Nat × Bool)} {m : List Bool} {ix : List (Nat × Nat)} {d : D} {gs xs ys : List D} {P : List D → List D → Prop} {b : Bool}
theorem wa_zip (h : WA (fs ρ) (fun ds ρ1 => Zp ds fun xs ys => QA (zipD xs ys) ρ1) E) : WA (mZip fs ρ) QA E := by
  with_unfolding_all
    unfold mZip
    refine wa_bindA (h.mono (fun ds ρ1 z => ?_) fun _ _ z => z)
    obtain ⟨d, e, xs, ys, b, rfl, h1, h2, z⟩ := z
    dsimp only
    rw [h1, h2]
    cases b <;> exact z
theorem zp_ll (h : P xs ys) : Zp [.lst xs, .lst ys] P := ⟨_, _, _, _, true, rfl, rfl, rfl, h⟩
theorem zp_lk (h : P xs ys) : Zp [.lst xs, .kls ys] P := ⟨_, _, _, _, true, rfl, rfl, rfl, h⟩
theorem zp_kl (h : P xs ys) : Zp [.kls xs, .lst ys] P := ⟨_, _, _, _, true, rfl, rfl, rfl, h⟩
theorem zp_tt (h : P xs ys) : Zp [.tup xs, .tup ys] P := ⟨_, _, _, _, false, rfl, rfl, rfl, h⟩
theorem sm_lstRev {P : D → Prop} (h : P (.lst xs.reverse)) : Sm (gLstRev (.lst xs)) P := ⟨_, rfl, h⟩
/-- a caught exception, the suite's names told -/
theorem hd_inE {fs : List D} (e : tbl.lookup c = some true) (e2 : (supE m ρ).set i (some (.exc c fs)) = ρ0) (k : WS (fu ρ0) (fun ρ' => noXE (ρ'.set i none) = true ∧ N (ρ'.set i none)) (fun d ρ' => noX d = true ∧ Rt d (offE ρ')) (fun _ => False) (fun _ => False) E0) : Hd tbl m i fu ρ N Rt E c fs := by
  subst e2; exact hd_in e k
theorem we_isX [g0 : GetEq ρ i (.exc c gs)] (e : tbl.lookup c = some b) (h : Q (.bl b) ρ) : WE (mIsX i tbl ρ) Q E := by
  with_unfolding_all
    have e0 := g0.eq
    unfold mIsX
    simp only [e0, e]
    exact h
end
theorem put_rng {n j : Nat} {f : Nat → D} {d : D} (h : j < n) : gPut ((List.range n).map f) (j : Int) d = some ((List.range n).map fun r => if r = j then d else f r) := by
  unfold gPut ixN
  rw [if_pos (Int.natCast_nonneg j), if_pos (by simp; omega), Option.map_some]
  congr 1
  refine List.ext_getElem? fun i => ?_
  rw [List.getElem?_map]
  by_cases e : i = j
  · subst e
    rw [Int.toNat_natCast, List.getElem?_set_self (by simpa using h), List.getElem?_range h]
    simp
  · rw [Int.toNat_natCast, List.getElem?_set_ne (Ne.symm e), List.getElem?_map]
    by_cases l : i < n
    · rw [List.getElem?_range l]; simp [e]
    · rw [List.getElem?_eq_none (by simpa using l)]; rfl
theorem ws_cut {f : Env → R (Fl × Env)} (I : Env → Prop) (h : WS (f ρ) I Rt B C E) (k : ∀ ρ, I ρ → N ρ) : WS (f ρ) N Rt B C E := h.mono k (fun _ _ z => z) (fun _ z => z) (fun _ z => z) fun _ _ z => z
/-! evaluation by the kernel -/
def gN (a b : Int) : Int := ((Nat.gcd a.natAbs b.natAbs : Nat) : Int)
def bN (i : Int) : Int := ((Builtin.Int.intBits i : Nat) : Int)
theorem gN_eq : gN = gcdI := funext fun a => funext fun b => (gcdI_def a b).symm
theorem bN_eq : bN = bitLen := funext fun i => (bitLen_def i).symm
def okT : R D → Bool
  | .ok (.bl b) => b
  | _ => false
theorem okT_eq {r : R D} (h : okT r = true) : r = .ok (.bl true) := by
  cases r with
  | ok d => cases d with
    | bl b => cases b with
      | true => rfl
      | false => cases h
    | _ => cases h
  | _ => cases h
def rB {α : Type} (r : R α) (k : α → Bool) : Bool := match r with
  | .ok a => k a
  | _ => false
theorem rB_ok {α : Type} {r : R α} {k : α → Bool} (h : rB r k = true) : ∃ a, r = .ok a ∧ k a = true := by
  cases r with
  | ok a => exact ⟨a, rfl, h⟩
  | er => cases h
  | bad => cases h
end Z
set_option Elab.async false
set_option linter.all false
set_option maxRecDepth 100000
/-! V6: cuts, walks over enumerate, equality of data by evaluation -/
namespace Z
open PySem PySem.Spec L2
section
variable {ρ : Env} {N B C : Env → Prop} {Rt : D → Env → Prop} {E : Er} {QA : List D → Env → Prop} {tg : D → Env → Option Env} {f : Env → R (Fl × Env)} {fa : Env → R (D × Env)}
theorem br_cut {b : Bool} {r1 r2 : R (Fl × Env)} (I : Env → Prop) (h : Br b (WS r1 I Rt B C E) (WS r2 I Rt B C E)) (k : ∀ ρ, I ρ → N ρ) : Br b (WS r1 N Rt B C E) (WS r2 N Rt B C E) :=
  ⟨fun z => (h.1 z).mono k (fun _ _ z => z) (fun _ z => z) (fun _ z => z) (fun _ _ z => z), fun z => (h.2 z).mono k (fun _ _ z => z) (fun _ z => z) (fun _ z => z) (fun _ _ z => z)⟩
theorem enumD_map {α : Type} {enc : α → D} : ∀ (as : List α) (k : Nat), enumD k (as.map enc) = (as.zipIdx k).map fun p => .tup [.int (p.2 : Int), enc p.1]
  | [], _ => rfl
  | a :: as, k => by simp only [List.map_cons, enumD, List.zipIdx_cons, enumD_map as (k + 1)]
/-- over enumerate(a list that is told) -/
theorem wf_enum {α : Type} {enc : α → D} {as : List α} (I : Nat → Env → Prop) (h0 : I 0 ρ) (st : ∀ (i : Nat) (a : α) (ρ : Env), as[i]? = some a → I i ρ → Sm (tg (.tup [.int (i : Int), enc a]) ρ) fun ρ1 => WS (f ρ1) (I (i + 1)) Rt N (I (i + 1)) E) (he : ∀ ρ', I as.length ρ' → N ρ') : WF tg f (enumD 0 (as.map enc)) ρ N Rt E :=
  wf_inv I h0 (fun i d ρ hd hi => by
    obtain ⟨x, hx, rfl⟩ := enumD_get hd
    rw [List.getElem?_map] at hx
    cases q : as[i]? with
    | none => rw [q] at hx; cases hx
    | some a => rw [q] at hx; cases hx; rw [Nat.zero_add]; exact st i a ρ q hi) fun ρ' h => he ρ' (by rw [enumD_length, List.length_map] at h; exact h)
theorem wc_enum {ρw : Env} {α : Type} {enc : α → D} {as : List α} {vs : List Nat} [w : WipeEq ρ vs ρw] (f' : Nat → α → D) (st : ∀ (i : Nat) (a : α), as[i]? = some a → Sm (tg (.tup [.int (i : Int), enc a]) (ρw)) fun ρ1 => WE (fa ρ1) (fun y ρ2 => y = f' i a ∧ wipeE ρ2 vs = ρw) E0) (h : QA (as.zipIdx.map fun p => f' p.2 p.1) ρ) : WC vs tg mYes fa (enumD 0 (as.map enc)) ρ QA E := by
  rw [enumD_map]
  refine wc_map (fun p : α × Nat => f' p.2 p.1) (fun p hp => ?_) h
  obtain ⟨a, i⟩ := p
  have z := List.mem_zipIdx_iff_getElem?.mp hp
  exact st i a z
end
theorem sm_catA {xs ys : List D} {P : D → Prop} (hl : xs.length + ys.length ≤ 1000) (h : P (.tup (xs ++ ys))) : Sm (gCatA (.tup xs) (.tup ys)) P := ⟨_, if_pos hl, h⟩
theorem we_bindAE {fs : Env → R (List D × Env)} {Q : D → Env → Prop} {k : List D × Env → R (D × Env)} (h : WA (fs ρ) (fun d ρ1 => WE (k (d, ρ1)) Q E) E) : WE ((fs ρ).bind k) Q E := by
  with_unfolding_all
    revert h
    generalize fs ρ = r
    intro h
    match r, h with
    | .ok (b, ρ1), h => exact h
    | .er c fs, h => exact h
    | .bad, h => exact h
theorem we_callKM {fs fk : Env → R (List D × Env)} {Q : D → Env → Prop} {m : List D → R D} {n k : Nat} {ix : List Nat} (h : WA (fs ρ) (fun xs ρ1 => WA (fk ρ1) (fun zs ρ2 => (xs.length = n ∧ zs.length = k) ∧ WR (m (xs ++ permL ix zs)) (fun d => Q d ρ2) E) E) E) : WE (mCallKM m n k ix fs fk ρ) Q E := by
  with_unfolding_all
    unfold mCallKM
    refine we_bindAE (h.mono (fun xs ρ1 z => ?_) fun _ _ z => z)
    refine we_bindAE (z.mono (fun zs ρ2 z => ?_) fun _ _ z => z)
    dsimp only
    rw [if_pos z.1]
    exact we_bindR (z.2.mono (fun d z => by rw [WE_ok]; exact z) fun _ _ z => z)
/-! equality of data, by evaluation -/
mutual
def eqD : D → D → Bool
  | .non, .non => true
  | .bl a, .bl b => a == b
  | .int a, .int b => a == b
  | .str a, .str b => decide (a = b)
  | .lst xs, .lst ys => eqDs xs ys
  | .tup xs, .tup ys => eqDs xs ys
  | .kls xs, .kls ys => eqDs xs ys
  | .cls a, .cls b => a == b
  | .ins a xs, .ins b ys => a == b && eqDs xs ys
  | _, _ => false
def eqDs : List D → List D → Bool
  | [], [] => true
  | x :: xs, y :: ys => eqD x y && eqDs xs ys
  | _, _ => false
end
mutual
theorem eqD_eq : ∀ (a b : D), eqD a b = true → a = b
  | .non, b, h => by cases b <;> first | rfl | cases h
  | .bl x, b, h => by
    cases b with
    | bl y => simp only [eqD, beq_iff_eq] at h; rw [h]
    | _ => cases h
  | .int x, b, h => by
    cases b with
    | int y => simp only [eqD, beq_iff_eq] at h; rw [h]
    | _ => cases h
  | .str x, b, h => by
    cases b with
    | str y => simp only [eqD, decide_eq_true_eq] at h; rw [h]
    | _ => cases h
  | .lst xs, b, h => by
    cases b with
    | lst ys => simp only [eqD] at h; rw [eqDs_eq xs ys h]
    | _ => cases h
  | .tup xs, b, h => by
    cases b with
    | tup ys => simp only [eqD] at h; rw [eqDs_eq xs ys h]
    | _ => cases h
  | .kls xs, b, h => by
    cases b with
    | kls ys => simp only [eqD] at h; rw [eqDs_eq xs ys h]
    | _ => cases h
  | .cls x, b, h => by
    cases b with
    | cls y => simp only [eqD, beq_iff_eq] at h; rw [h]
    | _ => cases h
  | .ins c xs, b, h => by
    cases b with
    | ins c' ys => simp only [eqD, Bool.and_eq_true, beq_iff_eq] at h; rw [h.1, eqDs_eq xs ys h.2]
    | _ => cases h
  | .exc c xs, b, h => by cases b <;> cases h
theorem eqDs_eq : ∀ (a b : List D), eqDs a b = true → a = b
  | [], b, h => by cases b <;> first | rfl | cases h
  | x :: xs, b, h => by
    cases b with
    | nil => cases h
    | cons y ys => simp only [eqDs, Bool.and_eq_true] at h; rw [eqD_eq x y h.1, eqDs_eq xs ys h.2]
end
theorem rB_eq {r : R D} {d : D} (h : rB r (eqD d) = true) : r = .ok d := by
  obtain ⟨a, e, h⟩ := rB_ok h
  rw [e, eqD_eq _ _ h]
/-! slices -/
theorem cut_to {xs : List D} {k : Nat} (h : k ≤ xs.length) : cutD xs none (some (k : Int)) = xs.take k := by
  unfold cutD HT.sIx
  simp only [List.drop_zero, Nat.sub_zero]
  rw [if_neg (by omega)]
  congr 1
  omega
theorem cut_from {xs : List D} {k : Nat} (h : k ≤ xs.length) : cutD xs (some (k : Int)) none = xs.drop k := by
  unfold cutD HT.sIx
  simp only
  rw [if_neg (by omega), show min (k : Int).toNat xs.length = k by omega, List.take_of_length_le (by simp)]
theorem cut_last {xs : List D} : cutD xs none (some (-1)) = xs.dropLast := by
  unfold cutD HT.sIx
  simp only [List.drop_zero, Nat.sub_zero]
  rw [if_pos (by decide), List.dropLast_eq_take]
  congr 1
  omega
end Z
set_option Elab.async false
set_option linter.all false
set_option maxRecDepth 100000
noncomputable section
namespace Z.L56
open PySem PySem.Spec L2
open PyProof.Rows hiding St
def top (i : Nat) : Stmt := PySem.Challenge.pw_choicerealm_k56_strangers_to_ten.main.body.getD i (.Pass ⟨0, 0, 0, 0⟩)
structure Ad where
  c_Frac : Addr
  c_Unfit : Addr
  c_WrongSize : Addr
  f__law_pick : Addr
  d__law_pick : FuncData
  f__law_ways : Addr
  d__law_ways : FuncData
  f__law_table : Addr
  d__law_table : FuncData
  f__law_factorial : Addr
  d__law_factorial : FuncData
  f__law_score : Addr
  d__law_score : FuncData
  f__law_more : Addr
  d__law_more : FuncData
  f__law_backward : Addr
  d__law_backward : FuncData
  f__law_plain : Addr
  d__law_plain : FuncData
  f__law_cut : Addr
  d__law_cut : FuncData
  f__law_frac : Addr
  d__law_frac : FuncData
  f__law_like : Addr
  d__law_like : FuncData
  f_is_integer : Addr
  d_is_integer : FuncData
  f_is_between : Addr
  d_is_between : FuncData
  f_WrongSize___init__ : Addr
  d_WrongSize___init__ : FuncData
  f_check_number : Addr
  d_check_number : FuncData
  f_Frac___init__ : Addr
  d_Frac___init__ : FuncData
  f_Frac___sub__ : Addr
  d_Frac___sub__ : FuncData
  f_Frac___mul__ : Addr
  d_Frac___mul__ : FuncData
  f_Frac___add__ : Addr
  d_Frac___add__ : FuncData
  f_total : Addr
  d_total : FuncData
  f_mean_of_row : Addr
  d_mean_of_row : FuncData
  f_Frac_is_below : Addr
  d_Frac_is_below : FuncData
  f_greatest_of : Addr
  d_greatest_of : FuncData
  f_means_from : Addr
  d_means_from : FuncData
  f_rank_worths : Addr
  d_rank_worths : FuncData
  f_least_mean_rank : Addr
  d_least_mean_rank : FuncData
  f_rule_of : Addr
  d_rule_of : FuncData
  f_mean_rank_rule : Addr
  d_mean_rank_rule : FuncData
  f_Unfit___init__ : Addr
  d_Unfit___init__ : FuncData
  f_check_top : Addr
  d_check_top : FuncData
  f_rank_weight : Addr
  d_rank_weight : FuncData
  f_top_worths : Addr
  d_top_worths : FuncData
  f_top_chance : Addr
  d_top_chance : FuncData
  f_top_rule : Addr
  d_top_rule : FuncData
  f_is_sequence : Addr
  d_is_sequence : FuncData
  f_limits_of : Addr
  d_limits_of : FuncData
  f_followed : Addr
  d_followed : FuncData
  f__law_taken : Addr
  d__law_taken : FuncData
  f__law_chances : Addr
  d__law_chances : FuncData
  f__law_goal_holds : Addr
  d__law_goal_holds : FuncData
  f_chance_behind : Addr
  d_chance_behind : FuncData
  f_pass_chance : Addr
  d_pass_chance : FuncData
  f__law_copy : Addr
  d__law_copy : FuncData
  f__law_kept : Addr
  d__law_kept : FuncData
  f__law_size_refused : Addr
  d__law_size_refused : FuncData
  f__law_many_refused : Addr
  d__law_many_refused : FuncData
  f__law_asked : Addr
  d__law_asked : FuncData
  f_law : Addr
  d_law : FuncData
def tab (a : Ad) (ex : Option (Nat × Addr × Addr)) : Tab := ⟨fun c => match c with
    | 0 => a.c_Frac
    | 1 => a.c_Unfit
    | 2 => a.c_WrongSize
    | _ => 0, fun c => match c with
    | 0 => ["num", "den"]
    | 1 => ["what"]
    | 2 => ["many"]
    | _ => [], ex⟩
abbrev s__law_pick : Stmt := top 36
theorem sc__law_pick : FnScope ["feed", "many", "digit", "place", "cell", "once", "twice"] ["feed", "many"] (defScope s__law_pick) := ⟨rfl, rfl, rfl, by decide +kernel, rfl, by decide +kernel, by decide +kernel⟩
abbrev s__law_ways : Stmt := top 44
theorem sc__law_ways : FnScope ["many", "place", "rank", "counts", "later", "wider", "k"] ["many", "place", "rank"] (defScope s__law_ways) := ⟨rfl, rfl, rfl, by decide +kernel, rfl, by decide +kernel, by decide +kernel⟩
abbrev s__law_table : Stmt := top 45
theorem sc__law_table : FnScope ["many", "table", "place", "rank"] ["many"] (defScope s__law_table) := ⟨rfl, rfl, rfl, by decide +kernel, rfl, by decide +kernel, by decide +kernel⟩
abbrev s__law_factorial : Stmt := top 47
theorem sc__law_factorial : FnScope ["many", "found", "k"] ["many"] (defScope s__law_factorial) := ⟨rfl, rfl, rfl, by decide +kernel, rfl, by decide +kernel, by decide +kernel⟩
abbrev s__law_score : Stmt := top 48
theorem sc__law_score : FnScope ["counts", "goal", "k"] ["counts", "goal"] (defScope s__law_score) := ⟨rfl, rfl, rfl, by decide +kernel, rfl, by decide +kernel, by decide +kernel⟩
abbrev s__law_more : Stmt := top 43
theorem sc__law_more : FnScope ["one", "two"] ["one", "two"] (defScope s__law_more) := ⟨rfl, rfl, rfl, by decide +kernel, rfl, by decide +kernel, by decide +kernel⟩
abbrev s__law_backward : Stmt := top 49
theorem sc__law_backward : FnScope ["table", "goal", "many", "rule", "behind", "back", "place", "scores", "rank", "k", "counts", "score"] ["table", "goal"] (defScope s__law_backward) := ⟨rfl, rfl, rfl, by decide +kernel, rfl, by decide +kernel, by decide +kernel⟩
abbrev s__law_plain : Stmt := top 38
theorem sc__law_plain : FnScope ["found"] ["found"] (defScope s__law_plain) := ⟨rfl, rfl, rfl, by decide +kernel, rfl, by decide +kernel, by decide +kernel⟩
abbrev s__law_cut : Stmt := top 37
theorem sc__law_cut : FnScope ["num", "den", "one", "two", "turn"] ["num", "den"] (defScope s__law_cut) := ⟨rfl, rfl, rfl, by decide +kernel, rfl, by decide +kernel, by decide +kernel⟩
abbrev s__law_frac : Stmt := top 39
theorem sc__law_frac : FnScope ["found", "num", "den", "due"] ["found", "num", "den"] (defScope s__law_frac) := ⟨rfl, rfl, rfl, by decide +kernel, rfl, by decide +kernel, by decide +kernel⟩
abbrev s__law_like : Stmt := top 40
theorem sc__law_like : FnScope ["found", "due", "k"] ["found", "due"] (defScope s__law_like) := ⟨rfl, rfl, rfl, by decide +kernel, rfl, by decide +kernel, by decide +kernel⟩
abbrev s_is_integer : Stmt := top 10
theorem sc_is_integer : FnScope ["value"] ["value"] (defScope s_is_integer) := ⟨rfl, rfl, rfl, by decide +kernel, rfl, by decide +kernel, by decide +kernel⟩
abbrev s_is_between : Stmt := top 11
theorem sc_is_between : FnScope ["value", "least", "most"] ["value", "least", "most"] (defScope s_is_between) := ⟨rfl, rfl, rfl, by decide +kernel, rfl, by decide +kernel, by decide +kernel⟩
abbrev s_WrongSize___init__ : Stmt := inClass (top 5) 0
theorem sc_WrongSize___init__ : FnScope ["self", "many"] ["self", "many"] (defScope s_WrongSize___init__) := ⟨rfl, rfl, rfl, by decide +kernel, rfl, by decide +kernel, by decide +kernel⟩
abbrev s_check_number : Stmt := top 19
theorem sc_check_number : FnScope ["n"] ["n"] (defScope s_check_number) := ⟨rfl, rfl, rfl, by decide +kernel, rfl, by decide +kernel, by decide +kernel⟩
abbrev s_Frac___init__ : Stmt := inClass (top 14) 0
theorem sc_Frac___init__ : FnScope ["self", "num", "den", "divisor"] ["self", "num", "den"] (defScope s_Frac___init__) := ⟨rfl, rfl, rfl, by decide +kernel, rfl, by decide +kernel, by decide +kernel⟩
abbrev s_Frac___sub__ : Stmt := inClass (top 14) 2
theorem sc_Frac___sub__ : FnScope ["self", "other"] ["self", "other"] (defScope s_Frac___sub__) := ⟨rfl, rfl, rfl, by decide +kernel, rfl, by decide +kernel, by decide +kernel⟩
abbrev s_Frac___mul__ : Stmt := inClass (top 14) 3
theorem sc_Frac___mul__ : FnScope ["self", "other"] ["self", "other"] (defScope s_Frac___mul__) := ⟨rfl, rfl, rfl, by decide +kernel, rfl, by decide +kernel, by decide +kernel⟩
abbrev s_Frac___add__ : Stmt := inClass (top 14) 1
theorem sc_Frac___add__ : FnScope ["self", "other"] ["self", "other"] (defScope s_Frac___add__) := ⟨rfl, rfl, rfl, by decide +kernel, rfl, by decide +kernel, by decide +kernel⟩
abbrev s_total : Stmt := top 16
theorem sc_total : FnScope ["fracs", "found", "one"] ["fracs"] (defScope s_total) := ⟨rfl, rfl, rfl, by decide +kernel, rfl, by decide +kernel, by decide +kernel⟩
abbrev s_mean_of_row : Stmt := top 25
theorem sc_mean_of_row : FnScope ["row"] ["row"] (defScope s_mean_of_row) := ⟨rfl, rfl, rfl, by decide +kernel, rfl, by decide +kernel, by decide +kernel⟩
abbrev s_Frac_is_below : Stmt := inClass (top 14) 5
theorem sc_Frac_is_below : FnScope ["self", "other"] ["self", "other"] (defScope s_Frac_is_below) := ⟨rfl, rfl, rfl, by decide +kernel, rfl, by decide +kernel, by decide +kernel⟩
abbrev s_greatest_of : Stmt := top 15
theorem sc_greatest_of : FnScope ["fracs", "found", "one"] ["fracs"] (defScope s_greatest_of) := ⟨rfl, rfl, rfl, by decide +kernel, rfl, by decide +kernel, by decide +kernel⟩
abbrev s_means_from : Stmt := top 26
theorem sc_means_from : FnScope ["rows", "means", "row", "behind", "worth"] ["rows"] (defScope s_means_from) := ⟨rfl, rfl, rfl, by decide +kernel, rfl, by decide +kernel, by decide +kernel⟩
abbrev s_rank_worths : Stmt := top 24
theorem sc_rank_worths : FnScope ["n", "rows", "come", "seen"] ["n"] (defScope s_rank_worths) := ⟨rfl, rfl, rfl, by decide +kernel, rfl, by decide +kernel, by decide +kernel⟩
abbrev s_least_mean_rank : Stmt := top 31
theorem sc_least_mean_rank : FnScope ["n"] ["n"] (defScope s_least_mean_rank) := ⟨rfl, rfl, rfl, by decide +kernel, rfl, by decide +kernel, by decide +kernel⟩
abbrev s_rule_of : Stmt := top 27
theorem sc_rule_of : FnScope ["rows", "means", "rule", "row", "behind", "seen"] ["rows"] (defScope s_rule_of) := ⟨rfl, rfl, rfl, by decide +kernel, rfl, by decide +kernel, by decide +kernel⟩
abbrev s_mean_rank_rule : Stmt := top 32
theorem sc_mean_rank_rule : FnScope ["n"] ["n"] (defScope s_mean_rank_rule) := ⟨rfl, rfl, rfl, by decide +kernel, rfl, by decide +kernel, by decide +kernel⟩
abbrev s_Unfit___init__ : Stmt := inClass (top 7) 0
theorem sc_Unfit___init__ : FnScope ["self", "what"] ["self", "what"] (defScope s_Unfit___init__) := ⟨rfl, rfl, rfl, by decide +kernel, rfl, by decide +kernel, by decide +kernel⟩
abbrev s_check_top : Stmt := top 28
theorem sc_check_top : FnScope ["n", "many"] ["n", "many"] (defScope s_check_top) := ⟨rfl, rfl, rfl, by decide +kernel, rfl, by decide +kernel, by decide +kernel⟩
abbrev s_rank_weight : Stmt := top 22
theorem sc_rank_weight : FnScope ["n", "come", "seen", "rank"] ["n", "come", "seen", "rank"] (defScope s_rank_weight) := ⟨rfl, rfl, rfl, by decide +kernel, rfl, by decide +kernel, by decide +kernel⟩
abbrev s_top_worths : Stmt := top 23
theorem sc_top_worths : FnScope ["n", "many", "rows", "come", "row", "seen", "good", "rank"] ["n", "many"] (defScope s_top_worths) := ⟨rfl, rfl, rfl, by decide +kernel, rfl, by decide +kernel, by decide +kernel⟩
abbrev s_top_chance : Stmt := top 29
theorem sc_top_chance : FnScope ["n", "many"] ["n", "many"] (defScope s_top_chance) := ⟨rfl, rfl, rfl, by decide +kernel, rfl, by decide +kernel, by decide +kernel⟩
abbrev s_top_rule : Stmt := top 30
theorem sc_top_rule : FnScope ["n", "many"] ["n", "many"] (defScope s_top_rule) := ⟨rfl, rfl, rfl, by decide +kernel, rfl, by decide +kernel, by decide +kernel⟩
abbrev s_is_sequence : Stmt := top 12
theorem sc_is_sequence : FnScope ["value"] ["value"] (defScope s_is_sequence) := ⟨rfl, rfl, rfl, by decide +kernel, rfl, by decide +kernel, by decide +kernel⟩
abbrev s_limits_of : Stmt := top 33
theorem sc_limits_of : FnScope ["n", "rule", "limits", "limit", "at"] ["n", "rule"] (defScope s_limits_of) := ⟨rfl, rfl, rfl, by decide +kernel, rfl, by decide +kernel, by decide +kernel⟩
abbrev s_followed : Stmt := top 34
theorem sc_followed : FnScope ["n", "rule", "chances", "reached", "at", "limit", "come", "part", "rank", "good", "_", "seen"] ["n", "rule"] (defScope s_followed) := ⟨rfl, rfl, rfl, by decide +kernel, rfl, by decide +kernel, by decide +kernel⟩
abbrev s__law_taken : Stmt := top 46
theorem sc__law_taken : FnScope ["table", "rule", "many", "found", "reach", "place", "low", "counts", "k"] ["table", "rule"] (defScope s__law_taken) := ⟨rfl, rfl, rfl, by decide +kernel, rfl, by decide +kernel, by decide +kernel⟩
abbrev s__law_chances : Stmt := top 50
theorem sc__law_chances : FnScope ["table", "rule", "whole", "count"] ["table", "rule", "whole"] (defScope s__law_chances) := ⟨rfl, rfl, rfl, by decide +kernel, rfl, by decide +kernel, by decide +kernel⟩
abbrev s__law_goal_holds : Stmt := top 53
theorem sc__law_goal_holds : FnScope ["size", "goal", "table", "whole", "back"] ["size", "goal", "table", "whole"] (defScope s__law_goal_holds) := ⟨rfl, rfl, rfl, by decide +kernel, rfl, by decide +kernel, by decide +kernel⟩
abbrev s_chance_behind : Stmt := top 20
theorem sc_chance_behind : FnScope ["n", "r", "ahead"] ["n", "r"] (defScope s_chance_behind) := ⟨rfl, rfl, rfl, by decide +kernel, rfl, by decide +kernel, by decide +kernel⟩
abbrev s_pass_chance : Stmt := top 21
theorem sc_pass_chance : FnScope ["n", "r"] ["n", "r"] (defScope s_pass_chance) := ⟨rfl, rfl, rfl, by decide +kernel, rfl, by decide +kernel, by decide +kernel⟩
abbrev s__law_copy : Stmt := top 42
theorem sc__law_copy : FnScope ["value", "one"] ["value"] (defScope s__law_copy) := ⟨rfl, rfl, rfl, by decide +kernel, rfl, by decide +kernel, by decide +kernel⟩
abbrev s__law_kept : Stmt := top 41
theorem sc__law_kept : FnScope ["found", "due", "k"] ["found", "due"] (defScope s__law_kept) := ⟨rfl, rfl, rfl, by decide +kernel, rfl, by decide +kernel, by decide +kernel⟩
abbrev s__law_size_refused : Stmt := top 51
theorem sc__law_size_refused : FnScope ["which", "wrong", "many", "before", "e"] ["which", "wrong", "many"] (defScope s__law_size_refused) := ⟨rfl, rfl, rfl, by decide +kernel, rfl, by decide +kernel, by decide +kernel⟩
abbrev s__law_many_refused : Stmt := top 52
theorem sc__law_many_refused : FnScope ["which", "size", "wrong", "e"] ["which", "size", "wrong"] (defScope s__law_many_refused) := ⟨rfl, rfl, rfl, by decide +kernel, rfl, by decide +kernel, by decide +kernel⟩
abbrev s__law_asked : Stmt := top 54
theorem sc__law_asked : FnScope ["script", "feed", "size", "table", "whole", "goals", "goal", "rule", "place", "r", "passing", "sizes", "wrong", "which", "odd"] ["script"] (defScope s__law_asked) := ⟨rfl, rfl, rfl, by decide +kernel, rfl, by decide +kernel, by decide +kernel⟩
abbrev s_law : Stmt := top 55
theorem sc_law : FnScope ["script"] ["script"] (defScope s_law) := ⟨rfl, rfl, rfl, by decide +kernel, rfl, by decide +kernel, by decide +kernel⟩
def b__law_pick : Env → R (Fl × Env) := (mSeq (mSetIx 0 (mBin (gI0 (· + ·)) (mBinN 0 gIx (mCon (.int 2))) (mCon (.int 1))) (mCon (.int 2))) (mSeq (mIfS (mVal (mBin (gIB fun i j => decide (j < i)) (mBinN 0 gIx (mCon (.int 3))) (mCon (.int 0)))) (mSeq (mSet 2 (mBin (gII cNz Int.fmod) (mPrim (gOne gIntO) (mCons (mBinN 0 gIx (mCon (.int 3))) mNil)) (mVar 1))) (mSeq (mSetIx 0 (mBin (gII cDiv Int.fdiv) (mBinN 0 gIx (mCon (.int 3))) (mVar 1)) (mCon (.int 3))) (mRet (mVar 2)))) mSkip) (mSeq (mSet 3 (mBinN 0 gIx (mCon (.int 1)))) (mSeq (mSetIx 0 (mBin (gI0 (· + ·)) (mVar 3) (mCon (.int 1))) (mCon (.int 1))) (mSeq (mSet 4 (mCon (.int 23))) (mSeq (mIfS (mVal (mBin (gIB fun i j => decide (j < i)) (mPrim (gOne gLen) (mCons (mBinN 0 gIx (mCon (.int 0))) mNil)) (mCon (.int 0)))) (mSet 4 (mPrim (gOne gIntO) (mCons (mBin gIx (mBinN 0 gIx (mCon (.int 0))) (mBin (gII cNz Int.fmod) (mPrim (gOne gIntO) (mCons (mVar 3) mNil)) (mPrim (gOne gLen) (mCons (mBinN 0 gIx (mCon (.int 0))) mNil)))) mNil))) mSkip) (mSeq (mIfS (mAnd (mVal (mBin (gIB fun i j => decide (j ≤ i)) (mVar 4) (mBin (gII cPow fun i j => i ^ j.toNat) (mCon (.int 10)) (mCon (.int 16))))) (mVal (mBin (gIB fun i j => decide (i < j)) (mVar 3) (mPrim (gOne gLen) (mCons (mBinN 0 gIx (mCon (.int 0))) mNil))))) (mSeq (mSetIx 0 (mBin (gII cDiv Int.fdiv) (mVar 4) (mVar 1)) (mCon (.int 3))) (mRet (mBin (gII cNz Int.fmod) (mPrim (gOne gIntO) (mCons (mVar 4) mNil)) (mVar 1)))) mSkip) (mSeq (mSet 5 (mBin (gII cNz Int.fmod) (mPrim (gOne gIntO) (mCons (mBin (gI0 (· + ·)) (mBin (gI0 (· + ·)) (mBin (gI0 (· + ·)) (mBin (gII cMul (· * ·)) (mVar 4) (mCon (.int 40503))) (mBin (gII cMul (· * ·)) (mBinN 0 gIx (mCon (.int 2))) (mCon (.int 92821)))) (mBin (gII cMul (· * ·)) (mVar 3) (mCon (.int 31)))) (mCon (.int 17))) mNil)) (mCon (.int 1000000007)))) (mSeq (mSet 6 (mBin (gII cNz Int.fmod) (mPrim (gOne gIntO) (mCons (mBin (gI0 (· + ·)) (mBin (gI0 (· + ·)) (mBin (gII cMul (· * ·)) (mVar 5) (mVar 5)) (mBin (gII cMul (· * ·)) (mBinN 0 gIx (mCon (.int 2))) (mCon (.int 7919)))) (mBin (gII cDiv Int.fdiv) (mVar 4) (mCon (.int 8191)))) mNil)) (mCon (.int 2147483629)))) (mRet (mBin (gII cNz Int.fmod) (mPrim (gOne gIntO) (mCons (mBin (gII cDiv Int.fdiv) (mBin (gII cMul (· * ·)) (mVar 6) (mCon (.int 69069))) (mCon (.int 4096))) mNil)) (mVar 1))))))))))))
@[irreducible] def m__law_pick : List D → R (D × D) := mFnB 2 7 b__law_pick
theorem mq__law_pick : m__law_pick = mFnB 2 7 b__law_pick := by with_unfolding_all rfl
def l__law_ways_e1_13 : Env → R (D × Env) := (mPrim (gOne gIntO) (mCons (mBin (gEq) (mBin (gI0 (· + ·)) (mVar 6) (mCon (.int 1))) (mVar 2)) mNil))
def l__law_ways_e3_16 : Env → R (D × Env) := (mCon (.int 0))
def l__law_ways_b4 : Env → R (Fl × Env) := (mSeq (mSetIx 5 (mBin (gI0 (· + ·)) (mBinN 5 gIx (mVar 6)) (mBin (gII cMul (· * ·)) (mBin gIx (mVar 3) (mVar 6)) (mBin (gI0 (· - ·)) (mBin (gI0 (· - ·)) (mVar 4) (mVar 6)) (mCon (.int 1))))) (mVar 6)) (mSetIx 5 (mBin (gI0 (· + ·)) (mBinN 5 gIx (mBin (gI0 (· + ·)) (mVar 6) (mCon (.int 1)))) (mBin (gII cMul (· * ·)) (mBin gIx (mVar 3) (mVar 6)) (mBin (gI0 (· + ·)) (mVar 6) (mCon (.int 1))))) (mBin (gI0 (· + ·)) (mVar 6) (mCon (.int 1)))))
def l__law_ways_b2 : Env → R (Fl × Env) := (mSeq (mSet 5 (mComp [6] (mItR1 (mCons (mVar 0) mNil)) (gtN 6) mYes l__law_ways_e3_16)) (mSeq (mFor (mItR1 (mCons (mBin (gI0 (· - ·)) (mVar 4) (mCon (.int 1))) mNil)) (gtN 6) l__law_ways_b4) (mSet 3 (mVar 5))))
def b__law_ways : Env → R (Fl × Env) := (mSeq (mSet 3 (mComp [6] (mItR1 (mCons (mVar 0) mNil)) (gtN 6) mYes l__law_ways_e1_13)) (mSeq (mFor (mItR2 (mCons (mBin (gI0 (· + ·)) (mVar 1) (mCon (.int 1))) (mCons (mBin (gI0 (· + ·)) (mVar 0) (mCon (.int 1))) mNil))) (gtN 4) l__law_ways_b2) (mRet (mVar 3))))
@[irreducible] def m__law_ways : List D → R D := mFn 3 7 b__law_ways
theorem mq__law_ways : m__law_ways = mFn 3 7 b__law_ways := by with_unfolding_all rfl
def l__law_table_e3_21 : Env → R (D × Env) := (mCall m__law_ways (mCons (mVar 0) (mCons (mVar 2) (mCons (mVar 3) mNil))))
def l__law_table_b2 : Env → R (Fl × Env) := (mApp 1 (mComp [3] (mItR2 (mCons (mCon (.int 1)) (mCons (mBin (gI0 (· + ·)) (mVar 2) (mCon (.int 1))) mNil))) (gtN 3) mYes l__law_table_e3_21))
def b__law_table : Env → R (Fl × Env) := (mSeq (mSet 1 (mPrim gLst mNil)) (mSeq (mFor (mItR2 (mCons (mCon (.int 1)) (mCons (mBin (gI0 (· + ·)) (mVar 0) (mCon (.int 1))) mNil))) (gtN 2) l__law_table_b2) (mRet (mVar 1))))
@[irreducible] def m__law_table : List D → R D := mFn 1 4 b__law_table
theorem mq__law_table : m__law_table = mFn 1 4 b__law_table := by with_unfolding_all rfl
def l__law_factorial_b2 : Env → R (Fl × Env) := (mSet 1 (mBin (gII cMul (· * ·)) (mVar 1) (mBin (gI0 (· + ·)) (mVar 2) (mCon (.int 1)))))
def b__law_factorial : Env → R (Fl × Env) := (mSeq (mSet 1 (mCon (.int 1))) (mSeq (mFor (mItR1 (mCons (mVar 0) mNil)) (gtN 2) l__law_factorial_b2) (mRet (mVar 1))))
@[irreducible] def m__law_factorial : List D → R D := mFn 1 3 b__law_factorial
theorem mq__law_factorial : m__law_factorial = mFn 1 3 b__law_factorial := by with_unfolding_all rfl
def l__law_score_e3_16 : Env → R (D × Env) := (mBin (gII cMul (· * ·)) (mBin (gI0 (· + ·)) (mVar 2) (mCon (.int 1))) (mBin gIx (mVar 0) (mVar 2)))
def b__law_score : Env → R (Fl × Env) := (mSeq (mIfS (mVal (mBin (gIB fun i j => decide (j < i)) (mVar 1) (mCon (.int 0)))) (mRet (mPrim (gOne gSum) (mCons (mSl (mVar 0) mNoP (mPart (mVar 1))) mNil))) mSkip) (mRet (mUn (gU fun i => -i) (mPrim (gOne gSum) (mCons (mComp [2] (mItR1 (mCons (mPrim (gOne gLen) (mCons (mVar 0) mNil)) mNil)) (gtN 2) mYes l__law_score_e3_16) mNil)))))
@[irreducible] def m__law_score : List D → R D := mFn 2 3 b__law_score
theorem mq__law_score : m__law_score = mFn 2 3 b__law_score := by with_unfolding_all rfl
def b__law_more : Env → R (Fl × Env) := (mSeq (mIfS (mVal (mBin (gIB fun i j => decide (j < i)) (mVar 0) (mVar 1))) (mRet (mVar 0)) mSkip) (mRet (mVar 1)))
@[irreducible] def m__law_more : List D → R D := mFn 2 2 b__law_more
theorem mq__law_more : m__law_more = mFn 2 2 b__law_more := by with_unfolding_all rfl
def l__law_backward_e3_17 : Env → R (D × Env) := (mCall m__law_score (mCons (mVar 10) (mCons (mVar 1) mNil)))
def l__law_backward_e6_17 : Env → R (D × Env) := (mCall m__law_score (mCons (mVar 10) (mCons (mVar 1) mNil)))
def l__law_backward_b8 : Env → R (Fl × Env) := (mIfS (mVal (mBin (gIB fun i j => decide (j ≤ i)) (mBin gIx (mVar 7) (mVar 9)) (mVar 4))) (mSet 8 (mBin (gI0 (· + ·)) (mVar 9) (mCon (.int 1)))) mSkip)
def l__law_backward_e12_21 : Env → R (D × Env) := (mCall m__law_more (mCons (mVar 11) (mCons (mVar 4) mNil)))
def l__law_backward_b4 : Env → R (Fl × Env) := (mSeq (mSet 6 (mBin (gI0 (· - ·)) (mBin (gI0 (· - ·)) (mVar 2) (mCon (.int 2))) (mVar 5))) (mSeq (mSet 7 (mComp [10] (mItL (mBin gIx (mVar 0) (mVar 6))) (gtN 10) mYes l__law_backward_e6_17)) (mSeq (mSet 8 (mCon (.int 0))) (mSeq (mFor (mItR1 (mCons (mPrim (gOne gLen) (mCons (mVar 7) mNil)) mNil)) (gtN 9) l__law_backward_b8) (mSeq (mInsr 3 (mCon (.int 0)) (mVar 8)) (mSet 4 (mPrim (gOne gSum) (mCons (mComp [11] (mItL (mVar 7)) (gtN 11) mYes l__law_backward_e12_21) mNil))))))))
def b__law_backward : Env → R (Fl × Env) := (mSeq (mSet 2 (mPrim (gOne gLen) (mCons (mVar 0) mNil))) (mSeq (mSet 3 (mPrim gLst (mCons (mVar 2) mNil))) (mSeq (mSet 4 (mPrim (gOne gSum) (mCons (mComp [10] (mItL (mBin gIx (mVar 0) (mBin (gI0 (· - ·)) (mVar 2) (mCon (.int 1))))) (gtN 10) mYes l__law_backward_e3_17) mNil))) (mSeq (mFor (mItR1 (mCons (mBin (gI0 (· - ·)) (mVar 2) (mCon (.int 1))) mNil)) (gtN 5) l__law_backward_b4) (mRet (mPrim gLst (mCons (mVar 4) (mCons (mUnN 3 gTupOf) mNil))))))))
@[irreducible] def m__law_backward : List D → R D := mFn 2 12 b__law_backward
theorem mq__law_backward : m__law_backward = mFn 2 12 b__law_backward := by with_unfolding_all rfl
def b__law_plain : Env → R (Fl × Env) := (mRet (mAndV (mUn (gIsi [0] [.int]) (mVar 0)) (mUn gNot (mUn (gIsi [0] [.bool]) (mVar 0)))))
@[irreducible] def m__law_plain : List D → R D := mFn 1 1 b__law_plain
theorem mq__law_plain : m__law_plain = mFn 1 1 b__law_plain := by with_unfolding_all rfl
def bh__law_plain : Env → R (Fl × Env) := (mRet (mAndV (mUn (gIsi [0] [.int]) (mVar 0)) (mUn gNot (mUn (gIsi [0] [.bool]) (mVar 0)))))
@[irreducible] def h__law_plain : List D → R D := mFn 1 1 bh__law_plain
def l__law_cut_b3 : Env → R (Fl × Env) := (mSeq (mIfS (mVal (mBin (gEq) (mVar 3) (mCon (.int 0)))) mBrk mSkip) (mPar 2 3 (mCons (mVar 3) (mCons (mBin (gII cNz Int.fmod) (mPrim (gOne gIntO) (mCons (mVar 2) mNil)) (mVar 3)) mNil))))
def b__law_cut : Env → R (Fl × Env) := (mSeq (mSet 2 (mPrim (gOne (gU fun i => if i < 0 then -i else i)) (mCons (mVar 0) mNil))) (mSeq (mSet 3 (mVar 1)) (mSeq (mFor (mItR1 (mCons (mBin (gI0 (· + ·)) (mBin (gII cMul (· * ·)) (mCon (.int 2)) (mUn (gU bitLen) (mVar 1))) (mCon (.int 4))) mNil)) (gtN 4) l__law_cut_b3) (mRet (mPrim gTup (mCons (mBin (gII cDiv Int.fdiv) (mVar 0) (mVar 2)) (mCons (mBin (gII cDiv Int.fdiv) (mVar 1) (mVar 2)) mNil)))))))
@[irreducible] def m__law_cut : List D → R D := mFn 2 5 b__law_cut
theorem mq__law_cut : m__law_cut = mFn 2 5 b__law_cut := by with_unfolding_all rfl
def lh__law_cut_b3 : Env → R (Fl × Env) := (mSeq (mIfS (mVal (mBin (gEq) (mVar 3) (mCon (.int 0)))) mBrk mSkip) (mPar 2 3 (mCons (mVar 3) (mCons (mBin (gII cNz Int.fmod) (mPrim (gOne gIntO) (mCons (mVar 2) mNil)) (mVar 3)) mNil))))
def bh__law_cut : Env → R (Fl × Env) := (mSeq (mSet 2 (mPrim (gOne (gU fun i => if i < 0 then -i else i)) (mCons (mVar 0) mNil))) (mSeq (mSet 3 (mVar 1)) (mSeq (mFor (mItR1 (mCons (mBin (gI0 (· + ·)) (mBin (gII cMul (· * ·)) (mCon (.int 2)) (mUn (gU bitLen) (mVar 1))) (mCon (.int 4))) mNil)) (gtN 4) lh__law_cut_b3) (mRet (mPrim gTup (mCons (mBin (gII cDiv Int.fdiv) (mVar 0) (mVar 2)) (mCons (mBin (gII cDiv Int.fdiv) (mVar 1) (mVar 2)) mNil)))))))
@[irreducible] def h__law_cut : List D → R D := mFn 2 5 bh__law_cut
def b__law_frac : Env → R (Fl × Env) := (mSeq (mIfS (mOr (mNot (mVal (mUn (gIsi [0] [(.own 0)]) (mVar 0)))) (mOr (mNot (mVal (mCall m__law_plain (mCons (mUn (gFld [(0, 0)]) (mVar 0)) mNil)))) (mNot (mVal (mCall m__law_plain (mCons (mUn (gFld [(0, 1)]) (mVar 0)) mNil)))))) (mRet (mCon (.bl false))) mSkip) (mSeq (mSet 3 (mCall m__law_cut (mCons (mVar 1) (mCons (mVar 2) mNil)))) (mRet (mAndV (mBin (gEq) (mUn (gFld [(0, 0)]) (mVar 0)) (mBin gIx (mVar 3) (mCon (.int 0)))) (mBin (gEq) (mUn (gFld [(0, 1)]) (mVar 0)) (mBin gIx (mVar 3) (mCon (.int 1))))))))
@[irreducible] def m__law_frac : List D → R D := mFn 3 4 b__law_frac
theorem mq__law_frac : m__law_frac = mFn 3 4 b__law_frac := by with_unfolding_all rfl
def bh__law_frac : Env → R (Fl × Env) := (mSeq (mIfS (mOr (mNot (mVal (mUn (gIsi [0] [(.own 0)]) (mVar 0)))) (mOr (mNot (mVal (mCall h__law_plain (mCons (mUn (gFld [(0, 0)]) (mVar 0)) mNil)))) (mNot (mVal (mCall h__law_plain (mCons (mUn (gFld [(0, 1)]) (mVar 0)) mNil)))))) (mRet (mCon (.bl false))) mSkip) (mSeq (mSet 3 (mCall h__law_cut (mCons (mVar 1) (mCons (mVar 2) mNil)))) (mRet (mAndV (mBin (gEq) (mUn (gFld [(0, 0)]) (mVar 0)) (mBin gIx (mVar 3) (mCon (.int 0)))) (mBin (gEq) (mUn (gFld [(0, 1)]) (mVar 0)) (mBin gIx (mVar 3) (mCon (.int 1))))))))
@[irreducible] def h__law_frac : List D → R D := mFn 3 4 bh__law_frac
def l__law_like_e8_19 (rec : List D → R D) : Env → R (D × Env) := (mCall rec (mCons (mBin gIx (mVar 0) (mVar 2)) (mCons (mBin gIx (mVar 1) (mVar 2)) mNil)))
def b__law_like (rec : List D → R D) : Env → R (Fl × Env) := (mSeq (mIfS (mVal (mBin (gIs id) (mVar 1) (mCon .non))) (mRet (mBin (gIs id) (mVar 0) (mCon .non))) mSkip) (mSeq (mIfS (mVal (mUn (gIsi [0] [.list]) (mVar 1))) (mRet (mCall m__law_frac (mCons (mVar 0) (mCons (mBin gIx (mVar 1) (mCon (.int 0))) (mCons (mBin gIx (mVar 1) (mCon (.int 1))) mNil))))) mSkip) (mSeq (mIfS (mVal (mUn (gIsi [0] [.tuple]) (mVar 1))) (mSeq (mIfS (mOr (mNot (mVal (mUn (gIsi [0] [.tuple]) (mVar 0)))) (mVal (mBin (gNe) (mPrim (gOne gLen) (mCons (mVar 0) mNil)) (mPrim (gOne gLen) (mCons (mVar 1) mNil))))) (mRet (mCon (.bl false))) mSkip) (mRet (mPrim (gOne gAll) (mCons (mComp [2] (mItR1 (mCons (mPrim (gOne gLen) (mCons (mVar 1) mNil)) mNil)) (gtN 2) mYes (l__law_like_e8_19 rec)) mNil)))) mSkip) (mSeq (mIfS (mVal (mUn (gIsi [0] [.bool]) (mVar 1))) (mRet (mAndV (mUn (gIsi [0] [.bool]) (mVar 0)) (mBin (gEq) (mVar 0) (mVar 1)))) mSkip) (mSeq (mIfS (mVal (mUn (gIsi [0] [.int]) (mVar 1))) (mRet (mAndV (mCall m__law_plain (mCons (mVar 0) mNil)) (mBin (gEq) (mVar 0) (mVar 1)))) mSkip) (mRet (mAndV (mUn (gIsi [0] [.str]) (mVar 0)) (mBin (gEq) (mVar 0) (mVar 1)))))))))
def m__law_like : Nat → List D → R D
  | 0 => fun _ => .bad
  | j + 1 => mFn 2 3 (b__law_like (m__law_like j))
def lh__law_like_e8_19 (rec : List D → R D) : Env → R (D × Env) := (mCall rec (mCons (mBin gIx (mVar 0) (mVar 2)) (mCons (mBin gIx (mVar 1) (mVar 2)) mNil)))
def bh__law_like (rec : List D → R D) : Env → R (Fl × Env) := (mSeq (mIfS (mVal (mBin (gIs id) (mVar 1) (mCon .non))) (mRet (mBin (gIs id) (mVar 0) (mCon .non))) mSkip) (mSeq (mIfS (mVal (mUn (gIsi [0] [.list]) (mVar 1))) (mRet (mCall h__law_frac (mCons (mVar 0) (mCons (mBin gIx (mVar 1) (mCon (.int 0))) (mCons (mBin gIx (mVar 1) (mCon (.int 1))) mNil))))) mSkip) (mSeq (mIfS (mVal (mUn (gIsi [0] [.tuple]) (mVar 1))) (mSeq (mIfS (mOr (mNot (mVal (mUn (gIsi [0] [.tuple]) (mVar 0)))) (mVal (mBin (gNe) (mPrim (gOne gLen) (mCons (mVar 0) mNil)) (mPrim (gOne gLen) (mCons (mVar 1) mNil))))) (mRet (mCon (.bl false))) mSkip) (mRet (mPrim (gOne gAll) (mCons (mComp [2] (mItR1 (mCons (mPrim (gOne gLen) (mCons (mVar 1) mNil)) mNil)) (gtN 2) mYes (lh__law_like_e8_19 rec)) mNil)))) mSkip) (mSeq (mIfS (mVal (mUn (gIsi [0] [.bool]) (mVar 1))) (mRet (mAndV (mUn (gIsi [0] [.bool]) (mVar 0)) (mBin (gEq) (mVar 0) (mVar 1)))) mSkip) (mSeq (mIfS (mVal (mUn (gIsi [0] [.int]) (mVar 1))) (mRet (mAndV (mCall h__law_plain (mCons (mVar 0) mNil)) (mBin (gEq) (mVar 0) (mVar 1)))) mSkip) (mRet (mAndV (mUn (gIsi [0] [.str]) (mVar 0)) (mBin (gEq) (mVar 0) (mVar 1)))))))))
def h__law_like : Nat → List D → R D
  | 0 => fun _ => .bad
  | j + 1 => mFn 2 3 (bh__law_like (h__law_like j))
def b_is_integer : Env → R (Fl × Env) := (mRet (mAndV (mUn (gIsi [0] [.int]) (mVar 0)) (mUn gNot (mUn (gIsi [0] [.bool]) (mVar 0)))))
@[irreducible] def m_is_integer : List D → R D := mFn 1 1 b_is_integer
theorem mq_is_integer : m_is_integer = mFn 1 1 b_is_integer := by with_unfolding_all rfl
def b_is_between : Env → R (Fl × Env) := (mRet (mAndV (mCall m_is_integer (mCons (mVar 0) mNil)) (mChain (gIB fun i j => decide (i ≤ j)) (gIB fun i j => decide (i ≤ j)) (mVar 1) (mVar 0) (mVar 2))))
@[irreducible] def m_is_between : List D → R D := mFn 3 3 b_is_between
theorem mq_is_between : m_is_between = mFn 3 3 b_is_between := by with_unfolding_all rfl
def b_check_number : Env → R (Fl × Env) := (mIfS (mNot (mVal (mCall m_is_between (mCons (mVar 0) (mCons (mCon (.int 1)) (mCons (mCon (.int 60)) mNil)))))) (mRaise 2 1 (mCons (mVar 0) mNil)) mSkip)
@[irreducible] def m_check_number : List D → R D := mFn 1 1 b_check_number
theorem mq_check_number : m_check_number = mFn 1 1 b_check_number := by with_unfolding_all rfl
def b_Frac___init__ : Env → R (Fl × Env) := (mSeq (mIfS (mOr (mNot (mVal (mCall m_is_integer (mCons (mVar 1) mNil)))) (mOr (mNot (mVal (mCall m_is_integer (mCons (mVar 2) mNil)))) (mVal (mBin (gEq) (mVar 2) (mCon (.int 0)))))) (fun _ => .bad) mSkip) (mSeq (mSet 3 (mPrim (gTwo (gI0 gcdI)) (mCons (mVar 1) (mCons (mVar 2) mNil)))) (mSeq (mIfS (mVal (mBin (gIB fun i j => decide (i < j)) (mVar 2) (mCon (.int 0)))) (mSet 3 (mUn (gU fun i => -i) (mVar 3))) mSkip) (mSeq (mFldSet 0 0 0 (mBin (gII cDiv Int.fdiv) (mVar 1) (mVar 3))) (mFldSet 0 0 1 (mBin (gII cDiv Int.fdiv) (mVar 2) (mVar 3)))))))
@[irreducible] def m_Frac___init__ : List D → R (D × D) := mFnB 3 4 b_Frac___init__
theorem mq_Frac___init__ : m_Frac___init__ = mFnB 3 4 b_Frac___init__ := by with_unfolding_all rfl
def b_Frac___sub__ : Env → R (Fl × Env) := (mRet (mMake 0 (fun xs => m_Frac___init__ (xs ++ [])) (mCons (mBin (gI0 (· - ·)) (mBin (gII cMul (· * ·)) (mUn (gFld [(0, 0)]) (mVar 0)) (mUn (gFld [(0, 1)]) (mVar 1))) (mBin (gII cMul (· * ·)) (mUn (gFld [(0, 0)]) (mVar 1)) (mUn (gFld [(0, 1)]) (mVar 0)))) (mCons (mBin (gII cMul (· * ·)) (mUn (gFld [(0, 1)]) (mVar 0)) (mUn (gFld [(0, 1)]) (mVar 1))) mNil))))
@[irreducible] def m_Frac___sub__ : List D → R D := mFn 2 2 b_Frac___sub__
theorem mq_Frac___sub__ : m_Frac___sub__ = mFn 2 2 b_Frac___sub__ := by with_unfolding_all rfl
def b_Frac___mul__ : Env → R (Fl × Env) := (mRet (mMake 0 (fun xs => m_Frac___init__ (xs ++ [])) (mCons (mBin (gII cMul (· * ·)) (mUn (gFld [(0, 0)]) (mVar 0)) (mUn (gFld [(0, 0)]) (mVar 1))) (mCons (mBin (gII cMul (· * ·)) (mUn (gFld [(0, 1)]) (mVar 0)) (mUn (gFld [(0, 1)]) (mVar 1))) mNil))))
@[irreducible] def m_Frac___mul__ : List D → R D := mFn 2 2 b_Frac___mul__
theorem mq_Frac___mul__ : m_Frac___mul__ = mFn 2 2 b_Frac___mul__ := by with_unfolding_all rfl
def b_Frac___add__ : Env → R (Fl × Env) := (mRet (mMake 0 (fun xs => m_Frac___init__ (xs ++ [])) (mCons (mBin (gI0 (· + ·)) (mBin (gII cMul (· * ·)) (mUn (gFld [(0, 0)]) (mVar 0)) (mUn (gFld [(0, 1)]) (mVar 1))) (mBin (gII cMul (· * ·)) (mUn (gFld [(0, 0)]) (mVar 1)) (mUn (gFld [(0, 1)]) (mVar 0)))) (mCons (mBin (gII cMul (· * ·)) (mUn (gFld [(0, 1)]) (mVar 0)) (mUn (gFld [(0, 1)]) (mVar 1))) mNil))))
@[irreducible] def m_Frac___add__ : List D → R D := mFn 2 2 b_Frac___add__
theorem mq_Frac___add__ : m_Frac___add__ = mFn 2 2 b_Frac___add__ := by with_unfolding_all rfl
def l_total_b2 : Env → R (Fl × Env) := (mSet 1 (mBinO 0 m_Frac___add__ (mVar 1) (mVar 2)))
def b_total : Env → R (Fl × Env) := (mSeq (mSet 1 (mMake 0 (fun xs => m_Frac___init__ (xs ++ [.int 1])) (mCons (mCon (.int 0)) mNil))) (mSeq (mFor (mItL (mVar 0)) (gtN 2) l_total_b2) (mRet (mVar 1))))
@[irreducible] def m_total : List D → R D := mFn 1 3 b_total
theorem mq_total : m_total = mFn 1 3 b_total := by with_unfolding_all rfl
def b_mean_of_row : Env → R (Fl × Env) := (mRet (mBinO 0 m_Frac___mul__ (mCall m_total (mCons (mVar 0) mNil)) (mMake 0 (fun xs => m_Frac___init__ (xs ++ [])) (mCons (mCon (.int 1)) (mCons (mPrim (gOne gLen) (mCons (mVar 0) mNil)) mNil)))))
@[irreducible] def m_mean_of_row : List D → R D := mFn 1 1 b_mean_of_row
theorem mq_mean_of_row : m_mean_of_row = mFn 1 1 b_mean_of_row := by with_unfolding_all rfl
def b_Frac_is_below : Env → R (Fl × Env) := (mRet (mBin (gIB fun i j => decide (i < j)) (mBin (gII cMul (· * ·)) (mUn (gFld [(0, 0)]) (mVar 0)) (mUn (gFld [(0, 1)]) (mVar 1))) (mBin (gII cMul (· * ·)) (mUn (gFld [(0, 0)]) (mVar 1)) (mUn (gFld [(0, 1)]) (mVar 0)))))
@[irreducible] def m_Frac_is_below : List D → R D := mFn 2 2 b_Frac_is_below
theorem mq_Frac_is_below : m_Frac_is_below = mFn 2 2 b_Frac_is_below := by with_unfolding_all rfl
def l_greatest_of_b2 : Env → R (Fl × Env) := (mIfS (mVal (mMeth 0 (fun xs => m_Frac_is_below (xs ++ [])) (mVar 1) (mCons (mVar 2) mNil))) (mSet 1 (mVar 2)) mSkip)
def b_greatest_of : Env → R (Fl × Env) := (mSeq (mSet 1 (mBin gIx (mVar 0) (mCon (.int 0)))) (mSeq (mFor (mItL (mVar 0)) (gtN 2) l_greatest_of_b2) (mRet (mVar 1))))
@[irreducible] def m_greatest_of : List D → R D := mFn 1 3 b_greatest_of
theorem mq_greatest_of : m_greatest_of = mFn 1 3 b_greatest_of := by with_unfolding_all rfl
def l_means_from_e4_33 : Env → R (D × Env) := (mCall m_greatest_of (mCons (mPrim gLst (mCons (mVar 4) (mCons (mVar 3) mNil))) mNil))
def l_means_from_b2 : Env → R (Fl × Env) := (mSeq (mSet 3 (mBinN 1 gIx (mUn (gU fun i => -i) (mCon (.int 1))))) (mApp 1 (mCall m_mean_of_row (mCons (mComp [4] (mItL (mVar 2)) (gtN 4) mYes l_means_from_e4_33) mNil))))
def b_means_from : Env → R (Fl × Env) := (mSeq (mSet 1 (mPrim gLst (mCons (mCall m_mean_of_row (mCons (mBin gIx (mVar 0) (mUn (gU fun i => -i) (mCon (.int 1)))) mNil)) mNil))) (mSeq (mFor (mSeqD List.reverse (mSl (mVar 0) mNoP (mPart (mUn (gU fun i => -i) (mCon (.int 1)))))) (gtN 2) l_means_from_b2) (mRet (mUn gLstRev (mVar 1)))))
@[irreducible] def m_means_from : List D → R D := mFn 1 5 b_means_from
theorem mq_means_from : m_means_from = mFn 1 5 b_means_from := by with_unfolding_all rfl
def l_rank_worths_e3_20 : Env → R (D × Env) := (mMake 0 (fun xs => m_Frac___init__ (xs ++ [])) (mCons (mBin (gII cMul (· * ·)) (mUn (gU fun i => -i) (mVar 3)) (mBin (gI0 (· + ·)) (mVar 0) (mCon (.int 1)))) (mCons (mBin (gI0 (· + ·)) (mVar 2) (mCon (.int 1))) mNil)))
def l_rank_worths_b2 : Env → R (Fl × Env) := (mApp 1 (mComp [3] (mItR2 (mCons (mCon (.int 1)) (mCons (mBin (gI0 (· + ·)) (mVar 2) (mCon (.int 1))) mNil))) (gtN 3) mYes l_rank_worths_e3_20))
def b_rank_worths : Env → R (Fl × Env) := (mSeq (mSet 1 (mPrim gLst mNil)) (mSeq (mFor (mItR2 (mCons (mCon (.int 1)) (mCons (mBin (gI0 (· + ·)) (mVar 0) (mCon (.int 1))) mNil))) (gtN 2) l_rank_worths_b2) (mRet (mVar 1))))
@[irreducible] def m_rank_worths : List D → R D := mFn 1 4 b_rank_worths
theorem mq_rank_worths : m_rank_worths = mFn 1 4 b_rank_worths := by with_unfolding_all rfl
def b_least_mean_rank : Env → R (Fl × Env) := (mSeq (mDrop (mCall m_check_number (mCons (mVar 0) mNil))) (mRet (mBinO 0 m_Frac___sub__ (mMake 0 (fun xs => m_Frac___init__ (xs ++ [.int 1])) (mCons (mCon (.int 0)) mNil)) (mBin gIx (mCall m_means_from (mCons (mCall m_rank_worths (mCons (mVar 0) mNil)) mNil)) (mCon (.int 0))))))
@[irreducible] def m_least_mean_rank : List D → R D := mFn 1 1 b_least_mean_rank
theorem mq_least_mean_rank : m_least_mean_rank = mFn 1 1 b_least_mean_rank := by with_unfolding_all rfl
def l_rule_of_b5 : Env → R (Fl × Env) := (mAug 5 (gI0 (· - ·)) (mCon (.int 1)))
def l_rule_of_t5 : Env → R (Bool × Env) := (mAnd (mVal (mBin (gIB fun i j => decide (j < i)) (mVar 5) (mCon (.int 0)))) (mVal (mMeth 0 (fun xs => m_Frac_is_below (xs ++ [])) (mBin gIx (mVar 3) (mBin (gI0 (· - ·)) (mVar 5) (mCon (.int 1)))) (mCons (mVar 4) mNil))))
def l_rule_of_b3 : Env → R (Fl × Env) := (mSeq (mSet 5 (mPrim (gOne gLen) (mCons (mVar 3) mNil))) (mSeq (mWhile 100 l_rule_of_t5 l_rule_of_b5) (mApp 2 (mVar 5))))
def b_rule_of : Env → R (Fl × Env) := (mSeq (mSet 1 (mCall m_means_from (mCons (mVar 0) mNil))) (mSeq (mSet 2 (mPrim gLst mNil)) (mSeq (mFor (mZip (mCons (mSl (mVar 0) mNoP (mPart (mUn (gU fun i => -i) (mCon (.int 1))))) (mCons (mSl (mVar 1) (mPart (mCon (.int 1))) mNoP) mNil))) (gtT 2 (gtCons (gtN 3) (gtCons (gtN 4) gtNil))) l_rule_of_b3) (mSeq (mApp 2 (mPrim (gOne gLen) (mCons (mVar 0) mNil))) (mRet (mUnN 2 gTupOf))))))
@[irreducible] def m_rule_of : List D → R D := mFn 1 6 b_rule_of
theorem mq_rule_of : m_rule_of = mFn 1 6 b_rule_of := by with_unfolding_all rfl
def b_mean_rank_rule : Env → R (Fl × Env) := (mSeq (mDrop (mCall m_check_number (mCons (mVar 0) mNil))) (mRet (mCall m_rule_of (mCons (mCall m_rank_worths (mCons (mVar 0) mNil)) mNil))))
@[irreducible] def m_mean_rank_rule : List D → R D := mFn 1 1 b_mean_rank_rule
theorem mq_mean_rank_rule : m_mean_rank_rule = mFn 1 1 b_mean_rank_rule := by with_unfolding_all rfl
def b_check_top : Env → R (Fl × Env) := (mSeq (mDrop (mCall m_check_number (mCons (mVar 0) mNil))) (mIfS (mNot (mVal (mCall m_is_between (mCons (mVar 1) (mCons (mCon (.int 1)) (mCons (mVar 0) mNil)))))) (mRaise 1 1 (mCons (mCon (.str "many")) mNil)) mSkip))
@[irreducible] def m_check_top : List D → R D := mFn 2 2 b_check_top
theorem mq_check_top : m_check_top = mFn 2 2 b_check_top := by with_unfolding_all rfl
def b_rank_weight : Env → R (Fl × Env) := (mRet (mBin (gII cMul (· * ·)) (mPrim (gTwo (gII cComb combI)) (mCons (mBin (gI0 (· - ·)) (mVar 3) (mCon (.int 1))) (mCons (mBin (gI0 (· - ·)) (mVar 2) (mCon (.int 1))) mNil))) (mPrim (gTwo (gII cComb combI)) (mCons (mBin (gI0 (· - ·)) (mVar 0) (mVar 3)) (mCons (mBin (gI0 (· - ·)) (mVar 1) (mVar 2)) mNil)))))
@[irreducible] def m_rank_weight : List D → R D := mFn 4 4 b_rank_weight
theorem mq_rank_weight : m_rank_weight = mFn 4 4 b_rank_weight := by with_unfolding_all rfl
def l_top_worths_e5_23 : Env → R (D × Env) := (mCall m_rank_weight (mCons (mVar 0) (mCons (mVar 3) (mCons (mVar 5) (mCons (mVar 7) mNil)))))
def l_top_worths_b4 : Env → R (Fl × Env) := (mSeq (mSet 6 (mPrim (gOne gSum) (mCons (mComp [7] (mItR2 (mCons (mVar 5) (mCons (mBin (gI0 (· + ·)) (mVar 1) (mCon (.int 1))) mNil))) (gtN 7) mYes l_top_worths_e5_23) mNil))) (mApp 4 (mMake 0 (fun xs => m_Frac___init__ (xs ++ [])) (mCons (mVar 6) (mCons (mPrim (gTwo (gII cComb combI)) (mCons (mVar 0) (mCons (mVar 3) mNil))) mNil)))))
def l_top_worths_b2 : Env → R (Fl × Env) := (mSeq (mSet 4 (mPrim gLst mNil)) (mSeq (mFor (mItR2 (mCons (mCon (.int 1)) (mCons (mBin (gI0 (· + ·)) (mVar 3) (mCon (.int 1))) mNil))) (gtN 5) l_top_worths_b4) (mApp 2 (mVar 4))))
def b_top_worths : Env → R (Fl × Env) := (mSeq (mSet 2 (mPrim gLst mNil)) (mSeq (mFor (mItR2 (mCons (mCon (.int 1)) (mCons (mBin (gI0 (· + ·)) (mVar 0) (mCon (.int 1))) mNil))) (gtN 3) l_top_worths_b2) (mRet (mVar 2))))
@[irreducible] def m_top_worths : List D → R D := mFn 2 8 b_top_worths
theorem mq_top_worths : m_top_worths = mFn 2 8 b_top_worths := by with_unfolding_all rfl
def b_top_chance : Env → R (Fl × Env) := (mSeq (mDrop (mCall m_check_top (mCons (mVar 0) (mCons (mVar 1) mNil)))) (mRet (mBin gIx (mCall m_means_from (mCons (mCall m_top_worths (mCons (mVar 0) (mCons (mVar 1) mNil))) mNil)) (mCon (.int 0)))))
@[irreducible] def m_top_chance : List D → R D := mFn 2 2 b_top_chance
theorem mq_top_chance : m_top_chance = mFn 2 2 b_top_chance := by with_unfolding_all rfl
def b_top_rule : Env → R (Fl × Env) := (mSeq (mDrop (mCall m_check_top (mCons (mVar 0) (mCons (mVar 1) mNil)))) (mRet (mCall m_rule_of (mCons (mCall m_top_worths (mCons (mVar 0) (mCons (mVar 1) mNil))) mNil))))
@[irreducible] def m_top_rule : List D → R D := mFn 2 2 b_top_rule
theorem mq_top_rule : m_top_rule = mFn 2 2 b_top_rule := by with_unfolding_all rfl
def b_is_sequence : Env → R (Fl × Env) := (mRet (mUn (gIsi [0] [.list, .tuple]) (mVar 0)))
@[irreducible] def m_is_sequence : List D → R D := mFn 1 1 b_is_sequence
theorem mq_is_sequence : m_is_sequence = mFn 1 1 b_is_sequence := by with_unfolding_all rfl
def l_limits_of_e3_15 : Env → R (D × Env) := (mAndV (mCall m_is_integer (mCons (mVar 3) mNil)) (mBin (gIB fun i j => decide (j ≤ i)) (mVar 3) (mCon (.int 0))))
def l_limits_of_e5_13 : Env → R (D × Env) := (mPrim (gTwo (gI0 fun i j => if j < i then j else i)) (mCons (mVar 3) (mCons (mBin (gI0 (· + ·)) (mVar 4) (mCon (.int 1))) mNil)))
def b_limits_of : Env → R (Fl × Env) := (mSeq (mIfS (mOr (mNot (mVal (mCall m_is_sequence (mCons (mVar 1) mNil)))) (mVal (mBin (gNe) (mPrim (gOne gLen) (mCons (mVar 1) mNil)) (mVar 0)))) (fun _ => .bad) mSkip) (mSeq (mIfS (mNot (mVal (mPrim (gOne gAll) (mCons (mComp [3] (mSeqD id (mVar 1)) (gtN 3) mYes l_limits_of_e3_15) mNil)))) (fun _ => .bad) mSkip) (mSeq (mSet 2 (mComp [4, 3] (mSeqD (enumD 0) (mVar 1)) (gtT 2 (gtCons (gtN 4) (gtCons (gtN 3) gtNil))) mYes l_limits_of_e5_13)) (mRet (mBin gCat (mSl (mVar 2) mNoP (mPart (mUn (gU fun i => -i) (mCon (.int 1))))) (mPrim gLst (mCons (mVar 0) mNil)))))))
@[irreducible] def m_limits_of : List D → R D := mFn 2 5 b_limits_of
theorem mq_limits_of : m_limits_of = mFn 2 5 b_limits_of := by with_unfolding_all rfl
def l_followed_e2_14 : Env → R (D × Env) := (mMake 0 (fun xs => m_Frac___init__ (xs ++ [.int 1])) (mCons (mCon (.int 0)) mNil))
def l_followed_e8_23 : Env → R (D × Env) := (mCall m_rank_weight (mCons (mVar 0) (mCons (mVar 6) (mCons (mVar 11) (mCons (mVar 8) mNil)))))
def l_followed_b7 : Env → R (Fl × Env) := (mSeq (mSet 9 (mPrim (gOne gSum) (mCons (mComp [11] (mItR2 (mCons (mCon (.int 1)) (mCons (mBin (gI0 (· + ·)) (mVar 5) (mCon (.int 1))) mNil))) (gtN 11) mYes l_followed_e8_23) mNil))) (mSetIx 2 (mBinO 0 m_Frac___add__ (mBinN 2 gIx (mBin (gI0 (· - ·)) (mVar 8) (mCon (.int 1)))) (mBinO 0 m_Frac___mul__ (mVar 7) (mMake 0 (fun xs => m_Frac___init__ (xs ++ [.int 1])) (mCons (mVar 9) mNil)))) (mBin (gI0 (· - ·)) (mVar 8) (mCon (.int 1)))))
def l_followed_b4 : Env → R (Fl × Env) := (mSeq (mSet 6 (mBin (gI0 (· + ·)) (mVar 4) (mCon (.int 1)))) (mSeq (mSet 7 (mBinO 0 m_Frac___mul__ (mVar 3) (mMake 0 (fun xs => m_Frac___init__ (xs ++ [])) (mCons (mCon (.int 1)) (mCons (mBin (gII cMul (· * ·)) (mVar 6) (mPrim (gTwo (gII cComb combI)) (mCons (mVar 0) (mCons (mVar 6) mNil)))) mNil))))) (mSeq (mFor (mItR2 (mCons (mCon (.int 1)) (mCons (mBin (gI0 (· + ·)) (mVar 0) (mCon (.int 1))) mNil))) (gtN 8) l_followed_b7) (mSet 3 (mBinO 0 m_Frac___mul__ (mVar 3) (mMake 0 (fun xs => m_Frac___init__ (xs ++ [])) (mCons (mBin (gI0 (· - ·)) (mVar 6) (mVar 5)) (mCons (mVar 6) mNil))))))))
def b_followed : Env → R (Fl × Env) := (mSeq (mDrop (mCall m_check_number (mCons (mVar 0) mNil))) (mSeq (mSet 2 (mComp [10] (mItR1 (mCons (mVar 0) mNil)) (gtN 10) mYes l_followed_e2_14)) (mSeq (mSet 3 (mMake 0 (fun xs => m_Frac___init__ (xs ++ [.int 1])) (mCons (mCon (.int 1)) mNil))) (mSeq (mFor (mSeqD (enumD 0) (mCall m_limits_of (mCons (mVar 0) (mCons (mVar 1) mNil)))) (gtT 2 (gtCons (gtN 4) (gtCons (gtN 5) gtNil))) l_followed_b4) (mRet (mUnN 2 gTupOf))))))
@[irreducible] def m_followed : List D → R D := mFn 2 12 b_followed
theorem mq_followed : m_followed = mFn 2 12 b_followed := by with_unfolding_all rfl
def l__law_taken_e2_12 : Env → R (D × Env) := (mCon (.int 0))
def l__law_taken_e9_20 : Env → R (D × Env) := (mBin (gI0 (· + ·)) (mBin gIx (mVar 3) (mVar 8)) (mBin (gII cMul (· * ·)) (mVar 4) (mBin gIx (mVar 7) (mVar 8))))
def l__law_taken_b8 : Env → R (Fl × Env) := (mSet 3 (mComp [8] (mItR1 (mCons (mVar 2) mNil)) (gtN 8) mYes l__law_taken_e9_20))
def l__law_taken_b4 : Env → R (Fl × Env) := (mSeq (mSet 6 (mBin gIx (mVar 1) (mVar 5))) (mSeq (mIfS (mOr (mVal (mBin (gIB fun i j => decide (j < i)) (mVar 6) (mBin (gI0 (· + ·)) (mVar 5) (mCon (.int 1))))) (mVal (mBin (gEq) (mVar 5) (mBin (gI0 (· - ·)) (mVar 2) (mCon (.int 1)))))) (mSet 6 (mBin (gI0 (· + ·)) (mVar 5) (mCon (.int 1)))) mSkip) (mSeq (mFor (mItL (mSl (mBin gIx (mVar 0) (mVar 5)) mNoP (mPart (mVar 6)))) (gtN 7) l__law_taken_b8) (mSet 4 (mBin (gII cMul (· * ·)) (mVar 4) (mBin (gI0 (· - ·)) (mBin (gI0 (· + ·)) (mVar 5) (mCon (.int 1))) (mVar 6)))))))
def b__law_taken : Env → R (Fl × Env) := (mSeq (mSet 2 (mPrim (gOne gLen) (mCons (mVar 0) mNil))) (mSeq (mSet 3 (mComp [8] (mItR1 (mCons (mVar 2) mNil)) (gtN 8) mYes l__law_taken_e2_12)) (mSeq (mSet 4 (mCon (.int 1))) (mSeq (mFor (mItR1 (mCons (mVar 2) mNil)) (gtN 5) l__law_taken_b4) (mRet (mVar 3))))))
@[irreducible] def m__law_taken : List D → R D := mFn 2 9 b__law_taken
theorem mq__law_taken : m__law_taken = mFn 2 9 b__law_taken := by with_unfolding_all rfl
def l__law_chances_e1_17 : Env → R (D × Env) := (mPrim gLst (mCons (mVar 3) (mCons (mVar 2) mNil)))
def b__law_chances : Env → R (Fl × Env) := (mRet (mPrim (gOne gTupOf) (mCons (mComp [3] (mItL (mCall m__law_taken (mCons (mVar 0) (mCons (mVar 1) mNil)))) (gtN 3) mYes l__law_chances_e1_17) mNil)))
@[irreducible] def m__law_chances : List D → R D := mFn 3 4 b__law_chances
theorem mq__law_chances : m__law_chances = mFn 3 4 b__law_chances := by with_unfolding_all rfl
def b__law_goal_holds : Env → R (Fl × Env) := (mSeq (mSet 4 (mCall m__law_backward (mCons (mVar 2) (mCons (mVar 1) mNil)))) (mSeq (mIfS (mVal (mBin (gEq) (mVar 1) (mCon (.int 0)))) (mIfS (mOr (mNot (mVal (mCall (m__law_like 3) (mCons (mCall m_least_mean_rank (mCons (mVar 0) mNil)) (mCons (mPrim gLst (mCons (mUn (gU fun i => -i) (mBin gIx (mVar 4) (mCon (.int 0)))) (mCons (mVar 3) mNil))) mNil))))) (mNot (mVal (mCall (m__law_like 3) (mCons (mCall m_mean_rank_rule (mCons (mVar 0) mNil)) (mCons (mBin gIx (mVar 4) (mCon (.int 1))) mNil)))))) (mRet (mCon (.bl false))) mSkip) (mIfS (mOr (mNot (mVal (mCall (m__law_like 3) (mCons (mCall m_top_chance (mCons (mVar 0) (mCons (mVar 1) mNil))) (mCons (mPrim gLst (mCons (mBin gIx (mVar 4) (mCon (.int 0))) (mCons (mVar 3) mNil))) mNil))))) (mNot (mVal (mCall (m__law_like 3) (mCons (mCall m_top_rule (mCons (mVar 0) (mCons (mVar 1) mNil))) (mCons (mBin gIx (mVar 4) (mCon (.int 1))) mNil)))))) (mRet (mCon (.bl false))) mSkip)) (mRet (mCall (m__law_like 3) (mCons (mCall m_followed (mCons (mVar 0) (mCons (mBin gIx (mVar 4) (mCon (.int 1))) mNil))) (mCons (mCall m__law_chances (mCons (mVar 2) (mCons (mBin gIx (mVar 4) (mCon (.int 1))) (mCons (mVar 3) mNil)))) mNil))))))
@[irreducible] def m__law_goal_holds : List D → R D := mFn 4 5 b__law_goal_holds
theorem mq__law_goal_holds : m__law_goal_holds = mFn 4 5 b__law_goal_holds := by with_unfolding_all rfl
def l_chance_behind_e3_30 : Env → R (D × Env) := (mMake 0 (fun xs => m_Frac___init__ (xs ++ [])) (mCons (mCon (.int 1)) (mCons (mVar 2) mNil)))
def b_chance_behind : Env → R (Fl × Env) := (mSeq (mIfS (mVal (mBin (gEq) (mVar 1) (mCon (.int 0)))) (mRet (mMake 0 (fun xs => m_Frac___init__ (xs ++ [])) (mCons (mCon (.int 1)) (mCons (mVar 0) mNil)))) mSkip) (mRet (mBinO 0 m_Frac___mul__ (mMake 0 (fun xs => m_Frac___init__ (xs ++ [])) (mCons (mVar 1) (mCons (mVar 0) mNil))) (mCall m_total (mCons (mComp [2] (mItR2 (mCons (mVar 1) (mCons (mVar 0) mNil))) (gtN 2) mYes l_chance_behind_e3_30) mNil)))))
@[irreducible] def m_chance_behind : List D → R D := mFn 2 3 b_chance_behind
theorem mq_chance_behind : m_chance_behind = mFn 2 3 b_chance_behind := by with_unfolding_all rfl
def b_pass_chance : Env → R (Fl × Env) := (mSeq (mDrop (mCall m_check_number (mCons (mVar 0) mNil))) (mSeq (mIfS (mNot (mVal (mCall m_is_between (mCons (mVar 1) (mCons (mCon (.int 0)) (mCons (mBin (gI0 (· - ·)) (mVar 0) (mCon (.int 1))) mNil)))))) (fun _ => .bad) mSkip) (mRet (mCall m_chance_behind (mCons (mVar 0) (mCons (mVar 1) mNil))))))
@[irreducible] def m_pass_chance : List D → R D := mFn 2 2 b_pass_chance
theorem mq_pass_chance : m_pass_chance = mFn 2 2 b_pass_chance := by with_unfolding_all rfl
def l__law_copy_e2_15 (rec : List D → R D) : Env → R (D × Env) := (mCall rec (mCons (mVar 1) mNil))
def l__law_copy_e4_21 (rec : List D → R D) : Env → R (D × Env) := (mCall rec (mCons (mVar 1) mNil))
def b__law_copy (rec : List D → R D) : Env → R (Fl × Env) := (mSeq (mIfS (mVal (mUn (gIsi [0] [.list]) (mVar 0))) (mRet (mComp [1] (mSeqD id (mVar 0)) (gtN 1) mYes (l__law_copy_e2_15 rec))) mSkip) (mSeq (mIfS (mVal (mUn (gIsi [0] [.tuple]) (mVar 0))) (mRet (mPrim (gOne gTupOf) (mCons (mComp [1] (mSeqD id (mVar 0)) (gtN 1) mYes (l__law_copy_e4_21 rec)) mNil))) mSkip) (mRet (mVar 0))))
def m__law_copy : Nat → List D → R D
  | 0 => fun _ => .bad
  | j + 1 => mFn 1 2 (b__law_copy (m__law_copy j))
def l__law_kept_e6_46 (rec : List D → R D) : Env → R (D × Env) := (mCall rec (mCons (mBin gIx (mVar 0) (mVar 2)) (mCons (mBin gIx (mVar 1) (mVar 2)) mNil)))
def b__law_kept (rec : List D → R D) : Env → R (Fl × Env) := (mSeq (mIfS (mVal (mUn (gIsi [0] [.list, .tuple]) (mVar 1))) (mSeq (mIfS (mAnd (mVal (mUn (gIsi [0] [.list]) (mVar 1))) (mNot (mVal (mUn (gIsi [0] [.list]) (mVar 0))))) (mRet (mCon (.bl false))) mSkip) (mSeq (mIfS (mAnd (mVal (mUn (gIsi [0] [.tuple]) (mVar 1))) (mNot (mVal (mUn (gIsi [0] [.tuple]) (mVar 0))))) (mRet (mCon (.bl false))) mSkip) (mRet (mAndV (mBin (gEq) (mPrim (gOne gLen) (mCons (mVar 0) mNil)) (mPrim (gOne gLen) (mCons (mVar 1) mNil))) (mPrim (gOne gAll) (mCons (mComp [2] (mItR1 (mCons (mPrim (gOne gLen) (mCons (mVar 1) mNil)) mNil)) (gtN 2) mYes (l__law_kept_e6_46 rec)) mNil)))))) mSkip) (mSeq (mIfS (mVal (mUn (gIsi [0] [(.own 0)]) (mVar 1))) (mRet (mCall m__law_frac (mCons (mVar 0) (mCons (mUn (gFld [(0, 0)]) (mVar 1)) (mCons (mUn (gFld [(0, 1)]) (mVar 1)) mNil))))) mSkip) (mRet (mCall (m__law_like 3) (mCons (mVar 0) (mCons (mVar 1) mNil))))))
def m__law_kept : Nat → List D → R D
  | 0 => fun _ => .bad
  | j + 1 => mFn 2 3 (b__law_kept (m__law_kept j))
def lh__law_kept_e6_46 (rec : List D → R D) : Env → R (D × Env) := (mCall rec (mCons (mBin gIx (mVar 0) (mVar 2)) (mCons (mBin gIx (mVar 1) (mVar 2)) mNil)))
def bh__law_kept (rec : List D → R D) : Env → R (Fl × Env) := (mSeq (mIfS (mVal (mUn (gIsi [0] [.list, .tuple]) (mVar 1))) (mSeq (mIfS (mAnd (mVal (mUn (gIsi [0] [.list]) (mVar 1))) (mNot (mVal (mUn (gIsi [0] [.list]) (mVar 0))))) (mRet (mCon (.bl false))) mSkip) (mSeq (mIfS (mAnd (mVal (mUn (gIsi [0] [.tuple]) (mVar 1))) (mNot (mVal (mUn (gIsi [0] [.tuple]) (mVar 0))))) (mRet (mCon (.bl false))) mSkip) (mRet (mAndV (mBin (gEq) (mPrim (gOne gLen) (mCons (mVar 0) mNil)) (mPrim (gOne gLen) (mCons (mVar 1) mNil))) (mPrim (gOne gAll) (mCons (mComp [2] (mItR1 (mCons (mPrim (gOne gLen) (mCons (mVar 1) mNil)) mNil)) (gtN 2) mYes (lh__law_kept_e6_46 rec)) mNil)))))) mSkip) (mSeq (mIfS (mVal (mUn (gIsi [0] [(.own 0)]) (mVar 1))) (mRet (mCall h__law_frac (mCons (mVar 0) (mCons (mUn (gFld [(0, 0)]) (mVar 1)) (mCons (mUn (gFld [(0, 1)]) (mVar 1)) mNil))))) mSkip) (mRet (mCall (h__law_like 3) (mCons (mVar 0) (mCons (mVar 1) mNil))))))
def h__law_kept : Nat → List D → R D
  | 0 => fun _ => .bad
  | j + 1 => mFn 2 3 (bh__law_kept (h__law_kept j))
def b__law_size_refused : Env → R (Fl × Env) := (mSeq (mSet 3 (mCall (m__law_copy 3) (mCons (mVar 1) mNil))) (mSeq (mTryAs [(1, false), (2, true)] [true, true, true, true, false] 4 (mIfS (mVal (mBin (gEq) (mVar 0) (mCon (.int 0)))) (mDrop (mCall m_top_chance (mCons (mVar 1) (mCons (mVar 2) mNil)))) (mIfS (mVal (mBin (gEq) (mVar 0) (mCon (.int 1)))) (mDrop (mCall m_top_rule (mCons (mVar 1) (mCons (mVar 2) mNil)))) (mIfS (mVal (mBin (gEq) (mVar 0) (mCon (.int 2)))) (mDrop (mCall m_least_mean_rank (mCons (mVar 1) mNil))) (mDrop (mCall m_mean_rank_rule (mCons (mVar 1) mNil)))))) (mRet (mAndV (mCall (h__law_kept 3) (mCons (mFldX 4 [(2, 0)]) (mCons (mVar 3) mNil))) (mUn gNot (mIsX 4 [(2, false)]))))) (mRet (mCon (.bl false)))))
@[irreducible] def m__law_size_refused : List D → R D := mFn 3 5 b__law_size_refused
theorem mq__law_size_refused : m__law_size_refused = mFn 3 5 b__law_size_refused := by with_unfolding_all rfl
def b__law_many_refused : Env → R (Fl × Env) := (mSeq (mTryAs [(1, true), (2, false)] [true, true, true, false] 3 (mIfS (mVal (mBin (gEq) (mVar 0) (mCon (.int 0)))) (mDrop (mCallKM m_top_chance 1 1 [0] (mCons (mVar 1) mNil) (mCons (mVar 2) mNil))) (mDrop (mCallKM m_top_rule 1 1 [0] (mCons (mVar 1) mNil) (mCons (mVar 2) mNil)))) (mRet (mAndV (mCall (h__law_like 3) (mCons (mFldX 3 [(1, 0)]) (mCons (mCon (.str "many")) mNil))) (mUn gNot (mIsX 3 [(1, false)]))))) (mRet (mCon (.bl false))))
@[irreducible] def m__law_many_refused : List D → R D := mFn 3 4 b__law_many_refused
theorem mq__law_many_refused : m__law_many_refused = mFn 3 4 b__law_many_refused := by with_unfolding_all rfl
def l__law_asked_b8 : Env → R (Fl × Env) := (mIfS (mNot (mVal (mCall m__law_goal_holds (mCons (mVar 2) (mCons (mVar 6) (mCons (mVar 3) (mCons (mVar 4) mNil))))))) (mRet (mCon (.bl false))) mSkip)
def l__law_asked_b12 : Env → R (Fl × Env) := (mApp 7 (mBin (gII cMul (· * ·)) (mCallB 1 m__law_pick (mCons (mBin (gI0 (· + ·)) (mVar 8) (mCon (.int 3))) mNil)) (mCallB 1 m__law_pick (mCons (mCon (.int 2)) mNil))))
def l__law_asked_b23 : Env → R (Fl × Env) := (mIfS (mNot (mVal (mCall m__law_size_refused (mCons (mVar 13) (mCons (mVar 12) (mCons (mCon .non) mNil)))))) (mRet (mCon (.bl false))) mSkip)
def l__law_asked_b27 : Env → R (Fl × Env) := (mIfS (mNot (mVal (mCall m__law_many_refused (mCons (mVar 13) (mCons (mVar 2) (mCons (mVar 14) mNil)))))) (mRet (mCon (.bl false))) mSkip)
def b__law_asked : Env → R (Fl × Env) := (mSeq (mSet 1 (mPrim gLst (mCons (mPrim (gOne gListOf) (mCons (mVar 0) mNil)) (mCons (mCon (.int 0)) (mCons (mCon (.int 0)) (mCons (mCon (.int 0)) mNil)))))) (mSeq (mSet 2 (mBin (gI0 (· + ·)) (mCon (.int 1)) (mCallB 1 m__law_pick (mCons (mCon (.int 10)) mNil)))) (mSeq (mIfS (mVal (mBin (gEq) (mCallB 1 m__law_pick (mCons (mCon (.int 5)) mNil)) (mCon (.int 0)))) (mSet 2 (mCon (.int 10))) mSkip) (mSeq (mSet 3 (mCall m__law_table (mCons (mVar 2) mNil))) (mSeq (mSet 4 (mCall m__law_factorial (mCons (mVar 2) mNil))) (mSeq (mSet 5 (mPrim gLst (mCons (mCon (.int 0)) (mCons (mBin (gI0 (· + ·)) (mCon (.int 1)) (mCallB 1 m__law_pick (mCons (mVar 2) mNil))) (mCons (mBin (gI0 (· + ·)) (mCon (.int 1)) (mBin (gII cDiv Int.fdiv) (mBin (gII cMul (· * ·)) (mCallB 1 m__law_pick (mCons (mCon (.int 3)) mNil)) (mBin (gI0 (· - ·)) (mVar 2) (mCon (.int 1)))) (mCon (.int 2)))) mNil))))) (mSeq (mFor (mItL (mVar 5)) (gtN 6) l__law_asked_b8) (mSeq (mSet 7 (mPrim gLst mNil)) (mSeq (mFor (mItR1 (mCons (mVar 2) mNil)) (gtN 8) l__law_asked_b12) (mSeq (mSetIx 7 (mBin (gII cMul (· * ·)) (mBin (gII cPow fun i j => i ^ j.toNat) (mCon (.int 10)) (mCon (.int 20))) (mCallB 1 m__law_pick (mCons (mCon (.int 2)) mNil))) (mCallB 1 m__law_pick (mCons (mVar 2) mNil))) (mSeq (mIfS (mNot (mVal (mCall (m__law_like 3) (mCons (mCall m_followed (mCons (mVar 2) (mCons (mVar 7) mNil))) (mCons (mCall m__law_chances (mCons (mVar 3) (mCons (mVar 7) (mCons (mVar 4) mNil)))) mNil))))) (mRet (mCon (.bl false))) mSkip) (mSeq (mSet 9 (mCallB 1 m__law_pick (mCons (mVar 2) mNil))) (mSeq (mSet 10 (mCall m__law_taken (mCons (mVar 3) (mCons (mBin gCat (mBin gRep (mPrim gLst (mCons (mCon (.int 0)) mNil)) (mVar 9)) (mBin gRep (mPrim gLst (mCons (mCon (.int 1)) mNil)) (mBin (gI0 (· - ·)) (mVar 2) (mVar 9)))) mNil)))) (mSeq (mIfS (mNot (mVal (mCall (m__law_like 3) (mCons (mCall m_pass_chance (mCons (mVar 2) (mCons (mVar 9) mNil))) (mCons (mPrim gLst (mCons (mBin gIx (mVar 10) (mCon (.int 0))) (mCons (mVar 4) mNil))) mNil))))) (mRet (mCon (.bl false))) mSkip) (mSeq (mSet 11 (mPrim gLst (mCons (mCon (.int 0)) (mCons (mUn (gU fun i => -i) (mCon (.int 1))) (mCons (mCon (.int 61)) (mCons (mCon (.bl true)) (mCons (mCon (.bl false)) (mCons (mCon .non) (mCons (mCon (.str "10")) (mCons (mPrim gTup (mCons (mCon (.int 2)) mNil)) (mCons (mPrim gLst (mCons (mCon (.int 1)) (mCons (mCon (.int 2)) mNil))) (mCons (mBin (gI0 (· + ·)) (mCon (.int 61)) (mCallB 1 m__law_pick (mCons (mBin (gII cPow fun i j => i ^ j.toNat) (mCon (.int 10)) (mCon (.int 6))) mNil))) mNil)))))))))))) (mSeq (mSet 12 (mBin gIx (mVar 11) (mCallB 1 m__law_pick (mCons (mCon (.int 10)) mNil)))) (mSeq (mFor (mItR1 (mCons (mCon (.int 4)) mNil)) (gtN 13) l__law_asked_b23) (mSeq (mSet 14 (mBin gIx (mPrim gLst (mCons (mCon (.int 0)) (mCons (mBin (gI0 (· + ·)) (mVar 2) (mCon (.int 1))) (mCons (mUn (gU fun i => -i) (mCon (.int 1))) (mCons (mCon (.bl true)) (mCons (mCon .non) (mCons (mCon (.str "1")) (mCons (mPrim gTup (mCons (mCon (.int 1)) mNil)) (mCons (mBin (gI0 (· + ·)) (mBin (gI0 (· + ·)) (mVar 2) (mCon (.int 1))) (mCallB 1 m__law_pick (mCons (mCon (.int 50)) mNil))) mNil))))))))) (mCallB 1 m__law_pick (mCons (mCon (.int 8)) mNil)))) (mSeq (mFor (mItR1 (mCons (mCon (.int 2)) mNil)) (gtN 13) l__law_asked_b27) (mRet (mAndV (mCall m__law_goal_holds (mCons (mVar 2) (mCons (mBin gIx (mVar 5) (mCon (.int 1))) (mCons (mVar 3) (mCons (mVar 4) mNil))))) (mCall m__law_goal_holds (mCons (mVar 2) (mCons (mCon (.int 0)) (mCons (mVar 3) (mCons (mVar 4) mNil))))))))))))))))))))))))))
@[irreducible] def m__law_asked : List D → R D := mFn 1 15 b__law_asked
theorem mq__law_asked : m__law_asked = mFn 1 15 b__law_asked := by with_unfolding_all rfl
def b_law : Env → R (Fl × Env) := (mTry (mRet (mCall m__law_asked (mCons (mVar 0) mNil))))
@[irreducible] def m_law : List D → R D := mFn 1 1 b_law
theorem mq_law : m_law = mFn 1 1 b_law := by with_unfolding_all rfl
structure Txt (K : PySem.W.Frag) (mg : Str → Option Value) (a : Ad) : Prop where
  fn__law_pick : FunD K "_law_pick" "_law_pick" (defArgs s__law_pick) (defBody s__law_pick) (defScope s__law_pick) [] [] a.f__law_pick a.d__law_pick
  g__law_pick : Gf K mg "_law_pick" a.f__law_pick a.d__law_pick ["feed", "many"]
  fn__law_ways : FunD K "_law_ways" "_law_ways" (defArgs s__law_ways) (defBody s__law_ways) (defScope s__law_ways) [] [] a.f__law_ways a.d__law_ways
  g__law_ways : Gf K mg "_law_ways" a.f__law_ways a.d__law_ways ["many", "place", "rank"]
  fn__law_table : FunD K "_law_table" "_law_table" (defArgs s__law_table) (defBody s__law_table) (defScope s__law_table) [] [] a.f__law_table a.d__law_table
  g__law_table : Gf K mg "_law_table" a.f__law_table a.d__law_table ["many"]
  fn__law_factorial : FunD K "_law_factorial" "_law_factorial" (defArgs s__law_factorial) (defBody s__law_factorial) (defScope s__law_factorial) [] [] a.f__law_factorial a.d__law_factorial
  g__law_factorial : Gf K mg "_law_factorial" a.f__law_factorial a.d__law_factorial ["many"]
  fn__law_score : FunD K "_law_score" "_law_score" (defArgs s__law_score) (defBody s__law_score) (defScope s__law_score) [] [] a.f__law_score a.d__law_score
  g__law_score : Gf K mg "_law_score" a.f__law_score a.d__law_score ["counts", "goal"]
  fn__law_more : FunD K "_law_more" "_law_more" (defArgs s__law_more) (defBody s__law_more) (defScope s__law_more) [] [] a.f__law_more a.d__law_more
  g__law_more : Gf K mg "_law_more" a.f__law_more a.d__law_more ["one", "two"]
  fn__law_backward : FunD K "_law_backward" "_law_backward" (defArgs s__law_backward) (defBody s__law_backward) (defScope s__law_backward) [] [] a.f__law_backward a.d__law_backward
  g__law_backward : Gf K mg "_law_backward" a.f__law_backward a.d__law_backward ["table", "goal"]
  fn__law_plain : FunD K "_law_plain" "_law_plain" (defArgs s__law_plain) (defBody s__law_plain) (defScope s__law_plain) [] [] a.f__law_plain a.d__law_plain
  g__law_plain : Gf K mg "_law_plain" a.f__law_plain a.d__law_plain ["found"]
  fn__law_cut : FunD K "_law_cut" "_law_cut" (defArgs s__law_cut) (defBody s__law_cut) (defScope s__law_cut) [] [] a.f__law_cut a.d__law_cut
  g__law_cut : Gf K mg "_law_cut" a.f__law_cut a.d__law_cut ["num", "den"]
  fn__law_frac : FunD K "_law_frac" "_law_frac" (defArgs s__law_frac) (defBody s__law_frac) (defScope s__law_frac) [] [] a.f__law_frac a.d__law_frac
  g__law_frac : Gf K mg "_law_frac" a.f__law_frac a.d__law_frac ["found", "num", "den"]
  fn__law_like : FunD K "_law_like" "_law_like" (defArgs s__law_like) (defBody s__law_like) (defScope s__law_like) [] [] a.f__law_like a.d__law_like
  g__law_like : Gf K mg "_law_like" a.f__law_like a.d__law_like ["found", "due"]
  fn_is_integer : FunD K "is_integer" "is_integer" (defArgs s_is_integer) (defBody s_is_integer) (defScope s_is_integer) [] [] a.f_is_integer a.d_is_integer
  g_is_integer : Gf K mg "is_integer" a.f_is_integer a.d_is_integer ["value"]
  fn_is_between : FunD K "is_between" "is_between" (defArgs s_is_between) (defBody s_is_between) (defScope s_is_between) [] [] a.f_is_between a.d_is_between
  g_is_between : Gf K mg "is_between" a.f_is_between a.d_is_between ["value", "least", "most"]
  fn_WrongSize___init__ : FunD K "__init__" "WrongSize.__init__" (defArgs s_WrongSize___init__) (defBody s_WrongSize___init__) (defScope s_WrongSize___init__) [] [] a.f_WrongSize___init__ a.d_WrongSize___init__
  fn_check_number : FunD K "check_number" "check_number" (defArgs s_check_number) (defBody s_check_number) (defScope s_check_number) [] [] a.f_check_number a.d_check_number
  g_check_number : Gf K mg "check_number" a.f_check_number a.d_check_number ["n"]
  fn_Frac___init__ : FunD K "__init__" "Frac.__init__" (defArgs s_Frac___init__) (defBody s_Frac___init__) (defScope s_Frac___init__) [.int 1] [] a.f_Frac___init__ a.d_Frac___init__
  gd_Frac___init___0 : Gd K a.d_Frac___init__ ["self", "num", "den"] []
  gd_Frac___init___1 : Gd K a.d_Frac___init__ ["self", "num", "den"] [.int 1]
  fn_Frac___sub__ : FunD K "__sub__" "Frac.__sub__" (defArgs s_Frac___sub__) (defBody s_Frac___sub__) (defScope s_Frac___sub__) [] [] a.f_Frac___sub__ a.d_Frac___sub__
  op_Frac___sub__ : OpM K a.c_Frac "__sub__" a.f_Frac___sub__ a.d_Frac___sub__ ["self", "other"]
  fn_Frac___mul__ : FunD K "__mul__" "Frac.__mul__" (defArgs s_Frac___mul__) (defBody s_Frac___mul__) (defScope s_Frac___mul__) [] [] a.f_Frac___mul__ a.d_Frac___mul__
  op_Frac___mul__ : OpM K a.c_Frac "__mul__" a.f_Frac___mul__ a.d_Frac___mul__ ["self", "other"]
  fn_Frac___add__ : FunD K "__add__" "Frac.__add__" (defArgs s_Frac___add__) (defBody s_Frac___add__) (defScope s_Frac___add__) [] [] a.f_Frac___add__ a.d_Frac___add__
  op_Frac___add__ : OpM K a.c_Frac "__add__" a.f_Frac___add__ a.d_Frac___add__ ["self", "other"]
  fn_total : FunD K "total" "total" (defArgs s_total) (defBody s_total) (defScope s_total) [] [] a.f_total a.d_total
  g_total : Gf K mg "total" a.f_total a.d_total ["fracs"]
  fn_mean_of_row : FunD K "mean_of_row" "mean_of_row" (defArgs s_mean_of_row) (defBody s_mean_of_row) (defScope s_mean_of_row) [] [] a.f_mean_of_row a.d_mean_of_row
  g_mean_of_row : Gf K mg "mean_of_row" a.f_mean_of_row a.d_mean_of_row ["row"]
  fn_Frac_is_below : FunD K "is_below" "Frac.is_below" (defArgs s_Frac_is_below) (defBody s_Frac_is_below) (defScope s_Frac_is_below) [] [] a.f_Frac_is_below a.d_Frac_is_below
  me_Frac_is_below : Meth K a.c_Frac "is_below" a.f_Frac_is_below
  b_Frac_is_below : Binds K a.d_Frac_is_below ["self", "other"] []
  fn_greatest_of : FunD K "greatest_of" "greatest_of" (defArgs s_greatest_of) (defBody s_greatest_of) (defScope s_greatest_of) [] [] a.f_greatest_of a.d_greatest_of
  g_greatest_of : Gf K mg "greatest_of" a.f_greatest_of a.d_greatest_of ["fracs"]
  fn_means_from : FunD K "means_from" "means_from" (defArgs s_means_from) (defBody s_means_from) (defScope s_means_from) [] [] a.f_means_from a.d_means_from
  g_means_from : Gf K mg "means_from" a.f_means_from a.d_means_from ["rows"]
  fn_rank_worths : FunD K "rank_worths" "rank_worths" (defArgs s_rank_worths) (defBody s_rank_worths) (defScope s_rank_worths) [] [] a.f_rank_worths a.d_rank_worths
  g_rank_worths : Gf K mg "rank_worths" a.f_rank_worths a.d_rank_worths ["n"]
  fn_least_mean_rank : FunD K "least_mean_rank" "least_mean_rank" (defArgs s_least_mean_rank) (defBody s_least_mean_rank) (defScope s_least_mean_rank) [] [] a.f_least_mean_rank a.d_least_mean_rank
  g_least_mean_rank : Gf K mg "least_mean_rank" a.f_least_mean_rank a.d_least_mean_rank ["n"]
  fn_rule_of : FunD K "rule_of" "rule_of" (defArgs s_rule_of) (defBody s_rule_of) (defScope s_rule_of) [] [] a.f_rule_of a.d_rule_of
  g_rule_of : Gf K mg "rule_of" a.f_rule_of a.d_rule_of ["rows"]
  fn_mean_rank_rule : FunD K "mean_rank_rule" "mean_rank_rule" (defArgs s_mean_rank_rule) (defBody s_mean_rank_rule) (defScope s_mean_rank_rule) [] [] a.f_mean_rank_rule a.d_mean_rank_rule
  g_mean_rank_rule : Gf K mg "mean_rank_rule" a.f_mean_rank_rule a.d_mean_rank_rule ["n"]
  fn_Unfit___init__ : FunD K "__init__" "Unfit.__init__" (defArgs s_Unfit___init__) (defBody s_Unfit___init__) (defScope s_Unfit___init__) [] [] a.f_Unfit___init__ a.d_Unfit___init__
  fn_check_top : FunD K "check_top" "check_top" (defArgs s_check_top) (defBody s_check_top) (defScope s_check_top) [] [] a.f_check_top a.d_check_top
  g_check_top : Gf K mg "check_top" a.f_check_top a.d_check_top ["n", "many"]
  fn_rank_weight : FunD K "rank_weight" "rank_weight" (defArgs s_rank_weight) (defBody s_rank_weight) (defScope s_rank_weight) [] [] a.f_rank_weight a.d_rank_weight
  g_rank_weight : Gf K mg "rank_weight" a.f_rank_weight a.d_rank_weight ["n", "come", "seen", "rank"]
  fn_top_worths : FunD K "top_worths" "top_worths" (defArgs s_top_worths) (defBody s_top_worths) (defScope s_top_worths) [] [] a.f_top_worths a.d_top_worths
  g_top_worths : Gf K mg "top_worths" a.f_top_worths a.d_top_worths ["n", "many"]
  fn_top_chance : FunD K "top_chance" "top_chance" (defArgs s_top_chance) (defBody s_top_chance) (defScope s_top_chance) [] [] a.f_top_chance a.d_top_chance
  g_top_chance : Gf K mg "top_chance" a.f_top_chance a.d_top_chance ["n", "many"]
  fn_top_rule : FunD K "top_rule" "top_rule" (defArgs s_top_rule) (defBody s_top_rule) (defScope s_top_rule) [] [] a.f_top_rule a.d_top_rule
  g_top_rule : Gf K mg "top_rule" a.f_top_rule a.d_top_rule ["n", "many"]
  fn_is_sequence : FunD K "is_sequence" "is_sequence" (defArgs s_is_sequence) (defBody s_is_sequence) (defScope s_is_sequence) [] [] a.f_is_sequence a.d_is_sequence
  g_is_sequence : Gf K mg "is_sequence" a.f_is_sequence a.d_is_sequence ["value"]
  fn_limits_of : FunD K "limits_of" "limits_of" (defArgs s_limits_of) (defBody s_limits_of) (defScope s_limits_of) [] [] a.f_limits_of a.d_limits_of
  g_limits_of : Gf K mg "limits_of" a.f_limits_of a.d_limits_of ["n", "rule"]
  fn_followed : FunD K "followed" "followed" (defArgs s_followed) (defBody s_followed) (defScope s_followed) [] [] a.f_followed a.d_followed
  g_followed : Gf K mg "followed" a.f_followed a.d_followed ["n", "rule"]
  fn__law_taken : FunD K "_law_taken" "_law_taken" (defArgs s__law_taken) (defBody s__law_taken) (defScope s__law_taken) [] [] a.f__law_taken a.d__law_taken
  g__law_taken : Gf K mg "_law_taken" a.f__law_taken a.d__law_taken ["table", "rule"]
  fn__law_chances : FunD K "_law_chances" "_law_chances" (defArgs s__law_chances) (defBody s__law_chances) (defScope s__law_chances) [] [] a.f__law_chances a.d__law_chances
  g__law_chances : Gf K mg "_law_chances" a.f__law_chances a.d__law_chances ["table", "rule", "whole"]
  fn__law_goal_holds : FunD K "_law_goal_holds" "_law_goal_holds" (defArgs s__law_goal_holds) (defBody s__law_goal_holds) (defScope s__law_goal_holds) [] [] a.f__law_goal_holds a.d__law_goal_holds
  g__law_goal_holds : Gf K mg "_law_goal_holds" a.f__law_goal_holds a.d__law_goal_holds ["size", "goal", "table", "whole"]
  fn_chance_behind : FunD K "chance_behind" "chance_behind" (defArgs s_chance_behind) (defBody s_chance_behind) (defScope s_chance_behind) [] [] a.f_chance_behind a.d_chance_behind
  g_chance_behind : Gf K mg "chance_behind" a.f_chance_behind a.d_chance_behind ["n", "r"]
  fn_pass_chance : FunD K "pass_chance" "pass_chance" (defArgs s_pass_chance) (defBody s_pass_chance) (defScope s_pass_chance) [] [] a.f_pass_chance a.d_pass_chance
  g_pass_chance : Gf K mg "pass_chance" a.f_pass_chance a.d_pass_chance ["n", "r"]
  fn__law_copy : FunD K "_law_copy" "_law_copy" (defArgs s__law_copy) (defBody s__law_copy) (defScope s__law_copy) [] [] a.f__law_copy a.d__law_copy
  g__law_copy : Gf K mg "_law_copy" a.f__law_copy a.d__law_copy ["value"]
  fn__law_kept : FunD K "_law_kept" "_law_kept" (defArgs s__law_kept) (defBody s__law_kept) (defScope s__law_kept) [] [] a.f__law_kept a.d__law_kept
  g__law_kept : Gf K mg "_law_kept" a.f__law_kept a.d__law_kept ["found", "due"]
  fn__law_size_refused : FunD K "_law_size_refused" "_law_size_refused" (defArgs s__law_size_refused) (defBody s__law_size_refused) (defScope s__law_size_refused) [] [] a.f__law_size_refused a.d__law_size_refused
  g__law_size_refused : Gf K mg "_law_size_refused" a.f__law_size_refused a.d__law_size_refused ["which", "wrong", "many"]
  fn__law_many_refused : FunD K "_law_many_refused" "_law_many_refused" (defArgs s__law_many_refused) (defBody s__law_many_refused) (defScope s__law_many_refused) [] [] a.f__law_many_refused a.d__law_many_refused
  g__law_many_refused : Gf K mg "_law_many_refused" a.f__law_many_refused a.d__law_many_refused ["which", "size", "wrong"]
  fn__law_asked : FunD K "_law_asked" "_law_asked" (defArgs s__law_asked) (defBody s__law_asked) (defScope s__law_asked) [] [] a.f__law_asked a.d__law_asked
  g__law_asked : Gf K mg "_law_asked" a.f__law_asked a.d__law_asked ["script"]
  fn_law : FunD K "law" "law" (defArgs s_law) (defBody s_law) (defScope s_law) [] [] a.f_law a.d_law
  kw_top_chance_1_many : KBn K a.d_top_chance ["n", "many"] 1 ["many"] (fun us ws => us ++ permL [0] ws) (fun us ws => us ++ permL [0] ws)
  kw_top_rule_1_many : KBn K a.d_top_rule ["n", "many"] 1 ["many"] (fun us ws => us ++ permL [0] ws) (fun us ws => us ++ permL [0] ws)
  gc_Frac : Gc K mg "Frac" a.c_Frac a.f_Frac___init__
  cl_Frac : Cls K a.c_Frac
  na_Frac_num : NoAttr K a.c_Frac "num"
  na_Frac_den : NoAttr K a.c_Frac "den"
  fo_num : ∀ ex, FldOk K (tab a ex) "num" [(0, 0)]
  fo_den : ∀ ex, FldOk K (tab a ex) "den" [(0, 1)]
  gx_WrongSize : Ex K mg "WrongSize" a.c_WrongSize a.f_WrongSize___init__ a.d_WrongSize___init__ ["self", "many"]
  nx_WrongSize_many : PySem.W.findIn K (.ref a.c_WrongSize) "many" = some none
  gx_Unfit : Ex K mg "Unfit" a.c_Unfit a.f_Unfit___init__ a.d_Unfit___init__ ["self", "what"]
  nx_Unfit_what : PySem.W.findIn K (.ref a.c_Unfit) "what" = some none
  em_WrongSize : EmOk K (tab a none).cm a.c_WrongSize [(1, false), (2, true)]
  xf_WrongSize_many : XfOk K (tab a none) "many" [(2, 0)]
  ix_WrongSize_Unfit : IsOk K (tab a none).cm a.c_Unfit [(2, false)]
  em_Unfit : EmOk K (tab a none).cm a.c_Unfit [(1, true), (2, false)]
  xf_Unfit_what : XfOk K (tab a none) "what" [(1, 0)]
  ix_Unfit_WrongSize : IsOk K (tab a none).cm a.c_WrongSize [(1, false)]
  xg_Unfit : mg "Unfit" = some (.ref a.c_Unfit)
  xg_WrongSize : mg "WrongSize" = some (.ref a.c_WrongSize)
  ty : ∀ ex, TyOk K (tab a ex) [0]
  n_abs : mg "abs" = none
  n_all : mg "all" = none
  n_bool : mg "bool" = none
  n_enumerate : mg "enumerate" = none
  n_int : mg "int" = none
  n_isinstance : mg "isinstance" = none
  n_len : mg "len" = none
  n_list : mg "list" = none
  n_min : mg "min" = none
  n_range : mg "range" = none
  n_reversed : mg "reversed" = none
  n_str : mg "str" = none
  n_sum : mg "sum" = none
  n_tuple : mg "tuple" = none
  n_zip : mg "zip" = none
  m_comb : mg "comb" = some (.builtin "math.comb")
  m_gcd : mg "gcd" = some (.builtin "math.gcd")
  k_MOST_STRANGERS : ∃ u, mg "MOST_STRANGERS" = some u ∧ RelV (V.int 60) u
section
variable {P : Program} {w : World} {K : PySem.W.Frag} {mg : Str → Option Value} {base : Heap} {a : Ad} {ex : Option (Nat × Addr × Addr)}
theorem fl_nd_0 : ((tab a ex).fl 0).Nodup := by show List.Nodup (["num", "den"] : List Str); decide +kernel
theorem fl_sm_0 : ((tab a ex).fl 0).length < 1000 := by show List.length (["num", "den"] : List Str) < 1000; decide
theorem no_0_is_below : ("is_below" : Str) ∉ (tab a ex).fl 0 := by show ("is_below" : Str) ∉ (["num", "den"] : List Str); decide +kernel
theorem ok__law_pick (U : Txt K mg a) : FnOk P w K mg base (L2N.CX P w) 1 a.f__law_pick a.d__law_pick ["feed", "many"] (spB K (tab a none) 1 0 m__law_pick) := by
  rw [mq__law_pick]
  exact okB (Pk := [0]) (J := ⟨[1, 0, 0, 0, 0, 0, 0], [1, 0, 0, 0, 0, 0, 0], [1, 0, 0, 0, 0, 0, 0], [1, 0, 0, 0, 0, 0, 0], 0⟩) (Γ := [1, 0, 0, 0, 0, 0, 0]) U.fn__law_pick sc__law_pick rfl (by decide) rfl rfl (fun i h1 h2 => (by decide : ∀ i, i < 2 → 1 ≤ i → ([1, 0, 0, 0, 0, 0, 0] : List Nat).getD i 0 = 0) i h2 h1) rfl (by decide) rfl rfl fun cdv A outer s H E hr tk => (dss_cons (Γ1 := [1, 0, 0, 0, 0, 0, 0]) (ds_setix (pv 0) (de_op op_add p_i0 (de_ixN ix_seq p_ix (pv 0) de_int) de_int) de_int) (dss_cons (Γ1 := [1, 0, 0, 0, 0, 0, 0]) (ds_if (dt_cmp op_gt p_ib (de_ixN ix_seq p_ix (pv 0) de_int) de_int rfl) (dss_cons (Γ1 := [1, 0, 0, 0, 0, 0, 0]) (ds_nm (i := 2) sc__law_pick.nd rfl (by first | exact Or.inl rfl | exact Or.inr rfl) (de_op op_modN p_mod (de_callTy call_int1 p_int rfl U.n_int rfl (da_cons (de_ixN ix_seq p_ix (pv 0) de_int) da_nil)) (de_var (pv 1)))) (dss_cons (Γ1 := [1, 0, 0, 0, 0, 0, 0]) (ds_setix (pv 0) (de_op o_div p_div (de_ixN ix_seq p_ix (pv 0) de_int) (de_var (pv 1))) de_int) (dss_one (ds_ret (de_var (pv 2)))))) dss_nil) (dss_cons (Γ1 := [1, 0, 0, 0, 0, 0, 0]) (ds_nm (i := 3) sc__law_pick.nd rfl (by first | exact Or.inl rfl | exact Or.inr rfl) (de_ixN ix_seq p_ix (pv 0) de_int)) (dss_cons (Γ1 := [1, 0, 0, 0, 0, 0, 0]) (ds_setix (pv 0) (de_op op_add p_i0 (de_var (pv 3)) de_int) de_int) (dss_cons (Γ1 := [1, 0, 0, 0, 0, 0, 0]) (ds_nm (i := 4) sc__law_pick.nd rfl (by first | exact Or.inl rfl | exact Or.inr rfl) de_int) (dss_cons (Γ1 := [1, 0, 0, 0, 0, 0, 0]) (ds_if (dt_cmp op_gt p_ib (de_callB o_len (Prim1.args (Prim1P.to p_len)) rfl U.n_len rfl (da_cons (de_ixN ix_seq p_ix (pv 0) de_int) da_nil)) de_int rfl) (dss_one (ds_nm (i := 4) sc__law_pick.nd rfl (by first | exact Or.inl rfl | exact Or.inr rfl) (de_callTy call_int1 p_int rfl U.n_int rfl (da_cons (de_ix ix_seq (Prim2P.to p_ix) (de_ixN ix_seq p_ix (pv 0) de_int) (de_op op_modN p_mod (de_callTy call_int1 p_int rfl U.n_int rfl (da_cons (de_var (pv 3)) da_nil)) (de_callB o_len (Prim1.args (Prim1P.to p_len)) rfl U.n_len rfl (da_cons (de_ixN ix_seq p_ix (pv 0) de_int) da_nil)))) da_nil)))) dss_nil) (dss_cons (Γ1 := [1, 0, 0, 0, 0, 0, 0]) (ds_if (dt_w (dw_and (dt_cmp op_ge p_ib (de_var (pv 4)) (de_op op_pow p_pow de_int de_int) rfl) (dw_and1 (dt_cmp op_lt p_ib (de_var (pv 3)) (de_callB o_len (Prim1.args (Prim1P.to p_len)) rfl U.n_len rfl (da_cons (de_ixN ix_seq p_ix (pv 0) de_int) da_nil)) rfl)))) (dss_cons (Γ1 := [1, 0, 0, 0, 0, 0, 0]) (ds_setix (pv 0) (de_op o_div p_div (de_var (pv 4)) (de_var (pv 1))) de_int) (dss_one (ds_ret (de_op op_modN p_mod (de_callTy call_int1 p_int rfl U.n_int rfl (da_cons (de_var (pv 4)) da_nil)) (de_var (pv 1)))))) dss_nil) (dss_cons (Γ1 := [1, 0, 0, 0, 0, 0, 0]) (ds_nm (i := 5) sc__law_pick.nd rfl (by first | exact Or.inl rfl | exact Or.inr rfl) (de_op op_modN p_mod (de_callTy call_int1 p_int rfl U.n_int rfl (da_cons (de_op op_add p_i0 (de_op op_add p_i0 (de_op op_add p_i0 (de_op o_mul p_mul (de_var (pv 4)) de_int) (de_op o_mul p_mul (de_ixN ix_seq p_ix (pv 0) de_int) de_int)) (de_op o_mul p_mul (de_var (pv 3)) de_int)) de_int) da_nil)) de_int)) (dss_cons (Γ1 := [1, 0, 0, 0, 0, 0, 0]) (ds_nm (i := 6) sc__law_pick.nd rfl (by first | exact Or.inl rfl | exact Or.inr rfl) (de_op op_modN p_mod (de_callTy call_int1 p_int rfl U.n_int rfl (da_cons (de_op op_add p_i0 (de_op op_add p_i0 (de_op o_mul p_mul (de_var (pv 5)) (de_var (pv 5))) (de_op o_mul p_mul (de_ixN ix_seq p_ix (pv 0) de_int) de_int)) (de_op o_div p_div (de_var (pv 4)) de_int)) da_nil)) de_int)) (dss_one (ds_ret (de_op op_modN p_mod (de_callTy call_int1 p_int rfl U.n_int rfl (da_cons (de_op o_div p_div (de_op o_mul p_mul (de_var (pv 6)) de_int) de_int) da_nil)) (de_var (pv 1))))))))))))))
theorem ok__law_ways (U : Txt K mg a) : FnOk P w K mg base (L2N.CX P w) 1 a.f__law_ways a.d__law_ways ["many", "place", "rank"] (spF K (tab a none) 0 m__law_ways) := by
  rw [mq__law_ways]
  exact okF (Pk := []) (J := ⟨[0, 0, 0, 0, 0, 0, 0], [0, 0, 0, 0, 0, 0, 0], [0, 0, 0, 0, 0, 0, 0], [0, 0, 0, 0, 0, 0, 0], 0⟩) (Γ := [0, 0, 0, 0, 0, 0, 0]) U.fn__law_ways sc__law_ways rfl rfl (by decide) rfl fun cdv A outer s H E hr tk => (dss_cons (Γ1 := [0, 0, 0, 0, 0, 0, 0]) (ds_setLc (i := 3) rfl sc__law_ways.nd rfl rfl (sw_true rfl rfl rfl rfl) (P := [0, 1, 2, 3, 4, 5]) (own := [("k", 6)]) (k := 0) (di_range1 rfl U.n_range (da_cons (de_var (pv 0)) da_nil)) (blkOk_by rfl) (fun _ _ _ _ _ => (dg_name (pg_name (i := 6) sc__law_ways.nd rfl (by first | exact Or.inl rfl | exact Or.inr rfl)))) (fun _ _ _ _ _ => dts_nil) (fun _ _ _ _ _ => (de_callTy call_int1 p_int rfl U.n_int rfl (da_cons (de_cmp op_eq p_eq (de_op op_add p_i0 (de_var (pv 6)) de_int) (de_var (pv 2)) rfl) da_nil)))) (dss_cons (Γ1 := [0, 0, 0, 0, 0, 0, 0]) (ds_for (passes_of rfl) rfl (di_range2 rfl U.n_range (da_cons (de_op op_add p_i0 (de_var (pv 1)) de_int) (da_cons (de_op op_add p_i0 (de_var (pv 0)) de_int) da_nil))) (dg_name (pg_name (i := 4) sc__law_ways.nd rfl (by first | exact Or.inl rfl | exact Or.inr rfl))) (dss_cons (Γ1 := [0, 0, 0, 0, 0, 1, 0]) (ds_setLc (i := 5) rfl sc__law_ways.nd rfl rfl (sw_true rfl rfl rfl rfl) (P := [0, 1, 2, 3, 4, 5]) (own := [("k", 6)]) (k := 1) (di_range1 rfl U.n_range (da_cons (de_var (pv 0)) da_nil)) (blkOk_by rfl) (fun _ _ _ _ _ => (dg_name (pg_name (i := 6) sc__law_ways.nd rfl (by first | exact Or.inl rfl | exact Or.inr rfl)))) (fun _ _ _ _ _ => dts_nil) (fun _ _ _ _ _ => de_int)) (dss_cons (Γ1 := [0, 0, 0, 0, 0, 1, 0]) (ds_for (passes_of rfl) rfl (di_range1 rfl U.n_range (da_cons (de_op op_sub p_i0 (de_var (pv 4)) de_int) da_nil)) (dg_name (pg_name (i := 6) sc__law_ways.nd rfl (by first | exact Or.inl rfl | exact Or.inr rfl))) (dss_cons (Γ1 := [0, 0, 0, 0, 0, 1, 0]) (ds_setix (pv 5) (de_op op_add p_i0 (de_ixN ix_seq p_ix (pv 5) (de_var (pv 6))) (de_op o_mul p_mul (de_ix ix_seq (Prim2P.to p_ix) (de_var (pv 3)) (de_var (pv 6))) (de_op op_sub p_i0 (de_op op_sub p_i0 (de_var (pv 4)) (de_var (pv 6))) de_int))) (de_var (pv 6))) (dss_one (ds_setix (pv 5) (de_op op_add p_i0 (de_ixN ix_seq p_ix (pv 5) (de_op op_add p_i0 (de_var (pv 6)) de_int)) (de_op o_mul p_mul (de_ix ix_seq (Prim2P.to p_ix) (de_var (pv 3)) (de_var (pv 6))) (de_op op_add p_i0 (de_var (pv 6)) de_int))) (de_op op_add p_i0 (de_var (pv 6)) de_int))))) (dss_one (ds_nm (i := 3) sc__law_ways.nd rfl (by first | exact Or.inl rfl | exact Or.inr rfl) (de_frz (pv 5))))))) (dss_one (ds_ret (de_var (pv 3))))))
theorem ok__law_table (U : Txt K mg a) : FnOk P w K mg base (L2N.CX P w) 2 a.f__law_table a.d__law_table ["many"] (spF K (tab a none) 0 m__law_table) := by
  rw [mq__law_table]
  exact okF (Pk := []) (J := ⟨[0, 0, 0, 0], [0, 0, 0, 0], [0, 0, 0, 0], [0, 0, 0, 0], 0⟩) (Γ := [0, 0, 0, 0]) U.fn__law_table sc__law_table rfl rfl (by decide) rfl fun cdv A outer s H E hr tk => (dss_cons (Γ1 := [0, 1, 0, 0]) (ds_nm (i := 1) sc__law_table.nd rfl (by first | exact Or.inl rfl | exact Or.inr rfl) (de_lst (k := 1) da_nil)) (dss_cons (Γ1 := [0, 1, 0, 0]) (ds_for (passes_of rfl) rfl (di_range2 rfl U.n_range (da_cons de_int (da_cons (de_op op_add p_i0 (de_var (pv 0)) de_int) da_nil))) (dg_name (pg_name (i := 2) sc__law_table.nd rfl (by first | exact Or.inl rfl | exact Or.inr rfl))) (dss_one (ds_app (pv 1) (de_lc rfl sc__law_table.nd (P := [0, 1, 2]) (own := [("rank", 3)]) (k := 0) (di_range2 rfl U.n_range (da_cons de_int (da_cons (de_op op_add p_i0 (de_var (pv 2)) de_int) da_nil))) (blkOk_by rfl) (fun _ _ _ _ _ => (dg_name (pg_name (i := 3) sc__law_table.nd rfl (by first | exact Or.inl rfl | exact Or.inr rfl)))) (fun _ _ _ _ _ => dts_nil) (fun _ _ _ _ _ => (de_fn U.g__law_ways (ok__law_ways U) (hr.mono (by first | decide | omega)) takes0N rfl (da_cons (de_var (pv 0)) (da_cons (de_var (pv 2)) (da_cons (de_var (pv 3)) da_nil))))))))) (dss_one (ds_ret (de_frz (pv 1))))))
theorem ok__law_factorial (U : Txt K mg a) : FnOk P w K mg base (L2N.CX P w) 1 a.f__law_factorial a.d__law_factorial ["many"] (spF K (tab a none) 0 m__law_factorial) := by
  rw [mq__law_factorial]
  exact okF (Pk := []) (J := ⟨[0, 0, 0], [0, 0, 0], [0, 0, 0], [0, 0, 0], 0⟩) (Γ := [0, 0, 0]) U.fn__law_factorial sc__law_factorial rfl rfl (by decide) rfl fun cdv A outer s H E hr tk => (dss_cons (Γ1 := [0, 0, 0]) (ds_nm (i := 1) sc__law_factorial.nd rfl (by first | exact Or.inl rfl | exact Or.inr rfl) de_int) (dss_cons (Γ1 := [0, 0, 0]) (ds_for (passes_of rfl) rfl (di_range1 rfl U.n_range (da_cons (de_var (pv 0)) da_nil)) (dg_name (pg_name (i := 2) sc__law_factorial.nd rfl (by first | exact Or.inl rfl | exact Or.inr rfl))) (dss_one (ds_nm (i := 1) sc__law_factorial.nd rfl (by first | exact Or.inl rfl | exact Or.inr rfl) (de_op o_mul p_mul (de_var (pv 1)) (de_op op_add p_i0 (de_var (pv 2)) de_int))))) (dss_one (ds_ret (de_var (pv 1))))))
theorem ok__law_score (U : Txt K mg a) : FnOk P w K mg base (L2N.CX P w) 1 a.f__law_score a.d__law_score ["counts", "goal"] (spF K (tab a none) 0 m__law_score) := by
  rw [mq__law_score]
  exact okF (Pk := []) (J := ⟨[0, 0, 0], [0, 0, 0], [0, 0, 0], [0, 0, 0], 0⟩) (Γ := [0, 0, 0]) U.fn__law_score sc__law_score rfl rfl (by decide) rfl fun cdv A outer s H E hr tk => (dss_cons (Γ1 := [0, 0, 0]) (ds_if (dt_cmp op_gt p_ib (de_var (pv 1)) de_int rfl) (dss_one (ds_ret (de_callB (cr_sum rfl) (Prim1.args (Prim1P.to p_sum)) rfl U.n_sum rfl (da_cons (de_sl (k := 0) (de_var (pv 0)) do_none (do_some (de_var (pv 1)))) da_nil)))) dss_nil) (dss_one (ds_ret (de_un un_neg p_u (de_callB (cr_sum rfl) (Prim1.args (Prim1P.to p_sum)) rfl U.n_sum rfl (da_cons (de_lc rfl sc__law_score.nd (P := [0, 1]) (own := [("k", 2)]) (k := 0) (di_range1 rfl U.n_range (da_cons (de_callB o_len (Prim1.args (Prim1P.to p_len)) rfl U.n_len rfl (da_cons (de_var (pv 0)) da_nil)) da_nil)) (blkOk_by rfl) (fun _ _ _ _ _ => (dg_name (pg_name (i := 2) sc__law_score.nd rfl (by first | exact Or.inl rfl | exact Or.inr rfl)))) (fun _ _ _ _ _ => dts_nil) (fun _ _ _ _ _ => (de_op o_mul p_mul (de_op op_add p_i0 (de_var (pv 2)) de_int) (de_ix ix_seq (Prim2P.to p_ix) (de_var (pv 0)) (de_var (pv 2)))))) da_nil))))))
theorem ok__law_more (U : Txt K mg a) : FnOk P w K mg base (L2N.CX P w) 1 a.f__law_more a.d__law_more ["one", "two"] (spF K (tab a none) 0 m__law_more) := by
  rw [mq__law_more]
  exact okF (Pk := []) (J := ⟨[0, 0], [0, 0], [0, 0], [0, 0], 0⟩) (Γ := [0, 0]) U.fn__law_more sc__law_more rfl rfl (by decide) rfl fun cdv A outer s H E hr tk => (dss_cons (Γ1 := [0, 0]) (ds_if (dt_cmp op_gt p_ib (de_var (pv 0)) (de_var (pv 1)) rfl) (dss_one (ds_ret (de_var (pv 0)))) dss_nil) (dss_one (ds_ret (de_var (pv 1)))))
theorem ok__law_backward (U : Txt K mg a) : FnOk P w K mg base (L2N.CX P w) 2 a.f__law_backward a.d__law_backward ["table", "goal"] (spF K (tab a none) 0 m__law_backward) := by
  rw [mq__law_backward]
  exact okF (Pk := []) (J := ⟨[0, 0, 0, 0, 0, 0, 0, 0, 0, 0, 0, 0], [0, 0, 0, 0, 0, 0, 0, 0, 0, 0, 0, 0], [0, 0, 0, 0, 0, 0, 0, 0, 0, 0, 0, 0], [0, 0, 0, 1, 0, 0, 0, 0, 0, 0, 0, 0], 0⟩) (Γ := [0, 0, 0, 0, 0, 0, 0, 0, 0, 0, 0, 0]) U.fn__law_backward sc__law_backward rfl rfl (by decide) rfl fun cdv A outer s H E hr tk => (dss_cons (Γ1 := [0, 0, 0, 0, 0, 0, 0, 0, 0, 0, 0, 0]) (ds_nm (i := 2) sc__law_backward.nd rfl (by first | exact Or.inl rfl | exact Or.inr rfl) (de_callB o_len (Prim1.args (Prim1P.to p_len)) rfl U.n_len rfl (da_cons (de_var (pv 0)) da_nil))) (dss_cons (Γ1 := [0, 0, 0, 1, 0, 0, 0, 0, 0, 0, 0, 0]) (ds_nm (i := 3) sc__law_backward.nd rfl (by first | exact Or.inl rfl | exact Or.inr rfl) (de_lst (k := 1) (da_cons (de_var (pv 2)) da_nil))) (dss_cons (Γ1 := [0, 0, 0, 1, 0, 0, 0, 0, 0, 0, 0, 0]) (ds_nm (i := 4) sc__law_backward.nd rfl (by first | exact Or.inl rfl | exact Or.inr rfl) (de_callB (cr_sum rfl) (Prim1.args (Prim1P.to p_sum)) rfl U.n_sum rfl (da_cons (de_lc rfl sc__law_backward.nd (P := [0, 1, 2, 3, 4, 5, 6, 7, 8, 9, 11]) (own := [("counts", 10)]) (k := 0) (di_list (de_ix ix_seq (Prim2P.to p_ix) (de_var (pv 0)) (de_op op_sub p_i0 (de_var (pv 2)) de_int))) (blkOk_by rfl) (fun _ _ _ _ _ => (dg_name (pg_name (i := 10) sc__law_backward.nd rfl (by first | exact Or.inl rfl | exact Or.inr rfl)))) (fun _ _ _ _ _ => dts_nil) (fun _ _ _ _ _ => (de_fn U.g__law_score (ok__law_score U) (hr.mono (by first | decide | omega)) takes0N rfl (da_cons (de_var (pv 10)) (da_cons (de_var (pv 1)) da_nil))))) da_nil))) (dss_cons (Γ1 := [0, 0, 0, 1, 0, 0, 0, 0, 0, 0, 0, 0]) (ds_for (passes_of rfl) rfl (di_range1 rfl U.n_range (da_cons (de_op op_sub p_i0 (de_var (pv 2)) de_int) da_nil)) (dg_name (pg_name (i := 5) sc__law_backward.nd rfl (by first | exact Or.inl rfl | exact Or.inr rfl))) (dss_cons (Γ1 := [0, 0, 0, 1, 0, 0, 0, 0, 0, 0, 0, 0]) (ds_nm (i := 6) sc__law_backward.nd rfl (by first | exact Or.inl rfl | exact Or.inr rfl) (de_op op_sub p_i0 (de_op op_sub p_i0 (de_var (pv 2)) de_int) (de_var (pv 5)))) (dss_cons (Γ1 := [0, 0, 0, 1, 0, 0, 0, 0, 0, 0, 0, 0]) (ds_setLc (i := 7) rfl sc__law_backward.nd rfl rfl (sw_true rfl rfl rfl rfl) (P := [0, 1, 2, 3, 4, 5, 6, 7, 8, 9, 11]) (own := [("counts", 10)]) (k := 0) (di_list (de_ix ix_seq (Prim2P.to p_ix) (de_var (pv 0)) (de_var (pv 6)))) (blkOk_by rfl) (fun _ _ _ _ _ => (dg_name (pg_name (i := 10) sc__law_backward.nd rfl (by first | exact Or.inl rfl | exact Or.inr rfl)))) (fun _ _ _ _ _ => dts_nil) (fun _ _ _ _ _ => (de_fn U.g__law_score (ok__law_score U) (hr.mono (by first | decide | omega)) takes0N rfl (da_cons (de_var (pv 10)) (da_cons (de_var (pv 1)) da_nil))))) (dss_cons (Γ1 := [0, 0, 0, 1, 0, 0, 0, 0, 0, 0, 0, 0]) (ds_nm (i := 8) sc__law_backward.nd rfl (by first | exact Or.inl rfl | exact Or.inr rfl) de_int) (dss_cons (Γ1 := [0, 0, 0, 1, 0, 0, 0, 0, 0, 0, 0, 0]) (ds_for (passes_of rfl) rfl (di_range1 rfl U.n_range (da_cons (de_callB o_len (Prim1.args (Prim1P.to p_len)) rfl U.n_len rfl (da_cons (de_var (pv 7)) da_nil)) da_nil)) (dg_name (pg_name (i := 9) sc__law_backward.nd rfl (by first | exact Or.inl rfl | exact Or.inr rfl))) (dss_one (ds_if (dt_cmp op_ge p_ib (de_ix ix_seq (Prim2P.to p_ix) (de_var (pv 7)) (de_var (pv 9))) (de_var (pv 4)) rfl) (dss_one (ds_nm (i := 8) sc__law_backward.nd rfl (by first | exact Or.inl rfl | exact Or.inr rfl) (de_op op_add p_i0 (de_var (pv 9)) de_int))) dss_nil))) (dss_cons (Γ1 := [0, 0, 0, 1, 0, 0, 0, 0, 0, 0, 0, 0]) (ds_insr (pv 3) de_int (de_var (pv 8))) (dss_one (ds_nm (i := 4) sc__law_backward.nd rfl (by first | exact Or.inl rfl | exact Or.inr rfl) (de_callB (cr_sum rfl) (Prim1.args (Prim1P.to p_sum)) rfl U.n_sum rfl (da_cons (de_lc rfl sc__law_backward.nd (P := [0, 1, 2, 3, 4, 5, 6, 7, 8, 9, 10]) (own := [("score", 11)]) (k := 0) (di_list (de_var (pv 7))) (blkOk_by rfl) (fun _ _ _ _ _ => (dg_name (pg_name (i := 11) sc__law_backward.nd rfl (by first | exact Or.inl rfl | exact Or.inr rfl)))) (fun _ _ _ _ _ => dts_nil) (fun _ _ _ _ _ => (de_fn U.g__law_more (ok__law_more U) (hr.mono (by first | decide | omega)) takes0N rfl (da_cons (de_var (pv 11)) (da_cons (de_var (pv 4)) da_nil))))) da_nil)))))))))) (dss_one (ds_ret (de_lst (k := 0) (da_cons (de_var (pv 4)) (da_cons (de_callTyN (k := 0) o_tuple p_tuple rfl U.n_tuple rfl (pv 3)) da_nil)))))))))
theorem ok__law_plain (U : Txt K mg a) : FnOk P w K mg base (L2N.CX P w) 1 a.f__law_plain a.d__law_plain ["found"] (spF K (tab a none) 0 m__law_plain) := by
  rw [mq__law_plain]
  exact okF (Pk := []) (J := ⟨[0], [0], [0], [0], 0⟩) (Γ := [0]) U.fn__law_plain sc__law_plain rfl rfl (by decide) rfl fun cdv A outer s H E hr tk => (dss_one (ds_ret (de_and (de_isi (t := .int) (U.ty _) rfl (pty_bt (t := .int) rfl U.n_int (by rfl) rfl (fun _ z => nomatch z)) rfl U.n_isinstance (de_var (pv 0))) (de_one (de_not (de_isi (t := .bool) (U.ty _) rfl (pty_bt (t := .bool) rfl U.n_bool (by rfl) rfl (fun _ z => nomatch z)) rfl U.n_isinstance (de_var (pv 0))))))))
theorem mqh__law_plain : h__law_plain = mFn 1 1 bh__law_plain := by with_unfolding_all rfl
theorem okH__law_plain (U : Txt K mg a) : L2H.FnH P w K mg base (L2N.CX P w) 1 a.f__law_plain a.d__law_plain ["found"] (spF K (tab a ex) 0 h__law_plain) := by
  rw [mqh__law_plain]
  exact okFH (k := 0) (Pk := []) (J := ⟨[0], [0], [0], [0], 0⟩) (Γ := [0]) U.fn__law_plain sc__law_plain rfl rfl (fun i h1 => (by decide : ∀ i, i < 1 → ([0] : List Nat).getD i 0 = 0) i h1) rfl fun cdv A outer s H E p hot hr tk => (dss_one (ds_ret (de_and (de_isi (t := .int) (U.ty _) rfl (pty_bt (t := .int) rfl U.n_int (by rfl) rfl (fun _ z => nomatch z)) rfl U.n_isinstance (de_var (pv 0))) (de_one (de_not (de_isi (t := .bool) (U.ty _) rfl (pty_bt (t := .bool) rfl U.n_bool (by rfl) rfl (fun _ z => nomatch z)) rfl U.n_isinstance (de_var (pv 0))))))))
theorem ok__law_cut (U : Txt K mg a) : FnOk P w K mg base (L2N.CX P w) 1 a.f__law_cut a.d__law_cut ["num", "den"] (spF K (tab a none) 0 m__law_cut) := by
  rw [mq__law_cut]
  exact okF (Pk := []) (J := ⟨[0, 0, 0, 0, 0], [0, 0, 0, 0, 0], [0, 0, 0, 0, 0], [0, 0, 0, 0, 0], 0⟩) (Γ := [0, 0, 0, 0, 0]) U.fn__law_cut sc__law_cut rfl rfl (by decide) rfl fun cdv A outer s H E hr tk => (dss_cons (Γ1 := [0, 0, 0, 0, 0]) (ds_nm (i := 2) sc__law_cut.nd rfl (by first | exact Or.inl rfl | exact Or.inr rfl) (de_callB call_abs p_abs rfl U.n_abs rfl (da_cons (de_var (pv 0)) da_nil))) (dss_cons (Γ1 := [0, 0, 0, 0, 0]) (ds_nm (i := 3) sc__law_cut.nd rfl (by first | exact Or.inl rfl | exact Or.inr rfl) (de_var (pv 1))) (dss_cons (Γ1 := [0, 0, 0, 0, 0]) (ds_for (passes_of rfl) rfl (di_range1 rfl U.n_range (da_cons (de_op op_add p_i0 (de_op o_mul p_mul de_int (de_bits (de_var (pv 1)))) de_int) da_nil)) (dg_name (pg_name (i := 4) sc__law_cut.nd rfl (by first | exact Or.inl rfl | exact Or.inr rfl))) (dss_cons (Γ1 := [0, 0, 0, 0, 0]) (ds_if (dt_cmp op_eq p_eq (de_var (pv 3)) de_int rfl) (dss_one ds_brk) dss_nil) (dss_one (ds_nm2 (i := 2) (j := 3) rfl sc__law_cut.nd rfl rfl (by decide) rfl rfl (da_cons (de_var (pv 3)) (da_cons (de_op op_modN p_mod (de_callTy call_int1 p_int rfl U.n_int rfl (da_cons (de_var (pv 2)) da_nil)) (de_var (pv 3))) da_nil)) rfl)))) (dss_one (ds_ret (de_tup (k := 0) (da_cons (de_op o_div p_div (de_var (pv 0)) (de_var (pv 2))) (da_cons (de_op o_div p_div (de_var (pv 1)) (de_var (pv 2))) da_nil))))))))
theorem mqh__law_cut : h__law_cut = mFn 2 5 bh__law_cut := by with_unfolding_all rfl
theorem okH__law_cut (U : Txt K mg a) : L2H.FnH P w K mg base (L2N.CX P w) 1 a.f__law_cut a.d__law_cut ["num", "den"] (spF K (tab a ex) 0 h__law_cut) := by
  rw [mqh__law_cut]
  exact okFH (k := 0) (Pk := []) (J := ⟨[0, 0, 0, 0, 0], [0, 0, 0, 0, 0], [0, 0, 0, 0, 0], [0, 0, 0, 0, 0], 0⟩) (Γ := [0, 0, 0, 0, 0]) U.fn__law_cut sc__law_cut rfl rfl (fun i h1 => (by decide : ∀ i, i < 2 → ([0, 0, 0, 0, 0] : List Nat).getD i 0 = 0) i h1) rfl fun cdv A outer s H E p hot hr tk => (dss_cons (Γ1 := [0, 0, 0, 0, 0]) (ds_nm (i := 2) sc__law_cut.nd rfl (by first | exact Or.inl rfl | exact Or.inr rfl) (de_callB call_abs p_abs rfl U.n_abs rfl (da_cons (de_var (pv 0)) da_nil))) (dss_cons (Γ1 := [0, 0, 0, 0, 0]) (ds_nm (i := 3) sc__law_cut.nd rfl (by first | exact Or.inl rfl | exact Or.inr rfl) (de_var (pv 1))) (dss_cons (Γ1 := [0, 0, 0, 0, 0]) (ds_forH (passes_of rfl) hot (di_range1H rfl U.n_range (da_cons (de_op op_add p_i0 (de_op o_mul p_mul de_int (de_bits (de_var (pv 1)))) de_int) da_nil)) (dg_name (pg_name (i := 4) sc__law_cut.nd rfl (by first | exact Or.inl rfl | exact Or.inr rfl))) (dss_cons (Γ1 := [0, 0, 0, 0, 0]) (ds_if (dt_cmp op_eq p_eq (de_var (pv 3)) de_int rfl) (dss_one ds_brk) dss_nil) (dss_one (ds_nm2H (i := 2) (j := 3) hot sc__law_cut.nd rfl rfl (by decide) rfl rfl (da_cons (de_var (pv 3)) (da_cons (de_op op_modN p_mod (de_callTy call_int1 p_int rfl U.n_int rfl (da_cons (de_var (pv 2)) da_nil)) (de_var (pv 3))) da_nil)) rfl)))) (dss_one (ds_ret (de_tup (k := 0) (da_cons (de_op o_div p_div (de_var (pv 0)) (de_var (pv 2))) (da_cons (de_op o_div p_div (de_var (pv 1)) (de_var (pv 2))) da_nil))))))))
theorem ok__law_frac (U : Txt K mg a) : FnOk P w K mg base (L2N.CX P w) 2 a.f__law_frac a.d__law_frac ["found", "num", "den"] (spF K (tab a none) 0 m__law_frac) := by
  rw [mq__law_frac]
  exact okF (Pk := []) (J := ⟨[0, 0, 0, 0], [0, 0, 0, 0], [0, 0, 0, 0], [0, 0, 0, 0], 0⟩) (Γ := [0, 0, 0, 0]) U.fn__law_frac sc__law_frac rfl rfl (by decide) rfl fun cdv A outer s H E hr tk => (dss_cons (Γ1 := [0, 0, 0, 0]) (ds_if (dt_w (dw_or (dt_not (dt_val (de_isi (t := (.own 0)) (U.ty _) rfl (pty_own (c := 0) rfl U.gc_Frac.mg) rfl U.n_isinstance (de_var (pv 0))))) (dw_or (dt_not (dt_val (de_fn U.g__law_plain (ok__law_plain U) (hr.mono (by first | decide | omega)) tk rfl (da_cons (de_fld (U.fo_num _) (de_var (pv 0))) da_nil)))) (dw_or1 (dt_not (dt_val (de_fn U.g__law_plain (ok__law_plain U) (hr.mono (by first | decide | omega)) tk rfl (da_cons (de_fld (U.fo_den _) (de_var (pv 0))) da_nil)))))))) (dss_one (ds_ret de_bl)) dss_nil) (dss_cons (Γ1 := [0, 0, 0, 0]) (ds_nm (i := 3) sc__law_frac.nd rfl (by first | exact Or.inl rfl | exact Or.inr rfl) (de_fn U.g__law_cut (ok__law_cut U) (hr.mono (by first | decide | omega)) tk rfl (da_cons (de_var (pv 1)) (da_cons (de_var (pv 2)) da_nil)))) (dss_one (ds_ret (de_and (de_cmp op_eq p_eq (de_fld (U.fo_num _) (de_var (pv 0))) (de_ix ix_seq (Prim2P.to p_ix) (de_var (pv 3)) de_int) rfl) (de_one (de_cmp op_eq p_eq (de_fld (U.fo_den _) (de_var (pv 0))) (de_ix ix_seq (Prim2P.to p_ix) (de_var (pv 3)) de_int) rfl)))))))
theorem mqh__law_frac : h__law_frac = mFn 3 4 bh__law_frac := by with_unfolding_all rfl
theorem okH__law_frac (U : Txt K mg a) : L2H.FnH P w K mg base (L2N.CX P w) 2 a.f__law_frac a.d__law_frac ["found", "num", "den"] (spF K (tab a ex) 0 h__law_frac) := by
  rw [mqh__law_frac]
  exact okFH (k := 1) (Pk := []) (J := ⟨[0, 0, 0, 0], [0, 0, 0, 0], [0, 0, 0, 0], [0, 0, 0, 0], 0⟩) (Γ := [0, 0, 0, 0]) U.fn__law_frac sc__law_frac rfl rfl (fun i h1 => (by decide : ∀ i, i < 3 → ([0, 0, 0, 0] : List Nat).getD i 0 = 0) i h1) rfl fun cdv A outer s H E p hot hr tk => (dss_cons (Γ1 := [0, 0, 0, 0]) (ds_if (dt_w (dw_or (dt_not (dt_val (de_isi (t := (.own 0)) (U.ty _) rfl (pty_own (c := 0) rfl U.gc_Frac.mg) rfl U.n_isinstance (de_var (pv 0))))) (dw_or (dt_not (dt_val (de_fnH U.g__law_plain (okH__law_plain U) (hr.mono (by first | decide | omega)) tk hot rfl (da_cons (de_fld (U.fo_num _) (de_var (pv 0))) da_nil)))) (dw_or1 (dt_not (dt_val (de_fnH U.g__law_plain (okH__law_plain U) (hr.mono (by first | decide | omega)) tk hot rfl (da_cons (de_fld (U.fo_den _) (de_var (pv 0))) da_nil)))))))) (dss_one (ds_ret de_bl)) dss_nil) (dss_cons (Γ1 := [0, 0, 0, 0]) (ds_nm (i := 3) sc__law_frac.nd rfl (by first | exact Or.inl rfl | exact Or.inr rfl) (de_fnH U.g__law_cut (okH__law_cut U) (hr.mono (by first | decide | omega)) tk hot rfl (da_cons (de_var (pv 1)) (da_cons (de_var (pv 2)) da_nil)))) (dss_one (ds_ret (de_and (de_cmp op_eq p_eq (de_fld (U.fo_num _) (de_var (pv 0))) (de_ix ix_seq (Prim2P.to p_ix) (de_var (pv 3)) de_int) rfl) (de_one (de_cmp op_eq p_eq (de_fld (U.fo_den _) (de_var (pv 0))) (de_ix ix_seq (Prim2P.to p_ix) (de_var (pv 3)) de_int) rfl)))))))
theorem ok__law_like (U : Txt K mg a) : ∀ j, FnOk P w K mg base (L2N.CX P w) (3 + j) a.f__law_like a.d__law_like ["found", "due"] (spF K (tab a none) 0 (m__law_like j))
  | 0 => fn_bad
  | j + 1 => by
    have ih := ok__law_like U j
    exact okF (k := 3 + j) (Pk := []) (J := ⟨[0, 0, 0], [0, 0, 0], [0, 0, 0], [0, 0, 0], 0⟩) (Γ := [0, 0, 0]) U.fn__law_like sc__law_like rfl rfl (by decide) rfl fun cdv A outer s H E hr tk => (dss_cons (Γ1 := [0, 0, 0]) (ds_if (dt_cmp op_isN p_isN (de_var (pv 1)) de_non rfl) (dss_one (ds_ret (de_cmp op_isN p_isN (de_var (pv 0)) de_non rfl))) dss_nil) (dss_cons (Γ1 := [0, 0, 0]) (ds_if (dt_val (de_isi (t := .list) (U.ty _) rfl (pty_bt (t := .list) rfl U.n_list (by rfl) rfl (fun _ z => nomatch z)) rfl U.n_isinstance (de_var (pv 1)))) (dss_one (ds_ret (de_fn U.g__law_frac (ok__law_frac U) (hr.mono (by first | decide | omega)) tk rfl (da_cons (de_var (pv 0)) (da_cons (de_ix ix_seq (Prim2P.to p_ix) (de_var (pv 1)) de_int) (da_cons (de_ix ix_seq (Prim2P.to p_ix) (de_var (pv 1)) de_int) da_nil)))))) dss_nil) (dss_cons (Γ1 := [0, 0, 0]) (ds_if (dt_val (de_isi (t := .tuple) (U.ty _) rfl (pty_bt (t := .tuple) rfl U.n_tuple (by rfl) rfl (fun _ z => nomatch z)) rfl U.n_isinstance (de_var (pv 1)))) (dss_cons (Γ1 := [0, 0, 0]) (ds_if (dt_w (dw_or (dt_not (dt_val (de_isi (t := .tuple) (U.ty _) rfl (pty_bt (t := .tuple) rfl U.n_tuple (by rfl) rfl (fun _ z => nomatch z)) rfl U.n_isinstance (de_var (pv 0))))) (dw_or1 (dt_cmp op_ne p_ne (de_callB o_len (Prim1.args (Prim1P.to p_len)) rfl U.n_len rfl (da_cons (de_var (pv 0)) da_nil)) (de_callB o_len (Prim1.args (Prim1P.to p_len)) rfl U.n_len rfl (da_cons (de_var (pv 1)) da_nil)) rfl)))) (dss_one (ds_ret de_bl)) dss_nil) (dss_one (ds_ret (de_callB (cr_all rfl) (Prim1.args (Prim1P.to p_all)) rfl U.n_all rfl (da_cons (de_lc rfl sc__law_like.nd (P := [0, 1]) (own := [("k", 2)]) (k := 0) (di_range1 rfl U.n_range (da_cons (de_callB o_len (Prim1.args (Prim1P.to p_len)) rfl U.n_len rfl (da_cons (de_var (pv 1)) da_nil)) da_nil)) (blkOk_by rfl) (fun _ _ _ _ _ => (dg_name (pg_name (i := 2) sc__law_like.nd rfl (by first | exact Or.inl rfl | exact Or.inr rfl)))) (fun _ _ _ _ _ => dts_nil) (fun _ _ _ _ _ => (de_fn U.g__law_like ih (hr.mono (by first | decide | omega)) takes0N rfl (da_cons (de_ix ix_seq (Prim2P.to p_ix) (de_var (pv 0)) (de_var (pv 2))) (da_cons (de_ix ix_seq (Prim2P.to p_ix) (de_var (pv 1)) (de_var (pv 2))) da_nil))))) da_nil))))) dss_nil) (dss_cons (Γ1 := [0, 0, 0]) (ds_if (dt_val (de_isi (t := .bool) (U.ty _) rfl (pty_bt (t := .bool) rfl U.n_bool (by rfl) rfl (fun _ z => nomatch z)) rfl U.n_isinstance (de_var (pv 1)))) (dss_one (ds_ret (de_and (de_isi (t := .bool) (U.ty _) rfl (pty_bt (t := .bool) rfl U.n_bool (by rfl) rfl (fun _ z => nomatch z)) rfl U.n_isinstance (de_var (pv 0))) (de_one (de_cmp op_eq p_eq (de_var (pv 0)) (de_var (pv 1)) rfl))))) dss_nil) (dss_cons (Γ1 := [0, 0, 0]) (ds_if (dt_val (de_isi (t := .int) (U.ty _) rfl (pty_bt (t := .int) rfl U.n_int (by rfl) rfl (fun _ z => nomatch z)) rfl U.n_isinstance (de_var (pv 1)))) (dss_one (ds_ret (de_and (de_fn U.g__law_plain (ok__law_plain U) (hr.mono (by first | decide | omega)) tk rfl (da_cons (de_var (pv 0)) da_nil)) (de_one (de_cmp op_eq p_eq (de_var (pv 0)) (de_var (pv 1)) rfl))))) dss_nil) (dss_one (ds_ret (de_and (de_isi (t := .str) (U.ty _) rfl (pty_bt (t := .str) rfl U.n_str (by rfl) rfl (fun _ z => nomatch z)) rfl U.n_isinstance (de_var (pv 0))) (de_one (de_cmp op_eq p_eq (de_var (pv 0)) (de_var (pv 1)) rfl))))))))))
theorem okH__law_like (U : Txt K mg a) : ∀ j, L2H.FnH P w K mg base (L2N.CX P w) (3 + j) a.f__law_like a.d__law_like ["found", "due"] (spF K (tab a ex) 0 (h__law_like j))
  | 0 => fnH_bad
  | j + 1 => by
    have ih := okH__law_like U j
    exact okFH (k := 3 + j) (Pk := []) (J := ⟨[0, 0, 0], [0, 0, 0], [0, 0, 0], [0, 0, 0], 0⟩) (Γ := [0, 0, 0]) U.fn__law_like sc__law_like rfl rfl (fun i h1 => (by decide : ∀ i, i < 2 → ([0, 0, 0] : List Nat).getD i 0 = 0) i h1) rfl fun cdv A outer s H E p hot hr tk => (dss_cons (Γ1 := [0, 0, 0]) (ds_if (dt_cmp op_isN p_isN (de_var (pv 1)) de_non rfl) (dss_one (ds_ret (de_cmp op_isN p_isN (de_var (pv 0)) de_non rfl))) dss_nil) (dss_cons (Γ1 := [0, 0, 0]) (ds_if (dt_val (de_isi (t := .list) (U.ty _) rfl (pty_bt (t := .list) rfl U.n_list (by rfl) rfl (fun _ z => nomatch z)) rfl U.n_isinstance (de_var (pv 1)))) (dss_one (ds_ret (de_fnH U.g__law_frac (okH__law_frac U) (hr.mono (by first | decide | omega)) tk hot rfl (da_cons (de_var (pv 0)) (da_cons (de_ix ix_seq (Prim2P.to p_ix) (de_var (pv 1)) de_int) (da_cons (de_ix ix_seq (Prim2P.to p_ix) (de_var (pv 1)) de_int) da_nil)))))) dss_nil) (dss_cons (Γ1 := [0, 0, 0]) (ds_if (dt_val (de_isi (t := .tuple) (U.ty _) rfl (pty_bt (t := .tuple) rfl U.n_tuple (by rfl) rfl (fun _ z => nomatch z)) rfl U.n_isinstance (de_var (pv 1)))) (dss_cons (Γ1 := [0, 0, 0]) (ds_if (dt_w (dw_or (dt_not (dt_val (de_isi (t := .tuple) (U.ty _) rfl (pty_bt (t := .tuple) rfl U.n_tuple (by rfl) rfl (fun _ z => nomatch z)) rfl U.n_isinstance (de_var (pv 0))))) (dw_or1 (dt_cmp op_ne p_ne (de_callB o_len (Prim1.args (Prim1P.to p_len)) rfl U.n_len rfl (da_cons (de_var (pv 0)) da_nil)) (de_callB o_len (Prim1.args (Prim1P.to p_len)) rfl U.n_len rfl (da_cons (de_var (pv 1)) da_nil)) rfl)))) (dss_one (ds_ret de_bl)) dss_nil) (dss_one (ds_ret (de_callB (cr_allH hot) (Prim1.args (Prim1P.to p_all)) rfl U.n_all rfl (da_cons (de_lcH hot sc__law_like.nd (P := [0, 1]) (own := [("k", 2)]) (k := 0) (di_range1H rfl U.n_range (da_cons (de_callB o_len (Prim1.args (Prim1P.to p_len)) rfl U.n_len rfl (da_cons (de_var (pv 1)) da_nil)) da_nil)) (blkOk_by rfl) (fun _ _ _ _ _ _ => (dg_name (pg_name (i := 2) sc__law_like.nd rfl (by first | exact Or.inl rfl | exact Or.inr rfl)))) (fun _ _ _ _ _ _ hot => dts_nil) (fun _ _ _ _ _ _ hot => (de_fnH U.g__law_like ih (hr.mono (by first | decide | omega)) takes0N hot rfl (da_cons (de_ix ix_seq (Prim2P.to p_ix) (de_var (pv 0)) (de_var (pv 2))) (da_cons (de_ix ix_seq (Prim2P.to p_ix) (de_var (pv 1)) (de_var (pv 2))) da_nil))))) da_nil))))) dss_nil) (dss_cons (Γ1 := [0, 0, 0]) (ds_if (dt_val (de_isi (t := .bool) (U.ty _) rfl (pty_bt (t := .bool) rfl U.n_bool (by rfl) rfl (fun _ z => nomatch z)) rfl U.n_isinstance (de_var (pv 1)))) (dss_one (ds_ret (de_and (de_isi (t := .bool) (U.ty _) rfl (pty_bt (t := .bool) rfl U.n_bool (by rfl) rfl (fun _ z => nomatch z)) rfl U.n_isinstance (de_var (pv 0))) (de_one (de_cmp op_eq p_eq (de_var (pv 0)) (de_var (pv 1)) rfl))))) dss_nil) (dss_cons (Γ1 := [0, 0, 0]) (ds_if (dt_val (de_isi (t := .int) (U.ty _) rfl (pty_bt (t := .int) rfl U.n_int (by rfl) rfl (fun _ z => nomatch z)) rfl U.n_isinstance (de_var (pv 1)))) (dss_one (ds_ret (de_and (de_fnH U.g__law_plain (okH__law_plain U) (hr.mono (by first | decide | omega)) tk hot rfl (da_cons (de_var (pv 0)) da_nil)) (de_one (de_cmp op_eq p_eq (de_var (pv 0)) (de_var (pv 1)) rfl))))) dss_nil) (dss_one (ds_ret (de_and (de_isi (t := .str) (U.ty _) rfl (pty_bt (t := .str) rfl U.n_str (by rfl) rfl (fun _ z => nomatch z)) rfl U.n_isinstance (de_var (pv 0))) (de_one (de_cmp op_eq p_eq (de_var (pv 0)) (de_var (pv 1)) rfl))))))))))
theorem ok_is_integer (U : Txt K mg a) : FnOk P w K mg base (L2N.CX P w) 1 a.f_is_integer a.d_is_integer ["value"] (spF K (tab a none) 0 m_is_integer) := by
  rw [mq_is_integer]
  exact okF (Pk := []) (J := ⟨[0], [0], [0], [0], 0⟩) (Γ := [0]) U.fn_is_integer sc_is_integer rfl rfl (by decide) rfl fun cdv A outer s H E hr tk => (dss_one (ds_ret (de_and (de_isi (t := .int) (U.ty _) rfl (pty_bt (t := .int) rfl U.n_int (by rfl) rfl (fun _ z => nomatch z)) rfl U.n_isinstance (de_var (pv 0))) (de_one (de_not (de_isi (t := .bool) (U.ty _) rfl (pty_bt (t := .bool) rfl U.n_bool (by rfl) rfl (fun _ z => nomatch z)) rfl U.n_isinstance (de_var (pv 0))))))))
theorem ok_is_between (U : Txt K mg a) : FnOk P w K mg base (L2N.CX P w) 2 a.f_is_between a.d_is_between ["value", "least", "most"] (spF K (tab a none) 0 m_is_between) := by
  rw [mq_is_between]
  exact okF (Pk := []) (J := ⟨[0, 0, 0], [0, 0, 0], [0, 0, 0], [0, 0, 0], 0⟩) (Γ := [0, 0, 0]) U.fn_is_between sc_is_between rfl rfl (by decide) rfl fun cdv A outer s H E hr tk => (dss_one (ds_ret (de_and (de_fn U.g_is_integer (ok_is_integer U) (hr.mono (by first | decide | omega)) tk rfl (da_cons (de_var (pv 0)) da_nil)) (de_one (de_chain op_le op_le p_ib p_ib (de_var (pv 1)) (de_var (pv 0)) (de_var (pv 2)))))))
theorem ok_WrongSize___init__ (U : Txt K mg a) : FnOk P w K mg base (L2N.CX P w) 1 a.f_WrongSize___init__ a.d_WrongSize___init__ ["self", "many"] (spX a.c_WrongSize ["many"]) := okX1 (k := 0) U.fn_WrongSize___init__ sc_WrongSize___init__ U.gx_WrongSize.ox U.nx_WrongSize_many fun cdv A outer s H E => (pss_one (ps_ost (pv 0) (pv 1)))
theorem ok_check_number (U : Txt K mg a) : FnOk P w K mg base (L2N.CX P w) 3 a.f_check_number a.d_check_number ["n"] (spF K (tab a none) 0 m_check_number) := by
  rw [mq_check_number]
  exact okF (Pk := []) (J := ⟨[0], [0], [0], [0], 0⟩) (Γ := [0]) U.fn_check_number sc_check_number rfl rfl (by decide) rfl fun cdv A outer s H E hr tk => (dss_one (ds_if (dt_not (dt_val (de_fn U.g_is_between (ok_is_between U) (hr.mono (by first | decide | omega)) tk rfl (da_cons (de_var (pv 0)) (da_cons de_int (da_cons (de_globE U.k_MOST_STRANGERS rfl (fun S H => by simp [Rep])) da_nil)))))) (dss_one (ds_raise (c := 2) (n := 1) U.gx_WrongSize (ok_WrongSize___init__ U) (hr.mono (by first | decide | omega)) tk rfl rfl (by decide) rfl (da_cons (de_var (pv 0)) da_nil))) dss_nil))
theorem ok_Frac___init__ (U : Txt K mg a) : FnOk P w K mg base (L2N.CX P w) 2 a.f_Frac___init__ a.d_Frac___init__ ["self", "num", "den"] (spB K (tab a none) 1 0 m_Frac___init__) := by
  rw [mq_Frac___init__]
  exact okB (Pk := [0]) (J := ⟨[1, 0, 0, 0], [1, 0, 0, 0], [1, 0, 0, 0], [1, 0, 0, 0], 0⟩) (Γ := [1, 0, 0, 0]) U.fn_Frac___init__ sc_Frac___init__ rfl (by decide) rfl rfl (fun i h1 h2 => (by decide : ∀ i, i < 3 → 1 ≤ i → ([1, 0, 0, 0] : List Nat).getD i 0 = 0) i h2 h1) rfl (by decide) rfl rfl fun cdv A outer s H E hr tk => (dss_cons (Γ1 := [1, 0, 0, 0]) (ds_if (dt_w (dw_or (dt_not (dt_val (de_fn U.g_is_integer (ok_is_integer U) (hr.mono (by first | decide | omega)) tk rfl (da_cons (de_var (pv 1)) da_nil)))) (dw_or (dt_not (dt_val (de_fn U.g_is_integer (ok_is_integer U) (hr.mono (by first | decide | omega)) tk rfl (da_cons (de_var (pv 2)) da_nil)))) (dw_or1 (dt_cmp op_eq p_eq (de_var (pv 2)) de_int rfl))))) (dss_one ds_never) dss_nil) (dss_cons (Γ1 := [1, 0, 0, 0]) (ds_nm (i := 3) sc_Frac___init__.nd rfl (by first | exact Or.inl rfl | exact Or.inr rfl) (de_callM cr_gcd p_gcd rfl U.m_gcd (da_cons (de_var (pv 1)) (da_cons (de_var (pv 2)) da_nil)))) (dss_cons (Γ1 := [1, 0, 0, 0]) (ds_if (dt_cmp op_lt p_ib (de_var (pv 2)) de_int rfl) (dss_one (ds_nm (i := 3) sc_Frac___init__.nd rfl (by first | exact Or.inl rfl | exact Or.inr rfl) (de_un un_neg p_u (de_var (pv 3))))) dss_nil) (dss_cons (Γ1 := [1, 0, 0, 0]) (ds_fldset (c := 0) (j := 0) U.cl_Frac U.na_Frac_num rfl fl_nd_0 fl_sm_0 (pv 0) (de_op o_div p_div (de_var (pv 1)) (de_var (pv 3)))) (dss_one (ds_fldset (c := 0) (j := 1) U.cl_Frac U.na_Frac_den rfl fl_nd_0 fl_sm_0 (pv 0) (de_op o_div p_div (de_var (pv 2)) (de_var (pv 3)))))))))
theorem ok_Frac___sub__ (U : Txt K mg a) : FnOk P w K mg base (L2N.CX P w) 4 a.f_Frac___sub__ a.d_Frac___sub__ ["self", "other"] (spF K (tab a none) 0 m_Frac___sub__) := by
  rw [mq_Frac___sub__]
  exact okF (Pk := []) (J := ⟨[0, 0], [0, 0], [0, 0], [0, 0], 0⟩) (Γ := [0, 0]) U.fn_Frac___sub__ sc_Frac___sub__ rfl rfl (by decide) rfl fun cdv A outer s H E hr tk => (dss_one (ds_ret (de_sh (de_newS (xd := []) U.gc_Frac U.gd_Frac___init___0 (ok_Frac___init__ U) (hr.mono (by first | decide | omega)) tk rfl reps_nil (da_cons (de_op op_sub p_i0 (de_op o_mul p_mul (de_fld (U.fo_num _) (de_var (pv 0))) (de_fld (U.fo_den _) (de_var (pv 1)))) (de_op o_mul p_mul (de_fld (U.fo_num _) (de_var (pv 1))) (de_fld (U.fo_den _) (de_var (pv 0))))) (da_cons (de_op o_mul p_mul (de_fld (U.fo_den _) (de_var (pv 0))) (de_fld (U.fo_den _) (de_var (pv 1)))) da_nil))))))
theorem ok_Frac___mul__ (U : Txt K mg a) : FnOk P w K mg base (L2N.CX P w) 4 a.f_Frac___mul__ a.d_Frac___mul__ ["self", "other"] (spF K (tab a none) 0 m_Frac___mul__) := by
  rw [mq_Frac___mul__]
  exact okF (Pk := []) (J := ⟨[0, 0], [0, 0], [0, 0], [0, 0], 0⟩) (Γ := [0, 0]) U.fn_Frac___mul__ sc_Frac___mul__ rfl rfl (by decide) rfl fun cdv A outer s H E hr tk => (dss_one (ds_ret (de_sh (de_newS (xd := []) U.gc_Frac U.gd_Frac___init___0 (ok_Frac___init__ U) (hr.mono (by first | decide | omega)) tk rfl reps_nil (da_cons (de_op o_mul p_mul (de_fld (U.fo_num _) (de_var (pv 0))) (de_fld (U.fo_num _) (de_var (pv 1)))) (da_cons (de_op o_mul p_mul (de_fld (U.fo_den _) (de_var (pv 0))) (de_fld (U.fo_den _) (de_var (pv 1)))) da_nil))))))
theorem ok_Frac___add__ (U : Txt K mg a) : FnOk P w K mg base (L2N.CX P w) 4 a.f_Frac___add__ a.d_Frac___add__ ["self", "other"] (spF K (tab a none) 0 m_Frac___add__) := by
  rw [mq_Frac___add__]
  exact okF (Pk := []) (J := ⟨[0, 0], [0, 0], [0, 0], [0, 0], 0⟩) (Γ := [0, 0]) U.fn_Frac___add__ sc_Frac___add__ rfl rfl (by decide) rfl fun cdv A outer s H E hr tk => (dss_one (ds_ret (de_sh (de_newS (xd := []) U.gc_Frac U.gd_Frac___init___0 (ok_Frac___init__ U) (hr.mono (by first | decide | omega)) tk rfl reps_nil (da_cons (de_op op_add p_i0 (de_op o_mul p_mul (de_fld (U.fo_num _) (de_var (pv 0))) (de_fld (U.fo_den _) (de_var (pv 1)))) (de_op o_mul p_mul (de_fld (U.fo_num _) (de_var (pv 1))) (de_fld (U.fo_den _) (de_var (pv 0))))) (da_cons (de_op o_mul p_mul (de_fld (U.fo_den _) (de_var (pv 0))) (de_fld (U.fo_den _) (de_var (pv 1)))) da_nil))))))
theorem ok_total (U : Txt K mg a) : FnOk P w K mg base (L2N.CX P w) 5 a.f_total a.d_total ["fracs"] (spF K (tab a none) 0 m_total) := by
  rw [mq_total]
  exact okF (Pk := []) (J := ⟨[0, 0, 0], [0, 0, 0], [0, 0, 0], [0, 0, 0], 0⟩) (Γ := [0, 0, 0]) U.fn_total sc_total rfl rfl (by decide) rfl fun cdv A outer s H E hr tk => (dss_cons (Γ1 := [0, 0, 0]) (ds_nm (i := 1) sc_total.nd rfl (by first | exact Or.inl rfl | exact Or.inr rfl) (de_sh (de_newS (xd := [.int 1]) U.gc_Frac U.gd_Frac___init___1 (ok_Frac___init__ U) (hr.mono (by first | decide | omega)) tk rfl reps_one (da_cons de_int da_nil)))) (dss_cons (Γ1 := [0, 0, 0]) (ds_for (passes_of rfl) rfl (di_list (de_var (pv 0))) (dg_name (pg_name (i := 2) sc_total.nd rfl (by first | exact Or.inl rfl | exact Or.inr rfl))) (dss_one (ds_nm (i := 1) sc_total.nd rfl (by first | exact Or.inl rfl | exact Or.inr rfl) (de_opO (mn := "__add__") rfl U.op_Frac___add__ (ok_Frac___add__ U) (hr.mono (by first | decide | omega)) tk (de_var (pv 1)) (de_var (pv 2)))))) (dss_one (ds_ret (de_var (pv 1))))))
theorem ok_mean_of_row (U : Txt K mg a) : FnOk P w K mg base (L2N.CX P w) 6 a.f_mean_of_row a.d_mean_of_row ["row"] (spF K (tab a none) 0 m_mean_of_row) := by
  rw [mq_mean_of_row]
  exact okF (Pk := []) (J := ⟨[0], [0], [0], [0], 0⟩) (Γ := [0]) U.fn_mean_of_row sc_mean_of_row rfl rfl (by decide) rfl fun cdv A outer s H E hr tk => (dss_one (ds_ret (de_opO (mn := "__mul__") rfl U.op_Frac___mul__ (ok_Frac___mul__ U) (hr.mono (by first | decide | omega)) tk (de_fn U.g_total (ok_total U) (hr.mono (by first | decide | omega)) tk rfl (da_cons (de_var (pv 0)) da_nil)) (de_sh (de_newS (xd := []) U.gc_Frac U.gd_Frac___init___0 (ok_Frac___init__ U) (hr.mono (by first | decide | omega)) tk rfl reps_nil (da_cons de_int (da_cons (de_callB o_len (Prim1.args (Prim1P.to p_len)) rfl U.n_len rfl (da_cons (de_var (pv 0)) da_nil)) da_nil)))))))
theorem ok_Frac_is_below (U : Txt K mg a) : FnOk P w K mg base (L2N.CX P w) 1 a.f_Frac_is_below a.d_Frac_is_below ["self", "other"] (spF K (tab a none) 0 m_Frac_is_below) := by
  rw [mq_Frac_is_below]
  exact okF (Pk := []) (J := ⟨[0, 0], [0, 0], [0, 0], [0, 0], 0⟩) (Γ := [0, 0]) U.fn_Frac_is_below sc_Frac_is_below rfl rfl (by decide) rfl fun cdv A outer s H E hr tk => (dss_one (ds_ret (de_cmp op_lt p_ib (de_op o_mul p_mul (de_fld (U.fo_num _) (de_var (pv 0))) (de_fld (U.fo_den _) (de_var (pv 1)))) (de_op o_mul p_mul (de_fld (U.fo_num _) (de_var (pv 1))) (de_fld (U.fo_den _) (de_var (pv 0)))) rfl)))
theorem ok_greatest_of (U : Txt K mg a) : FnOk P w K mg base (L2N.CX P w) 2 a.f_greatest_of a.d_greatest_of ["fracs"] (spF K (tab a none) 0 m_greatest_of) := by
  rw [mq_greatest_of]
  exact okF (Pk := []) (J := ⟨[0, 0, 0], [0, 0, 0], [0, 0, 0], [0, 0, 0], 0⟩) (Γ := [0, 0, 0]) U.fn_greatest_of sc_greatest_of rfl rfl (by decide) rfl fun cdv A outer s H E hr tk => (dss_cons (Γ1 := [0, 0, 0]) (ds_nm (i := 1) sc_greatest_of.nd rfl (by first | exact Or.inl rfl | exact Or.inr rfl) (de_ix ix_seq (Prim2P.to p_ix) (de_var (pv 0)) de_int)) (dss_cons (Γ1 := [0, 0, 0]) (ds_for (passes_of rfl) rfl (di_list (de_var (pv 0))) (dg_name (pg_name (i := 2) sc_greatest_of.nd rfl (by first | exact Or.inl rfl | exact Or.inr rfl))) (dss_one (ds_if (dt_val (de_methS (xd := []) U.cl_Frac U.me_Frac_is_below no_0_is_below (ok_Frac_is_below U) (hr.mono (by first | decide | omega)) tk U.b_Frac_is_below .nil reps_nil (de_var (pv 1)) (da_cons (de_var (pv 2)) da_nil))) (dss_one (ds_nm (i := 1) sc_greatest_of.nd rfl (by first | exact Or.inl rfl | exact Or.inr rfl) (de_var (pv 2)))) dss_nil))) (dss_one (ds_ret (de_var (pv 1))))))
theorem ok_means_from (U : Txt K mg a) : FnOk P w K mg base (L2N.CX P w) 7 a.f_means_from a.d_means_from ["rows"] (spF K (tab a none) 0 m_means_from) := by
  rw [mq_means_from]
  exact okF (Pk := []) (J := ⟨[0, 0, 0, 0, 0], [0, 0, 0, 0, 0], [0, 0, 0, 0, 0], [0, 0, 0, 0, 0], 0⟩) (Γ := [0, 0, 0, 0, 0]) U.fn_means_from sc_means_from rfl rfl (by decide) rfl fun cdv A outer s H E hr tk => (dss_cons (Γ1 := [0, 1, 0, 0, 0]) (ds_nm (i := 1) sc_means_from.nd rfl (by first | exact Or.inl rfl | exact Or.inr rfl) (de_lst (k := 1) (da_cons (de_fn U.g_mean_of_row (ok_mean_of_row U) (hr.mono (by first | decide | omega)) tk rfl (da_cons (de_ix ix_seq (Prim2P.to p_ix) (de_var (pv 0)) (de_un un_neg p_u de_int)) da_nil)) da_nil))) (dss_cons (Γ1 := [0, 1, 0, 0, 0]) (ds_for (passes_of rfl) rfl (di_revd rfl U.n_reversed (de_sl (k := 0) (de_var (pv 0)) do_none (do_some (de_un un_neg p_u de_int)))) (dg_name (pg_name (i := 2) sc_means_from.nd rfl (by first | exact Or.inl rfl | exact Or.inr rfl))) (dss_cons (Γ1 := [0, 1, 0, 0, 0]) (ds_nm (i := 3) sc_means_from.nd rfl (by first | exact Or.inl rfl | exact Or.inr rfl) (de_ixN ix_seq p_ix (pv 1) (de_un un_neg p_u de_int))) (dss_one (ds_app (pv 1) (de_fn U.g_mean_of_row (ok_mean_of_row U) (hr.mono (by first | decide | omega)) tk rfl (da_cons (de_lc rfl sc_means_from.nd (P := [0, 1, 2, 3]) (own := [("worth", 4)]) (k := 0) (di_list (de_var (pv 2))) (blkOk_by rfl) (fun _ _ _ _ _ => (dg_name (pg_name (i := 4) sc_means_from.nd rfl (by first | exact Or.inl rfl | exact Or.inr rfl)))) (fun _ _ _ _ _ => dts_nil) (fun _ _ _ _ _ => (de_fn U.g_greatest_of (ok_greatest_of U) (hr.mono (by first | decide | omega)) takes0N rfl (da_cons (de_lst (k := 0) (da_cons (de_var (pv 4)) (da_cons (de_var (pv 3)) da_nil))) da_nil)))) da_nil)))))) (dss_one (ds_ret (de_lstRev (k := 0) rfl U.n_list U.n_reversed rfl rfl (de_frz (pv 1)))))))
theorem ok_rank_worths (U : Txt K mg a) : FnOk P w K mg base (L2N.CX P w) 4 a.f_rank_worths a.d_rank_worths ["n"] (spF K (tab a none) 0 m_rank_worths) := by
  rw [mq_rank_worths]
  exact okF (Pk := []) (J := ⟨[0, 0, 0, 0], [0, 0, 0, 0], [0, 0, 0, 0], [0, 0, 0, 0], 0⟩) (Γ := [0, 0, 0, 0]) U.fn_rank_worths sc_rank_worths rfl rfl (by decide) rfl fun cdv A outer s H E hr tk => (dss_cons (Γ1 := [0, 1, 0, 0]) (ds_nm (i := 1) sc_rank_worths.nd rfl (by first | exact Or.inl rfl | exact Or.inr rfl) (de_lst (k := 1) da_nil)) (dss_cons (Γ1 := [0, 1, 0, 0]) (ds_for (passes_of rfl) rfl (di_range2 rfl U.n_range (da_cons de_int (da_cons (de_op op_add p_i0 (de_var (pv 0)) de_int) da_nil))) (dg_name (pg_name (i := 2) sc_rank_worths.nd rfl (by first | exact Or.inl rfl | exact Or.inr rfl))) (dss_one (ds_app (pv 1) (de_lc rfl sc_rank_worths.nd (P := [0, 1, 2]) (own := [("seen", 3)]) (k := 0) (di_range2 rfl U.n_range (da_cons de_int (da_cons (de_op op_add p_i0 (de_var (pv 2)) de_int) da_nil))) (blkOk_by rfl) (fun _ _ _ _ _ => (dg_name (pg_name (i := 3) sc_rank_worths.nd rfl (by first | exact Or.inl rfl | exact Or.inr rfl)))) (fun _ _ _ _ _ => dts_nil) (fun _ _ _ _ _ => (de_sh (de_newS (xd := []) U.gc_Frac U.gd_Frac___init___0 (ok_Frac___init__ U) (hr.mono (by first | decide | omega)) takes0N rfl reps_nil (da_cons (de_op o_mul p_mul (de_un un_neg p_u (de_var (pv 3))) (de_op op_add p_i0 (de_var (pv 0)) de_int)) (da_cons (de_op op_add p_i0 (de_var (pv 2)) de_int) da_nil))))))))) (dss_one (ds_ret (de_frz (pv 1))))))
theorem ok_least_mean_rank (U : Txt K mg a) : FnOk P w K mg base (L2N.CX P w) 8 a.f_least_mean_rank a.d_least_mean_rank ["n"] (spF K (tab a none) 0 m_least_mean_rank) := by
  rw [mq_least_mean_rank]
  exact okF (Pk := []) (J := ⟨[0], [0], [0], [0], 0⟩) (Γ := [0]) U.fn_least_mean_rank sc_least_mean_rank rfl rfl (by decide) rfl fun cdv A outer s H E hr tk => (dss_cons (Γ1 := [0]) (ds_drop (de_fn U.g_check_number (ok_check_number U) (hr.mono (by first | decide | omega)) tk rfl (da_cons (de_var (pv 0)) da_nil))) (dss_one (ds_ret (de_opO (mn := "__sub__") rfl U.op_Frac___sub__ (ok_Frac___sub__ U) (hr.mono (by first | decide | omega)) tk (de_sh (de_newS (xd := [.int 1]) U.gc_Frac U.gd_Frac___init___1 (ok_Frac___init__ U) (hr.mono (by first | decide | omega)) tk rfl reps_one (da_cons de_int da_nil))) (de_ix ix_seq (Prim2P.to p_ix) (de_fn U.g_means_from (ok_means_from U) (hr.mono (by first | decide | omega)) tk rfl (da_cons (de_fn U.g_rank_worths (ok_rank_worths U) (hr.mono (by first | decide | omega)) tk rfl (da_cons (de_var (pv 0)) da_nil)) da_nil)) de_int)))))
theorem ok_rule_of (U : Txt K mg a) : FnOk P w K mg base (L2N.CX P w) 8 a.f_rule_of a.d_rule_of ["rows"] (spF K (tab a none) 0 m_rule_of) := by
  rw [mq_rule_of]
  exact okF (Pk := []) (J := ⟨[0, 0, 0, 0, 0, 0], [0, 0, 0, 0, 0, 0], [0, 0, 0, 0, 0, 0], [0, 0, 1, 0, 0, 0], 0⟩) (Γ := [0, 0, 0, 0, 0, 0]) U.fn_rule_of sc_rule_of rfl rfl (by decide) rfl fun cdv A outer s H E hr tk => (dss_cons (Γ1 := [0, 0, 0, 0, 0, 0]) (ds_nm (i := 1) sc_rule_of.nd rfl (by first | exact Or.inl rfl | exact Or.inr rfl) (de_fn U.g_means_from (ok_means_from U) (hr.mono (by first | decide | omega)) tk rfl (da_cons (de_var (pv 0)) da_nil))) (dss_cons (Γ1 := [0, 0, 1, 0, 0, 0]) (ds_nm (i := 2) sc_rule_of.nd rfl (by first | exact Or.inl rfl | exact Or.inr rfl) (de_lst (k := 1) da_nil)) (dss_cons (Γ1 := [0, 0, 1, 0, 0, 0]) (ds_for (passes_of rfl) rfl (di_zip rfl U.n_zip (da_cons (de_sl (k := 0) (de_var (pv 0)) do_none (do_some (de_un un_neg p_u de_int))) (da_cons (de_sl (k := 0) (de_var (pv 1)) (do_some de_int) do_none) da_nil))) (dg_tup rfl (dgs_cons (dg_name (pg_name (i := 3) sc_rule_of.nd rfl (by first | exact Or.inl rfl | exact Or.inr rfl))) (dgs_cons (dg_name (pg_name (i := 4) sc_rule_of.nd rfl (by first | exact Or.inl rfl | exact Or.inr rfl))) dgs_nil))) (dss_cons (Γ1 := [0, 0, 1, 0, 0, 0]) (ds_nm (i := 5) sc_rule_of.nd rfl (by first | exact Or.inl rfl | exact Or.inr rfl) (de_callB o_len (Prim1.args (Prim1P.to p_len)) rfl U.n_len rfl (da_cons (de_var (pv 3)) da_nil))) (dss_cons (Γ1 := [0, 0, 1, 0, 0, 0]) (ds_while (n := 100) (passes_of rfl) (dt_w (dw_and (dt_cmp op_gt p_ib (de_var (pv 5)) de_int rfl) (dw_and1 (dt_val (de_methS (xd := []) U.cl_Frac U.me_Frac_is_below no_0_is_below (ok_Frac_is_below U) (hr.mono (by first | decide | omega)) tk U.b_Frac_is_below .nil reps_nil (de_ix ix_seq (Prim2P.to p_ix) (de_var (pv 3)) (de_op op_sub p_i0 (de_var (pv 5)) de_int)) (da_cons (de_var (pv 4)) da_nil)))))) (dss_one (ds_aug iop_sub p_i0 (fun _ h => ps_aug (i := 5) sc_rule_of.nd rfl (by first | exact Or.inl rfl | exact Or.inr rfl) h iop_sub) de_int))) (dss_one (ds_app (pv 2) (de_var (pv 5))))))) (dss_cons (Γ1 := [0, 0, 1, 0, 0, 0]) (ds_app (pv 2) (de_callB o_len (Prim1.args (Prim1P.to p_len)) rfl U.n_len rfl (da_cons (de_var (pv 0)) da_nil))) (dss_one (ds_ret (de_callTyN (k := 0) o_tuple p_tuple rfl U.n_tuple rfl (pv 2))))))))
theorem ok_mean_rank_rule (U : Txt K mg a) : FnOk P w K mg base (L2N.CX P w) 9 a.f_mean_rank_rule a.d_mean_rank_rule ["n"] (spF K (tab a none) 0 m_mean_rank_rule) := by
  rw [mq_mean_rank_rule]
  exact okF (Pk := []) (J := ⟨[0], [0], [0], [0], 0⟩) (Γ := [0]) U.fn_mean_rank_rule sc_mean_rank_rule rfl rfl (by decide) rfl fun cdv A outer s H E hr tk => (dss_cons (Γ1 := [0]) (ds_drop (de_fn U.g_check_number (ok_check_number U) (hr.mono (by first | decide | omega)) tk rfl (da_cons (de_var (pv 0)) da_nil))) (dss_one (ds_ret (de_fn U.g_rule_of (ok_rule_of U) (hr.mono (by first | decide | omega)) tk rfl (da_cons (de_fn U.g_rank_worths (ok_rank_worths U) (hr.mono (by first | decide | omega)) tk rfl (da_cons (de_var (pv 0)) da_nil)) da_nil)))))
theorem ok_Unfit___init__ (U : Txt K mg a) : FnOk P w K mg base (L2N.CX P w) 1 a.f_Unfit___init__ a.d_Unfit___init__ ["self", "what"] (spX a.c_Unfit ["what"]) := okX1 (k := 0) U.fn_Unfit___init__ sc_Unfit___init__ U.gx_Unfit.ox U.nx_Unfit_what fun cdv A outer s H E => (pss_one (ps_ost (pv 0) (pv 1)))
theorem ok_check_top (U : Txt K mg a) : FnOk P w K mg base (L2N.CX P w) 4 a.f_check_top a.d_check_top ["n", "many"] (spF K (tab a none) 0 m_check_top) := by
  rw [mq_check_top]
  exact okF (Pk := []) (J := ⟨[0, 0], [0, 0], [0, 0], [0, 0], 0⟩) (Γ := [0, 0]) U.fn_check_top sc_check_top rfl rfl (by decide) rfl fun cdv A outer s H E hr tk => (dss_cons (Γ1 := [0, 0]) (ds_drop (de_fn U.g_check_number (ok_check_number U) (hr.mono (by first | decide | omega)) tk rfl (da_cons (de_var (pv 0)) da_nil))) (dss_one (ds_if (dt_not (dt_val (de_fn U.g_is_between (ok_is_between U) (hr.mono (by first | decide | omega)) tk rfl (da_cons (de_var (pv 1)) (da_cons de_int (da_cons (de_var (pv 0)) da_nil)))))) (dss_one (ds_raise (c := 1) (n := 1) U.gx_Unfit (ok_Unfit___init__ U) (hr.mono (by first | decide | omega)) tk rfl rfl (by decide) rfl (da_cons de_str da_nil))) dss_nil)))
theorem ok_rank_weight (U : Txt K mg a) : FnOk P w K mg base (L2N.CX P w) 1 a.f_rank_weight a.d_rank_weight ["n", "come", "seen", "rank"] (spF K (tab a none) 0 m_rank_weight) := by
  rw [mq_rank_weight]
  exact okF (Pk := []) (J := ⟨[0, 0, 0, 0], [0, 0, 0, 0], [0, 0, 0, 0], [0, 0, 0, 0], 0⟩) (Γ := [0, 0, 0, 0]) U.fn_rank_weight sc_rank_weight rfl rfl (by decide) rfl fun cdv A outer s H E hr tk => (dss_one (ds_ret (de_op o_mul p_mul (de_callM cr_comb p_comb rfl U.m_comb (da_cons (de_op op_sub p_i0 (de_var (pv 3)) de_int) (da_cons (de_op op_sub p_i0 (de_var (pv 2)) de_int) da_nil))) (de_callM cr_comb p_comb rfl U.m_comb (da_cons (de_op op_sub p_i0 (de_var (pv 0)) (de_var (pv 3))) (da_cons (de_op op_sub p_i0 (de_var (pv 1)) (de_var (pv 2))) da_nil))))))
theorem ok_top_worths (U : Txt K mg a) : FnOk P w K mg base (L2N.CX P w) 4 a.f_top_worths a.d_top_worths ["n", "many"] (spF K (tab a none) 0 m_top_worths) := by
  rw [mq_top_worths]
  exact okF (Pk := []) (J := ⟨[0, 0, 0, 0, 0, 0, 0, 0], [0, 0, 0, 0, 0, 0, 0, 0], [0, 0, 0, 0, 0, 0, 0, 0], [0, 0, 0, 0, 0, 0, 0, 0], 0⟩) (Γ := [0, 0, 0, 0, 0, 0, 0, 0]) U.fn_top_worths sc_top_worths rfl rfl (by decide) rfl fun cdv A outer s H E hr tk => (dss_cons (Γ1 := [0, 0, 1, 0, 0, 0, 0, 0]) (ds_nm (i := 2) sc_top_worths.nd rfl (by first | exact Or.inl rfl | exact Or.inr rfl) (de_lst (k := 1) da_nil)) (dss_cons (Γ1 := [0, 0, 1, 0, 0, 0, 0, 0]) (ds_for (passes_of rfl) rfl (di_range2 rfl U.n_range (da_cons de_int (da_cons (de_op op_add p_i0 (de_var (pv 0)) de_int) da_nil))) (dg_name (pg_name (i := 3) sc_top_worths.nd rfl (by first | exact Or.inl rfl | exact Or.inr rfl))) (dss_cons (Γ1 := [0, 0, 1, 0, 1, 0, 0, 0]) (ds_nm (i := 4) sc_top_worths.nd rfl (by first | exact Or.inl rfl | exact Or.inr rfl) (de_lst (k := 1) da_nil)) (dss_cons (Γ1 := [0, 0, 1, 0, 1, 0, 0, 0]) (ds_for (passes_of rfl) rfl (di_range2 rfl U.n_range (da_cons de_int (da_cons (de_op op_add p_i0 (de_var (pv 3)) de_int) da_nil))) (dg_name (pg_name (i := 5) sc_top_worths.nd rfl (by first | exact Or.inl rfl | exact Or.inr rfl))) (dss_cons (Γ1 := [0, 0, 1, 0, 1, 0, 0, 0]) (ds_nm (i := 6) sc_top_worths.nd rfl (by first | exact Or.inl rfl | exact Or.inr rfl) (de_callB (cr_sum rfl) (Prim1.args (Prim1P.to p_sum)) rfl U.n_sum rfl (da_cons (de_lc rfl sc_top_worths.nd (P := [0, 1, 2, 3, 4, 5, 6]) (own := [("rank", 7)]) (k := 0) (di_range2 rfl U.n_range (da_cons (de_var (pv 5)) (da_cons (de_op op_add p_i0 (de_var (pv 1)) de_int) da_nil))) (blkOk_by rfl) (fun _ _ _ _ _ => (dg_name (pg_name (i := 7) sc_top_worths.nd rfl (by first | exact Or.inl rfl | exact Or.inr rfl)))) (fun _ _ _ _ _ => dts_nil) (fun _ _ _ _ _ => (de_fn U.g_rank_weight (ok_rank_weight U) (hr.mono (by first | decide | omega)) takes0N rfl (da_cons (de_var (pv 0)) (da_cons (de_var (pv 3)) (da_cons (de_var (pv 5)) (da_cons (de_var (pv 7)) da_nil))))))) da_nil))) (dss_one (ds_app (pv 4) (de_sh (de_newS (xd := []) U.gc_Frac U.gd_Frac___init___0 (ok_Frac___init__ U) (hr.mono (by first | decide | omega)) tk rfl reps_nil (da_cons (de_var (pv 6)) (da_cons (de_callM cr_comb p_comb rfl U.m_comb (da_cons (de_var (pv 0)) (da_cons (de_var (pv 3)) da_nil))) da_nil)))))))) (dss_one (ds_app (pv 2) (de_frz (pv 4))))))) (dss_one (ds_ret (de_frz (pv 2))))))
theorem ok_top_chance (U : Txt K mg a) : FnOk P w K mg base (L2N.CX P w) 8 a.f_top_chance a.d_top_chance ["n", "many"] (spF K (tab a none) 0 m_top_chance) := by
  rw [mq_top_chance]
  exact okF (Pk := []) (J := ⟨[0, 0], [0, 0], [0, 0], [0, 0], 0⟩) (Γ := [0, 0]) U.fn_top_chance sc_top_chance rfl rfl (by decide) rfl fun cdv A outer s H E hr tk => (dss_cons (Γ1 := [0, 0]) (ds_drop (de_fn U.g_check_top (ok_check_top U) (hr.mono (by first | decide | omega)) tk rfl (da_cons (de_var (pv 0)) (da_cons (de_var (pv 1)) da_nil)))) (dss_one (ds_ret (de_ix ix_seq (Prim2P.to p_ix) (de_fn U.g_means_from (ok_means_from U) (hr.mono (by first | decide | omega)) tk rfl (da_cons (de_fn U.g_top_worths (ok_top_worths U) (hr.mono (by first | decide | omega)) tk rfl (da_cons (de_var (pv 0)) (da_cons (de_var (pv 1)) da_nil))) da_nil)) de_int))))
theorem ok_top_rule (U : Txt K mg a) : FnOk P w K mg base (L2N.CX P w) 9 a.f_top_rule a.d_top_rule ["n", "many"] (spF K (tab a none) 0 m_top_rule) := by
  rw [mq_top_rule]
  exact okF (Pk := []) (J := ⟨[0, 0], [0, 0], [0, 0], [0, 0], 0⟩) (Γ := [0, 0]) U.fn_top_rule sc_top_rule rfl rfl (by decide) rfl fun cdv A outer s H E hr tk => (dss_cons (Γ1 := [0, 0]) (ds_drop (de_fn U.g_check_top (ok_check_top U) (hr.mono (by first | decide | omega)) tk rfl (da_cons (de_var (pv 0)) (da_cons (de_var (pv 1)) da_nil)))) (dss_one (ds_ret (de_fn U.g_rule_of (ok_rule_of U) (hr.mono (by first | decide | omega)) tk rfl (da_cons (de_fn U.g_top_worths (ok_top_worths U) (hr.mono (by first | decide | omega)) tk rfl (da_cons (de_var (pv 0)) (da_cons (de_var (pv 1)) da_nil))) da_nil)))))
theorem ok_is_sequence (U : Txt K mg a) : FnOk P w K mg base (L2N.CX P w) 1 a.f_is_sequence a.d_is_sequence ["value"] (spF K (tab a none) 0 m_is_sequence) := by
  rw [mq_is_sequence]
  exact okF (Pk := []) (J := ⟨[0], [0], [0], [0], 0⟩) (Γ := [0]) U.fn_is_sequence sc_is_sequence rfl rfl (by decide) rfl fun cdv A outer s H E hr tk => (dss_one (ds_ret (de_isiT (ts := [.list, .tuple]) (U.ty _) (by rfl) (by decide) (pty_cons (pty_bt (t := .list) rfl U.n_list (by rfl) rfl (fun _ z => nomatch z)) (pty_cons (pty_bt (t := .tuple) rfl U.n_tuple (by rfl) rfl (fun _ z => nomatch z)) pty_nil)) rfl U.n_isinstance (de_var (pv 0)))))
theorem ok_limits_of (U : Txt K mg a) : FnOk P w K mg base (L2N.CX P w) 2 a.f_limits_of a.d_limits_of ["n", "rule"] (spF K (tab a none) 0 m_limits_of) := by
  rw [mq_limits_of]
  exact okF (Pk := []) (J := ⟨[0, 0, 0, 0, 0], [0, 0, 0, 0, 0], [0, 0, 0, 0, 0], [0, 0, 0, 0, 0], 0⟩) (Γ := [0, 0, 0, 0, 0]) U.fn_limits_of sc_limits_of rfl rfl (by decide) rfl fun cdv A outer s H E hr tk => (dss_cons (Γ1 := [0, 0, 0, 0, 0]) (ds_if (dt_w (dw_or (dt_not (dt_val (de_fn U.g_is_sequence (ok_is_sequence U) (hr.mono (by first | decide | omega)) tk rfl (da_cons (de_var (pv 1)) da_nil)))) (dw_or1 (dt_cmp op_ne p_ne (de_callB o_len (Prim1.args (Prim1P.to p_len)) rfl U.n_len rfl (da_cons (de_var (pv 1)) da_nil)) (de_var (pv 0)) rfl)))) (dss_one ds_never) dss_nil) (dss_cons (Γ1 := [0, 0, 0, 0, 0]) (ds_if (dt_not (dt_val (de_callB (cr_all rfl) (Prim1.args (Prim1P.to p_all)) rfl U.n_all rfl (da_cons (de_lc rfl sc_limits_of.nd (P := [0, 1, 2, 4]) (own := [("limit", 3)]) (k := 0) (di_any (de_var (pv 1))) (blkOk_by rfl) (fun _ _ _ _ _ => (dg_name (pg_name (i := 3) sc_limits_of.nd rfl (by first | exact Or.inl rfl | exact Or.inr rfl)))) (fun _ _ _ _ _ => dts_nil) (fun _ _ _ _ _ => (de_and (de_fn U.g_is_integer (ok_is_integer U) (hr.mono (by first | decide | omega)) takes0N rfl (da_cons (de_var (pv 3)) da_nil)) (de_one (de_cmp op_ge p_ib (de_var (pv 3)) de_int rfl))))) da_nil)))) (dss_one ds_never) dss_nil) (dss_cons (Γ1 := [0, 0, 0, 0, 0]) (ds_setLc (i := 2) rfl sc_limits_of.nd rfl rfl (sw_true rfl rfl rfl rfl) (P := [0, 1, 2]) (own := [("at", 4), ("limit", 3)]) (k := 0) (di_enum rfl U.n_enumerate (de_var (pv 1))) (blkOk_by rfl) (fun _ _ _ _ _ => (dg_tup rfl (dgs_cons (dg_name (pg_name (i := 4) sc_limits_of.nd rfl (by first | exact Or.inl rfl | exact Or.inr rfl))) (dgs_cons (dg_name (pg_name (i := 3) sc_limits_of.nd rfl (by first | exact Or.inl rfl | exact Or.inr rfl))) dgs_nil)))) (fun _ _ _ _ _ => dts_nil) (fun _ _ _ _ _ => (de_callB (call_min2 rfl) (p_two (f := fun i j => if j < i then j else i)) rfl U.n_min rfl (da_cons (de_var (pv 3)) (da_cons (de_op op_add p_i0 (de_var (pv 4)) de_int) da_nil))))) (dss_one (ds_ret (de_op (k := 0) op_cat (Prim2P.to p_cat) (de_sl (k := 0) (de_var (pv 2)) do_none (do_some (de_un un_neg p_u de_int))) (de_lst (k := 0) (da_cons (de_var (pv 0)) da_nil))))))))
theorem ok_followed (U : Txt K mg a) : FnOk P w K mg base (L2N.CX P w) 5 a.f_followed a.d_followed ["n", "rule"] (spF K (tab a none) 0 m_followed) := by
  rw [mq_followed]
  exact okF (Pk := []) (J := ⟨[0, 0, 0, 0, 0, 0, 0, 0, 0, 0, 0, 0], [0, 0, 0, 0, 0, 0, 0, 0, 0, 0, 0, 0], [0, 0, 0, 0, 0, 0, 0, 0, 0, 0, 0, 0], [0, 0, 1, 0, 0, 0, 0, 0, 0, 0, 0, 0], 0⟩) (Γ := [0, 0, 0, 0, 0, 0, 0, 0, 0, 0, 0, 0]) U.fn_followed sc_followed rfl rfl (by decide) rfl fun cdv A outer s H E hr tk => (dss_cons (Γ1 := [0, 0, 0, 0, 0, 0, 0, 0, 0, 0, 0, 0]) (ds_drop (de_fn U.g_check_number (ok_check_number U) (hr.mono (by first | decide | omega)) tk rfl (da_cons (de_var (pv 0)) da_nil))) (dss_cons (Γ1 := [0, 0, 1, 0, 0, 0, 0, 0, 0, 0, 0, 0]) (ds_setLc (i := 2) rfl sc_followed.nd rfl rfl (sw_true rfl rfl rfl rfl) (P := [0, 1, 2, 3, 4, 5, 6, 7, 8, 9, 11]) (own := [("_", 10)]) (k := 1) (di_range1 rfl U.n_range (da_cons (de_var (pv 0)) da_nil)) (blkOk_by rfl) (fun _ _ _ _ _ => (dg_name (pg_name (i := 10) sc_followed.nd rfl (by first | exact Or.inl rfl | exact Or.inr rfl)))) (fun _ _ _ _ _ => dts_nil) (fun _ _ _ _ _ => (de_sh (de_newS (xd := [.int 1]) U.gc_Frac U.gd_Frac___init___1 (ok_Frac___init__ U) (hr.mono (by first | decide | omega)) takes0N rfl reps_one (da_cons de_int da_nil))))) (dss_cons (Γ1 := [0, 0, 1, 0, 0, 0, 0, 0, 0, 0, 0, 0]) (ds_nm (i := 3) sc_followed.nd rfl (by first | exact Or.inl rfl | exact Or.inr rfl) (de_sh (de_newS (xd := [.int 1]) U.gc_Frac U.gd_Frac___init___1 (ok_Frac___init__ U) (hr.mono (by first | decide | omega)) tk rfl reps_one (da_cons de_int da_nil)))) (dss_cons (Γ1 := [0, 0, 1, 0, 0, 0, 0, 0, 0, 0, 0, 0]) (ds_for (passes_of rfl) rfl (di_enum rfl U.n_enumerate (de_fn U.g_limits_of (ok_limits_of U) (hr.mono (by first | decide | omega)) tk rfl (da_cons (de_var (pv 0)) (da_cons (de_var (pv 1)) da_nil)))) (dg_tup rfl (dgs_cons (dg_name (pg_name (i := 4) sc_followed.nd rfl (by first | exact Or.inl rfl | exact Or.inr rfl))) (dgs_cons (dg_name (pg_name (i := 5) sc_followed.nd rfl (by first | exact Or.inl rfl | exact Or.inr rfl))) dgs_nil))) (dss_cons (Γ1 := [0, 0, 1, 0, 0, 0, 0, 0, 0, 0, 0, 0]) (ds_nm (i := 6) sc_followed.nd rfl (by first | exact Or.inl rfl | exact Or.inr rfl) (de_op op_add p_i0 (de_var (pv 4)) de_int)) (dss_cons (Γ1 := [0, 0, 1, 0, 0, 0, 0, 0, 0, 0, 0, 0]) (ds_nm (i := 7) sc_followed.nd rfl (by first | exact Or.inl rfl | exact Or.inr rfl) (de_opO (mn := "__mul__") rfl U.op_Frac___mul__ (ok_Frac___mul__ U) (hr.mono (by first | decide | omega)) tk (de_var (pv 3)) (de_sh (de_newS (xd := []) U.gc_Frac U.gd_Frac___init___0 (ok_Frac___init__ U) (hr.mono (by first | decide | omega)) tk rfl reps_nil (da_cons de_int (da_cons (de_op o_mul p_mul (de_var (pv 6)) (de_callM cr_comb p_comb rfl U.m_comb (da_cons (de_var (pv 0)) (da_cons (de_var (pv 6)) da_nil)))) da_nil)))))) (dss_cons (Γ1 := [0, 0, 1, 0, 0, 0, 0, 0, 0, 0, 0, 0]) (ds_for (passes_of rfl) rfl (di_range2 rfl U.n_range (da_cons de_int (da_cons (de_op op_add p_i0 (de_var (pv 0)) de_int) da_nil))) (dg_name (pg_name (i := 8) sc_followed.nd rfl (by first | exact Or.inl rfl | exact Or.inr rfl))) (dss_cons (Γ1 := [0, 0, 1, 0, 0, 0, 0, 0, 0, 0, 0, 0]) (ds_nm (i := 9) sc_followed.nd rfl (by first | exact Or.inl rfl | exact Or.inr rfl) (de_callB (cr_sum rfl) (Prim1.args (Prim1P.to p_sum)) rfl U.n_sum rfl (da_cons (de_lc rfl sc_followed.nd (P := [0, 1, 2, 3, 4, 5, 6, 7, 8, 9, 10]) (own := [("seen", 11)]) (k := 0) (di_range2 rfl U.n_range (da_cons de_int (da_cons (de_op op_add p_i0 (de_var (pv 5)) de_int) da_nil))) (blkOk_by rfl) (fun _ _ _ _ _ => (dg_name (pg_name (i := 11) sc_followed.nd rfl (by first | exact Or.inl rfl | exact Or.inr rfl)))) (fun _ _ _ _ _ => dts_nil) (fun _ _ _ _ _ => (de_fn U.g_rank_weight (ok_rank_weight U) (hr.mono (by first | decide | omega)) takes0N rfl (da_cons (de_var (pv 0)) (da_cons (de_var (pv 6)) (da_cons (de_var (pv 11)) (da_cons (de_var (pv 8)) da_nil))))))) da_nil))) (dss_one (ds_setix (pv 2) (de_opO (mn := "__add__") rfl U.op_Frac___add__ (ok_Frac___add__ U) (hr.mono (by first | decide | omega)) tk (de_ixN ix_seq p_ix (pv 2) (de_op op_sub p_i0 (de_var (pv 8)) de_int)) (de_opO (mn := "__mul__") rfl U.op_Frac___mul__ (ok_Frac___mul__ U) (hr.mono (by first | decide | omega)) tk (de_var (pv 7)) (de_sh (de_newS (xd := [.int 1]) U.gc_Frac U.gd_Frac___init___1 (ok_Frac___init__ U) (hr.mono (by first | decide | omega)) tk rfl reps_one (da_cons (de_var (pv 9)) da_nil))))) (de_op op_sub p_i0 (de_var (pv 8)) de_int))))) (dss_one (ds_nm (i := 3) sc_followed.nd rfl (by first | exact Or.inl rfl | exact Or.inr rfl) (de_opO (mn := "__mul__") rfl U.op_Frac___mul__ (ok_Frac___mul__ U) (hr.mono (by first | decide | omega)) tk (de_var (pv 3)) (de_sh (de_newS (xd := []) U.gc_Frac U.gd_Frac___init___0 (ok_Frac___init__ U) (hr.mono (by first | decide | omega)) tk rfl reps_nil (da_cons (de_op op_sub p_i0 (de_var (pv 6)) (de_var (pv 5))) (da_cons (de_var (pv 6)) da_nil))))))))))) (dss_one (ds_ret (de_callTyN (k := 0) o_tuple p_tuple rfl U.n_tuple rfl (pv 2))))))))
theorem ok__law_taken (U : Txt K mg a) : FnOk P w K mg base (L2N.CX P w) 1 a.f__law_taken a.d__law_taken ["table", "rule"] (spF K (tab a none) 0 m__law_taken) := by
  rw [mq__law_taken]
  exact okF (Pk := []) (J := ⟨[0, 0, 0, 0, 0, 0, 0, 0, 0], [0, 0, 0, 0, 0, 0, 0, 0, 0], [0, 0, 0, 0, 0, 0, 0, 0, 0], [0, 0, 0, 0, 0, 0, 0, 0, 0], 0⟩) (Γ := [0, 0, 0, 0, 0, 0, 0, 0, 0]) U.fn__law_taken sc__law_taken rfl rfl (by decide) rfl fun cdv A outer s H E hr tk => (dss_cons (Γ1 := [0, 0, 0, 0, 0, 0, 0, 0, 0]) (ds_nm (i := 2) sc__law_taken.nd rfl (by first | exact Or.inl rfl | exact Or.inr rfl) (de_callB o_len (Prim1.args (Prim1P.to p_len)) rfl U.n_len rfl (da_cons (de_var (pv 0)) da_nil))) (dss_cons (Γ1 := [0, 0, 0, 0, 0, 0, 0, 0, 0]) (ds_nm (i := 3) sc__law_taken.nd rfl (by first | exact Or.inl rfl | exact Or.inr rfl) (de_lc rfl sc__law_taken.nd (P := [0, 1, 2, 3, 4, 5, 6, 7]) (own := [("k", 8)]) (k := 0) (di_range1 rfl U.n_range (da_cons (de_var (pv 2)) da_nil)) (blkOk_by rfl) (fun _ _ _ _ _ => (dg_name (pg_name (i := 8) sc__law_taken.nd rfl (by first | exact Or.inl rfl | exact Or.inr rfl)))) (fun _ _ _ _ _ => dts_nil) (fun _ _ _ _ _ => de_int))) (dss_cons (Γ1 := [0, 0, 0, 0, 0, 0, 0, 0, 0]) (ds_nm (i := 4) sc__law_taken.nd rfl (by first | exact Or.inl rfl | exact Or.inr rfl) de_int) (dss_cons (Γ1 := [0, 0, 0, 0, 0, 0, 0, 0, 0]) (ds_for (passes_of rfl) rfl (di_range1 rfl U.n_range (da_cons (de_var (pv 2)) da_nil)) (dg_name (pg_name (i := 5) sc__law_taken.nd rfl (by first | exact Or.inl rfl | exact Or.inr rfl))) (dss_cons (Γ1 := [0, 0, 0, 0, 0, 0, 0, 0, 0]) (ds_nm (i := 6) sc__law_taken.nd rfl (by first | exact Or.inl rfl | exact Or.inr rfl) (de_ix ix_seq (Prim2P.to p_ix) (de_var (pv 1)) (de_var (pv 5)))) (dss_cons (Γ1 := [0, 0, 0, 0, 0, 0, 0, 0, 0]) (ds_if (dt_w (dw_or (dt_cmp op_gt p_ib (de_var (pv 6)) (de_op op_add p_i0 (de_var (pv 5)) de_int) rfl) (dw_or1 (dt_cmp op_eq p_eq (de_var (pv 5)) (de_op op_sub p_i0 (de_var (pv 2)) de_int) rfl)))) (dss_one (ds_nm (i := 6) sc__law_taken.nd rfl (by first | exact Or.inl rfl | exact Or.inr rfl) (de_op op_add p_i0 (de_var (pv 5)) de_int))) dss_nil) (dss_cons (Γ1 := [0, 0, 0, 0, 0, 0, 0, 0, 0]) (ds_for (passes_of rfl) rfl (di_list (de_sl (k := 0) (de_ix ix_seq (Prim2P.to p_ix) (de_var (pv 0)) (de_var (pv 5))) do_none (do_some (de_var (pv 6))))) (dg_name (pg_name (i := 7) sc__law_taken.nd rfl (by first | exact Or.inl rfl | exact Or.inr rfl))) (dss_one (ds_nm (i := 3) sc__law_taken.nd rfl (by first | exact Or.inl rfl | exact Or.inr rfl) (de_lc rfl sc__law_taken.nd (P := [0, 1, 2, 3, 4, 5, 6, 7]) (own := [("k", 8)]) (k := 0) (di_range1 rfl U.n_range (da_cons (de_var (pv 2)) da_nil)) (blkOk_by rfl) (fun _ _ _ _ _ => (dg_name (pg_name (i := 8) sc__law_taken.nd rfl (by first | exact Or.inl rfl | exact Or.inr rfl)))) (fun _ _ _ _ _ => dts_nil) (fun _ _ _ _ _ => (de_op op_add p_i0 (de_ix ix_seq (Prim2P.to p_ix) (de_var (pv 3)) (de_var (pv 8))) (de_op o_mul p_mul (de_var (pv 4)) (de_ix ix_seq (Prim2P.to p_ix) (de_var (pv 7)) (de_var (pv 8)))))))))) (dss_one (ds_nm (i := 4) sc__law_taken.nd rfl (by first | exact Or.inl rfl | exact Or.inr rfl) (de_op o_mul p_mul (de_var (pv 4)) (de_op op_sub p_i0 (de_op op_add p_i0 (de_var (pv 5)) de_int) (de_var (pv 6)))))))))) (dss_one (ds_ret (de_var (pv 3))))))))
theorem ok__law_chances (U : Txt K mg a) : FnOk P w K mg base (L2N.CX P w) 2 a.f__law_chances a.d__law_chances ["table", "rule", "whole"] (spF K (tab a none) 0 m__law_chances) := by
  rw [mq__law_chances]
  exact okF (Pk := []) (J := ⟨[0, 0, 0, 0], [0, 0, 0, 0], [0, 0, 0, 0], [0, 0, 0, 0], 0⟩) (Γ := [0, 0, 0, 0]) U.fn__law_chances sc__law_chances rfl rfl (by decide) rfl fun cdv A outer s H E hr tk => (dss_one (ds_ret (de_callTy (k := 0) o_tuple (Prim1.args (Prim1P.to p_tuple)) rfl U.n_tuple rfl (da_cons (de_lc rfl sc__law_chances.nd (P := [0, 1, 2]) (own := [("count", 3)]) (k := 0) (di_list (de_fn U.g__law_taken (ok__law_taken U) (hr.mono (by first | decide | omega)) tk rfl (da_cons (de_var (pv 0)) (da_cons (de_var (pv 1)) da_nil)))) (blkOk_by rfl) (fun _ _ _ _ _ => (dg_name (pg_name (i := 3) sc__law_chances.nd rfl (by first | exact Or.inl rfl | exact Or.inr rfl)))) (fun _ _ _ _ _ => dts_nil) (fun _ _ _ _ _ => (de_lst (k := 0) (da_cons (de_var (pv 3)) (da_cons (de_var (pv 2)) da_nil))))) da_nil))))
theorem ok__law_goal_holds (U : Txt K mg a) : FnOk P w K mg base (L2N.CX P w) 10 a.f__law_goal_holds a.d__law_goal_holds ["size", "goal", "table", "whole"] (spF K (tab a none) 0 m__law_goal_holds) := by
  rw [mq__law_goal_holds]
  exact okF (Pk := []) (J := ⟨[0, 0, 0, 0, 0], [0, 0, 0, 0, 0], [0, 0, 0, 0, 0], [0, 0, 0, 0, 0], 0⟩) (Γ := [0, 0, 0, 0, 0]) U.fn__law_goal_holds sc__law_goal_holds rfl rfl (by decide) rfl fun cdv A outer s H E hr tk => (dss_cons (Γ1 := [0, 0, 0, 0, 0]) (ds_nm (i := 4) sc__law_goal_holds.nd rfl (by first | exact Or.inl rfl | exact Or.inr rfl) (de_fn U.g__law_backward (ok__law_backward U) (hr.mono (by first | decide | omega)) tk rfl (da_cons (de_var (pv 2)) (da_cons (de_var (pv 1)) da_nil)))) (dss_cons (Γ1 := [0, 0, 0, 0, 0]) (ds_if (dt_cmp op_eq p_eq (de_var (pv 1)) de_int rfl) (dss_one (ds_if (dt_w (dw_or (dt_not (dt_val (de_fn U.g__law_like (ok__law_like U 3) (hr.mono (by first | decide | omega)) tk rfl (da_cons (de_fn U.g_least_mean_rank (ok_least_mean_rank U) (hr.mono (by first | decide | omega)) tk rfl (da_cons (de_var (pv 0)) da_nil)) (da_cons (de_lst (k := 0) (da_cons (de_un un_neg p_u (de_ix ix_seq (Prim2P.to p_ix) (de_var (pv 4)) de_int)) (da_cons (de_var (pv 3)) da_nil))) da_nil))))) (dw_or1 (dt_not (dt_val (de_fn U.g__law_like (ok__law_like U 3) (hr.mono (by first | decide | omega)) tk rfl (da_cons (de_fn U.g_mean_rank_rule (ok_mean_rank_rule U) (hr.mono (by first | decide | omega)) tk rfl (da_cons (de_var (pv 0)) da_nil)) (da_cons (de_ix ix_seq (Prim2P.to p_ix) (de_var (pv 4)) de_int) da_nil)))))))) (dss_one (ds_ret de_bl)) dss_nil)) (dss_one (ds_if (dt_w (dw_or (dt_not (dt_val (de_fn U.g__law_like (ok__law_like U 3) (hr.mono (by first | decide | omega)) tk rfl (da_cons (de_fn U.g_top_chance (ok_top_chance U) (hr.mono (by first | decide | omega)) tk rfl (da_cons (de_var (pv 0)) (da_cons (de_var (pv 1)) da_nil))) (da_cons (de_lst (k := 0) (da_cons (de_ix ix_seq (Prim2P.to p_ix) (de_var (pv 4)) de_int) (da_cons (de_var (pv 3)) da_nil))) da_nil))))) (dw_or1 (dt_not (dt_val (de_fn U.g__law_like (ok__law_like U 3) (hr.mono (by first | decide | omega)) tk rfl (da_cons (de_fn U.g_top_rule (ok_top_rule U) (hr.mono (by first | decide | omega)) tk rfl (da_cons (de_var (pv 0)) (da_cons (de_var (pv 1)) da_nil))) (da_cons (de_ix ix_seq (Prim2P.to p_ix) (de_var (pv 4)) de_int) da_nil)))))))) (dss_one (ds_ret de_bl)) dss_nil))) (dss_one (ds_ret (de_fn U.g__law_like (ok__law_like U 3) (hr.mono (by first | decide | omega)) tk rfl (da_cons (de_fn U.g_followed (ok_followed U) (hr.mono (by first | decide | omega)) tk rfl (da_cons (de_var (pv 0)) (da_cons (de_ix ix_seq (Prim2P.to p_ix) (de_var (pv 4)) de_int) da_nil))) (da_cons (de_fn U.g__law_chances (ok__law_chances U) (hr.mono (by first | decide | omega)) tk rfl (da_cons (de_var (pv 2)) (da_cons (de_ix ix_seq (Prim2P.to p_ix) (de_var (pv 4)) de_int) (da_cons (de_var (pv 3)) da_nil)))) da_nil)))))))
theorem ok_chance_behind (U : Txt K mg a) : FnOk P w K mg base (L2N.CX P w) 6 a.f_chance_behind a.d_chance_behind ["n", "r"] (spF K (tab a none) 0 m_chance_behind) := by
  rw [mq_chance_behind]
  exact okF (Pk := []) (J := ⟨[0, 0, 0], [0, 0, 0], [0, 0, 0], [0, 0, 0], 0⟩) (Γ := [0, 0, 0]) U.fn_chance_behind sc_chance_behind rfl rfl (by decide) rfl fun cdv A outer s H E hr tk => (dss_cons (Γ1 := [0, 0, 0]) (ds_if (dt_cmp op_eq p_eq (de_var (pv 1)) de_int rfl) (dss_one (ds_ret (de_sh (de_newS (xd := []) U.gc_Frac U.gd_Frac___init___0 (ok_Frac___init__ U) (hr.mono (by first | decide | omega)) tk rfl reps_nil (da_cons de_int (da_cons (de_var (pv 0)) da_nil)))))) dss_nil) (dss_one (ds_ret (de_opO (mn := "__mul__") rfl U.op_Frac___mul__ (ok_Frac___mul__ U) (hr.mono (by first | decide | omega)) tk (de_sh (de_newS (xd := []) U.gc_Frac U.gd_Frac___init___0 (ok_Frac___init__ U) (hr.mono (by first | decide | omega)) tk rfl reps_nil (da_cons (de_var (pv 1)) (da_cons (de_var (pv 0)) da_nil)))) (de_fn U.g_total (ok_total U) (hr.mono (by first | decide | omega)) tk rfl (da_cons (de_lc rfl sc_chance_behind.nd (P := [0, 1]) (own := [("ahead", 2)]) (k := 0) (di_range2 rfl U.n_range (da_cons (de_var (pv 1)) (da_cons (de_var (pv 0)) da_nil))) (blkOk_by rfl) (fun _ _ _ _ _ => (dg_name (pg_name (i := 2) sc_chance_behind.nd rfl (by first | exact Or.inl rfl | exact Or.inr rfl)))) (fun _ _ _ _ _ => dts_nil) (fun _ _ _ _ _ => (de_sh (de_newS (xd := []) U.gc_Frac U.gd_Frac___init___0 (ok_Frac___init__ U) (hr.mono (by first | decide | omega)) takes0N rfl reps_nil (da_cons de_int (da_cons (de_var (pv 2)) da_nil)))))) da_nil))))))
theorem ok_pass_chance (U : Txt K mg a) : FnOk P w K mg base (L2N.CX P w) 7 a.f_pass_chance a.d_pass_chance ["n", "r"] (spF K (tab a none) 0 m_pass_chance) := by
  rw [mq_pass_chance]
  exact okF (Pk := []) (J := ⟨[0, 0], [0, 0], [0, 0], [0, 0], 0⟩) (Γ := [0, 0]) U.fn_pass_chance sc_pass_chance rfl rfl (by decide) rfl fun cdv A outer s H E hr tk => (dss_cons (Γ1 := [0, 0]) (ds_drop (de_fn U.g_check_number (ok_check_number U) (hr.mono (by first | decide | omega)) tk rfl (da_cons (de_var (pv 0)) da_nil))) (dss_cons (Γ1 := [0, 0]) (ds_if (dt_not (dt_val (de_fn U.g_is_between (ok_is_between U) (hr.mono (by first | decide | omega)) tk rfl (da_cons (de_var (pv 1)) (da_cons de_int (da_cons (de_op op_sub p_i0 (de_var (pv 0)) de_int) da_nil)))))) (dss_one ds_never) dss_nil) (dss_one (ds_ret (de_fn U.g_chance_behind (ok_chance_behind U) (hr.mono (by first | decide | omega)) tk rfl (da_cons (de_var (pv 0)) (da_cons (de_var (pv 1)) da_nil)))))))
theorem ok__law_copy (U : Txt K mg a) : ∀ j, FnOk P w K mg base (L2N.CX P w) (1 + j) a.f__law_copy a.d__law_copy ["value"] (spF K (tab a none) 0 (m__law_copy j))
  | 0 => fn_bad
  | j + 1 => by
    have ih := ok__law_copy U j
    exact okF (k := 1 + j) (Pk := []) (J := ⟨[0, 0], [0, 0], [0, 0], [0, 0], 0⟩) (Γ := [0, 0]) U.fn__law_copy sc__law_copy rfl rfl (by decide) rfl fun cdv A outer s H E hr tk => (dss_cons (Γ1 := [0, 0]) (ds_if (dt_val (de_isi (t := .list) (U.ty _) rfl (pty_bt (t := .list) rfl U.n_list (by rfl) rfl (fun _ z => nomatch z)) rfl U.n_isinstance (de_var (pv 0)))) (dss_one (ds_ret (de_lc rfl sc__law_copy.nd (P := [0]) (own := [("one", 1)]) (k := 0) (di_any (de_var (pv 0))) (blkOk_by rfl) (fun _ _ _ _ _ => (dg_name (pg_name (i := 1) sc__law_copy.nd rfl (by first | exact Or.inl rfl | exact Or.inr rfl)))) (fun _ _ _ _ _ => dts_nil) (fun _ _ _ _ _ => (de_fn U.g__law_copy ih (hr.mono (by first | decide | omega)) takes0N rfl (da_cons (de_var (pv 1)) da_nil)))))) dss_nil) (dss_cons (Γ1 := [0, 0]) (ds_if (dt_val (de_isi (t := .tuple) (U.ty _) rfl (pty_bt (t := .tuple) rfl U.n_tuple (by rfl) rfl (fun _ z => nomatch z)) rfl U.n_isinstance (de_var (pv 0)))) (dss_one (ds_ret (de_callTy (k := 0) o_tuple (Prim1.args (Prim1P.to p_tuple)) rfl U.n_tuple rfl (da_cons (de_lc rfl sc__law_copy.nd (P := [0]) (own := [("one", 1)]) (k := 0) (di_any (de_var (pv 0))) (blkOk_by rfl) (fun _ _ _ _ _ => (dg_name (pg_name (i := 1) sc__law_copy.nd rfl (by first | exact Or.inl rfl | exact Or.inr rfl)))) (fun _ _ _ _ _ => dts_nil) (fun _ _ _ _ _ => (de_fn U.g__law_copy ih (hr.mono (by first | decide | omega)) takes0N rfl (da_cons (de_var (pv 1)) da_nil)))) da_nil)))) dss_nil) (dss_one (ds_ret (de_var (pv 0))))))
theorem ok__law_kept (U : Txt K mg a) : ∀ j, FnOk P w K mg base (L2N.CX P w) (7 + j) a.f__law_kept a.d__law_kept ["found", "due"] (spF K (tab a none) 0 (m__law_kept j))
  | 0 => fn_bad
  | j + 1 => by
    have ih := ok__law_kept U j
    exact okF (k := 7 + j) (Pk := []) (J := ⟨[0, 0, 0], [0, 0, 0], [0, 0, 0], [0, 0, 0], 0⟩) (Γ := [0, 0, 0]) U.fn__law_kept sc__law_kept rfl rfl (by decide) rfl fun cdv A outer s H E hr tk => (dss_cons (Γ1 := [0, 0, 0]) (ds_if (dt_val (de_isiT (ts := [.list, .tuple]) (U.ty _) (by rfl) (by decide) (pty_cons (pty_bt (t := .list) rfl U.n_list (by rfl) rfl (fun _ z => nomatch z)) (pty_cons (pty_bt (t := .tuple) rfl U.n_tuple (by rfl) rfl (fun _ z => nomatch z)) pty_nil)) rfl U.n_isinstance (de_var (pv 1)))) (dss_cons (Γ1 := [0, 0, 0]) (ds_if (dt_w (dw_and (dt_val (de_isi (t := .list) (U.ty _) rfl (pty_bt (t := .list) rfl U.n_list (by rfl) rfl (fun _ z => nomatch z)) rfl U.n_isinstance (de_var (pv 1)))) (dw_and1 (dt_not (dt_val (de_isi (t := .list) (U.ty _) rfl (pty_bt (t := .list) rfl U.n_list (by rfl) rfl (fun _ z => nomatch z)) rfl U.n_isinstance (de_var (pv 0)))))))) (dss_one (ds_ret de_bl)) dss_nil) (dss_cons (Γ1 := [0, 0, 0]) (ds_if (dt_w (dw_and (dt_val (de_isi (t := .tuple) (U.ty _) rfl (pty_bt (t := .tuple) rfl U.n_tuple (by rfl) rfl (fun _ z => nomatch z)) rfl U.n_isinstance (de_var (pv 1)))) (dw_and1 (dt_not (dt_val (de_isi (t := .tuple) (U.ty _) rfl (pty_bt (t := .tuple) rfl U.n_tuple (by rfl) rfl (fun _ z => nomatch z)) rfl U.n_isinstance (de_var (pv 0)))))))) (dss_one (ds_ret de_bl)) dss_nil) (dss_one (ds_ret (de_and (de_cmp op_eq p_eq (de_callB o_len (Prim1.args (Prim1P.to p_len)) rfl U.n_len rfl (da_cons (de_var (pv 0)) da_nil)) (de_callB o_len (Prim1.args (Prim1P.to p_len)) rfl U.n_len rfl (da_cons (de_var (pv 1)) da_nil)) rfl) (de_one (de_callB (cr_all rfl) (Prim1.args (Prim1P.to p_all)) rfl U.n_all rfl (da_cons (de_lc rfl sc__law_kept.nd (P := [0, 1]) (own := [("k", 2)]) (k := 0) (di_range1 rfl U.n_range (da_cons (de_callB o_len (Prim1.args (Prim1P.to p_len)) rfl U.n_len rfl (da_cons (de_var (pv 1)) da_nil)) da_nil)) (blkOk_by rfl) (fun _ _ _ _ _ => (dg_name (pg_name (i := 2) sc__law_kept.nd rfl (by first | exact Or.inl rfl | exact Or.inr rfl)))) (fun _ _ _ _ _ => dts_nil) (fun _ _ _ _ _ => (de_fn U.g__law_kept ih (hr.mono (by first | decide | omega)) takes0N rfl (da_cons (de_ix ix_seq (Prim2P.to p_ix) (de_var (pv 0)) (de_var (pv 2))) (da_cons (de_ix ix_seq (Prim2P.to p_ix) (de_var (pv 1)) (de_var (pv 2))) da_nil))))) da_nil)))))))) dss_nil) (dss_cons (Γ1 := [0, 0, 0]) (ds_if (dt_val (de_isi (t := (.own 0)) (U.ty _) rfl (pty_own (c := 0) rfl U.gc_Frac.mg) rfl U.n_isinstance (de_var (pv 1)))) (dss_one (ds_ret (de_fn U.g__law_frac (ok__law_frac U) (hr.mono (by first | decide | omega)) tk rfl (da_cons (de_var (pv 0)) (da_cons (de_fld (U.fo_num _) (de_var (pv 1))) (da_cons (de_fld (U.fo_den _) (de_var (pv 1))) da_nil)))))) dss_nil) (dss_one (ds_ret (de_fn U.g__law_like (ok__law_like U 3) (hr.mono (by first | decide | omega)) tk rfl (da_cons (de_var (pv 0)) (da_cons (de_var (pv 1)) da_nil)))))))
theorem okH__law_kept (U : Txt K mg a) : ∀ j, L2H.FnH P w K mg base (L2N.CX P w) (7 + j) a.f__law_kept a.d__law_kept ["found", "due"] (spF K (tab a ex) 0 (h__law_kept j))
  | 0 => fnH_bad
  | j + 1 => by
    have ih := okH__law_kept U j
    exact okFH (k := 7 + j) (Pk := []) (J := ⟨[0, 0, 0], [0, 0, 0], [0, 0, 0], [0, 0, 0], 0⟩) (Γ := [0, 0, 0]) U.fn__law_kept sc__law_kept rfl rfl (fun i h1 => (by decide : ∀ i, i < 2 → ([0, 0, 0] : List Nat).getD i 0 = 0) i h1) rfl fun cdv A outer s H E p hot hr tk => (dss_cons (Γ1 := [0, 0, 0]) (ds_if (dt_val (de_isiT (ts := [.list, .tuple]) (U.ty _) (by rfl) (by decide) (pty_cons (pty_bt (t := .list) rfl U.n_list (by rfl) rfl (fun _ z => nomatch z)) (pty_cons (pty_bt (t := .tuple) rfl U.n_tuple (by rfl) rfl (fun _ z => nomatch z)) pty_nil)) rfl U.n_isinstance (de_var (pv 1)))) (dss_cons (Γ1 := [0, 0, 0]) (ds_if (dt_w (dw_and (dt_val (de_isi (t := .list) (U.ty _) rfl (pty_bt (t := .list) rfl U.n_list (by rfl) rfl (fun _ z => nomatch z)) rfl U.n_isinstance (de_var (pv 1)))) (dw_and1 (dt_not (dt_val (de_isi (t := .list) (U.ty _) rfl (pty_bt (t := .list) rfl U.n_list (by rfl) rfl (fun _ z => nomatch z)) rfl U.n_isinstance (de_var (pv 0)))))))) (dss_one (ds_ret de_bl)) dss_nil) (dss_cons (Γ1 := [0, 0, 0]) (ds_if (dt_w (dw_and (dt_val (de_isi (t := .tuple) (U.ty _) rfl (pty_bt (t := .tuple) rfl U.n_tuple (by rfl) rfl (fun _ z => nomatch z)) rfl U.n_isinstance (de_var (pv 1)))) (dw_and1 (dt_not (dt_val (de_isi (t := .tuple) (U.ty _) rfl (pty_bt (t := .tuple) rfl U.n_tuple (by rfl) rfl (fun _ z => nomatch z)) rfl U.n_isinstance (de_var (pv 0)))))))) (dss_one (ds_ret de_bl)) dss_nil) (dss_one (ds_ret (de_and (de_cmp op_eq p_eq (de_callB o_len (Prim1.args (Prim1P.to p_len)) rfl U.n_len rfl (da_cons (de_var (pv 0)) da_nil)) (de_callB o_len (Prim1.args (Prim1P.to p_len)) rfl U.n_len rfl (da_cons (de_var (pv 1)) da_nil)) rfl) (de_one (de_callB (cr_allH hot) (Prim1.args (Prim1P.to p_all)) rfl U.n_all rfl (da_cons (de_lcH hot sc__law_kept.nd (P := [0, 1]) (own := [("k", 2)]) (k := 0) (di_range1H rfl U.n_range (da_cons (de_callB o_len (Prim1.args (Prim1P.to p_len)) rfl U.n_len rfl (da_cons (de_var (pv 1)) da_nil)) da_nil)) (blkOk_by rfl) (fun _ _ _ _ _ _ => (dg_name (pg_name (i := 2) sc__law_kept.nd rfl (by first | exact Or.inl rfl | exact Or.inr rfl)))) (fun _ _ _ _ _ _ hot => dts_nil) (fun _ _ _ _ _ _ hot => (de_fnH U.g__law_kept ih (hr.mono (by first | decide | omega)) takes0N hot rfl (da_cons (de_ix ix_seq (Prim2P.to p_ix) (de_var (pv 0)) (de_var (pv 2))) (da_cons (de_ix ix_seq (Prim2P.to p_ix) (de_var (pv 1)) (de_var (pv 2))) da_nil))))) da_nil)))))))) dss_nil) (dss_cons (Γ1 := [0, 0, 0]) (ds_if (dt_val (de_isi (t := (.own 0)) (U.ty _) rfl (pty_own (c := 0) rfl U.gc_Frac.mg) rfl U.n_isinstance (de_var (pv 1)))) (dss_one (ds_ret (de_fnH U.g__law_frac (okH__law_frac U) (hr.mono (by first | decide | omega)) tk hot rfl (da_cons (de_var (pv 0)) (da_cons (de_fld (U.fo_num _) (de_var (pv 1))) (da_cons (de_fld (U.fo_den _) (de_var (pv 1))) da_nil)))))) dss_nil) (dss_one (ds_ret (de_fnH U.g__law_like (okH__law_like U 3) (hr.mono (by first | decide | omega)) tk hot rfl (da_cons (de_var (pv 0)) (da_cons (de_var (pv 1)) da_nil)))))))
theorem ok__law_size_refused (U : Txt K mg a) : FnOk P w K mg base (L2N.CX P w) 11 a.f__law_size_refused a.d__law_size_refused ["which", "wrong", "many"] (spF K (tab a none) 0 m__law_size_refused) := by
  rw [mq__law_size_refused]
  exact okF (Pk := []) (J := ⟨[0, 0, 0, 0, 0], [0, 0, 0, 0, 0], [0, 0, 0, 0, 0], [0, 0, 0, 0, 0], 0⟩) (Γ := [0, 0, 0, 0, 0]) U.fn__law_size_refused sc__law_size_refused rfl rfl (by decide) rfl fun cdv A outer s H E hr tk => (dss_cons (Γ1 := [0, 0, 0, 0, 0]) (ds_nm (i := 3) sc__law_size_refused.nd rfl (by first | exact Or.inl rfl | exact Or.inr rfl) (de_fn U.g__law_copy (ok__law_copy U 3) (hr.mono (by first | decide | omega)) tk rfl (da_cons (de_var (pv 1)) da_nil))) (dss_cons (Γ1 := [0, 0, 0, 0, 0]) (ds_tryAs (P' := [0, 1, 2, 3]) (Γ0 := [0, 0, 0, 0, 0]) (tbl := [(1, false), (2, true)]) (m := [true, true, true, true, false]) (i := 4) rfl rfl sc__law_size_refused.nd rfl rfl ⟨rfl, by decide, .inl U.xg_WrongSize⟩ tk rfl U.em_WrongSize (by decide) (by decide) (by decide) rfl (mask_ok rfl) (zeros_ok rfl) rfl (fun W pn xe tk pa => (dss_one (ds_if (dt_cmp op_eq p_eq (de_var (pv 0)) de_int rfl) (dss_one (ds_drop (de_fn U.g_top_chance (ok_top_chance U) (hr.mono (by first | decide | omega)) tk rfl (da_cons (de_var (pv 1)) (da_cons (de_var (pv 2)) da_nil))))) (dss_one (ds_if (dt_cmp op_eq p_eq (de_var (pv 0)) de_int rfl) (dss_one (ds_drop (de_fn U.g_top_rule (ok_top_rule U) (hr.mono (by first | decide | omega)) tk rfl (da_cons (de_var (pv 1)) (da_cons (de_var (pv 2)) da_nil))))) (dss_one (ds_if (dt_cmp op_eq p_eq (de_var (pv 0)) de_int rfl) (dss_one (ds_drop (de_fn U.g_least_mean_rank (ok_least_mean_rank U) (hr.mono (by first | decide | omega)) tk rfl (da_cons (de_var (pv 1)) da_nil)))) (dss_one (ds_drop (de_fn U.g_mean_rank_rule (ok_mean_rank_rule U) (hr.mono (by first | decide | omega)) tk rfl (da_cons (de_var (pv 1)) da_nil))))))))))) (fun aa dd oe cls d pn c hz hf ec ed => (dss_one (ds_ret (de_and (de_fnH U.g__law_kept (okH__law_kept U 3) (roomH_mark (hr.mono (by first | decide | omega))) takes0N (hotC_suite hz hf) rfl (da_cons (de_xf U.xf_WrongSize_many hz hf ec ed (pv 4)) (da_cons (de_var (pv 3)) da_nil))) (de_one (de_not (de_isX U.ix_WrongSize_Unfit hz hf ec ed (pv 4) rfl U.n_isinstance rfl U.xg_Unfit)))))))) (dss_one (ds_ret de_bl))))
theorem ok__law_many_refused (U : Txt K mg a) : FnOk P w K mg base (L2N.CX P w) 10 a.f__law_many_refused a.d__law_many_refused ["which", "size", "wrong"] (spF K (tab a none) 0 m__law_many_refused) := by
  rw [mq__law_many_refused]
  exact okF (Pk := []) (J := ⟨[0, 0, 0, 0], [0, 0, 0, 0], [0, 0, 0, 0], [0, 0, 0, 0], 0⟩) (Γ := [0, 0, 0, 0]) U.fn__law_many_refused sc__law_many_refused rfl rfl (by decide) rfl fun cdv A outer s H E hr tk => (dss_cons (Γ1 := [0, 0, 0, 0]) (ds_tryAs (P' := [0, 1, 2]) (Γ0 := [0, 0, 0, 0]) (tbl := [(1, true), (2, false)]) (m := [true, true, true, false]) (i := 3) rfl rfl sc__law_many_refused.nd rfl rfl ⟨rfl, by decide, .inl U.xg_Unfit⟩ tk rfl U.em_Unfit (by decide) (by decide) (by decide) rfl (mask_ok rfl) (zeros_ok rfl) rfl (fun W pn xe tk pa => (dss_one (ds_if (dt_cmp op_eq p_eq (de_var (pv 0)) de_int rfl) (dss_one (ds_drop (de_fnKM U.g_top_chance U.kw_top_chance_1_many (ok_top_chance U) (hr.mono (by first | decide | omega)) tk rfl (da_cons (de_var (pv 1)) da_nil) (dk_cons (de_var (pv 2)) dk_nil)))) (dss_one (ds_drop (de_fnKM U.g_top_rule U.kw_top_rule_1_many (ok_top_rule U) (hr.mono (by first | decide | omega)) tk rfl (da_cons (de_var (pv 1)) da_nil) (dk_cons (de_var (pv 2)) dk_nil))))))) (fun aa dd oe cls d pn c hz hf ec ed => (dss_one (ds_ret (de_and (de_fnH U.g__law_like (okH__law_like U 3) (roomH_mark (hr.mono (by first | decide | omega))) takes0N (hotC_suite hz hf) rfl (da_cons (de_xf U.xf_Unfit_what hz hf ec ed (pv 3)) (da_cons de_str da_nil))) (de_one (de_not (de_isX U.ix_Unfit_WrongSize hz hf ec ed (pv 3) rfl U.n_isinstance rfl U.xg_WrongSize)))))))) (dss_one (ds_ret de_bl)))
theorem ok__law_asked (U : Txt K mg a) : FnOk P w K mg base (L2N.CX P w) 12 a.f__law_asked a.d__law_asked ["script"] (spF K (tab a none) 0 m__law_asked) := by
  rw [mq__law_asked]
  exact okF (Pk := []) (J := ⟨[0, 0, 0, 0, 0, 0, 0, 0, 0, 0, 0, 0, 0, 0, 0], [0, 0, 0, 0, 0, 0, 0, 0, 0, 0, 0, 0, 0, 0, 0], [0, 0, 0, 0, 0, 0, 0, 0, 0, 0, 0, 0, 0, 0, 0], [0, 1, 0, 0, 0, 0, 0, 0, 0, 0, 0, 0, 0, 0, 0], 0⟩) (Γ := [0, 0, 0, 0, 0, 0, 0, 0, 0, 0, 0, 0, 0, 0, 0]) U.fn__law_asked sc__law_asked rfl rfl (by decide) rfl fun cdv A outer s H E hr tk => (dss_cons (Γ1 := [0, 1, 0, 0, 0, 0, 0, 0, 0, 0, 0, 0, 0, 0, 0]) (ds_nm (i := 1) sc__law_asked.nd rfl (by first | exact Or.inl rfl | exact Or.inr rfl) (de_lst (k := 1) (da_cons (de_callTy (k := 0) o_list (Prim1.args (Prim1P.to p_list)) rfl U.n_list rfl (da_cons (de_var (pv 0)) da_nil)) (da_cons de_int (da_cons de_int (da_cons de_int da_nil)))))) (dss_cons (Γ1 := [0, 1, 0, 0, 0, 0, 0, 0, 0, 0, 0, 0, 0, 0, 0]) (ds_nm (i := 2) sc__law_asked.nd rfl (by first | exact Or.inl rfl | exact Or.inr rfl) (de_op op_add p_i0 de_int (de_fnB U.g__law_pick (ok__law_pick U) (hr.mono (by first | decide | omega)) tk rfl (pv 1) (da_cons de_int da_nil)))) (dss_cons (Γ1 := [0, 1, 0, 0, 0, 0, 0, 0, 0, 0, 0, 0, 0, 0, 0]) (ds_if (dt_cmp op_eq p_eq (de_fnB U.g__law_pick (ok__law_pick U) (hr.mono (by first | decide | omega)) tk rfl (pv 1) (da_cons de_int da_nil)) de_int rfl) (dss_one (ds_nm (i := 2) sc__law_asked.nd rfl (by first | exact Or.inl rfl | exact Or.inr rfl) de_int)) dss_nil) (dss_cons (Γ1 := [0, 1, 0, 0, 0, 0, 0, 0, 0, 0, 0, 0, 0, 0, 0]) (ds_nm (i := 3) sc__law_asked.nd rfl (by first | exact Or.inl rfl | exact Or.inr rfl) (de_fn U.g__law_table (ok__law_table U) (hr.mono (by first | decide | omega)) tk rfl (da_cons (de_var (pv 2)) da_nil))) (dss_cons (Γ1 := [0, 1, 0, 0, 0, 0, 0, 0, 0, 0, 0, 0, 0, 0, 0]) (ds_nm (i := 4) sc__law_asked.nd rfl (by first | exact Or.inl rfl | exact Or.inr rfl) (de_fn U.g__law_factorial (ok__law_factorial U) (hr.mono (by first | decide | omega)) tk rfl (da_cons (de_var (pv 2)) da_nil))) (dss_cons (Γ1 := [0, 1, 0, 0, 0, 0, 0, 0, 0, 0, 0, 0, 0, 0, 0]) (ds_nm (i := 5) sc__law_asked.nd rfl (by first | exact Or.inl rfl | exact Or.inr rfl) (de_lst (k := 0) (da_cons de_int (da_cons (de_op op_add p_i0 de_int (de_fnB U.g__law_pick (ok__law_pick U) (hr.mono (by first | decide | omega)) tk rfl (pv 1) (da_cons (de_var (pv 2)) da_nil))) (da_cons (de_op op_add p_i0 de_int (de_op o_div p_div (de_op o_mul p_mul (de_fnB U.g__law_pick (ok__law_pick U) (hr.mono (by first | decide | omega)) tk rfl (pv 1) (da_cons de_int da_nil)) (de_op op_sub p_i0 (de_var (pv 2)) de_int)) de_int)) da_nil))))) (dss_cons (Γ1 := [0, 1, 0, 0, 0, 0, 0, 0, 0, 0, 0, 0, 0, 0, 0]) (ds_for (passes_of rfl) rfl (di_list (de_var (pv 5))) (dg_name (pg_name (i := 6) sc__law_asked.nd rfl (by first | exact Or.inl rfl | exact Or.inr rfl))) (dss_one (ds_if (dt_not (dt_val (de_fn U.g__law_goal_holds (ok__law_goal_holds U) (hr.mono (by first | decide | omega)) tk rfl (da_cons (de_var (pv 2)) (da_cons (de_var (pv 6)) (da_cons (de_var (pv 3)) (da_cons (de_var (pv 4)) da_nil))))))) (dss_one (ds_ret de_bl)) dss_nil))) (dss_cons (Γ1 := [0, 1, 0, 0, 0, 0, 0, 1, 0, 0, 0, 0, 0, 0, 0]) (ds_nm (i := 7) sc__law_asked.nd rfl (by first | exact Or.inl rfl | exact Or.inr rfl) (de_lst (k := 1) da_nil)) (dss_cons (Γ1 := [0, 1, 0, 0, 0, 0, 0, 1, 0, 0, 0, 0, 0, 0, 0]) (ds_for (passes_of rfl) rfl (di_range1 rfl U.n_range (da_cons (de_var (pv 2)) da_nil)) (dg_name (pg_name (i := 8) sc__law_asked.nd rfl (by first | exact Or.inl rfl | exact Or.inr rfl))) (dss_one (ds_app (pv 7) (de_op o_mul p_mul (de_fnB U.g__law_pick (ok__law_pick U) (hr.mono (by first | decide | omega)) tk rfl (pv 1) (da_cons (de_op op_add p_i0 (de_var (pv 8)) de_int) da_nil)) (de_fnB U.g__law_pick (ok__law_pick U) (hr.mono (by first | decide | omega)) tk rfl (pv 1) (da_cons de_int da_nil)))))) (dss_cons (Γ1 := [0, 1, 0, 0, 0, 0, 0, 1, 0, 0, 0, 0, 0, 0, 0]) (ds_setix (pv 7) (de_op o_mul p_mul (de_op op_pow p_pow de_int de_int) (de_fnB U.g__law_pick (ok__law_pick U) (hr.mono (by first | decide | omega)) tk rfl (pv 1) (da_cons de_int da_nil))) (de_fnB U.g__law_pick (ok__law_pick U) (hr.mono (by first | decide | omega)) tk rfl (pv 1) (da_cons (de_var (pv 2)) da_nil))) (dss_cons (Γ1 := [0, 1, 0, 0, 0, 0, 0, 0, 0, 0, 0, 0, 0, 0, 0]) (ds_if (dt_not (dt_val (de_fn U.g__law_like (ok__law_like U 3) (hr.mono (by first | decide | omega)) tk rfl (da_cons (de_fn U.g_followed (ok_followed U) (hr.mono (by first | decide | omega)) tk rfl (da_cons (de_var (pv 2)) (da_cons (de_frz (pv 7)) da_nil))) (da_cons (de_fn U.g__law_chances (ok__law_chances U) (hr.mono (by first | decide | omega)) tk rfl (da_cons (de_var (pv 3)) (da_cons (de_var (pv 7)) (da_cons (de_var (pv 4)) da_nil)))) da_nil))))) (dss_one (ds_ret de_bl)) dss_nil) (dss_cons (Γ1 := [0, 1, 0, 0, 0, 0, 0, 0, 0, 0, 0, 0, 0, 0, 0]) (ds_nm (i := 9) sc__law_asked.nd rfl (by first | exact Or.inl rfl | exact Or.inr rfl) (de_fnB U.g__law_pick (ok__law_pick U) (hr.mono (by first | decide | omega)) tk rfl (pv 1) (da_cons (de_var (pv 2)) da_nil))) (dss_cons (Γ1 := [0, 1, 0, 0, 0, 0, 0, 0, 0, 0, 0, 0, 0, 0, 0]) (ds_nm (i := 10) sc__law_asked.nd rfl (by first | exact Or.inl rfl | exact Or.inr rfl) (de_fn U.g__law_taken (ok__law_taken U) (hr.mono (by first | decide | omega)) tk rfl (da_cons (de_var (pv 3)) (da_cons (de_op (k := 0) op_cat (Prim2P.to p_cat) (de_op (k := 0) op_rep (Prim2P.to p_rep) (de_lst (k := 0) (da_cons de_int da_nil)) (de_var (pv 9))) (de_op (k := 0) op_rep (Prim2P.to p_rep) (de_lst (k := 0) (da_cons de_int da_nil)) (de_op op_sub p_i0 (de_var (pv 2)) (de_var (pv 9))))) da_nil)))) (dss_cons (Γ1 := [0, 1, 0, 0, 0, 0, 0, 0, 0, 0, 0, 0, 0, 0, 0]) (ds_if (dt_not (dt_val (de_fn U.g__law_like (ok__law_like U 3) (hr.mono (by first | decide | omega)) tk rfl (da_cons (de_fn U.g_pass_chance (ok_pass_chance U) (hr.mono (by first | decide | omega)) tk rfl (da_cons (de_var (pv 2)) (da_cons (de_var (pv 9)) da_nil))) (da_cons (de_lst (k := 0) (da_cons (de_ix ix_seq (Prim2P.to p_ix) (de_var (pv 10)) de_int) (da_cons (de_var (pv 4)) da_nil))) da_nil))))) (dss_one (ds_ret de_bl)) dss_nil) (dss_cons (Γ1 := [0, 1, 0, 0, 0, 0, 0, 0, 0, 0, 0, 0, 0, 0, 0]) (ds_nm (i := 11) sc__law_asked.nd rfl (by first | exact Or.inl rfl | exact Or.inr rfl) (de_lst (k := 0) (da_cons de_int (da_cons (de_un un_neg p_u de_int) (da_cons de_int (da_cons de_bl (da_cons de_bl (da_cons de_non (da_cons de_str (da_cons (de_tup (k := 0) (da_cons de_int da_nil)) (da_cons (de_lst (k := 0) (da_cons de_int (da_cons de_int da_nil))) (da_cons (de_op op_add p_i0 de_int (de_fnB U.g__law_pick (ok__law_pick U) (hr.mono (by first | decide | omega)) tk rfl (pv 1) (da_cons (de_op op_pow p_pow de_int de_int) da_nil))) da_nil)))))))))))) (dss_cons (Γ1 := [0, 1, 0, 0, 0, 0, 0, 0, 0, 0, 0, 0, 0, 0, 0]) (ds_nm (i := 12) sc__law_asked.nd rfl (by first | exact Or.inl rfl | exact Or.inr rfl) (de_ix ix_seq (Prim2P.to p_ix) (de_var (pv 11)) (de_fnB U.g__law_pick (ok__law_pick U) (hr.mono (by first | decide | omega)) tk rfl (pv 1) (da_cons de_int da_nil)))) (dss_cons (Γ1 := [0, 1, 0, 0, 0, 0, 0, 0, 0, 0, 0, 0, 0, 0, 0]) (ds_for (passes_of rfl) rfl (di_range1 rfl U.n_range (da_cons de_int da_nil)) (dg_name (pg_name (i := 13) sc__law_asked.nd rfl (by first | exact Or.inl rfl | exact Or.inr rfl))) (dss_one (ds_if (dt_not (dt_val (de_fn U.g__law_size_refused (ok__law_size_refused U) (hr.mono (by first | decide | omega)) tk rfl (da_cons (de_var (pv 13)) (da_cons (de_var (pv 12)) (da_cons de_non da_nil)))))) (dss_one (ds_ret de_bl)) dss_nil))) (dss_cons (Γ1 := [0, 1, 0, 0, 0, 0, 0, 0, 0, 0, 0, 0, 0, 0, 0]) (ds_nm (i := 14) sc__law_asked.nd rfl (by first | exact Or.inl rfl | exact Or.inr rfl) (de_ix ix_seq (Prim2P.to p_ix) (de_lst (k := 0) (da_cons de_int (da_cons (de_op op_add p_i0 (de_var (pv 2)) de_int) (da_cons (de_un un_neg p_u de_int) (da_cons de_bl (da_cons de_non (da_cons de_str (da_cons (de_tup (k := 0) (da_cons de_int da_nil)) (da_cons (de_op op_add p_i0 (de_op op_add p_i0 (de_var (pv 2)) de_int) (de_fnB U.g__law_pick (ok__law_pick U) (hr.mono (by first | decide | omega)) tk rfl (pv 1) (da_cons de_int da_nil))) da_nil))))))))) (de_fnB U.g__law_pick (ok__law_pick U) (hr.mono (by first | decide | omega)) tk rfl (pv 1) (da_cons de_int da_nil)))) (dss_cons (Γ1 := [0, 1, 0, 0, 0, 0, 0, 0, 0, 0, 0, 0, 0, 0, 0]) (ds_for (passes_of rfl) rfl (di_range1 rfl U.n_range (da_cons de_int da_nil)) (dg_name (pg_name (i := 13) sc__law_asked.nd rfl (by first | exact Or.inl rfl | exact Or.inr rfl))) (dss_one (ds_if (dt_not (dt_val (de_fn U.g__law_many_refused (ok__law_many_refused U) (hr.mono (by first | decide | omega)) tk rfl (da_cons (de_var (pv 13)) (da_cons (de_var (pv 2)) (da_cons (de_var (pv 14)) da_nil)))))) (dss_one (ds_ret de_bl)) dss_nil))) (dss_one (ds_ret (de_and (de_fn U.g__law_goal_holds (ok__law_goal_holds U) (hr.mono (by first | decide | omega)) tk rfl (da_cons (de_var (pv 2)) (da_cons (de_ix ix_seq (Prim2P.to p_ix) (de_var (pv 5)) de_int) (da_cons (de_var (pv 3)) (da_cons (de_var (pv 4)) da_nil))))) (de_one (de_fn U.g__law_goal_holds (ok__law_goal_holds U) (hr.mono (by first | decide | omega)) tk rfl (da_cons (de_var (pv 2)) (da_cons de_int (da_cons (de_var (pv 3)) (da_cons (de_var (pv 4)) da_nil))))))))))))))))))))))))))))
theorem ok_law (U : Txt K mg a) : FnOk P w K mg base (L2N.CX P w) 13 a.f_law a.d_law ["script"] (spF K (tab a none) 0 m_law) := by
  rw [mq_law]
  exact okF (Pk := []) (J := ⟨[0], [0], [0], [0], 0⟩) (Γ := [0]) U.fn_law sc_law rfl rfl (by decide) rfl fun cdv A outer s H E hr tk => (dss_one (ds_try (dss_one (ds_ret (de_fn U.g__law_asked (ok__law_asked U) (hr.mono (by first | decide | omega)) takes0N rfl (da_cons (de_var (pv 0)) da_nil))))))
end
set_option maxHeartbeats 4000000 in
theorem all_mk {l : PySem.W.OpenLaw} {w : World} {K : PySem.W.Frag} {h : Heap} {mg : Str → Option Value} {fa : Addr} {c_Frac c_NextError c_Unfit c_WrongSize f__law_pick f__law_ways f__law_table f__law_factorial f__law_score f__law_more f__law_backward f__law_plain f__law_cut f__law_frac f__law_like f_is_integer f_is_between f_WrongSize___init__ f_check_number f_Frac___init__ f_Frac___sub__ f_Frac___mul__ f_Frac___add__ f_total f_mean_of_row f_Frac_is_below f_greatest_of f_means_from f_rank_worths f_least_mean_rank f_rule_of f_mean_rank_rule f_Unfit___init__ f_check_top f_rank_weight f_top_worths f_top_chance f_top_rule f_is_sequence f_limits_of f_followed f__law_taken f__law_chances f__law_goal_holds f_chance_behind f_pass_chance f__law_copy f__law_kept f__law_size_refused f__law_many_refused f__law_asked f_law : Addr} (hlaw : ∀ ns : List Int, ns.length ≤ 63 → m_law [.kls (ns.map D.int)] = .ok (.bl true)) (X : K.In h) (G : h.Ns mainGlobals mg) (hfa : mg "law" = some (.ref fa))
    {od__law_pick an__law_pick : Option Addr} {sl__law_pick : Array (Option Value)} {oc__law_pick kV__law_pick dc__law_pick pm__law_pick cd__law_pick ct__law_pick : Value}
    {od__law_ways an__law_ways : Option Addr} {sl__law_ways : Array (Option Value)} {oc__law_ways kV__law_ways dc__law_ways pm__law_ways cd__law_ways ct__law_ways : Value}
    {od__law_table an__law_table : Option Addr} {sl__law_table : Array (Option Value)} {oc__law_table kV__law_table dc__law_table pm__law_table cd__law_table ct__law_table : Value}
    {od__law_factorial an__law_factorial : Option Addr} {sl__law_factorial : Array (Option Value)} {oc__law_factorial kV__law_factorial dc__law_factorial pm__law_factorial cd__law_factorial ct__law_factorial : Value}
    {od__law_score an__law_score : Option Addr} {sl__law_score : Array (Option Value)} {oc__law_score kV__law_score dc__law_score pm__law_score cd__law_score ct__law_score : Value}
    {od__law_more an__law_more : Option Addr} {sl__law_more : Array (Option Value)} {oc__law_more kV__law_more dc__law_more pm__law_more cd__law_more ct__law_more : Value}
    {od__law_backward an__law_backward : Option Addr} {sl__law_backward : Array (Option Value)} {oc__law_backward kV__law_backward dc__law_backward pm__law_backward cd__law_backward ct__law_backward : Value}
    {od__law_plain an__law_plain : Option Addr} {sl__law_plain : Array (Option Value)} {oc__law_plain kV__law_plain dc__law_plain pm__law_plain cd__law_plain ct__law_plain : Value}
    {od__law_cut an__law_cut : Option Addr} {sl__law_cut : Array (Option Value)} {oc__law_cut kV__law_cut dc__law_cut pm__law_cut cd__law_cut ct__law_cut : Value}
    {od__law_frac an__law_frac : Option Addr} {sl__law_frac : Array (Option Value)} {oc__law_frac kV__law_frac dc__law_frac pm__law_frac cd__law_frac ct__law_frac : Value}
    {od__law_like an__law_like : Option Addr} {sl__law_like : Array (Option Value)} {oc__law_like kV__law_like dc__law_like pm__law_like cd__law_like ct__law_like : Value}
    {od_is_integer an_is_integer : Option Addr} {sl_is_integer : Array (Option Value)} {oc_is_integer kV_is_integer dc_is_integer pm_is_integer cd_is_integer ct_is_integer : Value}
    {od_is_between an_is_between : Option Addr} {sl_is_between : Array (Option Value)} {oc_is_between kV_is_between dc_is_between pm_is_between cd_is_between ct_is_between : Value}
    {od_WrongSize___init__ an_WrongSize___init__ : Option Addr} {sl_WrongSize___init__ : Array (Option Value)} {oc_WrongSize___init__ kV_WrongSize___init__ dc_WrongSize___init__ pm_WrongSize___init__ cd_WrongSize___init__ ct_WrongSize___init__ : Value}
    {od_check_number an_check_number : Option Addr} {sl_check_number : Array (Option Value)} {oc_check_number kV_check_number dc_check_number pm_check_number cd_check_number ct_check_number : Value}
    {od_Frac___init__ an_Frac___init__ : Option Addr} {sl_Frac___init__ : Array (Option Value)} {oc_Frac___init__ kV_Frac___init__ dc_Frac___init__ pm_Frac___init__ cd_Frac___init__ ct_Frac___init__ : Value}
    {t_Frac___init__ : Addr} {td_Frac___init__ : Option Addr} {ts_Frac___init__ : Array (Option Value)} {tc_Frac___init__ : Value} {tj_Frac___init__ : Tok} {tn_Frac___init__ : Nat}
    {od_Frac___sub__ an_Frac___sub__ : Option Addr} {sl_Frac___sub__ : Array (Option Value)} {oc_Frac___sub__ kV_Frac___sub__ dc_Frac___sub__ pm_Frac___sub__ cd_Frac___sub__ ct_Frac___sub__ : Value}
    {od_Frac___mul__ an_Frac___mul__ : Option Addr} {sl_Frac___mul__ : Array (Option Value)} {oc_Frac___mul__ kV_Frac___mul__ dc_Frac___mul__ pm_Frac___mul__ cd_Frac___mul__ ct_Frac___mul__ : Value}
    {od_Frac___add__ an_Frac___add__ : Option Addr} {sl_Frac___add__ : Array (Option Value)} {oc_Frac___add__ kV_Frac___add__ dc_Frac___add__ pm_Frac___add__ cd_Frac___add__ ct_Frac___add__ : Value}
    {od_total an_total : Option Addr} {sl_total : Array (Option Value)} {oc_total kV_total dc_total pm_total cd_total ct_total : Value}
    {od_mean_of_row an_mean_of_row : Option Addr} {sl_mean_of_row : Array (Option Value)} {oc_mean_of_row kV_mean_of_row dc_mean_of_row pm_mean_of_row cd_mean_of_row ct_mean_of_row : Value}
    {od_Frac_is_below an_Frac_is_below : Option Addr} {sl_Frac_is_below : Array (Option Value)} {oc_Frac_is_below kV_Frac_is_below dc_Frac_is_below pm_Frac_is_below cd_Frac_is_below ct_Frac_is_below : Value}
    {od_greatest_of an_greatest_of : Option Addr} {sl_greatest_of : Array (Option Value)} {oc_greatest_of kV_greatest_of dc_greatest_of pm_greatest_of cd_greatest_of ct_greatest_of : Value}
    {od_means_from an_means_from : Option Addr} {sl_means_from : Array (Option Value)} {oc_means_from kV_means_from dc_means_from pm_means_from cd_means_from ct_means_from : Value}
    {od_rank_worths an_rank_worths : Option Addr} {sl_rank_worths : Array (Option Value)} {oc_rank_worths kV_rank_worths dc_rank_worths pm_rank_worths cd_rank_worths ct_rank_worths : Value}
    {od_least_mean_rank an_least_mean_rank : Option Addr} {sl_least_mean_rank : Array (Option Value)} {oc_least_mean_rank kV_least_mean_rank dc_least_mean_rank pm_least_mean_rank cd_least_mean_rank ct_least_mean_rank : Value}
    {od_rule_of an_rule_of : Option Addr} {sl_rule_of : Array (Option Value)} {oc_rule_of kV_rule_of dc_rule_of pm_rule_of cd_rule_of ct_rule_of : Value}
    {od_mean_rank_rule an_mean_rank_rule : Option Addr} {sl_mean_rank_rule : Array (Option Value)} {oc_mean_rank_rule kV_mean_rank_rule dc_mean_rank_rule pm_mean_rank_rule cd_mean_rank_rule ct_mean_rank_rule : Value}
    {od_Unfit___init__ an_Unfit___init__ : Option Addr} {sl_Unfit___init__ : Array (Option Value)} {oc_Unfit___init__ kV_Unfit___init__ dc_Unfit___init__ pm_Unfit___init__ cd_Unfit___init__ ct_Unfit___init__ : Value}
    {od_check_top an_check_top : Option Addr} {sl_check_top : Array (Option Value)} {oc_check_top kV_check_top dc_check_top pm_check_top cd_check_top ct_check_top : Value}
    {od_rank_weight an_rank_weight : Option Addr} {sl_rank_weight : Array (Option Value)} {oc_rank_weight kV_rank_weight dc_rank_weight pm_rank_weight cd_rank_weight ct_rank_weight : Value}
    {od_top_worths an_top_worths : Option Addr} {sl_top_worths : Array (Option Value)} {oc_top_worths kV_top_worths dc_top_worths pm_top_worths cd_top_worths ct_top_worths : Value}
    {od_top_chance an_top_chance : Option Addr} {sl_top_chance : Array (Option Value)} {oc_top_chance kV_top_chance dc_top_chance pm_top_chance cd_top_chance ct_top_chance : Value}
    {od_top_rule an_top_rule : Option Addr} {sl_top_rule : Array (Option Value)} {oc_top_rule kV_top_rule dc_top_rule pm_top_rule cd_top_rule ct_top_rule : Value}
    {od_is_sequence an_is_sequence : Option Addr} {sl_is_sequence : Array (Option Value)} {oc_is_sequence kV_is_sequence dc_is_sequence pm_is_sequence cd_is_sequence ct_is_sequence : Value}
    {od_limits_of an_limits_of : Option Addr} {sl_limits_of : Array (Option Value)} {oc_limits_of kV_limits_of dc_limits_of pm_limits_of cd_limits_of ct_limits_of : Value}
    {od_followed an_followed : Option Addr} {sl_followed : Array (Option Value)} {oc_followed kV_followed dc_followed pm_followed cd_followed ct_followed : Value}
    {od__law_taken an__law_taken : Option Addr} {sl__law_taken : Array (Option Value)} {oc__law_taken kV__law_taken dc__law_taken pm__law_taken cd__law_taken ct__law_taken : Value}
    {od__law_chances an__law_chances : Option Addr} {sl__law_chances : Array (Option Value)} {oc__law_chances kV__law_chances dc__law_chances pm__law_chances cd__law_chances ct__law_chances : Value}
    {od__law_goal_holds an__law_goal_holds : Option Addr} {sl__law_goal_holds : Array (Option Value)} {oc__law_goal_holds kV__law_goal_holds dc__law_goal_holds pm__law_goal_holds cd__law_goal_holds ct__law_goal_holds : Value}
    {od_chance_behind an_chance_behind : Option Addr} {sl_chance_behind : Array (Option Value)} {oc_chance_behind kV_chance_behind dc_chance_behind pm_chance_behind cd_chance_behind ct_chance_behind : Value}
    {od_pass_chance an_pass_chance : Option Addr} {sl_pass_chance : Array (Option Value)} {oc_pass_chance kV_pass_chance dc_pass_chance pm_pass_chance cd_pass_chance ct_pass_chance : Value}
    {od__law_copy an__law_copy : Option Addr} {sl__law_copy : Array (Option Value)} {oc__law_copy kV__law_copy dc__law_copy pm__law_copy cd__law_copy ct__law_copy : Value}
    {od__law_kept an__law_kept : Option Addr} {sl__law_kept : Array (Option Value)} {oc__law_kept kV__law_kept dc__law_kept pm__law_kept cd__law_kept ct__law_kept : Value}
    {od__law_size_refused an__law_size_refused : Option Addr} {sl__law_size_refused : Array (Option Value)} {oc__law_size_refused kV__law_size_refused dc__law_size_refused pm__law_size_refused cd__law_size_refused ct__law_size_refused : Value}
    {od__law_many_refused an__law_many_refused : Option Addr} {sl__law_many_refused : Array (Option Value)} {oc__law_many_refused kV__law_many_refused dc__law_many_refused pm__law_many_refused cd__law_many_refused ct__law_many_refused : Value}
    {od__law_asked an__law_asked : Option Addr} {sl__law_asked : Array (Option Value)} {oc__law_asked kV__law_asked dc__law_asked pm__law_asked cd__law_asked ct__law_asked : Value}
    {od_law an_law : Option Addr} {sl_law : Array (Option Value)} {oc_law kV_law dc_law pm_law cd_law ct_law : Value}
    {tk_MOST_STRANGERS : Tok}
    {nm_Unfit q_Unfit : Str} {N_Unfit : Addr} {bs_Unfit sub_Unfit : List Value} {sn_Unfit : List Str} {ab_Unfit : Bool} {col_Unfit : Option Bool} {dd_Unfit : Option Addr} {m0_Unfit m1_Unfit m2_Unfit m3_Unfit m5_Unfit : Option Value}
    {nm_WrongSize q_WrongSize : Str} {N_WrongSize : Addr} {bs_WrongSize sub_WrongSize : List Value} {sn_WrongSize : List Str} {ab_WrongSize : Bool} {col_WrongSize : Option Bool} {dd_WrongSize : Option Addr} {m0_WrongSize m1_WrongSize m2_WrongSize m3_WrongSize m5_WrongSize : Option Value}
    (hc_Frac : PySem.W.nsIn K mainGlobals "Frac" = some (some (.ref c_Frac)))
    (hc_NextError : PySem.W.nsIn K mainGlobals "NextError" = some (some (.ref c_NextError)))
    (hc_Unfit : PySem.W.nsIn K mainGlobals "Unfit" = some (some (.ref c_Unfit)))
    (hc_WrongSize : PySem.W.nsIn K mainGlobals "WrongSize" = some (some (.ref c_WrongSize)))
    (xl_Unfit : K.lookup c_Unfit = some (excClassObj nm_Unfit q_Unfit c_Unfit N_Unfit bs_Unfit [.ref c_NextError, .type "ValueError", .type "Exception", .type "BaseException", .type "object"] true sn_Unfit sub_Unfit ab_Unfit col_Unfit dd_Unfit m0_Unfit m1_Unfit m2_Unfit m3_Unfit m5_Unfit "ValueError.__new__"))
    (sa_Unfit : PySem.W.findIn K (.ref c_Unfit) "__setattr__" = some (some (.builtin "object.__setattr__")))
    (sb_Unfit : PySem.W.subIn K (.ref c_Unfit) (.type "BaseException") = some true)
    (tc_Unfit : PySem.W.typeIn K (.ref c_Unfit) = some (.type "type"))
    (kc_Unfit : PySem.W.keepIn K (.ref c_Unfit) = true)
    (xa_Unfit : PySem.W.findIn K (.ref c_Unfit) "__getattribute__" = some (some (.builtin "BaseException.__getattribute__")))
    (xb_Unfit : PySem.W.findIn K (.ref c_Unfit) "__getattr__" = some none)
    (hd_Unfit : PySem.W.hasDictIn K c_Unfit = true)
    (nx_Unfit_what : PySem.W.findIn K (.ref c_Unfit) "what" = some none)
    (xl_WrongSize : K.lookup c_WrongSize = some (excClassObj nm_WrongSize q_WrongSize c_WrongSize N_WrongSize bs_WrongSize [.ref c_NextError, .type "ValueError", .type "Exception", .type "BaseException", .type "object"] true sn_WrongSize sub_WrongSize ab_WrongSize col_WrongSize dd_WrongSize m0_WrongSize m1_WrongSize m2_WrongSize m3_WrongSize m5_WrongSize "ValueError.__new__"))
    (sa_WrongSize : PySem.W.findIn K (.ref c_WrongSize) "__setattr__" = some (some (.builtin "object.__setattr__")))
    (sb_WrongSize : PySem.W.subIn K (.ref c_WrongSize) (.type "BaseException") = some true)
    (tc_WrongSize : PySem.W.typeIn K (.ref c_WrongSize) = some (.type "type"))
    (kc_WrongSize : PySem.W.keepIn K (.ref c_WrongSize) = true)
    (xa_WrongSize : PySem.W.findIn K (.ref c_WrongSize) "__getattribute__" = some (some (.builtin "BaseException.__getattribute__")))
    (xb_WrongSize : PySem.W.findIn K (.ref c_WrongSize) "__getattr__" = some none)
    (hd_WrongSize : PySem.W.hasDictIn K c_WrongSize = true)
    (nx_WrongSize_many : PySem.W.findIn K (.ref c_WrongSize) "many" = some none)
    (su_Unfit_WrongSize : PySem.W.subIn K (.ref c_Unfit) (.ref c_WrongSize) = some false)
    (su_WrongSize_WrongSize : PySem.W.subIn K (.ref c_WrongSize) (.ref c_WrongSize) = some true)
    (su_WrongSize_Unfit : PySem.W.subIn K (.ref c_WrongSize) (.ref c_Unfit) = some false)
    (nq_WrongSize_Unfit : (c_WrongSize == c_Unfit) = false)
    (ic_Unfit : PySem.W.isClsIn K c_Unfit = true)
    (ic_WrongSize : PySem.W.isClsIn K c_WrongSize = true)
    (xc_WrongSize : PySem.W.findIn K (.ref c_WrongSize) "__class__" = some (some (.builtin "object.__class__")))
    (xm_WrongSize : PySem.W.mroIn K c_WrongSize (.type "object") = some true)
    (su_Unfit_Unfit : PySem.W.subIn K (.ref c_Unfit) (.ref c_Unfit) = some true)
    (nq_Unfit_WrongSize : (c_Unfit == c_WrongSize) = false)
    (xc_Unfit : PySem.W.findIn K (.ref c_Unfit) "__class__" = some (some (.builtin "object.__class__")))
    (xm_Unfit : PySem.W.mroIn K c_Unfit (.type "object") = some true)
    (a__law_pick : PySem.W.nsIn K mainGlobals "_law_pick" = some (some (.ref f__law_pick)))
    (l__law_pick : K.lookup f__law_pick = some ⟨oc__law_pick, od__law_pick, .func (PySem.W.fnOf "_law_pick" "_law_pick" (defArgs s__law_pick) (defBody s__law_pick) (defScope s__law_pick) .none kV__law_pick dc__law_pick pm__law_pick an__law_pick cd__law_pick ct__law_pick), sl__law_pick⟩)
    (c__law_pick : PySem.W.codeIn K cd__law_pick "_law_pick" = true)
    (k__law_pick : PySem.W.keepIn K (.ref f__law_pick) = true)
    (a__law_ways : PySem.W.nsIn K mainGlobals "_law_ways" = some (some (.ref f__law_ways)))
    (l__law_ways : K.lookup f__law_ways = some ⟨oc__law_ways, od__law_ways, .func (PySem.W.fnOf "_law_ways" "_law_ways" (defArgs s__law_ways) (defBody s__law_ways) (defScope s__law_ways) .none kV__law_ways dc__law_ways pm__law_ways an__law_ways cd__law_ways ct__law_ways), sl__law_ways⟩)
    (c__law_ways : PySem.W.codeIn K cd__law_ways "_law_ways" = true)
    (k__law_ways : PySem.W.keepIn K (.ref f__law_ways) = true)
    (a__law_table : PySem.W.nsIn K mainGlobals "_law_table" = some (some (.ref f__law_table)))
    (l__law_table : K.lookup f__law_table = some ⟨oc__law_table, od__law_table, .func (PySem.W.fnOf "_law_table" "_law_table" (defArgs s__law_table) (defBody s__law_table) (defScope s__law_table) .none kV__law_table dc__law_table pm__law_table an__law_table cd__law_table ct__law_table), sl__law_table⟩)
    (c__law_table : PySem.W.codeIn K cd__law_table "_law_table" = true)
    (k__law_table : PySem.W.keepIn K (.ref f__law_table) = true)
    (a__law_factorial : PySem.W.nsIn K mainGlobals "_law_factorial" = some (some (.ref f__law_factorial)))
    (l__law_factorial : K.lookup f__law_factorial = some ⟨oc__law_factorial, od__law_factorial, .func (PySem.W.fnOf "_law_factorial" "_law_factorial" (defArgs s__law_factorial) (defBody s__law_factorial) (defScope s__law_factorial) .none kV__law_factorial dc__law_factorial pm__law_factorial an__law_factorial cd__law_factorial ct__law_factorial), sl__law_factorial⟩)
    (c__law_factorial : PySem.W.codeIn K cd__law_factorial "_law_factorial" = true)
    (k__law_factorial : PySem.W.keepIn K (.ref f__law_factorial) = true)
    (a__law_score : PySem.W.nsIn K mainGlobals "_law_score" = some (some (.ref f__law_score)))
    (l__law_score : K.lookup f__law_score = some ⟨oc__law_score, od__law_score, .func (PySem.W.fnOf "_law_score" "_law_score" (defArgs s__law_score) (defBody s__law_score) (defScope s__law_score) .none kV__law_score dc__law_score pm__law_score an__law_score cd__law_score ct__law_score), sl__law_score⟩)
    (c__law_score : PySem.W.codeIn K cd__law_score "_law_score" = true)
    (k__law_score : PySem.W.keepIn K (.ref f__law_score) = true)
    (a__law_more : PySem.W.nsIn K mainGlobals "_law_more" = some (some (.ref f__law_more)))
    (l__law_more : K.lookup f__law_more = some ⟨oc__law_more, od__law_more, .func (PySem.W.fnOf "_law_more" "_law_more" (defArgs s__law_more) (defBody s__law_more) (defScope s__law_more) .none kV__law_more dc__law_more pm__law_more an__law_more cd__law_more ct__law_more), sl__law_more⟩)
    (c__law_more : PySem.W.codeIn K cd__law_more "_law_more" = true)
    (k__law_more : PySem.W.keepIn K (.ref f__law_more) = true)
    (a__law_backward : PySem.W.nsIn K mainGlobals "_law_backward" = some (some (.ref f__law_backward)))
    (l__law_backward : K.lookup f__law_backward = some ⟨oc__law_backward, od__law_backward, .func (PySem.W.fnOf "_law_backward" "_law_backward" (defArgs s__law_backward) (defBody s__law_backward) (defScope s__law_backward) .none kV__law_backward dc__law_backward pm__law_backward an__law_backward cd__law_backward ct__law_backward), sl__law_backward⟩)
    (c__law_backward : PySem.W.codeIn K cd__law_backward "_law_backward" = true)
    (k__law_backward : PySem.W.keepIn K (.ref f__law_backward) = true)
    (a__law_plain : PySem.W.nsIn K mainGlobals "_law_plain" = some (some (.ref f__law_plain)))
    (l__law_plain : K.lookup f__law_plain = some ⟨oc__law_plain, od__law_plain, .func (PySem.W.fnOf "_law_plain" "_law_plain" (defArgs s__law_plain) (defBody s__law_plain) (defScope s__law_plain) .none kV__law_plain dc__law_plain pm__law_plain an__law_plain cd__law_plain ct__law_plain), sl__law_plain⟩)
    (c__law_plain : PySem.W.codeIn K cd__law_plain "_law_plain" = true)
    (k__law_plain : PySem.W.keepIn K (.ref f__law_plain) = true)
    (a__law_cut : PySem.W.nsIn K mainGlobals "_law_cut" = some (some (.ref f__law_cut)))
    (l__law_cut : K.lookup f__law_cut = some ⟨oc__law_cut, od__law_cut, .func (PySem.W.fnOf "_law_cut" "_law_cut" (defArgs s__law_cut) (defBody s__law_cut) (defScope s__law_cut) .none kV__law_cut dc__law_cut pm__law_cut an__law_cut cd__law_cut ct__law_cut), sl__law_cut⟩)
    (c__law_cut : PySem.W.codeIn K cd__law_cut "_law_cut" = true)
    (k__law_cut : PySem.W.keepIn K (.ref f__law_cut) = true)
    (a__law_frac : PySem.W.nsIn K mainGlobals "_law_frac" = some (some (.ref f__law_frac)))
    (l__law_frac : K.lookup f__law_frac = some ⟨oc__law_frac, od__law_frac, .func (PySem.W.fnOf "_law_frac" "_law_frac" (defArgs s__law_frac) (defBody s__law_frac) (defScope s__law_frac) .none kV__law_frac dc__law_frac pm__law_frac an__law_frac cd__law_frac ct__law_frac), sl__law_frac⟩)
    (c__law_frac : PySem.W.codeIn K cd__law_frac "_law_frac" = true)
    (k__law_frac : PySem.W.keepIn K (.ref f__law_frac) = true)
    (a__law_like : PySem.W.nsIn K mainGlobals "_law_like" = some (some (.ref f__law_like)))
    (l__law_like : K.lookup f__law_like = some ⟨oc__law_like, od__law_like, .func (PySem.W.fnOf "_law_like" "_law_like" (defArgs s__law_like) (defBody s__law_like) (defScope s__law_like) .none kV__law_like dc__law_like pm__law_like an__law_like cd__law_like ct__law_like), sl__law_like⟩)
    (c__law_like : PySem.W.codeIn K cd__law_like "_law_like" = true)
    (k__law_like : PySem.W.keepIn K (.ref f__law_like) = true)
    (a_is_integer : PySem.W.nsIn K mainGlobals "is_integer" = some (some (.ref f_is_integer)))
    (l_is_integer : K.lookup f_is_integer = some ⟨oc_is_integer, od_is_integer, .func (PySem.W.fnOf "is_integer" "is_integer" (defArgs s_is_integer) (defBody s_is_integer) (defScope s_is_integer) .none kV_is_integer dc_is_integer pm_is_integer an_is_integer cd_is_integer ct_is_integer), sl_is_integer⟩)
    (c_is_integer : PySem.W.codeIn K cd_is_integer "is_integer" = true)
    (k_is_integer : PySem.W.keepIn K (.ref f_is_integer) = true)
    (a_is_between : PySem.W.nsIn K mainGlobals "is_between" = some (some (.ref f_is_between)))
    (l_is_between : K.lookup f_is_between = some ⟨oc_is_between, od_is_between, .func (PySem.W.fnOf "is_between" "is_between" (defArgs s_is_between) (defBody s_is_between) (defScope s_is_between) .none kV_is_between dc_is_between pm_is_between an_is_between cd_is_between ct_is_between), sl_is_between⟩)
    (c_is_between : PySem.W.codeIn K cd_is_between "is_between" = true)
    (k_is_between : PySem.W.keepIn K (.ref f_is_between) = true)
    (a_WrongSize___init__ : PySem.W.findIn K (.ref c_WrongSize) "__init__" = some (some (.ref f_WrongSize___init__)))
    (ti_WrongSize___init__ : PySem.W.typeIn K (.ref f_WrongSize___init__) = some (.type "function"))
    (l_WrongSize___init__ : K.lookup f_WrongSize___init__ = some ⟨oc_WrongSize___init__, od_WrongSize___init__, .func (PySem.W.fnOf "__init__" "WrongSize.__init__" (defArgs s_WrongSize___init__) (defBody s_WrongSize___init__) (defScope s_WrongSize___init__) .none kV_WrongSize___init__ dc_WrongSize___init__ pm_WrongSize___init__ an_WrongSize___init__ cd_WrongSize___init__ ct_WrongSize___init__), sl_WrongSize___init__⟩)
    (c_WrongSize___init__ : PySem.W.codeIn K cd_WrongSize___init__ "WrongSize.__init__" = true)
    (k_WrongSize___init__ : PySem.W.keepIn K (.ref f_WrongSize___init__) = true)
    (a_check_number : PySem.W.nsIn K mainGlobals "check_number" = some (some (.ref f_check_number)))
    (l_check_number : K.lookup f_check_number = some ⟨oc_check_number, od_check_number, .func (PySem.W.fnOf "check_number" "check_number" (defArgs s_check_number) (defBody s_check_number) (defScope s_check_number) .none kV_check_number dc_check_number pm_check_number an_check_number cd_check_number ct_check_number), sl_check_number⟩)
    (c_check_number : PySem.W.codeIn K cd_check_number "check_number" = true)
    (k_check_number : PySem.W.keepIn K (.ref f_check_number) = true)
    (a_Frac___init__ : PySem.W.findIn K (.ref c_Frac) "__init__" = some (some (.ref f_Frac___init__)))
    (i_Frac___init__ : PySem.W.isFn K (.ref f_Frac___init__) = true)
    (l_Frac___init__ : K.lookup f_Frac___init__ = some ⟨oc_Frac___init__, od_Frac___init__, .func (PySem.W.fnOf "__init__" "Frac.__init__" (defArgs s_Frac___init__) (defBody s_Frac___init__) (defScope s_Frac___init__) (.ref t_Frac___init__) kV_Frac___init__ dc_Frac___init__ pm_Frac___init__ an_Frac___init__ cd_Frac___init__ ct_Frac___init__), sl_Frac___init__⟩)
    (lt_Frac___init__ : K.lookup t_Frac___init__ = some ⟨tc_Frac___init__, td_Frac___init__, .seq #[.int 1 tj_Frac___init__] tn_Frac___init__, ts_Frac___init__⟩)
    (c_Frac___init__ : PySem.W.codeIn K cd_Frac___init__ "Frac.__init__" = true)
    (k_Frac___init__ : PySem.W.keepIn K (.ref f_Frac___init__) = true)
    (a_Frac___sub__ : PySem.W.findIn K (.ref c_Frac) "__sub__" = some (some (.ref f_Frac___sub__)))
    (i_Frac___sub__ : PySem.W.isFn K (.ref f_Frac___sub__) = true)
    (l_Frac___sub__ : K.lookup f_Frac___sub__ = some ⟨oc_Frac___sub__, od_Frac___sub__, .func (PySem.W.fnOf "__sub__" "Frac.__sub__" (defArgs s_Frac___sub__) (defBody s_Frac___sub__) (defScope s_Frac___sub__) .none kV_Frac___sub__ dc_Frac___sub__ pm_Frac___sub__ an_Frac___sub__ cd_Frac___sub__ ct_Frac___sub__), sl_Frac___sub__⟩)
    (c_Frac___sub__ : PySem.W.codeIn K cd_Frac___sub__ "Frac.__sub__" = true)
    (k_Frac___sub__ : PySem.W.keepIn K (.ref f_Frac___sub__) = true)
    (a_Frac___mul__ : PySem.W.findIn K (.ref c_Frac) "__mul__" = some (some (.ref f_Frac___mul__)))
    (i_Frac___mul__ : PySem.W.isFn K (.ref f_Frac___mul__) = true)
    (l_Frac___mul__ : K.lookup f_Frac___mul__ = some ⟨oc_Frac___mul__, od_Frac___mul__, .func (PySem.W.fnOf "__mul__" "Frac.__mul__" (defArgs s_Frac___mul__) (defBody s_Frac___mul__) (defScope s_Frac___mul__) .none kV_Frac___mul__ dc_Frac___mul__ pm_Frac___mul__ an_Frac___mul__ cd_Frac___mul__ ct_Frac___mul__), sl_Frac___mul__⟩)
    (c_Frac___mul__ : PySem.W.codeIn K cd_Frac___mul__ "Frac.__mul__" = true)
    (k_Frac___mul__ : PySem.W.keepIn K (.ref f_Frac___mul__) = true)
    (a_Frac___add__ : PySem.W.findIn K (.ref c_Frac) "__add__" = some (some (.ref f_Frac___add__)))
    (i_Frac___add__ : PySem.W.isFn K (.ref f_Frac___add__) = true)
    (l_Frac___add__ : K.lookup f_Frac___add__ = some ⟨oc_Frac___add__, od_Frac___add__, .func (PySem.W.fnOf "__add__" "Frac.__add__" (defArgs s_Frac___add__) (defBody s_Frac___add__) (defScope s_Frac___add__) .none kV_Frac___add__ dc_Frac___add__ pm_Frac___add__ an_Frac___add__ cd_Frac___add__ ct_Frac___add__), sl_Frac___add__⟩)
    (c_Frac___add__ : PySem.W.codeIn K cd_Frac___add__ "Frac.__add__" = true)
    (k_Frac___add__ : PySem.W.keepIn K (.ref f_Frac___add__) = true)
    (a_total : PySem.W.nsIn K mainGlobals "total" = some (some (.ref f_total)))
    (l_total : K.lookup f_total = some ⟨oc_total, od_total, .func (PySem.W.fnOf "total" "total" (defArgs s_total) (defBody s_total) (defScope s_total) .none kV_total dc_total pm_total an_total cd_total ct_total), sl_total⟩)
    (c_total : PySem.W.codeIn K cd_total "total" = true)
    (k_total : PySem.W.keepIn K (.ref f_total) = true)
    (a_mean_of_row : PySem.W.nsIn K mainGlobals "mean_of_row" = some (some (.ref f_mean_of_row)))
    (l_mean_of_row : K.lookup f_mean_of_row = some ⟨oc_mean_of_row, od_mean_of_row, .func (PySem.W.fnOf "mean_of_row" "mean_of_row" (defArgs s_mean_of_row) (defBody s_mean_of_row) (defScope s_mean_of_row) .none kV_mean_of_row dc_mean_of_row pm_mean_of_row an_mean_of_row cd_mean_of_row ct_mean_of_row), sl_mean_of_row⟩)
    (c_mean_of_row : PySem.W.codeIn K cd_mean_of_row "mean_of_row" = true)
    (k_mean_of_row : PySem.W.keepIn K (.ref f_mean_of_row) = true)
    (a_Frac_is_below : PySem.W.findIn K (.ref c_Frac) "is_below" = some (some (.ref f_Frac_is_below)))
    (i_Frac_is_below : PySem.W.isFn K (.ref f_Frac_is_below) = true)
    (l_Frac_is_below : K.lookup f_Frac_is_below = some ⟨oc_Frac_is_below, od_Frac_is_below, .func (PySem.W.fnOf "is_below" "Frac.is_below" (defArgs s_Frac_is_below) (defBody s_Frac_is_below) (defScope s_Frac_is_below) .none kV_Frac_is_below dc_Frac_is_below pm_Frac_is_below an_Frac_is_below cd_Frac_is_below ct_Frac_is_below), sl_Frac_is_below⟩)
    (c_Frac_is_below : PySem.W.codeIn K cd_Frac_is_below "Frac.is_below" = true)
    (k_Frac_is_below : PySem.W.keepIn K (.ref f_Frac_is_below) = true)
    (a_greatest_of : PySem.W.nsIn K mainGlobals "greatest_of" = some (some (.ref f_greatest_of)))
    (l_greatest_of : K.lookup f_greatest_of = some ⟨oc_greatest_of, od_greatest_of, .func (PySem.W.fnOf "greatest_of" "greatest_of" (defArgs s_greatest_of) (defBody s_greatest_of) (defScope s_greatest_of) .none kV_greatest_of dc_greatest_of pm_greatest_of an_greatest_of cd_greatest_of ct_greatest_of), sl_greatest_of⟩)
    (c_greatest_of : PySem.W.codeIn K cd_greatest_of "greatest_of" = true)
    (k_greatest_of : PySem.W.keepIn K (.ref f_greatest_of) = true)
    (a_means_from : PySem.W.nsIn K mainGlobals "means_from" = some (some (.ref f_means_from)))
    (l_means_from : K.lookup f_means_from = some ⟨oc_means_from, od_means_from, .func (PySem.W.fnOf "means_from" "means_from" (defArgs s_means_from) (defBody s_means_from) (defScope s_means_from) .none kV_means_from dc_means_from pm_means_from an_means_from cd_means_from ct_means_from), sl_means_from⟩)
    (c_means_from : PySem.W.codeIn K cd_means_from "means_from" = true)
    (k_means_from : PySem.W.keepIn K (.ref f_means_from) = true)
    (a_rank_worths : PySem.W.nsIn K mainGlobals "rank_worths" = some (some (.ref f_rank_worths)))
    (l_rank_worths : K.lookup f_rank_worths = some ⟨oc_rank_worths, od_rank_worths, .func (PySem.W.fnOf "rank_worths" "rank_worths" (defArgs s_rank_worths) (defBody s_rank_worths) (defScope s_rank_worths) .none kV_rank_worths dc_rank_worths pm_rank_worths an_rank_worths cd_rank_worths ct_rank_worths), sl_rank_worths⟩)
    (c_rank_worths : PySem.W.codeIn K cd_rank_worths "rank_worths" = true)
    (k_rank_worths : PySem.W.keepIn K (.ref f_rank_worths) = true)
    (a_least_mean_rank : PySem.W.nsIn K mainGlobals "least_mean_rank" = some (some (.ref f_least_mean_rank)))
    (l_least_mean_rank : K.lookup f_least_mean_rank = some ⟨oc_least_mean_rank, od_least_mean_rank, .func (PySem.W.fnOf "least_mean_rank" "least_mean_rank" (defArgs s_least_mean_rank) (defBody s_least_mean_rank) (defScope s_least_mean_rank) .none kV_least_mean_rank dc_least_mean_rank pm_least_mean_rank an_least_mean_rank cd_least_mean_rank ct_least_mean_rank), sl_least_mean_rank⟩)
    (c_least_mean_rank : PySem.W.codeIn K cd_least_mean_rank "least_mean_rank" = true)
    (k_least_mean_rank : PySem.W.keepIn K (.ref f_least_mean_rank) = true)
    (a_rule_of : PySem.W.nsIn K mainGlobals "rule_of" = some (some (.ref f_rule_of)))
    (l_rule_of : K.lookup f_rule_of = some ⟨oc_rule_of, od_rule_of, .func (PySem.W.fnOf "rule_of" "rule_of" (defArgs s_rule_of) (defBody s_rule_of) (defScope s_rule_of) .none kV_rule_of dc_rule_of pm_rule_of an_rule_of cd_rule_of ct_rule_of), sl_rule_of⟩)
    (c_rule_of : PySem.W.codeIn K cd_rule_of "rule_of" = true)
    (k_rule_of : PySem.W.keepIn K (.ref f_rule_of) = true)
    (a_mean_rank_rule : PySem.W.nsIn K mainGlobals "mean_rank_rule" = some (some (.ref f_mean_rank_rule)))
    (l_mean_rank_rule : K.lookup f_mean_rank_rule = some ⟨oc_mean_rank_rule, od_mean_rank_rule, .func (PySem.W.fnOf "mean_rank_rule" "mean_rank_rule" (defArgs s_mean_rank_rule) (defBody s_mean_rank_rule) (defScope s_mean_rank_rule) .none kV_mean_rank_rule dc_mean_rank_rule pm_mean_rank_rule an_mean_rank_rule cd_mean_rank_rule ct_mean_rank_rule), sl_mean_rank_rule⟩)
    (c_mean_rank_rule : PySem.W.codeIn K cd_mean_rank_rule "mean_rank_rule" = true)
    (k_mean_rank_rule : PySem.W.keepIn K (.ref f_mean_rank_rule) = true)
    (a_Unfit___init__ : PySem.W.findIn K (.ref c_Unfit) "__init__" = some (some (.ref f_Unfit___init__)))
    (ti_Unfit___init__ : PySem.W.typeIn K (.ref f_Unfit___init__) = some (.type "function"))
    (l_Unfit___init__ : K.lookup f_Unfit___init__ = some ⟨oc_Unfit___init__, od_Unfit___init__, .func (PySem.W.fnOf "__init__" "Unfit.__init__" (defArgs s_Unfit___init__) (defBody s_Unfit___init__) (defScope s_Unfit___init__) .none kV_Unfit___init__ dc_Unfit___init__ pm_Unfit___init__ an_Unfit___init__ cd_Unfit___init__ ct_Unfit___init__), sl_Unfit___init__⟩)
    (c_Unfit___init__ : PySem.W.codeIn K cd_Unfit___init__ "Unfit.__init__" = true)
    (k_Unfit___init__ : PySem.W.keepIn K (.ref f_Unfit___init__) = true)
    (a_check_top : PySem.W.nsIn K mainGlobals "check_top" = some (some (.ref f_check_top)))
    (l_check_top : K.lookup f_check_top = some ⟨oc_check_top, od_check_top, .func (PySem.W.fnOf "check_top" "check_top" (defArgs s_check_top) (defBody s_check_top) (defScope s_check_top) .none kV_check_top dc_check_top pm_check_top an_check_top cd_check_top ct_check_top), sl_check_top⟩)
    (c_check_top : PySem.W.codeIn K cd_check_top "check_top" = true)
    (k_check_top : PySem.W.keepIn K (.ref f_check_top) = true)
    (a_rank_weight : PySem.W.nsIn K mainGlobals "rank_weight" = some (some (.ref f_rank_weight)))
    (l_rank_weight : K.lookup f_rank_weight = some ⟨oc_rank_weight, od_rank_weight, .func (PySem.W.fnOf "rank_weight" "rank_weight" (defArgs s_rank_weight) (defBody s_rank_weight) (defScope s_rank_weight) .none kV_rank_weight dc_rank_weight pm_rank_weight an_rank_weight cd_rank_weight ct_rank_weight), sl_rank_weight⟩)
    (c_rank_weight : PySem.W.codeIn K cd_rank_weight "rank_weight" = true)
    (k_rank_weight : PySem.W.keepIn K (.ref f_rank_weight) = true)
    (a_top_worths : PySem.W.nsIn K mainGlobals "top_worths" = some (some (.ref f_top_worths)))
    (l_top_worths : K.lookup f_top_worths = some ⟨oc_top_worths, od_top_worths, .func (PySem.W.fnOf "top_worths" "top_worths" (defArgs s_top_worths) (defBody s_top_worths) (defScope s_top_worths) .none kV_top_worths dc_top_worths pm_top_worths an_top_worths cd_top_worths ct_top_worths), sl_top_worths⟩)
    (c_top_worths : PySem.W.codeIn K cd_top_worths "top_worths" = true)
    (k_top_worths : PySem.W.keepIn K (.ref f_top_worths) = true)
    (a_top_chance : PySem.W.nsIn K mainGlobals "top_chance" = some (some (.ref f_top_chance)))
    (l_top_chance : K.lookup f_top_chance = some ⟨oc_top_chance, od_top_chance, .func (PySem.W.fnOf "top_chance" "top_chance" (defArgs s_top_chance) (defBody s_top_chance) (defScope s_top_chance) .none kV_top_chance dc_top_chance pm_top_chance an_top_chance cd_top_chance ct_top_chance), sl_top_chance⟩)
    (c_top_chance : PySem.W.codeIn K cd_top_chance "top_chance" = true)
    (k_top_chance : PySem.W.keepIn K (.ref f_top_chance) = true)
    (a_top_rule : PySem.W.nsIn K mainGlobals "top_rule" = some (some (.ref f_top_rule)))
    (l_top_rule : K.lookup f_top_rule = some ⟨oc_top_rule, od_top_rule, .func (PySem.W.fnOf "top_rule" "top_rule" (defArgs s_top_rule) (defBody s_top_rule) (defScope s_top_rule) .none kV_top_rule dc_top_rule pm_top_rule an_top_rule cd_top_rule ct_top_rule), sl_top_rule⟩)
    (c_top_rule : PySem.W.codeIn K cd_top_rule "top_rule" = true)
    (k_top_rule : PySem.W.keepIn K (.ref f_top_rule) = true)
    (a_is_sequence : PySem.W.nsIn K mainGlobals "is_sequence" = some (some (.ref f_is_sequence)))
    (l_is_sequence : K.lookup f_is_sequence = some ⟨oc_is_sequence, od_is_sequence, .func (PySem.W.fnOf "is_sequence" "is_sequence" (defArgs s_is_sequence) (defBody s_is_sequence) (defScope s_is_sequence) .none kV_is_sequence dc_is_sequence pm_is_sequence an_is_sequence cd_is_sequence ct_is_sequence), sl_is_sequence⟩)
    (c_is_sequence : PySem.W.codeIn K cd_is_sequence "is_sequence" = true)
    (k_is_sequence : PySem.W.keepIn K (.ref f_is_sequence) = true)
    (a_limits_of : PySem.W.nsIn K mainGlobals "limits_of" = some (some (.ref f_limits_of)))
    (l_limits_of : K.lookup f_limits_of = some ⟨oc_limits_of, od_limits_of, .func (PySem.W.fnOf "limits_of" "limits_of" (defArgs s_limits_of) (defBody s_limits_of) (defScope s_limits_of) .none kV_limits_of dc_limits_of pm_limits_of an_limits_of cd_limits_of ct_limits_of), sl_limits_of⟩)
    (c_limits_of : PySem.W.codeIn K cd_limits_of "limits_of" = true)
    (k_limits_of : PySem.W.keepIn K (.ref f_limits_of) = true)
    (a_followed : PySem.W.nsIn K mainGlobals "followed" = some (some (.ref f_followed)))
    (l_followed : K.lookup f_followed = some ⟨oc_followed, od_followed, .func (PySem.W.fnOf "followed" "followed" (defArgs s_followed) (defBody s_followed) (defScope s_followed) .none kV_followed dc_followed pm_followed an_followed cd_followed ct_followed), sl_followed⟩)
    (c_followed : PySem.W.codeIn K cd_followed "followed" = true)
    (k_followed : PySem.W.keepIn K (.ref f_followed) = true)
    (a__law_taken : PySem.W.nsIn K mainGlobals "_law_taken" = some (some (.ref f__law_taken)))
    (l__law_taken : K.lookup f__law_taken = some ⟨oc__law_taken, od__law_taken, .func (PySem.W.fnOf "_law_taken" "_law_taken" (defArgs s__law_taken) (defBody s__law_taken) (defScope s__law_taken) .none kV__law_taken dc__law_taken pm__law_taken an__law_taken cd__law_taken ct__law_taken), sl__law_taken⟩)
    (c__law_taken : PySem.W.codeIn K cd__law_taken "_law_taken" = true)
    (k__law_taken : PySem.W.keepIn K (.ref f__law_taken) = true)
    (a__law_chances : PySem.W.nsIn K mainGlobals "_law_chances" = some (some (.ref f__law_chances)))
    (l__law_chances : K.lookup f__law_chances = some ⟨oc__law_chances, od__law_chances, .func (PySem.W.fnOf "_law_chances" "_law_chances" (defArgs s__law_chances) (defBody s__law_chances) (defScope s__law_chances) .none kV__law_chances dc__law_chances pm__law_chances an__law_chances cd__law_chances ct__law_chances), sl__law_chances⟩)
    (c__law_chances : PySem.W.codeIn K cd__law_chances "_law_chances" = true)
    (k__law_chances : PySem.W.keepIn K (.ref f__law_chances) = true)
    (a__law_goal_holds : PySem.W.nsIn K mainGlobals "_law_goal_holds" = some (some (.ref f__law_goal_holds)))
    (l__law_goal_holds : K.lookup f__law_goal_holds = some ⟨oc__law_goal_holds, od__law_goal_holds, .func (PySem.W.fnOf "_law_goal_holds" "_law_goal_holds" (defArgs s__law_goal_holds) (defBody s__law_goal_holds) (defScope s__law_goal_holds) .none kV__law_goal_holds dc__law_goal_holds pm__law_goal_holds an__law_goal_holds cd__law_goal_holds ct__law_goal_holds), sl__law_goal_holds⟩)
    (c__law_goal_holds : PySem.W.codeIn K cd__law_goal_holds "_law_goal_holds" = true)
    (k__law_goal_holds : PySem.W.keepIn K (.ref f__law_goal_holds) = true)
    (a_chance_behind : PySem.W.nsIn K mainGlobals "chance_behind" = some (some (.ref f_chance_behind)))
    (l_chance_behind : K.lookup f_chance_behind = some ⟨oc_chance_behind, od_chance_behind, .func (PySem.W.fnOf "chance_behind" "chance_behind" (defArgs s_chance_behind) (defBody s_chance_behind) (defScope s_chance_behind) .none kV_chance_behind dc_chance_behind pm_chance_behind an_chance_behind cd_chance_behind ct_chance_behind), sl_chance_behind⟩)
    (c_chance_behind : PySem.W.codeIn K cd_chance_behind "chance_behind" = true)
    (k_chance_behind : PySem.W.keepIn K (.ref f_chance_behind) = true)
    (a_pass_chance : PySem.W.nsIn K mainGlobals "pass_chance" = some (some (.ref f_pass_chance)))
    (l_pass_chance : K.lookup f_pass_chance = some ⟨oc_pass_chance, od_pass_chance, .func (PySem.W.fnOf "pass_chance" "pass_chance" (defArgs s_pass_chance) (defBody s_pass_chance) (defScope s_pass_chance) .none kV_pass_chance dc_pass_chance pm_pass_chance an_pass_chance cd_pass_chance ct_pass_chance), sl_pass_chance⟩)
    (c_pass_chance : PySem.W.codeIn K cd_pass_chance "pass_chance" = true)
    (k_pass_chance : PySem.W.keepIn K (.ref f_pass_chance) = true)
    (a__law_copy : PySem.W.nsIn K mainGlobals "_law_copy" = some (some (.ref f__law_copy)))
    (l__law_copy : K.lookup f__law_copy = some ⟨oc__law_copy, od__law_copy, .func (PySem.W.fnOf "_law_copy" "_law_copy" (defArgs s__law_copy) (defBody s__law_copy) (defScope s__law_copy) .none kV__law_copy dc__law_copy pm__law_copy an__law_copy cd__law_copy ct__law_copy), sl__law_copy⟩)
    (c__law_copy : PySem.W.codeIn K cd__law_copy "_law_copy" = true)
    (k__law_copy : PySem.W.keepIn K (.ref f__law_copy) = true)
    (a__law_kept : PySem.W.nsIn K mainGlobals "_law_kept" = some (some (.ref f__law_kept)))
    (l__law_kept : K.lookup f__law_kept = some ⟨oc__law_kept, od__law_kept, .func (PySem.W.fnOf "_law_kept" "_law_kept" (defArgs s__law_kept) (defBody s__law_kept) (defScope s__law_kept) .none kV__law_kept dc__law_kept pm__law_kept an__law_kept cd__law_kept ct__law_kept), sl__law_kept⟩)
    (c__law_kept : PySem.W.codeIn K cd__law_kept "_law_kept" = true)
    (k__law_kept : PySem.W.keepIn K (.ref f__law_kept) = true)
    (a__law_size_refused : PySem.W.nsIn K mainGlobals "_law_size_refused" = some (some (.ref f__law_size_refused)))
    (l__law_size_refused : K.lookup f__law_size_refused = some ⟨oc__law_size_refused, od__law_size_refused, .func (PySem.W.fnOf "_law_size_refused" "_law_size_refused" (defArgs s__law_size_refused) (defBody s__law_size_refused) (defScope s__law_size_refused) .none kV__law_size_refused dc__law_size_refused pm__law_size_refused an__law_size_refused cd__law_size_refused ct__law_size_refused), sl__law_size_refused⟩)
    (c__law_size_refused : PySem.W.codeIn K cd__law_size_refused "_law_size_refused" = true)
    (k__law_size_refused : PySem.W.keepIn K (.ref f__law_size_refused) = true)
    (a__law_many_refused : PySem.W.nsIn K mainGlobals "_law_many_refused" = some (some (.ref f__law_many_refused)))
    (l__law_many_refused : K.lookup f__law_many_refused = some ⟨oc__law_many_refused, od__law_many_refused, .func (PySem.W.fnOf "_law_many_refused" "_law_many_refused" (defArgs s__law_many_refused) (defBody s__law_many_refused) (defScope s__law_many_refused) .none kV__law_many_refused dc__law_many_refused pm__law_many_refused an__law_many_refused cd__law_many_refused ct__law_many_refused), sl__law_many_refused⟩)
    (c__law_many_refused : PySem.W.codeIn K cd__law_many_refused "_law_many_refused" = true)
    (k__law_many_refused : PySem.W.keepIn K (.ref f__law_many_refused) = true)
    (a__law_asked : PySem.W.nsIn K mainGlobals "_law_asked" = some (some (.ref f__law_asked)))
    (l__law_asked : K.lookup f__law_asked = some ⟨oc__law_asked, od__law_asked, .func (PySem.W.fnOf "_law_asked" "_law_asked" (defArgs s__law_asked) (defBody s__law_asked) (defScope s__law_asked) .none kV__law_asked dc__law_asked pm__law_asked an__law_asked cd__law_asked ct__law_asked), sl__law_asked⟩)
    (c__law_asked : PySem.W.codeIn K cd__law_asked "_law_asked" = true)
    (k__law_asked : PySem.W.keepIn K (.ref f__law_asked) = true)
    (a_law : PySem.W.nsIn K mainGlobals "law" = some (some (.ref f_law)))
    (l_law : K.lookup f_law = some ⟨oc_law, od_law, .func (PySem.W.fnOf "law" "law" (defArgs s_law) (defBody s_law) (defScope s_law) .none kV_law dc_law pm_law an_law cd_law ct_law), sl_law⟩)
    (c_law : PySem.W.codeIn K cd_law "law" = true)
    (k_law : PySem.W.keepIn K (.ref f_law) = true)
    (pg_Frac : PySem.W.plainGet K c_Frac Str.empty = true)
    (hd_Frac : PySem.W.hasDictIn K c_Frac = true)
    (po_Frac : PySem.W.plainOver K c_Frac = true)
    (sa_Frac : PySem.W.findIn K (.ref c_Frac) "__setattr__" = some (some (.builtin "object.__setattr__")))
    (mk_Frac : PySem.W.makesIn K c_Frac = true)
    (kc_Frac : PySem.W.keepIn K (.ref c_Frac) = true)
    (sf_Frac : PySem.W.selfFirst K c_Frac = true)
    (na_Frac_num : PySem.W.findIn K (.ref c_Frac) "num" = some none)
    (na_Frac_den : PySem.W.findIn K (.ref c_Frac) "den" = some none)
    (y0_Frac : PySem.W.isClsIn K c_Frac = true)
    (y1_Frac : PySem.W.typeIn K (.ref c_Frac) = some (.type "type"))
    (y2_Frac : PySem.W.findIn K (.ref c_Frac) "__class__" = some (some (.builtin "object.__class__")))
    (y3_Frac : PySem.W.mroIn K c_Frac (.type "object") = some true)
    (yb0_Frac : PySem.W.subIn K (.type "NoneType") (.ref c_Frac) = some false)
    (yb1_Frac : PySem.W.subIn K (.type "bool") (.ref c_Frac) = some false)
    (yb2_Frac : PySem.W.subIn K (.type "int") (.ref c_Frac) = some false)
    (yb3_Frac : PySem.W.subIn K (.type "str") (.ref c_Frac) = some false)
    (yb4_Frac : PySem.W.subIn K (.type "list") (.ref c_Frac) = some false)
    (yb5_Frac : PySem.W.subIn K (.type "tuple") (.ref c_Frac) = some false)
    (yo0_Frac : PySem.W.subIn K (.ref c_Frac) (.type "int") = some false)
    (yo1_Frac : PySem.W.subIn K (.ref c_Frac) (.type "bool") = some false)
    (yo2_Frac : PySem.W.subIn K (.ref c_Frac) (.type "list") = some false)
    (yo3_Frac : PySem.W.subIn K (.ref c_Frac) (.type "tuple") = some false)
    (yo4_Frac : PySem.W.subIn K (.ref c_Frac) (.type "str") = some false)
    (hget : PySem.W.specialIn K (.builtin "object.__class__") "__get__" = some (some (.builtin "getset_descriptor.__get__")))
    (htk : PySem.W.takesIn K (.builtin "object.__class__") = some true)
    (hn_abs : PySem.W.nsIn K mainGlobals "abs" = some none)
    (hn_all : PySem.W.nsIn K mainGlobals "all" = some none)
    (hn_bool : PySem.W.nsIn K mainGlobals "bool" = some none)
    (hn_enumerate : PySem.W.nsIn K mainGlobals "enumerate" = some none)
    (hn_int : PySem.W.nsIn K mainGlobals "int" = some none)
    (hn_isinstance : PySem.W.nsIn K mainGlobals "isinstance" = some none)
    (hn_len : PySem.W.nsIn K mainGlobals "len" = some none)
    (hn_list : PySem.W.nsIn K mainGlobals "list" = some none)
    (hn_min : PySem.W.nsIn K mainGlobals "min" = some none)
    (hn_range : PySem.W.nsIn K mainGlobals "range" = some none)
    (hn_reversed : PySem.W.nsIn K mainGlobals "reversed" = some none)
    (hn_str : PySem.W.nsIn K mainGlobals "str" = some none)
    (hn_sum : PySem.W.nsIn K mainGlobals "sum" = some none)
    (hn_tuple : PySem.W.nsIn K mainGlobals "tuple" = some none)
    (hn_zip : PySem.W.nsIn K mainGlobals "zip" = some none)
    (hm_comb : PySem.W.nsIn K mainGlobals "comb" = some (some (.builtin "math.comb")))
    (hm_gcd : PySem.W.nsIn K mainGlobals "gcd" = some (some (.builtin "math.gcd")))
    (hk_MOST_STRANGERS : PySem.W.nsIn K mainGlobals "MOST_STRANGERS" = some (some (.int 60 tk_MOST_STRANGERS)))
    : ∃ fd : FuncData, (∀ (s : Shared) (v : Value), BindsTo s fd ⟨[v], []⟩ [("script", v)]) ∧ ∀ base : Heap, K.In base → base.Ns mainGlobals mg → FnOk l.prog w K mg base (L2N.CX l.prog w) 13 fa fd ["script"] (spLaw K) := by
  have e := hfa.symm.trans (PySem.W.mg_of X G a_law)
  cases e
  let a : Ad := ⟨c_Frac, c_Unfit, c_WrongSize, f__law_pick, (PySem.W.fnOf "_law_pick" "_law_pick" (defArgs s__law_pick) (defBody s__law_pick) (defScope s__law_pick) .none kV__law_pick dc__law_pick pm__law_pick an__law_pick cd__law_pick ct__law_pick), f__law_ways, (PySem.W.fnOf "_law_ways" "_law_ways" (defArgs s__law_ways) (defBody s__law_ways) (defScope s__law_ways) .none kV__law_ways dc__law_ways pm__law_ways an__law_ways cd__law_ways ct__law_ways), f__law_table, (PySem.W.fnOf "_law_table" "_law_table" (defArgs s__law_table) (defBody s__law_table) (defScope s__law_table) .none kV__law_table dc__law_table pm__law_table an__law_table cd__law_table ct__law_table), f__law_factorial, (PySem.W.fnOf "_law_factorial" "_law_factorial" (defArgs s__law_factorial) (defBody s__law_factorial) (defScope s__law_factorial) .none kV__law_factorial dc__law_factorial pm__law_factorial an__law_factorial cd__law_factorial ct__law_factorial), f__law_score, (PySem.W.fnOf "_law_score" "_law_score" (defArgs s__law_score) (defBody s__law_score) (defScope s__law_score) .none kV__law_score dc__law_score pm__law_score an__law_score cd__law_score ct__law_score), f__law_more, (PySem.W.fnOf "_law_more" "_law_more" (defArgs s__law_more) (defBody s__law_more) (defScope s__law_more) .none kV__law_more dc__law_more pm__law_more an__law_more cd__law_more ct__law_more), f__law_backward, (PySem.W.fnOf "_law_backward" "_law_backward" (defArgs s__law_backward) (defBody s__law_backward) (defScope s__law_backward) .none kV__law_backward dc__law_backward pm__law_backward an__law_backward cd__law_backward ct__law_backward), f__law_plain, (PySem.W.fnOf "_law_plain" "_law_plain" (defArgs s__law_plain) (defBody s__law_plain) (defScope s__law_plain) .none kV__law_plain dc__law_plain pm__law_plain an__law_plain cd__law_plain ct__law_plain), f__law_cut, (PySem.W.fnOf "_law_cut" "_law_cut" (defArgs s__law_cut) (defBody s__law_cut) (defScope s__law_cut) .none kV__law_cut dc__law_cut pm__law_cut an__law_cut cd__law_cut ct__law_cut), f__law_frac, (PySem.W.fnOf "_law_frac" "_law_frac" (defArgs s__law_frac) (defBody s__law_frac) (defScope s__law_frac) .none kV__law_frac dc__law_frac pm__law_frac an__law_frac cd__law_frac ct__law_frac), f__law_like, (PySem.W.fnOf "_law_like" "_law_like" (defArgs s__law_like) (defBody s__law_like) (defScope s__law_like) .none kV__law_like dc__law_like pm__law_like an__law_like cd__law_like ct__law_like), f_is_integer, (PySem.W.fnOf "is_integer" "is_integer" (defArgs s_is_integer) (defBody s_is_integer) (defScope s_is_integer) .none kV_is_integer dc_is_integer pm_is_integer an_is_integer cd_is_integer ct_is_integer), f_is_between, (PySem.W.fnOf "is_between" "is_between" (defArgs s_is_between) (defBody s_is_between) (defScope s_is_between) .none kV_is_between dc_is_between pm_is_between an_is_between cd_is_between ct_is_between), f_WrongSize___init__, (PySem.W.fnOf "__init__" "WrongSize.__init__" (defArgs s_WrongSize___init__) (defBody s_WrongSize___init__) (defScope s_WrongSize___init__) .none kV_WrongSize___init__ dc_WrongSize___init__ pm_WrongSize___init__ an_WrongSize___init__ cd_WrongSize___init__ ct_WrongSize___init__), f_check_number, (PySem.W.fnOf "check_number" "check_number" (defArgs s_check_number) (defBody s_check_number) (defScope s_check_number) .none kV_check_number dc_check_number pm_check_number an_check_number cd_check_number ct_check_number), f_Frac___init__, (PySem.W.fnOf "__init__" "Frac.__init__" (defArgs s_Frac___init__) (defBody s_Frac___init__) (defScope s_Frac___init__) (.ref t_Frac___init__) kV_Frac___init__ dc_Frac___init__ pm_Frac___init__ an_Frac___init__ cd_Frac___init__ ct_Frac___init__), f_Frac___sub__, (PySem.W.fnOf "__sub__" "Frac.__sub__" (defArgs s_Frac___sub__) (defBody s_Frac___sub__) (defScope s_Frac___sub__) .none kV_Frac___sub__ dc_Frac___sub__ pm_Frac___sub__ an_Frac___sub__ cd_Frac___sub__ ct_Frac___sub__), f_Frac___mul__, (PySem.W.fnOf "__mul__" "Frac.__mul__" (defArgs s_Frac___mul__) (defBody s_Frac___mul__) (defScope s_Frac___mul__) .none kV_Frac___mul__ dc_Frac___mul__ pm_Frac___mul__ an_Frac___mul__ cd_Frac___mul__ ct_Frac___mul__), f_Frac___add__, (PySem.W.fnOf "__add__" "Frac.__add__" (defArgs s_Frac___add__) (defBody s_Frac___add__) (defScope s_Frac___add__) .none kV_Frac___add__ dc_Frac___add__ pm_Frac___add__ an_Frac___add__ cd_Frac___add__ ct_Frac___add__), f_total, (PySem.W.fnOf "total" "total" (defArgs s_total) (defBody s_total) (defScope s_total) .none kV_total dc_total pm_total an_total cd_total ct_total), f_mean_of_row, (PySem.W.fnOf "mean_of_row" "mean_of_row" (defArgs s_mean_of_row) (defBody s_mean_of_row) (defScope s_mean_of_row) .none kV_mean_of_row dc_mean_of_row pm_mean_of_row an_mean_of_row cd_mean_of_row ct_mean_of_row), f_Frac_is_below, (PySem.W.fnOf "is_below" "Frac.is_below" (defArgs s_Frac_is_below) (defBody s_Frac_is_below) (defScope s_Frac_is_below) .none kV_Frac_is_below dc_Frac_is_below pm_Frac_is_below an_Frac_is_below cd_Frac_is_below ct_Frac_is_below), f_greatest_of, (PySem.W.fnOf "greatest_of" "greatest_of" (defArgs s_greatest_of) (defBody s_greatest_of) (defScope s_greatest_of) .none kV_greatest_of dc_greatest_of pm_greatest_of an_greatest_of cd_greatest_of ct_greatest_of), f_means_from, (PySem.W.fnOf "means_from" "means_from" (defArgs s_means_from) (defBody s_means_from) (defScope s_means_from) .none kV_means_from dc_means_from pm_means_from an_means_from cd_means_from ct_means_from), f_rank_worths, (PySem.W.fnOf "rank_worths" "rank_worths" (defArgs s_rank_worths) (defBody s_rank_worths) (defScope s_rank_worths) .none kV_rank_worths dc_rank_worths pm_rank_worths an_rank_worths cd_rank_worths ct_rank_worths), f_least_mean_rank, (PySem.W.fnOf "least_mean_rank" "least_mean_rank" (defArgs s_least_mean_rank) (defBody s_least_mean_rank) (defScope s_least_mean_rank) .none kV_least_mean_rank dc_least_mean_rank pm_least_mean_rank an_least_mean_rank cd_least_mean_rank ct_least_mean_rank), f_rule_of, (PySem.W.fnOf "rule_of" "rule_of" (defArgs s_rule_of) (defBody s_rule_of) (defScope s_rule_of) .none kV_rule_of dc_rule_of pm_rule_of an_rule_of cd_rule_of ct_rule_of), f_mean_rank_rule, (PySem.W.fnOf "mean_rank_rule" "mean_rank_rule" (defArgs s_mean_rank_rule) (defBody s_mean_rank_rule) (defScope s_mean_rank_rule) .none kV_mean_rank_rule dc_mean_rank_rule pm_mean_rank_rule an_mean_rank_rule cd_mean_rank_rule ct_mean_rank_rule), f_Unfit___init__, (PySem.W.fnOf "__init__" "Unfit.__init__" (defArgs s_Unfit___init__) (defBody s_Unfit___init__) (defScope s_Unfit___init__) .none kV_Unfit___init__ dc_Unfit___init__ pm_Unfit___init__ an_Unfit___init__ cd_Unfit___init__ ct_Unfit___init__), f_check_top, (PySem.W.fnOf "check_top" "check_top" (defArgs s_check_top) (defBody s_check_top) (defScope s_check_top) .none kV_check_top dc_check_top pm_check_top an_check_top cd_check_top ct_check_top), f_rank_weight, (PySem.W.fnOf "rank_weight" "rank_weight" (defArgs s_rank_weight) (defBody s_rank_weight) (defScope s_rank_weight) .none kV_rank_weight dc_rank_weight pm_rank_weight an_rank_weight cd_rank_weight ct_rank_weight), f_top_worths, (PySem.W.fnOf "top_worths" "top_worths" (defArgs s_top_worths) (defBody s_top_worths) (defScope s_top_worths) .none kV_top_worths dc_top_worths pm_top_worths an_top_worths cd_top_worths ct_top_worths), f_top_chance, (PySem.W.fnOf "top_chance" "top_chance" (defArgs s_top_chance) (defBody s_top_chance) (defScope s_top_chance) .none kV_top_chance dc_top_chance pm_top_chance an_top_chance cd_top_chance ct_top_chance), f_top_rule, (PySem.W.fnOf "top_rule" "top_rule" (defArgs s_top_rule) (defBody s_top_rule) (defScope s_top_rule) .none kV_top_rule dc_top_rule pm_top_rule an_top_rule cd_top_rule ct_top_rule), f_is_sequence, (PySem.W.fnOf "is_sequence" "is_sequence" (defArgs s_is_sequence) (defBody s_is_sequence) (defScope s_is_sequence) .none kV_is_sequence dc_is_sequence pm_is_sequence an_is_sequence cd_is_sequence ct_is_sequence), f_limits_of, (PySem.W.fnOf "limits_of" "limits_of" (defArgs s_limits_of) (defBody s_limits_of) (defScope s_limits_of) .none kV_limits_of dc_limits_of pm_limits_of an_limits_of cd_limits_of ct_limits_of), f_followed, (PySem.W.fnOf "followed" "followed" (defArgs s_followed) (defBody s_followed) (defScope s_followed) .none kV_followed dc_followed pm_followed an_followed cd_followed ct_followed), f__law_taken, (PySem.W.fnOf "_law_taken" "_law_taken" (defArgs s__law_taken) (defBody s__law_taken) (defScope s__law_taken) .none kV__law_taken dc__law_taken pm__law_taken an__law_taken cd__law_taken ct__law_taken), f__law_chances, (PySem.W.fnOf "_law_chances" "_law_chances" (defArgs s__law_chances) (defBody s__law_chances) (defScope s__law_chances) .none kV__law_chances dc__law_chances pm__law_chances an__law_chances cd__law_chances ct__law_chances), f__law_goal_holds, (PySem.W.fnOf "_law_goal_holds" "_law_goal_holds" (defArgs s__law_goal_holds) (defBody s__law_goal_holds) (defScope s__law_goal_holds) .none kV__law_goal_holds dc__law_goal_holds pm__law_goal_holds an__law_goal_holds cd__law_goal_holds ct__law_goal_holds), f_chance_behind, (PySem.W.fnOf "chance_behind" "chance_behind" (defArgs s_chance_behind) (defBody s_chance_behind) (defScope s_chance_behind) .none kV_chance_behind dc_chance_behind pm_chance_behind an_chance_behind cd_chance_behind ct_chance_behind), f_pass_chance, (PySem.W.fnOf "pass_chance" "pass_chance" (defArgs s_pass_chance) (defBody s_pass_chance) (defScope s_pass_chance) .none kV_pass_chance dc_pass_chance pm_pass_chance an_pass_chance cd_pass_chance ct_pass_chance), f__law_copy, (PySem.W.fnOf "_law_copy" "_law_copy" (defArgs s__law_copy) (defBody s__law_copy) (defScope s__law_copy) .none kV__law_copy dc__law_copy pm__law_copy an__law_copy cd__law_copy ct__law_copy), f__law_kept, (PySem.W.fnOf "_law_kept" "_law_kept" (defArgs s__law_kept) (defBody s__law_kept) (defScope s__law_kept) .none kV__law_kept dc__law_kept pm__law_kept an__law_kept cd__law_kept ct__law_kept), f__law_size_refused, (PySem.W.fnOf "_law_size_refused" "_law_size_refused" (defArgs s__law_size_refused) (defBody s__law_size_refused) (defScope s__law_size_refused) .none kV__law_size_refused dc__law_size_refused pm__law_size_refused an__law_size_refused cd__law_size_refused ct__law_size_refused), f__law_many_refused, (PySem.W.fnOf "_law_many_refused" "_law_many_refused" (defArgs s__law_many_refused) (defBody s__law_many_refused) (defScope s__law_many_refused) .none kV__law_many_refused dc__law_many_refused pm__law_many_refused an__law_many_refused cd__law_many_refused ct__law_many_refused), f__law_asked, (PySem.W.fnOf "_law_asked" "_law_asked" (defArgs s__law_asked) (defBody s__law_asked) (defScope s__law_asked) .none kV__law_asked dc__law_asked pm__law_asked an__law_asked cd__law_asked ct__law_asked), fa, (PySem.W.fnOf "law" "law" (defArgs s_law) (defBody s_law) (defScope s_law) .none kV_law dc_law pm_law an_law cd_law ct_law)⟩
  have cl_Frac : Cls K c_Frac := ⟨pg_Frac, hd_Frac, po_Frac, sa_Frac⟩
  have F__law_pick := funD_mk (st := s__law_pick) l__law_pick c__law_pick k__law_pick
  have B__law_pick := FunD.bindsN (ps := ["feed", "many"]) F__law_pick fun _ _ _ _ _ _ us hl => match us, hl with | [_, _], _ => rfl
  have F__law_ways := funD_mk (st := s__law_ways) l__law_ways c__law_ways k__law_ways
  have B__law_ways := FunD.bindsN (ps := ["many", "place", "rank"]) F__law_ways fun _ _ _ _ _ _ us hl => match us, hl with | [_, _, _], _ => rfl
  have F__law_table := funD_mk (st := s__law_table) l__law_table c__law_table k__law_table
  have B__law_table := FunD.bindsN (ps := ["many"]) F__law_table fun _ _ _ _ _ _ us hl => match us, hl with | [_], _ => rfl
  have F__law_factorial := funD_mk (st := s__law_factorial) l__law_factorial c__law_factorial k__law_factorial
  have B__law_factorial := FunD.bindsN (ps := ["many"]) F__law_factorial fun _ _ _ _ _ _ us hl => match us, hl with | [_], _ => rfl
  have F__law_score := funD_mk (st := s__law_score) l__law_score c__law_score k__law_score
  have B__law_score := FunD.bindsN (ps := ["counts", "goal"]) F__law_score fun _ _ _ _ _ _ us hl => match us, hl with | [_, _], _ => rfl
  have F__law_more := funD_mk (st := s__law_more) l__law_more c__law_more k__law_more
  have B__law_more := FunD.bindsN (ps := ["one", "two"]) F__law_more fun _ _ _ _ _ _ us hl => match us, hl with | [_, _], _ => rfl
  have F__law_backward := funD_mk (st := s__law_backward) l__law_backward c__law_backward k__law_backward
  have B__law_backward := FunD.bindsN (ps := ["table", "goal"]) F__law_backward fun _ _ _ _ _ _ us hl => match us, hl with | [_, _], _ => rfl
  have F__law_plain := funD_mk (st := s__law_plain) l__law_plain c__law_plain k__law_plain
  have B__law_plain := FunD.bindsN (ps := ["found"]) F__law_plain fun _ _ _ _ _ _ us hl => match us, hl with | [_], _ => rfl
  have F__law_cut := funD_mk (st := s__law_cut) l__law_cut c__law_cut k__law_cut
  have B__law_cut := FunD.bindsN (ps := ["num", "den"]) F__law_cut fun _ _ _ _ _ _ us hl => match us, hl with | [_, _], _ => rfl
  have F__law_frac := funD_mk (st := s__law_frac) l__law_frac c__law_frac k__law_frac
  have B__law_frac := FunD.bindsN (ps := ["found", "num", "den"]) F__law_frac fun _ _ _ _ _ _ us hl => match us, hl with | [_, _, _], _ => rfl
  have F__law_like := funD_mk (st := s__law_like) l__law_like c__law_like k__law_like
  have B__law_like := FunD.bindsN (ps := ["found", "due"]) F__law_like fun _ _ _ _ _ _ us hl => match us, hl with | [_, _], _ => rfl
  have F_is_integer := funD_mk (st := s_is_integer) l_is_integer c_is_integer k_is_integer
  have B_is_integer := FunD.bindsN (ps := ["value"]) F_is_integer fun _ _ _ _ _ _ us hl => match us, hl with | [_], _ => rfl
  have F_is_between := funD_mk (st := s_is_between) l_is_between c_is_between k_is_between
  have B_is_between := FunD.bindsN (ps := ["value", "least", "most"]) F_is_between fun _ _ _ _ _ _ us hl => match us, hl with | [_, _, _], _ => rfl
  have F_WrongSize___init__ := funD_mk (st := s_WrongSize___init__) l_WrongSize___init__ c_WrongSize___init__ k_WrongSize___init__
  have B_WrongSize___init__ := FunD.bindsN (ps := ["self", "many"]) F_WrongSize___init__ fun _ _ _ _ _ _ us hl => match us, hl with | [_, _], _ => rfl
  have F_check_number := funD_mk (st := s_check_number) l_check_number c_check_number k_check_number
  have B_check_number := FunD.bindsN (ps := ["n"]) F_check_number fun _ _ _ _ _ _ us hl => match us, hl with | [_], _ => rfl
  have F_Frac___init__ := funD_mk1 (st := s_Frac___init__) l_Frac___init__ c_Frac___init__ k_Frac___init__ lt_Frac___init__
  have F_Frac___sub__ := funD_mk (st := s_Frac___sub__) l_Frac___sub__ c_Frac___sub__ k_Frac___sub__
  have B_Frac___sub__ := FunD.bindsN (ps := ["self", "other"]) F_Frac___sub__ fun _ _ _ _ _ _ us hl => match us, hl with | [_, _], _ => rfl
  have F_Frac___mul__ := funD_mk (st := s_Frac___mul__) l_Frac___mul__ c_Frac___mul__ k_Frac___mul__
  have B_Frac___mul__ := FunD.bindsN (ps := ["self", "other"]) F_Frac___mul__ fun _ _ _ _ _ _ us hl => match us, hl with | [_, _], _ => rfl
  have F_Frac___add__ := funD_mk (st := s_Frac___add__) l_Frac___add__ c_Frac___add__ k_Frac___add__
  have B_Frac___add__ := FunD.bindsN (ps := ["self", "other"]) F_Frac___add__ fun _ _ _ _ _ _ us hl => match us, hl with | [_, _], _ => rfl
  have F_total := funD_mk (st := s_total) l_total c_total k_total
  have B_total := FunD.bindsN (ps := ["fracs"]) F_total fun _ _ _ _ _ _ us hl => match us, hl with | [_], _ => rfl
  have F_mean_of_row := funD_mk (st := s_mean_of_row) l_mean_of_row c_mean_of_row k_mean_of_row
  have B_mean_of_row := FunD.bindsN (ps := ["row"]) F_mean_of_row fun _ _ _ _ _ _ us hl => match us, hl with | [_], _ => rfl
  have F_Frac_is_below := funD_mk (st := s_Frac_is_below) l_Frac_is_below c_Frac_is_below k_Frac_is_below
  have B_Frac_is_below := FunD.bindsN (ps := ["self", "other"]) F_Frac_is_below fun _ _ _ _ _ _ us hl => match us, hl with | [_, _], _ => rfl
  have F_greatest_of := funD_mk (st := s_greatest_of) l_greatest_of c_greatest_of k_greatest_of
  have B_greatest_of := FunD.bindsN (ps := ["fracs"]) F_greatest_of fun _ _ _ _ _ _ us hl => match us, hl with | [_], _ => rfl
  have F_means_from := funD_mk (st := s_means_from) l_means_from c_means_from k_means_from
  have B_means_from := FunD.bindsN (ps := ["rows"]) F_means_from fun _ _ _ _ _ _ us hl => match us, hl with | [_], _ => rfl
  have F_rank_worths := funD_mk (st := s_rank_worths) l_rank_worths c_rank_worths k_rank_worths
  have B_rank_worths := FunD.bindsN (ps := ["n"]) F_rank_worths fun _ _ _ _ _ _ us hl => match us, hl with | [_], _ => rfl
  have F_least_mean_rank := funD_mk (st := s_least_mean_rank) l_least_mean_rank c_least_mean_rank k_least_mean_rank
  have B_least_mean_rank := FunD.bindsN (ps := ["n"]) F_least_mean_rank fun _ _ _ _ _ _ us hl => match us, hl with | [_], _ => rfl
  have F_rule_of := funD_mk (st := s_rule_of) l_rule_of c_rule_of k_rule_of
  have B_rule_of := FunD.bindsN (ps := ["rows"]) F_rule_of fun _ _ _ _ _ _ us hl => match us, hl with | [_], _ => rfl
  have F_mean_rank_rule := funD_mk (st := s_mean_rank_rule) l_mean_rank_rule c_mean_rank_rule k_mean_rank_rule
  have B_mean_rank_rule := FunD.bindsN (ps := ["n"]) F_mean_rank_rule fun _ _ _ _ _ _ us hl => match us, hl with | [_], _ => rfl
  have F_Unfit___init__ := funD_mk (st := s_Unfit___init__) l_Unfit___init__ c_Unfit___init__ k_Unfit___init__
  have B_Unfit___init__ := FunD.bindsN (ps := ["self", "what"]) F_Unfit___init__ fun _ _ _ _ _ _ us hl => match us, hl with | [_, _], _ => rfl
  have F_check_top := funD_mk (st := s_check_top) l_check_top c_check_top k_check_top
  have B_check_top := FunD.bindsN (ps := ["n", "many"]) F_check_top fun _ _ _ _ _ _ us hl => match us, hl with | [_, _], _ => rfl
  have F_rank_weight := funD_mk (st := s_rank_weight) l_rank_weight c_rank_weight k_rank_weight
  have B_rank_weight := FunD.bindsN (ps := ["n", "come", "seen", "rank"]) F_rank_weight fun _ _ _ _ _ _ us hl => match us, hl with | [_, _, _, _], _ => rfl
  have F_top_worths := funD_mk (st := s_top_worths) l_top_worths c_top_worths k_top_worths
  have B_top_worths := FunD.bindsN (ps := ["n", "many"]) F_top_worths fun _ _ _ _ _ _ us hl => match us, hl with | [_, _], _ => rfl
  have F_top_chance := funD_mk (st := s_top_chance) l_top_chance c_top_chance k_top_chance
  have B_top_chance := FunD.bindsN (ps := ["n", "many"]) F_top_chance fun _ _ _ _ _ _ us hl => match us, hl with | [_, _], _ => rfl
  have F_top_rule := funD_mk (st := s_top_rule) l_top_rule c_top_rule k_top_rule
  have B_top_rule := FunD.bindsN (ps := ["n", "many"]) F_top_rule fun _ _ _ _ _ _ us hl => match us, hl with | [_, _], _ => rfl
  have F_is_sequence := funD_mk (st := s_is_sequence) l_is_sequence c_is_sequence k_is_sequence
  have B_is_sequence := FunD.bindsN (ps := ["value"]) F_is_sequence fun _ _ _ _ _ _ us hl => match us, hl with | [_], _ => rfl
  have F_limits_of := funD_mk (st := s_limits_of) l_limits_of c_limits_of k_limits_of
  have B_limits_of := FunD.bindsN (ps := ["n", "rule"]) F_limits_of fun _ _ _ _ _ _ us hl => match us, hl with | [_, _], _ => rfl
  have F_followed := funD_mk (st := s_followed) l_followed c_followed k_followed
  have B_followed := FunD.bindsN (ps := ["n", "rule"]) F_followed fun _ _ _ _ _ _ us hl => match us, hl with | [_, _], _ => rfl
  have F__law_taken := funD_mk (st := s__law_taken) l__law_taken c__law_taken k__law_taken
  have B__law_taken := FunD.bindsN (ps := ["table", "rule"]) F__law_taken fun _ _ _ _ _ _ us hl => match us, hl with | [_, _], _ => rfl
  have F__law_chances := funD_mk (st := s__law_chances) l__law_chances c__law_chances k__law_chances
  have B__law_chances := FunD.bindsN (ps := ["table", "rule", "whole"]) F__law_chances fun _ _ _ _ _ _ us hl => match us, hl with | [_, _, _], _ => rfl
  have F__law_goal_holds := funD_mk (st := s__law_goal_holds) l__law_goal_holds c__law_goal_holds k__law_goal_holds
  have B__law_goal_holds := FunD.bindsN (ps := ["size", "goal", "table", "whole"]) F__law_goal_holds fun _ _ _ _ _ _ us hl => match us, hl with | [_, _, _, _], _ => rfl
  have F_chance_behind := funD_mk (st := s_chance_behind) l_chance_behind c_chance_behind k_chance_behind
  have B_chance_behind := FunD.bindsN (ps := ["n", "r"]) F_chance_behind fun _ _ _ _ _ _ us hl => match us, hl with | [_, _], _ => rfl
  have F_pass_chance := funD_mk (st := s_pass_chance) l_pass_chance c_pass_chance k_pass_chance
  have B_pass_chance := FunD.bindsN (ps := ["n", "r"]) F_pass_chance fun _ _ _ _ _ _ us hl => match us, hl with | [_, _], _ => rfl
  have F__law_copy := funD_mk (st := s__law_copy) l__law_copy c__law_copy k__law_copy
  have B__law_copy := FunD.bindsN (ps := ["value"]) F__law_copy fun _ _ _ _ _ _ us hl => match us, hl with | [_], _ => rfl
  have F__law_kept := funD_mk (st := s__law_kept) l__law_kept c__law_kept k__law_kept
  have B__law_kept := FunD.bindsN (ps := ["found", "due"]) F__law_kept fun _ _ _ _ _ _ us hl => match us, hl with | [_, _], _ => rfl
  have F__law_size_refused := funD_mk (st := s__law_size_refused) l__law_size_refused c__law_size_refused k__law_size_refused
  have B__law_size_refused := FunD.bindsN (ps := ["which", "wrong", "many"]) F__law_size_refused fun _ _ _ _ _ _ us hl => match us, hl with | [_, _, _], _ => rfl
  have F__law_many_refused := funD_mk (st := s__law_many_refused) l__law_many_refused c__law_many_refused k__law_many_refused
  have B__law_many_refused := FunD.bindsN (ps := ["which", "size", "wrong"]) F__law_many_refused fun _ _ _ _ _ _ us hl => match us, hl with | [_, _, _], _ => rfl
  have F__law_asked := funD_mk (st := s__law_asked) l__law_asked c__law_asked k__law_asked
  have B__law_asked := FunD.bindsN (ps := ["script"]) F__law_asked fun _ _ _ _ _ _ us hl => match us, hl with | [_], _ => rfl
  have F_law := funD_mk (st := s_law) l_law c_law k_law
  have fo_num : ∀ ex, FldOk K (tab a ex) "num" [(0, 0)] := fun ex => fld_mk (by
    intro p hp
    simp only [List.mem_cons, List.mem_nil_iff, or_false] at hp
    subst hp
    exact ⟨cl_Frac, na_Frac_num, rfl, fl_nd_0⟩)
  have fo_den : ∀ ex, FldOk K (tab a ex) "den" [(0, 1)] := fun ex => fld_mk (by
    intro p hp
    simp only [List.mem_cons, List.mem_nil_iff, or_false] at hp
    subst hp
    exact ⟨cl_Frac, na_Frac_den, rfl, fl_nd_0⟩)
  have ty : ∀ ex, TyOk K (tab a ex) [0] := fun ex => tyOk_mk hget htk (by
    intro c hc
    simp only [List.mem_cons, List.mem_nil_iff, or_false] at hc
    rcases hc with rfl
    · exact ⟨cl_Frac, ⟨y0_Frac, y1_Frac, y2_Frac, y3_Frac, yb0_Frac, yb1_Frac, yb2_Frac, yb3_Frac, yb4_Frac, yb5_Frac, yo0_Frac, yo1_Frac, yo2_Frac, yo3_Frac, yo4_Frac⟩⟩)
   (by
    intro c hc c2 hc2 hne
    simp only [List.mem_cons, List.mem_nil_iff, or_false] at hc hc2
    subst hc; subst hc2; exact absurd hne (by decide))
  have U : Txt K mg a := {
    fn__law_pick := F__law_pick,
    g__law_pick := ⟨PySem.W.mg_of X G a__law_pick, k__law_pick, B__law_pick⟩,
    fn__law_ways := F__law_ways,
    g__law_ways := ⟨PySem.W.mg_of X G a__law_ways, k__law_ways, B__law_ways⟩,
    fn__law_table := F__law_table,
    g__law_table := ⟨PySem.W.mg_of X G a__law_table, k__law_table, B__law_table⟩,
    fn__law_factorial := F__law_factorial,
    g__law_factorial := ⟨PySem.W.mg_of X G a__law_factorial, k__law_factorial, B__law_factorial⟩,
    fn__law_score := F__law_score,
    g__law_score := ⟨PySem.W.mg_of X G a__law_score, k__law_score, B__law_score⟩,
    fn__law_more := F__law_more,
    g__law_more := ⟨PySem.W.mg_of X G a__law_more, k__law_more, B__law_more⟩,
    fn__law_backward := F__law_backward,
    g__law_backward := ⟨PySem.W.mg_of X G a__law_backward, k__law_backward, B__law_backward⟩,
    fn__law_plain := F__law_plain,
    g__law_plain := ⟨PySem.W.mg_of X G a__law_plain, k__law_plain, B__law_plain⟩,
    fn__law_cut := F__law_cut,
    g__law_cut := ⟨PySem.W.mg_of X G a__law_cut, k__law_cut, B__law_cut⟩,
    fn__law_frac := F__law_frac,
    g__law_frac := ⟨PySem.W.mg_of X G a__law_frac, k__law_frac, B__law_frac⟩,
    fn__law_like := F__law_like,
    g__law_like := ⟨PySem.W.mg_of X G a__law_like, k__law_like, B__law_like⟩,
    fn_is_integer := F_is_integer,
    g_is_integer := ⟨PySem.W.mg_of X G a_is_integer, k_is_integer, B_is_integer⟩,
    fn_is_between := F_is_between,
    g_is_between := ⟨PySem.W.mg_of X G a_is_between, k_is_between, B_is_between⟩,
    fn_WrongSize___init__ := F_WrongSize___init__,
    fn_check_number := F_check_number,
    g_check_number := ⟨PySem.W.mg_of X G a_check_number, k_check_number, B_check_number⟩,
    fn_Frac___init__ := F_Frac___init__,
    gd_Frac___init___0 := ⟨FunD.binds1 F_Frac___init__ 3 1 (by simp) rfl fun _ _ _ _ _ _ _ us its h1 h2 => match us, h1, its, h2 with | [_, _, _], _, [_], _ => ⟨_, rfl, rfl⟩⟩,
    gd_Frac___init___1 := ⟨FunD.binds1 F_Frac___init__ 2 0 (by simp) rfl fun _ _ _ _ _ _ _ us its h1 h2 => match us, h1, its, h2 with | [_, _], _, [_], _ => ⟨_, rfl, rfl⟩⟩,
    fn_Frac___sub__ := F_Frac___sub__,
    op_Frac___sub__ := ⟨a_Frac___sub__, i_Frac___sub__, sf_Frac, B_Frac___sub__⟩,
    fn_Frac___mul__ := F_Frac___mul__,
    op_Frac___mul__ := ⟨a_Frac___mul__, i_Frac___mul__, sf_Frac, B_Frac___mul__⟩,
    fn_Frac___add__ := F_Frac___add__,
    op_Frac___add__ := ⟨a_Frac___add__, i_Frac___add__, sf_Frac, B_Frac___add__⟩,
    fn_total := F_total,
    g_total := ⟨PySem.W.mg_of X G a_total, k_total, B_total⟩,
    fn_mean_of_row := F_mean_of_row,
    g_mean_of_row := ⟨PySem.W.mg_of X G a_mean_of_row, k_mean_of_row, B_mean_of_row⟩,
    fn_Frac_is_below := F_Frac_is_below,
    me_Frac_is_below := ⟨a_Frac_is_below, i_Frac_is_below, k_Frac_is_below⟩,
    b_Frac_is_below := B_Frac_is_below,
    fn_greatest_of := F_greatest_of,
    g_greatest_of := ⟨PySem.W.mg_of X G a_greatest_of, k_greatest_of, B_greatest_of⟩,
    fn_means_from := F_means_from,
    g_means_from := ⟨PySem.W.mg_of X G a_means_from, k_means_from, B_means_from⟩,
    fn_rank_worths := F_rank_worths,
    g_rank_worths := ⟨PySem.W.mg_of X G a_rank_worths, k_rank_worths, B_rank_worths⟩,
    fn_least_mean_rank := F_least_mean_rank,
    g_least_mean_rank := ⟨PySem.W.mg_of X G a_least_mean_rank, k_least_mean_rank, B_least_mean_rank⟩,
    fn_rule_of := F_rule_of,
    g_rule_of := ⟨PySem.W.mg_of X G a_rule_of, k_rule_of, B_rule_of⟩,
    fn_mean_rank_rule := F_mean_rank_rule,
    g_mean_rank_rule := ⟨PySem.W.mg_of X G a_mean_rank_rule, k_mean_rank_rule, B_mean_rank_rule⟩,
    fn_Unfit___init__ := F_Unfit___init__,
    fn_check_top := F_check_top,
    g_check_top := ⟨PySem.W.mg_of X G a_check_top, k_check_top, B_check_top⟩,
    fn_rank_weight := F_rank_weight,
    g_rank_weight := ⟨PySem.W.mg_of X G a_rank_weight, k_rank_weight, B_rank_weight⟩,
    fn_top_worths := F_top_worths,
    g_top_worths := ⟨PySem.W.mg_of X G a_top_worths, k_top_worths, B_top_worths⟩,
    fn_top_chance := F_top_chance,
    g_top_chance := ⟨PySem.W.mg_of X G a_top_chance, k_top_chance, B_top_chance⟩,
    fn_top_rule := F_top_rule,
    g_top_rule := ⟨PySem.W.mg_of X G a_top_rule, k_top_rule, B_top_rule⟩,
    fn_is_sequence := F_is_sequence,
    g_is_sequence := ⟨PySem.W.mg_of X G a_is_sequence, k_is_sequence, B_is_sequence⟩,
    fn_limits_of := F_limits_of,
    g_limits_of := ⟨PySem.W.mg_of X G a_limits_of, k_limits_of, B_limits_of⟩,
    fn_followed := F_followed,
    g_followed := ⟨PySem.W.mg_of X G a_followed, k_followed, B_followed⟩,
    fn__law_taken := F__law_taken,
    g__law_taken := ⟨PySem.W.mg_of X G a__law_taken, k__law_taken, B__law_taken⟩,
    fn__law_chances := F__law_chances,
    g__law_chances := ⟨PySem.W.mg_of X G a__law_chances, k__law_chances, B__law_chances⟩,
    fn__law_goal_holds := F__law_goal_holds,
    g__law_goal_holds := ⟨PySem.W.mg_of X G a__law_goal_holds, k__law_goal_holds, B__law_goal_holds⟩,
    fn_chance_behind := F_chance_behind,
    g_chance_behind := ⟨PySem.W.mg_of X G a_chance_behind, k_chance_behind, B_chance_behind⟩,
    fn_pass_chance := F_pass_chance,
    g_pass_chance := ⟨PySem.W.mg_of X G a_pass_chance, k_pass_chance, B_pass_chance⟩,
    fn__law_copy := F__law_copy,
    g__law_copy := ⟨PySem.W.mg_of X G a__law_copy, k__law_copy, B__law_copy⟩,
    fn__law_kept := F__law_kept,
    g__law_kept := ⟨PySem.W.mg_of X G a__law_kept, k__law_kept, B__law_kept⟩,
    fn__law_size_refused := F__law_size_refused,
    g__law_size_refused := ⟨PySem.W.mg_of X G a__law_size_refused, k__law_size_refused, B__law_size_refused⟩,
    fn__law_many_refused := F__law_many_refused,
    g__law_many_refused := ⟨PySem.W.mg_of X G a__law_many_refused, k__law_many_refused, B__law_many_refused⟩,
    fn__law_asked := F__law_asked,
    g__law_asked := ⟨PySem.W.mg_of X G a__law_asked, k__law_asked, B__law_asked⟩,
    fn_law := F_law,
    kw_top_chance_1_many := kbn_of2 (fun us ws h1 h2 => match us, h1, ws, h2 with | [_], _, [_], _ => rfl),
    kw_top_rule_1_many := kbn_of2 (fun us ws h1 h2 => match us, h1, ws, h2 with | [_], _, [_], _ => rfl),
    gx_WrongSize := ⟨PySem.W.mg_of X G hc_WrongSize, ⟨⟨nm_WrongSize, q_WrongSize, N_WrongSize, bs_WrongSize, _, sn_WrongSize, sub_WrongSize, ab_WrongSize, col_WrongSize, dd_WrongSize, m0_WrongSize, m1_WrongSize, m2_WrongSize, m3_WrongSize, m5_WrongSize, xl_WrongSize, by with_unfolding_all rfl⟩, sa_WrongSize, sb_WrongSize, tc_WrongSize, kc_WrongSize⟩, a_WrongSize___init__, ti_WrongSize___init__, B_WrongSize___init__⟩,
    nx_WrongSize_many := nx_WrongSize_many,
    gx_Unfit := ⟨PySem.W.mg_of X G hc_Unfit, ⟨⟨nm_Unfit, q_Unfit, N_Unfit, bs_Unfit, _, sn_Unfit, sub_Unfit, ab_Unfit, col_Unfit, dd_Unfit, m0_Unfit, m1_Unfit, m2_Unfit, m3_Unfit, m5_Unfit, xl_Unfit, by with_unfolding_all rfl⟩, sa_Unfit, sb_Unfit, tc_Unfit, kc_Unfit⟩, a_Unfit___init__, ti_Unfit___init__, B_Unfit___init__⟩,
    nx_Unfit_what := nx_Unfit_what,
    em_WrongSize := (em_cons sb_WrongSize hd_WrongSize tc_WrongSize su_Unfit_WrongSize (em_cons sb_WrongSize hd_WrongSize tc_WrongSize su_WrongSize_WrongSize em_nil)),
    xf_WrongSize_many := (xf_cons xa_WrongSize xb_WrongSize sb_WrongSize hd_WrongSize nx_WrongSize_many rfl xf_nil),
    ix_WrongSize_Unfit := (is_cons ⟨ic_WrongSize, xa_WrongSize, xb_WrongSize, sb_WrongSize, xc_WrongSize, hget, htk, xm_WrongSize⟩ (kit_ne nq_WrongSize_Unfit ic_Unfit tc_Unfit su_WrongSize_Unfit) is_nil),
    em_Unfit := (em_cons sb_Unfit hd_Unfit tc_Unfit su_Unfit_Unfit (em_cons sb_Unfit hd_Unfit tc_Unfit su_WrongSize_Unfit em_nil)),
    xf_Unfit_what := (xf_cons xa_Unfit xb_Unfit sb_Unfit hd_Unfit nx_Unfit_what rfl xf_nil),
    ix_Unfit_WrongSize := (is_cons ⟨ic_Unfit, xa_Unfit, xb_Unfit, sb_Unfit, xc_Unfit, hget, htk, xm_Unfit⟩ (kit_ne nq_Unfit_WrongSize ic_WrongSize tc_WrongSize su_Unfit_WrongSize) is_nil),
    xg_Unfit := PySem.W.mg_of X G hc_Unfit,
    xg_WrongSize := PySem.W.mg_of X G hc_WrongSize,
    gc_Frac := ⟨PySem.W.mg_of X G hc_Frac, ⟨mk_Frac, a_Frac___init__, i_Frac___init__, kc_Frac⟩⟩,
    cl_Frac := cl_Frac,
    na_Frac_num := na_Frac_num,
    na_Frac_den := na_Frac_den,
    fo_num := fo_num,
    fo_den := fo_den,
    ty := ty,
    n_abs := PySem.W.mg_none_of X G hn_abs,
    n_all := PySem.W.mg_none_of X G hn_all,
    n_bool := PySem.W.mg_none_of X G hn_bool,
    n_enumerate := PySem.W.mg_none_of X G hn_enumerate,
    n_int := PySem.W.mg_none_of X G hn_int,
    n_isinstance := PySem.W.mg_none_of X G hn_isinstance,
    n_len := PySem.W.mg_none_of X G hn_len,
    n_list := PySem.W.mg_none_of X G hn_list,
    n_min := PySem.W.mg_none_of X G hn_min,
    n_range := PySem.W.mg_none_of X G hn_range,
    n_reversed := PySem.W.mg_none_of X G hn_reversed,
    n_str := PySem.W.mg_none_of X G hn_str,
    n_sum := PySem.W.mg_none_of X G hn_sum,
    n_tuple := PySem.W.mg_none_of X G hn_tuple,
    n_zip := PySem.W.mg_none_of X G hn_zip,
    m_comb := PySem.W.mg_of X G hm_comb,
    m_gcd := PySem.W.mg_of X G hm_gcd,
    k_MOST_STRANGERS := const_mk X G hk_MOST_STRANGERS ⟨_, rfl⟩ }
  exact ⟨PySem.W.fnOf "law" "law" (defArgs s_law) (defBody s_law) (defScope s_law) .none kV_law dc_law pm_law an_law cd_law ct_law, fun s v => .of_eq rfl, fun base _ _ => (ok_law U).imp (law_imp hlaw)⟩
end Z.L56
end
set_option Elab.async false
set_option linter.all false
set_option maxRecDepth 100000
namespace Z.L56.KV
open PySem PySem.Spec L2
def b__law_pick (gC : Int → Int → Int) (bL : Int → Int) : Env → R (Fl × Env) := (mSeq (mSetIx 0 (mBin (gI0 (· + ·)) (mBinN 0 gIx (mCon (.int 2))) (mCon (.int 1))) (mCon (.int 2))) (mSeq (mIfS (mVal (mBin (gIB fun i j => decide (j < i)) (mBinN 0 gIx (mCon (.int 3))) (mCon (.int 0)))) (mSeq (mSet 2 (mBin (gII cNz Int.fmod) (mPrim (gOne gIntO) (mCons (mBinN 0 gIx (mCon (.int 3))) mNil)) (mVar 1))) (mSeq (mSetIx 0 (mBin (gII cDiv Int.fdiv) (mBinN 0 gIx (mCon (.int 3))) (mVar 1)) (mCon (.int 3))) (mRet (mVar 2)))) mSkip) (mSeq (mSet 3 (mBinN 0 gIx (mCon (.int 1)))) (mSeq (mSetIx 0 (mBin (gI0 (· + ·)) (mVar 3) (mCon (.int 1))) (mCon (.int 1))) (mSeq (mSet 4 (mCon (.int 23))) (mSeq (mIfS (mVal (mBin (gIB fun i j => decide (j < i)) (mPrim (gOne gLen) (mCons (mBinN 0 gIx (mCon (.int 0))) mNil)) (mCon (.int 0)))) (mSet 4 (mPrim (gOne gIntO) (mCons (mBin gIx (mBinN 0 gIx (mCon (.int 0))) (mBin (gII cNz Int.fmod) (mPrim (gOne gIntO) (mCons (mVar 3) mNil)) (mPrim (gOne gLen) (mCons (mBinN 0 gIx (mCon (.int 0))) mNil)))) mNil))) mSkip) (mSeq (mIfS (mAnd (mVal (mBin (gIB fun i j => decide (j ≤ i)) (mVar 4) (mBin (gII cPow fun i j => i ^ j.toNat) (mCon (.int 10)) (mCon (.int 16))))) (mVal (mBin (gIB fun i j => decide (i < j)) (mVar 3) (mPrim (gOne gLen) (mCons (mBinN 0 gIx (mCon (.int 0))) mNil))))) (mSeq (mSetIx 0 (mBin (gII cDiv Int.fdiv) (mVar 4) (mVar 1)) (mCon (.int 3))) (mRet (mBin (gII cNz Int.fmod) (mPrim (gOne gIntO) (mCons (mVar 4) mNil)) (mVar 1)))) mSkip) (mSeq (mSet 5 (mBin (gII cNz Int.fmod) (mPrim (gOne gIntO) (mCons (mBin (gI0 (· + ·)) (mBin (gI0 (· + ·)) (mBin (gI0 (· + ·)) (mBin (gII cMul (· * ·)) (mVar 4) (mCon (.int 40503))) (mBin (gII cMul (· * ·)) (mBinN 0 gIx (mCon (.int 2))) (mCon (.int 92821)))) (mBin (gII cMul (· * ·)) (mVar 3) (mCon (.int 31)))) (mCon (.int 17))) mNil)) (mCon (.int 1000000007)))) (mSeq (mSet 6 (mBin (gII cNz Int.fmod) (mPrim (gOne gIntO) (mCons (mBin (gI0 (· + ·)) (mBin (gI0 (· + ·)) (mBin (gII cMul (· * ·)) (mVar 5) (mVar 5)) (mBin (gII cMul (· * ·)) (mBinN 0 gIx (mCon (.int 2))) (mCon (.int 7919)))) (mBin (gII cDiv Int.fdiv) (mVar 4) (mCon (.int 8191)))) mNil)) (mCon (.int 2147483629)))) (mRet (mBin (gII cNz Int.fmod) (mPrim (gOne gIntO) (mCons (mBin (gII cDiv Int.fdiv) (mBin (gII cMul (· * ·)) (mVar 6) (mCon (.int 69069))) (mCon (.int 4096))) mNil)) (mVar 1))))))))))))
def m__law_pick (gC : Int → Int → Int) (bL : Int → Int) : List D → R (D × D) := mFnB 2 7 (b__law_pick gC bL)
def l__law_ways_e1_13 (gC : Int → Int → Int) (bL : Int → Int) : Env → R (D × Env) := (mPrim (gOne gIntO) (mCons (mBin (gEq) (mBin (gI0 (· + ·)) (mVar 6) (mCon (.int 1))) (mVar 2)) mNil))
def l__law_ways_e3_16 (gC : Int → Int → Int) (bL : Int → Int) : Env → R (D × Env) := (mCon (.int 0))
def l__law_ways_b4 (gC : Int → Int → Int) (bL : Int → Int) : Env → R (Fl × Env) := (mSeq (mSetIx 5 (mBin (gI0 (· + ·)) (mBinN 5 gIx (mVar 6)) (mBin (gII cMul (· * ·)) (mBin gIx (mVar 3) (mVar 6)) (mBin (gI0 (· - ·)) (mBin (gI0 (· - ·)) (mVar 4) (mVar 6)) (mCon (.int 1))))) (mVar 6)) (mSetIx 5 (mBin (gI0 (· + ·)) (mBinN 5 gIx (mBin (gI0 (· + ·)) (mVar 6) (mCon (.int 1)))) (mBin (gII cMul (· * ·)) (mBin gIx (mVar 3) (mVar 6)) (mBin (gI0 (· + ·)) (mVar 6) (mCon (.int 1))))) (mBin (gI0 (· + ·)) (mVar 6) (mCon (.int 1)))))
def l__law_ways_b2 (gC : Int → Int → Int) (bL : Int → Int) : Env → R (Fl × Env) := (mSeq (mSet 5 (mComp [6] (mItR1 (mCons (mVar 0) mNil)) (gtN 6) mYes (l__law_ways_e3_16 gC bL))) (mSeq (mFor (mItR1 (mCons (mBin (gI0 (· - ·)) (mVar 4) (mCon (.int 1))) mNil)) (gtN 6) (l__law_ways_b4 gC bL)) (mSet 3 (mVar 5))))
def b__law_ways (gC : Int → Int → Int) (bL : Int → Int) : Env → R (Fl × Env) := (mSeq (mSet 3 (mComp [6] (mItR1 (mCons (mVar 0) mNil)) (gtN 6) mYes (l__law_ways_e1_13 gC bL))) (mSeq (mFor (mItR2 (mCons (mBin (gI0 (· + ·)) (mVar 1) (mCon (.int 1))) (mCons (mBin (gI0 (· + ·)) (mVar 0) (mCon (.int 1))) mNil))) (gtN 4) (l__law_ways_b2 gC bL)) (mRet (mVar 3))))
def m__law_ways (gC : Int → Int → Int) (bL : Int → Int) : List D → R D := mFn 3 7 (b__law_ways gC bL)
def l__law_table_e3_21 (gC : Int → Int → Int) (bL : Int → Int) : Env → R (D × Env) := (mCall (m__law_ways gC bL) (mCons (mVar 0) (mCons (mVar 2) (mCons (mVar 3) mNil))))
def l__law_table_b2 (gC : Int → Int → Int) (bL : Int → Int) : Env → R (Fl × Env) := (mApp 1 (mComp [3] (mItR2 (mCons (mCon (.int 1)) (mCons (mBin (gI0 (· + ·)) (mVar 2) (mCon (.int 1))) mNil))) (gtN 3) mYes (l__law_table_e3_21 gC bL)))
def b__law_table (gC : Int → Int → Int) (bL : Int → Int) : Env → R (Fl × Env) := (mSeq (mSet 1 (mPrim gLst mNil)) (mSeq (mFor (mItR2 (mCons (mCon (.int 1)) (mCons (mBin (gI0 (· + ·)) (mVar 0) (mCon (.int 1))) mNil))) (gtN 2) (l__law_table_b2 gC bL)) (mRet (mVar 1))))
def m__law_table (gC : Int → Int → Int) (bL : Int → Int) : List D → R D := mFn 1 4 (b__law_table gC bL)
def l__law_factorial_b2 (gC : Int → Int → Int) (bL : Int → Int) : Env → R (Fl × Env) := (mSet 1 (mBin (gII cMul (· * ·)) (mVar 1) (mBin (gI0 (· + ·)) (mVar 2) (mCon (.int 1)))))
def b__law_factorial (gC : Int → Int → Int) (bL : Int → Int) : Env → R (Fl × Env) := (mSeq (mSet 1 (mCon (.int 1))) (mSeq (mFor (mItR1 (mCons (mVar 0) mNil)) (gtN 2) (l__law_factorial_b2 gC bL)) (mRet (mVar 1))))
def m__law_factorial (gC : Int → Int → Int) (bL : Int → Int) : List D → R D := mFn 1 3 (b__law_factorial gC bL)
def l__law_score_e3_16 (gC : Int → Int → Int) (bL : Int → Int) : Env → R (D × Env) := (mBin (gII cMul (· * ·)) (mBin (gI0 (· + ·)) (mVar 2) (mCon (.int 1))) (mBin gIx (mVar 0) (mVar 2)))
def b__law_score (gC : Int → Int → Int) (bL : Int → Int) : Env → R (Fl × Env) := (mSeq (mIfS (mVal (mBin (gIB fun i j => decide (j < i)) (mVar 1) (mCon (.int 0)))) (mRet (mPrim (gOne gSum) (mCons (mSl (mVar 0) mNoP (mPart (mVar 1))) mNil))) mSkip) (mRet (mUn (gU fun i => -i) (mPrim (gOne gSum) (mCons (mComp [2] (mItR1 (mCons (mPrim (gOne gLen) (mCons (mVar 0) mNil)) mNil)) (gtN 2) mYes (l__law_score_e3_16 gC bL)) mNil)))))
def m__law_score (gC : Int → Int → Int) (bL : Int → Int) : List D → R D := mFn 2 3 (b__law_score gC bL)
def b__law_more (gC : Int → Int → Int) (bL : Int → Int) : Env → R (Fl × Env) := (mSeq (mIfS (mVal (mBin (gIB fun i j => decide (j < i)) (mVar 0) (mVar 1))) (mRet (mVar 0)) mSkip) (mRet (mVar 1)))
def m__law_more (gC : Int → Int → Int) (bL : Int → Int) : List D → R D := mFn 2 2 (b__law_more gC bL)
def l__law_backward_e3_17 (gC : Int → Int → Int) (bL : Int → Int) : Env → R (D × Env) := (mCall (m__law_score gC bL) (mCons (mVar 10) (mCons (mVar 1) mNil)))
def l__law_backward_e6_17 (gC : Int → Int → Int) (bL : Int → Int) : Env → R (D × Env) := (mCall (m__law_score gC bL) (mCons (mVar 10) (mCons (mVar 1) mNil)))
def l__law_backward_b8 (gC : Int → Int → Int) (bL : Int → Int) : Env → R (Fl × Env) := (mIfS (mVal (mBin (gIB fun i j => decide (j ≤ i)) (mBin gIx (mVar 7) (mVar 9)) (mVar 4))) (mSet 8 (mBin (gI0 (· + ·)) (mVar 9) (mCon (.int 1)))) mSkip)
def l__law_backward_e12_21 (gC : Int → Int → Int) (bL : Int → Int) : Env → R (D × Env) := (mCall (m__law_more gC bL) (mCons (mVar 11) (mCons (mVar 4) mNil)))
def l__law_backward_b4 (gC : Int → Int → Int) (bL : Int → Int) : Env → R (Fl × Env) := (mSeq (mSet 6 (mBin (gI0 (· - ·)) (mBin (gI0 (· - ·)) (mVar 2) (mCon (.int 2))) (mVar 5))) (mSeq (mSet 7 (mComp [10] (mItL (mBin gIx (mVar 0) (mVar 6))) (gtN 10) mYes (l__law_backward_e6_17 gC bL))) (mSeq (mSet 8 (mCon (.int 0))) (mSeq (mFor (mItR1 (mCons (mPrim (gOne gLen) (mCons (mVar 7) mNil)) mNil)) (gtN 9) (l__law_backward_b8 gC bL)) (mSeq (mInsr 3 (mCon (.int 0)) (mVar 8)) (mSet 4 (mPrim (gOne gSum) (mCons (mComp [11] (mItL (mVar 7)) (gtN 11) mYes (l__law_backward_e12_21 gC bL)) mNil))))))))
def b__law_backward (gC : Int → Int → Int) (bL : Int → Int) : Env → R (Fl × Env) := (mSeq (mSet 2 (mPrim (gOne gLen) (mCons (mVar 0) mNil))) (mSeq (mSet 3 (mPrim gLst (mCons (mVar 2) mNil))) (mSeq (mSet 4 (mPrim (gOne gSum) (mCons (mComp [10] (mItL (mBin gIx (mVar 0) (mBin (gI0 (· - ·)) (mVar 2) (mCon (.int 1))))) (gtN 10) mYes (l__law_backward_e3_17 gC bL)) mNil))) (mSeq (mFor (mItR1 (mCons (mBin (gI0 (· - ·)) (mVar 2) (mCon (.int 1))) mNil)) (gtN 5) (l__law_backward_b4 gC bL)) (mRet (mPrim gLst (mCons (mVar 4) (mCons (mUnN 3 gTupOf) mNil))))))))
def m__law_backward (gC : Int → Int → Int) (bL : Int → Int) : List D → R D := mFn 2 12 (b__law_backward gC bL)
def b__law_plain (gC : Int → Int → Int) (bL : Int → Int) : Env → R (Fl × Env) := (mRet (mAndV (mUn (gIsi [0] [.int]) (mVar 0)) (mUn gNot (mUn (gIsi [0] [.bool]) (mVar 0)))))
def m__law_plain (gC : Int → Int → Int) (bL : Int → Int) : List D → R D := mFn 1 1 (b__law_plain gC bL)
def bh__law_plain (gC : Int → Int → Int) (bL : Int → Int) : Env → R (Fl × Env) := (mRet (mAndV (mUn (gIsi [0] [.int]) (mVar 0)) (mUn gNot (mUn (gIsi [0] [.bool]) (mVar 0)))))
def h__law_plain (gC : Int → Int → Int) (bL : Int → Int) : List D → R D := mFn 1 1 (bh__law_plain gC bL)
def l__law_cut_b3 (gC : Int → Int → Int) (bL : Int → Int) : Env → R (Fl × Env) := (mSeq (mIfS (mVal (mBin (gEq) (mVar 3) (mCon (.int 0)))) mBrk mSkip) (mPar 2 3 (mCons (mVar 3) (mCons (mBin (gII cNz Int.fmod) (mPrim (gOne gIntO) (mCons (mVar 2) mNil)) (mVar 3)) mNil))))
def b__law_cut (gC : Int → Int → Int) (bL : Int → Int) : Env → R (Fl × Env) := (mSeq (mSet 2 (mPrim (gOne (gU fun i => if i < 0 then -i else i)) (mCons (mVar 0) mNil))) (mSeq (mSet 3 (mVar 1)) (mSeq (mFor (mItR1 (mCons (mBin (gI0 (· + ·)) (mBin (gII cMul (· * ·)) (mCon (.int 2)) (mUn (gU bL) (mVar 1))) (mCon (.int 4))) mNil)) (gtN 4) (l__law_cut_b3 gC bL)) (mRet (mPrim gTup (mCons (mBin (gII cDiv Int.fdiv) (mVar 0) (mVar 2)) (mCons (mBin (gII cDiv Int.fdiv) (mVar 1) (mVar 2)) mNil)))))))
def m__law_cut (gC : Int → Int → Int) (bL : Int → Int) : List D → R D := mFn 2 5 (b__law_cut gC bL)
def lh__law_cut_b3 (gC : Int → Int → Int) (bL : Int → Int) : Env → R (Fl × Env) := (mSeq (mIfS (mVal (mBin (gEq) (mVar 3) (mCon (.int 0)))) mBrk mSkip) (mPar 2 3 (mCons (mVar 3) (mCons (mBin (gII cNz Int.fmod) (mPrim (gOne gIntO) (mCons (mVar 2) mNil)) (mVar 3)) mNil))))
def bh__law_cut (gC : Int → Int → Int) (bL : Int → Int) : Env → R (Fl × Env) := (mSeq (mSet 2 (mPrim (gOne (gU fun i => if i < 0 then -i else i)) (mCons (mVar 0) mNil))) (mSeq (mSet 3 (mVar 1)) (mSeq (mFor (mItR1 (mCons (mBin (gI0 (· + ·)) (mBin (gII cMul (· * ·)) (mCon (.int 2)) (mUn (gU bL) (mVar 1))) (mCon (.int 4))) mNil)) (gtN 4) (lh__law_cut_b3 gC bL)) (mRet (mPrim gTup (mCons (mBin (gII cDiv Int.fdiv) (mVar 0) (mVar 2)) (mCons (mBin (gII cDiv Int.fdiv) (mVar 1) (mVar 2)) mNil)))))))
def h__law_cut (gC : Int → Int → Int) (bL : Int → Int) : List D → R D := mFn 2 5 (bh__law_cut gC bL)
def b__law_frac (gC : Int → Int → Int) (bL : Int → Int) : Env → R (Fl × Env) := (mSeq (mIfS (mOr (mNot (mVal (mUn (gIsi [0] [(.own 0)]) (mVar 0)))) (mOr (mNot (mVal (mCall (m__law_plain gC bL) (mCons (mUn (gFld [(0, 0)]) (mVar 0)) mNil)))) (mNot (mVal (mCall (m__law_plain gC bL) (mCons (mUn (gFld [(0, 1)]) (mVar 0)) mNil)))))) (mRet (mCon (.bl false))) mSkip) (mSeq (mSet 3 (mCall (m__law_cut gC bL) (mCons (mVar 1) (mCons (mVar 2) mNil)))) (mRet (mAndV (mBin (gEq) (mUn (gFld [(0, 0)]) (mVar 0)) (mBin gIx (mVar 3) (mCon (.int 0)))) (mBin (gEq) (mUn (gFld [(0, 1)]) (mVar 0)) (mBin gIx (mVar 3) (mCon (.int 1))))))))
def m__law_frac (gC : Int → Int → Int) (bL : Int → Int) : List D → R D := mFn 3 4 (b__law_frac gC bL)
def bh__law_frac (gC : Int → Int → Int) (bL : Int → Int) : Env → R (Fl × Env) := (mSeq (mIfS (mOr (mNot (mVal (mUn (gIsi [0] [(.own 0)]) (mVar 0)))) (mOr (mNot (mVal (mCall (h__law_plain gC bL) (mCons (mUn (gFld [(0, 0)]) (mVar 0)) mNil)))) (mNot (mVal (mCall (h__law_plain gC bL) (mCons (mUn (gFld [(0, 1)]) (mVar 0)) mNil)))))) (mRet (mCon (.bl false))) mSkip) (mSeq (mSet 3 (mCall (h__law_cut gC bL) (mCons (mVar 1) (mCons (mVar 2) mNil)))) (mRet (mAndV (mBin (gEq) (mUn (gFld [(0, 0)]) (mVar 0)) (mBin gIx (mVar 3) (mCon (.int 0)))) (mBin (gEq) (mUn (gFld [(0, 1)]) (mVar 0)) (mBin gIx (mVar 3) (mCon (.int 1))))))))
def h__law_frac (gC : Int → Int → Int) (bL : Int → Int) : List D → R D := mFn 3 4 (bh__law_frac gC bL)
def l__law_like_e8_19 (gC : Int → Int → Int) (bL : Int → Int) (rec : List D → R D) : Env → R (D × Env) := (mCall rec (mCons (mBin gIx (mVar 0) (mVar 2)) (mCons (mBin gIx (mVar 1) (mVar 2)) mNil)))
def b__law_like (gC : Int → Int → Int) (bL : Int → Int) (rec : List D → R D) : Env → R (Fl × Env) := (mSeq (mIfS (mVal (mBin (gIs id) (mVar 1) (mCon .non))) (mRet (mBin (gIs id) (mVar 0) (mCon .non))) mSkip) (mSeq (mIfS (mVal (mUn (gIsi [0] [.list]) (mVar 1))) (mRet (mCall (m__law_frac gC bL) (mCons (mVar 0) (mCons (mBin gIx (mVar 1) (mCon (.int 0))) (mCons (mBin gIx (mVar 1) (mCon (.int 1))) mNil))))) mSkip) (mSeq (mIfS (mVal (mUn (gIsi [0] [.tuple]) (mVar 1))) (mSeq (mIfS (mOr (mNot (mVal (mUn (gIsi [0] [.tuple]) (mVar 0)))) (mVal (mBin (gNe) (mPrim (gOne gLen) (mCons (mVar 0) mNil)) (mPrim (gOne gLen) (mCons (mVar 1) mNil))))) (mRet (mCon (.bl false))) mSkip) (mRet (mPrim (gOne gAll) (mCons (mComp [2] (mItR1 (mCons (mPrim (gOne gLen) (mCons (mVar 1) mNil)) mNil)) (gtN 2) mYes ((l__law_like_e8_19 gC bL) rec)) mNil)))) mSkip) (mSeq (mIfS (mVal (mUn (gIsi [0] [.bool]) (mVar 1))) (mRet (mAndV (mUn (gIsi [0] [.bool]) (mVar 0)) (mBin (gEq) (mVar 0) (mVar 1)))) mSkip) (mSeq (mIfS (mVal (mUn (gIsi [0] [.int]) (mVar 1))) (mRet (mAndV (mCall (m__law_plain gC bL) (mCons (mVar 0) mNil)) (mBin (gEq) (mVar 0) (mVar 1)))) mSkip) (mRet (mAndV (mUn (gIsi [0] [.str]) (mVar 0)) (mBin (gEq) (mVar 0) (mVar 1)))))))))
def m__law_like (gC : Int → Int → Int) (bL : Int → Int) : Nat → List D → R D
  | 0 => fun _ => .bad
  | j + 1 => mFn 2 3 ((b__law_like gC bL) ((m__law_like gC bL) j))
def lh__law_like_e8_19 (gC : Int → Int → Int) (bL : Int → Int) (rec : List D → R D) : Env → R (D × Env) := (mCall rec (mCons (mBin gIx (mVar 0) (mVar 2)) (mCons (mBin gIx (mVar 1) (mVar 2)) mNil)))
def bh__law_like (gC : Int → Int → Int) (bL : Int → Int) (rec : List D → R D) : Env → R (Fl × Env) := (mSeq (mIfS (mVal (mBin (gIs id) (mVar 1) (mCon .non))) (mRet (mBin (gIs id) (mVar 0) (mCon .non))) mSkip) (mSeq (mIfS (mVal (mUn (gIsi [0] [.list]) (mVar 1))) (mRet (mCall (h__law_frac gC bL) (mCons (mVar 0) (mCons (mBin gIx (mVar 1) (mCon (.int 0))) (mCons (mBin gIx (mVar 1) (mCon (.int 1))) mNil))))) mSkip) (mSeq (mIfS (mVal (mUn (gIsi [0] [.tuple]) (mVar 1))) (mSeq (mIfS (mOr (mNot (mVal (mUn (gIsi [0] [.tuple]) (mVar 0)))) (mVal (mBin (gNe) (mPrim (gOne gLen) (mCons (mVar 0) mNil)) (mPrim (gOne gLen) (mCons (mVar 1) mNil))))) (mRet (mCon (.bl false))) mSkip) (mRet (mPrim (gOne gAll) (mCons (mComp [2] (mItR1 (mCons (mPrim (gOne gLen) (mCons (mVar 1) mNil)) mNil)) (gtN 2) mYes ((lh__law_like_e8_19 gC bL) rec)) mNil)))) mSkip) (mSeq (mIfS (mVal (mUn (gIsi [0] [.bool]) (mVar 1))) (mRet (mAndV (mUn (gIsi [0] [.bool]) (mVar 0)) (mBin (gEq) (mVar 0) (mVar 1)))) mSkip) (mSeq (mIfS (mVal (mUn (gIsi [0] [.int]) (mVar 1))) (mRet (mAndV (mCall (h__law_plain gC bL) (mCons (mVar 0) mNil)) (mBin (gEq) (mVar 0) (mVar 1)))) mSkip) (mRet (mAndV (mUn (gIsi [0] [.str]) (mVar 0)) (mBin (gEq) (mVar 0) (mVar 1)))))))))
def h__law_like (gC : Int → Int → Int) (bL : Int → Int) : Nat → List D → R D
  | 0 => fun _ => .bad
  | j + 1 => mFn 2 3 ((bh__law_like gC bL) ((h__law_like gC bL) j))
def b_is_integer (gC : Int → Int → Int) (bL : Int → Int) : Env → R (Fl × Env) := (mRet (mAndV (mUn (gIsi [0] [.int]) (mVar 0)) (mUn gNot (mUn (gIsi [0] [.bool]) (mVar 0)))))
def m_is_integer (gC : Int → Int → Int) (bL : Int → Int) : List D → R D := mFn 1 1 (b_is_integer gC bL)
def b_is_between (gC : Int → Int → Int) (bL : Int → Int) : Env → R (Fl × Env) := (mRet (mAndV (mCall (m_is_integer gC bL) (mCons (mVar 0) mNil)) (mChain (gIB fun i j => decide (i ≤ j)) (gIB fun i j => decide (i ≤ j)) (mVar 1) (mVar 0) (mVar 2))))
def m_is_between (gC : Int → Int → Int) (bL : Int → Int) : List D → R D := mFn 3 3 (b_is_between gC bL)
def b_check_number (gC : Int → Int → Int) (bL : Int → Int) : Env → R (Fl × Env) := (mIfS (mNot (mVal (mCall (m_is_between gC bL) (mCons (mVar 0) (mCons (mCon (.int 1)) (mCons (mCon (.int 60)) mNil)))))) (mRaise 2 1 (mCons (mVar 0) mNil)) mSkip)
def m_check_number (gC : Int → Int → Int) (bL : Int → Int) : List D → R D := mFn 1 1 (b_check_number gC bL)
def b_Frac___init__ (gC : Int → Int → Int) (bL : Int → Int) : Env → R (Fl × Env) := (mSeq (mIfS (mOr (mNot (mVal (mCall (m_is_integer gC bL) (mCons (mVar 1) mNil)))) (mOr (mNot (mVal (mCall (m_is_integer gC bL) (mCons (mVar 2) mNil)))) (mVal (mBin (gEq) (mVar 2) (mCon (.int 0)))))) (fun _ => .bad) mSkip) (mSeq (mSet 3 (mPrim (gTwo (gI0 gC)) (mCons (mVar 1) (mCons (mVar 2) mNil)))) (mSeq (mIfS (mVal (mBin (gIB fun i j => decide (i < j)) (mVar 2) (mCon (.int 0)))) (mSet 3 (mUn (gU fun i => -i) (mVar 3))) mSkip) (mSeq (mFldSet 0 0 0 (mBin (gII cDiv Int.fdiv) (mVar 1) (mVar 3))) (mFldSet 0 0 1 (mBin (gII cDiv Int.fdiv) (mVar 2) (mVar 3)))))))
def m_Frac___init__ (gC : Int → Int → Int) (bL : Int → Int) : List D → R (D × D) := mFnB 3 4 (b_Frac___init__ gC bL)
def b_Frac___sub__ (gC : Int → Int → Int) (bL : Int → Int) : Env → R (Fl × Env) := (mRet (mMake 0 (fun xs => (m_Frac___init__ gC bL) (xs ++ [])) (mCons (mBin (gI0 (· - ·)) (mBin (gII cMul (· * ·)) (mUn (gFld [(0, 0)]) (mVar 0)) (mUn (gFld [(0, 1)]) (mVar 1))) (mBin (gII cMul (· * ·)) (mUn (gFld [(0, 0)]) (mVar 1)) (mUn (gFld [(0, 1)]) (mVar 0)))) (mCons (mBin (gII cMul (· * ·)) (mUn (gFld [(0, 1)]) (mVar 0)) (mUn (gFld [(0, 1)]) (mVar 1))) mNil))))
def m_Frac___sub__ (gC : Int → Int → Int) (bL : Int → Int) : List D → R D := mFn 2 2 (b_Frac___sub__ gC bL)
def b_Frac___mul__ (gC : Int → Int → Int) (bL : Int → Int) : Env → R (Fl × Env) := (mRet (mMake 0 (fun xs => (m_Frac___init__ gC bL) (xs ++ [])) (mCons (mBin (gII cMul (· * ·)) (mUn (gFld [(0, 0)]) (mVar 0)) (mUn (gFld [(0, 0)]) (mVar 1))) (mCons (mBin (gII cMul (· * ·)) (mUn (gFld [(0, 1)]) (mVar 0)) (mUn (gFld [(0, 1)]) (mVar 1))) mNil))))
def m_Frac___mul__ (gC : Int → Int → Int) (bL : Int → Int) : List D → R D := mFn 2 2 (b_Frac___mul__ gC bL)
def b_Frac___add__ (gC : Int → Int → Int) (bL : Int → Int) : Env → R (Fl × Env) := (mRet (mMake 0 (fun xs => (m_Frac___init__ gC bL) (xs ++ [])) (mCons (mBin (gI0 (· + ·)) (mBin (gII cMul (· * ·)) (mUn (gFld [(0, 0)]) (mVar 0)) (mUn (gFld [(0, 1)]) (mVar 1))) (mBin (gII cMul (· * ·)) (mUn (gFld [(0, 0)]) (mVar 1)) (mUn (gFld [(0, 1)]) (mVar 0)))) (mCons (mBin (gII cMul (· * ·)) (mUn (gFld [(0, 1)]) (mVar 0)) (mUn (gFld [(0, 1)]) (mVar 1))) mNil))))
def m_Frac___add__ (gC : Int → Int → Int) (bL : Int → Int) : List D → R D := mFn 2 2 (b_Frac___add__ gC bL)
def l_total_b2 (gC : Int → Int → Int) (bL : Int → Int) : Env → R (Fl × Env) := (mSet 1 (mBinO 0 (m_Frac___add__ gC bL) (mVar 1) (mVar 2)))
def b_total (gC : Int → Int → Int) (bL : Int → Int) : Env → R (Fl × Env) := (mSeq (mSet 1 (mMake 0 (fun xs => (m_Frac___init__ gC bL) (xs ++ [.int 1])) (mCons (mCon (.int 0)) mNil))) (mSeq (mFor (mItL (mVar 0)) (gtN 2) (l_total_b2 gC bL)) (mRet (mVar 1))))
def m_total (gC : Int → Int → Int) (bL : Int → Int) : List D → R D := mFn 1 3 (b_total gC bL)
def b_mean_of_row (gC : Int → Int → Int) (bL : Int → Int) : Env → R (Fl × Env) := (mRet (mBinO 0 (m_Frac___mul__ gC bL) (mCall (m_total gC bL) (mCons (mVar 0) mNil)) (mMake 0 (fun xs => (m_Frac___init__ gC bL) (xs ++ [])) (mCons (mCon (.int 1)) (mCons (mPrim (gOne gLen) (mCons (mVar 0) mNil)) mNil)))))
def m_mean_of_row (gC : Int → Int → Int) (bL : Int → Int) : List D → R D := mFn 1 1 (b_mean_of_row gC bL)
def b_Frac_is_below (gC : Int → Int → Int) (bL : Int → Int) : Env → R (Fl × Env) := (mRet (mBin (gIB fun i j => decide (i < j)) (mBin (gII cMul (· * ·)) (mUn (gFld [(0, 0)]) (mVar 0)) (mUn (gFld [(0, 1)]) (mVar 1))) (mBin (gII cMul (· * ·)) (mUn (gFld [(0, 0)]) (mVar 1)) (mUn (gFld [(0, 1)]) (mVar 0)))))
def m_Frac_is_below (gC : Int → Int → Int) (bL : Int → Int) : List D → R D := mFn 2 2 (b_Frac_is_below gC bL)
def l_greatest_of_b2 (gC : Int → Int → Int) (bL : Int → Int) : Env → R (Fl × Env) := (mIfS (mVal (mMeth 0 (fun xs => (m_Frac_is_below gC bL) (xs ++ [])) (mVar 1) (mCons (mVar 2) mNil))) (mSet 1 (mVar 2)) mSkip)
def b_greatest_of (gC : Int → Int → Int) (bL : Int → Int) : Env → R (Fl × Env) := (mSeq (mSet 1 (mBin gIx (mVar 0) (mCon (.int 0)))) (mSeq (mFor (mItL (mVar 0)) (gtN 2) (l_greatest_of_b2 gC bL)) (mRet (mVar 1))))
def m_greatest_of (gC : Int → Int → Int) (bL : Int → Int) : List D → R D := mFn 1 3 (b_greatest_of gC bL)
def l_means_from_e4_33 (gC : Int → Int → Int) (bL : Int → Int) : Env → R (D × Env) := (mCall (m_greatest_of gC bL) (mCons (mPrim gLst (mCons (mVar 4) (mCons (mVar 3) mNil))) mNil))
def l_means_from_b2 (gC : Int → Int → Int) (bL : Int → Int) : Env → R (Fl × Env) := (mSeq (mSet 3 (mBinN 1 gIx (mUn (gU fun i => -i) (mCon (.int 1))))) (mApp 1 (mCall (m_mean_of_row gC bL) (mCons (mComp [4] (mItL (mVar 2)) (gtN 4) mYes (l_means_from_e4_33 gC bL)) mNil))))
def b_means_from (gC : Int → Int → Int) (bL : Int → Int) : Env → R (Fl × Env) := (mSeq (mSet 1 (mPrim gLst (mCons (mCall (m_mean_of_row gC bL) (mCons (mBin gIx (mVar 0) (mUn (gU fun i => -i) (mCon (.int 1)))) mNil)) mNil))) (mSeq (mFor (mSeqD List.reverse (mSl (mVar 0) mNoP (mPart (mUn (gU fun i => -i) (mCon (.int 1)))))) (gtN 2) (l_means_from_b2 gC bL)) (mRet (mUn gLstRev (mVar 1)))))
def m_means_from (gC : Int → Int → Int) (bL : Int → Int) : List D → R D := mFn 1 5 (b_means_from gC bL)
def l_rank_worths_e3_20 (gC : Int → Int → Int) (bL : Int → Int) : Env → R (D × Env) := (mMake 0 (fun xs => (m_Frac___init__ gC bL) (xs ++ [])) (mCons (mBin (gII cMul (· * ·)) (mUn (gU fun i => -i) (mVar 3)) (mBin (gI0 (· + ·)) (mVar 0) (mCon (.int 1)))) (mCons (mBin (gI0 (· + ·)) (mVar 2) (mCon (.int 1))) mNil)))
def l_rank_worths_b2 (gC : Int → Int → Int) (bL : Int → Int) : Env → R (Fl × Env) := (mApp 1 (mComp [3] (mItR2 (mCons (mCon (.int 1)) (mCons (mBin (gI0 (· + ·)) (mVar 2) (mCon (.int 1))) mNil))) (gtN 3) mYes (l_rank_worths_e3_20 gC bL)))
def b_rank_worths (gC : Int → Int → Int) (bL : Int → Int) : Env → R (Fl × Env) := (mSeq (mSet 1 (mPrim gLst mNil)) (mSeq (mFor (mItR2 (mCons (mCon (.int 1)) (mCons (mBin (gI0 (· + ·)) (mVar 0) (mCon (.int 1))) mNil))) (gtN 2) (l_rank_worths_b2 gC bL)) (mRet (mVar 1))))
def m_rank_worths (gC : Int → Int → Int) (bL : Int → Int) : List D → R D := mFn 1 4 (b_rank_worths gC bL)
def b_least_mean_rank (gC : Int → Int → Int) (bL : Int → Int) : Env → R (Fl × Env) := (mSeq (mDrop (mCall (m_check_number gC bL) (mCons (mVar 0) mNil))) (mRet (mBinO 0 (m_Frac___sub__ gC bL) (mMake 0 (fun xs => (m_Frac___init__ gC bL) (xs ++ [.int 1])) (mCons (mCon (.int 0)) mNil)) (mBin gIx (mCall (m_means_from gC bL) (mCons (mCall (m_rank_worths gC bL) (mCons (mVar 0) mNil)) mNil)) (mCon (.int 0))))))
def m_least_mean_rank (gC : Int → Int → Int) (bL : Int → Int) : List D → R D := mFn 1 1 (b_least_mean_rank gC bL)
def l_rule_of_b5 (gC : Int → Int → Int) (bL : Int → Int) : Env → R (Fl × Env) := (mAug 5 (gI0 (· - ·)) (mCon (.int 1)))
def l_rule_of_t5 (gC : Int → Int → Int) (bL : Int → Int) : Env → R (Bool × Env) := (mAnd (mVal (mBin (gIB fun i j => decide (j < i)) (mVar 5) (mCon (.int 0)))) (mVal (mMeth 0 (fun xs => (m_Frac_is_below gC bL) (xs ++ [])) (mBin gIx (mVar 3) (mBin (gI0 (· - ·)) (mVar 5) (mCon (.int 1)))) (mCons (mVar 4) mNil))))
def l_rule_of_b3 (gC : Int → Int → Int) (bL : Int → Int) : Env → R (Fl × Env) := (mSeq (mSet 5 (mPrim (gOne gLen) (mCons (mVar 3) mNil))) (mSeq (mWhile 100 (l_rule_of_t5 gC bL) (l_rule_of_b5 gC bL)) (mApp 2 (mVar 5))))
def b_rule_of (gC : Int → Int → Int) (bL : Int → Int) : Env → R (Fl × Env) := (mSeq (mSet 1 (mCall (m_means_from gC bL) (mCons (mVar 0) mNil))) (mSeq (mSet 2 (mPrim gLst mNil)) (mSeq (mFor (mZip (mCons (mSl (mVar 0) mNoP (mPart (mUn (gU fun i => -i) (mCon (.int 1))))) (mCons (mSl (mVar 1) (mPart (mCon (.int 1))) mNoP) mNil))) (gtT 2 (gtCons (gtN 3) (gtCons (gtN 4) gtNil))) (l_rule_of_b3 gC bL)) (mSeq (mApp 2 (mPrim (gOne gLen) (mCons (mVar 0) mNil))) (mRet (mUnN 2 gTupOf))))))
def m_rule_of (gC : Int → Int → Int) (bL : Int → Int) : List D → R D := mFn 1 6 (b_rule_of gC bL)
def b_mean_rank_rule (gC : Int → Int → Int) (bL : Int → Int) : Env → R (Fl × Env) := (mSeq (mDrop (mCall (m_check_number gC bL) (mCons (mVar 0) mNil))) (mRet (mCall (m_rule_of gC bL) (mCons (mCall (m_rank_worths gC bL) (mCons (mVar 0) mNil)) mNil))))
def m_mean_rank_rule (gC : Int → Int → Int) (bL : Int → Int) : List D → R D := mFn 1 1 (b_mean_rank_rule gC bL)
def b_check_top (gC : Int → Int → Int) (bL : Int → Int) : Env → R (Fl × Env) := (mSeq (mDrop (mCall (m_check_number gC bL) (mCons (mVar 0) mNil))) (mIfS (mNot (mVal (mCall (m_is_between gC bL) (mCons (mVar 1) (mCons (mCon (.int 1)) (mCons (mVar 0) mNil)))))) (mRaise 1 1 (mCons (mCon (.str "many")) mNil)) mSkip))
def m_check_top (gC : Int → Int → Int) (bL : Int → Int) : List D → R D := mFn 2 2 (b_check_top gC bL)
def b_rank_weight (gC : Int → Int → Int) (bL : Int → Int) : Env → R (Fl × Env) := (mRet (mBin (gII cMul (· * ·)) (mPrim (gTwo (gII cComb combI)) (mCons (mBin (gI0 (· - ·)) (mVar 3) (mCon (.int 1))) (mCons (mBin (gI0 (· - ·)) (mVar 2) (mCon (.int 1))) mNil))) (mPrim (gTwo (gII cComb combI)) (mCons (mBin (gI0 (· - ·)) (mVar 0) (mVar 3)) (mCons (mBin (gI0 (· - ·)) (mVar 1) (mVar 2)) mNil)))))
def m_rank_weight (gC : Int → Int → Int) (bL : Int → Int) : List D → R D := mFn 4 4 (b_rank_weight gC bL)
def l_top_worths_e5_23 (gC : Int → Int → Int) (bL : Int → Int) : Env → R (D × Env) := (mCall (m_rank_weight gC bL) (mCons (mVar 0) (mCons (mVar 3) (mCons (mVar 5) (mCons (mVar 7) mNil)))))
def l_top_worths_b4 (gC : Int → Int → Int) (bL : Int → Int) : Env → R (Fl × Env) := (mSeq (mSet 6 (mPrim (gOne gSum) (mCons (mComp [7] (mItR2 (mCons (mVar 5) (mCons (mBin (gI0 (· + ·)) (mVar 1) (mCon (.int 1))) mNil))) (gtN 7) mYes (l_top_worths_e5_23 gC bL)) mNil))) (mApp 4 (mMake 0 (fun xs => (m_Frac___init__ gC bL) (xs ++ [])) (mCons (mVar 6) (mCons (mPrim (gTwo (gII cComb combI)) (mCons (mVar 0) (mCons (mVar 3) mNil))) mNil)))))
def l_top_worths_b2 (gC : Int → Int → Int) (bL : Int → Int) : Env → R (Fl × Env) := (mSeq (mSet 4 (mPrim gLst mNil)) (mSeq (mFor (mItR2 (mCons (mCon (.int 1)) (mCons (mBin (gI0 (· + ·)) (mVar 3) (mCon (.int 1))) mNil))) (gtN 5) (l_top_worths_b4 gC bL)) (mApp 2 (mVar 4))))
def b_top_worths (gC : Int → Int → Int) (bL : Int → Int) : Env → R (Fl × Env) := (mSeq (mSet 2 (mPrim gLst mNil)) (mSeq (mFor (mItR2 (mCons (mCon (.int 1)) (mCons (mBin (gI0 (· + ·)) (mVar 0) (mCon (.int 1))) mNil))) (gtN 3) (l_top_worths_b2 gC bL)) (mRet (mVar 2))))
def m_top_worths (gC : Int → Int → Int) (bL : Int → Int) : List D → R D := mFn 2 8 (b_top_worths gC bL)
def b_top_chance (gC : Int → Int → Int) (bL : Int → Int) : Env → R (Fl × Env) := (mSeq (mDrop (mCall (m_check_top gC bL) (mCons (mVar 0) (mCons (mVar 1) mNil)))) (mRet (mBin gIx (mCall (m_means_from gC bL) (mCons (mCall (m_top_worths gC bL) (mCons (mVar 0) (mCons (mVar 1) mNil))) mNil)) (mCon (.int 0)))))
def m_top_chance (gC : Int → Int → Int) (bL : Int → Int) : List D → R D := mFn 2 2 (b_top_chance gC bL)
def b_top_rule (gC : Int → Int → Int) (bL : Int → Int) : Env → R (Fl × Env) := (mSeq (mDrop (mCall (m_check_top gC bL) (mCons (mVar 0) (mCons (mVar 1) mNil)))) (mRet (mCall (m_rule_of gC bL) (mCons (mCall (m_top_worths gC bL) (mCons (mVar 0) (mCons (mVar 1) mNil))) mNil))))
def m_top_rule (gC : Int → Int → Int) (bL : Int → Int) : List D → R D := mFn 2 2 (b_top_rule gC bL)
def b_is_sequence (gC : Int → Int → Int) (bL : Int → Int) : Env → R (Fl × Env) := (mRet (mUn (gIsi [0] [.list, .tuple]) (mVar 0)))
def m_is_sequence (gC : Int → Int → Int) (bL : Int → Int) : List D → R D := mFn 1 1 (b_is_sequence gC bL)
def l_limits_of_e3_15 (gC : Int → Int → Int) (bL : Int → Int) : Env → R (D × Env) := (mAndV (mCall (m_is_integer gC bL) (mCons (mVar 3) mNil)) (mBin (gIB fun i j => decide (j ≤ i)) (mVar 3) (mCon (.int 0))))
def l_limits_of_e5_13 (gC : Int → Int → Int) (bL : Int → Int) : Env → R (D × Env) := (mPrim (gTwo (gI0 fun i j => if j < i then j else i)) (mCons (mVar 3) (mCons (mBin (gI0 (· + ·)) (mVar 4) (mCon (.int 1))) mNil)))
def b_limits_of (gC : Int → Int → Int) (bL : Int → Int) : Env → R (Fl × Env) := (mSeq (mIfS (mOr (mNot (mVal (mCall (m_is_sequence gC bL) (mCons (mVar 1) mNil)))) (mVal (mBin (gNe) (mPrim (gOne gLen) (mCons (mVar 1) mNil)) (mVar 0)))) (fun _ => .bad) mSkip) (mSeq (mIfS (mNot (mVal (mPrim (gOne gAll) (mCons (mComp [3] (mSeqD id (mVar 1)) (gtN 3) mYes (l_limits_of_e3_15 gC bL)) mNil)))) (fun _ => .bad) mSkip) (mSeq (mSet 2 (mComp [4, 3] (mSeqD (enumD 0) (mVar 1)) (gtT 2 (gtCons (gtN 4) (gtCons (gtN 3) gtNil))) mYes (l_limits_of_e5_13 gC bL))) (mRet (mBin gCat (mSl (mVar 2) mNoP (mPart (mUn (gU fun i => -i) (mCon (.int 1))))) (mPrim gLst (mCons (mVar 0) mNil)))))))
def m_limits_of (gC : Int → Int → Int) (bL : Int → Int) : List D → R D := mFn 2 5 (b_limits_of gC bL)
def l_followed_e2_14 (gC : Int → Int → Int) (bL : Int → Int) : Env → R (D × Env) := (mMake 0 (fun xs => (m_Frac___init__ gC bL) (xs ++ [.int 1])) (mCons (mCon (.int 0)) mNil))
def l_followed_e8_23 (gC : Int → Int → Int) (bL : Int → Int) : Env → R (D × Env) := (mCall (m_rank_weight gC bL) (mCons (mVar 0) (mCons (mVar 6) (mCons (mVar 11) (mCons (mVar 8) mNil)))))
def l_followed_b7 (gC : Int → Int → Int) (bL : Int → Int) : Env → R (Fl × Env) := (mSeq (mSet 9 (mPrim (gOne gSum) (mCons (mComp [11] (mItR2 (mCons (mCon (.int 1)) (mCons (mBin (gI0 (· + ·)) (mVar 5) (mCon (.int 1))) mNil))) (gtN 11) mYes (l_followed_e8_23 gC bL)) mNil))) (mSetIx 2 (mBinO 0 (m_Frac___add__ gC bL) (mBinN 2 gIx (mBin (gI0 (· - ·)) (mVar 8) (mCon (.int 1)))) (mBinO 0 (m_Frac___mul__ gC bL) (mVar 7) (mMake 0 (fun xs => (m_Frac___init__ gC bL) (xs ++ [.int 1])) (mCons (mVar 9) mNil)))) (mBin (gI0 (· - ·)) (mVar 8) (mCon (.int 1)))))
def l_followed_b4 (gC : Int → Int → Int) (bL : Int → Int) : Env → R (Fl × Env) := (mSeq (mSet 6 (mBin (gI0 (· + ·)) (mVar 4) (mCon (.int 1)))) (mSeq (mSet 7 (mBinO 0 (m_Frac___mul__ gC bL) (mVar 3) (mMake 0 (fun xs => (m_Frac___init__ gC bL) (xs ++ [])) (mCons (mCon (.int 1)) (mCons (mBin (gII cMul (· * ·)) (mVar 6) (mPrim (gTwo (gII cComb combI)) (mCons (mVar 0) (mCons (mVar 6) mNil)))) mNil))))) (mSeq (mFor (mItR2 (mCons (mCon (.int 1)) (mCons (mBin (gI0 (· + ·)) (mVar 0) (mCon (.int 1))) mNil))) (gtN 8) (l_followed_b7 gC bL)) (mSet 3 (mBinO 0 (m_Frac___mul__ gC bL) (mVar 3) (mMake 0 (fun xs => (m_Frac___init__ gC bL) (xs ++ [])) (mCons (mBin (gI0 (· - ·)) (mVar 6) (mVar 5)) (mCons (mVar 6) mNil))))))))
def b_followed (gC : Int → Int → Int) (bL : Int → Int) : Env → R (Fl × Env) := (mSeq (mDrop (mCall (m_check_number gC bL) (mCons (mVar 0) mNil))) (mSeq (mSet 2 (mComp [10] (mItR1 (mCons (mVar 0) mNil)) (gtN 10) mYes (l_followed_e2_14 gC bL))) (mSeq (mSet 3 (mMake 0 (fun xs => (m_Frac___init__ gC bL) (xs ++ [.int 1])) (mCons (mCon (.int 1)) mNil))) (mSeq (mFor (mSeqD (enumD 0) (mCall (m_limits_of gC bL) (mCons (mVar 0) (mCons (mVar 1) mNil)))) (gtT 2 (gtCons (gtN 4) (gtCons (gtN 5) gtNil))) (l_followed_b4 gC bL)) (mRet (mUnN 2 gTupOf))))))
def m_followed (gC : Int → Int → Int) (bL : Int → Int) : List D → R D := mFn 2 12 (b_followed gC bL)
def l__law_taken_e2_12 (gC : Int → Int → Int) (bL : Int → Int) : Env → R (D × Env) := (mCon (.int 0))
def l__law_taken_e9_20 (gC : Int → Int → Int) (bL : Int → Int) : Env → R (D × Env) := (mBin (gI0 (· + ·)) (mBin gIx (mVar 3) (mVar 8)) (mBin (gII cMul (· * ·)) (mVar 4) (mBin gIx (mVar 7) (mVar 8))))
def l__law_taken_b8 (gC : Int → Int → Int) (bL : Int → Int) : Env → R (Fl × Env) := (mSet 3 (mComp [8] (mItR1 (mCons (mVar 2) mNil)) (gtN 8) mYes (l__law_taken_e9_20 gC bL)))
def l__law_taken_b4 (gC : Int → Int → Int) (bL : Int → Int) : Env → R (Fl × Env) := (mSeq (mSet 6 (mBin gIx (mVar 1) (mVar 5))) (mSeq (mIfS (mOr (mVal (mBin (gIB fun i j => decide (j < i)) (mVar 6) (mBin (gI0 (· + ·)) (mVar 5) (mCon (.int 1))))) (mVal (mBin (gEq) (mVar 5) (mBin (gI0 (· - ·)) (mVar 2) (mCon (.int 1)))))) (mSet 6 (mBin (gI0 (· + ·)) (mVar 5) (mCon (.int 1)))) mSkip) (mSeq (mFor (mItL (mSl (mBin gIx (mVar 0) (mVar 5)) mNoP (mPart (mVar 6)))) (gtN 7) (l__law_taken_b8 gC bL)) (mSet 4 (mBin (gII cMul (· * ·)) (mVar 4) (mBin (gI0 (· - ·)) (mBin (gI0 (· + ·)) (mVar 5) (mCon (.int 1))) (mVar 6)))))))
def b__law_taken (gC : Int → Int → Int) (bL : Int → Int) : Env → R (Fl × Env) := (mSeq (mSet 2 (mPrim (gOne gLen) (mCons (mVar 0) mNil))) (mSeq (mSet 3 (mComp [8] (mItR1 (mCons (mVar 2) mNil)) (gtN 8) mYes (l__law_taken_e2_12 gC bL))) (mSeq (mSet 4 (mCon (.int 1))) (mSeq (mFor (mItR1 (mCons (mVar 2) mNil)) (gtN 5) (l__law_taken_b4 gC bL)) (mRet (mVar 3))))))
def m__law_taken (gC : Int → Int → Int) (bL : Int → Int) : List D → R D := mFn 2 9 (b__law_taken gC bL)
def l__law_chances_e1_17 (gC : Int → Int → Int) (bL : Int → Int) : Env → R (D × Env) := (mPrim gLst (mCons (mVar 3) (mCons (mVar 2) mNil)))
def b__law_chances (gC : Int → Int → Int) (bL : Int → Int) : Env → R (Fl × Env) := (mRet (mPrim (gOne gTupOf) (mCons (mComp [3] (mItL (mCall (m__law_taken gC bL) (mCons (mVar 0) (mCons (mVar 1) mNil)))) (gtN 3) mYes (l__law_chances_e1_17 gC bL)) mNil)))
def m__law_chances (gC : Int → Int → Int) (bL : Int → Int) : List D → R D := mFn 3 4 (b__law_chances gC bL)
def b__law_goal_holds (gC : Int → Int → Int) (bL : Int → Int) : Env → R (Fl × Env) := (mSeq (mSet 4 (mCall (m__law_backward gC bL) (mCons (mVar 2) (mCons (mVar 1) mNil)))) (mSeq (mIfS (mVal (mBin (gEq) (mVar 1) (mCon (.int 0)))) (mIfS (mOr (mNot (mVal (mCall ((m__law_like gC bL) 3) (mCons (mCall (m_least_mean_rank gC bL) (mCons (mVar 0) mNil)) (mCons (mPrim gLst (mCons (mUn (gU fun i => -i) (mBin gIx (mVar 4) (mCon (.int 0)))) (mCons (mVar 3) mNil))) mNil))))) (mNot (mVal (mCall ((m__law_like gC bL) 3) (mCons (mCall (m_mean_rank_rule gC bL) (mCons (mVar 0) mNil)) (mCons (mBin gIx (mVar 4) (mCon (.int 1))) mNil)))))) (mRet (mCon (.bl false))) mSkip) (mIfS (mOr (mNot (mVal (mCall ((m__law_like gC bL) 3) (mCons (mCall (m_top_chance gC bL) (mCons (mVar 0) (mCons (mVar 1) mNil))) (mCons (mPrim gLst (mCons (mBin gIx (mVar 4) (mCon (.int 0))) (mCons (mVar 3) mNil))) mNil))))) (mNot (mVal (mCall ((m__law_like gC bL) 3) (mCons (mCall (m_top_rule gC bL) (mCons (mVar 0) (mCons (mVar 1) mNil))) (mCons (mBin gIx (mVar 4) (mCon (.int 1))) mNil)))))) (mRet (mCon (.bl false))) mSkip)) (mRet (mCall ((m__law_like gC bL) 3) (mCons (mCall (m_followed gC bL) (mCons (mVar 0) (mCons (mBin gIx (mVar 4) (mCon (.int 1))) mNil))) (mCons (mCall (m__law_chances gC bL) (mCons (mVar 2) (mCons (mBin gIx (mVar 4) (mCon (.int 1))) (mCons (mVar 3) mNil)))) mNil))))))
def m__law_goal_holds (gC : Int → Int → Int) (bL : Int → Int) : List D → R D := mFn 4 5 (b__law_goal_holds gC bL)
def l_chance_behind_e3_30 (gC : Int → Int → Int) (bL : Int → Int) : Env → R (D × Env) := (mMake 0 (fun xs => (m_Frac___init__ gC bL) (xs ++ [])) (mCons (mCon (.int 1)) (mCons (mVar 2) mNil)))
def b_chance_behind (gC : Int → Int → Int) (bL : Int → Int) : Env → R (Fl × Env) := (mSeq (mIfS (mVal (mBin (gEq) (mVar 1) (mCon (.int 0)))) (mRet (mMake 0 (fun xs => (m_Frac___init__ gC bL) (xs ++ [])) (mCons (mCon (.int 1)) (mCons (mVar 0) mNil)))) mSkip) (mRet (mBinO 0 (m_Frac___mul__ gC bL) (mMake 0 (fun xs => (m_Frac___init__ gC bL) (xs ++ [])) (mCons (mVar 1) (mCons (mVar 0) mNil))) (mCall (m_total gC bL) (mCons (mComp [2] (mItR2 (mCons (mVar 1) (mCons (mVar 0) mNil))) (gtN 2) mYes (l_chance_behind_e3_30 gC bL)) mNil)))))
def m_chance_behind (gC : Int → Int → Int) (bL : Int → Int) : List D → R D := mFn 2 3 (b_chance_behind gC bL)
def b_pass_chance (gC : Int → Int → Int) (bL : Int → Int) : Env → R (Fl × Env) := (mSeq (mDrop (mCall (m_check_number gC bL) (mCons (mVar 0) mNil))) (mSeq (mIfS (mNot (mVal (mCall (m_is_between gC bL) (mCons (mVar 1) (mCons (mCon (.int 0)) (mCons (mBin (gI0 (· - ·)) (mVar 0) (mCon (.int 1))) mNil)))))) (fun _ => .bad) mSkip) (mRet (mCall (m_chance_behind gC bL) (mCons (mVar 0) (mCons (mVar 1) mNil))))))
def m_pass_chance (gC : Int → Int → Int) (bL : Int → Int) : List D → R D := mFn 2 2 (b_pass_chance gC bL)
def l__law_copy_e2_15 (gC : Int → Int → Int) (bL : Int → Int) (rec : List D → R D) : Env → R (D × Env) := (mCall rec (mCons (mVar 1) mNil))
def l__law_copy_e4_21 (gC : Int → Int → Int) (bL : Int → Int) (rec : List D → R D) : Env → R (D × Env) := (mCall rec (mCons (mVar 1) mNil))
def b__law_copy (gC : Int → Int → Int) (bL : Int → Int) (rec : List D → R D) : Env → R (Fl × Env) := (mSeq (mIfS (mVal (mUn (gIsi [0] [.list]) (mVar 0))) (mRet (mComp [1] (mSeqD id (mVar 0)) (gtN 1) mYes ((l__law_copy_e2_15 gC bL) rec))) mSkip) (mSeq (mIfS (mVal (mUn (gIsi [0] [.tuple]) (mVar 0))) (mRet (mPrim (gOne gTupOf) (mCons (mComp [1] (mSeqD id (mVar 0)) (gtN 1) mYes ((l__law_copy_e4_21 gC bL) rec)) mNil))) mSkip) (mRet (mVar 0))))
def m__law_copy (gC : Int → Int → Int) (bL : Int → Int) : Nat → List D → R D
  | 0 => fun _ => .bad
  | j + 1 => mFn 1 2 ((b__law_copy gC bL) ((m__law_copy gC bL) j))
def l__law_kept_e6_46 (gC : Int → Int → Int) (bL : Int → Int) (rec : List D → R D) : Env → R (D × Env) := (mCall rec (mCons (mBin gIx (mVar 0) (mVar 2)) (mCons (mBin gIx (mVar 1) (mVar 2)) mNil)))
def b__law_kept (gC : Int → Int → Int) (bL : Int → Int) (rec : List D → R D) : Env → R (Fl × Env) := (mSeq (mIfS (mVal (mUn (gIsi [0] [.list, .tuple]) (mVar 1))) (mSeq (mIfS (mAnd (mVal (mUn (gIsi [0] [.list]) (mVar 1))) (mNot (mVal (mUn (gIsi [0] [.list]) (mVar 0))))) (mRet (mCon (.bl false))) mSkip) (mSeq (mIfS (mAnd (mVal (mUn (gIsi [0] [.tuple]) (mVar 1))) (mNot (mVal (mUn (gIsi [0] [.tuple]) (mVar 0))))) (mRet (mCon (.bl false))) mSkip) (mRet (mAndV (mBin (gEq) (mPrim (gOne gLen) (mCons (mVar 0) mNil)) (mPrim (gOne gLen) (mCons (mVar 1) mNil))) (mPrim (gOne gAll) (mCons (mComp [2] (mItR1 (mCons (mPrim (gOne gLen) (mCons (mVar 1) mNil)) mNil)) (gtN 2) mYes ((l__law_kept_e6_46 gC bL) rec)) mNil)))))) mSkip) (mSeq (mIfS (mVal (mUn (gIsi [0] [(.own 0)]) (mVar 1))) (mRet (mCall (m__law_frac gC bL) (mCons (mVar 0) (mCons (mUn (gFld [(0, 0)]) (mVar 1)) (mCons (mUn (gFld [(0, 1)]) (mVar 1)) mNil))))) mSkip) (mRet (mCall ((m__law_like gC bL) 3) (mCons (mVar 0) (mCons (mVar 1) mNil))))))
def m__law_kept (gC : Int → Int → Int) (bL : Int → Int) : Nat → List D → R D
  | 0 => fun _ => .bad
  | j + 1 => mFn 2 3 ((b__law_kept gC bL) ((m__law_kept gC bL) j))
def lh__law_kept_e6_46 (gC : Int → Int → Int) (bL : Int → Int) (rec : List D → R D) : Env → R (D × Env) := (mCall rec (mCons (mBin gIx (mVar 0) (mVar 2)) (mCons (mBin gIx (mVar 1) (mVar 2)) mNil)))
def bh__law_kept (gC : Int → Int → Int) (bL : Int → Int) (rec : List D → R D) : Env → R (Fl × Env) := (mSeq (mIfS (mVal (mUn (gIsi [0] [.list, .tuple]) (mVar 1))) (mSeq (mIfS (mAnd (mVal (mUn (gIsi [0] [.list]) (mVar 1))) (mNot (mVal (mUn (gIsi [0] [.list]) (mVar 0))))) (mRet (mCon (.bl false))) mSkip) (mSeq (mIfS (mAnd (mVal (mUn (gIsi [0] [.tuple]) (mVar 1))) (mNot (mVal (mUn (gIsi [0] [.tuple]) (mVar 0))))) (mRet (mCon (.bl false))) mSkip) (mRet (mAndV (mBin (gEq) (mPrim (gOne gLen) (mCons (mVar 0) mNil)) (mPrim (gOne gLen) (mCons (mVar 1) mNil))) (mPrim (gOne gAll) (mCons (mComp [2] (mItR1 (mCons (mPrim (gOne gLen) (mCons (mVar 1) mNil)) mNil)) (gtN 2) mYes ((lh__law_kept_e6_46 gC bL) rec)) mNil)))))) mSkip) (mSeq (mIfS (mVal (mUn (gIsi [0] [(.own 0)]) (mVar 1))) (mRet (mCall (h__law_frac gC bL) (mCons (mVar 0) (mCons (mUn (gFld [(0, 0)]) (mVar 1)) (mCons (mUn (gFld [(0, 1)]) (mVar 1)) mNil))))) mSkip) (mRet (mCall ((h__law_like gC bL) 3) (mCons (mVar 0) (mCons (mVar 1) mNil))))))
def h__law_kept (gC : Int → Int → Int) (bL : Int → Int) : Nat → List D → R D
  | 0 => fun _ => .bad
  | j + 1 => mFn 2 3 ((bh__law_kept gC bL) ((h__law_kept gC bL) j))
def b__law_size_refused (gC : Int → Int → Int) (bL : Int → Int) : Env → R (Fl × Env) := (mSeq (mSet 3 (mCall ((m__law_copy gC bL) 3) (mCons (mVar 1) mNil))) (mSeq (mTryAs [(1, false), (2, true)] [true, true, true, true, false] 4 (mIfS (mVal (mBin (gEq) (mVar 0) (mCon (.int 0)))) (mDrop (mCall (m_top_chance gC bL) (mCons (mVar 1) (mCons (mVar 2) mNil)))) (mIfS (mVal (mBin (gEq) (mVar 0) (mCon (.int 1)))) (mDrop (mCall (m_top_rule gC bL) (mCons (mVar 1) (mCons (mVar 2) mNil)))) (mIfS (mVal (mBin (gEq) (mVar 0) (mCon (.int 2)))) (mDrop (mCall (m_least_mean_rank gC bL) (mCons (mVar 1) mNil))) (mDrop (mCall (m_mean_rank_rule gC bL) (mCons (mVar 1) mNil)))))) (mRet (mAndV (mCall ((h__law_kept gC bL) 3) (mCons (mFldX 4 [(2, 0)]) (mCons (mVar 3) mNil))) (mUn gNot (mIsX 4 [(2, false)]))))) (mRet (mCon (.bl false)))))
def m__law_size_refused (gC : Int → Int → Int) (bL : Int → Int) : List D → R D := mFn 3 5 (b__law_size_refused gC bL)
def b__law_many_refused (gC : Int → Int → Int) (bL : Int → Int) : Env → R (Fl × Env) := (mSeq (mTryAs [(1, true), (2, false)] [true, true, true, false] 3 (mIfS (mVal (mBin (gEq) (mVar 0) (mCon (.int 0)))) (mDrop (mCallKM (m_top_chance gC bL) 1 1 [0] (mCons (mVar 1) mNil) (mCons (mVar 2) mNil))) (mDrop (mCallKM (m_top_rule gC bL) 1 1 [0] (mCons (mVar 1) mNil) (mCons (mVar 2) mNil)))) (mRet (mAndV (mCall ((h__law_like gC bL) 3) (mCons (mFldX 3 [(1, 0)]) (mCons (mCon (.str "many")) mNil))) (mUn gNot (mIsX 3 [(1, false)]))))) (mRet (mCon (.bl false))))
def m__law_many_refused (gC : Int → Int → Int) (bL : Int → Int) : List D → R D := mFn 3 4 (b__law_many_refused gC bL)
def l__law_asked_b8 (gC : Int → Int → Int) (bL : Int → Int) : Env → R (Fl × Env) := (mIfS (mNot (mVal (mCall (m__law_goal_holds gC bL) (mCons (mVar 2) (mCons (mVar 6) (mCons (mVar 3) (mCons (mVar 4) mNil))))))) (mRet (mCon (.bl false))) mSkip)
def l__law_asked_b12 (gC : Int → Int → Int) (bL : Int → Int) : Env → R (Fl × Env) := (mApp 7 (mBin (gII cMul (· * ·)) (mCallB 1 (m__law_pick gC bL) (mCons (mBin (gI0 (· + ·)) (mVar 8) (mCon (.int 3))) mNil)) (mCallB 1 (m__law_pick gC bL) (mCons (mCon (.int 2)) mNil))))
def l__law_asked_b23 (gC : Int → Int → Int) (bL : Int → Int) : Env → R (Fl × Env) := (mIfS (mNot (mVal (mCall (m__law_size_refused gC bL) (mCons (mVar 13) (mCons (mVar 12) (mCons (mCon .non) mNil)))))) (mRet (mCon (.bl false))) mSkip)
def l__law_asked_b27 (gC : Int → Int → Int) (bL : Int → Int) : Env → R (Fl × Env) := (mIfS (mNot (mVal (mCall (m__law_many_refused gC bL) (mCons (mVar 13) (mCons (mVar 2) (mCons (mVar 14) mNil)))))) (mRet (mCon (.bl false))) mSkip)
def b__law_asked (gC : Int → Int → Int) (bL : Int → Int) : Env → R (Fl × Env) := (mSeq (mSet 1 (mPrim gLst (mCons (mPrim (gOne gListOf) (mCons (mVar 0) mNil)) (mCons (mCon (.int 0)) (mCons (mCon (.int 0)) (mCons (mCon (.int 0)) mNil)))))) (mSeq (mSet 2 (mBin (gI0 (· + ·)) (mCon (.int 1)) (mCallB 1 (m__law_pick gC bL) (mCons (mCon (.int 10)) mNil)))) (mSeq (mIfS (mVal (mBin (gEq) (mCallB 1 (m__law_pick gC bL) (mCons (mCon (.int 5)) mNil)) (mCon (.int 0)))) (mSet 2 (mCon (.int 10))) mSkip) (mSeq (mSet 3 (mCall (m__law_table gC bL) (mCons (mVar 2) mNil))) (mSeq (mSet 4 (mCall (m__law_factorial gC bL) (mCons (mVar 2) mNil))) (mSeq (mSet 5 (mPrim gLst (mCons (mCon (.int 0)) (mCons (mBin (gI0 (· + ·)) (mCon (.int 1)) (mCallB 1 (m__law_pick gC bL) (mCons (mVar 2) mNil))) (mCons (mBin (gI0 (· + ·)) (mCon (.int 1)) (mBin (gII cDiv Int.fdiv) (mBin (gII cMul (· * ·)) (mCallB 1 (m__law_pick gC bL) (mCons (mCon (.int 3)) mNil)) (mBin (gI0 (· - ·)) (mVar 2) (mCon (.int 1)))) (mCon (.int 2)))) mNil))))) (mSeq (mFor (mItL (mVar 5)) (gtN 6) (l__law_asked_b8 gC bL)) (mSeq (mSet 7 (mPrim gLst mNil)) (mSeq (mFor (mItR1 (mCons (mVar 2) mNil)) (gtN 8) (l__law_asked_b12 gC bL)) (mSeq (mSetIx 7 (mBin (gII cMul (· * ·)) (mBin (gII cPow fun i j => i ^ j.toNat) (mCon (.int 10)) (mCon (.int 20))) (mCallB 1 (m__law_pick gC bL) (mCons (mCon (.int 2)) mNil))) (mCallB 1 (m__law_pick gC bL) (mCons (mVar 2) mNil))) (mSeq (mIfS (mNot (mVal (mCall ((m__law_like gC bL) 3) (mCons (mCall (m_followed gC bL) (mCons (mVar 2) (mCons (mVar 7) mNil))) (mCons (mCall (m__law_chances gC bL) (mCons (mVar 3) (mCons (mVar 7) (mCons (mVar 4) mNil)))) mNil))))) (mRet (mCon (.bl false))) mSkip) (mSeq (mSet 9 (mCallB 1 (m__law_pick gC bL) (mCons (mVar 2) mNil))) (mSeq (mSet 10 (mCall (m__law_taken gC bL) (mCons (mVar 3) (mCons (mBin gCat (mBin gRep (mPrim gLst (mCons (mCon (.int 0)) mNil)) (mVar 9)) (mBin gRep (mPrim gLst (mCons (mCon (.int 1)) mNil)) (mBin (gI0 (· - ·)) (mVar 2) (mVar 9)))) mNil)))) (mSeq (mIfS (mNot (mVal (mCall ((m__law_like gC bL) 3) (mCons (mCall (m_pass_chance gC bL) (mCons (mVar 2) (mCons (mVar 9) mNil))) (mCons (mPrim gLst (mCons (mBin gIx (mVar 10) (mCon (.int 0))) (mCons (mVar 4) mNil))) mNil))))) (mRet (mCon (.bl false))) mSkip) (mSeq (mSet 11 (mPrim gLst (mCons (mCon (.int 0)) (mCons (mUn (gU fun i => -i) (mCon (.int 1))) (mCons (mCon (.int 61)) (mCons (mCon (.bl true)) (mCons (mCon (.bl false)) (mCons (mCon .non) (mCons (mCon (.str "10")) (mCons (mPrim gTup (mCons (mCon (.int 2)) mNil)) (mCons (mPrim gLst (mCons (mCon (.int 1)) (mCons (mCon (.int 2)) mNil))) (mCons (mBin (gI0 (· + ·)) (mCon (.int 61)) (mCallB 1 (m__law_pick gC bL) (mCons (mBin (gII cPow fun i j => i ^ j.toNat) (mCon (.int 10)) (mCon (.int 6))) mNil))) mNil)))))))))))) (mSeq (mSet 12 (mBin gIx (mVar 11) (mCallB 1 (m__law_pick gC bL) (mCons (mCon (.int 10)) mNil)))) (mSeq (mFor (mItR1 (mCons (mCon (.int 4)) mNil)) (gtN 13) (l__law_asked_b23 gC bL)) (mSeq (mSet 14 (mBin gIx (mPrim gLst (mCons (mCon (.int 0)) (mCons (mBin (gI0 (· + ·)) (mVar 2) (mCon (.int 1))) (mCons (mUn (gU fun i => -i) (mCon (.int 1))) (mCons (mCon (.bl true)) (mCons (mCon .non) (mCons (mCon (.str "1")) (mCons (mPrim gTup (mCons (mCon (.int 1)) mNil)) (mCons (mBin (gI0 (· + ·)) (mBin (gI0 (· + ·)) (mVar 2) (mCon (.int 1))) (mCallB 1 (m__law_pick gC bL) (mCons (mCon (.int 50)) mNil))) mNil))))))))) (mCallB 1 (m__law_pick gC bL) (mCons (mCon (.int 8)) mNil)))) (mSeq (mFor (mItR1 (mCons (mCon (.int 2)) mNil)) (gtN 13) (l__law_asked_b27 gC bL)) (mRet (mAndV (mCall (m__law_goal_holds gC bL) (mCons (mVar 2) (mCons (mBin gIx (mVar 5) (mCon (.int 1))) (mCons (mVar 3) (mCons (mVar 4) mNil))))) (mCall (m__law_goal_holds gC bL) (mCons (mVar 2) (mCons (mCon (.int 0)) (mCons (mVar 3) (mCons (mVar 4) mNil))))))))))))))))))))))))))
def m__law_asked (gC : Int → Int → Int) (bL : Int → Int) : List D → R D := mFn 1 15 (b__law_asked gC bL)
def b_law (gC : Int → Int → Int) (bL : Int → Int) : Env → R (Fl × Env) := (mTry (mRet (mCall (m__law_asked gC bL) (mCons (mVar 0) mNil))))
def m_law (gC : Int → Int → Int) (bL : Int → Int) : List D → R D := mFn 1 1 (b_law gC bL)
theorem kq_b__law_pick : Z.L56.b__law_pick = b__law_pick gcdI bitLen := by unfold Z.L56.b__law_pick b__law_pick; rfl
theorem kq_m__law_pick : Z.L56.m__law_pick = m__law_pick gcdI bitLen := by unfold Z.L56.m__law_pick m__law_pick; simp only [kq_b__law_pick]
theorem kq_l__law_ways_e1_13 : Z.L56.l__law_ways_e1_13 = l__law_ways_e1_13 gcdI bitLen := by unfold Z.L56.l__law_ways_e1_13 l__law_ways_e1_13; rfl
theorem kq_l__law_ways_e3_16 : Z.L56.l__law_ways_e3_16 = l__law_ways_e3_16 gcdI bitLen := by unfold Z.L56.l__law_ways_e3_16 l__law_ways_e3_16; rfl
theorem kq_l__law_ways_b4 : Z.L56.l__law_ways_b4 = l__law_ways_b4 gcdI bitLen := by unfold Z.L56.l__law_ways_b4 l__law_ways_b4; rfl
theorem kq_l__law_ways_b2 : Z.L56.l__law_ways_b2 = l__law_ways_b2 gcdI bitLen := by unfold Z.L56.l__law_ways_b2 l__law_ways_b2; simp only [kq_l__law_ways_e3_16, kq_l__law_ways_b4]
theorem kq_b__law_ways : Z.L56.b__law_ways = b__law_ways gcdI bitLen := by unfold Z.L56.b__law_ways b__law_ways; simp only [kq_l__law_ways_e1_13, kq_l__law_ways_b2]
theorem kq_m__law_ways : Z.L56.m__law_ways = m__law_ways gcdI bitLen := by unfold Z.L56.m__law_ways m__law_ways; simp only [kq_b__law_ways]
theorem kq_l__law_table_e3_21 : Z.L56.l__law_table_e3_21 = l__law_table_e3_21 gcdI bitLen := by unfold Z.L56.l__law_table_e3_21 l__law_table_e3_21; simp only [kq_m__law_ways]
theorem kq_l__law_table_b2 : Z.L56.l__law_table_b2 = l__law_table_b2 gcdI bitLen := by unfold Z.L56.l__law_table_b2 l__law_table_b2; simp only [kq_l__law_table_e3_21]
theorem kq_b__law_table : Z.L56.b__law_table = b__law_table gcdI bitLen := by unfold Z.L56.b__law_table b__law_table; simp only [kq_l__law_table_b2]
theorem kq_m__law_table : Z.L56.m__law_table = m__law_table gcdI bitLen := by unfold Z.L56.m__law_table m__law_table; simp only [kq_b__law_table]
theorem kq_l__law_factorial_b2 : Z.L56.l__law_factorial_b2 = l__law_factorial_b2 gcdI bitLen := by unfold Z.L56.l__law_factorial_b2 l__law_factorial_b2; rfl
theorem kq_b__law_factorial : Z.L56.b__law_factorial = b__law_factorial gcdI bitLen := by unfold Z.L56.b__law_factorial b__law_factorial; simp only [kq_l__law_factorial_b2]
theorem kq_m__law_factorial : Z.L56.m__law_factorial = m__law_factorial gcdI bitLen := by unfold Z.L56.m__law_factorial m__law_factorial; simp only [kq_b__law_factorial]
theorem kq_l__law_score_e3_16 : Z.L56.l__law_score_e3_16 = l__law_score_e3_16 gcdI bitLen := by unfold Z.L56.l__law_score_e3_16 l__law_score_e3_16; rfl
theorem kq_b__law_score : Z.L56.b__law_score = b__law_score gcdI bitLen := by unfold Z.L56.b__law_score b__law_score; simp only [kq_l__law_score_e3_16]
theorem kq_m__law_score : Z.L56.m__law_score = m__law_score gcdI bitLen := by unfold Z.L56.m__law_score m__law_score; simp only [kq_b__law_score]
theorem kq_b__law_more : Z.L56.b__law_more = b__law_more gcdI bitLen := by unfold Z.L56.b__law_more b__law_more; rfl
theorem kq_m__law_more : Z.L56.m__law_more = m__law_more gcdI bitLen := by unfold Z.L56.m__law_more m__law_more; simp only [kq_b__law_more]
theorem kq_l__law_backward_e3_17 : Z.L56.l__law_backward_e3_17 = l__law_backward_e3_17 gcdI bitLen := by unfold Z.L56.l__law_backward_e3_17 l__law_backward_e3_17; simp only [kq_m__law_score]
theorem kq_l__law_backward_e6_17 : Z.L56.l__law_backward_e6_17 = l__law_backward_e6_17 gcdI bitLen := by unfold Z.L56.l__law_backward_e6_17 l__law_backward_e6_17; simp only [kq_m__law_score]
theorem kq_l__law_backward_b8 : Z.L56.l__law_backward_b8 = l__law_backward_b8 gcdI bitLen := by unfold Z.L56.l__law_backward_b8 l__law_backward_b8; rfl
theorem kq_l__law_backward_e12_21 : Z.L56.l__law_backward_e12_21 = l__law_backward_e12_21 gcdI bitLen := by unfold Z.L56.l__law_backward_e12_21 l__law_backward_e12_21; simp only [kq_m__law_more]
theorem kq_l__law_backward_b4 : Z.L56.l__law_backward_b4 = l__law_backward_b4 gcdI bitLen := by unfold Z.L56.l__law_backward_b4 l__law_backward_b4; simp only [kq_l__law_backward_e6_17, kq_l__law_backward_b8, kq_l__law_backward_e12_21]
theorem kq_b__law_backward : Z.L56.b__law_backward = b__law_backward gcdI bitLen := by unfold Z.L56.b__law_backward b__law_backward; simp only [kq_l__law_backward_e3_17, kq_l__law_backward_b4]
theorem kq_m__law_backward : Z.L56.m__law_backward = m__law_backward gcdI bitLen := by unfold Z.L56.m__law_backward m__law_backward; simp only [kq_b__law_backward]
theorem kq_b__law_plain : Z.L56.b__law_plain = b__law_plain gcdI bitLen := by unfold Z.L56.b__law_plain b__law_plain; rfl
theorem kq_m__law_plain : Z.L56.m__law_plain = m__law_plain gcdI bitLen := by unfold Z.L56.m__law_plain m__law_plain; simp only [kq_b__law_plain]
theorem kq_bh__law_plain : Z.L56.bh__law_plain = bh__law_plain gcdI bitLen := by unfold Z.L56.bh__law_plain bh__law_plain; rfl
theorem kq_h__law_plain : Z.L56.h__law_plain = h__law_plain gcdI bitLen := by unfold Z.L56.h__law_plain h__law_plain; simp only [kq_bh__law_plain]
theorem kq_l__law_cut_b3 : Z.L56.l__law_cut_b3 = l__law_cut_b3 gcdI bitLen := by unfold Z.L56.l__law_cut_b3 l__law_cut_b3; rfl
theorem kq_b__law_cut : Z.L56.b__law_cut = b__law_cut gcdI bitLen := by unfold Z.L56.b__law_cut b__law_cut; simp only [kq_l__law_cut_b3]
theorem kq_m__law_cut : Z.L56.m__law_cut = m__law_cut gcdI bitLen := by unfold Z.L56.m__law_cut m__law_cut; simp only [kq_b__law_cut]
theorem kq_lh__law_cut_b3 : Z.L56.lh__law_cut_b3 = lh__law_cut_b3 gcdI bitLen := by unfold Z.L56.lh__law_cut_b3 lh__law_cut_b3; rfl
theorem kq_bh__law_cut : Z.L56.bh__law_cut = bh__law_cut gcdI bitLen := by unfold Z.L56.bh__law_cut bh__law_cut; simp only [kq_lh__law_cut_b3]
theorem kq_h__law_cut : Z.L56.h__law_cut = h__law_cut gcdI bitLen := by unfold Z.L56.h__law_cut h__law_cut; simp only [kq_bh__law_cut]
theorem kq_b__law_frac : Z.L56.b__law_frac = b__law_frac gcdI bitLen := by unfold Z.L56.b__law_frac b__law_frac; simp only [kq_m__law_plain, kq_m__law_cut]
theorem kq_m__law_frac : Z.L56.m__law_frac = m__law_frac gcdI bitLen := by unfold Z.L56.m__law_frac m__law_frac; simp only [kq_b__law_frac]
theorem kq_bh__law_frac : Z.L56.bh__law_frac = bh__law_frac gcdI bitLen := by unfold Z.L56.bh__law_frac bh__law_frac; simp only [kq_h__law_plain, kq_h__law_cut]
theorem kq_h__law_frac : Z.L56.h__law_frac = h__law_frac gcdI bitLen := by unfold Z.L56.h__law_frac h__law_frac; simp only [kq_bh__law_frac]
theorem kq_l__law_like_e8_19 (r) : Z.L56.l__law_like_e8_19 r = l__law_like_e8_19 gcdI bitLen r := by simp only [Z.L56.l__law_like_e8_19, l__law_like_e8_19]
theorem kq_b__law_like (r) : Z.L56.b__law_like r = b__law_like gcdI bitLen r := by simp only [Z.L56.b__law_like, b__law_like, kq_m__law_frac, kq_l__law_like_e8_19, kq_m__law_plain]
theorem kq_m__law_like : ∀ j, Z.L56.m__law_like j = m__law_like gcdI bitLen j
  | 0 => rfl
  | j + 1 => by simp only [Z.L56.m__law_like, m__law_like, kq_m__law_like j, kq_b__law_like]
theorem kq_lh__law_like_e8_19 (r) : Z.L56.lh__law_like_e8_19 r = lh__law_like_e8_19 gcdI bitLen r := by simp only [Z.L56.lh__law_like_e8_19, lh__law_like_e8_19]
theorem kq_bh__law_like (r) : Z.L56.bh__law_like r = bh__law_like gcdI bitLen r := by simp only [Z.L56.bh__law_like, bh__law_like, kq_h__law_frac, kq_lh__law_like_e8_19, kq_h__law_plain]
theorem kq_h__law_like : ∀ j, Z.L56.h__law_like j = h__law_like gcdI bitLen j
  | 0 => rfl
  | j + 1 => by simp only [Z.L56.h__law_like, h__law_like, kq_h__law_like j, kq_bh__law_like]
theorem kq_b_is_integer : Z.L56.b_is_integer = b_is_integer gcdI bitLen := by unfold Z.L56.b_is_integer b_is_integer; rfl
theorem kq_m_is_integer : Z.L56.m_is_integer = m_is_integer gcdI bitLen := by unfold Z.L56.m_is_integer m_is_integer; simp only [kq_b_is_integer]
theorem kq_b_is_between : Z.L56.b_is_between = b_is_between gcdI bitLen := by unfold Z.L56.b_is_between b_is_between; simp only [kq_m_is_integer]
theorem kq_m_is_between : Z.L56.m_is_between = m_is_between gcdI bitLen := by unfold Z.L56.m_is_between m_is_between; simp only [kq_b_is_between]
theorem kq_b_check_number : Z.L56.b_check_number = b_check_number gcdI bitLen := by unfold Z.L56.b_check_number b_check_number; simp only [kq_m_is_between]
theorem kq_m_check_number : Z.L56.m_check_number = m_check_number gcdI bitLen := by unfold Z.L56.m_check_number m_check_number; simp only [kq_b_check_number]
theorem kq_b_Frac___init__ : Z.L56.b_Frac___init__ = b_Frac___init__ gcdI bitLen := by unfold Z.L56.b_Frac___init__ b_Frac___init__; simp only [kq_m_is_integer]
theorem kq_m_Frac___init__ : Z.L56.m_Frac___init__ = m_Frac___init__ gcdI bitLen := by unfold Z.L56.m_Frac___init__ m_Frac___init__; simp only [kq_b_Frac___init__]
theorem kq_b_Frac___sub__ : Z.L56.b_Frac___sub__ = b_Frac___sub__ gcdI bitLen := by unfold Z.L56.b_Frac___sub__ b_Frac___sub__; simp only [kq_m_Frac___init__]
theorem kq_m_Frac___sub__ : Z.L56.m_Frac___sub__ = m_Frac___sub__ gcdI bitLen := by unfold Z.L56.m_Frac___sub__ m_Frac___sub__; simp only [kq_b_Frac___sub__]
theorem kq_b_Frac___mul__ : Z.L56.b_Frac___mul__ = b_Frac___mul__ gcdI bitLen := by unfold Z.L56.b_Frac___mul__ b_Frac___mul__; simp only [kq_m_Frac___init__]
theorem kq_m_Frac___mul__ : Z.L56.m_Frac___mul__ = m_Frac___mul__ gcdI bitLen := by unfold Z.L56.m_Frac___mul__ m_Frac___mul__; simp only [kq_b_Frac___mul__]
theorem kq_b_Frac___add__ : Z.L56.b_Frac___add__ = b_Frac___add__ gcdI bitLen := by unfold Z.L56.b_Frac___add__ b_Frac___add__; simp only [kq_m_Frac___init__]
theorem kq_m_Frac___add__ : Z.L56.m_Frac___add__ = m_Frac___add__ gcdI bitLen := by unfold Z.L56.m_Frac___add__ m_Frac___add__; simp only [kq_b_Frac___add__]
theorem kq_l_total_b2 : Z.L56.l_total_b2 = l_total_b2 gcdI bitLen := by unfold Z.L56.l_total_b2 l_total_b2; simp only [kq_m_Frac___add__]
theorem kq_b_total : Z.L56.b_total = b_total gcdI bitLen := by unfold Z.L56.b_total b_total; simp only [kq_m_Frac___init__, kq_l_total_b2]
theorem kq_m_total : Z.L56.m_total = m_total gcdI bitLen := by unfold Z.L56.m_total m_total; simp only [kq_b_total]
theorem kq_b_mean_of_row : Z.L56.b_mean_of_row = b_mean_of_row gcdI bitLen := by unfold Z.L56.b_mean_of_row b_mean_of_row; simp only [kq_m_Frac___mul__, kq_m_total, kq_m_Frac___init__]
theorem kq_m_mean_of_row : Z.L56.m_mean_of_row = m_mean_of_row gcdI bitLen := by unfold Z.L56.m_mean_of_row m_mean_of_row; simp only [kq_b_mean_of_row]
theorem kq_b_Frac_is_below : Z.L56.b_Frac_is_below = b_Frac_is_below gcdI bitLen := by unfold Z.L56.b_Frac_is_below b_Frac_is_below; rfl
theorem kq_m_Frac_is_below : Z.L56.m_Frac_is_below = m_Frac_is_below gcdI bitLen := by unfold Z.L56.m_Frac_is_below m_Frac_is_below; simp only [kq_b_Frac_is_below]
theorem kq_l_greatest_of_b2 : Z.L56.l_greatest_of_b2 = l_greatest_of_b2 gcdI bitLen := by unfold Z.L56.l_greatest_of_b2 l_greatest_of_b2; simp only [kq_m_Frac_is_below]
theorem kq_b_greatest_of : Z.L56.b_greatest_of = b_greatest_of gcdI bitLen := by unfold Z.L56.b_greatest_of b_greatest_of; simp only [kq_l_greatest_of_b2]
theorem kq_m_greatest_of : Z.L56.m_greatest_of = m_greatest_of gcdI bitLen := by unfold Z.L56.m_greatest_of m_greatest_of; simp only [kq_b_greatest_of]
theorem kq_l_means_from_e4_33 : Z.L56.l_means_from_e4_33 = l_means_from_e4_33 gcdI bitLen := by unfold Z.L56.l_means_from_e4_33 l_means_from_e4_33; simp only [kq_m_greatest_of]
theorem kq_l_means_from_b2 : Z.L56.l_means_from_b2 = l_means_from_b2 gcdI bitLen := by unfold Z.L56.l_means_from_b2 l_means_from_b2; simp only [kq_m_mean_of_row, kq_l_means_from_e4_33]
theorem kq_b_means_from : Z.L56.b_means_from = b_means_from gcdI bitLen := by unfold Z.L56.b_means_from b_means_from; simp only [kq_m_mean_of_row, kq_l_means_from_b2]
theorem kq_m_means_from : Z.L56.m_means_from = m_means_from gcdI bitLen := by unfold Z.L56.m_means_from m_means_from; simp only [kq_b_means_from]
theorem kq_l_rank_worths_e3_20 : Z.L56.l_rank_worths_e3_20 = l_rank_worths_e3_20 gcdI bitLen := by unfold Z.L56.l_rank_worths_e3_20 l_rank_worths_e3_20; simp only [kq_m_Frac___init__]
theorem kq_l_rank_worths_b2 : Z.L56.l_rank_worths_b2 = l_rank_worths_b2 gcdI bitLen := by unfold Z.L56.l_rank_worths_b2 l_rank_worths_b2; simp only [kq_l_rank_worths_e3_20]
theorem kq_b_rank_worths : Z.L56.b_rank_worths = b_rank_worths gcdI bitLen := by unfold Z.L56.b_rank_worths b_rank_worths; simp only [kq_l_rank_worths_b2]
theorem kq_m_rank_worths : Z.L56.m_rank_worths = m_rank_worths gcdI bitLen := by unfold Z.L56.m_rank_worths m_rank_worths; simp only [kq_b_rank_worths]
theorem kq_b_least_mean_rank : Z.L56.b_least_mean_rank = b_least_mean_rank gcdI bitLen := by unfold Z.L56.b_least_mean_rank b_least_mean_rank; simp only [kq_m_check_number, kq_m_Frac___sub__, kq_m_Frac___init__, kq_m_means_from, kq_m_rank_worths]
theorem kq_m_least_mean_rank : Z.L56.m_least_mean_rank = m_least_mean_rank gcdI bitLen := by unfold Z.L56.m_least_mean_rank m_least_mean_rank; simp only [kq_b_least_mean_rank]
theorem kq_l_rule_of_b5 : Z.L56.l_rule_of_b5 = l_rule_of_b5 gcdI bitLen := by unfold Z.L56.l_rule_of_b5 l_rule_of_b5; rfl
theorem kq_l_rule_of_t5 : Z.L56.l_rule_of_t5 = l_rule_of_t5 gcdI bitLen := by unfold Z.L56.l_rule_of_t5 l_rule_of_t5; simp only [kq_m_Frac_is_below]
theorem kq_l_rule_of_b3 : Z.L56.l_rule_of_b3 = l_rule_of_b3 gcdI bitLen := by unfold Z.L56.l_rule_of_b3 l_rule_of_b3; simp only [kq_l_rule_of_t5, kq_l_rule_of_b5]
theorem kq_b_rule_of : Z.L56.b_rule_of = b_rule_of gcdI bitLen := by unfold Z.L56.b_rule_of b_rule_of; simp only [kq_m_means_from, kq_l_rule_of_b3]
theorem kq_m_rule_of : Z.L56.m_rule_of = m_rule_of gcdI bitLen := by unfold Z.L56.m_rule_of m_rule_of; simp only [kq_b_rule_of]
theorem kq_b_mean_rank_rule : Z.L56.b_mean_rank_rule = b_mean_rank_rule gcdI bitLen := by unfold Z.L56.b_mean_rank_rule b_mean_rank_rule; simp only [kq_m_check_number, kq_m_rule_of, kq_m_rank_worths]
theorem kq_m_mean_rank_rule : Z.L56.m_mean_rank_rule = m_mean_rank_rule gcdI bitLen := by unfold Z.L56.m_mean_rank_rule m_mean_rank_rule; simp only [kq_b_mean_rank_rule]
theorem kq_b_check_top : Z.L56.b_check_top = b_check_top gcdI bitLen := by unfold Z.L56.b_check_top b_check_top; simp only [kq_m_check_number, kq_m_is_between]
theorem kq_m_check_top : Z.L56.m_check_top = m_check_top gcdI bitLen := by unfold Z.L56.m_check_top m_check_top; simp only [kq_b_check_top]
theorem kq_b_rank_weight : Z.L56.b_rank_weight = b_rank_weight gcdI bitLen := by unfold Z.L56.b_rank_weight b_rank_weight; rfl
theorem kq_m_rank_weight : Z.L56.m_rank_weight = m_rank_weight gcdI bitLen := by unfold Z.L56.m_rank_weight m_rank_weight; simp only [kq_b_rank_weight]
theorem kq_l_top_worths_e5_23 : Z.L56.l_top_worths_e5_23 = l_top_worths_e5_23 gcdI bitLen := by unfold Z.L56.l_top_worths_e5_23 l_top_worths_e5_23; simp only [kq_m_rank_weight]
theorem kq_l_top_worths_b4 : Z.L56.l_top_worths_b4 = l_top_worths_b4 gcdI bitLen := by unfold Z.L56.l_top_worths_b4 l_top_worths_b4; simp only [kq_l_top_worths_e5_23, kq_m_Frac___init__]
theorem kq_l_top_worths_b2 : Z.L56.l_top_worths_b2 = l_top_worths_b2 gcdI bitLen := by unfold Z.L56.l_top_worths_b2 l_top_worths_b2; simp only [kq_l_top_worths_b4]
theorem kq_b_top_worths : Z.L56.b_top_worths = b_top_worths gcdI bitLen := by unfold Z.L56.b_top_worths b_top_worths; simp only [kq_l_top_worths_b2]
theorem kq_m_top_worths : Z.L56.m_top_worths = m_top_worths gcdI bitLen := by unfold Z.L56.m_top_worths m_top_worths; simp only [kq_b_top_worths]
theorem kq_b_top_chance : Z.L56.b_top_chance = b_top_chance gcdI bitLen := by unfold Z.L56.b_top_chance b_top_chance; simp only [kq_m_check_top, kq_m_means_from, kq_m_top_worths]
theorem kq_m_top_chance : Z.L56.m_top_chance = m_top_chance gcdI bitLen := by unfold Z.L56.m_top_chance m_top_chance; simp only [kq_b_top_chance]
theorem kq_b_top_rule : Z.L56.b_top_rule = b_top_rule gcdI bitLen := by unfold Z.L56.b_top_rule b_top_rule; simp only [kq_m_check_top, kq_m_rule_of, kq_m_top_worths]
theorem kq_m_top_rule : Z.L56.m_top_rule = m_top_rule gcdI bitLen := by unfold Z.L56.m_top_rule m_top_rule; simp only [kq_b_top_rule]
theorem kq_b_is_sequence : Z.L56.b_is_sequence = b_is_sequence gcdI bitLen := by unfold Z.L56.b_is_sequence b_is_sequence; rfl
theorem kq_m_is_sequence : Z.L56.m_is_sequence = m_is_sequence gcdI bitLen := by unfold Z.L56.m_is_sequence m_is_sequence; simp only [kq_b_is_sequence]
theorem kq_l_limits_of_e3_15 : Z.L56.l_limits_of_e3_15 = l_limits_of_e3_15 gcdI bitLen := by unfold Z.L56.l_limits_of_e3_15 l_limits_of_e3_15; simp only [kq_m_is_integer]
theorem kq_l_limits_of_e5_13 : Z.L56.l_limits_of_e5_13 = l_limits_of_e5_13 gcdI bitLen := by unfold Z.L56.l_limits_of_e5_13 l_limits_of_e5_13; rfl
theorem kq_b_limits_of : Z.L56.b_limits_of = b_limits_of gcdI bitLen := by unfold Z.L56.b_limits_of b_limits_of; simp only [kq_m_is_sequence, kq_l_limits_of_e3_15, kq_l_limits_of_e5_13]
theorem kq_m_limits_of : Z.L56.m_limits_of = m_limits_of gcdI bitLen := by unfold Z.L56.m_limits_of m_limits_of; simp only [kq_b_limits_of]
theorem kq_l_followed_e2_14 : Z.L56.l_followed_e2_14 = l_followed_e2_14 gcdI bitLen := by unfold Z.L56.l_followed_e2_14 l_followed_e2_14; simp only [kq_m_Frac___init__]
theorem kq_l_followed_e8_23 : Z.L56.l_followed_e8_23 = l_followed_e8_23 gcdI bitLen := by unfold Z.L56.l_followed_e8_23 l_followed_e8_23; simp only [kq_m_rank_weight]
theorem kq_l_followed_b7 : Z.L56.l_followed_b7 = l_followed_b7 gcdI bitLen := by unfold Z.L56.l_followed_b7 l_followed_b7; simp only [kq_l_followed_e8_23, kq_m_Frac___add__, kq_m_Frac___mul__, kq_m_Frac___init__]
theorem kq_l_followed_b4 : Z.L56.l_followed_b4 = l_followed_b4 gcdI bitLen := by unfold Z.L56.l_followed_b4 l_followed_b4; simp only [kq_m_Frac___mul__, kq_m_Frac___init__, kq_l_followed_b7]
theorem kq_b_followed : Z.L56.b_followed = b_followed gcdI bitLen := by unfold Z.L56.b_followed b_followed; simp only [kq_m_check_number, kq_l_followed_e2_14, kq_m_Frac___init__, kq_m_limits_of, kq_l_followed_b4]
theorem kq_m_followed : Z.L56.m_followed = m_followed gcdI bitLen := by unfold Z.L56.m_followed m_followed; simp only [kq_b_followed]
theorem kq_l__law_taken_e2_12 : Z.L56.l__law_taken_e2_12 = l__law_taken_e2_12 gcdI bitLen := by unfold Z.L56.l__law_taken_e2_12 l__law_taken_e2_12; rfl
theorem kq_l__law_taken_e9_20 : Z.L56.l__law_taken_e9_20 = l__law_taken_e9_20 gcdI bitLen := by unfold Z.L56.l__law_taken_e9_20 l__law_taken_e9_20; rfl
theorem kq_l__law_taken_b8 : Z.L56.l__law_taken_b8 = l__law_taken_b8 gcdI bitLen := by unfold Z.L56.l__law_taken_b8 l__law_taken_b8; simp only [kq_l__law_taken_e9_20]
theorem kq_l__law_taken_b4 : Z.L56.l__law_taken_b4 = l__law_taken_b4 gcdI bitLen := by unfold Z.L56.l__law_taken_b4 l__law_taken_b4; simp only [kq_l__law_taken_b8]
theorem kq_b__law_taken : Z.L56.b__law_taken = b__law_taken gcdI bitLen := by unfold Z.L56.b__law_taken b__law_taken; simp only [kq_l__law_taken_e2_12, kq_l__law_taken_b4]
theorem kq_m__law_taken : Z.L56.m__law_taken = m__law_taken gcdI bitLen := by unfold Z.L56.m__law_taken m__law_taken; simp only [kq_b__law_taken]
theorem kq_l__law_chances_e1_17 : Z.L56.l__law_chances_e1_17 = l__law_chances_e1_17 gcdI bitLen := by unfold Z.L56.l__law_chances_e1_17 l__law_chances_e1_17; rfl
theorem kq_b__law_chances : Z.L56.b__law_chances = b__law_chances gcdI bitLen := by unfold Z.L56.b__law_chances b__law_chances; simp only [kq_m__law_taken, kq_l__law_chances_e1_17]
theorem kq_m__law_chances : Z.L56.m__law_chances = m__law_chances gcdI bitLen := by unfold Z.L56.m__law_chances m__law_chances; simp only [kq_b__law_chances]
theorem kq_b__law_goal_holds : Z.L56.b__law_goal_holds = b__law_goal_holds gcdI bitLen := by unfold Z.L56.b__law_goal_holds b__law_goal_holds; simp only [kq_m__law_backward, kq_m__law_like, kq_m_least_mean_rank, kq_m_mean_rank_rule, kq_m_top_chance, kq_m_top_rule, kq_m_followed, kq_m__law_chances]
theorem kq_m__law_goal_holds : Z.L56.m__law_goal_holds = m__law_goal_holds gcdI bitLen := by unfold Z.L56.m__law_goal_holds m__law_goal_holds; simp only [kq_b__law_goal_holds]
theorem kq_l_chance_behind_e3_30 : Z.L56.l_chance_behind_e3_30 = l_chance_behind_e3_30 gcdI bitLen := by unfold Z.L56.l_chance_behind_e3_30 l_chance_behind_e3_30; simp only [kq_m_Frac___init__]
theorem kq_b_chance_behind : Z.L56.b_chance_behind = b_chance_behind gcdI bitLen := by unfold Z.L56.b_chance_behind b_chance_behind; simp only [kq_m_Frac___init__, kq_m_Frac___mul__, kq_m_total, kq_l_chance_behind_e3_30]
theorem kq_m_chance_behind : Z.L56.m_chance_behind = m_chance_behind gcdI bitLen := by unfold Z.L56.m_chance_behind m_chance_behind; simp only [kq_b_chance_behind]
theorem kq_b_pass_chance : Z.L56.b_pass_chance = b_pass_chance gcdI bitLen := by unfold Z.L56.b_pass_chance b_pass_chance; simp only [kq_m_check_number, kq_m_is_between, kq_m_chance_behind]
theorem kq_m_pass_chance : Z.L56.m_pass_chance = m_pass_chance gcdI bitLen := by unfold Z.L56.m_pass_chance m_pass_chance; simp only [kq_b_pass_chance]
theorem kq_l__law_copy_e2_15 (r) : Z.L56.l__law_copy_e2_15 r = l__law_copy_e2_15 gcdI bitLen r := by simp only [Z.L56.l__law_copy_e2_15, l__law_copy_e2_15]
theorem kq_l__law_copy_e4_21 (r) : Z.L56.l__law_copy_e4_21 r = l__law_copy_e4_21 gcdI bitLen r := by simp only [Z.L56.l__law_copy_e4_21, l__law_copy_e4_21]
theorem kq_b__law_copy (r) : Z.L56.b__law_copy r = b__law_copy gcdI bitLen r := by simp only [Z.L56.b__law_copy, b__law_copy, kq_l__law_copy_e2_15, kq_l__law_copy_e4_21]
theorem kq_m__law_copy : ∀ j, Z.L56.m__law_copy j = m__law_copy gcdI bitLen j
  | 0 => rfl
  | j + 1 => by simp only [Z.L56.m__law_copy, m__law_copy, kq_m__law_copy j, kq_b__law_copy]
theorem kq_l__law_kept_e6_46 (r) : Z.L56.l__law_kept_e6_46 r = l__law_kept_e6_46 gcdI bitLen r := by simp only [Z.L56.l__law_kept_e6_46, l__law_kept_e6_46]
theorem kq_b__law_kept (r) : Z.L56.b__law_kept r = b__law_kept gcdI bitLen r := by simp only [Z.L56.b__law_kept, b__law_kept, kq_l__law_kept_e6_46, kq_m__law_frac, kq_m__law_like]
theorem kq_m__law_kept : ∀ j, Z.L56.m__law_kept j = m__law_kept gcdI bitLen j
  | 0 => rfl
  | j + 1 => by simp only [Z.L56.m__law_kept, m__law_kept, kq_m__law_kept j, kq_b__law_kept]
theorem kq_lh__law_kept_e6_46 (r) : Z.L56.lh__law_kept_e6_46 r = lh__law_kept_e6_46 gcdI bitLen r := by simp only [Z.L56.lh__law_kept_e6_46, lh__law_kept_e6_46]
theorem kq_bh__law_kept (r) : Z.L56.bh__law_kept r = bh__law_kept gcdI bitLen r := by simp only [Z.L56.bh__law_kept, bh__law_kept, kq_lh__law_kept_e6_46, kq_h__law_frac, kq_h__law_like]
theorem kq_h__law_kept : ∀ j, Z.L56.h__law_kept j = h__law_kept gcdI bitLen j
  | 0 => rfl
  | j + 1 => by simp only [Z.L56.h__law_kept, h__law_kept, kq_h__law_kept j, kq_bh__law_kept]
theorem kq_b__law_size_refused : Z.L56.b__law_size_refused = b__law_size_refused gcdI bitLen := by unfold Z.L56.b__law_size_refused b__law_size_refused; simp only [kq_m__law_copy, kq_m_top_chance, kq_m_top_rule, kq_m_least_mean_rank, kq_m_mean_rank_rule, kq_h__law_kept]
theorem kq_m__law_size_refused : Z.L56.m__law_size_refused = m__law_size_refused gcdI bitLen := by unfold Z.L56.m__law_size_refused m__law_size_refused; simp only [kq_b__law_size_refused]
theorem kq_b__law_many_refused : Z.L56.b__law_many_refused = b__law_many_refused gcdI bitLen := by unfold Z.L56.b__law_many_refused b__law_many_refused; simp only [kq_m_top_chance, kq_m_top_rule, kq_h__law_like]
theorem kq_m__law_many_refused : Z.L56.m__law_many_refused = m__law_many_refused gcdI bitLen := by unfold Z.L56.m__law_many_refused m__law_many_refused; simp only [kq_b__law_many_refused]
theorem kq_l__law_asked_b8 : Z.L56.l__law_asked_b8 = l__law_asked_b8 gcdI bitLen := by unfold Z.L56.l__law_asked_b8 l__law_asked_b8; simp only [kq_m__law_goal_holds]
theorem kq_l__law_asked_b12 : Z.L56.l__law_asked_b12 = l__law_asked_b12 gcdI bitLen := by unfold Z.L56.l__law_asked_b12 l__law_asked_b12; simp only [kq_m__law_pick]
theorem kq_l__law_asked_b23 : Z.L56.l__law_asked_b23 = l__law_asked_b23 gcdI bitLen := by unfold Z.L56.l__law_asked_b23 l__law_asked_b23; simp only [kq_m__law_size_refused]
theorem kq_l__law_asked_b27 : Z.L56.l__law_asked_b27 = l__law_asked_b27 gcdI bitLen := by unfold Z.L56.l__law_asked_b27 l__law_asked_b27; simp only [kq_m__law_many_refused]
theorem kq_b__law_asked : Z.L56.b__law_asked = b__law_asked gcdI bitLen := by unfold Z.L56.b__law_asked b__law_asked; simp only [kq_m__law_pick, kq_m__law_table, kq_m__law_factorial, kq_l__law_asked_b8, kq_l__law_asked_b12, kq_m__law_like, kq_m_followed, kq_m__law_chances, kq_m__law_taken, kq_m_pass_chance, kq_l__law_asked_b23, kq_l__law_asked_b27, kq_m__law_goal_holds]
theorem kq_m__law_asked : Z.L56.m__law_asked = m__law_asked gcdI bitLen := by unfold Z.L56.m__law_asked m__law_asked; simp only [kq_b__law_asked]
theorem kq_b_law : Z.L56.b_law = b_law gcdI bitLen := by unfold Z.L56.b_law b_law; simp only [kq_m__law_asked]
theorem kq_m_law : Z.L56.m_law = m_law gcdI bitLen := by unfold Z.L56.m_law m_law; simp only [kq_b_law]
end Z.L56.KV
set_option Elab.async false
set_option linter.all false
set_option maxRecDepth 100000
noncomputable section
namespace Z.L56
open PySem PySem.Spec L2
set_option maxHeartbeats 4000000
local macro_rules | `(tactic| array_get_dec) => `(tactic| first
  | with_reducible refine we_var ?_ | with_reducible refine we_con ?_ | with_reducible refine wa_cons ?_ | with_reducible refine wa_nil ?_
  | with_reducible refine we_bin ?_ | with_reducible refine we_un ?_ | with_reducible refine we_prim ?_
  | with_reducible refine sm_I0 ?_ | with_reducible refine sm_IB ?_ | with_reducible refine sm_eq ?_ | with_reducible refine sm_ne ?_ | with_reducible refine sm_not ?_ | with_reducible refine sm_U ?_
  | with_reducible refine sm_one ?_ | with_reducible refine sm_two ?_ | with_reducible refine sm_ixl ?_ | with_reducible refine sm_ixt ?_ | with_reducible refine sm_ixk ?_
  | with_reducible refine sm_II (by first | assumption | exact cNz_r (by omega) | exact cDiv_r (by omega) (by omega) | exact cMul_l (by omega) | exact cMul_r (by omega) | exact cMul_fm rfl | decide) ?_
  | with_reducible refine sm_tup (by first | decide | (simp only [List.length_cons, List.length_nil]; omega)) ?_ | with_reducible refine sm_lst (by first | decide | (simp only [List.length_cons, List.length_nil]; omega)) ?_
  | with_reducible refine sm_lenl ?_ | with_reducible refine sm_lent ?_ | with_reducible refine sm_lenk ?_
  | with_reducible refine sm_fld (by with_unfolding_all exact rfl) ?_ | with_reducible refine sm_atc (by with_unfolding_all exact rfl) ?_
  | with_reducible refine sm_isT (by with_unfolding_all exact rfl) ?_ | with_reducible refine sm_isF (by with_unfolding_all exact rfl) ?_ | with_reducible refine sm_nnT (by with_unfolding_all exact rfl) ?_ | with_reducible refine sm_nnF (by with_unfolding_all exact rfl) ?_
  | with_reducible refine setN_of ?_ | with_reducible refine lk_of ?_
  | with_reducible refine bl_of ?_ | with_reducible refine in_of ?_ | with_reducible refine lst_of ?_ | with_reducible refine tup_of ?_ | with_reducible refine ins_of ?_ | with_reducible refine non_of ?_
  | with_reducible refine is1_of ?_ | with_reducible refine is2_of ?_ | with_reducible refine is3_of ?_ | with_reducible refine two_of ?_
  | with_reducible refine ws_set ?_ | with_reducible refine ws_if ?_ | with_reducible refine ws_ret ?_ | with_reducible refine ws_retN ?_ | with_reducible refine ws_skip ?_
  | with_reducible refine ws_brk ?_ | with_reducible refine ws_cnt ?_ | with_reducible refine ws_drop ?_ | with_reducible refine ws_asg ?_ | with_reducible refine ws_app ?_ | with_reducible refine ws_ext ?_ | with_reducible refine ws_setix ?_
  | with_reducible refine ws_fset ?_ | with_reducible refine ws_par ?_ | with_reducible refine ws_aug ?_ | with_reducible refine ws_for ?_ | with_reducible refine ws_try ?_
  | with_reducible refine sm_gtN ?_ | with_reducible refine sm_gtT rfl ?_ | with_reducible refine sm_gtCons ?_ | with_reducible refine sm_gtNil ?_
  | with_reducible refine we_call ?_ | with_reducible refine we_callB ?_ | with_reducible refine we_meth ?_ | with_reducible refine we_make ?_ | with_reducible refine we_callK ?_ | with_reducible refine we_makeK ?_ | with_reducible refine we_makeL ?_
  | with_reducible refine we_fldN ?_ | with_reducible refine we_unN ?_ | with_reducible refine we_binN ?_ | with_reducible refine we_sl ?_ | with_reducible refine we_slN ?_ | with_reducible refine we_mov ?_ | with_reducible refine we_pop ?_
  | with_reducible refine we_if ?_ | with_reducible refine we_and ?_ | with_reducible refine we_or ?_ | with_reducible refine we_chain ?_ | with_reducible refine we_comp ?_
  | with_reducible refine wt_val ?_ | with_reducible refine wt_and ?_ | with_reducible refine wt_or ?_ | with_reducible refine wt_not ?_ | with_reducible refine wt_yes ?_
  | with_reducible refine wo_none ?_ | with_reducible refine wo_part ?_
  | with_reducible refine wa_itL ?_ | with_reducible refine wa_itT ?_ | with_reducible refine wa_seqD ?_ | with_reducible refine wa_r1 ?_ | with_reducible refine wa_r2 ?_ | with_reducible refine wa_r3 ?_
  | with_reducible refine br_t ?_ | with_reducible refine br_f ?_ | with_reducible refine br_n ?_ | with_reducible refine br_dt (by assumption) ?_ | with_reducible refine br_df (by assumption) ?_
  | with_reducible refine sm_put1 ?_ | with_reducible refine sm_put2 ?_ | with_reducible refine sm_put3 ?_ | with_reducible refine sm_ioI ?_ | with_reducible refine sm_pow (by decide) ?_
  | with_reducible refine we_opO ?_ | with_reducible refine ws_insr ?_ | with_reducible refine sm_tupRevL ?_ | with_reducible refine sm_tupRevK ?_ | with_reducible refine sm_seqL ?_ | with_reducible refine sm_seqK ?_ | with_reducible refine sm_seqT ?_
  | with_reducible refine or_new (by with_unfolding_all exact rfl) ?_
  | with_reducible refine sm_toL ?_ | with_reducible refine sm_toT ?_ | with_reducible refine sm_toK ?_ | with_reducible refine sm_loL ?_ | with_reducible refine sm_loT ?_ | with_reducible refine sm_loK ?_
  | with_reducible refine ws_raise ?_ | with_reducible refine ws_tryAs ?_ | with_reducible refine we_fldX (by with_unfolding_all exact rfl) ?_ | with_reducible refine wa_zip ?_ | with_reducible refine zp_ll ?_ | with_reducible refine zp_tt ?_ | with_reducible refine sm_lstRev ?_ | with_reducible refine we_isX (by with_unfolding_all exact rfl) ?_ | with_reducible refine we_callKM ?_ | with_reducible refine sm_catA (by simp) ?_)
local macro_rules | `(tactic| infer_instance) => `(tactic| first | array_get_dec | with_reducible refine ws_seq ?_)
/-- the feed: cells, place, count, rest -/
def Fd (f : D) : Prop := ∃ (cs : List Int) (p x c : Int), f = .lst [.lst (cs.map D.int), .int p, .int x, .int c]
theorem pick_w {QB : D → D → Prop} {E : Er} {f : D} (many : Int) (hf : Fd f) (h1 : 1 ≤ many) (h2 : many ≤ 1000000) (q : ∀ r f', Fd f' → 0 ≤ r → r < many → QB (.int r) f') : WB (m__law_pick [f, .int many]) QB E := by
  have fin : ∀ (cs : List Int) (i p x c : Int), QB (.int (Int.fmod i many)) (.lst [.lst (cs.map D.int), .int p, .int x, .int c]) := fun cs i p x c =>
    q _ _ ⟨cs, p, x, c, rfl⟩ (Int.fmod_nonneg_of_pos _ (by omega)) (Int.fmod_lt_of_pos _ (by omega))
  obtain ⟨cs, p, x, c, rfl⟩ := hf
  unfold m__law_pick
  refine wb_fn (by simp only [List.map_cons, List.map_nil, List.cons_append, List.nil_append, Nat.reduceSub, List.replicate_succ, List.replicate_zero]; rfl) ?_
  unfold b__law_pick
  repeat' first | exact fin .. | infer_instance | refine sm_at_mod (by assumption) fun _ => ?_ | refine br_d (fun _ => ?_) (fun _ => ?_)
end Z.L56
end
set_option Elab.async false
set_option linter.all false
set_option maxRecDepth 100000
noncomputable section
namespace Z.L56
open PySem PySem.Spec L2
set_option maxHeartbeats 4000000
local macro_rules | `(tactic| array_get_dec) => `(tactic| first
  | with_reducible refine we_var ?_ | with_reducible refine we_con ?_ | with_reducible refine wa_cons ?_ | with_reducible refine wa_nil ?_
  | with_reducible refine we_bin ?_ | with_reducible refine we_un ?_ | with_reducible refine we_prim ?_
  | with_reducible refine sm_I0 ?_ | with_reducible refine sm_IB ?_ | with_reducible refine sm_eq ?_ | with_reducible refine sm_ne ?_ | with_reducible refine sm_not ?_ | with_reducible refine sm_U ?_
  | with_reducible refine sm_one ?_ | with_reducible refine sm_two ?_ | with_reducible refine sm_ixl ?_ | with_reducible refine sm_ixt ?_ | with_reducible refine sm_ixk ?_
  | with_reducible refine sm_II (by first | assumption | exact cNz_r (by omega) | exact cDiv_r (by omega) (by omega) | exact cMul_l (by omega) | exact cMul_r (by omega) | exact cMul_fm rfl | decide) ?_
  | with_reducible refine sm_tup (by first | decide | (simp only [List.length_cons, List.length_nil]; omega)) ?_ | with_reducible refine sm_lst (by first | decide | (simp only [List.length_cons, List.length_nil]; omega)) ?_
  | with_reducible refine sm_lenl ?_ | with_reducible refine sm_lent ?_ | with_reducible refine sm_lenk ?_
  | with_reducible refine sm_fld (by with_unfolding_all exact rfl) ?_ | with_reducible refine sm_atc (by with_unfolding_all exact rfl) ?_
  | with_reducible refine sm_isT (by with_unfolding_all exact rfl) ?_ | with_reducible refine sm_isF (by with_unfolding_all exact rfl) ?_ | with_reducible refine sm_nnT (by with_unfolding_all exact rfl) ?_ | with_reducible refine sm_nnF (by with_unfolding_all exact rfl) ?_
  | with_reducible refine setN_of ?_ | with_reducible refine lk_of ?_
  | with_reducible refine bl_of ?_ | with_reducible refine in_of ?_ | with_reducible refine lst_of ?_ | with_reducible refine tup_of ?_ | with_reducible refine ins_of ?_ | with_reducible refine non_of ?_
  | with_reducible refine is1_of ?_ | with_reducible refine is2_of ?_ | with_reducible refine is3_of ?_ | with_reducible refine two_of ?_
  | with_reducible refine ws_set ?_ | with_reducible refine ws_if ?_ | with_reducible refine ws_ret ?_ | with_reducible refine ws_retN ?_ | with_reducible refine ws_skip ?_
  | with_reducible refine ws_brk ?_ | with_reducible refine ws_cnt ?_ | with_reducible refine ws_drop ?_ | with_reducible refine ws_asg ?_ | with_reducible refine ws_app ?_ | with_reducible refine ws_ext ?_ | with_reducible refine ws_setix ?_
  | with_reducible refine ws_fset ?_ | with_reducible refine ws_par ?_ | with_reducible refine ws_aug ?_ | with_reducible refine ws_for ?_ | with_reducible refine ws_try ?_
  | with_reducible refine sm_gtN ?_ | with_reducible refine sm_gtT rfl ?_ | with_reducible refine sm_gtCons ?_ | with_reducible refine sm_gtNil ?_
  | with_reducible refine we_call ?_ | with_reducible refine we_callB ?_ | with_reducible refine we_meth ?_ | with_reducible refine we_make ?_ | with_reducible refine we_callK ?_ | with_reducible refine we_makeK ?_ | with_reducible refine we_makeL ?_
  | with_reducible refine we_fldN ?_ | with_reducible refine we_unN ?_ | with_reducible refine we_binN ?_ | with_reducible refine we_sl ?_ | with_reducible refine we_slN ?_ | with_reducible refine we_mov ?_ | with_reducible refine we_pop ?_
  | with_reducible refine we_if ?_ | with_reducible refine we_and ?_ | with_reducible refine we_or ?_ | with_reducible refine we_chain ?_ | with_reducible refine we_comp ?_
  | with_reducible refine wt_val ?_ | with_reducible refine wt_and ?_ | with_reducible refine wt_or ?_ | with_reducible refine wt_not ?_ | with_reducible refine wt_yes ?_
  | with_reducible refine wo_none ?_ | with_reducible refine wo_part ?_
  | with_reducible refine wa_itL ?_ | with_reducible refine wa_itT ?_ | with_reducible refine wa_seqD ?_ | with_reducible refine wa_r1 ?_ | with_reducible refine wa_r2 ?_ | with_reducible refine wa_r3 ?_
  | with_reducible refine br_t ?_ | with_reducible refine br_f ?_ | with_reducible refine br_n ?_ | with_reducible refine br_dt (by assumption) ?_ | with_reducible refine br_df (by assumption) ?_
  | with_reducible refine sm_put1 ?_ | with_reducible refine sm_put2 ?_ | with_reducible refine sm_put3 ?_ | with_reducible refine sm_ioI ?_ | with_reducible refine sm_pow (by decide) ?_
  | with_reducible refine we_opO ?_ | with_reducible refine ws_insr ?_ | with_reducible refine sm_tupRevL ?_ | with_reducible refine sm_tupRevK ?_ | with_reducible refine sm_seqL ?_ | with_reducible refine sm_seqK ?_ | with_reducible refine sm_seqT ?_
  | with_reducible refine or_new (by with_unfolding_all exact rfl) ?_
  | with_reducible refine sm_toL ?_ | with_reducible refine sm_toT ?_ | with_reducible refine sm_toK ?_ | with_reducible refine sm_loL ?_ | with_reducible refine sm_loT ?_ | with_reducible refine sm_loK ?_
  | with_reducible refine ws_raise ?_ | with_reducible refine ws_tryAs ?_ | with_reducible refine we_fldX (by with_unfolding_all exact rfl) ?_ | with_reducible refine wa_zip ?_ | with_reducible refine zp_ll ?_ | with_reducible refine zp_tt ?_ | with_reducible refine sm_lstRev ?_ | with_reducible refine we_isX (by with_unfolding_all exact rfl) ?_ | with_reducible refine we_callKM ?_ | with_reducible refine sm_catA (by simp) ?_)
local macro_rules | `(tactic| infer_instance) => `(tactic| first | array_get_dec | with_reducible refine ws_seq ?_)
theorem cut_w {Q : D → Prop} {E : Er} (n d : Int) (hd : 0 < d) (hb : Bit 9000 d) (q : Q (prD (Rat.divInt n d))) : WR (m__law_cut [.int n, .int d]) Q E := by
  obtain ⟨L, eL, hL, l1, l2⟩ := bitLen_nat hd hb
  unfold m__law_cut
  refine wr_fn (by simp only [List.map_cons, List.map_nil, List.cons_append, List.nil_append, Nat.reduceSub, List.replicate_succ, List.replicate_zero]; rfl) ?_
  unfold b__law_cut
  repeat infer_instance
  rw [eL]
  refine ⟨by unfold Rng; omega, ?_⟩
  have ab : (if n < 0 then -n else n) = (n.natAbs : Int) := by split <;> omega
  refine wf_inv (fun i ρ => ∃ (a b : Int) (t : Option D), ρ = [some (.int n), some (.int d), some (.int a), some (.int b), t] ∧ EucI n d L i a b) ⟨_, _, _, by rw [ab], EucI.start hd⟩ ?_ ?_
  · rintro i _ ρ hi ⟨a, b, t, rfl, hE⟩
    obtain ⟨_, rfl⟩ := intsFrom_at hi
    unfold l__law_cut_b3
    repeat infer_instance
    refine br_d (fun hz => ?_) (fun hz => ?_)
    · subst hz
      repeat infer_instance
      have hg := hE.last
      obtain ⟨g0, gb⟩ := gcd_pb (n := n) hd hb
      rw [hg]
      repeat' first | infer_instance | refine sm_II (cDiv_bits g0 gb (by decide)) ?_
      unfold prD at q
      rw [fdiv_pos _ g0, fdiv_pos _ g0, low_num hd, low_den hd]
      exact q
    · repeat' first | infer_instance | refine sm_II (cNz_r hz) ?_
      exact ⟨_, _, _, rfl, hE.step hd l1 hz⟩
  · rintro ρ ⟨a, b, t, rfl, hE⟩
    rw [intsFrom_length] at hE
    have hz := hE.done (by omega)
    subst hz
    have hg := hE.last
    obtain ⟨g0, gb⟩ := gcd_pb (n := n) hd hb
    rw [hg]
    repeat' first | infer_instance | refine sm_II (cDiv_bits g0 gb (by decide)) ?_
    unfold prD at q
    rw [fdiv_pos _ g0, fdiv_pos _ g0, low_num hd, low_den hd]
    exact q
end Z.L56
end
set_option Elab.async false
set_option linter.all false
set_option maxRecDepth 100000
noncomputable section
namespace Z.L56
open PySem PySem.Spec L2
set_option maxHeartbeats 4000000
local macro_rules | `(tactic| array_get_dec) => `(tactic| first
  | with_reducible refine we_var ?_ | with_reducible refine we_con ?_ | with_reducible refine wa_cons ?_ | with_reducible refine wa_nil ?_
  | with_reducible refine we_bin ?_ | with_reducible refine we_un ?_ | with_reducible refine we_prim ?_
  | with_reducible refine sm_I0 ?_ | with_reducible refine sm_IB ?_ | with_reducible refine sm_eq ?_ | with_reducible refine sm_ne ?_ | with_reducible refine sm_not ?_ | with_reducible refine sm_U ?_
  | with_reducible refine sm_one ?_ | with_reducible refine sm_two ?_ | with_reducible refine sm_ixl ?_ | with_reducible refine sm_ixt ?_ | with_reducible refine sm_ixk ?_
  | with_reducible refine sm_II (by first | assumption | exact cNz_r (by omega) | exact cDiv_r (by omega) (by omega) | exact cMul_l (by omega) | exact cMul_r (by omega) | exact cMul_fm rfl | decide) ?_
  | with_reducible refine sm_tup (by first | decide | (simp only [List.length_cons, List.length_nil]; omega)) ?_ | with_reducible refine sm_lst (by first | decide | (simp only [List.length_cons, List.length_nil]; omega)) ?_
  | with_reducible refine sm_lenl ?_ | with_reducible refine sm_lent ?_ | with_reducible refine sm_lenk ?_
  | with_reducible refine sm_fld (by with_unfolding_all exact rfl) ?_ | with_reducible refine sm_atc (by with_unfolding_all exact rfl) ?_
  | with_reducible refine sm_isT (by with_unfolding_all exact rfl) ?_ | with_reducible refine sm_isF (by with_unfolding_all exact rfl) ?_ | with_reducible refine sm_nnT (by with_unfolding_all exact rfl) ?_ | with_reducible refine sm_nnF (by with_unfolding_all exact rfl) ?_
  | with_reducible refine setN_of ?_ | with_reducible refine lk_of ?_
  | with_reducible refine bl_of ?_ | with_reducible refine in_of ?_ | with_reducible refine lst_of ?_ | with_reducible refine tup_of ?_ | with_reducible refine ins_of ?_ | with_reducible refine non_of ?_
  | with_reducible refine is1_of ?_ | with_reducible refine is2_of ?_ | with_reducible refine is3_of ?_ | with_reducible refine two_of ?_
  | with_reducible refine ws_set ?_ | with_reducible refine ws_if ?_ | with_reducible refine ws_ret ?_ | with_reducible refine ws_retN ?_ | with_reducible refine ws_skip ?_
  | with_reducible refine ws_brk ?_ | with_reducible refine ws_cnt ?_ | with_reducible refine ws_drop ?_ | with_reducible refine ws_asg ?_ | with_reducible refine ws_app ?_ | with_reducible refine ws_ext ?_ | with_reducible refine ws_setix ?_
  | with_reducible refine ws_fset ?_ | with_reducible refine ws_par ?_ | with_reducible refine ws_aug ?_ | with_reducible refine ws_for ?_ | with_reducible refine ws_try ?_
  | with_reducible refine sm_gtN ?_ | with_reducible refine sm_gtT rfl ?_ | with_reducible refine sm_gtCons ?_ | with_reducible refine sm_gtNil ?_
  | with_reducible refine we_call ?_ | with_reducible refine we_callB ?_ | with_reducible refine we_meth ?_ | with_reducible refine we_make ?_ | with_reducible refine we_callK ?_ | with_reducible refine we_makeK ?_ | with_reducible refine we_makeL ?_
  | with_reducible refine we_fldN ?_ | with_reducible refine we_unN ?_ | with_reducible refine we_binN ?_ | with_reducible refine we_sl ?_ | with_reducible refine we_slN ?_ | with_reducible refine we_mov ?_ | with_reducible refine we_pop ?_
  | with_reducible refine we_if ?_ | with_reducible refine we_and ?_ | with_reducible refine we_or ?_ | with_reducible refine we_chain ?_ | with_reducible refine we_comp ?_
  | with_reducible refine wt_val ?_ | with_reducible refine wt_and ?_ | with_reducible refine wt_or ?_ | with_reducible refine wt_not ?_ | with_reducible refine wt_yes ?_
  | with_reducible refine wo_none ?_ | with_reducible refine wo_part ?_
  | with_reducible refine wa_itL ?_ | with_reducible refine wa_itT ?_ | with_reducible refine wa_seqD ?_ | with_reducible refine wa_r1 ?_ | with_reducible refine wa_r2 ?_ | with_reducible refine wa_r3 ?_
  | with_reducible refine br_t ?_ | with_reducible refine br_f ?_ | with_reducible refine br_n ?_ | with_reducible refine br_dt (by assumption) ?_ | with_reducible refine br_df (by assumption) ?_
  | with_reducible refine sm_put1 ?_ | with_reducible refine sm_put2 ?_ | with_reducible refine sm_put3 ?_ | with_reducible refine sm_ioI ?_ | with_reducible refine sm_pow (by decide) ?_
  | with_reducible refine we_opO ?_ | with_reducible refine ws_insr ?_ | with_reducible refine sm_tupRevL ?_ | with_reducible refine sm_tupRevK ?_ | with_reducible refine sm_seqL ?_ | with_reducible refine sm_seqK ?_ | with_reducible refine sm_seqT ?_
  | with_reducible refine or_new (by with_unfolding_all exact rfl) ?_
  | with_reducible refine sm_toL ?_ | with_reducible refine sm_toT ?_ | with_reducible refine sm_toK ?_ | with_reducible refine sm_loL ?_ | with_reducible refine sm_loT ?_ | with_reducible refine sm_loK ?_
  | with_reducible refine ws_raise ?_ | with_reducible refine ws_tryAs ?_ | with_reducible refine we_fldX (by with_unfolding_all exact rfl) ?_ | with_reducible refine wa_zip ?_ | with_reducible refine zp_ll ?_ | with_reducible refine zp_tt ?_ | with_reducible refine sm_lstRev ?_ | with_reducible refine we_isX (by with_unfolding_all exact rfl) ?_ | with_reducible refine we_callKM ?_ | with_reducible refine sm_catA (by simp) ?_)
local macro_rules | `(tactic| infer_instance) => `(tactic| first | array_get_dec | with_reducible refine ws_seq ?_)
section
variable {Q : D → Prop} {QB : D → D → Prop} {E : Er}
theorem int_w {i : Int} (q : Q (.bl true)) : WR (m_is_integer [.int i]) Q E := by
  unfold m_is_integer; refine wr_fn (by simp only [List.map_cons, List.map_nil, List.cons_append, List.nil_append, Nat.reduceSub, List.replicate_succ, List.replicate_zero]; rfl) ?_; unfold b_is_integer
  repeat infer_instance
  exact q
theorem init_w (n d : Int) (hd : 0 < d) (hb : Bit 9000 d) (q : QB .non (frD (Rat.divInt n d))) : WB (m_Frac___init__ [.ins 0 [], .int n, .int d]) QB E := by
  obtain ⟨g0, gb⟩ := gcd_pb (n := n) hd hb
  have h0 : ¬ d = 0 := by omega
  have h1 : ¬ d < 0 := by omega
  rw [frD, ← low_num hd, ← low_den hd, ← fdiv_pos _ g0, ← fdiv_pos _ g0] at q
  unfold m_Frac___init__; refine wb_fn (by simp only [List.map_cons, List.map_nil, List.cons_append, List.nil_append, Nat.reduceSub, List.replicate_succ, List.replicate_zero]; rfl) ?_; unfold b_Frac___init__
  repeat' first | infer_instance | refine int_w ?_ | refine sm_II (cDiv_bits g0 gb (by decide)) ?_
  exact q
theorem bits_sum {a : Nat} {p q : Rat} (hp : Sz a p) (hq : Sz a q) : Bit (a + a) (p.den * q.den) := hp.2.mul hq.2
theorem add_w {p q : Rat} (hp : Sz 4500 p) (hq : Sz 4500 q) (k : Q (frD (p + q))) : WR (m_Frac___add__ [frD p, frD q]) Q E := by
  have h1 := den_pos' p
  have h2 := den_pos' q
  unfold m_Frac___add__; refine wr_fn (by simp only [List.map_cons, List.map_nil, List.cons_append, List.nil_append, Nat.reduceSub, List.replicate_succ, List.replicate_zero]; rfl) ?_; unfold b_Frac___add__
  repeat' first | infer_instance | refine sm_II (cMul_bits hp.1 hq.2 (by decide) (by decide)) ?_ | refine sm_II (cMul_bits hq.1 hp.2 (by decide) (by decide)) ?_ | refine sm_II (cMul_bits hp.2 hq.2 (by decide) (by decide)) ?_ | refine init_w _ _ (Int.mul_pos h1 h2) (bits_sum hp hq) ?_
  rw [rat_add]
  exact k
theorem sub_w {p q : Rat} (hp : Sz 4500 p) (hq : Sz 4500 q) (k : Q (frD (p - q))) : WR (m_Frac___sub__ [frD p, frD q]) Q E := by
  have h1 := den_pos' p
  have h2 := den_pos' q
  unfold m_Frac___sub__; refine wr_fn (by simp only [List.map_cons, List.map_nil, List.cons_append, List.nil_append, Nat.reduceSub, List.replicate_succ, List.replicate_zero]; rfl) ?_; unfold b_Frac___sub__
  repeat' first | infer_instance | refine sm_II (cMul_bits hp.1 hq.2 (by decide) (by decide)) ?_ | refine sm_II (cMul_bits hq.1 hp.2 (by decide) (by decide)) ?_ | refine sm_II (cMul_bits hp.2 hq.2 (by decide) (by decide)) ?_ | refine init_w _ _ (Int.mul_pos h1 h2) (bits_sum hp hq) ?_
  rw [rat_sub]
  exact k
theorem mul_w {p q : Rat} (hp : Sz 4500 p) (hq : Sz 4500 q) (k : Q (frD (p * q))) : WR (m_Frac___mul__ [frD p, frD q]) Q E := by
  have h1 := den_pos' p
  have h2 := den_pos' q
  unfold m_Frac___mul__; refine wr_fn (by simp only [List.map_cons, List.map_nil, List.cons_append, List.nil_append, Nat.reduceSub, List.replicate_succ, List.replicate_zero]; rfl) ?_; unfold b_Frac___mul__
  repeat' first | infer_instance | refine sm_II (cMul_bits hp.1 hq.1 (by decide) (by decide)) ?_ | refine sm_II (cMul_bits hp.2 hq.2 (by decide) (by decide)) ?_ | refine init_w _ _ (Int.mul_pos h1 h2) (bits_sum hp hq) ?_
  rw [rat_mul]
  exact k
theorem below_w {p q : Rat} (hp : Sz 9000 p) (hq : Sz 9000 q) (k : Q (.bl (decide (p < q)))) : WR (m_Frac_is_below [frD p, frD q]) Q E := by
  rw [decide_eq_decide.mpr (Rat.lt_iff p q)] at k
  unfold m_Frac_is_below; refine wr_fn (by simp only [List.map_cons, List.map_nil, List.cons_append, List.nil_append, Nat.reduceSub, List.replicate_succ, List.replicate_zero]; rfl) ?_; unfold b_Frac_is_below
  repeat' first | infer_instance | refine sm_II (cMul_bits hp.1 hq.2 (by decide) (by decide)) ?_ | refine sm_II (cMul_bits hq.1 hp.2 (by decide) (by decide)) ?_
  exact k
end
end Z.L56
end
set_option Elab.async false
set_option linter.all false
set_option maxRecDepth 100000
noncomputable section
namespace Z.L56
open PySem PySem.Spec L2
/-! the numbers: sums of W / k -/
def fac : Nat → Int
  | 0 => 1
  | k + 1 => fac k * ((k : Int) + 1)
theorem fac_pos : ∀ k, 0 < fac k
  | 0 => by decide
  | k + 1 => by unfold fac; exact Int.mul_pos (fac_pos k) (by omega)
theorem fac_dvd : ∀ (n k : Nat), 1 ≤ k → k ≤ n → ((k : Nat) : Int) ∣ fac n
  | 0, k, h1, h2 => by omega
  | n + 1, k, h1, h2 => by
    unfold fac
    by_cases e : k = n + 1
    · subst e; exact Int.dvd_mul_left _ _
    · exact Int.dvd_trans (fac_dvd n k h1 (by omega)) (Int.dvd_mul_right _ _)
theorem fac_bit : ∀ (n : Nat), n ≤ 60 → Bit (1 + 6 * n) (fac n)
  | 0, _ => by unfold Bit; decide
  | n + 1, h => by
    have a := fac_bit n (by omega)
    have b : Bit 6 ((n : Int) + 1) := by unfold Bit; omega
    have c := a.mul b
    unfold fac
    rw [show 1 + 6 * (n + 1) = 1 + 6 * n + 6 by omega]
    exact c
/-- W / a + .. + W / (a + m - 1) -/
def Hs (W : Int) (a : Nat) : Nat → Int
  | 0 => 0
  | m + 1 => Hs W a m + W / ((a + m : Nat) : Int)
theorem Hs_front (W : Int) (a : Nat) : ∀ m, Hs W a (m + 1) = W / (a : Int) + Hs W (a + 1) m
  | 0 => by simp [Hs]
  | m + 1 => by
    rw [Hs, Hs_front W a m, Hs, show a + (m + 1) = a + 1 + m by omega]; omega
theorem Hs_nn {W : Int} (h : 0 ≤ W) (a : Nat) : ∀ m, 0 ≤ Hs W a m
  | 0 => Int.le_refl 0
  | m + 1 => by
    have := Hs_nn h a m
    have : 0 ≤ W / ((a + m : Nat) : Int) := Int.ediv_nonneg h (by omega)
    unfold Hs; omega
theorem Hs_le {W : Int} (h : 0 ≤ W) (a : Nat) (m : Nat) : Hs W a m ≤ m * W := by
  induction m with
  | zero => simp [Hs]
  | succ m ih =>
    have : W / ((a + m : Nat) : Int) ≤ W := Int.ediv_le_self _ h
    have e : ((m + 1 : Nat) : Int) * W = m * W + W := by rw [Int.natCast_add, Int.add_mul]; simp
    rw [Hs, e]; omega
/-- the tail sums go down -/
theorem Hs_tail {W : Int} (h : 0 ≤ W) {n a b : Nat} (hab : a ≤ b) (hb : b ≤ n) : Hs W b (n - b) ≤ Hs W a (n - a) := by
  induction b with
  | zero => have : a = 0 := by omega
            subst this; exact Int.le_refl _
  | succ b ih =>
    by_cases e : a = b + 1
    · subst e; exact Int.le_refl _
    · have z := ih (by omega) (by omega)
      have f := Hs_front W b (n - (b + 1))
      rw [show n - (b + 1) + 1 = n - b by omega] at f
      have : 0 ≤ W / (b : Int) := Int.ediv_nonneg h (by omega)
      omega
theorem Hs_Q {W : Int} (hW : 0 < W) (a : Nat) (ha : 1 ≤ a) : ∀ (m : Nat), (∀ i, i < m → ((a + i : Nat) : Int) ∣ W) → sumQ ((List.range m).map fun i => Rat.divInt 1 ((a + i : Nat) : Int)) = Rat.divInt (Hs W a m) W
  | 0, _ => by
    have e : (0 : Rat) = Rat.divInt 0 1 := (divInt_one 0).symm
    show (0 : Rat) = _
    rw [e]
    exact (divInt_eq (by decide) hW).mpr (by simp [Hs])
  | m + 1, h => by
    have ih := Hs_Q hW a ha m fun i hi => h i (by omega)
    have k0 : (0 : Int) < ((a + m : Nat) : Int) := by omega
    rw [List.range_succ, List.map_append, List.map_cons, List.map_nil, sumQ_snoc, ih]
    have e : Rat.divInt 1 ((a + m : Nat) : Int) = Rat.divInt (W / ((a + m : Nat) : Int)) W := (divInt_eq k0 hW).mpr (by rw [Int.one_mul, Int.ediv_mul_cancel (h m (by omega))])
    rw [e, Rat.divInt_add_divInt _ _ (by omega) (by omega), ← Int.add_mul, Rat.divInt_mul_right (by omega)]
    rfl
/-! n strangers, W = (n - 1)! -/
def ch (n : Nat) (W : Int) (r : Nat) : Int := if r = 0 then W else (r : Int) * Hs W r (n - r)
def IsL (n : Nat) (W : Int) (r : Nat) : Prop := 1 ≤ r ∧ r + 1 ≤ n ∧ Hs W (r + 1) (n - (r + 1)) ≤ W ∧ (r = 1 ∨ W < Hs W r (n - r))
theorem IsL.uniq {n : Nat} {W : Int} (h0 : 0 ≤ W) {r s : Nat} (a : IsL n W r) (b : IsL n W s) : r = s := by
  have key : ∀ {r s : Nat}, IsL n W r → IsL n W s → ¬ r < s := fun {r s} a b l => by
    obtain ⟨a1, a2, a3, _⟩ := a
    obtain ⟨b1, b2, b3, b4⟩ := b
    rcases b4 with z | z
    · omega
    · have t := Hs_tail h0 (n := n) (a := r + 1) (b := s) (by omega) (by omega)
      omega
  have := key a b
  have := key b a
  omega
theorem ch_step {n : Nat} {W : Int} {r : Nat} (h1 : 1 ≤ r) (h2 : r + 1 ≤ n) (hd : ((r : Nat) : Int) ∣ W) : ch n W (r + 1) - ch n W r = Hs W (r + 1) (n - (r + 1)) - W := by
  have f := Hs_front W r (n - (r + 1))
  rw [show n - (r + 1) + 1 = n - r by omega] at f
  have e := Int.mul_ediv_cancel' hd
  unfold ch
  rw [if_neg (by omega), if_neg (by omega), f, Int.mul_add, e, Int.natCast_add, Int.add_mul]
  simp
  omega
theorem ch_max {n : Nat} {W : Int} (h0 : 0 < W) (h3 : 3 ≤ n) (hd : ∀ k : Nat, 1 ≤ k → k + 1 ≤ n → (k : Int) ∣ W) {l : Nat} (hl : IsL n W l) : ∀ r, r < n → ch n W r ≤ ch n W l := by
  obtain ⟨l1, l2, l3, l4⟩ := hl
  have up : ∀ d, l + d < n → ch n W (l + d) ≤ ch n W l := by
    intro d
    induction d with
    | zero => intro _; exact Int.le_refl _
    | succ d ih =>
      intro h
      have s := ch_step (n := n) (W := W) (r := l + d) (by omega) (by omega) (hd _ (by omega) (by omega))
      have t := Hs_tail (Int.le_of_lt h0) (n := n) (a := l + 1) (b := l + d + 1) (by omega) (by omega)
      have := ih (by omega)
      rw [show l + (d + 1) = l + d + 1 by omega]
      omega
  have down : ∀ d, d + 1 ≤ l → ch n W (l - d) ≤ ch n W l := by
    intro d
    induction d with
    | zero => intro _; exact Int.le_refl _
    | succ d ih =>
      intro h
      have s := ch_step (n := n) (W := W) (r := l - (d + 1)) (by omega) (by omega) (hd _ (by omega) (by omega))
      rw [show l - (d + 1) + 1 = l - d by omega] at s
      have t := Hs_tail (Int.le_of_lt h0) (n := n) (a := l - d) (b := l) (by omega) (by omega)
      have := ih (by omega)
      rcases l4 with z | z
      · omega
      · omega
  intro r hr
  rcases Nat.lt_or_ge r l with z | z
  · by_cases e : r = 0
    · subst e
      have d := down (l - 1) (by omega)
      rw [show l - (l - 1) = 1 by omega] at d
      have f := Hs_front W 1 (n - 2)
      rw [show n - 2 + 1 = n - 1 by omega] at f
      have nn := Hs_nn (Int.le_of_lt h0) 2 (n - 2)
      have c1 : ch n W 1 = Hs W 1 (n - 1) := by unfold ch; rw [if_neg (by decide)]; simp
      have c0 : ch n W 0 = W := by unfold ch; rw [if_pos rfl]
      rw [c1, f] at d
      rw [c0]
      simp at d
      omega
    · have d := down (l - r) (by omega)
      rw [show l - (l - r) = r by omega] at d
      exact d
  · have d := up (r - l) (by omega)
    rw [show l + (r - l) = r by omega] at d
    exact d
/-! the numbers of a rule that is followed -/
theorem comb_b : ∀ a < 11, ∀ b < 11, 0 ≤ combI (a : Nat) (b : Nat) ∧ combI (a : Nat) (b : Nat) ≤ 252 ∧ (b ≤ a → 1 ≤ combI (a : Nat) (b : Nat)) := by decide +kernel
def rkW (n come seen rank : Nat) : Int := combI ((rank : Int) - 1) ((seen : Int) - 1) * combI ((n : Int) - (rank : Int)) ((come : Int) - (seen : Int))
def good (n come lim rank : Nat) : Int := ((List.range lim).map fun s => rkW n come (s + 1) rank).sum
theorem comb_at {a b : Int} (h0 : 0 ≤ a) (h1 : a ≤ 10) (h2 : 0 ≤ b) (h3 : b ≤ 10) : 0 ≤ combI a b ∧ combI a b ≤ 252 := by
  have z := comb_b a.toNat (by omega) b.toNat (by omega)
  rw [show ((a.toNat : Nat) : Int) = a by omega, show ((b.toNat : Nat) : Int) = b by omega] at z
  exact ⟨z.1, z.2.1⟩
theorem comb_pos {a b : Nat} (h1 : a ≤ 10) (h2 : b ≤ a) : 1 ≤ combI (a : Int) (b : Int) := (comb_b a (by omega) b (by omega)).2.2 h2
theorem rkW_b {n come seen rank : Nat} (hn : n ≤ 10) (h1 : 1 ≤ rank) (h2 : rank ≤ n) (h3 : 1 ≤ seen) (h4 : seen ≤ come) (h5 : come ≤ n) : 0 ≤ rkW n come seen rank ∧ rkW n come seen rank ≤ 63504 := by
  have a := comb_at (a := (rank : Int) - 1) (b := (seen : Int) - 1) (by omega) (by omega) (by omega) (by omega)
  have b := comb_at (a := (n : Int) - (rank : Int)) (b := (come : Int) - (seen : Int)) (by omega) (by omega) (by omega) (by omega)
  unfold rkW
  refine ⟨Int.mul_nonneg a.1 b.1, ?_⟩
  have z := Int.mul_le_mul a.2 b.2 b.1 (by decide)
  omega
theorem sum_le {α : Type} {f : α → Int} {B : Int} : ∀ (as : List α), (∀ a ∈ as, 0 ≤ f a ∧ f a ≤ B) → 0 ≤ (as.map f).sum ∧ (as.map f).sum ≤ as.length * B
  | [], _ => by simp
  | a :: as, h => by
    have z := sum_le as fun b hb => h b (List.mem_cons_of_mem _ hb)
    have y := h a List.mem_cons_self
    have e : ((as.length + 1 : Nat) : Int) * B = as.length * B + B := by rw [Int.natCast_add, Int.add_mul]; simp
    simp only [List.map_cons, List.sum_cons, List.length_cons]
    rw [e]; omega
theorem good_b {n come lim rank : Nat} (hn : n ≤ 10) (h1 : 1 ≤ rank) (h2 : rank ≤ n) (h4 : lim ≤ come) (h5 : come ≤ n) : Bit 20 (good n come lim rank) := by
  have z := sum_le (f := fun s => rkW n come (s + 1) rank) (B := 63504) (List.range lim) fun s hs => by
    have := List.mem_range.mp hs
    exact rkW_b hn h1 h2 (by omega) (by omega) h5
  rw [List.length_range] at z
  unfold Bit good
  have : (lim : Int) * 63504 ≤ 10 * 63504 := Int.mul_le_mul_of_nonneg_right (by omega) (by decide)
  omega
def partQ (r : Rat) (n come : Nat) : Rat := r * Rat.divInt 1 ((come : Int) * combI (n : Int) (come : Int))
def setQ (n come lim : Nat) (p : Rat) (c : List Rat) (r : Nat) : List Rat := c.set r (c.getD r 0 + p * ((good n come lim (r + 1) : Int) : Rat))
def inQ (n come lim : Nat) (p : Rat) (c : List Rat) (k : Nat) : List Rat := (List.range k).foldl (setQ n come lim p) c
theorem inQ_succ {n come lim : Nat} {p : Rat} {c : List Rat} {k : Nat} : inQ n come lim p c (k + 1) = setQ n come lim p (inQ n come lim p c k) k := by
  unfold inQ
  rw [List.range_succ, List.foldl_append]; rfl
def folS (n : Nat) (s : List Rat × Rat) (p : Nat × Nat) : List Rat × Rat := (inQ n (p.2 + 1) p.1 (partQ s.2 n (p.2 + 1)) s.1 n, s.2 * Rat.divInt (((p.2 : Int) + 1) - (p.1 : Int)) ((p.2 : Int) + 1))
def folK (n : Nat) (lims : List Nat) (k : Nat) : List Rat × Rat := (lims.zipIdx.take k).foldl (folS n) (List.replicate n 0, 1)
def folQ (n : Nat) (lims : List Nat) : List Rat := (folK n lims lims.length).1
theorem folK_succ {n k l : Nat} {lims : List Nat} (h : lims[k]? = some l) : folK n lims (k + 1) = folS n (folK n lims k) (l, k) := by
  have e : lims.zipIdx[k]? = some (l, k) := by rw [List.getElem?_zipIdx, h]; simp
  unfold folK
  rw [List.take_succ, e, List.foldl_append]; rfl
/-- sizes -/
structure InK (n k r : Nat) (c : List Rat) : Prop where
  len : c.length = n
  lo : ∀ j q, c[j]? = some q → j < r → FB (1 + 54 * (k + 1)) (63 + (k + 1)) q
  hi : ∀ j q, c[j]? = some q → r ≤ j → FB (1 + 54 * k) (63 + k) q
theorem InK.set {n k r : Nat} {c : List Rat} {x : Rat} (h : InK n k r c) (hx : FB 54 62 x) (hr : r < n) : InK n k (r + 1) (c.set r (c.getD r 0 + x)) := by
  have hl : r < c.length := by rw [h.len]; exact hr
  have e : c[r]? = some c[r] := List.getElem?_eq_getElem hl
  have g : c.getD r 0 = c[r] := by rw [List.getD_eq_getElem?_getD, e]; rfl
  refine ⟨by rw [List.length_set, h.len], fun j q hj hjr => ?_, fun j q hj hjr => ?_⟩
  · by_cases z : j = r
    · subst z
      rw [List.getElem?_set_self hl] at hj
      cases hj
      rw [g]
      have a := (h.hi j _ e (Nat.le_refl _)).add hx
      refine a.mono (by omega) ?_
      have : max (63 + k) 62 = 63 + k := by omega
      omega
    · rw [List.getElem?_set_ne (Ne.symm z)] at hj
      exact h.lo j q hj (by omega)
  · rw [List.getElem?_set_ne (by omega)] at hj
    exact h.hi j q hj (by omega)
theorem InK.next {n k : Nat} {c : List Rat} (h : InK n k n c) : InK n (k + 1) 0 c := ⟨h.len, fun j q hj hjr => by omega, fun j q hj hjr => h.lo j q hj (by have := (List.getElem?_eq_some_iff.mp hj).1; rw [h.len] at this; exact this)⟩
theorem InK.start {n : Nat} : InK n 0 0 (List.replicate n 0) := ⟨by simp, fun j q hj hjr => by omega, fun j q hj hjr => by
  rw [List.getElem?_replicate] at hj
  split at hj
  · cases hj
    exact (FB.int (n := 0) (b := 1) (by unfold Bit; decide)).mono (by omega) (by omega)
  · cases hj⟩
/-- how many ranks are taken at a place -/
def low (n : Nat) (r : Int) (p : Nat) : Nat := if (p : Int) + 1 < r ∨ p + 1 = n then p + 1 else r.toNat
def lows (n : Nat) (rule : List Int) : List Nat := (List.range n).map fun p => low n (rule.getD p 0) p
theorem low_le {n : Nat} {r : Int} {p : Nat} : low n r p < p + 2 := by unfold low; split <;> omega
/-- the law's own counts -/
def tkS (t : List (List (List Int))) (n : Nat) (ls : List Nat) (s : List Int × Int) (p : Nat) : List Int × Int :=
  (((t.getD p []).take (ls.getD p 0)).foldl (fun f c => (List.range n).map fun k => f.getD k 0 + s.2 * c.getD k 0) s.1, s.2 * ((p : Int) + 1 - (ls.getD p 0 : Nat)))
def tkK (t : List (List (List Int))) (n : Nat) (ls : List Nat) (k : Nat) : List Int × Int := (List.range k).foldl (tkS t n ls) (List.replicate n 0, 1)
def takenI (t : List (List (List Int))) (n : Nat) (ls : List Nat) : List Int := (tkK t n ls n).1
theorem tkK_succ {t : List (List (List Int))} {n k : Nat} {ls : List Nat} : tkK t n ls (k + 1) = tkS t n ls (tkK t n ls k) k := by
  unfold tkK
  rw [List.range_succ, List.foldl_append]; rfl
def wayS (n later : Nat) (c : List Int) : List Int := (List.range n).map fun k => (if k + 1 < later then c.getD k 0 * ((later : Int) - k - 1) else 0) + (if 1 ≤ k ∧ k < later then c.getD (k - 1) 0 * (k : Int) else 0)
def waysI (n place rank : Nat) : List Int := (List.range (n - place)).foldl (fun c i => wayS n (place + 1 + i) c) ((List.range n).map fun k => if k + 1 = rank then 1 else 0)
def tabI (n : Nat) : List (List (List Int)) := (List.range n).map fun p => (List.range (p + 1)).map fun r => waysI n (p + 1) (r + 1)
def rulI (n : Nat) : List (List Int) := ((List.range (n - 1)).foldl (fun rs p => rs.flatMap fun r => (List.range (p + 2)).map fun (k : Nat) => r ++ [(k : Int)]) [[]]).map fun r => r ++ [(n : Int)]
def facI : Nat → Int
  | 0 => 1
  | k + 1 => facI k * ((k : Int) + 1)

theorem tab_b : ∀ n < 11, ∀ row ∈ tabI n, ∀ c ∈ row, c.length = n ∧ ∀ x ∈ c, x.natAbs < 2 ^ 30 := by decide +kernel
theorem tab_len : ∀ n < 11, (tabI n).length = n ∧ ∀ p < n, ((tabI n).getD p []).length = p + 1 := by decide +kernel
theorem way_eq : ∀ n < 11, ∀ k < n, ∀ s < k + 1, ∀ r < n, (waysI n (k + 1) (s + 1)).getD r 0 = facI (n - (k + 1)) * rkW n (k + 1) (s + 1) (r + 1) := by decide +kernel
theorem fac_eq : ∀ n < 11, ∀ k < n, facI (n - (k + 1)) * facI k * (((k + 1 : Nat) : Int) * combI (n : Int) ((k + 1 : Nat) : Int)) = facI n := by decide +kernel
theorem facI_fac : ∀ k, facI k = fac k
  | 0 => rfl
  | k + 1 => by unfold facI fac; rw [facI_fac k]
theorem facI_pos (k : Nat) : 0 < facI k := by rw [facI_fac]; exact fac_pos k
def tkC (n : Nat) (m : Int) (f c : List Int) : List Int := (List.range n).map fun k => f.getD k 0 + m * c.getD k 0
theorem tkC_len {n : Nat} {m : Int} {f c : List Int} : (tkC n m f c).length = n := by unfold tkC; simp
theorem tkC_at {n : Nat} {m : Int} {f c : List Int} {r : Nat} (hr : r < n) : (tkC n m f c).getD r 0 = f.getD r 0 + m * c.getD r 0 := by
  unfold tkC
  rw [List.getD_eq_getElem?_getD, List.getElem?_map, List.getElem?_range hr]; rfl
theorem tkF_at {n : Nat} {m : Int} {r : Nat} (hr : r < n) : ∀ (cs : List (List Int)) (f : List Int), (cs.foldl (fun g c => tkC n m g c) f).getD r 0 = f.getD r 0 + m * (cs.map fun c => c.getD r 0).sum
  | [], f => by simp
  | c :: cs, f => by
    rw [List.foldl_cons, tkF_at hr cs, tkC_at hr, List.map_cons, List.sum_cons, Int.mul_add]; omega
theorem tkF_len {n : Nat} {m : Int} : ∀ (cs : List (List Int)) (f : List Int), f.length = n → (cs.foldl (fun g c => tkC n m g c) f).length = n
  | [], f, h => h
  | c :: cs, f, h => by rw [List.foldl_cons]; exact tkF_len cs _ tkC_len
theorem inQ_len {n come lim : Nat} {p : Rat} {c : List Rat} : ∀ k, (inQ n come lim p c k).length = c.length
  | 0 => rfl
  | k + 1 => by rw [inQ_succ]; unfold setQ; rw [List.length_set, inQ_len k]
theorem inQ_at {n come lim : Nat} {p : Rat} {c : List Rat} {r : Nat} (hr : r < c.length) : ∀ k, (inQ n come lim p c k).getD r 0 = if r < k then c.getD r 0 + p * ((good n come lim (r + 1) : Int) : Rat) else c.getD r 0
  | 0 => by simp [inQ]
  | k + 1 => by
    have ih := inQ_at (n := n) (come := come) (lim := lim) (p := p) hr k
    rw [inQ_succ]
    unfold setQ
    by_cases e : r = k
    · subst e
      rw [if_neg (by omega)] at ih
      rw [if_pos (by omega), List.getD_eq_getElem?_getD, List.getElem?_set_self (by rw [inQ_len]; exact hr), Option.getD_some, ih]
    · rw [List.getD_eq_getElem?_getD, List.getElem?_set_ne (Ne.symm e), ← List.getD_eq_getElem?_getD, ih]
      by_cases z : r < k
      · rw [if_pos z, if_pos (by omega)]
      · rw [if_neg z, if_neg (by omega)]
theorem sum_mul {α : Type} {f : α → Int} {a : Int} : ∀ (as : List α), (as.map fun x => a * f x).sum = a * (as.map f).sum
  | [] => by simp
  | x :: as => by simp only [List.map_cons, List.sum_cons, sum_mul as, Int.mul_add]
theorem fol_taken {n : Nat} {ls : List Nat} (h1 : 1 ≤ n) (hn : n ≤ 10) (hl : ls.length = n) (hb : ∀ p, p < n → ls.getD p 0 ≤ p + 1) : ∀ k, k ≤ n → (tkK (tabI n) n ls k).1.length = n ∧ (folK n ls k).1 = (tkK (tabI n) n ls k).1.map (fun c => Rat.divInt c (facI n)) ∧ (folK n ls k).2 = Rat.divInt (tkK (tabI n) n ls k).2 (facI k)
  | 0, _ => by
    refine ⟨by simp [tkK], ?_, ?_⟩
    · have e : Rat.divInt 0 (facI n) = 0 := by rw [Rat.divInt_eq_div]; grind
      simp [folK, tkK, List.map_replicate, e]
    · show (1 : Rat) = Rat.divInt 1 1
      rw [divInt_one]; rfl
  | k + 1, hk => by
    obtain ⟨i1, i2, i3⟩ := fol_taken h1 hn hl hb k (by omega)
    have hkl : ls[k]? = some (ls.getD k 0) := by rw [List.getD_eq_getElem?_getD, List.getElem?_eq_getElem (by omega)]; rfl
    rw [folK_succ hkl, tkK_succ]
    have hlk := hb k (by omega)
    generalize ls.getD k 0 = l at *
    have el : ls.getD k 0 = l := by rw [List.getD_eq_getElem?_getD, hkl]; rfl
    generalize tkK (tabI n) n ls k = t at *
    generalize folK n ls k = s at *
    obtain ⟨f, m⟩ := t
    obtain ⟨cs, rq⟩ := s
    dsimp only at i1 i2 i3
    subst i2 i3
    have hrow : ((tabI n).getD k []).take l = (List.range l).map fun s => waysI n (k + 1) (s + 1) := by
      have e : (tabI n)[k]? = some ((List.range (k + 1)).map fun r => waysI n (k + 1) (r + 1)) := by
        unfold tabI
        rw [List.getElem?_map, List.getElem?_range (by omega)]; rfl
      rw [List.getD_eq_getElem?_getD, e, Option.getD_some, ← List.map_take, List.take_range, Nat.min_eq_left hlk]
    have est : tkS (tabI n) n ls (f, m) k = (((List.range l).map fun s => waysI n (k + 1) (s + 1)).foldl (fun g c => tkC n m g c) f, m * ((k : Int) + 1 - (l : Nat))) := by
      unfold tkS
      rw [el, hrow]; rfl
    rw [est]
    have L := tkF_len (n := n) (m := m) ((List.range l).map fun s => waysI n (k + 1) (s + 1)) f i1
    refine ⟨L, ?_, ?_⟩
    · show inQ n (k + 1) l (partQ (Rat.divInt m (facI k)) n (k + 1)) (f.map fun c => Rat.divInt c (facI n)) n = _
      refine List.ext_getElem? fun r => ?_
      by_cases hr : r < n
      · have e1 : (inQ n (k + 1) l (partQ (Rat.divInt m (facI k)) n (k + 1)) (f.map fun c => Rat.divInt c (facI n)) n)[r]? = some ((inQ n (k + 1) l (partQ (Rat.divInt m (facI k)) n (k + 1)) (f.map fun c => Rat.divInt c (facI n)) n).getD r 0) := by
          rw [List.getD_eq_getElem?_getD, List.getElem?_eq_getElem (by rw [inQ_len, List.length_map]; omega)]; rfl
        have e2 : (((List.range l).map fun s => waysI n (k + 1) (s + 1)).foldl (fun g c => tkC n m g c) f)[r]? = some ((((List.range l).map fun s => waysI n (k + 1) (s + 1)).foldl (fun g c => tkC n m g c) f).getD r 0) := by
          rw [List.getD_eq_getElem?_getD, List.getElem?_eq_getElem (by omega)]; rfl
        rw [e1, List.getElem?_map, e2, Option.map_some, inQ_at (by rw [List.length_map]; omega), if_pos hr, tkF_at hr]
        have e3 : (((List.range l).map fun s => waysI n (k + 1) (s + 1)).map fun c => c.getD r 0).sum = facI (n - (k + 1)) * good n (k + 1) l (r + 1) := by
          unfold good
          rw [← sum_mul, List.map_map]
          congr 1
          refine List.map_congr_left fun s hs => ?_
          have := List.mem_range.mp hs
          exact way_eq n (by omega) k (by omega) s (by omega) r hr
        rw [e3]
        have e4 : (f.map fun c => Rat.divInt c (facI n)).getD r 0 = Rat.divInt (f.getD r 0) (facI n) := by
          rw [List.getD_eq_getElem?_getD, List.getD_eq_getElem?_getD, List.getElem?_map, List.getElem?_eq_getElem (by omega)]; rfl
        rw [e4]
        have F := fac_eq n (by omega) k (by omega)
        have p1 := cast_pos (facI_pos n)
        have p2 := cast_pos (facI_pos k)
        have p3 := cast_pos (facI_pos (n - (k + 1)))
        have cp := comb_pos (a := n) (b := k + 1) (by omega) (by omega)
        have p4 : (0 : Rat) < ((((k + 1 : Nat) : Int) * combI (n : Int) ((k + 1 : Nat) : Int) : Int) : Rat) := cast_pos (Int.mul_pos (by omega) (by omega))
        unfold partQ
        generalize ((k + 1 : Nat) : Int) * combI (n : Int) ((k + 1 : Nat) : Int) = w at *
        generalize good n (k + 1) l (r + 1) = g
        generalize f.getD r 0 = x
        simp only [Rat.divInt_eq_div, Rat.intCast_add, Rat.intCast_mul]
        have F' : (facI (n - (k + 1)) : Rat) * (facI k : Rat) * (w : Rat) = (facI n : Rat) := by exact_mod_cast F
        congr 1
        rw [← F']
        grind
      · rw [List.getElem?_eq_none (by rw [inQ_len, List.length_map]; omega), List.getElem?_eq_none (by rw [List.length_map]; exact Nat.le_trans (Nat.le_of_eq L) (by omega))]
    · show Rat.divInt m (facI k) * Rat.divInt ((k : Int) + 1 - (l : Int)) ((k : Int) + 1) = Rat.divInt (m * ((k : Int) + 1 - (l : Nat))) (facI (k + 1))
      rw [Rat.divInt_mul_divInt]; rfl
theorem fol_eq {n : Nat} {ls : List Nat} (h1 : 1 ≤ n) (hn : n ≤ 10) (hl : ls.length = n) (hb : ∀ p, p < n → ls.getD p 0 ≤ p + 1) : folQ n ls = (takenI (tabI n) n ls).map fun c => Rat.divInt c (facI n) := by
  have z := (fol_taken h1 hn hl hb n (Nat.le_refl _)).2.1
  unfold folQ takenI
  rw [hl]; exact z
theorem taken_len {n : Nat} {ls : List Nat} (h1 : 1 ≤ n) (hn : n ≤ 10) (hl : ls.length = n) (hb : ∀ p, p < n → ls.getD p 0 ≤ p + 1) : (takenI (tabI n) n ls).length = n := (fol_taken h1 hn hl hb n (Nat.le_refl _)).1
end Z.L56
end
set_option Elab.async false
set_option linter.all false
set_option maxRecDepth 100000
noncomputable section
namespace Z.L56
open PySem PySem.Spec L2
set_option maxHeartbeats 4000000
local macro_rules | `(tactic| array_get_dec) => `(tactic| first
  | with_reducible refine we_var ?_ | with_reducible refine we_con ?_ | with_reducible refine wa_cons ?_ | with_reducible refine wa_nil ?_
  | with_reducible refine we_bin ?_ | with_reducible refine we_un ?_ | with_reducible refine we_prim ?_
  | with_reducible refine sm_I0 ?_ | with_reducible refine sm_IB ?_ | with_reducible refine sm_eq ?_ | with_reducible refine sm_ne ?_ | with_reducible refine sm_not ?_ | with_reducible refine sm_U ?_
  | with_reducible refine sm_one ?_ | with_reducible refine sm_two ?_ | with_reducible refine sm_ixl ?_ | with_reducible refine sm_ixt ?_ | with_reducible refine sm_ixk ?_
  | with_reducible refine sm_II (by first | assumption | exact cNz_r (by omega) | exact cDiv_r (by omega) (by omega) | exact cMul_l (by omega) | exact cMul_r (by omega) | exact cMul_fm rfl | decide) ?_
  | with_reducible refine sm_tup (by first | decide | (simp only [List.length_cons, List.length_nil]; omega)) ?_ | with_reducible refine sm_lst (by first | decide | (simp only [List.length_cons, List.length_nil]; omega)) ?_
  | with_reducible refine sm_lenl ?_ | with_reducible refine sm_lent ?_ | with_reducible refine sm_lenk ?_
  | with_reducible refine sm_fld (by with_unfolding_all exact rfl) ?_ | with_reducible refine sm_atc (by with_unfolding_all exact rfl) ?_
  | with_reducible refine sm_isT (by with_unfolding_all exact rfl) ?_ | with_reducible refine sm_isF (by with_unfolding_all exact rfl) ?_ | with_reducible refine sm_nnT (by with_unfolding_all exact rfl) ?_ | with_reducible refine sm_nnF (by with_unfolding_all exact rfl) ?_
  | with_reducible refine setN_of ?_ | with_reducible refine lk_of ?_
  | with_reducible refine bl_of ?_ | with_reducible refine in_of ?_ | with_reducible refine lst_of ?_ | with_reducible refine tup_of ?_ | with_reducible refine ins_of ?_ | with_reducible refine non_of ?_
  | with_reducible refine is1_of ?_ | with_reducible refine is2_of ?_ | with_reducible refine is3_of ?_ | with_reducible refine two_of ?_
  | with_reducible refine ws_set ?_ | with_reducible refine ws_if ?_ | with_reducible refine ws_ret ?_ | with_reducible refine ws_retN ?_ | with_reducible refine ws_skip ?_
  | with_reducible refine ws_brk ?_ | with_reducible refine ws_cnt ?_ | with_reducible refine ws_drop ?_ | with_reducible refine ws_asg ?_ | with_reducible refine ws_app ?_ | with_reducible refine ws_ext ?_ | with_reducible refine ws_setix ?_
  | with_reducible refine ws_fset ?_ | with_reducible refine ws_par ?_ | with_reducible refine ws_aug ?_ | with_reducible refine ws_for ?_ | with_reducible refine ws_try ?_
  | with_reducible refine sm_gtN ?_ | with_reducible refine sm_gtT rfl ?_ | with_reducible refine sm_gtCons ?_ | with_reducible refine sm_gtNil ?_
  | with_reducible refine we_call ?_ | with_reducible refine we_callB ?_ | with_reducible refine we_meth ?_ | with_reducible refine we_make ?_ | with_reducible refine we_callK ?_ | with_reducible refine we_makeK ?_ | with_reducible refine we_makeL ?_
  | with_reducible refine we_fldN ?_ | with_reducible refine we_unN ?_ | with_reducible refine we_binN ?_ | with_reducible refine we_sl ?_ | with_reducible refine we_slN ?_ | with_reducible refine we_mov ?_ | with_reducible refine we_pop ?_
  | with_reducible refine we_if ?_ | with_reducible refine we_and ?_ | with_reducible refine we_or ?_ | with_reducible refine we_chain ?_ | with_reducible refine we_comp ?_
  | with_reducible refine wt_val ?_ | with_reducible refine wt_and ?_ | with_reducible refine wt_or ?_ | with_reducible refine wt_not ?_ | with_reducible refine wt_yes ?_
  | with_reducible refine wo_none ?_ | with_reducible refine wo_part ?_
  | with_reducible refine wa_itL ?_ | with_reducible refine wa_itT ?_ | with_reducible refine wa_seqD ?_ | with_reducible refine wa_r1 ?_ | with_reducible refine wa_r2 ?_ | with_reducible refine wa_r3 ?_
  | with_reducible refine br_t ?_ | with_reducible refine br_f ?_ | with_reducible refine br_n ?_ | with_reducible refine br_dt (by assumption) ?_ | with_reducible refine br_df (by assumption) ?_
  | with_reducible refine sm_put1 ?_ | with_reducible refine sm_put2 ?_ | with_reducible refine sm_put3 ?_ | with_reducible refine sm_ioI ?_ | with_reducible refine sm_pow (by decide) ?_
  | with_reducible refine we_opO ?_ | with_reducible refine ws_insr ?_ | with_reducible refine sm_tupRevL ?_ | with_reducible refine sm_tupRevK ?_ | with_reducible refine sm_seqL ?_ | with_reducible refine sm_seqK ?_ | with_reducible refine sm_seqT ?_
  | with_reducible refine or_new (by with_unfolding_all exact rfl) ?_
  | with_reducible refine sm_toL ?_ | with_reducible refine sm_toT ?_ | with_reducible refine sm_toK ?_ | with_reducible refine sm_loL ?_ | with_reducible refine sm_loT ?_ | with_reducible refine sm_loK ?_
  | with_reducible refine ws_raise ?_ | with_reducible refine ws_tryAs ?_ | with_reducible refine we_fldX (by with_unfolding_all exact rfl) ?_ | with_reducible refine wa_zip ?_ | with_reducible refine zp_ll ?_ | with_reducible refine zp_tt ?_ | with_reducible refine sm_lstRev ?_ | with_reducible refine we_isX (by with_unfolding_all exact rfl) ?_ | with_reducible refine we_callKM ?_ | with_reducible refine sm_catA (by simp) ?_)
local macro_rules | `(tactic| infer_instance) => `(tactic| first | array_get_dec | with_reducible refine ws_seq ?_)
section
variable {Q : D → Prop} {QB : D → D → Prop} {E : Er}
theorem between_w {v lo hi : Int} (k : Q (.bl (decide (lo ≤ v) && decide (v ≤ hi)))) : WR (m_is_between [.int v, .int lo, .int hi]) Q E := by
  unfold m_is_between
  refine wr_fn (by simp only [List.map_cons, List.map_nil, List.cons_append, List.nil_append, Nat.reduceSub, List.replicate_succ, List.replicate_zero]; rfl) ?_
  unfold b_is_between
  repeat infer_instance
  refine int_w ?_
  repeat infer_instance
  refine br_d (fun c => ?_) (fun c => ?_)
  · rw [decide_eq_true c, Bool.true_and] at k
    repeat infer_instance
    exact k
  · rw [decide_eq_false c, Bool.false_and] at k
    exact k
theorem check_w {n : Nat} (h1 : 1 ≤ n) (hn : n ≤ 60) (k : Q .non) : WR (m_check_number [.int (n : Int)]) Q E := by
  unfold m_check_number
  refine wr_fn (by simp only [List.map_cons, List.map_nil, List.cons_append, List.nil_append, Nat.reduceSub, List.replicate_succ, List.replicate_zero]; rfl) ?_
  unfold b_check_number
  repeat infer_instance
  refine between_w ?_
  rw [decide_eq_true (show (1 : Int) ≤ n by omega), decide_eq_true (show (n : Int) ≤ 60 by omega), Bool.and_self]
  repeat infer_instance
  exact k
theorem rank_w {n come seen rank : Nat} (hn : n ≤ 10) (h1 : 1 ≤ rank) (h2 : rank ≤ n) (h3 : 1 ≤ seen) (h4 : seen ≤ come) (h5 : come ≤ n) (k : Q (.int (rkW n come seen rank))) : WR (m_rank_weight [.int (n : Int), .int (come : Int), .int (seen : Int), .int (rank : Int)]) Q E := by
  have a := comb_at (a := (rank : Int) - 1) (b := (seen : Int) - 1) (by omega) (by omega) (by omega) (by omega)
  have b := comb_at (a := (n : Int) - (rank : Int)) (b := (come : Int) - (seen : Int)) (by omega) (by omega) (by omega) (by omega)
  have c1 : cComb ((rank : Int) - 1) ((seen : Int) - 1) = true := by unfold cComb; simp only [Bool.and_eq_true, decide_eq_true_eq]; omega
  have c2 : cComb ((n : Int) - (rank : Int)) ((come : Int) - (seen : Int)) = true := by unfold cComb; simp only [Bool.and_eq_true, decide_eq_true_eq]; omega
  unfold m_rank_weight
  refine wr_fn (by simp only [List.map_cons, List.map_nil, List.cons_append, List.nil_append, Nat.reduceSub, List.replicate_succ, List.replicate_zero]; rfl) ?_
  unfold b_rank_weight
  repeat' first | infer_instance | refine sm_II (cMul_bits (a := 10) (b := 10) (by unfold Bit; omega) (by unfold Bit; omega) (by decide) (by decide)) ?_
  exact k
theorem limits_w {n : Nat} {rule : List Int} {rD : D} (hR : rD = .lst (rule.map D.int) ∨ rD = .tup (rule.map D.int)) (hn : n ≤ 60) (hl : rule.length = n) (h0 : ∀ r ∈ rule, 0 ≤ r) (h1 : 1 ≤ n) (k : Q (.lst ((lows n rule).map fun (l : Nat) => .int (l : Int)))) : WR (m_limits_of [.int (n : Int), rD]) Q E := by
  rcases hR with rfl | rfl
  all_goals
    unfold m_limits_of
    refine wr_fn (by simp only [List.map_cons, List.map_nil, List.cons_append, List.nil_append, Nat.reduceSub, List.replicate_succ, List.replicate_zero]; rfl) ?_
    unfold b_limits_of
    repeat infer_instance
    unfold m_is_sequence
    refine wr_fn (by simp only [List.map_cons, List.map_nil, List.cons_append, List.nil_append, Nat.reduceSub, List.replicate_succ, List.replicate_zero]; rfl) ?_
    unfold b_is_sequence
    repeat infer_instance
    refine br_dt (by rw [List.length_map, hl]) ?_
    repeat infer_instance
    refine ⟨by show (rule.map D.int).length ≤ 100000; rw [List.length_map]; omega, ?_⟩
    refine wc_map (enc := D.int) (fun _ => .bl true) (fun r hr => ?_) ?_
    · unfold l_limits_of_e3_15
      repeat infer_instance
      refine int_w ?_
      repeat infer_instance
      have := h0 r hr
      rw [decide_eq_true (show (0 : Int) ≤ r from this)]
      exact ⟨rfl, rfl⟩
    · repeat infer_instance
      refine sm_all (g := fun _ => true) ?_
      repeat infer_instance
      rw [List.all_eq_true.mpr fun _ _ => rfl]
      repeat infer_instance
      refine ⟨by rw [enumD_length, List.length_map]; omega, ?_⟩
      refine wc_enum (enc := D.int) (fun i r => .int (if (i : Int) + 1 < r then (i : Int) + 1 else r)) (fun i r hr => ?_) ?_
      · unfold l_limits_of_e5_13
        repeat infer_instance
        exact ⟨rfl, rfl⟩
      · repeat infer_instance
        refine sm_e (a := .lst ((rule.zipIdx.map fun p => D.int (if (p.2 : Int) + 1 < p.1 then (p.2 : Int) + 1 else p.1)).dropLast)) (by show some (D.lst (cutD _ none (some (-1)))) = _; rw [cut_last]) ?_
        repeat infer_instance
        refine sm_catL (by simp; omega) ?_
        have e : (rule.zipIdx.map fun p => D.int (if (p.2 : Int) + 1 < p.1 then (p.2 : Int) + 1 else p.1)).dropLast ++ [D.int (n : Int)] = (lows n rule).map fun (l : Nat) => D.int (l : Int) := by
          refine List.ext_getElem? fun i => ?_
          unfold lows
          rw [List.map_map, List.getElem?_map]
          by_cases hi : i < n
          · rw [List.getElem?_range hi]
            by_cases hi2 : i + 1 < n
            · rw [List.getElem?_append_left (by simp; omega), List.getElem?_dropLast, if_pos (by simp; omega), List.getElem?_map, List.getElem?_zipIdx, List.getElem?_eq_getElem (by omega)]
              have g : rule.getD i 0 = rule[i] := by rw [List.getD_eq_getElem?_getD, List.getElem?_eq_getElem (by omega)]; rfl
              have nn := h0 rule[i] (List.getElem_mem _)
              simp only [Option.map_some, Function.comp_apply, g, Nat.zero_add]
              unfold low
              by_cases z : (i : Int) + 1 < rule[i]
              · rw [if_pos z, if_pos (.inl z)]; simp
              · rw [if_neg z, if_neg (by omega)]
                rw [show ((rule[i].toNat : Nat) : Int) = rule[i] by omega]
            · have : i = n - 1 := by omega
              subst this
              have el : (List.map (fun p : Int × Nat => D.int (if (p.2 : Int) + 1 < p.1 then (p.2 : Int) + 1 else p.1)) rule.zipIdx).dropLast.length = n - 1 := by simp; omega
              rw [List.getElem?_append_right (by omega), el, Nat.sub_self]
              simp only [List.getElem?_cons_zero, Option.map_some, Function.comp_apply]
              unfold low
              rw [if_pos (.inr (by omega)), show n - 1 + 1 = n by omega]
          · rw [List.getElem?_eq_none (by simp; omega), List.getElem?_eq_none (by simp; omega)]; rfl
        rw [e]
        exact k
theorem lows_len {n : Nat} {rule : List Int} : (lows n rule).length = n := by unfold lows; simp
theorem lows_at {n i l : Nat} {rule : List Int} (h : (lows n rule)[i]? = some l) : l ≤ i + 1 ∧ i < n := by
  unfold lows at h
  rw [List.getElem?_map] at h
  have hi : i < n := by
    rcases Nat.lt_or_ge i n with z | z
    · exact z
    · rw [List.getElem?_eq_none (by simpa using z)] at h; cases h
  rw [List.getElem?_range hi] at h
  cases h
  refine ⟨?_, hi⟩
  show low n (rule.getD i 0) i ≤ i + 1
  have := low_le (n := n) (r := rule.getD i 0) (p := i); omega
theorem fb0 : FB 1 1 (0 : Rat) := FB.int (n := 0) (by unfold Bit; decide)
theorem fb1 : FB 1 1 (1 : Rat) := FB.int (n := 1) (by unfold Bit; decide)
theorem followed_w {n : Nat} {rule : List Int} {rD : D} (hR : rD = .lst (rule.map D.int) ∨ rD = .tup (rule.map D.int)) (h1 : 1 ≤ n) (hn : n ≤ 10) (hl : rule.length = n) (h0 : ∀ r ∈ rule, 0 ≤ r) (k : Q (.tup ((folQ n (lows n rule)).map frD))) : WR (m_followed [.int (n : Int), rD]) Q E := by
  unfold m_followed
  refine wr_fn (by simp only [List.map_cons, List.map_nil, List.cons_append, List.nil_append, Nat.reduceSub, List.replicate_succ, List.replicate_zero]; rfl) ?_
  unfold b_followed
  repeat infer_instance
  refine check_w h1 (by omega) ?_
  repeat infer_instance
  refine ⟨by unfold Rng; omega, ?_⟩
  refine ⟨by rw [intsFrom_length]; omega, ?_⟩
  refine wc_rng (fun _ => frD 0) (fun i hi => ?_) ?_
  · unfold l_followed_e2_14
    repeat infer_instance
    refine init_w _ _ (by decide) (.lit 2 (by decide) (by decide)) ?_
    repeat infer_instance
    exact ⟨by rw [divInt_one]; rfl, rfl⟩
  repeat infer_instance
  refine init_w _ _ (by decide) (.lit 2 (by decide) (by decide)) ?_
  repeat infer_instance
  refine limits_w hR (by omega) hl h0 h1 ?_
  repeat infer_instance
  have e0 : (List.range (n : Int).toNat).map (fun _ => frD 0) = (List.replicate n (0 : Rat)).map frD := by
    rw [List.map_replicate, show (n : Int).toNat = n by omega]
    exact List.ext_getElem (by simp) fun i h h' => by simp
  rw [e0, divInt_one]
  refine wf_enum (enc := fun (l : Nat) => D.int (l : Int)) (fun i ρ => ∃ x4 x5 x6 x7 x8 x9 x11 : Option D, ρ = [some (.int (n : Int)), some rD, some (.lst ((folK n (lows n rule) i).1.map frD)), some (frD (folK n (lows n rule) i).2), x4, x5, x6, x7, x8, x9, none, x11] ∧ InK n i 0 (folK n (lows n rule) i).1 ∧ FB (1 + 4 * i) (1 + 4 * i) (folK n (lows n rule) i).2)
    ⟨none, none, none, none, none, none, none, rfl, InK.start, fb1⟩ ?_ ?_
  · rintro i l ρ hil ⟨x4, x5, x6, x7, x8, x9, x11, rfl, hk, hr⟩
    obtain ⟨hl1, hi⟩ := lows_at hil
    rw [folK_succ hil]
    generalize folK n (lows n rule) i = s at *
    obtain ⟨cs, rq⟩ := s
    dsimp only at hk hr ⊢
    unfold folS
    dsimp only
    have cb := comb_at (a := (n : Int)) (b := (i : Int) + 1) (by omega) (by omega) (by omega) (by omega)
    have cp : 1 ≤ combI (n : Int) ((i + 1 : Nat) : Int) := comb_pos (by omega) (by omega)
    have ec : ((i + 1 : Nat) : Int) = (i : Int) + 1 := by omega
    rw [ec] at cp
    have c1 : cComb (n : Int) ((i : Int) + 1) = true := by unfold cComb; simp only [Bool.and_eq_true, decide_eq_true_eq]; omega
    have den0 : 0 < ((i : Int) + 1) * combI (n : Int) ((i : Int) + 1) := Int.mul_pos (by omega) (by omega)
    have denb : Bit 12 (((i : Int) + 1) * combI (n : Int) ((i : Int) + 1)) := by
      have := Int.mul_le_mul (show (i : Int) + 1 ≤ 10 by omega) cb.2 cb.1 (by decide)
      unfold Bit; omega
    have rsz : Sz 4500 rq := hr.sz.mono (by omega)
    have fp : FB 12 1 (Rat.divInt 1 (((i : Int) + 1) * combI (n : Int) ((i : Int) + 1))) := FB.div den0 denb (by unfold Bit; decide)
    have fq : FB 4 4 (Rat.divInt (((i : Int) + 1) - (l : Int)) ((i : Int) + 1)) := FB.div (by omega) (by unfold Bit; omega) (by unfold Bit; omega)
    unfold l_followed_b4
    repeat infer_instance
    refine init_w _ _ den0 (denb.mono (by decide)) ?_
    repeat infer_instance
    refine mul_w rsz (fp.sz.mono (by decide)) ?_
    repeat infer_instance
    have fpart : FB (13 + 4 * i) (2 + 4 * i) (partQ rq n (i + 1)) := by
      unfold partQ
      rw [ec]
      exact (hr.mul fp).mono (by omega) (by omega)
    refine ⟨⟨by unfold Rng; omega, by unfold Rng; omega⟩, ?_⟩
    refine wf_rng (fun r ρ => ∃ x8 x9 x11 : Option D, ρ = [some (.int (n : Int)), some rD, some (.lst ((inQ n (i + 1) l (partQ rq n (i + 1)) cs r).map frD)), some (frD rq), some (.int (i : Int)), some (.int (l : Int)), some (.int ((i : Int) + 1)), some (frD (partQ rq n (i + 1))), x8, x9, none, x11] ∧ InK n i r (inQ n (i + 1) l (partQ rq n (i + 1)) cs r))
      ⟨x8, x9, x11, by unfold partQ; rw [ec]; rfl, hk⟩ ?_ ?_
    · rintro r ρ hrr ⟨y8, y9, y11, rfl, hkr⟩
      have hrn : r < n := by omega
      rw [inQ_succ]
      generalize inQ n (i + 1) l (partQ rq n (i + 1)) cs r = c at *
      have hlc : r < c.length := by rw [hkr.len]; exact hrn
      have hget : c[r]? = some c[r] := List.getElem?_eq_getElem hlc
      have er : (1 : Int) + (r : Int) = ((r + 1 : Nat) : Int) := by omega
      have gb := good_b (n := n) (come := i + 1) (lim := l) (rank := r + 1) hn (by omega) (by omega) hl1 (by omega)
      unfold l_followed_b7
      repeat infer_instance
      refine ⟨⟨by unfold Rng; omega, by unfold Rng; omega⟩, ?_⟩
      refine ⟨by rw [intsFrom_length]; omega, ?_⟩
      refine wc_rng (fun s => .int (rkW n (i + 1) (s + 1) (r + 1))) (fun s hs => ?_) ?_
      · unfold l_followed_e8_23
        repeat infer_instance
        rw [er, show (1 : Int) + (s : Int) = ((s + 1 : Nat) : Int) by omega, ← ec]
        refine rank_w hn (by omega) (by omega) (by omega) (by omega) (by omega) ?_
        exact ⟨rfl, rfl⟩
      repeat infer_instance
      refine sm_sum (g := fun s => rkW n (i + 1) (s + 1) (r + 1)) ?_
      repeat infer_instance
      have es : ((List.range ((l : Int) + 1 - 1).toNat).map fun s => rkW n (i + 1) (s + 1) (r + 1)).sum = good n (i + 1) l (r + 1) := by
        unfold good; rw [show ((l : Int) + 1 - 1).toNat = l by omega]
      rw [es]
      have ei : (1 : Int) + (r : Int) - 1 = (r : Int) := by omega
      rw [ei]
      refine sm_ati (x := frD c[r]) (atI_nat (by rw [List.getElem?_map, hget]; rfl)) ?_
      repeat infer_instance
      refine init_w _ _ (by decide) (.lit 2 (by decide) (by decide)) ?_
      repeat infer_instance
      rw [divInt_one]
      have fg : FB 1 20 ((good n (i + 1) l (r + 1) : Int) : Rat) := FB.int gb
      have fx : FB 54 62 (partQ rq n (i + 1) * ((good n (i + 1) l (r + 1) : Int) : Rat)) := (fpart.mul fg).mono (by omega) (by omega)
      refine mul_w (fpart.sz.mono (by omega)) (fg.sz.mono (by decide)) ?_
      repeat infer_instance
      refine add_w ((hkr.hi r _ hget (Nat.le_refl _)).sz.mono (by omega)) (fx.sz.mono (by decide)) ?_
      repeat infer_instance
      have eg : c.getD r 0 = c[r] := by rw [List.getD_eq_getElem?_getD, hget]; rfl
      refine sm_e (a := (c.set r (c[r] + partQ rq n (i + 1) * ((good n (i + 1) l (r + 1) : Int) : Rat))).map frD) (by
        unfold gPut ixN
        rw [ei, if_pos (Int.natCast_nonneg r), if_pos (by simpa using hlc), Option.map_some, List.map_set, Int.toNat_natCast]) ?_
      repeat infer_instance
      have es2 : setQ n (i + 1) l (partQ rq n (i + 1)) c r = c.set r (c[r] + partQ rq n (i + 1) * ((good n (i + 1) l (r + 1) : Int) : Rat)) := by unfold setQ; rw [eg]
      rw [es2]
      refine ⟨_, _, _, rfl, ?_⟩
      have z := hkr.set fx hrn
      rw [eg] at z
      exact z
    · rintro ρ ⟨y8, y9, y11, rfl, hkr⟩
      have en : ((n : Int) + 1 - 1).toNat = n := by omega
      rw [en] at hkr ⊢
      repeat infer_instance
      refine init_w _ _ (by omega) (show Bit 9000 ((i : Int) + 1) from (show Bit 4 ((i : Int) + 1) by unfold Bit; omega).mono (by decide)) ?_
      repeat infer_instance
      refine mul_w rsz (fq.sz.mono (by decide)) ?_
      repeat infer_instance
      refine ⟨_, _, _, _, _, _, _, rfl, hkr.next, ?_⟩
      exact (hr.mul fq).mono (by omega) (by omega)
  · rintro ρ ⟨x4, x5, x6, x7, x8, x9, x11, rfl, hk, hr⟩
    repeat infer_instance
    exact k
end
end Z.L56
end
set_option Elab.async false
set_option linter.all false
set_option maxRecDepth 100000
noncomputable section
namespace Z.L56
open PySem PySem.Spec L2
set_option maxHeartbeats 4000000
local macro_rules | `(tactic| array_get_dec) => `(tactic| first
  | with_reducible refine we_var ?_ | with_reducible refine we_con ?_ | with_reducible refine wa_cons ?_ | with_reducible refine wa_nil ?_
  | with_reducible refine we_bin ?_ | with_reducible refine we_un ?_ | with_reducible refine we_prim ?_
  | with_reducible refine sm_I0 ?_ | with_reducible refine sm_IB ?_ | with_reducible refine sm_eq ?_ | with_reducible refine sm_ne ?_ | with_reducible refine sm_not ?_ | with_reducible refine sm_U ?_
  | with_reducible refine sm_one ?_ | with_reducible refine sm_two ?_ | with_reducible refine sm_ixl ?_ | with_reducible refine sm_ixt ?_ | with_reducible refine sm_ixk ?_
  | with_reducible refine sm_II (by first | assumption | exact cNz_r (by omega) | exact cDiv_r (by omega) (by omega) | exact cMul_l (by omega) | exact cMul_r (by omega) | exact cMul_fm rfl | decide) ?_
  | with_reducible refine sm_tup (by first | decide | (simp only [List.length_cons, List.length_nil]; omega)) ?_ | with_reducible refine sm_lst (by first | decide | (simp only [List.length_cons, List.length_nil]; omega)) ?_
  | with_reducible refine sm_lenl ?_ | with_reducible refine sm_lent ?_ | with_reducible refine sm_lenk ?_
  | with_reducible refine sm_fld (by with_unfolding_all exact rfl) ?_ | with_reducible refine sm_atc (by with_unfolding_all exact rfl) ?_
  | with_reducible refine sm_isT (by with_unfolding_all exact rfl) ?_ | with_reducible refine sm_isF (by with_unfolding_all exact rfl) ?_ | with_reducible refine sm_nnT (by with_unfolding_all exact rfl) ?_ | with_reducible refine sm_nnF (by with_unfolding_all exact rfl) ?_
  | with_reducible refine setN_of ?_ | with_reducible refine lk_of ?_
  | with_reducible refine bl_of ?_ | with_reducible refine in_of ?_ | with_reducible refine lst_of ?_ | with_reducible refine tup_of ?_ | with_reducible refine ins_of ?_ | with_reducible refine non_of ?_
  | with_reducible refine is1_of ?_ | with_reducible refine is2_of ?_ | with_reducible refine is3_of ?_ | with_reducible refine two_of ?_
  | with_reducible refine ws_set ?_ | with_reducible refine ws_if ?_ | with_reducible refine ws_ret ?_ | with_reducible refine ws_retN ?_ | with_reducible refine ws_skip ?_
  | with_reducible refine ws_brk ?_ | with_reducible refine ws_cnt ?_ | with_reducible refine ws_drop ?_ | with_reducible refine ws_asg ?_ | with_reducible refine ws_app ?_ | with_reducible refine ws_ext ?_ | with_reducible refine ws_setix ?_
  | with_reducible refine ws_fset ?_ | with_reducible refine ws_par ?_ | with_reducible refine ws_aug ?_ | with_reducible refine ws_for ?_ | with_reducible refine ws_try ?_
  | with_reducible refine sm_gtN ?_ | with_reducible refine sm_gtT rfl ?_ | with_reducible refine sm_gtCons ?_ | with_reducible refine sm_gtNil ?_
  | with_reducible refine we_call ?_ | with_reducible refine we_callB ?_ | with_reducible refine we_meth ?_ | with_reducible refine we_make ?_ | with_reducible refine we_callK ?_ | with_reducible refine we_makeK ?_ | with_reducible refine we_makeL ?_
  | with_reducible refine we_fldN ?_ | with_reducible refine we_unN ?_ | with_reducible refine we_binN ?_ | with_reducible refine we_sl ?_ | with_reducible refine we_slN ?_ | with_reducible refine we_mov ?_ | with_reducible refine we_pop ?_
  | with_reducible refine we_if ?_ | with_reducible refine we_and ?_ | with_reducible refine we_or ?_ | with_reducible refine we_chain ?_ | with_reducible refine we_comp ?_
  | with_reducible refine wt_val ?_ | with_reducible refine wt_and ?_ | with_reducible refine wt_or ?_ | with_reducible refine wt_not ?_ | with_reducible refine wt_yes ?_
  | with_reducible refine wo_none ?_ | with_reducible refine wo_part ?_
  | with_reducible refine wa_itL ?_ | with_reducible refine wa_itT ?_ | with_reducible refine wa_seqD ?_ | with_reducible refine wa_r1 ?_ | with_reducible refine wa_r2 ?_ | with_reducible refine wa_r3 ?_
  | with_reducible refine br_t ?_ | with_reducible refine br_f ?_ | with_reducible refine br_n ?_ | with_reducible refine br_dt (by assumption) ?_ | with_reducible refine br_df (by assumption) ?_
  | with_reducible refine sm_put1 ?_ | with_reducible refine sm_put2 ?_ | with_reducible refine sm_put3 ?_ | with_reducible refine sm_ioI ?_ | with_reducible refine sm_pow (by decide) ?_
  | with_reducible refine we_opO ?_ | with_reducible refine ws_insr ?_ | with_reducible refine sm_tupRevL ?_ | with_reducible refine sm_tupRevK ?_ | with_reducible refine sm_seqL ?_ | with_reducible refine sm_seqK ?_ | with_reducible refine sm_seqT ?_
  | with_reducible refine or_new (by with_unfolding_all exact rfl) ?_
  | with_reducible refine sm_toL ?_ | with_reducible refine sm_toT ?_ | with_reducible refine sm_toK ?_ | with_reducible refine sm_loL ?_ | with_reducible refine sm_loT ?_ | with_reducible refine sm_loK ?_
  | with_reducible refine ws_raise ?_ | with_reducible refine ws_tryAs ?_ | with_reducible refine we_fldX (by with_unfolding_all exact rfl) ?_ | with_reducible refine wa_zip ?_ | with_reducible refine zp_ll ?_ | with_reducible refine zp_tt ?_ | with_reducible refine sm_lstRev ?_ | with_reducible refine we_isX (by with_unfolding_all exact rfl) ?_ | with_reducible refine we_callKM ?_ | with_reducible refine sm_catA (by simp) ?_)
local macro_rules | `(tactic| infer_instance) => `(tactic| first | array_get_dec | with_reducible refine ws_seq ?_)
section
variable {Q : D → Prop} {QB : D → D → Prop} {E : Er}
theorem plain_w {i : Int} (k : Q (.bl true)) : WR (m__law_plain [.int i]) Q E := by
  unfold m__law_plain
  refine wr_fn (by simp only [List.map_cons, List.map_nil, List.cons_append, List.nil_append, Nat.reduceSub, List.replicate_succ, List.replicate_zero]; rfl) ?_
  unfold b__law_plain
  repeat infer_instance
  exact k
theorem lfrac_w {x : Rat} {n d : Int} (hd : 0 < d) (hb : Bit 9000 d) (k : Q (.bl (decide (x = Rat.divInt n d)))) : WR (m__law_frac [frD x, .int n, .int d]) Q E := by
  unfold m__law_frac
  refine wr_fn (by simp only [List.map_cons, List.map_nil, List.cons_append, List.nil_append, Nat.reduceSub, List.replicate_succ, List.replicate_zero]; rfl) ?_
  unfold b__law_frac
  repeat' first | infer_instance | refine plain_w ?_ | refine cut_w n d hd hb ?_
  refine br_b (fun h => ?_) (fun h => ?_)
  · repeat infer_instance
    have h := of_decide_eq_true h
    have e : decide (x = Rat.divInt n d) = decide ((x.den : Int) = ((Rat.divInt n d).den : Int)) := by
      refine decide_eq_decide.mpr ⟨fun z => by rw [z], fun z => Rat.ext h (by omega)⟩
    rw [← e]
    exact k
  · have h := of_decide_eq_false h
    rw [decide_eq_false (fun z => h (by rw [z]))] at k
    exact k
theorem likeF_w {j : Nat} {x : Rat} {n d : Int} (hd : 0 < d) (hb : Bit 9000 d) (k : Q (.bl (decide (x = Rat.divInt n d)))) : WR ((m__law_like (j + 1)) [frD x, .lst [.int n, .int d]]) Q E := by
  unfold m__law_like
  refine wr_fn (by simp only [List.map_cons, List.map_nil, List.cons_append, List.nil_append, Nat.reduceSub, List.replicate_succ, List.replicate_zero]; rfl) ?_
  unfold b__law_like
  repeat infer_instance
  refine lfrac_w hd hb ?_
  repeat infer_instance
  exact k
end
end Z.L56
end
set_option Elab.async false
set_option linter.all false
set_option maxRecDepth 100000
noncomputable section
namespace Z.L56
open PySem PySem.Spec L2
set_option maxHeartbeats 4000000
local macro_rules | `(tactic| array_get_dec) => `(tactic| first
  | with_reducible refine we_var ?_ | with_reducible refine we_con ?_ | with_reducible refine wa_cons ?_ | with_reducible refine wa_nil ?_
  | with_reducible refine we_bin ?_ | with_reducible refine we_un ?_ | with_reducible refine we_prim ?_
  | with_reducible refine sm_I0 ?_ | with_reducible refine sm_IB ?_ | with_reducible refine sm_eq ?_ | with_reducible refine sm_ne ?_ | with_reducible refine sm_not ?_ | with_reducible refine sm_U ?_
  | with_reducible refine sm_one ?_ | with_reducible refine sm_two ?_ | with_reducible refine sm_ixl ?_ | with_reducible refine sm_ixt ?_ | with_reducible refine sm_ixk ?_
  | with_reducible refine sm_II (by first | assumption | exact cNz_r (by omega) | exact cDiv_r (by omega) (by omega) | exact cMul_l (by omega) | exact cMul_r (by omega) | exact cMul_fm rfl | decide) ?_
  | with_reducible refine sm_tup (by first | decide | (simp only [List.length_cons, List.length_nil]; omega)) ?_ | with_reducible refine sm_lst (by first | decide | (simp only [List.length_cons, List.length_nil]; omega)) ?_
  | with_reducible refine sm_lenl ?_ | with_reducible refine sm_lent ?_ | with_reducible refine sm_lenk ?_
  | with_reducible refine sm_fld (by with_unfolding_all exact rfl) ?_ | with_reducible refine sm_atc (by with_unfolding_all exact rfl) ?_
  | with_reducible refine sm_isT (by with_unfolding_all exact rfl) ?_ | with_reducible refine sm_isF (by with_unfolding_all exact rfl) ?_ | with_reducible refine sm_nnT (by with_unfolding_all exact rfl) ?_ | with_reducible refine sm_nnF (by with_unfolding_all exact rfl) ?_
  | with_reducible refine setN_of ?_ | with_reducible refine lk_of ?_
  | with_reducible refine bl_of ?_ | with_reducible refine in_of ?_ | with_reducible refine lst_of ?_ | with_reducible refine tup_of ?_ | with_reducible refine ins_of ?_ | with_reducible refine non_of ?_
  | with_reducible refine is1_of ?_ | with_reducible refine is2_of ?_ | with_reducible refine is3_of ?_ | with_reducible refine two_of ?_
  | with_reducible refine ws_set ?_ | with_reducible refine ws_if ?_ | with_reducible refine ws_ret ?_ | with_reducible refine ws_retN ?_ | with_reducible refine ws_skip ?_
  | with_reducible refine ws_brk ?_ | with_reducible refine ws_cnt ?_ | with_reducible refine ws_drop ?_ | with_reducible refine ws_asg ?_ | with_reducible refine ws_app ?_ | with_reducible refine ws_ext ?_ | with_reducible refine ws_setix ?_
  | with_reducible refine ws_fset ?_ | with_reducible refine ws_par ?_ | with_reducible refine ws_aug ?_ | with_reducible refine ws_for ?_ | with_reducible refine ws_try ?_
  | with_reducible refine sm_gtN ?_ | with_reducible refine sm_gtT rfl ?_ | with_reducible refine sm_gtCons ?_ | with_reducible refine sm_gtNil ?_
  | with_reducible refine we_call ?_ | with_reducible refine we_callB ?_ | with_reducible refine we_meth ?_ | with_reducible refine we_make ?_ | with_reducible refine we_callK ?_ | with_reducible refine we_makeK ?_ | with_reducible refine we_makeL ?_
  | with_reducible refine we_fldN ?_ | with_reducible refine we_unN ?_ | with_reducible refine we_binN ?_ | with_reducible refine we_sl ?_ | with_reducible refine we_slN ?_ | with_reducible refine we_mov ?_ | with_reducible refine we_pop ?_
  | with_reducible refine we_if ?_ | with_reducible refine we_and ?_ | with_reducible refine we_or ?_ | with_reducible refine we_chain ?_ | with_reducible refine we_comp ?_
  | with_reducible refine wt_val ?_ | with_reducible refine wt_and ?_ | with_reducible refine wt_or ?_ | with_reducible refine wt_not ?_ | with_reducible refine wt_yes ?_
  | with_reducible refine wo_none ?_ | with_reducible refine wo_part ?_
  | with_reducible refine wa_itL ?_ | with_reducible refine wa_itT ?_ | with_reducible refine wa_seqD ?_ | with_reducible refine wa_r1 ?_ | with_reducible refine wa_r2 ?_ | with_reducible refine wa_r3 ?_
  | with_reducible refine br_t ?_ | with_reducible refine br_f ?_ | with_reducible refine br_n ?_ | with_reducible refine br_dt (by assumption) ?_ | with_reducible refine br_df (by assumption) ?_
  | with_reducible refine sm_put1 ?_ | with_reducible refine sm_put2 ?_ | with_reducible refine sm_put3 ?_ | with_reducible refine sm_ioI ?_ | with_reducible refine sm_pow (by decide) ?_
  | with_reducible refine we_opO ?_ | with_reducible refine ws_insr ?_ | with_reducible refine sm_tupRevL ?_ | with_reducible refine sm_tupRevK ?_ | with_reducible refine sm_seqL ?_ | with_reducible refine sm_seqK ?_ | with_reducible refine sm_seqT ?_
  | with_reducible refine or_new (by with_unfolding_all exact rfl) ?_
  | with_reducible refine sm_toL ?_ | with_reducible refine sm_toT ?_ | with_reducible refine sm_toK ?_ | with_reducible refine sm_loL ?_ | with_reducible refine sm_loT ?_ | with_reducible refine sm_loK ?_
  | with_reducible refine ws_raise ?_ | with_reducible refine ws_tryAs ?_ | with_reducible refine we_fldX (by with_unfolding_all exact rfl) ?_ | with_reducible refine wa_zip ?_ | with_reducible refine zp_ll ?_ | with_reducible refine zp_tt ?_ | with_reducible refine sm_lstRev ?_ | with_reducible refine we_isX (by with_unfolding_all exact rfl) ?_ | with_reducible refine we_callKM ?_ | with_reducible refine sm_catA (by simp) ?_)
local macro_rules | `(tactic| infer_instance) => `(tactic| first | array_get_dec | with_reducible refine ws_seq ?_)
section
variable {Q : D → Prop} {QB : D → D → Prop} {E : Er}
theorem likeI_w {j : Nat} {a b : Int} (k : Q (.bl (decide (a = b)))) : WR (m__law_like (j + 1) [.int a, .int b]) Q E := by
  unfold m__law_like
  refine wr_fn (by simp only [List.map_cons, List.map_nil, List.cons_append, List.nil_append, Nat.reduceSub, List.replicate_succ, List.replicate_zero]; rfl) ?_
  unfold b__law_like
  repeat infer_instance
  refine plain_w ?_
  repeat infer_instance
  exact k
theorem likeT_w {j : Nat} {xs ys : List D} (hl : ys.length = xs.length) (hn : xs.length ≤ 1000) (h : ∀ (i : Nat) x y, xs[i]? = some x → ys[i]? = some y → WR (m__law_like (j + 1) [x, y]) (fun d => d = .bl true) E0) (k : Q (.bl true)) : WR (m__law_like (j + 2) [.tup xs, .tup ys]) Q E := by
  unfold m__law_like
  refine wr_fn (by simp only [List.map_cons, List.map_nil, List.cons_append, List.nil_append, Nat.reduceSub, List.replicate_succ, List.replicate_zero]; rfl) ?_
  unfold b__law_like
  repeat infer_instance
  refine br_dt (by rw [hl]) ?_
  repeat infer_instance
  refine ⟨by unfold Rng; omega, ?_⟩
  refine ⟨by rw [intsFrom_length]; omega, ?_⟩
  refine wc_rng (fun _ => .bl true) (fun i hi => ?_) ?_
  · rw [hl] at hi
    have hi : i < xs.length := by omega
    unfold l__law_like_e8_19
    repeat infer_instance
    rw [Int.zero_add]
    refine sm_ati (atI_nat (List.getElem?_eq_getElem hi)) ?_
    repeat infer_instance
    refine sm_ati (atI_nat (List.getElem?_eq_getElem (by omega))) ?_
    repeat infer_instance
    refine (h i _ _ (List.getElem?_eq_getElem hi) (List.getElem?_eq_getElem (by omega))).mono (fun d z => ?_) fun _ _ z => z.elim
    subst z
    exact ⟨rfl, rfl⟩
  · repeat infer_instance
    refine sm_all (g := fun _ => true) ?_
    repeat infer_instance
    rw [List.all_eq_true.mpr fun _ _ => rfl]
    exact k
end
end Z.L56
end
set_option Elab.async false
set_option linter.all false
set_option maxRecDepth 100000
noncomputable section
namespace Z.L56
open PySem PySem.Spec L2
set_option maxHeartbeats 4000000
local macro_rules | `(tactic| array_get_dec) => `(tactic| first
  | with_reducible refine we_var ?_ | with_reducible refine we_con ?_ | with_reducible refine wa_cons ?_ | with_reducible refine wa_nil ?_
  | with_reducible refine we_bin ?_ | with_reducible refine we_un ?_ | with_reducible refine we_prim ?_
  | with_reducible refine sm_I0 ?_ | with_reducible refine sm_IB ?_ | with_reducible refine sm_eq ?_ | with_reducible refine sm_ne ?_ | with_reducible refine sm_not ?_ | with_reducible refine sm_U ?_
  | with_reducible refine sm_one ?_ | with_reducible refine sm_two ?_ | with_reducible refine sm_ixl ?_ | with_reducible refine sm_ixt ?_ | with_reducible refine sm_ixk ?_
  | with_reducible refine sm_II (by first | assumption | exact cNz_r (by omega) | exact cDiv_r (by omega) (by omega) | exact cMul_l (by omega) | exact cMul_r (by omega) | exact cMul_fm rfl | decide) ?_
  | with_reducible refine sm_tup (by first | decide | (simp only [List.length_cons, List.length_nil]; omega)) ?_ | with_reducible refine sm_lst (by first | decide | (simp only [List.length_cons, List.length_nil]; omega)) ?_
  | with_reducible refine sm_lenl ?_ | with_reducible refine sm_lent ?_ | with_reducible refine sm_lenk ?_
  | with_reducible refine sm_fld (by with_unfolding_all exact rfl) ?_ | with_reducible refine sm_atc (by with_unfolding_all exact rfl) ?_
  | with_reducible refine sm_isT (by with_unfolding_all exact rfl) ?_ | with_reducible refine sm_isF (by with_unfolding_all exact rfl) ?_ | with_reducible refine sm_nnT (by with_unfolding_all exact rfl) ?_ | with_reducible refine sm_nnF (by with_unfolding_all exact rfl) ?_
  | with_reducible refine setN_of ?_ | with_reducible refine lk_of ?_
  | with_reducible refine bl_of ?_ | with_reducible refine in_of ?_ | with_reducible refine lst_of ?_ | with_reducible refine tup_of ?_ | with_reducible refine ins_of ?_ | with_reducible refine non_of ?_
  | with_reducible refine is1_of ?_ | with_reducible refine is2_of ?_ | with_reducible refine is3_of ?_ | with_reducible refine two_of ?_
  | with_reducible refine ws_set ?_ | with_reducible refine ws_if ?_ | with_reducible refine ws_ret ?_ | with_reducible refine ws_retN ?_ | with_reducible refine ws_skip ?_
  | with_reducible refine ws_brk ?_ | with_reducible refine ws_cnt ?_ | with_reducible refine ws_drop ?_ | with_reducible refine ws_asg ?_ | with_reducible refine ws_app ?_ | with_reducible refine ws_ext ?_ | with_reducible refine ws_setix ?_
  | with_reducible refine ws_fset ?_ | with_reducible refine ws_par ?_ | with_reducible refine ws_aug ?_ | with_reducible refine ws_for ?_ | with_reducible refine ws_try ?_
  | with_reducible refine sm_gtN ?_ | with_reducible refine sm_gtT rfl ?_ | with_reducible refine sm_gtCons ?_ | with_reducible refine sm_gtNil ?_
  | with_reducible refine we_call ?_ | with_reducible refine we_callB ?_ | with_reducible refine we_meth ?_ | with_reducible refine we_make ?_ | with_reducible refine we_callK ?_ | with_reducible refine we_makeK ?_ | with_reducible refine we_makeL ?_
  | with_reducible refine we_fldN ?_ | with_reducible refine we_unN ?_ | with_reducible refine we_binN ?_ | with_reducible refine we_sl ?_ | with_reducible refine we_slN ?_ | with_reducible refine we_mov ?_ | with_reducible refine we_pop ?_
  | with_reducible refine we_if ?_ | with_reducible refine we_and ?_ | with_reducible refine we_or ?_ | with_reducible refine we_chain ?_ | with_reducible refine we_comp ?_
  | with_reducible refine wt_val ?_ | with_reducible refine wt_and ?_ | with_reducible refine wt_or ?_ | with_reducible refine wt_not ?_ | with_reducible refine wt_yes ?_
  | with_reducible refine wo_none ?_ | with_reducible refine wo_part ?_
  | with_reducible refine wa_itL ?_ | with_reducible refine wa_itT ?_ | with_reducible refine wa_seqD ?_ | with_reducible refine wa_r1 ?_ | with_reducible refine wa_r2 ?_ | with_reducible refine wa_r3 ?_
  | with_reducible refine br_t ?_ | with_reducible refine br_f ?_ | with_reducible refine br_n ?_ | with_reducible refine br_dt (by assumption) ?_ | with_reducible refine br_df (by assumption) ?_
  | with_reducible refine sm_put1 ?_ | with_reducible refine sm_put2 ?_ | with_reducible refine sm_put3 ?_ | with_reducible refine sm_ioI ?_ | with_reducible refine sm_pow (by decide) ?_
  | with_reducible refine we_opO ?_ | with_reducible refine ws_insr ?_ | with_reducible refine sm_tupRevL ?_ | with_reducible refine sm_tupRevK ?_ | with_reducible refine sm_seqL ?_ | with_reducible refine sm_seqK ?_ | with_reducible refine sm_seqT ?_
  | with_reducible refine or_new (by with_unfolding_all exact rfl) ?_
  | with_reducible refine sm_toL ?_ | with_reducible refine sm_toT ?_ | with_reducible refine sm_toK ?_ | with_reducible refine sm_loL ?_ | with_reducible refine sm_loT ?_ | with_reducible refine sm_loK ?_
  | with_reducible refine ws_raise ?_ | with_reducible refine ws_tryAs ?_ | with_reducible refine we_fldX (by with_unfolding_all exact rfl) ?_ | with_reducible refine wa_zip ?_ | with_reducible refine zp_ll ?_ | with_reducible refine zp_tt ?_ | with_reducible refine sm_lstRev ?_ | with_reducible refine we_isX (by with_unfolding_all exact rfl) ?_ | with_reducible refine we_callKM ?_ | with_reducible refine sm_catA (by simp) ?_)
local macro_rules | `(tactic| infer_instance) => `(tactic| first | array_get_dec | with_reducible refine ws_seq ?_)
section
variable {Q : D → Prop} {QB : D → D → Prop} {E : Er}
abbrev cntH (c : List Int) : D := .lst (c.map D.int)
abbrev rowH (r : List (List Int)) : D := .lst (r.map cntH)
abbrev tabH (t : List (List (List Int))) : D := .lst (t.map rowH)
theorem taken_w {n : Nat} {rule : List Int} {rD : D} (h1 : 1 ≤ n) (hn : n ≤ 10) (hl : rule.length = n) (h0 : ∀ r ∈ rule, 0 ≤ r) (hr : ∀ p, p < n → gIx rD (.int (p : Int)) = some (.int (rule.getD p 0))) (k : Q (cntH (takenI (tabI n) n (lows n rule)))) : WR (m__law_taken [tabH (tabI n), rD]) Q E := by
  have tb := tab_b n (by omega)
  obtain ⟨tl, tr⟩ := tab_len n (by omega)
  unfold m__law_taken
  refine wr_fn (by simp only [List.map_cons, List.map_nil, List.cons_append, List.nil_append, Nat.reduceSub, List.replicate_succ, List.replicate_zero]; rfl) ?_
  unfold b__law_taken
  repeat infer_instance
  have el : (((tabI n).map rowH).length : Int) = (n : Int) := by rw [List.length_map, tl]
  rw [el]
  refine ⟨by unfold Rng; omega, ?_⟩
  refine ⟨by rw [intsFrom_length]; omega, ?_⟩
  refine wc_rng (fun _ => .int 0) (fun i hi => ?_) ?_
  · unfold l__law_taken_e2_12
    repeat infer_instance
    exact ⟨rfl, rfl⟩
  repeat infer_instance
  refine ⟨by unfold Rng; omega, ?_⟩
  have e0 : (List.range (n : Int).toNat).map (fun _ => D.int 0) = (List.replicate n (0 : Int)).map D.int := by
    rw [List.map_replicate, show (n : Int).toNat = n by omega]
    exact List.ext_getElem (by simp) fun i h h' => by simp
  rw [e0, show (n : Int).toNat = n by omega]
  refine wf_rng (fun p ρ => ∃ x5 x6 x7 : Option D, ρ = [some (tabH (tabI n)), some rD, some (.int (n : Int)), some (cntH (tkK (tabI n) n (lows n rule) p).1), some (.int (tkK (tabI n) n (lows n rule) p).2), x5, x6, x7, none] ∧ (tkK (tabI n) n (lows n rule) p).1.length = n ∧ Bit (1 + 4 * p) (tkK (tabI n) n (lows n rule) p).2)
    ⟨none, none, none, rfl, by simp [tkK], by unfold Bit; simp [tkK]⟩ ?_ ?_
  · rintro p ρ hp ⟨x5, x6, x7, rfl, hf, hb⟩
    rw [tkK_succ]
    generalize tkK (tabI n) n (lows n rule) p = s at *
    obtain ⟨f, m⟩ := s
    dsimp only at hf hb ⊢
    have hrow : (tabI n)[p]? = some ((tabI n).getD p []) := by rw [List.getD_eq_getElem?_getD, List.getElem?_eq_getElem (by omega)]; rfl
    have hrl := tr p hp
    generalize (tabI n).getD p [] = row at hrow hrl
    have hrm : row ∈ tabI n := List.mem_of_getElem? hrow
    have hlow : (lows n rule).getD p 0 = low n (rule.getD p 0) p := by unfold lows; rw [List.getD_eq_getElem?_getD, List.getElem?_map, List.getElem?_range hp]; rfl
    have rnn : 0 ≤ rule.getD p 0 := by
      rw [List.getD_eq_getElem?_getD, List.getElem?_eq_getElem (by omega)]
      exact h0 _ (List.getElem_mem _)
    have est : tkS (tabI n) n (lows n rule) (f, m) p = ((row.take (low n (rule.getD p 0) p)).foldl (fun g c => tkC n m g c) f, m * ((p : Int) + 1 - (low n (rule.getD p 0) p : Nat))) := by
      have eg : (tabI n).getD p [] = row := by rw [List.getD_eq_getElem?_getD, hrow]; rfl
      unfold tkS
      rw [hlow, eg]; rfl
    rw [est]
    unfold l__law_taken_b4
    repeat infer_instance
    rw [Int.zero_add]
    refine sm_e (hr p hp) ?_
    repeat array_get_dec
    refine ws_seq ?_
    refine ws_cut (fun ρ => ρ = [some (tabH (tabI n)), some rD, some (.int (n : Int)), some (cntH f), some (.int m), some (.int (p : Int)), some (.int ((low n (rule.getD p 0) p : Nat) : Int)), x7, none]) ?_ ?_
    · repeat infer_instance
      unfold low
      refine br_d (fun c => ?_) (fun c => ?_)
      · rw [if_pos (.inl c)]
        repeat infer_instance
        rfl
      · repeat infer_instance
        refine br_d (fun c2 => ?_) (fun c2 => ?_)
        · rw [if_pos (.inr (by omega))]
          repeat infer_instance
          rfl
        · rw [if_neg (by omega)]
          repeat infer_instance
          rw [show (((rule.getD p 0).toNat : Nat) : Int) = rule.getD p 0 by omega]
    rintro ρ rfl
    have hle : low n (rule.getD p 0) p ≤ p + 1 := by have := low_le (n := n) (r := rule.getD p 0) (p := p); omega
    generalize low n (rule.getD p 0) p = l at hle ⊢
    repeat infer_instance
    refine sm_ati (x := rowH row) (atI_nat (by rw [List.getElem?_map, hrow]; rfl)) ?_
    repeat infer_instance
    refine sm_e (a := .lst ((row.take l).map cntH)) (by show some (D.lst (cutD _ none (some (l : Int)))) = _; rw [cut_to (by rw [List.length_map]; omega), List.map_take]) ?_
    repeat infer_instance
    refine wf_map (fun i ρ => ∃ x7, ρ = [some (tabH (tabI n)), some rD, some (.int (n : Int)), some (cntH (((row.take l).take i).foldl (fun g c => tkC n m g c) f)), some (.int m), some (.int (p : Int)), some (.int (l : Int)), x7, none] ∧ (((row.take l).take i).foldl (fun g c => tkC n m g c) f).length = n) ⟨x7, rfl, hf⟩ ?_ ?_
    · rintro i c ρ hc ⟨y7, rfl, hg⟩
      rw [foldl_take hc]
      generalize ((row.take l).take i).foldl (fun g c => tkC n m g c) f = g at *
      have hcm : c ∈ row := List.mem_of_mem_take (List.mem_of_getElem? hc)
      obtain ⟨cl, cb⟩ := tb row hrm c hcm
      unfold l__law_taken_b8
      repeat infer_instance
      refine ⟨by unfold Rng; omega, ?_⟩
      refine ⟨by rw [intsFrom_length]; omega, ?_⟩
      refine wc_rng (fun k => .int (g.getD k 0 + m * c.getD k 0)) (fun k hk => ?_) ?_
      · have hk : k < n := by omega
        have eg : g[k]? = some (g.getD k 0) := by rw [List.getD_eq_getElem?_getD, List.getElem?_eq_getElem (by omega)]; rfl
        have ec : c[k]? = some (c.getD k 0) := by rw [List.getD_eq_getElem?_getD, List.getElem?_eq_getElem (by omega)]; rfl
        unfold l__law_taken_e9_20
        repeat infer_instance
        rw [Int.zero_add]
        refine sm_ati (x := .int (g.getD k 0)) (atI_nat (by rw [List.getElem?_map, eg]; rfl)) ?_
        repeat infer_instance
        refine sm_ati (x := .int (c.getD k 0)) (atI_nat (by rw [List.getElem?_map, ec]; rfl)) ?_
        repeat infer_instance
        refine sm_II (cMul_bits hb (show Bit 30 (c.getD k 0) from cb _ (List.mem_of_getElem? ec)) (by omega) (by decide)) ?_
        repeat infer_instance
        exact ⟨rfl, rfl⟩
      · repeat infer_instance
        rw [show (n : Int).toNat = n by omega]
        have et : (List.range n).map (fun k => D.int (g.getD k 0 + m * c.getD k 0)) = (tkC n m g c).map D.int := by unfold tkC; rw [List.map_map]; rfl
        rw [et]
        exact ⟨_, rfl, tkC_len⟩
    · rintro ρ ⟨y7, rfl, hg⟩
      rw [List.take_length] at hg ⊢
      repeat infer_instance
      refine ⟨_, _, _, rfl, hg, ?_⟩
      have z := hb.mul (show Bit 4 ((p : Int) + 1 - (l : Int)) by unfold Bit; omega)
      rw [show 1 + 4 * (p + 1) = 1 + 4 * p + 4 by omega]
      exact z
  · rintro ρ ⟨x5, x6, x7, rfl, hf, hb⟩
    repeat infer_instance
    exact k
end
end Z.L56
end
set_option Elab.async false
set_option linter.all false
set_option maxRecDepth 100000
namespace Z.L56
open PySem PySem.Spec L2
/-! evaluated parts -/
abbrev cntD (c : List Int) : D := .lst (c.map D.int)
abbrev rowD (r : List (List Int)) : D := .lst (r.map cntD)
abbrev tabD (t : List (List (List Int))) : D := .lst (t.map rowD)
def wrM (n : Nat) : List D := [.int 0, .int ((n : Int) + 1), .int (-1), .bl true, .non, .str "1", .tup [.int 1]]
theorem intsOf_eq : ∀ {xs : List D} {r : List Int}, intsOf xs = some r → xs = r.map D.int
  | [], r, h => by cases h; rfl
  | d :: xs, r, h => by
    cases d with
    | int i =>
      simp only [intsOf] at h
      cases q : intsOf xs with
      | none => rw [q] at h; cases h
      | some s => rw [q] at h; cases h; rw [intsOf_eq q]; rfl
    | _ => cases h
def e1 (n : Nat) : Bool := rB (KV.m__law_table gN bN [.int (n : Int)]) (eqD (tabD (tabI n))) && rB (KV.m__law_factorial gN bN [.int (n : Int)]) (eqD (.int (facI n)))
def e2 (n g : Nat) : Bool := rB (KV.m__law_backward gN bN [tabD (tabI n), .int (g : Int)]) fun b => match b with
  | .lst [.int s, .tup xs] => (match intsOf xs with
      | some r => decide (r.length = n) && r.all fun x => decide (0 ≤ x)
      | none => false) &&
    (if g = 0 then (rB (KV.m_least_mean_rank gN bN [.int (n : Int)]) fun t => okT (KV.m__law_like gN bN 3 [t, .lst [.int (-s), .int (facI n)]])) && (rB (KV.m_mean_rank_rule gN bN [.int (n : Int)]) fun t => okT (KV.m__law_like gN bN 3 [t, .tup xs]))
     else (rB (KV.m_top_chance gN bN [.int (n : Int), .int (g : Int)]) fun t => okT (KV.m__law_like gN bN 3 [t, .lst [.int s, .int (facI n)]])) && (rB (KV.m_top_rule gN bN [.int (n : Int), .int (g : Int)]) fun t => okT (KV.m__law_like gN bN 3 [t, .tup xs])))
  | _ => false
def e3 (n : Nat) : Bool := (List.range n).all fun r => rB (KV.m__law_taken gN bN [tabD (tabI n), .lst (List.replicate r (.int 0) ++ List.replicate (n - r) (.int 1))]) fun p => match p with
  | .lst (x :: _) => rB (KV.m_pass_chance gN bN [.int (n : Int), .int (r : Int)]) fun t => okT (KV.m__law_like gN bN 3 [t, .lst [x, .int (facI n)]])
  | _ => false
def e5 (n : Nat) : Bool := (List.range 2).all fun k => ((wrM n).all fun d => okT (KV.m__law_many_refused gN bN [.int (k : Int), .int (n : Int), d])) && (List.range 50).all fun w => okT (KV.m__law_many_refused gN bN [.int (k : Int), .int (n : Int), .int ((n : Int) + 1 + (w : Int))])
theorem e1_1 : e1 1 = true := by decide +kernel
theorem e1_2 : e1 2 = true := by decide +kernel
theorem e1_3 : e1 3 = true := by decide +kernel
theorem e1_4 : e1 4 = true := by decide +kernel
theorem e1_5 : e1 5 = true := by decide +kernel
theorem e1_6 : e1 6 = true := by decide +kernel
theorem e1_7 : e1 7 = true := by decide +kernel
theorem e1_8 : e1 8 = true := by decide +kernel
theorem e1_9 : e1 9 = true := by decide +kernel
theorem e1_10 : e1 10 = true := by decide +kernel
theorem e1_ok : ∀ n : Nat, 1 ≤ n → n ≤ 10 → e1 n = true
  | 1, _, _ => e1_1
  | 2, _, _ => e1_2
  | 3, _, _ => e1_3
  | 4, _, _ => e1_4
  | 5, _, _ => e1_5
  | 6, _, _ => e1_6
  | 7, _, _ => e1_7
  | 8, _, _ => e1_8
  | 9, _, _ => e1_9
  | 10, _, _ => e1_10
  | 0, h, _ => by omega
  | n + 11, _, h => by omega
theorem e2_1_0 : e2 1 0 = true := by decide +kernel
theorem e2_1_1 : e2 1 1 = true := by decide +kernel
theorem e2_1 : ∀ g : Nat, g ≤ 1 → e2 1 g = true
  | 0, _ => e2_1_0
  | 1, _ => e2_1_1
  | g + 2, h => by omega
theorem e2_2_0 : e2 2 0 = true := by decide +kernel
theorem e2_2_1 : e2 2 1 = true := by decide +kernel
theorem e2_2_2 : e2 2 2 = true := by decide +kernel
theorem e2_2 : ∀ g : Nat, g ≤ 2 → e2 2 g = true
  | 0, _ => e2_2_0
  | 1, _ => e2_2_1
  | 2, _ => e2_2_2
  | g + 3, h => by omega
theorem e2_3_0 : e2 3 0 = true := by decide +kernel
theorem e2_3_1 : e2 3 1 = true := by decide +kernel
theorem e2_3_2 : e2 3 2 = true := by decide +kernel
theorem e2_3_3 : e2 3 3 = true := by decide +kernel
theorem e2_3 : ∀ g : Nat, g ≤ 3 → e2 3 g = true
  | 0, _ => e2_3_0
  | 1, _ => e2_3_1
  | 2, _ => e2_3_2
  | 3, _ => e2_3_3
  | g + 4, h => by omega
theorem e2_4_0 : e2 4 0 = true := by decide +kernel
theorem e2_4_1 : e2 4 1 = true := by decide +kernel
theorem e2_4_2 : e2 4 2 = true := by decide +kernel
theorem e2_4_3 : e2 4 3 = true := by decide +kernel
theorem e2_4_4 : e2 4 4 = true := by decide +kernel
theorem e2_4 : ∀ g : Nat, g ≤ 4 → e2 4 g = true
  | 0, _ => e2_4_0
  | 1, _ => e2_4_1
  | 2, _ => e2_4_2
  | 3, _ => e2_4_3
  | 4, _ => e2_4_4
  | g + 5, h => by omega
theorem e2_5_0 : e2 5 0 = true := by decide +kernel
theorem e2_5_1 : e2 5 1 = true := by decide +kernel
theorem e2_5_2 : e2 5 2 = true := by decide +kernel
theorem e2_5_3 : e2 5 3 = true := by decide +kernel
theorem e2_5_4 : e2 5 4 = true := by decide +kernel
theorem e2_5_5 : e2 5 5 = true := by decide +kernel
theorem e2_5 : ∀ g : Nat, g ≤ 5 → e2 5 g = true
  | 0, _ => e2_5_0
  | 1, _ => e2_5_1
  | 2, _ => e2_5_2
  | 3, _ => e2_5_3
  | 4, _ => e2_5_4
  | 5, _ => e2_5_5
  | g + 6, h => by omega
theorem e2_6_0 : e2 6 0 = true := by decide +kernel
theorem e2_6_1 : e2 6 1 = true := by decide +kernel
theorem e2_6_2 : e2 6 2 = true := by decide +kernel
theorem e2_6_3 : e2 6 3 = true := by decide +kernel
theorem e2_6_4 : e2 6 4 = true := by decide +kernel
theorem e2_6_5 : e2 6 5 = true := by decide +kernel
theorem e2_6_6 : e2 6 6 = true := by decide +kernel
theorem e2_6 : ∀ g : Nat, g ≤ 6 → e2 6 g = true
  | 0, _ => e2_6_0
  | 1, _ => e2_6_1
  | 2, _ => e2_6_2
  | 3, _ => e2_6_3
  | 4, _ => e2_6_4
  | 5, _ => e2_6_5
  | 6, _ => e2_6_6
  | g + 7, h => by omega
theorem e2_7_0 : e2 7 0 = true := by decide +kernel
theorem e2_7_1 : e2 7 1 = true := by decide +kernel
theorem e2_7_2 : e2 7 2 = true := by decide +kernel
theorem e2_7_3 : e2 7 3 = true := by decide +kernel
theorem e2_7_4 : e2 7 4 = true := by decide +kernel
theorem e2_7_5 : e2 7 5 = true := by decide +kernel
theorem e2_7_6 : e2 7 6 = true := by decide +kernel
theorem e2_7_7 : e2 7 7 = true := by decide +kernel
theorem e2_7 : ∀ g : Nat, g ≤ 7 → e2 7 g = true
  | 0, _ => e2_7_0
  | 1, _ => e2_7_1
  | 2, _ => e2_7_2
  | 3, _ => e2_7_3
  | 4, _ => e2_7_4
  | 5, _ => e2_7_5
  | 6, _ => e2_7_6
  | 7, _ => e2_7_7
  | g + 8, h => by omega
theorem e2_8_0 : e2 8 0 = true := by decide +kernel
theorem e2_8_1 : e2 8 1 = true := by decide +kernel
theorem e2_8_2 : e2 8 2 = true := by decide +kernel
theorem e2_8_3 : e2 8 3 = true := by decide +kernel
theorem e2_8_4 : e2 8 4 = true := by decide +kernel
theorem e2_8_5 : e2 8 5 = true := by decide +kernel
theorem e2_8_6 : e2 8 6 = true := by decide +kernel
theorem e2_8_7 : e2 8 7 = true := by decide +kernel
theorem e2_8_8 : e2 8 8 = true := by decide +kernel
theorem e2_8 : ∀ g : Nat, g ≤ 8 → e2 8 g = true
  | 0, _ => e2_8_0
  | 1, _ => e2_8_1
  | 2, _ => e2_8_2
  | 3, _ => e2_8_3
  | 4, _ => e2_8_4
  | 5, _ => e2_8_5
  | 6, _ => e2_8_6
  | 7, _ => e2_8_7
  | 8, _ => e2_8_8
  | g + 9, h => by omega
theorem e2_9_0 : e2 9 0 = true := by decide +kernel
theorem e2_9_1 : e2 9 1 = true := by decide +kernel
theorem e2_9_2 : e2 9 2 = true := by decide +kernel
theorem e2_9_3 : e2 9 3 = true := by decide +kernel
theorem e2_9_4 : e2 9 4 = true := by decide +kernel
theorem e2_9_5 : e2 9 5 = true := by decide +kernel
theorem e2_9_6 : e2 9 6 = true := by decide +kernel
theorem e2_9_7 : e2 9 7 = true := by decide +kernel
theorem e2_9_8 : e2 9 8 = true := by decide +kernel
theorem e2_9_9 : e2 9 9 = true := by decide +kernel
theorem e2_9 : ∀ g : Nat, g ≤ 9 → e2 9 g = true
  | 0, _ => e2_9_0
  | 1, _ => e2_9_1
  | 2, _ => e2_9_2
  | 3, _ => e2_9_3
  | 4, _ => e2_9_4
  | 5, _ => e2_9_5
  | 6, _ => e2_9_6
  | 7, _ => e2_9_7
  | 8, _ => e2_9_8
  | 9, _ => e2_9_9
  | g + 10, h => by omega
theorem e2_10_0 : e2 10 0 = true := by decide +kernel
theorem e2_10_1 : e2 10 1 = true := by decide +kernel
theorem e2_10_2 : e2 10 2 = true := by decide +kernel
theorem e2_10_3 : e2 10 3 = true := by decide +kernel
theorem e2_10_4 : e2 10 4 = true := by decide +kernel
theorem e2_10_5 : e2 10 5 = true := by decide +kernel
theorem e2_10_6 : e2 10 6 = true := by decide +kernel
theorem e2_10_7 : e2 10 7 = true := by decide +kernel
theorem e2_10_8 : e2 10 8 = true := by decide +kernel
theorem e2_10_9 : e2 10 9 = true := by decide +kernel
theorem e2_10_10 : e2 10 10 = true := by decide +kernel
theorem e2_10 : ∀ g : Nat, g ≤ 10 → e2 10 g = true
  | 0, _ => e2_10_0
  | 1, _ => e2_10_1
  | 2, _ => e2_10_2
  | 3, _ => e2_10_3
  | 4, _ => e2_10_4
  | 5, _ => e2_10_5
  | 6, _ => e2_10_6
  | 7, _ => e2_10_7
  | 8, _ => e2_10_8
  | 9, _ => e2_10_9
  | 10, _ => e2_10_10
  | g + 11, h => by omega
theorem e2_ok : ∀ n g : Nat, 1 ≤ n → n ≤ 10 → g ≤ n → e2 n g = true
  | 1, g, _, _, h => e2_1 g h
  | 2, g, _, _, h => e2_2 g h
  | 3, g, _, _, h => e2_3 g h
  | 4, g, _, _, h => e2_4 g h
  | 5, g, _, _, h => e2_5 g h
  | 6, g, _, _, h => e2_6 g h
  | 7, g, _, _, h => e2_7 g h
  | 8, g, _, _, h => e2_8 g h
  | 9, g, _, _, h => e2_9 g h
  | 10, g, _, _, h => e2_10 g h
  | 0, _, h, _, _ => by omega
  | n + 11, _, _, h, _ => by omega
theorem e3_1 : e3 1 = true := by decide +kernel
theorem e3_2 : e3 2 = true := by decide +kernel
theorem e3_3 : e3 3 = true := by decide +kernel
theorem e3_4 : e3 4 = true := by decide +kernel
theorem e3_5 : e3 5 = true := by decide +kernel
theorem e3_6 : e3 6 = true := by decide +kernel
theorem e3_7 : e3 7 = true := by decide +kernel
theorem e3_8 : e3 8 = true := by decide +kernel
theorem e3_9 : e3 9 = true := by decide +kernel
theorem e3_10 : e3 10 = true := by decide +kernel
theorem e3_ok : ∀ n : Nat, 1 ≤ n → n ≤ 10 → e3 n = true
  | 1, _, _ => e3_1
  | 2, _, _ => e3_2
  | 3, _, _ => e3_3
  | 4, _, _ => e3_4
  | 5, _, _ => e3_5
  | 6, _, _ => e3_6
  | 7, _, _ => e3_7
  | 8, _, _ => e3_8
  | 9, _, _ => e3_9
  | 10, _, _ => e3_10
  | 0, h, _ => by omega
  | n + 11, _, h => by omega
theorem e5_1 : e5 1 = true := by decide +kernel
theorem e5_2 : e5 2 = true := by decide +kernel
theorem e5_3 : e5 3 = true := by decide +kernel
theorem e5_4 : e5 4 = true := by decide +kernel
theorem e5_5 : e5 5 = true := by decide +kernel
theorem e5_6 : e5 6 = true := by decide +kernel
theorem e5_7 : e5 7 = true := by decide +kernel
theorem e5_8 : e5 8 = true := by decide +kernel
theorem e5_9 : e5 9 = true := by decide +kernel
theorem e5_10 : e5 10 = true := by decide +kernel
theorem e5_ok : ∀ n : Nat, 1 ≤ n → n ≤ 10 → e5 n = true
  | 1, _, _ => e5_1
  | 2, _, _ => e5_2
  | 3, _, _ => e5_3
  | 4, _, _ => e5_4
  | 5, _, _ => e5_5
  | 6, _, _ => e5_6
  | 7, _, _ => e5_7
  | 8, _, _ => e5_8
  | 9, _, _ => e5_9
  | 10, _, _ => e5_10
  | 0, h, _ => by omega
  | n + 11, _, h => by omega
theorem table_eq {n : Nat} (h1 : 1 ≤ n) (hn : n ≤ 10) : m__law_table [.int (n : Int)] = .ok (tabD (tabI n)) := by
  rw [KV.kq_m__law_table, ← gN_eq, ← bN_eq]
  have z := e1_ok n h1 hn
  unfold e1 at z
  simp only [Bool.and_eq_true] at z
  exact rB_eq z.1
theorem factorial_eq {n : Nat} (h1 : 1 ≤ n) (hn : n ≤ 10) : m__law_factorial [.int (n : Int)] = .ok (.int (facI n)) := by
  rw [KV.kq_m__law_factorial, ← gN_eq, ← bN_eq]
  have z := e1_ok n h1 hn
  unfold e1 at z
  simp only [Bool.and_eq_true] at z
  exact rB_eq z.2
theorem goal_eq {n g : Nat} (h1 : 1 ≤ n) (hn : n ≤ 10) (hg : g ≤ n) : ∃ (s : Int) (r : List Int), m__law_backward [tabD (tabI n), .int (g : Int)] = .ok (.lst [.int s, .tup (r.map D.int)]) ∧ r.length = n ∧ (∀ x ∈ r, 0 ≤ x) ∧
    (g = 0 → ∃ t u, m_least_mean_rank [.int (n : Int)] = .ok t ∧ m__law_like 3 [t, .lst [.int (-s), .int (facI n)]] = .ok (.bl true) ∧ m_mean_rank_rule [.int (n : Int)] = .ok u ∧ m__law_like 3 [u, .tup (r.map D.int)] = .ok (.bl true)) ∧
    (g ≠ 0 → ∃ t u, m_top_chance [.int (n : Int), .int (g : Int)] = .ok t ∧ m__law_like 3 [t, .lst [.int s, .int (facI n)]] = .ok (.bl true) ∧ m_top_rule [.int (n : Int), .int (g : Int)] = .ok u ∧ m__law_like 3 [u, .tup (r.map D.int)] = .ok (.bl true)) := by
  rw [KV.kq_m__law_backward, KV.kq_m_least_mean_rank, KV.kq_m_mean_rank_rule, KV.kq_m_top_chance, KV.kq_m_top_rule, KV.kq_m__law_like, ← gN_eq, ← bN_eq]
  have z := e2_ok n g h1 hn hg
  unfold e2 at z
  obtain ⟨b, eb, z⟩ := rB_ok z
  split at z
  · rename_i s xs
    rw [Bool.and_eq_true] at z
    obtain ⟨z1, z2⟩ := z
    split at z1
    · rename_i r er
      rw [Bool.and_eq_true] at z1
      have ex := intsOf_eq er
      subst ex
      refine ⟨s, r, eb, of_decide_eq_true z1.1, fun x hx => of_decide_eq_true (List.all_eq_true.mp z1.2 x hx), fun h => ?_, fun h => ?_⟩
      · rw [if_pos h, Bool.and_eq_true] at z2
        obtain ⟨t, et, y⟩ := rB_ok z2.1
        obtain ⟨u, eu, w⟩ := rB_ok z2.2
        exact ⟨t, u, et, okT_eq y, eu, okT_eq w⟩
      · rw [if_neg h, Bool.and_eq_true] at z2
        obtain ⟨t, et, y⟩ := rB_ok z2.1
        obtain ⟨u, eu, w⟩ := rB_ok z2.2
        exact ⟨t, u, et, okT_eq y, eu, okT_eq w⟩
    · cases z1
  · cases z
theorem pass_eq {n r : Nat} (h1 : 1 ≤ n) (hn : n ≤ 10) (hr : r < n) : ∃ x xs t, m__law_taken [tabD (tabI n), .lst (List.replicate r (.int 0) ++ List.replicate (n - r) (.int 1))] = .ok (.lst (x :: xs)) ∧ m_pass_chance [.int (n : Int), .int (r : Int)] = .ok t ∧ m__law_like 3 [t, .lst [x, .int (facI n)]] = .ok (.bl true) := by
  rw [KV.kq_m__law_taken, KV.kq_m_pass_chance, KV.kq_m__law_like, ← gN_eq, ← bN_eq]
  have z := e3_ok n h1 hn
  unfold e3 at z
  have z := List.all_eq_true.mp z r (List.mem_range.mpr hr)
  obtain ⟨b, eb, z⟩ := rB_ok z
  split at z
  · obtain ⟨t, et, y⟩ := rB_ok z
    exact ⟨_, _, t, eb, et, okT_eq y⟩
  · cases z
theorem many_eq {n k : Nat} {d : D} (h1 : 1 ≤ n) (hn : n ≤ 10) (hk : k < 2) (hd : d ∈ wrM n ∨ ∃ w : Nat, w < 50 ∧ d = .int ((n : Int) + 1 + (w : Int))) : m__law_many_refused [.int (k : Int), .int (n : Int), d] = .ok (.bl true) := by
  rw [KV.kq_m__law_many_refused, ← gN_eq, ← bN_eq]
  have z := e5_ok n h1 hn
  unfold e5 at z
  have z := List.all_eq_true.mp z k (List.mem_range.mpr hk)
  rw [Bool.and_eq_true] at z
  rcases hd with hd | ⟨w, hw, rfl⟩
  · exact okT_eq (List.all_eq_true.mp z.1 d hd)
  · exact okT_eq (List.all_eq_true.mp z.2 w (List.mem_range.mpr hw))
end Z.L56
set_option Elab.async false
set_option linter.all false
set_option maxRecDepth 100000
namespace Z.L56
open PySem PySem.Spec L2
/-! wrong sizes, evaluated -/
def wrS : List D := [.int 0, .int (-1), .int 61, .bl true, .bl false, .non, .str "10", .tup [.int 2], .lst [.int 1, .int 2]]
def e4 : Bool := wrS.all fun d => (List.range 4).all fun w => okT (KV.m__law_size_refused gN bN [.int (w : Int), d, .non])
theorem e4_ok : e4 = true := by decide +kernel
theorem size_eq {w : Nat} {d : D} (hw : w < 4) (hd : d ∈ wrS) : m__law_size_refused [.int (w : Int), d, .non] = .ok (.bl true) := by
  rw [KV.kq_m__law_size_refused, ← gN_eq, ← bN_eq]
  have z := e4_ok
  unfold e4 at z
  exact okT_eq (List.all_eq_true.mp (List.all_eq_true.mp z d hd) w (List.mem_range.mpr hw))
end Z.L56
set_option Elab.async false
set_option linter.all false
set_option maxRecDepth 100000
noncomputable section
namespace Z.L56
open PySem PySem.Spec L2
set_option maxHeartbeats 4000000
local macro_rules | `(tactic| array_get_dec) => `(tactic| first
  | with_reducible refine we_var ?_ | with_reducible refine we_con ?_ | with_reducible refine wa_cons ?_ | with_reducible refine wa_nil ?_
  | with_reducible refine we_bin ?_ | with_reducible refine we_un ?_ | with_reducible refine we_prim ?_
  | with_reducible refine sm_I0 ?_ | with_reducible refine sm_IB ?_ | with_reducible refine sm_eq ?_ | with_reducible refine sm_ne ?_ | with_reducible refine sm_not ?_ | with_reducible refine sm_U ?_
  | with_reducible refine sm_one ?_ | with_reducible refine sm_two ?_ | with_reducible refine sm_ixl ?_ | with_reducible refine sm_ixt ?_ | with_reducible refine sm_ixk ?_
  | with_reducible refine sm_II (by first | assumption | exact cNz_r (by omega) | exact cDiv_r (by omega) (by omega) | exact cMul_l (by omega) | exact cMul_r (by omega) | exact cMul_fm rfl | decide) ?_
  | with_reducible refine sm_tup (by first | decide | (simp only [List.length_cons, List.length_nil]; omega)) ?_ | with_reducible refine sm_lst (by first | decide | (simp only [List.length_cons, List.length_nil]; omega)) ?_
  | with_reducible refine sm_lenl ?_ | with_reducible refine sm_lent ?_ | with_reducible refine sm_lenk ?_
  | with_reducible refine sm_fld (by with_unfolding_all exact rfl) ?_ | with_reducible refine sm_atc (by with_unfolding_all exact rfl) ?_
  | with_reducible refine sm_isT (by with_unfolding_all exact rfl) ?_ | with_reducible refine sm_isF (by with_unfolding_all exact rfl) ?_ | with_reducible refine sm_nnT (by with_unfolding_all exact rfl) ?_ | with_reducible refine sm_nnF (by with_unfolding_all exact rfl) ?_
  | with_reducible refine setN_of ?_ | with_reducible refine lk_of ?_
  | with_reducible refine bl_of ?_ | with_reducible refine in_of ?_ | with_reducible refine lst_of ?_ | with_reducible refine tup_of ?_ | with_reducible refine ins_of ?_ | with_reducible refine non_of ?_
  | with_reducible refine is1_of ?_ | with_reducible refine is2_of ?_ | with_reducible refine is3_of ?_ | with_reducible refine two_of ?_
  | with_reducible refine ws_set ?_ | with_reducible refine ws_if ?_ | with_reducible refine ws_ret ?_ | with_reducible refine ws_retN ?_ | with_reducible refine ws_skip ?_
  | with_reducible refine ws_brk ?_ | with_reducible refine ws_cnt ?_ | with_reducible refine ws_drop ?_ | with_reducible refine ws_asg ?_ | with_reducible refine ws_app ?_ | with_reducible refine ws_ext ?_ | with_reducible refine ws_setix ?_
  | with_reducible refine ws_fset ?_ | with_reducible refine ws_par ?_ | with_reducible refine ws_aug ?_ | with_reducible refine ws_for ?_ | with_reducible refine ws_try ?_
  | with_reducible refine sm_gtN ?_ | with_reducible refine sm_gtT rfl ?_ | with_reducible refine sm_gtCons ?_ | with_reducible refine sm_gtNil ?_
  | with_reducible refine we_call ?_ | with_reducible refine we_callB ?_ | with_reducible refine we_meth ?_ | with_reducible refine we_make ?_ | with_reducible refine we_callK ?_ | with_reducible refine we_makeK ?_ | with_reducible refine we_makeL ?_
  | with_reducible refine we_fldN ?_ | with_reducible refine we_unN ?_ | with_reducible refine we_binN ?_ | with_reducible refine we_sl ?_ | with_reducible refine we_slN ?_ | with_reducible refine we_mov ?_ | with_reducible refine we_pop ?_
  | with_reducible refine we_if ?_ | with_reducible refine we_and ?_ | with_reducible refine we_or ?_ | with_reducible refine we_chain ?_ | with_reducible refine we_comp ?_
  | with_reducible refine wt_val ?_ | with_reducible refine wt_and ?_ | with_reducible refine wt_or ?_ | with_reducible refine wt_not ?_ | with_reducible refine wt_yes ?_
  | with_reducible refine wo_none ?_ | with_reducible refine wo_part ?_
  | with_reducible refine wa_itL ?_ | with_reducible refine wa_itT ?_ | with_reducible refine wa_seqD ?_ | with_reducible refine wa_r1 ?_ | with_reducible refine wa_r2 ?_ | with_reducible refine wa_r3 ?_
  | with_reducible refine br_t ?_ | with_reducible refine br_f ?_ | with_reducible refine br_n ?_ | with_reducible refine br_dt (by assumption) ?_ | with_reducible refine br_df (by assumption) ?_
  | with_reducible refine sm_put1 ?_ | with_reducible refine sm_put2 ?_ | with_reducible refine sm_put3 ?_ | with_reducible refine sm_ioI ?_ | with_reducible refine sm_pow (by decide) ?_
  | with_reducible refine we_opO ?_ | with_reducible refine ws_insr ?_ | with_reducible refine sm_tupRevL ?_ | with_reducible refine sm_tupRevK ?_ | with_reducible refine sm_seqL ?_ | with_reducible refine sm_seqK ?_ | with_reducible refine sm_seqT ?_
  | with_reducible refine or_new (by with_unfolding_all exact rfl) ?_
  | with_reducible refine sm_toL ?_ | with_reducible refine sm_toT ?_ | with_reducible refine sm_toK ?_ | with_reducible refine sm_loL ?_ | with_reducible refine sm_loT ?_ | with_reducible refine sm_loK ?_
  | with_reducible refine ws_raise ?_ | with_reducible refine ws_tryAs ?_ | with_reducible refine we_fldX (by with_unfolding_all exact rfl) ?_ | with_reducible refine wa_zip ?_ | with_reducible refine zp_ll ?_ | with_reducible refine zp_tt ?_ | with_reducible refine sm_lstRev ?_ | with_reducible refine we_isX (by with_unfolding_all exact rfl) ?_ | with_reducible refine we_callKM ?_ | with_reducible refine sm_catA (by simp) ?_)
local macro_rules | `(tactic| infer_instance) => `(tactic| first | array_get_dec | with_reducible refine ws_seq ?_)
section
variable {Q : D → Prop} {QB : D → D → Prop} {E : Er}
theorem lows_le {n p : Nat} {rule : List Int} (hp : p < n) : (lows n rule).getD p 0 ≤ p + 1 := by
  have e : (lows n rule)[p]? = some ((lows n rule).getD p 0) := by rw [List.getD_eq_getElem?_getD, List.getElem?_eq_getElem (by rw [lows_len]; exact hp)]; rfl
  exact (lows_at e).1
theorem rule_at {rule : List Int} {rD : D} {n : Nat} (hR : rD = .lst (rule.map D.int) ∨ rD = .tup (rule.map D.int)) (hl : rule.length = n) : ∀ p, p < n → gIx rD (.int (p : Int)) = some (.int (rule.getD p 0)) := fun p hp => by
  have e : rule[p]? = some (rule.getD p 0) := by rw [List.getD_eq_getElem?_getD, List.getElem?_eq_getElem (by omega)]; rfl
  rcases hR with rfl | rfl
  · exact atI_nat (by rw [List.getElem?_map, e]; rfl)
  · exact atI_nat (by rw [List.getElem?_map, e]; rfl)
theorem chances_w {n : Nat} {rule : List Int} {rD : D} (hR : rD = .lst (rule.map D.int) ∨ rD = .tup (rule.map D.int)) (h1 : 1 ≤ n) (hn : n ≤ 10) (hl : rule.length = n) (h0 : ∀ r ∈ rule, 0 ≤ r) (k : Q (.tup ((takenI (tabI n) n (lows n rule)).map fun c => .lst [.int c, .int (facI n)]))) : WR (m__law_chances [tabD (tabI n), rD, .int (facI n)]) Q E := by
  unfold m__law_chances
  refine wr_fn (by simp only [List.map_cons, List.map_nil, List.cons_append, List.nil_append, Nat.reduceSub, List.replicate_succ, List.replicate_zero]; rfl) ?_
  unfold b__law_chances
  repeat infer_instance
  refine taken_w (rule := rule) h1 hn hl h0 (rule_at hR hl) ?_
  repeat infer_instance
  refine ⟨by rw [List.length_map, taken_len h1 hn lows_len fun p hp => lows_le hp]; omega, ?_⟩
  refine wc_map (enc := D.int) (fun c => .lst [.int c, .int (facI n)]) (fun c hc => ?_) ?_
  · unfold l__law_chances_e1_17
    repeat infer_instance
    exact ⟨rfl, rfl⟩
  repeat infer_instance
  exact k
theorem like_fol {n : Nat} {rule : List Int} (h1 : 1 ≤ n) (hn : n ≤ 10) (k : Q (.bl true)) : WR (m__law_like 3 [.tup ((folQ n (lows n rule)).map frD), .tup ((takenI (tabI n) n (lows n rule)).map fun c => .lst [.int c, .int (facI n)])]) Q E := by
  have F0 := facI_pos n
  have Fb : Bit 9000 (facI n) := by
    have z : ∀ n < 11, (facI n).natAbs < 2 ^ 22 := by decide
    exact Bit.mono (a := 22) (z n (by omega)) (by decide)
  have hlen := taken_len h1 hn (lows_len (rule := rule)) fun p hp => lows_le hp
  rw [fol_eq h1 hn (lows_len (rule := rule)) fun p hp => lows_le hp]
  refine likeT_w (j := 1) (by simp) (by simp; omega) (fun i x y hx hy => ?_) k
  rw [List.getElem?_map, List.getElem?_map] at hx
  rw [List.getElem?_map] at hy
  cases q : (takenI (tabI n) n (lows n rule))[i]? with
  | none => rw [q] at hy; cases hy
  | some c =>
    rw [q] at hx hy
    cases hx; cases hy
    refine likeF_w F0 Fb ?_
    rw [decide_eq_true rfl]
theorem goal_w {n g : Nat} (h1 : 1 ≤ n) (hn : n ≤ 10) (hg : g ≤ n) (k : Q (.bl true)) : WR (m__law_goal_holds [.int (n : Int), .int (g : Int), tabD (tabI n), .int (facI n)]) Q E := by
  obtain ⟨s, r, b1, rl, rn, z0, z1⟩ := goal_eq h1 hn hg
  unfold m__law_goal_holds
  refine wr_fn (by simp only [List.map_cons, List.map_nil, List.cons_append, List.nil_append, Nat.reduceSub, List.replicate_succ, List.replicate_zero]; rfl) ?_
  unfold b__law_goal_holds
  repeat infer_instance
  refine wr_eq b1 ?_
  repeat infer_instance
  refine br_d (fun c => ?_) (fun c => ?_)
  · obtain ⟨t, u, t1, t2, t3, t4⟩ := z0 (by omega)
    repeat infer_instance
    refine wr_eq t1 ?_
    repeat infer_instance
    refine wr_eq t2 ?_
    repeat infer_instance
    refine wr_eq t3 ?_
    repeat infer_instance
    refine wr_eq t4 ?_
    repeat infer_instance
    refine followed_w (.inr rfl) h1 hn rl rn ?_
    repeat infer_instance
    refine chances_w (.inr rfl) h1 hn rl rn ?_
    repeat infer_instance
    exact like_fol h1 hn k
  · obtain ⟨t, u, t1, t2, t3, t4⟩ := z1 (by omega)
    repeat infer_instance
    refine wr_eq t1 ?_
    repeat infer_instance
    refine wr_eq t2 ?_
    repeat infer_instance
    refine wr_eq t3 ?_
    repeat infer_instance
    refine wr_eq t4 ?_
    repeat infer_instance
    refine followed_w (.inr rfl) h1 hn rl rn ?_
    repeat infer_instance
    refine chances_w (.inr rfl) h1 hn rl rn ?_
    repeat infer_instance
    exact like_fol h1 hn k
/-! a number of strangers beyond -/
theorem number_bad {v : Int} (hv : 61 ≤ v) (k : E 2 [.int v]) : WR (m_check_number [.int v]) Q E := by
  unfold m_check_number
  refine wr_fn (by simp only [List.map_cons, List.map_nil, List.cons_append, List.nil_append, Nat.reduceSub, List.replicate_succ, List.replicate_zero]; rfl) ?_
  unfold b_check_number
  repeat infer_instance
  refine between_w ?_
  have e : (decide ((1 : Int) ≤ v) && decide (v ≤ 60)) = false := by
    rw [Bool.and_eq_false_iff]
    exact .inr (decide_eq_false (by omega))
  rw [e]
  repeat infer_instance
  exact ⟨rfl, k⟩
theorem top_bad {v : Int} {d : D} (hv : 61 ≤ v) (k : E 2 [.int v]) : WR (m_check_top [.int v, d]) Q E := by
  unfold m_check_top
  refine wr_fn (by simp only [List.map_cons, List.map_nil, List.cons_append, List.nil_append, Nat.reduceSub, List.replicate_succ, List.replicate_zero]; rfl) ?_
  unfold b_check_top
  repeat infer_instance
  exact number_bad hv k
theorem likeH_w {j : Nat} {v : Int} (k : Q (.bl true)) : WR (h__law_like (j + 1) [.int v, .int v]) Q E := by
  unfold h__law_like
  refine wr_fn (by simp only [List.map_cons, List.map_nil, List.cons_append, List.nil_append, Nat.reduceSub, List.replicate_succ, List.replicate_zero]; rfl) ?_
  unfold bh__law_like
  repeat infer_instance
  unfold h__law_plain
  refine wr_fn (by simp only [List.map_cons, List.map_nil, List.cons_append, List.nil_append, Nat.reduceSub, List.replicate_succ, List.replicate_zero]; rfl) ?_
  unfold bh__law_plain
  repeat infer_instance
  rw [decide_eq_true rfl]
  exact k
theorem keptH_w {j : Nat} {v : Int} (k : Q (.bl true)) : WR (h__law_kept (j + 1) [.int v, .int v]) Q E := by
  unfold h__law_kept
  refine wr_fn (by simp only [List.map_cons, List.map_nil, List.cons_append, List.nil_append, Nat.reduceSub, List.replicate_succ, List.replicate_zero]; rfl) ?_
  unfold bh__law_kept
  repeat infer_instance
  exact likeH_w k
theorem copy_w {j : Nat} {v : Int} (k : Q (.int v)) : WR (m__law_copy (j + 1) [.int v]) Q E := by
  unfold m__law_copy
  refine wr_fn (by simp only [List.map_cons, List.map_nil, List.cons_append, List.nil_append, Nat.reduceSub, List.replicate_succ, List.replicate_zero]; rfl) ?_
  unfold b__law_copy
  repeat infer_instance
  exact k
theorem size_w {w : Nat} {v : Int} (hw : w < 4) (hv : 61 ≤ v) (k : Q (.bl true)) : WR (m__law_size_refused [.int (w : Int), .int v, .non]) Q E := by
  unfold m__law_size_refused
  refine wr_fn (by simp only [List.map_cons, List.map_nil, List.cons_append, List.nil_append, Nat.reduceSub, List.replicate_succ, List.replicate_zero]; rfl) ?_
  unfold b__law_size_refused
  repeat infer_instance
  refine copy_w ?_
  repeat infer_instance
  refine br_d (fun c => ?_) (fun c => ?_)
  · unfold m_top_chance
    repeat infer_instance
    refine wr_fn (by simp only [List.map_cons, List.map_nil, List.cons_append, List.nil_append, Nat.reduceSub, List.replicate_succ, List.replicate_zero]; rfl) ?_
    unfold b_top_chance
    repeat infer_instance
    refine top_bad hv ?_
    refine hd_inE rfl (by simp only [supE, List.set_cons_succ, List.set_cons_zero]; rfl) ?_
    repeat infer_instance
    refine keptH_w ?_
    repeat infer_instance
    exact ⟨rfl, k⟩
  · repeat infer_instance
    refine br_d (fun c => ?_) (fun c => ?_)
    · unfold m_top_rule
      repeat infer_instance
      refine wr_fn (by simp only [List.map_cons, List.map_nil, List.cons_append, List.nil_append, Nat.reduceSub, List.replicate_succ, List.replicate_zero]; rfl) ?_
      unfold b_top_rule
      repeat infer_instance
      refine top_bad hv ?_
      refine hd_inE rfl (by simp only [supE, List.set_cons_succ, List.set_cons_zero]; rfl) ?_
      repeat infer_instance
      refine keptH_w ?_
      repeat infer_instance
      exact ⟨rfl, k⟩
    · repeat infer_instance
      refine br_d (fun c => ?_) (fun c => ?_)
      · unfold m_least_mean_rank
        repeat infer_instance
        refine wr_fn (by simp only [List.map_cons, List.map_nil, List.cons_append, List.nil_append, Nat.reduceSub, List.replicate_succ, List.replicate_zero]; rfl) ?_
        unfold b_least_mean_rank
        repeat infer_instance
        refine number_bad hv ?_
        refine hd_inE rfl (by simp only [supE, List.set_cons_succ, List.set_cons_zero]; rfl) ?_
        repeat infer_instance
        refine keptH_w ?_
        repeat infer_instance
        exact ⟨rfl, k⟩
      · unfold m_mean_rank_rule
        repeat infer_instance
        refine wr_fn (by simp only [List.map_cons, List.map_nil, List.cons_append, List.nil_append, Nat.reduceSub, List.replicate_succ, List.replicate_zero]; rfl) ?_
        unfold b_mean_rank_rule
        repeat infer_instance
        refine number_bad hv ?_
        refine hd_inE rfl (by simp only [supE, List.set_cons_succ, List.set_cons_zero]; rfl) ?_
        repeat infer_instance
        refine keptH_w ?_
        repeat infer_instance
        exact ⟨rfl, k⟩
end
end Z.L56
end
set_option Elab.async false
set_option linter.all false
set_option maxRecDepth 100000
noncomputable section
namespace Z.L56
open PySem PySem.Spec L2
set_option maxHeartbeats 4000000
local macro_rules | `(tactic| array_get_dec) => `(tactic| first
  | with_reducible refine we_var ?_ | with_reducible refine we_con ?_ | with_reducible refine wa_cons ?_ | with_reducible refine wa_nil ?_
  | with_reducible refine we_bin ?_ | with_reducible refine we_un ?_ | with_reducible refine we_prim ?_
  | with_reducible refine sm_I0 ?_ | with_reducible refine sm_IB ?_ | with_reducible refine sm_eq ?_ | with_reducible refine sm_ne ?_ | with_reducible refine sm_not ?_ | with_reducible refine sm_U ?_
  | with_reducible refine sm_one ?_ | with_reducible refine sm_two ?_ | with_reducible refine sm_ixl ?_ | with_reducible refine sm_ixt ?_ | with_reducible refine sm_ixk ?_
  | with_reducible refine sm_II (by first | assumption | exact cNz_r (by omega) | exact cDiv_r (by omega) (by omega) | exact cMul_l (by omega) | exact cMul_r (by omega) | exact cMul_fm rfl | decide) ?_
  | with_reducible refine sm_tup (by first | decide | (simp only [List.length_cons, List.length_nil]; omega)) ?_ | with_reducible refine sm_lst (by first | decide | (simp only [List.length_cons, List.length_nil]; omega)) ?_
  | with_reducible refine sm_lenl ?_ | with_reducible refine sm_lent ?_ | with_reducible refine sm_lenk ?_
  | with_reducible refine sm_fld (by with_unfolding_all exact rfl) ?_ | with_reducible refine sm_atc (by with_unfolding_all exact rfl) ?_
  | with_reducible refine sm_isT (by with_unfolding_all exact rfl) ?_ | with_reducible refine sm_isF (by with_unfolding_all exact rfl) ?_ | with_reducible refine sm_nnT (by with_unfolding_all exact rfl) ?_ | with_reducible refine sm_nnF (by with_unfolding_all exact rfl) ?_
  | with_reducible refine setN_of ?_ | with_reducible refine lk_of ?_
  | with_reducible refine bl_of ?_ | with_reducible refine in_of ?_ | with_reducible refine lst_of ?_ | with_reducible refine tup_of ?_ | with_reducible refine ins_of ?_ | with_reducible refine non_of ?_
  | with_reducible refine is1_of ?_ | with_reducible refine is2_of ?_ | with_reducible refine is3_of ?_ | with_reducible refine two_of ?_
  | with_reducible refine ws_set ?_ | with_reducible refine ws_if ?_ | with_reducible refine ws_ret ?_ | with_reducible refine ws_retN ?_ | with_reducible refine ws_skip ?_
  | with_reducible refine ws_brk ?_ | with_reducible refine ws_cnt ?_ | with_reducible refine ws_drop ?_ | with_reducible refine ws_asg ?_ | with_reducible refine ws_app ?_ | with_reducible refine ws_ext ?_ | with_reducible refine ws_setix ?_
  | with_reducible refine ws_fset ?_ | with_reducible refine ws_par ?_ | with_reducible refine ws_aug ?_ | with_reducible refine ws_for ?_ | with_reducible refine ws_try ?_
  | with_reducible refine sm_gtN ?_ | with_reducible refine sm_gtT rfl ?_ | with_reducible refine sm_gtCons ?_ | with_reducible refine sm_gtNil ?_
  | with_reducible refine we_call ?_ | with_reducible refine we_callB ?_ | with_reducible refine we_meth ?_ | with_reducible refine we_make ?_ | with_reducible refine we_callK ?_ | with_reducible refine we_makeK ?_ | with_reducible refine we_makeL ?_
  | with_reducible refine we_fldN ?_ | with_reducible refine we_unN ?_ | with_reducible refine we_binN ?_ | with_reducible refine we_sl ?_ | with_reducible refine we_slN ?_ | with_reducible refine we_mov ?_ | with_reducible refine we_pop ?_
  | with_reducible refine we_if ?_ | with_reducible refine we_and ?_ | with_reducible refine we_or ?_ | with_reducible refine we_chain ?_ | with_reducible refine we_comp ?_
  | with_reducible refine wt_val ?_ | with_reducible refine wt_and ?_ | with_reducible refine wt_or ?_ | with_reducible refine wt_not ?_ | with_reducible refine wt_yes ?_
  | with_reducible refine wo_none ?_ | with_reducible refine wo_part ?_
  | with_reducible refine wa_itL ?_ | with_reducible refine wa_itT ?_ | with_reducible refine wa_seqD ?_ | with_reducible refine wa_r1 ?_ | with_reducible refine wa_r2 ?_ | with_reducible refine wa_r3 ?_
  | with_reducible refine br_t ?_ | with_reducible refine br_f ?_ | with_reducible refine br_n ?_ | with_reducible refine br_dt (by assumption) ?_ | with_reducible refine br_df (by assumption) ?_
  | with_reducible refine sm_put1 ?_ | with_reducible refine sm_put2 ?_ | with_reducible refine sm_put3 ?_ | with_reducible refine sm_ioI ?_ | with_reducible refine sm_pow (by decide) ?_
  | with_reducible refine we_opO ?_ | with_reducible refine ws_insr ?_ | with_reducible refine sm_tupRevL ?_ | with_reducible refine sm_tupRevK ?_ | with_reducible refine sm_seqL ?_ | with_reducible refine sm_seqK ?_ | with_reducible refine sm_seqT ?_
  | with_reducible refine or_new (by with_unfolding_all exact rfl) ?_
  | with_reducible refine sm_toL ?_ | with_reducible refine sm_toT ?_ | with_reducible refine sm_toK ?_ | with_reducible refine sm_loL ?_ | with_reducible refine sm_loT ?_ | with_reducible refine sm_loK ?_
  | with_reducible refine ws_raise ?_ | with_reducible refine ws_tryAs ?_ | with_reducible refine we_fldX (by with_unfolding_all exact rfl) ?_ | with_reducible refine wa_zip ?_ | with_reducible refine zp_ll ?_ | with_reducible refine zp_tt ?_ | with_reducible refine sm_lstRev ?_ | with_reducible refine we_isX (by with_unfolding_all exact rfl) ?_ | with_reducible refine we_callKM ?_ | with_reducible refine sm_catA (by simp) ?_)
local macro_rules | `(tactic| infer_instance) => `(tactic| first | array_get_dec | with_reducible refine ws_seq ?_)
theorem rep_eq {d : D} {r : Nat} (h : r < 100) : gRep (.lst [d]) (.int (r : Int)) = some (.lst (List.replicate r d)) := by
  have e : gRep (.lst [d]) (.int (r : Int)) = if (r : Int) < 1000 ∧ -1000 < (r : Int) ∧ [d].length * (r : Int).toNat ≤ 1000 then some (.lst (List.replicate (r : Int).toNat [d]).flatten) else none := rfl
  rw [e, if_pos ⟨by omega, by omega, by simp; omega⟩]
  simp
theorem asked_w (cs : List Int) : WR (m__law_asked [.kls (cs.map D.int)]) (fun d => d = .bl true) E0 := by
  unfold m__law_asked
  refine wr_fn (by simp only [List.map_cons, List.map_nil, List.cons_append, List.nil_append, Nat.reduceSub, List.replicate_succ, List.replicate_zero]; rfl) ?_
  unfold b__law_asked
  repeat infer_instance
  have hf : Fd (.lst [.lst (cs.map D.int), .int 0, .int 0, .int 0]) := ⟨cs, 0, 0, 0, rfl⟩
  refine pick_w 10 hf (by omega) (by omega) fun r f1 hf1 r0 r1 => ?_
  repeat array_get_dec
  refine ws_seq ?_
  refine ws_cut (fun ρ => ∃ (n : Nat) (f : D), ρ = [some (.kls (cs.map D.int)), some f, some (.int (n : Int)), none, none, none, none, none, none, none, none, none, none, none, none] ∧ Fd f ∧ 1 ≤ n ∧ n ≤ 10) ?_ ?_
  · repeat infer_instance
    refine pick_w 5 hf1 (by omega) (by omega) fun q f2 hf2 q0 q1 => ?_
    repeat infer_instance
    refine br_d (fun c => ?_) (fun c => ?_)
    · repeat infer_instance
      exact ⟨10, f2, rfl, hf2, by omega, by omega⟩
    · repeat infer_instance
      exact ⟨(1 + r).toNat, f2, by rw [show (((1 + r).toNat : Nat) : Int) = 1 + r by omega], hf2, by omega, by omega⟩
  rintro ρ ⟨n, f1, rfl, hf1, h1, hn⟩
  repeat infer_instance
  refine wr_eq (table_eq h1 hn) ?_
  repeat infer_instance
  refine wr_eq (factorial_eq h1 hn) ?_
  repeat infer_instance
  refine pick_w (n : Int) hf1 (by omega) (by omega) fun r1 f2 hf2 r10 r11 => ?_
  repeat infer_instance
  refine pick_w 3 hf2 (by omega) (by omega) fun r2 f3 hf3 r20 r21 => ?_
  repeat infer_instance
  obtain ⟨g1, hg1⟩ : ∃ g : Nat, (g : Int) = 1 + r1 := ⟨(1 + r1).toNat, by omega⟩
  obtain ⟨g2, hg2⟩ : ∃ g : Nat, (g : Int) = 1 + Int.fdiv (r2 * ((n : Int) - 1)) 2 := by
    rw [fdiv_pos _ (by decide)]
    have := Int.mul_nonneg r20 (show 0 ≤ (n : Int) - 1 by omega)
    exact ⟨(1 + r2 * ((n : Int) - 1) / 2).toNat, by omega⟩
  have hg2n : g2 ≤ n := by
    rw [fdiv_pos _ (by decide)] at hg2
    have := Int.mul_le_mul_of_nonneg_right (show r2 ≤ 2 by omega) (show 0 ≤ (n : Int) - 1 by omega)
    omega
  rw [← hg1, ← hg2]
  refine wf_map (enc := fun g : Nat => D.int (g : Int)) (as := [0, g1, g2]) (fun i ρ => ∃ x6 : Option D, ρ = [some (.kls (cs.map D.int)), some f3, some (.int (n : Int)), some (tabD (tabI n)), some (.int (facI n)), some (.lst [.int 0, .int (g1 : Int), .int (g2 : Int)]), x6, none, none, none, none, none, none, none, none]) ⟨none, rfl⟩ ?_ ?_
  · rintro i g ρ hg ⟨x6, rfl⟩
    have hgn : g ≤ n := by
      have m := List.mem_of_getElem? hg
      simp at m
      omega
    unfold l__law_asked_b8
    repeat infer_instance
    refine goal_w h1 hn hgn ?_
    repeat infer_instance
    exact ⟨_, rfl⟩
  rintro ρ ⟨x6, rfl⟩
  repeat infer_instance
  refine ⟨by unfold Rng; omega, ?_⟩
  rw [show (n : Int).toNat = n by omega]
  refine wf_rng (fun i ρ => ∃ (x8 : Option D) (f : D) (rs : List Int), ρ = [some (.kls (cs.map D.int)), some f, some (.int (n : Int)), some (tabD (tabI n)), some (.int (facI n)), some (.lst [.int 0, .int (g1 : Int), .int (g2 : Int)]), x6, some (.lst (rs.map D.int)), x8, none, none, none, none, none, none] ∧ Fd f ∧ rs.length = i ∧ ∀ x ∈ rs, 0 ≤ x) ⟨none, f3, [], rfl, hf3, rfl, fun _ h => nomatch h⟩ ?_ ?_
  · rintro i ρ hi ⟨x8, f, rs, rfl, hf, hl, h0⟩
    unfold l__law_asked_b12
    repeat infer_instance
    refine pick_w _ hf (by omega) (by omega) fun a f4 hf4 a0 a1 => ?_
    repeat infer_instance
    refine pick_w 2 hf4 (by omega) (by omega) fun b f5 hf5 b0 b1 => ?_
    repeat infer_instance
    refine ⟨by rw [List.length_map]; omega, ?_⟩
    repeat infer_instance
    refine ⟨_, f5, rs ++ [a * b], by rw [List.map_append]; rfl, hf5, by simp [hl], fun q hq => ?_⟩
    rcases List.mem_append.mp hq with z | z
    · exact h0 q z
    · rw [List.mem_singleton] at z; subst z; exact Int.mul_nonneg a0 b0
  rintro ρ ⟨x8, f, rs, rfl, hf, hl, h0⟩
  repeat infer_instance
  refine pick_w 2 hf (by omega) (by omega) fun b f4 hf4 b0 b1 => ?_
  repeat infer_instance
  refine pick_w (n : Int) hf4 (by omega) (by omega) fun j f5 hf5 j0 j1 => ?_
  repeat infer_instance
  obtain ⟨j, rfl⟩ := Int.eq_ofNat_of_zero_le j0
  have hj : j < n := by omega
  refine sm_e (a := (rs.set j (10 ^ 20 * b)).map D.int) (by
    unfold gPut ixN
    rw [if_pos (Int.natCast_nonneg j), if_pos (by rw [List.length_map, hl]; omega), Option.map_some, List.map_set, Int.toNat_natCast]; rfl) ?_
  repeat infer_instance
  have hl2 : (rs.set j (10 ^ 20 * b)).length = n := by rw [List.length_set, hl]
  have h02 : ∀ x ∈ rs.set j (10 ^ 20 * b), 0 ≤ x := fun x hx => by
    rcases List.mem_or_eq_of_mem_set hx with z | z
    · exact h0 x z
    · subst z; exact Int.mul_nonneg (by decide) b0
  generalize rs.set j (10 ^ 20 * b) = rule at hl2 h02 ⊢
  refine followed_w (.inl rfl) h1 hn hl2 h02 ?_
  repeat infer_instance
  refine chances_w (.inl rfl) h1 hn hl2 h02 ?_
  repeat infer_instance
  refine like_fol h1 hn ?_
  repeat infer_instance
  refine pick_w (n : Int) hf5 (by omega) (by omega) fun r f6 hf6 r0 r1 => ?_
  obtain ⟨r, rfl⟩ := Int.eq_ofNat_of_zero_le r0
  have hr : r < n := by omega
  obtain ⟨x, xs, t, t1, t2, t3⟩ := pass_eq h1 hn hr
  repeat infer_instance
  refine sm_e (rep_eq (by omega)) ?_
  repeat infer_instance
  refine sm_e (a := .lst (List.replicate (n - r) (.int 1))) (by rw [show (n : Int) - (r : Int) = ((n - r : Nat) : Int) by omega]; exact rep_eq (by omega)) ?_
  repeat infer_instance
  refine sm_catL (by simp; omega) ?_
  repeat infer_instance
  refine wr_eq t1 ?_
  repeat infer_instance
  refine wr_eq t2 ?_
  repeat infer_instance
  refine sm_ati (show atI (x :: xs) ((0 : Nat) : Int) = some x from atI_nat rfl) ?_
  repeat infer_instance
  refine wr_eq t3 ?_
  repeat infer_instance
  refine pick_w 1000000 hf6 (by omega) (by omega) fun w f7 hf7 w0 w1 => ?_
  repeat infer_instance
  refine pick_w 10 hf7 (by omega) (by omega) fun v f8 hf8 v0 v1 => ?_
  have hw : ∃ d : D, atI [D.int 0, .int (-1), .int 61, .bl true, .bl false, .non, .str "10", .tup [.int 2], .lst [.int 1, .int 2], .int (61 + w)] v = some d ∧ (d ∈ wrS ∨ ∃ u : Int, 61 ≤ u ∧ d = .int u) := by
    obtain ⟨k, rfl⟩ := Int.eq_ofNat_of_zero_le v0
    have hk : k < 10 := by omega
    match k, hk with
    | 0, _ => exact ⟨_, rfl, .inl (by simp [wrS])⟩
    | 1, _ => exact ⟨_, rfl, .inl (by simp [wrS])⟩
    | 2, _ => exact ⟨_, rfl, .inl (by simp [wrS])⟩
    | 3, _ => exact ⟨_, rfl, .inl (by simp [wrS])⟩
    | 4, _ => exact ⟨_, rfl, .inl (by simp [wrS])⟩
    | 5, _ => exact ⟨_, rfl, .inl (by simp [wrS])⟩
    | 6, _ => exact ⟨_, rfl, .inl (by simp [wrS])⟩
    | 7, _ => exact ⟨_, rfl, .inl (by simp [wrS])⟩
    | 8, _ => exact ⟨_, rfl, .inl (by simp [wrS])⟩
    | 9, _ => exact ⟨_, rfl, .inr ⟨_, by omega, rfl⟩⟩
  obtain ⟨d, ed, hd⟩ := hw
  repeat infer_instance
  refine sm_ati ed ?_
  repeat infer_instance
  refine ⟨by unfold Rng; omega, ?_⟩
  refine wf_rng (fun i ρ => ∃ x13 : Option D, ρ = [some (.kls (cs.map D.int)), some f8, some (.int (n : Int)), some (tabD (tabI n)), some (.int (facI n)), some (.lst [.int 0, .int (g1 : Int), .int (g2 : Int)]), x6, some (.lst (rule.map D.int)), x8, some (.int (r : Int)), some (.lst (x :: xs)), some (.lst [.int 0, .int (-1), .int 61, .bl true, .bl false, .non, .str "10", .tup [.int 2], .lst [.int 1, .int 2], .int (61 + w)]), some d, x13, none]) ⟨none, rfl⟩ ?_ ?_
  · rintro i ρ hi ⟨x13, rfl⟩
    have hi : i < 4 := hi
    unfold l__law_asked_b23
    repeat infer_instance
    rw [Int.zero_add]
    rcases hd with hd | ⟨u, hu, rfl⟩
    · refine wr_eq (size_eq hi hd) ?_
      repeat infer_instance
      exact ⟨_, rfl⟩
    · refine size_w hi hu ?_
      repeat infer_instance
      exact ⟨_, rfl⟩
  rintro ρ ⟨x13, rfl⟩
  repeat infer_instance
  refine pick_w 50 hf8 (by omega) (by omega) fun w2 f9 hf9 w20 w21 => ?_
  repeat infer_instance
  refine pick_w 8 hf9 (by omega) (by omega) fun v2 f10 hf10 v20 v21 => ?_
  have hw2 : ∃ d : D, atI [D.int 0, .int ((n : Int) + 1), .int (-1), .bl true, .non, .str "1", .tup [.int 1], .int ((n : Int) + 1 + w2)] v2 = some d ∧ (d ∈ wrM n ∨ ∃ w : Nat, w < 50 ∧ d = .int ((n : Int) + 1 + (w : Int))) := by
    obtain ⟨k, rfl⟩ := Int.eq_ofNat_of_zero_le v20
    have hk : k < 8 := by omega
    match k, hk with
    | 0, _ => exact ⟨_, rfl, .inl (by simp [wrM])⟩
    | 1, _ => exact ⟨_, rfl, .inl (by simp [wrM])⟩
    | 2, _ => exact ⟨_, rfl, .inl (by simp [wrM])⟩
    | 3, _ => exact ⟨_, rfl, .inl (by simp [wrM])⟩
    | 4, _ => exact ⟨_, rfl, .inl (by simp [wrM])⟩
    | 5, _ => exact ⟨_, rfl, .inl (by simp [wrM])⟩
    | 6, _ => exact ⟨_, rfl, .inl (by simp [wrM])⟩
    | 7, _ => exact ⟨_, rfl, .inr ⟨w2.toNat, by omega, by rw [show ((w2.toNat : Nat) : Int) = w2 by omega]⟩⟩
  obtain ⟨d2, ed2, hd2⟩ := hw2
  repeat infer_instance
  refine sm_ati ed2 ?_
  repeat infer_instance
  refine ⟨by unfold Rng; omega, ?_⟩
  refine wf_rng (fun i ρ => ∃ x13 : Option D, ρ = [some (.kls (cs.map D.int)), some f10, some (.int (n : Int)), some (tabD (tabI n)), some (.int (facI n)), some (.lst [.int 0, .int (g1 : Int), .int (g2 : Int)]), x6, some (.lst (rule.map D.int)), x8, some (.int (r : Int)), some (.lst (x :: xs)), some (.lst [.int 0, .int (-1), .int 61, .bl true, .bl false, .non, .str "10", .tup [.int 2], .lst [.int 1, .int 2], .int (61 + w)]), some d, x13, some d2]) ⟨x13, rfl⟩ ?_ ?_
  · rintro i ρ hi ⟨x13, rfl⟩
    have hi : i < 2 := hi
    unfold l__law_asked_b27
    repeat infer_instance
    rw [Int.zero_add]
    refine wr_eq (many_eq h1 hn hi hd2) ?_
    repeat infer_instance
    exact ⟨_, rfl⟩
  rintro ρ ⟨x13, rfl⟩
  repeat infer_instance
  refine goal_w h1 hn (by omega) ?_
  repeat infer_instance
  refine goal_w (g := 0) h1 hn (by omega) ?_
  rfl
theorem law_true (ns : List Int) (_ : ns.length ≤ 63) : m_law [.kls (ns.map D.int)] = .ok (.bl true) := by
  have main : WR (m_law [.kls (ns.map D.int)]) (fun d => d = .bl true) E0 := by
    unfold m_law
    refine wr_fn (by simp only [List.map_cons, List.map_nil, List.cons_append, List.nil_append, Nat.reduceSub, List.replicate_succ, List.replicate_zero]; rfl) ?_
    unfold b_law
    repeat infer_instance
    refine asked_w ns
  obtain ⟨d, e, rfl⟩ := main.get
  exact e
end Z.L56
end
open PySem PySem.W PyProof.Rows
set_option maxRecDepth 100000 in
set_option maxHeartbeats 0 in
theorem PySem.Challenge.cw_choicerealm_k56_strangers_to_ten_holds : PySem.Challenge.rw_choicerealm_k56_strangers_to_ten.Holds := by
  w_on; o_law; k_head; (case hw => w_witness2)
  k_fill
  refine Z.walk (l := PySem.Challenge.rw_choicerealm_k56_strangers_to_ten) (k := 13) rfl rfl ⟨rfl, by decide, by decide⟩ (fun w h Y => PySem.W.kIn_of Y) ?F
  case F =>
    intro w mg fa h KX G hmg
    refine' Z.L56.all_mk Z.L56.law_true KX G hmg ?hc_Frac ?hc_NextError ?hc_Unfit ?hc_WrongSize ?xl_Unfit ?sa_Unfit ?sb_Unfit ?tc_Unfit ?kc_Unfit ?xa_Unfit ?xb_Unfit ?hd_Unfit ?nx_Unfit_what ?xl_WrongSize ?sa_WrongSize ?sb_WrongSize ?tc_WrongSize ?kc_WrongSize ?xa_WrongSize ?xb_WrongSize ?hd_WrongSize ?nx_WrongSize_many ?su_Unfit_WrongSize ?su_WrongSize_WrongSize ?su_WrongSize_Unfit ?nq_WrongSize_Unfit ?ic_Unfit ?ic_WrongSize ?xc_WrongSize ?xm_WrongSize ?su_Unfit_Unfit ?nq_Unfit_WrongSize ?xc_Unfit ?xm_Unfit ?a__law_pick ?l__law_pick ?c__law_pick ?k__law_pick ?a__law_ways ?l__law_ways ?c__law_ways ?k__law_ways ?a__law_table ?l__law_table ?c__law_table ?k__law_table ?a__law_factorial ?l__law_factorial ?c__law_factorial ?k__law_factorial ?a__law_score ?l__law_score ?c__law_score ?k__law_score ?a__law_more ?l__law_more ?c__law_more ?k__law_more ?a__law_backward ?l__law_backward ?c__law_backward ?k__law_backward ?a__law_plain ?l__law_plain ?c__law_plain ?k__law_plain ?a__law_cut ?l__law_cut ?c__law_cut ?k__law_cut ?a__law_frac ?l__law_frac ?c__law_frac ?k__law_frac ?a__law_like ?l__law_like ?c__law_like ?k__law_like ?a_is_integer ?l_is_integer ?c_is_integer ?k_is_integer ?a_is_between ?l_is_between ?c_is_between ?k_is_between ?a_WrongSize___init__ ?ti_WrongSize___init__ ?l_WrongSize___init__ ?c_WrongSize___init__ ?k_WrongSize___init__ ?a_check_number ?l_check_number ?c_check_number ?k_check_number ?a_Frac___init__ ?i_Frac___init__ ?l_Frac___init__ ?lt_Frac___init__ ?c_Frac___init__ ?k_Frac___init__ ?a_Frac___sub__ ?i_Frac___sub__ ?l_Frac___sub__ ?c_Frac___sub__ ?k_Frac___sub__ ?a_Frac___mul__ ?i_Frac___mul__ ?l_Frac___mul__ ?c_Frac___mul__ ?k_Frac___mul__ ?a_Frac___add__ ?i_Frac___add__ ?l_Frac___add__ ?c_Frac___add__ ?k_Frac___add__ ?a_total ?l_total ?c_total ?k_total ?a_mean_of_row ?l_mean_of_row ?c_mean_of_row ?k_mean_of_row ?a_Frac_is_below ?i_Frac_is_below ?l_Frac_is_below ?c_Frac_is_below ?k_Frac_is_below ?a_greatest_of ?l_greatest_of ?c_greatest_of ?k_greatest_of ?a_means_from ?l_means_from ?c_means_from ?k_means_from ?a_rank_worths ?l_rank_worths ?c_rank_worths ?k_rank_worths ?a_least_mean_rank ?l_least_mean_rank ?c_least_mean_rank ?k_least_mean_rank ?a_rule_of ?l_rule_of ?c_rule_of ?k_rule_of ?a_mean_rank_rule ?l_mean_rank_rule ?c_mean_rank_rule ?k_mean_rank_rule ?a_Unfit___init__ ?ti_Unfit___init__ ?l_Unfit___init__ ?c_Unfit___init__ ?k_Unfit___init__ ?a_check_top ?l_check_top ?c_check_top ?k_check_top ?a_rank_weight ?l_rank_weight ?c_rank_weight ?k_rank_weight ?a_top_worths ?l_top_worths ?c_top_worths ?k_top_worths ?a_top_chance ?l_top_chance ?c_top_chance ?k_top_chance ?a_top_rule ?l_top_rule ?c_top_rule ?k_top_rule ?a_is_sequence ?l_is_sequence ?c_is_sequence ?k_is_sequence ?a_limits_of ?l_limits_of ?c_limits_of ?k_limits_of ?a_followed ?l_followed ?c_followed ?k_followed ?a__law_taken ?l__law_taken ?c__law_taken ?k__law_taken ?a__law_chances ?l__law_chances ?c__law_chances ?k__law_chances ?a__law_goal_holds ?l__law_goal_holds ?c__law_goal_holds ?k__law_goal_holds ?a_chance_behind ?l_chance_behind ?c_chance_behind ?k_chance_behind ?a_pass_chance ?l_pass_chance ?c_pass_chance ?k_pass_chance ?a__law_copy ?l__law_copy ?c__law_copy ?k__law_copy ?a__law_kept ?l__law_kept ?c__law_kept ?k__law_kept ?a__law_size_refused ?l__law_size_refused ?c__law_size_refused ?k__law_size_refused ?a__law_many_refused ?l__law_many_refused ?c__law_many_refused ?k__law_many_refused ?a__law_asked ?l__law_asked ?c__law_asked ?k__law_asked ?a_law ?l_law ?c_law ?k_law ?pg_Frac ?hd_Frac ?po_Frac ?sa_Frac ?mk_Frac ?kc_Frac ?sf_Frac ?na_Frac_num ?na_Frac_den ?y0_Frac ?y1_Frac ?y2_Frac ?y3_Frac ?yb0_Frac ?yb1_Frac ?yb2_Frac ?yb3_Frac ?yb4_Frac ?yb5_Frac ?yo0_Frac ?yo1_Frac ?yo2_Frac ?yo3_Frac ?yo4_Frac ?hget ?htk ?hn_abs ?hn_all ?hn_bool ?hn_enumerate ?hn_int ?hn_isinstance ?hn_len ?hn_list ?hn_min ?hn_range ?hn_reversed ?hn_str ?hn_sum ?hn_tuple ?hn_zip ?hm_comb ?hm_gcd ?hk_MOST_STRANGERS
    (case hc_Frac => k_is)
    (case hc_NextError => k_is)
    (case hc_Unfit => k_is)
    (case hc_WrongSize => k_is)
    (case xl_Unfit => k_is)
    (case sa_Unfit => k_is)
    (case sb_Unfit => k_is)
    (case tc_Unfit => k_is)
    (case kc_Unfit => k_is)
    (case xa_Unfit => k_is)
    (case xb_Unfit => k_is)
    (case hd_Unfit => k_is)
    (case nx_Unfit_what => k_is)
    (case xl_WrongSize => k_is)
    (case sa_WrongSize => k_is)
    (case sb_WrongSize => k_is)
    (case tc_WrongSize => k_is)
    (case kc_WrongSize => k_is)
    (case xa_WrongSize => k_is)
    (case xb_WrongSize => k_is)
    (case hd_WrongSize => k_is)
    (case nx_WrongSize_many => k_is)
    (case su_Unfit_WrongSize => first | rfl | k_is)
    (case su_WrongSize_WrongSize => first | rfl | k_is)
    (case su_WrongSize_Unfit => first | rfl | k_is)
    (case nq_WrongSize_Unfit => rfl)
    (case ic_Unfit => k_is)
    (case ic_WrongSize => k_is)
    (case xc_WrongSize => k_is)
    (case xm_WrongSize => k_is)
    (case su_Unfit_Unfit => first | rfl | k_is)
    (case nq_Unfit_WrongSize => rfl)
    (case xc_Unfit => k_is)
    (case xm_Unfit => k_is)
    (case a__law_pick => k_is)
    (case l__law_pick => k_is)
    (case c__law_pick => k_is)
    (case k__law_pick => k_is)
    (case a__law_ways => k_is)
    (case l__law_ways => k_is)
    (case c__law_ways => k_is)
    (case k__law_ways => k_is)
    (case a__law_table => k_is)
    (case l__law_table => k_is)
    (case c__law_table => k_is)
    (case k__law_table => k_is)
    (case a__law_factorial => k_is)
    (case l__law_factorial => k_is)
    (case c__law_factorial => k_is)
    (case k__law_factorial => k_is)
    (case a__law_score => k_is)
    (case l__law_score => k_is)
    (case c__law_score => k_is)
    (case k__law_score => k_is)
    (case a__law_more => k_is)
    (case l__law_more => k_is)
    (case c__law_more => k_is)
    (case k__law_more => k_is)
    (case a__law_backward => k_is)
    (case l__law_backward => k_is)
    (case c__law_backward => k_is)
    (case k__law_backward => k_is)
    (case a__law_plain => k_is)
    (case l__law_plain => k_is)
    (case c__law_plain => k_is)
    (case k__law_plain => k_is)
    (case a__law_cut => k_is)
    (case l__law_cut => k_is)
    (case c__law_cut => k_is)
    (case k__law_cut => k_is)
    (case a__law_frac => k_is)
    (case l__law_frac => k_is)
    (case c__law_frac => k_is)
    (case k__law_frac => k_is)
    (case a__law_like => k_is)
    (case l__law_like => k_is)
    (case c__law_like => k_is)
    (case k__law_like => k_is)
    (case a_is_integer => k_is)
    (case l_is_integer => k_is)
    (case c_is_integer => k_is)
    (case k_is_integer => k_is)
    (case a_is_between => k_is)
    (case l_is_between => k_is)
    (case c_is_between => k_is)
    (case k_is_between => k_is)
    (case a_WrongSize___init__ => k_is)
    (case ti_WrongSize___init__ => k_is)
    (case l_WrongSize___init__ => k_is)
    (case c_WrongSize___init__ => k_is)
    (case k_WrongSize___init__ => k_is)
    (case a_check_number => k_is)
    (case l_check_number => k_is)
    (case c_check_number => k_is)
    (case k_check_number => k_is)
    (case a_Frac___init__ => k_is)
    (case i_Frac___init__ => k_is)
    (case l_Frac___init__ => k_is)
    (case lt_Frac___init__ => k_is)
    (case c_Frac___init__ => k_is)
    (case k_Frac___init__ => k_is)
    (case a_Frac___sub__ => k_is)
    (case i_Frac___sub__ => k_is)
    (case l_Frac___sub__ => k_is)
    (case c_Frac___sub__ => k_is)
    (case k_Frac___sub__ => k_is)
    (case a_Frac___mul__ => k_is)
    (case i_Frac___mul__ => k_is)
    (case l_Frac___mul__ => k_is)
    (case c_Frac___mul__ => k_is)
    (case k_Frac___mul__ => k_is)
    (case a_Frac___add__ => k_is)
    (case i_Frac___add__ => k_is)
    (case l_Frac___add__ => k_is)
    (case c_Frac___add__ => k_is)
    (case k_Frac___add__ => k_is)
    (case a_total => k_is)
    (case l_total => k_is)
    (case c_total => k_is)
    (case k_total => k_is)
    (case a_mean_of_row => k_is)
    (case l_mean_of_row => k_is)
    (case c_mean_of_row => k_is)
    (case k_mean_of_row => k_is)
    (case a_Frac_is_below => k_is)
    (case i_Frac_is_below => k_is)
    (case l_Frac_is_below => k_is)
    (case c_Frac_is_below => k_is)
    (case k_Frac_is_below => k_is)
    (case a_greatest_of => k_is)
    (case l_greatest_of => k_is)
    (case c_greatest_of => k_is)
    (case k_greatest_of => k_is)
    (case a_means_from => k_is)
    (case l_means_from => k_is)
    (case c_means_from => k_is)
    (case k_means_from => k_is)
    (case a_rank_worths => k_is)
    (case l_rank_worths => k_is)
    (case c_rank_worths => k_is)
    (case k_rank_worths => k_is)
    (case a_least_mean_rank => k_is)
    (case l_least_mean_rank => k_is)
    (case c_least_mean_rank => k_is)
    (case k_least_mean_rank => k_is)
    (case a_rule_of => k_is)
    (case l_rule_of => k_is)
    (case c_rule_of => k_is)
    (case k_rule_of => k_is)
    (case a_mean_rank_rule => k_is)
    (case l_mean_rank_rule => k_is)
    (case c_mean_rank_rule => k_is)
    (case k_mean_rank_rule => k_is)
    (case a_Unfit___init__ => k_is)
    (case ti_Unfit___init__ => k_is)
    (case l_Unfit___init__ => k_is)
    (case c_Unfit___init__ => k_is)
    (case k_Unfit___init__ => k_is)
    (case a_check_top => k_is)
    (case l_check_top => k_is)
    (case c_check_top => k_is)
    (case k_check_top => k_is)
    (case a_rank_weight => k_is)
    (case l_rank_weight => k_is)
    (case c_rank_weight => k_is)
    (case k_rank_weight => k_is)
    (case a_top_worths => k_is)
    (case l_top_worths => k_is)
    (case c_top_worths => k_is)
    (case k_top_worths => k_is)
    (case a_top_chance => k_is)
    (case l_top_chance => k_is)
    (case c_top_chance => k_is)
    (case k_top_chance => k_is)
    (case a_top_rule => k_is)
    (case l_top_rule => k_is)
    (case c_top_rule => k_is)
    (case k_top_rule => k_is)
    (case a_is_sequence => k_is)
    (case l_is_sequence => k_is)
    (case c_is_sequence => k_is)
    (case k_is_sequence => k_is)
    (case a_limits_of => k_is)
    (case l_limits_of => k_is)
    (case c_limits_of => k_is)
    (case k_limits_of => k_is)
    (case a_followed => k_is)
    (case l_followed => k_is)
    (case c_followed => k_is)
    (case k_followed => k_is)
    (case a__law_taken => k_is)
    (case l__law_taken => k_is)
    (case c__law_taken => k_is)
    (case k__law_taken => k_is)
    (case a__law_chances => k_is)
    (case l__law_chances => k_is)
    (case c__law_chances => k_is)
    (case k__law_chances => k_is)
    (case a__law_goal_holds => k_is)
    (case l__law_goal_holds => k_is)
    (case c__law_goal_holds => k_is)
    (case k__law_goal_holds => k_is)
    (case a_chance_behind => k_is)
    (case l_chance_behind => k_is)
    (case c_chance_behind => k_is)
    (case k_chance_behind => k_is)
    (case a_pass_chance => k_is)
    (case l_pass_chance => k_is)
    (case c_pass_chance => k_is)
    (case k_pass_chance => k_is)
    (case a__law_copy => k_is)
    (case l__law_copy => k_is)
    (case c__law_copy => k_is)
    (case k__law_copy => k_is)
    (case a__law_kept => k_is)
    (case l__law_kept => k_is)
    (case c__law_kept => k_is)
    (case k__law_kept => k_is)
    (case a__law_size_refused => k_is)
    (case l__law_size_refused => k_is)
    (case c__law_size_refused => k_is)
    (case k__law_size_refused => k_is)
    (case a__law_many_refused => k_is)
    (case l__law_many_refused => k_is)
    (case c__law_many_refused => k_is)
    (case k__law_many_refused => k_is)
    (case a__law_asked => k_is)
    (case l__law_asked => k_is)
    (case c__law_asked => k_is)
    (case k__law_asked => k_is)
    (case a_law => k_is)
    (case l_law => k_is)
    (case c_law => k_is)
    (case k_law => k_is)
    (case pg_Frac => k_is)
    (case hd_Frac => k_is)
    (case po_Frac => k_is)
    (case sa_Frac => k_is)
    (case mk_Frac => k_is)
    (case kc_Frac => k_is)
    (case sf_Frac => k_is)
    (case na_Frac_num => k_is)
    (case na_Frac_den => k_is)
    (case y0_Frac => k_is)
    (case y1_Frac => k_is)
    (case y2_Frac => k_is)
    (case y3_Frac => k_is)
    (case yb0_Frac => k_is)
    (case yb1_Frac => k_is)
    (case yb2_Frac => k_is)
    (case yb3_Frac => k_is)
    (case yb4_Frac => k_is)
    (case yb5_Frac => k_is)
    (case yo0_Frac => k_is)
    (case yo1_Frac => k_is)
    (case yo2_Frac => k_is)
    (case yo3_Frac => k_is)
    (case yo4_Frac => k_is)
    (case hget => k_is)
    (case htk => k_is)
    (case hn_abs => k_is)
    (case hn_all => k_is)
    (case hn_bool => k_is)
    (case hn_enumerate => k_is)
    (case hn_int => k_is)
    (case hn_isinstance => k_is)
    (case hn_len => k_is)
    (case hn_list => k_is)
    (case hn_min => k_is)
    (case hn_range => k_is)
    (case hn_reversed => k_is)
    (case hn_str => k_is)
    (case hn_sum => k_is)
    (case hn_tuple => k_is)
    (case hn_zip => k_is)
    (case hm_comb => k_is)
    (case hm_gcd => k_is)
    (case hk_MOST_STRANGERS => k_is)
