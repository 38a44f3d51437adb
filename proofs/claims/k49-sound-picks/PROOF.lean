import PyProof.Rows.All
import Wide.All
import OpenK.AllK
import Wide.FinOn
import HandS.ForMost
import HandS.Zip
import HandS.TupAny
import HandS.TupMul
import HandS.Style
import HandS.Deep
import HandS.IsInst
import HandS.Property
import HandS.Star
import HandS.Walk
import KE.GoesNew
import PyProof.WalksMore
import PyProof.SumWalkG
import PyProof.Rows.SumAny
import HandS.ClsMeth
import KE.KSuper
import HandS.DictComp
import HandS.IterVal
import KE.KOwnIter
import HandS.GenList
import PySem.Challenge.RW_settledcases_k49_whole_sound_picks
set_option Elab.async false
set_option linter.all false
set_option maxRecDepth 100000
set_option maxHeartbeats 4000000
/-! Fd: data, what stands for a datum, and a calculus on data over the hand layer. -/
namespace Sc
open PySem L2

inductive Da where
  | non
  | bl (b : Bool)
  | int (i : Int)
  | str (z : Str)
  | tup (l : List Da)
  | lst (l : List Da)
  | obj (C : Addr) (fs : List (Str × Da))
  | dct (kvs : List (List Int × Int))
  | scr (ns : List Int)

def dctV (kvs : List (List Int × Int)) : List (List Key × V) := kvs.map fun p => (p.1.map Sum.inl, V.int p.2)

mutual
def Rep (K : PySem.W.Frag) (F : Hp) : Da → V → Prop
  | .non, v => v = .non
  | .bl b, v => v = .bl b
  | .int i, v => v = .int i
  | .str z, v => v = .str z
  | .tup l, v => ∃ a xs, v = .ref a ∧ F a = some (.tup xs) ∧ RepL K F l xs
  | .lst l, v => ∃ a xs, v = .ref a ∧ F a = some (.lst xs) ∧ RepL K F l xs
  | .obj C fs, v => ∃ a dx gs, v = .ref a ∧ F a = some (.ins C dx gs) ∧ RepF K F fs gs
  | .dct kvs, v => ∃ a, v = .ref a ∧ F a = some (.dT (dctV kvs))
  | .scr ns, v => ∃ a, v = .ref a ∧ SqL K F a (ns.map V.int)
def RepL (K : PySem.W.Frag) (F : Hp) : List Da → List V → Prop
  | [], xs => xs = []
  | d :: l, xs => ∃ v r, xs = v :: r ∧ Rep K F d v ∧ RepL K F l r
def RepF (K : PySem.W.Frag) (F : Hp) : List (Str × Da) → List (Str × V) → Prop
  | [], xs => xs = []
  | (n, d) :: l, xs => ∃ v r, xs = (n, v) :: r ∧ Rep K F d v ∧ RepF K F l r
end

section
variable {K : PySem.W.Frag} {F F' : Hp}
mutual
theorem Rep.mono (e : Same F F') : ∀ {d : Da} {v : V}, Rep K F d v → Rep K F' d v
  | .non, _, h => h
  | .bl _, _, h => h
  | .int _, _, h => h
  | .str _, _, h => h
  | .tup _, _, h => by
    simp only [Rep] at h ⊢
    obtain ⟨a, xs, h1, h2, h3⟩ := h
    exact ⟨a, xs, h1, e _ _ h2, RepL.mono e h3⟩
  | .lst _, _, h => by
    simp only [Rep] at h ⊢
    obtain ⟨a, xs, h1, h2, h3⟩ := h
    exact ⟨a, xs, h1, e _ _ h2, RepL.mono e h3⟩
  | .obj _ _, _, h => by
    simp only [Rep] at h ⊢
    obtain ⟨a, dx, gs, h1, h2, h3⟩ := h
    exact ⟨a, dx, gs, h1, e _ _ h2, RepF.mono e h3⟩
  | .dct _, _, h => by
    simp only [Rep] at h ⊢
    obtain ⟨a, h1, h2⟩ := h
    exact ⟨a, h1, e _ _ h2⟩
  | .scr _, _, h => by
    simp only [Rep] at h ⊢
    obtain ⟨a, h1, h2⟩ := h
    exact ⟨a, h1, e.seq h2⟩
theorem RepL.mono (e : Same F F') : ∀ {ds : List Da} {vs : List V}, RepL K F ds vs → RepL K F' ds vs
  | [], _, h => h
  | _ :: _, _, h => by
    simp only [RepL] at h ⊢
    obtain ⟨v, r, h1, h2, h3⟩ := h
    exact ⟨v, r, h1, Rep.mono e h2, RepL.mono e h3⟩
theorem RepF.mono (e : Same F F') : ∀ {ds : List (Str × Da)} {vs : List (Str × V)}, RepF K F ds vs → RepF K F' ds vs
  | [], _, h => h
  | (_, _) :: _, _, h => by
    simp only [RepF] at h ⊢
    obtain ⟨v, r, h1, h2, h3⟩ := h
    exact ⟨v, r, h1, Rep.mono e h2, RepF.mono e h3⟩
end
end

section
variable {K : PySem.W.Frag} {F : Hp}
theorem RepL.nil : RepL K F [] [] := by simp only [RepL]
theorem RepL.cons {d : Da} {v : V} {ds : List Da} {vs : List V} (h : Rep K F d v) (t : RepL K F ds vs) : RepL K F (d :: ds) (v :: vs) := by
  simp only [RepL]
  exact ⟨v, vs, rfl, h, t⟩
theorem RepL.inv {d : Da} {ds : List Da} {vs : List V} (h : RepL K F (d :: ds) vs) : ∃ v r, vs = v :: r ∧ Rep K F d v ∧ RepL K F ds r := by
  simpa only [RepL] using h
theorem RepL.inv0 {vs : List V} (h : RepL K F [] vs) : vs = [] := by simpa only [RepL] using h
theorem RepL.length : ∀ {ds : List Da} {vs : List V}, RepL K F ds vs → vs.length = ds.length
  | [], _, h => by rw [h.inv0]; rfl
  | d :: ds, _, h => by
    obtain ⟨v, r, rfl, _, h3⟩ := h.inv
    simp [RepL.length h3]
theorem RepL.get : ∀ {ds : List Da} {vs : List V} {i : Nat} {d : Da}, RepL K F ds vs → ds[i]? = some d → ∃ v, vs[i]? = some v ∧ Rep K F d v
  | [], _, _, _, _, e => by simp at e
  | _ :: _, _, 0, d, h, e => by
    obtain ⟨v, r, rfl, h2, _⟩ := h.inv
    simp at e
    subst e
    exact ⟨v, rfl, h2⟩
  | _ :: _, _, i + 1, d, h, e => by
    obtain ⟨v, r, rfl, _, h3⟩ := h.inv
    obtain ⟨u, h1, h2⟩ := RepL.get (i := i) h3 (by simpa using e)
    exact ⟨u, by simpa using h1, h2⟩
theorem RepL.getV {ds : List Da} {vs : List V} {i : Nat} {v : V} (h : RepL K F ds vs) (e : vs[i]? = some v) : ∃ d, ds[i]? = some d ∧ Rep K F d v := by
  have hl := h.length
  obtain ⟨hi, _⟩ := List.getElem?_eq_some_iff.mp e
  have hd : ds[i]? = some ds[i] := List.getElem?_eq_getElem (by omega)
  obtain ⟨u, h1, h2⟩ := h.get hd
  rw [h1] at e
  cases e
  exact ⟨_, hd, h2⟩
theorem RepL.append : ∀ {ds es : List Da} {vs ws : List V}, RepL K F ds vs → RepL K F es ws → RepL K F (ds ++ es) (vs ++ ws)
  | [], _, _, _, h, t => by rw [h.inv0]; exact t
  | _ :: _, _, _, _, h, t => by
    obtain ⟨v, r, rfl, h2, h3⟩ := h.inv
    exact .cons h2 (RepL.append h3 t)
theorem RepL.set : ∀ {ds : List Da} {vs : List V} {i : Nat} {d : Da} {v : V}, RepL K F ds vs → Rep K F d v → RepL K F (ds.set i d) (vs.set i v)
  | [], _, _, _, _, h, _ => by rw [h.inv0]; exact .nil
  | _ :: _, _, 0, _, _, h, q => by
    obtain ⟨v, r, rfl, h2, h3⟩ := h.inv
    exact .cons q h3
  | _ :: _, _, i + 1, _, _, h, q => by
    obtain ⟨v, r, rfl, h2, h3⟩ := h.inv
    exact .cons h2 (RepL.set h3 q)
theorem RepL.take : ∀ (n : Nat) {ds : List Da} {vs : List V}, RepL K F ds vs → RepL K F (ds.take n) (vs.take n)
  | 0, _, _, _ => by simp only [List.take_zero]; exact .nil
  | _ + 1, [], _, h => by rw [h.inv0]; exact .nil
  | n + 1, _ :: _, _, h => by
    obtain ⟨v, r, rfl, h2, h3⟩ := h.inv
    exact .cons h2 (RepL.take n h3)
theorem RepL.drop : ∀ (n : Nat) {ds : List Da} {vs : List V}, RepL K F ds vs → RepL K F (ds.drop n) (vs.drop n)
  | 0, _, _, h => by simpa only [List.drop_zero] using h
  | _ + 1, [], _, h => by rw [h.inv0]; exact .nil
  | n + 1, _ :: _, _, h => by
    obtain ⟨v, r, rfl, h2, h3⟩ := h.inv
    exact RepL.drop n h3
theorem RepL.reverse : ∀ {ds : List Da} {vs : List V}, RepL K F ds vs → RepL K F ds.reverse vs.reverse
  | [], _, h => by rw [h.inv0]; exact .nil
  | _ :: _, _, h => by
    obtain ⟨v, r, rfl, h2, h3⟩ := h.inv
    rw [List.reverse_cons, List.reverse_cons]
    exact (RepL.reverse h3).append (.cons h2 .nil)
theorem RepL.one {d : Da} {v : V} (h : Rep K F d v) : RepL K F [d] [v] := .cons h .nil
theorem RepL.one_inv {d : Da} {vs : List V} (h : RepL K F [d] vs) : ∃ v, vs = [v] ∧ Rep K F d v := by
  obtain ⟨v, r, rfl, h2, h3⟩ := h.inv
  rw [h3.inv0]
  exact ⟨v, rfl, h2⟩
theorem RepL.two_inv {d e : Da} {vs : List V} (h : RepL K F [d, e] vs) : ∃ v w, vs = [v, w] ∧ Rep K F d v ∧ Rep K F e w := by
  obtain ⟨v, r, rfl, h2, h3⟩ := h.inv
  obtain ⟨w, rfl, h4⟩ := h3.one_inv
  exact ⟨v, w, rfl, h2, h4⟩
theorem RepF.inv {n : Str} {d : Da} {ds : List (Str × Da)} {vs : List (Str × V)} (h : RepF K F ((n, d) :: ds) vs) : ∃ v r, vs = (n, v) :: r ∧ Rep K F d v ∧ RepF K F ds r := by
  simpa only [RepF] using h
theorem RepF.inv0 {vs : List (Str × V)} (h : RepF K F [] vs) : vs = [] := by simpa only [RepF] using h
theorem RepF.nil : RepF K F [] [] := by simp only [RepF]
theorem RepF.cons {n : Str} {d : Da} {v : V} {ds : List (Str × Da)} {vs : List (Str × V)} (h : Rep K F d v) (t : RepF K F ds vs) : RepF K F ((n, d) :: ds) ((n, v) :: vs) := by
  simp only [RepF]
  exact ⟨v, vs, rfl, h, t⟩
theorem RepF.length : ∀ {ds : List (Str × Da)} {vs : List (Str × V)}, RepF K F ds vs → vs.length = ds.length
  | [], _, h => by rw [h.inv0]; rfl
  | (n, d) :: ds, _, h => by
    obtain ⟨v, r, rfl, _, h3⟩ := h.inv
    simp [RepF.length h3]
theorem RepF.look : ∀ {ds : List (Str × Da)} {vs : List (Str × V)} {f : Str} {d : Da}, RepF K F ds vs → ds.lookup f = some d → ∃ v, vs.lookup f = some v ∧ Rep K F d v
  | [], _, _, _, _, e => by simp at e
  | (n, x) :: ds, _, f, d, h, e => by
    obtain ⟨v, r, rfl, h2, h3⟩ := h.inv
    rw [List.lookup_cons] at e ⊢
    cases q : f == n with
    | true =>
      rw [q] at e
      cases e
      exact ⟨v, rfl, h2⟩
    | false =>
      rw [q] at e
      exact RepF.look h3 e
theorem RepF.look0 : ∀ {ds : List (Str × Da)} {vs : List (Str × V)} {f : Str}, RepF K F ds vs → ds.lookup f = none → vs.lookup f = none
  | [], _, _, h, _ => by rw [h.inv0]; rfl
  | (n, x) :: ds, _, f, h, e => by
    obtain ⟨v, r, rfl, h2, h3⟩ := h.inv
    rw [List.lookup_cons] at e ⊢
    cases q : f == n with
    | true =>
      rw [q] at e
      cases e
    | false =>
      rw [q] at e
      exact RepF.look0 h3 e
/-- a field stored -/
def putD (f : Str) (d : Da) : List (Str × Da) → List (Str × Da)
  | [] => [(f, d)]
  | (n, x) :: r => if n = f then (n, d) :: r else (n, x) :: putD f d r
theorem RepF.put {f : Str} {d : Da} {v : V} (q : Rep K F d v) : ∀ {ds : List (Str × Da)} {vs : List (Str × V)}, RepF K F ds vs → RepF K F (putD f d ds) (putF f v vs)
  | [], _, h => by
    rw [h.inv0]
    exact .cons q .nil
  | (n, x) :: ds, _, h => by
    obtain ⟨u, r, rfl, h2, h3⟩ := h.inv
    unfold putD putF
    by_cases e : n = f
    · rw [if_pos e, if_pos e]
      exact .cons q h3
    · rw [if_neg e, if_neg e]
      exact .cons h2 (RepF.put q h3)
end

/-! ### the hidden part -/
def hid (O : Addr → Bool) (H : Hp) : Hp := fun a => if O a = true then none else H a
def ins1 (O : Addr → Bool) (p : Addr) : Addr → Bool := fun a => O a || decide (a = p)
theorem hid_some {O : Addr → Bool} {H : Hp} {a : Addr} {o : HO} (h : hid O H a = some o) : O a = false ∧ H a = some o := by
  unfold hid at h
  cases q : O a with
  | true => rw [q, if_pos rfl] at h; cases h
  | false => rw [q, if_neg Bool.false_ne_true] at h; exact ⟨rfl, h⟩
theorem hid_of {O : Addr → Bool} {H : Hp} {a : Addr} {o : HO} (q : O a = false) (h : H a = some o) : hid O H a = some o := by
  unfold hid
  rw [q, if_neg Bool.false_ne_true]
  exact h
theorem hid_same (O : Addr → Bool) (H : Hp) : Same (hid O H) H := fun _ _ h => (hid_some h).2
theorem hid_le {O O' : Addr → Bool} {H H' : Hp} (e : Same (hid O H) H') (s : ∀ a, O' a = true → O a = true ∨ H a = none) : Same (hid O H) (hid O' H') := fun b o h => by
  obtain ⟨h1, h2⟩ := hid_some h
  refine hid_of ?_ (e _ _ h)
  cases q : O' b with
  | false => rfl
  | true =>
    rcases s b q with z | z
    · rw [h1] at z; cases z
    · rw [h2] at z; cases z
theorem hid_mono {O : Addr → Bool} {H H' : Hp} (e : Same H H') : Same (hid O H) (hid O H') := hid_le ((hid_same O H).trans e) fun _ h => .inl h
theorem hid_sub {O O' : Addr → Bool} {H : Hp} (s : ∀ a, O' a = true → O a = true) : Same (hid O H) (hid O' H) := hid_le (hid_same O H) fun a h => .inl (s a h)
theorem ins1_self {O : Addr → Bool} {p : Addr} : ins1 O p p = true := by simp [ins1]
theorem ins1_of {O : Addr → Bool} {p a : Addr} (h : O a = true) : ins1 O p a = true := by simp [ins1, h]
theorem ins1_inv {O : Addr → Bool} {p a : Addr} (h : ins1 O p a = true) : O a = true ∨ a = p := by simpa [ins1] using h

/-! ### slots -/
inductive SD where
  | un
  | val (d : Da)
  | own (l : List Da)
  | ino (a C : Addr) (fs : List (Str × Da))
def SD.mine : SD → Bool
  | .own _ => true
  | .ino _ _ _ => true
  | _ => false
def SlotOk (K : PySem.W.Frag) (O : Addr → Bool) (H : Hp) (o : Option (Option V)) : SD → Prop
  | .un => True
  | .val d => ∃ v, o = some (some v) ∧ Rep K (hid O H) d v
  | .own l => ∃ a xs, o = some (some (.ref a)) ∧ O a = true ∧ H a = some (.lst xs) ∧ RepL K (hid O H) l xs
  | .ino a C fs => ∃ dx gs, o = some (some (.ref a)) ∧ O a = true ∧ H a = some (.ins C dx gs) ∧ RepF K (hid O H) fs gs
structure StV (K : PySem.W.Frag) (O : Addr → Bool) (σ : St) (H : Hp) (G : List SD) : Prop where
  len : σ.length = G.length
  there : ∀ a, O a = true → H a ≠ none
  slot : ∀ (i : Nat) (sd : SD), G[i]? = some sd → SlotOk K O H σ[i]? sd
  apart : ∀ (i j : Nat) (si sj : SD) (a : Addr), G[i]? = some si → G[j]? = some sj → si.mine = true → sj.mine = true → σ[i]? = some (some (.ref a)) → σ[j]? = some (some (.ref a)) → i = j
section
variable {K : PySem.W.Frag} {O O' : Addr → Bool} {σ : St} {H H' : Hp} {G : List SD}
theorem SlotOk.mono {o : Option (Option V)} {sd : SD} (e : Same H H') (h : SlotOk K O H o sd) : SlotOk K O H' o sd := by
  cases sd with
  | un => trivial
  | val d =>
    obtain ⟨v, h1, h2⟩ := h
    exact ⟨v, h1, h2.mono (hid_mono e)⟩
  | own l =>
    obtain ⟨a, xs, h1, h2, h3, h4⟩ := h
    exact ⟨a, xs, h1, h2, e _ _ h3, h4.mono (hid_mono e)⟩
  | ino a C fs =>
    obtain ⟨dx, gs, h1, h2, h3, h4⟩ := h
    exact ⟨dx, gs, h1, h2, e _ _ h3, h4.mono (hid_mono e)⟩
theorem Same.ne {a : Addr} (e : Same H H') (h : H a ≠ none) : H' a ≠ none := fun q => h (e.free q)
theorem StV.mono (e : Same H H') (h : StV K O σ H G) : StV K O σ H' G :=
  ⟨h.len, fun a q => Same.ne e (h.there a q), fun i sd q => (h.slot i sd q).mono e, h.apart⟩
/-- the same slots over a heap that grew, more hidden, the own ones as they were -/
theorem SlotOk.grow {o : Option (Option V)} {sd : SD} (e : Same H H') (s : ∀ a, O a = true → O' a = true) (n : ∀ a, O' a = true → O a = true ∨ H a = none) (h : SlotOk K O H o sd) : SlotOk K O' H' o sd := by
  have m : Same (hid O H) (hid O' H') := hid_le ((hid_same O H).trans e) n
  cases sd with
  | un => trivial
  | val d =>
    obtain ⟨v, h1, h2⟩ := h
    exact ⟨v, h1, h2.mono m⟩
  | own l =>
    obtain ⟨a, xs, h1, h2, h3, h4⟩ := h
    exact ⟨a, xs, h1, s a h2, e _ _ h3, h4.mono m⟩
  | ino a C fs =>
    obtain ⟨dx, gs, h1, h2, h3, h4⟩ := h
    exact ⟨dx, gs, h1, s a h2, e _ _ h3, h4.mono m⟩
end

/-! ### judgements -/
section
variable (K : PySem.W.Frag)
def EvD (te : TE) (G : List SD) (R : Da → Prop) : Prop :=
  ∀ O σ H, StV K O σ H G → ∀ Q : VK, (∀ v H' d, R d → Same H H' → Rep K (hid O H') d v → Q v H') → te σ H Q
def EvT (tt : TT) (G : List SD) (R : Bool → Prop) : Prop :=
  ∀ O σ H, StV K O σ H G → ∀ Q : Bool → Hp → Prop, (∀ b H', R b → Same H H' → Q b H') → tt σ H Q
def EvA (ta : TA) (G : List SD) (R : List Da → Prop) : Prop :=
  ∀ O σ H, StV K O σ H G → ∀ Q : List V → Hp → Prop, (∀ vs H' ds, R ds → Same H H' → RepL K (hid O H') ds vs → Q vs H') → ta σ H Q
def EvO (to : TO) (G : List SD) (R : Option Int → Prop) : Prop :=
  ∀ O σ H, StV K O σ H G → ∀ Q : Option Int → Hp → Prop, (∀ o H', R o → Same H H' → Q o H') → to σ H Q
/-- a new list -/
def EvN (te : TE) (G : List SD) (R : List Da → Prop) : Prop :=
  ∀ O σ H, StV K O σ H G → ∀ Q : VK, (∀ p H' xs ds, R ds → H p = none → Same H H' → H' p = some (.lst xs) → RepL K (hid (ins1 O p) H') ds xs → Q (.ref p) H') → te σ H Q
def RvD (r : R2) (d e : Da) (R : Da → Prop) : Prop :=
  ∀ (O : Addr → Bool) H x y, (∀ a, O a = true → H a ≠ none) → Rep K (hid O H) d x → Rep K (hid O H) e y → ∀ Q : VK, (∀ v H' z, R z → Same H H' → Rep K (hid O H') z v → Q v H') → r x y H Q
def RuD (r : V → Hp → VK → Prop) (d : Da) (R : Da → Prop) : Prop :=
  ∀ (O : Addr → Bool) H x, (∀ a, O a = true → H a ≠ none) → Rep K (hid O H) d x → ∀ Q : VK, (∀ v H' z, R z → Same H H' → Rep K (hid O H') z v → Q v H') → r x H Q
def RcD (r : List V → Hp → VK → Prop) (ds : List Da) (R : Da → Prop) : Prop :=
  ∀ (O : Addr → Bool) H xs, (∀ a, O a = true → H a ≠ none) → RepL K (hid O H) ds xs → ∀ Q : VK, (∀ v H' z, R z → Same H H' → Rep K (hid O H') z v → Q v H') → r xs H Q
def RvN (r : R2) (d e : Da) (R : List Da → Prop) : Prop :=
  ∀ (O : Addr → Bool) H x y, (∀ a, O a = true → H a ≠ none) → Rep K (hid O H) d x → Rep K (hid O H) e y → ∀ Q : VK, (∀ p H' xs z, R z → H p = none → Same H H' → H' p = some (.lst xs) → RepL K (hid (ins1 O p) H') z xs → Q (.ref p) H') → r x y H Q
def RcN (r : List V → Hp → VK → Prop) (ds : List Da) (R : List Da → Prop) : Prop :=
  ∀ (O : Addr → Bool) H xs, (∀ a, O a = true → H a ≠ none) → RepL K (hid O H) ds xs → ∀ Q : VK, (∀ p H' xs z, R z → H p = none → Same H H' → H' p = some (.lst xs) → RepL K (hid (ins1 O p) H') z xs → Q (.ref p) H') → r xs H Q
end
section
variable {K : PySem.W.Frag} {G : List SD} {R : Da → Prop} {te ta tb : TE} {tt tu : TT}
theorem EvD.imp {R' : Da → Prop} (h : EvD K te G R) (q : ∀ d, R d → R' d) : EvD K te G R' := fun O σ H s Q k => h O σ H s Q fun v H' d r => k v H' d (q d r)
theorem EvT.imp {R R' : Bool → Prop} (h : EvT K tt G R) (q : ∀ d, R d → R' d) : EvT K tt G R' := fun O σ H s Q k => h O σ H s Q fun b H' r => k b H' (q b r)
theorem EvA.imp {ta : TA} {R R' : List Da → Prop} (h : EvA K ta G R) (q : ∀ d, R d → R' d) : EvA K ta G R' := fun O σ H s Q k => h O σ H s Q fun vs H' d r => k vs H' d (q d r)
theorem EvN.imp {R R' : List Da → Prop} (h : EvN K te G R) (q : ∀ d, R d → R' d) : EvN K te G R' := fun O σ H s Q k => h O σ H s Q fun p H' xs d r => k p H' xs d (q d r)
theorem ev_var {i : Nat} {d : Da} (h : G[i]? = some (.val d)) (r : R d) : EvD K (tVar i) G R := fun O σ H s Q k => by
  obtain ⟨v, h1, h2⟩ := s.slot i _ h
  exact ⟨v, h1, k v H d r (Same.refl H) h2⟩
theorem ev_int {i : Int} (r : R (.int i)) : EvD K (tC (.int i)) G R := fun O σ H s Q k => k _ H _ r (Same.refl H) (by simp only [Rep])
theorem ev_bl {b : Bool} (r : R (.bl b)) : EvD K (tC (.bl b)) G R := fun O σ H s Q k => k _ H _ r (Same.refl H) (by simp only [Rep])
theorem ev_non (r : R .non) : EvD K (tC .non) G R := fun O σ H s Q k => k _ H _ r (Same.refl H) (by simp only [Rep])
theorem ev_str {z : Str} (r : R (.str z)) : EvD K (tC (.str z)) G R := fun O σ H s Q k => k _ H _ r (Same.refl H) (by simp only [Rep])
theorem ev_op {r : R2} (h : EvD K ta G fun d => EvD K tb G fun e => RvD K r d e R) : EvD K (tOp r ta tb) G R := fun O σ H s Q k =>
  h O σ H s _ fun x H1 d h1 e1 r1 => h1 O σ H1 (s.mono e1) _ fun y H2 e h2 e2 r2 =>
    h2 O H2 x y ((s.mono (e1.trans e2)).there) (r1.mono (hid_mono e2)) r2 Q fun v H3 z q e3 r3 => k v H3 z q ((e1.trans e2).trans e3) r3
theorem ev_un {r : V → Hp → VK → Prop} (h : EvD K ta G fun d => RuD K r d R) : EvD K (tUn r ta) G R := fun O σ H s Q k =>
  h O σ H s _ fun x H1 d h1 e1 r1 => h1 O H1 x ((s.mono e1).there) r1 Q fun v H3 z q e3 r3 => k v H3 z q (e1.trans e3) r3
theorem ea_nil {R : List Da → Prop} (r : R []) : EvA K tNil G R := fun O σ H s Q k => k [] H [] r (Same.refl H) .nil
theorem ea_cons {R : List Da → Prop} {tr : TA} (h : EvD K te G fun d => EvA K tr G fun ds => R (d :: ds)) : EvA K (tCons te tr) G R := fun O σ H s Q k =>
  h O σ H s _ fun x H1 d h1 e1 r1 => h1 O σ H1 (s.mono e1) _ fun vs H2 ds h2 e2 r2 => k _ H2 _ h2 (e1.trans e2) (.cons (r1.mono (hid_mono e2)) r2)
theorem ea_one {R : List Da → Prop} (h : EvD K te G fun d => R [d]) : EvA K (tCons te tNil) G R := ea_cons (h.imp fun _ r => ea_nil r)
theorem ev_cb {r : List V → Hp → VK → Prop} {ta : TA} (h : EvA K ta G fun ds => RcD K r ds R) : EvD K (tCB r ta) G R := fun O σ H s Q k =>
  h O σ H s _ fun xs H1 ds h1 e1 r1 => h1 O H1 xs ((s.mono e1).there) r1 Q fun v H3 z q e3 r3 => k v H3 z q (e1.trans e3) r3
/-- a new list is a list -/
theorem ev_new (h : EvN K te G fun ds => R (.lst ds)) : EvD K te G R := fun O σ H s Q k =>
  h O σ H s Q fun p H' xs ds r hp e hx rl => by
    refine k _ H' _ r e ?_
    simp only [Rep]
    have hO : O p = false := by
      cases q : O p with
      | false => rfl
      | true => exact absurd hp (s.there p q)
    exact ⟨p, xs, rfl, hid_of hO hx, rl.mono (hid_sub fun a => ins1_of)⟩
theorem fresh_false {O : Addr → Bool} {σ : St} {H : Hp} {p : Addr} (s : StV K O σ H G) (hp : H p = none) : O p = false := by
  cases q : O p with
  | false => rfl
  | true => exact absurd hp (s.there p q)
theorem same_new {H : Hp} {p : Addr} {o : HO} (h : H p = none) : Same H (upd H p o) := fun a u e => by
  rw [upd_ne (ne_of_none e h)]
  exact e
theorem ev_tup {ta : TA} (h : EvA K ta G fun ds => ds.length ≤ 100000 ∧ R (.tup ds)) : EvD K (tTup ta) G R := fun O σ H s Q k =>
  h O σ H s _ fun xs H1 ds ⟨hl, h1⟩ e1 r1 => by
    refine ⟨Nat.le_trans (Nat.le_of_eq r1.length) (Nat.le_trans hl (by decide)), fun p hp => k _ _ _ h1 (e1.trans (same_new hp)) ?_⟩
    simp only [Rep]
    exact ⟨p, xs, rfl, hid_of (fresh_false (s.mono e1) hp) upd_same, r1.mono (hid_mono (same_new hp))⟩
theorem en_lst {R : List Da → Prop} {ta : TA} (h : EvA K ta G fun ds => ds.length ≤ 100000 ∧ R ds) : EvN K (tLst ta) G R := fun O σ H s Q k =>
  h O σ H s _ fun xs H1 ds ⟨hl, h1⟩ e1 r1 => by
    refine ⟨Nat.le_trans (Nat.le_of_eq r1.length) (Nat.le_trans hl (by decide)), fun p hp => k p _ xs ds h1 (e1.free hp) (e1.trans (same_new hp)) upd_same ?_⟩
    refine r1.mono (hid_le ((hid_same _ _).trans (same_new hp)) fun a q => ?_)
    rcases ins1_inv q with z | z
    · exact .inl z
    · exact .inr (by rw [z]; exact hp)
theorem en_op {R : List Da → Prop} {r : R2} (h : EvD K ta G fun d => EvD K tb G fun e => RvN K r d e R) : EvN K (tOp r ta tb) G R := fun O σ H s Q k =>
  h O σ H s _ fun x H1 d h1 e1 r1 => h1 O σ H1 (s.mono e1) _ fun y H2 e h2 e2 r2 =>
    h2 O H2 x y ((s.mono (e1.trans e2)).there) (r1.mono (hid_mono e2)) r2 Q fun p H3 xs z q hp e3 hx r3 => k p H3 xs z q ((e1.trans e2).free hp) ((e1.trans e2).trans e3) hx r3
theorem en_cb {R : List Da → Prop} {r : List V → Hp → VK → Prop} {ta : TA} (h : EvA K ta G fun ds => RcN K r ds R) : EvN K (tCB r ta) G R := fun O σ H s Q k =>
  h O σ H s _ fun xs H1 ds h1 e1 r1 => h1 O H1 xs ((s.mono e1).there) r1 Q fun p H3 xs z q hp e3 hx r3 => k p H3 xs z q (e1.free hp) (e1.trans e3) hx r3

/-! ### tests -/
theorem et_test {R : Bool → Prop} (h : EvD K te G fun d => ∃ b, d = .bl b ∧ R b) : EvT K (tTest te) G R := fun O σ H s Q k =>
  h O σ H s _ fun v H1 d ⟨b, e, r⟩ e1 r1 => by
    subst e
    simp only [Rep] at r1
    exact ⟨b, r1, k b H1 r e1⟩
theorem et_B {R : Bool → Prop} (h : EvD K te G fun d => ∃ b, d = .bl b ∧ R b) : EvT K (tB te) G R := fun O σ H s Q k =>
  h O σ H s _ fun v H1 d ⟨b, e, r⟩ e1 r1 => by
    subst e
    simp only [Rep] at r1
    exact ⟨b, r1, k b H1 r e1⟩
theorem et_and {R : Bool → Prop} (h : EvT K tt G fun b => (b = true → EvT K tu G R) ∧ (b = false → R false)) : EvT K (tAnd tt tu) G R := fun O σ H s Q k =>
  h O σ H s _ fun b H1 ⟨q1, q2⟩ e1 => by
    cases b with
    | true => exact q1 rfl O σ H1 (s.mono e1) Q fun c H2 r e2 => k c H2 r (e1.trans e2)
    | false => exact k false H1 (q2 rfl) e1
theorem et_or {R : Bool → Prop} (h : EvT K tt G fun b => (b = true → R true) ∧ (b = false → EvT K tu G R)) : EvT K (tOr tt tu) G R := fun O σ H s Q k =>
  h O σ H s _ fun b H1 ⟨q1, q2⟩ e1 => by
    cases b with
    | true => exact k true H1 (q1 rfl) e1
    | false => exact q2 rfl O σ H1 (s.mono e1) Q fun c H2 r e2 => k c H2 r (e1.trans e2)
theorem et_not {R : Bool → Prop} (h : EvT K tt G fun b => R (!b)) : EvT K (tNot tt) G R := fun O σ H s Q k =>
  h O σ H s _ fun b H1 r e1 => k (!b) H1 r e1
theorem et_yes {R : Bool → Prop} (r : R true) : EvT K tYes G R := fun _ _ H _ _ k => k true H r (Same.refl H)
theorem ev_andV (h : EvD K ta G fun d => ∃ b, d = .bl b ∧ (b = true → EvD K tb G R) ∧ (b = false → R (.bl false))) : EvD K (tAndV ta tb) G R := fun O σ H s Q k =>
  h O σ H s _ fun v H1 d ⟨b, e, q1, q2⟩ e1 r1 => by
    subst e
    simp only [Rep] at r1
    refine ⟨b, r1, ?_⟩
    cases b with
    | true => exact q1 rfl O σ H1 (s.mono e1) Q fun c H2 d r e2 => k c H2 d r (e1.trans e2)
    | false => exact k _ H1 _ (q2 rfl) e1 (by simp only [Rep])
theorem ev_orV (h : EvD K ta G fun d => ∃ b, d = .bl b ∧ (b = true → R (.bl true)) ∧ (b = false → EvD K tb G R)) : EvD K (tOrV ta tb) G R := fun O σ H s Q k =>
  h O σ H s _ fun v H1 d ⟨b, e, q1, q2⟩ e1 r1 => by
    subst e
    simp only [Rep] at r1
    refine ⟨b, r1, ?_⟩
    cases b with
    | true => exact k _ H1 _ (q1 rfl) e1 (by simp only [Rep])
    | false => exact q2 rfl O σ H1 (s.mono e1) Q fun c H2 d r e2 => k c H2 d r (e1.trans e2)
theorem ev_notV (h : EvD K ta G fun d => ∃ b, d = .bl b ∧ R (.bl (!b))) : EvD K (tNotV ta) G R := fun O σ H s Q k =>
  h O σ H s _ fun v H1 d ⟨b, e, q⟩ e1 r1 => by
    subst e
    simp only [Rep] at r1
    exact ⟨b, r1, k _ H1 _ q e1 (by simp only [Rep])⟩
theorem ev_if (h : EvT K tt G fun b => (b = true → EvD K ta G R) ∧ (b = false → EvD K tb G R)) : EvD K (tIf tt ta tb) G R := fun O σ H s Q k =>
  h O σ H s _ fun b H1 ⟨q1, q2⟩ e1 => by
    cases b with
    | true => exact q1 rfl O σ H1 (s.mono e1) Q fun c H2 d r e2 => k c H2 d r (e1.trans e2)
    | false => exact q2 rfl O σ H1 (s.mono e1) Q fun c H2 d r e2 => k c H2 d r (e1.trans e2)

/-! ### operators -/
theorem rv_I0 {g : Int → Int → V} {i j : Int} {z : Da} (hg : ∀ F, Rep K F z (g i j)) (r : R z) : RvD K (rI0 g) (.int i) (.int j) R := fun O H x y _ h1 h2 Q k => by
  simp only [Rep] at h1 h2
  exact ⟨i, j, h1, h2, k _ H z r (Same.refl H) (hg _)⟩
theorem rv_I {C : Int → Int → Prop} {g : Int → Int → V} {i j : Int} {z : Da} (hg : ∀ F, Rep K F z (g i j)) (hc : C i j) (r : R z) : RvD K (rI C g) (.int i) (.int j) R := fun O H x y _ h1 h2 Q k => by
  simp only [Rep] at h1 h2
  exact ⟨i, j, h1, h2, hc, k _ H z r (Same.refl H) (hg _)⟩
theorem rep_int {F : Hp} {i : Int} : Rep K F (.int i) (.int i) := by simp only [Rep]
theorem rep_bl {F : Hp} {i : Bool} : Rep K F (.bl i) (.bl i) := by simp only [Rep]
theorem rep_str {F : Hp} {i : Str} : Rep K F (.str i) (.str i) := by simp only [Rep]
theorem rep_non {F : Hp} : Rep K F .non .non := by simp only [Rep]
theorem rv_add {i j : Int} (r : R (.int (i + j))) : RvD K (rI0 fun i j => .int (i + j)) (.int i) (.int j) R := rv_I0 (fun _ => rep_int) r
theorem rv_sub {i j : Int} (r : R (.int (i - j))) : RvD K (rI0 fun i j => .int (i - j)) (.int i) (.int j) R := rv_I0 (fun _ => rep_int) r
theorem rv_mul {i j : Int} (hc : CMul i j) (r : R (.int (i * j))) : RvD K (rI CMul fun i j => .int (i * j)) (.int i) (.int j) R := rv_I (fun _ => rep_int) hc r
theorem rv_mod {i j : Int} (hc : 0 < j) (r : R (.int (i % j))) : RvD K (rI (fun _ j => 0 < j) fun i j => .int (i % j)) (.int i) (.int j) R := rv_I (fun _ => rep_int) hc r
theorem rv_div {i j : Int} (hc : CDiv i j) (r : R (.int (i / j))) : RvD K (rI CDiv fun i j => .int (i / j)) (.int i) (.int j) R := rv_I (fun _ => rep_int) hc r
theorem rv_lt {i j : Int} (r : R (.bl (decide (i < j)))) : RvD K (rI0 fun i j => .bl (decide (i < j))) (.int i) (.int j) R := rv_I0 (fun _ => rep_bl) r
theorem rv_le {i j : Int} (r : R (.bl (decide (i ≤ j)))) : RvD K (rI0 fun i j => .bl (decide (i ≤ j))) (.int i) (.int j) R := rv_I0 (fun _ => rep_bl) r
theorem rv_gt {i j : Int} (r : R (.bl (decide (j < i)))) : RvD K (rI0 fun i j => .bl (decide (j < i))) (.int i) (.int j) R := rv_I0 (fun _ => rep_bl) r
theorem rv_ge {i j : Int} (r : R (.bl (decide (j ≤ i)))) : RvD K (rI0 fun i j => .bl (decide (j ≤ i))) (.int i) (.int j) R := rv_I0 (fun _ => rep_bl) r
/-- flat data -/
def flatD : Da → Option V
  | .non => some .non
  | .bl b => some (.bl b)
  | .int i => some (.int i)
  | .str z => some (.str z)
  | _ => none
theorem flat_rep {F : Hp} {d : Da} {v x : V} (h : flatD d = some v) (r : Rep K F d x) : x = v := by
  cases d <;> simp only [flatD, Option.some.injEq, reduceCtorEq] at h <;> simp only [Rep] at r <;> rw [r, ← h]
theorem rv_eq {d e : Da} {v w : V} (h1 : flatD d = some v) (h2 : flatD e = some w) (hs : scal v w = true) (r : R (.bl (decide (v = w)))) : RvD K rEq d e R := fun O H x y _ r1 r2 Q k => by
  rw [flat_rep h1 r1, flat_rep h2 r2]
  exact ⟨hs, k _ H _ r (Same.refl H) rep_bl⟩
theorem rv_ne {d e : Da} {v w : V} (h1 : flatD d = some v) (h2 : flatD e = some w) (hs : scal v w = true) (r : R (.bl (!decide (v = w)))) : RvD K rNe d e R := fun O H x y _ r1 r2 Q k => by
  rw [flat_rep h1 r1, flat_rep h2 r2]
  exact ⟨hs, k _ H _ r (Same.refl H) rep_bl⟩
theorem rv_eqI {i j : Int} (r : R (.bl (decide (i = j)))) : RvD K rEq (.int i) (.int j) R := rv_eq rfl rfl rfl (by rw [dec_int, Bool.beq_eq_decide_eq]; exact r)
theorem rv_neI {i j : Int} (r : R (.bl (!decide (i = j)))) : RvD K rNe (.int i) (.int j) R := rv_ne rfl rfl rfl (by rw [dec_int, Bool.beq_eq_decide_eq]; exact r)
theorem rv_eqB {i j : Bool} (r : R (.bl (i == j))) : RvD K rEq (.bl i) (.bl j) R := rv_eq rfl rfl rfl (by rw [dec_bl]; exact r)
theorem rv_eqS {i j : Str} (r : R (.bl (i == j))) : RvD K rEq (.str i) (.str j) R := rv_eq rfl rfl rfl (by rw [dec_str]; exact r)
theorem rv_eqNI {j : Int} (r : R (.bl false)) : RvD K rEq .non (.int j) R := rv_eq rfl rfl rfl r
/-- is None -/
def isNonD : Da → Bool
  | .non => true
  | _ => false
theorem isNon_rep {F : Hp} {d : Da} {x : V} (r : Rep K F d x) : decide (x = .non) = isNonD d := by
  cases d <;> simp only [Rep] at r
  case non => rw [r]; rfl
  case bl => rw [r]; rfl
  case int => rw [r]; rfl
  case str => rw [r]; rfl
  case tup => obtain ⟨a, _, rfl, _⟩ := r; rfl
  case lst => obtain ⟨a, _, rfl, _⟩ := r; rfl
  case obj => obtain ⟨a, _, _, rfl, _⟩ := r; rfl
  case dct => obtain ⟨a, rfl, _⟩ := r; rfl
  case scr => obtain ⟨a, rfl, _⟩ := r; rfl
theorem ev_isN (h : EvD K ta G fun d => R (.bl (isNonD d))) : EvD K (tIsN ta) G R := fun O σ H s Q k =>
  h O σ H s _ fun x H1 d q e1 r1 => by
    rw [isNon_rep r1]
    exact k _ H1 _ q e1 rep_bl
theorem ev_notN (h : EvD K ta G fun d => R (.bl (!isNonD d))) : EvD K (tNotN ta) G R := fun O σ H s Q k =>
  h O σ H s _ fun x H1 d q e1 r1 => by
    rw [isNon_rep r1]
    exact k _ H1 _ q e1 rep_bl
/-! ### items -/
theorem atI_rep {F : Hp} {ds : List Da} {xs : List V} {i : Int} {d : Da} (h : RepL K F ds xs) (e : atI ds i = some d) : ∃ v, atI xs i = some v ∧ Rep K F d v := by
  unfold atI at e ⊢
  rw [h.length]
  cases q : ixN ds.length i with
  | none => rw [q] at e; cases e
  | some j =>
    rw [q] at e
    exact h.get e
theorem rv_ixT {l : List Da} {i : Int} {d : Da} (e : atI l i = some d) (r : R d) : RvD K (rIxT K) (.tup l) (.int i) R := fun O H x y _ r1 r2 Q k => by
  simp only [Rep] at r1 r2
  obtain ⟨a, xs, rfl, h2, h3⟩ := r1
  obtain ⟨v, h4, h5⟩ := atI_rep h3 e
  exact ⟨a, xs, i, v, rfl, r2, SqT.of (hid_same _ _ _ _ h2), h4, k _ H _ r (Same.refl H) h5⟩
theorem rv_ixL {l : List Da} {i : Int} {d : Da} (e : atI l i = some d) (r : R d) : RvD K (rIxL K) (.lst l) (.int i) R := fun O H x y _ r1 r2 Q k => by
  simp only [Rep] at r1 r2
  obtain ⟨a, xs, rfl, h2, h3⟩ := r1
  obtain ⟨v, h4, h5⟩ := atI_rep h3 e
  exact ⟨a, xs, i, v, rfl, r2, SqL.of (hid_same _ _ _ _ h2), h4, k _ H _ r (Same.refl H) h5⟩
theorem rv_ixR {l : List Int} {i d : Int} (e : atI l i = some d) (r : R (.int d)) : RvD K (rIxL K) (.scr l) (.int i) R := fun O H x y _ r1 r2 Q k => by
  simp only [Rep] at r1 r2
  obtain ⟨a, rfl, h2⟩ := r1
  refine ⟨a, _, i, .int d, rfl, r2, (hid_same _ _).seq h2, ?_, k _ H _ r (Same.refl H) rep_int⟩
  unfold atI at e ⊢
  rw [List.length_map]
  cases q : ixN l.length i with
  | none => rw [q] at e; cases e
  | some j =>
    rw [q] at e
    have e : l[j]? = some d := e
    show (l.map V.int)[j]? = _
    rw [List.getElem?_map, e]
    rfl
theorem rv_ixS {z : Str} {i : Int} {c : Nat} (hl : z.length ≤ 100000) (e : atI z.cps.toList i = some c) (r : R (.str ⟨#[c]⟩)) : RvD K rIxS (.str z) (.int i) R := fun O H x y _ r1 r2 Q k => by
  simp only [Rep] at r1 r2
  exact ⟨z, i, c, r1, r2, Nat.le_trans hl (by decide), e, k _ H _ r (Same.refl H) rep_str⟩
/-! ### an attribute -/
theorem ev_fld {f : Str} (h : EvD K ta G fun d => ∃ C fs x, d = .obj C fs ∧ Cls K C ∧ NoAttr K C f ∧ fs.lookup f = some x ∧ R x) : EvD K (tFld K ta f) G R := fun O σ H s Q k =>
  h O σ H s _ fun v H1 d ⟨C, fs, x, e, c, n, l, q⟩ e1 r1 => by
    subst e
    simp only [Rep] at r1
    obtain ⟨a, dx, gs, rfl, h2, h3⟩ := r1
    obtain ⟨u, l2, r2⟩ := h3.look l
    exact ⟨a, C, dx, gs, u, rfl, hid_same _ _ _ _ h2, c, n, l2, k _ H1 _ q e1 r2⟩
theorem ev_con {f : Str} (h : EvD K ta G fun d => ∃ C fs v u x, d = .obj C fs ∧ Cls K C ∧ Con K C f v u ∧ flatD x = some v ∧ fs.lookup f = none ∧ R x) : EvD K (tCon K ta f) G R := fun O σ H s Q k =>
  h O σ H s _ fun v H1 d ⟨C, fs, w, u, x, e, c, n, hx, l, q⟩ e1 r1 => by
    subst e
    simp only [Rep] at r1
    obtain ⟨a, dx, gs, rfl, h2, h3⟩ := r1
    refine ⟨a, C, dx, gs, w, u, rfl, hid_same _ _ _ _ h2, c, n, h3.look0 l, k _ H1 x q e1 ?_⟩
    cases x <;> simp only [flatD, Option.some.injEq, reduceCtorEq] at hx <;> simp only [Rep] <;> exact hx.symm
end
end Sc
/-! Fd2: statements, calls, loops on data. -/
namespace Sc
open PySem L2

structure StB (K : PySem.W.Frag) (B : Hp) (O0 O : Addr → Bool) (σ : St) (H : Hp) (G : List SD) : Prop where
  st : StV K O σ H G
  base : Same B H
  sub : ∀ a, O0 a = true → O a = true
  off : ∀ a, O a = true → O0 a = true ∨ B a = none
  fine : ∀ (i : Nat) (l : List Da) (a : Addr), G[i]? = some (.own l) → σ[i]? = some (some (.ref a)) → O0 a = false
  fineI : ∀ (i : Nat) (a C : Addr) (fs : List (Str × Da)), G[i]? = some (.ino a C fs) → B a = none
structure Post where
  nx : List SD → Prop
  rt : Da → Prop
  bk : List SD → Prop := fun _ => False
  ct : List SD → Prop := fun _ => False
structure Cont (K : PySem.W.Frag) (B : Hp) (O0 : Addr → Bool) (P : Post) (E : Ends) : Prop where
  nx : ∀ O σ H G, P.nx G → StB K B O0 O σ H G → E.nx σ H
  rt : ∀ v H d, P.rt d → Same B H → Rep K (hid O0 H) d v → E.rt v H
  bk : ∀ O σ H G, P.bk G → StB K B O0 O σ H G → E.bk σ H
  ct : ∀ O σ H G, P.ct G → StB K B O0 O σ H G → E.ct σ H
section
variable (K : PySem.W.Frag)
def HoD (t : TS) (G : List SD) (P : Post) : Prop :=
  ∀ B O0 O σ H E, StB K B O0 O σ H G → Cont K B O0 P E → t E σ H
def GoD (g : TG) (d : Da) (G : List SD) (k : List SD → Prop) : Prop :=
  ∀ B O0 O σ H v, StB K B O0 O σ H G → Rep K (hid O H) d v → ∀ Q : St → Hp → Prop, (∀ O' σ' H' G', k G' → StB K B O0 O' σ' H' G' → Q σ' H') → g v σ H Q
def GsD (g : TGs) (ds : List Da) (G : List SD) (k : List SD → Prop) : Prop :=
  ∀ B O0 O σ H vs, StB K B O0 O σ H G → RepL K (hid O H) ds vs → ∀ Q : St → Hp → Prop, (∀ O' σ' H' G', k G' → StB K B O0 O' σ' H' G' → Q σ' H') → g vs σ H Q
end
section
variable {K : PySem.W.Frag} {B B' : Hp} {O0 O O' : Addr → Bool} {σ : St} {H H' : Hp} {G : List SD} {P : Post}
theorem StB.mono (e : Same H H') (h : StB K B O0 O σ H G) : StB K B O0 O σ H' G := ⟨h.st.mono e, h.base.trans e, h.sub, h.off, h.fine, h.fineI⟩
theorem StB.weak (e : Same B B') (h : StB K B' O0 O σ H G) : StB K B O0 O σ H G :=
  ⟨h.st, e.trans h.base, h.sub, fun a q => (h.off a q).imp id fun z => e.free z, h.fine, fun i a C fs q => e.free (h.fineI i a C fs q)⟩
theorem Cont.weak {E : Ends} (e : Same B B') (c : Cont K B O0 P E) : Cont K B' O0 P E :=
  ⟨fun O σ H G p s => c.nx O σ H G p (s.weak e), fun v H d p s r => c.rt v H d p (e.trans s) r, fun O σ H G p s => c.bk O σ H G p (s.weak e), fun O σ H G p s => c.ct O σ H G p (s.weak e)⟩
/-- what stands now, but for what the run itself owns -/
def low (B : Hp) (O : Addr → Bool) (H : Hp) : Hp := hid (fun a => O a && (B a).isNone) H
theorem low_none {a : Addr} (h1 : O a = true) (h2 : B a = none) : low B O H a = none := by
  show (if (O a && (B a).isNone) = true then none else H a) = none
  rw [h1, h2]
  rfl
theorem StB.up (h : StB K B O0 O σ H G) : Same B (low B O H) ∧ StB K (low B O H) O0 O σ H G := by
  have e : Same B (low B O H) := fun b o q => hid_of (by simp [q]) (h.base b o q)
  refine ⟨e, h.st, hid_same _ _, h.sub, fun a q => ?_, h.fine, fun i a C fs q => ?_⟩
  · rcases h.off a q with z | z
    · exact .inl z
    · exact .inr (low_none q z)
  · obtain ⟨dx, gs, h1, h2, _⟩ := h.st.slot i _ q
    exact low_none h2 (h.fineI i a C fs q)
/-- what was frozen stays so -/
theorem StB.keep {H1 : Hp} {O1 : Addr → Bool} {σ1 : St} {G1 : List SD} (s : ∀ a, O0 a = true → O a = true) (h : StB K (low B O H) O0 O1 σ1 H1 G1) : Same (hid O H) (hid O1 H1) := fun b o q => by
  obtain ⟨q1, q2⟩ := hid_some q
  have q3 : low B O H b = some o := hid_of (by simp [q1]) q2
  refine hid_of ?_ (h.base b o q3)
  cases z : O1 b with
  | false => rfl
  | true =>
    rcases h.off b z with y | y
    · rw [s b y] at q1; cases q1
    · rw [y] at q3; cases q3

/-! ### slots are stored -/
theorem get_set {α : Type} {l : List α} {i j : Nat} {a b : α} (h : (l.set i a)[j]? = some b) : (i = j ∧ b = a) ∨ (i ≠ j ∧ l[j]? = some b) := by
  by_cases e : i = j
  · subst e
    rw [List.getElem?_set_self'] at h
    cases q : l[i]? with
    | none => rw [q] at h; cases h
    | some c => rw [q] at h; cases h; exact .inl ⟨rfl, rfl⟩
  · rw [List.getElem?_set_ne e] at h
    exact .inr ⟨e, h⟩
theorem StV.set_val {i : Nat} {d : Da} {v : V} (s : StV K O σ H G) (r : Rep K (hid O H) d v) : StV K O (σ.set i (some v)) H (G.set i (.val d)) := by
  refine ⟨by simp [s.len], s.there, fun j sd q => ?_, fun j k si sj a q1 q2 m1 m2 e1 e2 => ?_⟩
  · rcases get_set q with ⟨rfl, rfl⟩ | ⟨n, q'⟩
    · have hi : i < σ.length := by
        have := (List.getElem?_eq_some_iff.mp q).1
        rw [List.length_set] at this
        rw [s.len]; exact this
      exact ⟨v, by rw [List.getElem?_set_self hi], r⟩
    · rw [List.getElem?_set_ne n]
      exact s.slot j sd q'
  · rcases get_set q1 with ⟨rfl, rfl⟩ | ⟨n1, q1'⟩
    · cases m1
    · rcases get_set q2 with ⟨rfl, rfl⟩ | ⟨n2, q2'⟩
      · cases m2
      · rw [List.getElem?_set_ne n1] at e1
        rw [List.getElem?_set_ne n2] at e2
        exact s.apart j k si sj a q1' q2' m1 m2 e1 e2
theorem StV.set_un {i : Nat} {v : Option V} (s : StV K O σ H G) : StV K O (σ.set i v) H (G.set i .un) := by
  refine ⟨by simp [s.len], s.there, fun j sd q => ?_, fun j k si sj a q1 q2 m1 m2 e1 e2 => ?_⟩
  · rcases get_set q with ⟨rfl, rfl⟩ | ⟨n, q'⟩
    · trivial
    · rw [List.getElem?_set_ne n]
      exact s.slot j sd q'
  · rcases get_set q1 with ⟨rfl, rfl⟩ | ⟨n1, q1'⟩
    · cases m1
    · rcases get_set q2 with ⟨rfl, rfl⟩ | ⟨n2, q2'⟩
      · cases m2
      · rw [List.getElem?_set_ne n1] at e1
        rw [List.getElem?_set_ne n2] at e2
        exact s.apart j k si sj a q1' q2' m1 m2 e1 e2
/-- the slot's own description is weakened: nothing stored -/
theorem StV.forget {i : Nat} (s : StV K O σ H G) : StV K O σ H (G.set i .un) := by
  refine ⟨by simp [s.len], s.there, fun j sd q => ?_, fun j k si sj a q1 q2 m1 m2 e1 e2 => ?_⟩
  · rcases get_set q with ⟨rfl, rfl⟩ | ⟨n, q'⟩
    · trivial
    · exact s.slot j sd q'
  · rcases get_set q1 with ⟨rfl, rfl⟩ | ⟨n1, q1'⟩
    · cases m1
    · rcases get_set q2 with ⟨rfl, rfl⟩ | ⟨n2, q2'⟩
      · cases m2
      · exact s.apart j k si sj a q1' q2' m1 m2 e1 e2
theorem rm1_le {O : Addr → Bool} {p a : Addr} (h : (O a && !decide (a = p)) = true) : O a = true := by
  simp at h
  exact h.1
/-- an own list is left as it stands -/
theorem StV.freeze {i : Nat} {l : List Da} (s : StV K O σ H G) (h : G[i]? = some (.own l)) : ∃ O' : Addr → Bool, (∀ a, O' a = true → O a = true) ∧ (∃ p, (∀ a, O a = true → O' a = true ∨ a = p) ∧ σ[i]? = some (some (.ref p)) ∧ O p = true) ∧ StV K O' σ H (G.set i (.val (.lst l))) := by
  obtain ⟨p, xs, h1, h2, h3, h4⟩ := s.slot i _ h
  refine ⟨fun a => O a && !decide (a = p), fun a q => rm1_le q, ⟨p, fun a q => ?_, h1, h2⟩, by simp [s.len], fun a q => s.there a (rm1_le q), fun j sd q => ?_, fun j k si sj a q1 q2 m1 m2 e1 e2 => ?_⟩
  · by_cases e : a = p
    · exact .inr e
    · exact .inl (by simp [q, e])
  · have m : Same (hid O H) (hid (fun a => O a && !decide (a = p)) H) := hid_sub fun a q => rm1_le q
    rcases get_set q with ⟨rfl, rfl⟩ | ⟨n, q'⟩
    · refine ⟨_, h1, ?_⟩
      simp only [Rep]
      exact ⟨p, xs, rfl, hid_of (by simp) h3, h4.mono m⟩
    · have z := s.slot j sd q'
      have dis : ∀ a, sd.mine = true → σ[j]? = some (some (.ref a)) → a ≠ p := fun a hm e ea => by
        subst ea
        exact n (s.apart i j _ _ a h q' rfl hm h1 e)
      cases sd with
      | un => trivial
      | val d =>
        obtain ⟨v, z1, z2⟩ := z
        exact ⟨v, z1, z2.mono m⟩
      | own l2 =>
        obtain ⟨a, ys, z1, z2, z3, z4⟩ := z
        exact ⟨a, ys, z1, by simp [z2, dis a rfl z1], z3, z4.mono m⟩
      | ino a C fs =>
        obtain ⟨dx, gs, z1, z2, z3, z4⟩ := z
        exact ⟨dx, gs, z1, by simp [z2, dis a rfl z1], z3, z4.mono m⟩
  · rcases get_set q1 with ⟨rfl, rfl⟩ | ⟨n1, q1'⟩
    · cases m1
    · rcases get_set q2 with ⟨rfl, rfl⟩ | ⟨n2, q2'⟩
      · cases m2
      · exact s.apart j k si sj a q1' q2' m1 m2 e1 e2
/-- a new own list -/
theorem StV.set_own {i : Nat} {p : Addr} {l : List Da} {xs : List V} {H0 : Hp} (s : StV K O σ H0 G) (e : Same H0 H) (hp : H0 p = none) (hx : H p = some (.lst xs)) (r : RepL K (hid (ins1 O p) H) l xs) :
    StV K (ins1 O p) (σ.set i (some (.ref p))) H (G.set i (.own l)) := by
  have np : O p = false := fresh_false s hp
  refine ⟨by simp [s.len], fun a q => ?_, fun j sd q => ?_, fun j k si sj a q1 q2 m1 m2 e1 e2 => ?_⟩
  · rcases ins1_inv q with z | rfl
    · exact Same.ne e (s.there a z)
    · rw [hx]; intro z; cases z
  · rcases get_set q with ⟨rfl, rfl⟩ | ⟨n, q'⟩
    · have hi : i < σ.length := by
        have := (List.getElem?_eq_some_iff.mp q).1
        rw [List.length_set] at this
        rw [s.len]; exact this
      exact ⟨p, xs, by rw [List.getElem?_set_self hi], ins1_self, hx, r⟩
    · rw [List.getElem?_set_ne n]
      exact (s.slot j sd q').grow e (fun a => ins1_of) fun a z => (ins1_inv z).imp id fun y => by rw [y]; exact hp
  · have key : ∀ (j : Nat) (si : SD) (a : Addr), (G.set i (.own l))[j]? = some si → si.mine = true → (σ.set i (some (.ref p)))[j]? = some (some (.ref a)) → (i = j ∧ a = p) ∨ (i ≠ j ∧ a ≠ p ∧ G[j]? = some si ∧ σ[j]? = some (some (.ref a))) := fun j si a q m e => by
      rcases get_set q with ⟨rfl, rfl⟩ | ⟨n, q'⟩
      · rcases get_set e with ⟨_, e'⟩ | ⟨n, _⟩
        · cases e'; exact .inl ⟨rfl, rfl⟩
        · exact absurd rfl n
      · rw [List.getElem?_set_ne n] at e
        refine .inr ⟨n, fun z => ?_, q', e⟩
        subst z
        have z := s.slot j si q'
        cases si with
        | un => cases m
        | val d => cases m
        | own l2 =>
          obtain ⟨b, ys, z1, z2, _⟩ := z
          rw [e] at z1; cases z1
          rw [np] at z2; cases z2
        | ino b C fs =>
          obtain ⟨dx, gs, z1, z2, _⟩ := z
          rw [e] at z1; cases z1
          rw [np] at z2; cases z2
    rcases key j si a q1 m1 e1 with ⟨rfl, rfl⟩ | ⟨n1, na1, g1, s1⟩
    · rcases key k sj _ q2 m2 e2 with ⟨rfl, _⟩ | ⟨_, na2, _, _⟩
      · rfl
      · exact absurd rfl na2
    · rcases key k sj a q2 m2 e2 with ⟨_, e⟩ | ⟨n2, na2, g2, s2⟩
      · exact absurd e na1
      · exact s.apart j k si sj a g1 g2 m1 m2 s1 s2
/-- an own list is written -/
theorem StV.write {i : Nat} {p : Addr} {l l' : List Da} {xs : List V} (s : StV K O σ H G) (h : G[i]? = some (.own l)) (hs : σ[i]? = some (some (.ref p))) (r : RepL K (hid O H) l' xs) :
    StV K O σ (upd H p (.lst xs)) (G.set i (.own l')) := by
  obtain ⟨p', ys, h1, h2, h3, h4⟩ := s.slot i _ h
  rw [hs] at h1
  cases h1
  have eF : hid O (upd H p (.lst xs)) = hid O H := by
    funext b
    unfold hid
    cases q : O b with
    | true => rfl
    | false =>
      rw [if_neg Bool.false_ne_true, if_neg Bool.false_ne_true, upd_ne]
      intro z
      rw [z, h2] at q
      cases q
  refine ⟨by simp [s.len], fun a q => ?_, fun j sd q => ?_, fun j k si sj a q1 q2 m1 m2 e1 e2 => ?_⟩
  · by_cases e : a = p
    · rw [e, upd_same]; intro z; cases z
    · rw [upd_ne e]; exact s.there a q
  · rcases get_set q with ⟨rfl, rfl⟩ | ⟨n, q'⟩
    · exact ⟨p, xs, hs, h2, upd_same, by rw [eF]; exact r⟩
    · have z := s.slot j sd q'
      have dis : ∀ a, sd.mine = true → σ[j]? = some (some (.ref a)) → a ≠ p := fun a hm e ea => by
        subst ea
        exact n (s.apart i j _ _ a h q' rfl hm hs e)
      cases sd with
      | un => trivial
      | val d =>
        obtain ⟨v, z1, z2⟩ := z
        exact ⟨v, z1, by rw [eF]; exact z2⟩
      | own l2 =>
        obtain ⟨a, ys, z1, z2, z3, z4⟩ := z
        exact ⟨a, ys, z1, z2, by rw [upd_ne (dis a rfl z1)]; exact z3, by rw [eF]; exact z4⟩
      | ino a C fs =>
        obtain ⟨dx, gs, z1, z2, z3, z4⟩ := z
        exact ⟨dx, gs, z1, z2, by rw [upd_ne (dis a rfl z1)]; exact z3, by rw [eF]; exact z4⟩
  · have key : ∀ (j : Nat) (si : SD), (G.set i (.own l'))[j]? = some si → si.mine = true → ∃ sk, G[j]? = some sk ∧ sk.mine = true := fun j si q m => by
      rcases get_set q with ⟨rfl, rfl⟩ | ⟨n, q'⟩
      · exact ⟨_, h, rfl⟩
      · exact ⟨_, q', m⟩
    obtain ⟨s1, g1, n1⟩ := key j si q1 m1
    obtain ⟨s2, g2, n2⟩ := key k sj q2 m2
    exact s.apart j k s1 s2 a g1 g2 n1 n2 e1 e2
/-- a field of the new instance is written -/
theorem StV.writeI {i : Nat} {p C dx : Addr} {fs fs' : List (Str × Da)} {gs : List (Str × V)} (s : StV K O σ H G) (h : G[i]? = some (.ino p C fs)) (r : RepF K (hid O H) fs' gs) :
    StV K O σ (upd H p (.ins C dx gs)) (G.set i (.ino p C fs')) := by
  obtain ⟨dx0, ys, hs, h2, h3, h4⟩ := s.slot i _ h
  have eF : hid O (upd H p (.ins C dx gs)) = hid O H := by
    funext b
    unfold hid
    cases q : O b with
    | true => rfl
    | false =>
      rw [if_neg Bool.false_ne_true, if_neg Bool.false_ne_true, upd_ne]
      intro z
      rw [z, h2] at q
      cases q
  refine ⟨by simp [s.len], fun a q => ?_, fun j sd q => ?_, fun j k si sj a q1 q2 m1 m2 e1 e2 => ?_⟩
  · by_cases e : a = p
    · rw [e, upd_same]; intro z; cases z
    · rw [upd_ne e]; exact s.there a q
  · rcases get_set q with ⟨rfl, rfl⟩ | ⟨n, q'⟩
    · exact ⟨dx, gs, hs, h2, upd_same, by rw [eF]; exact r⟩
    · have z := s.slot j sd q'
      have dis : ∀ a, sd.mine = true → σ[j]? = some (some (.ref a)) → a ≠ p := fun a hm e ea => by
        subst ea
        exact n (s.apart i j _ _ a h q' rfl hm hs e)
      cases sd with
      | un => trivial
      | val d =>
        obtain ⟨v, z1, z2⟩ := z
        exact ⟨v, z1, by rw [eF]; exact z2⟩
      | own l2 =>
        obtain ⟨a, ys, z1, z2, z3, z4⟩ := z
        exact ⟨a, ys, z1, z2, by rw [upd_ne (dis a rfl z1)]; exact z3, by rw [eF]; exact z4⟩
      | ino a C fs =>
        obtain ⟨dx, gs, z1, z2, z3, z4⟩ := z
        exact ⟨dx, gs, z1, z2, by rw [upd_ne (dis a rfl z1)]; exact z3, by rw [eF]; exact z4⟩
  · have key : ∀ (j : Nat) (si : SD), (G.set i (.ino p C fs'))[j]? = some si → si.mine = true → ∃ sk, G[j]? = some sk ∧ sk.mine = true := fun j si q m => by
      rcases get_set q with ⟨rfl, rfl⟩ | ⟨n, q'⟩
      · exact ⟨_, h, rfl⟩
      · exact ⟨_, q', m⟩
    obtain ⟨s1, g1, n1⟩ := key j si q1 m1
    obtain ⟨s2, g2, n2⟩ := key k sj q2 m2
    exact s.apart j k s1 s2 a g1 g2 n1 n2 e1 e2

/-! ### statements -/
variable {t u : TS} {te ti : TE} {g : TG} {tt : TT}
theorem HoD.imp {P' : Post} (h : HoD K t G P) (q1 : ∀ G, P.nx G → P'.nx G) (q2 : ∀ d, P.rt d → P'.rt d) (q3 : ∀ G, P.bk G → P'.bk G) (q4 : ∀ G, P.ct G → P'.ct G) : HoD K t G P' := fun B O0 O σ H E s c =>
  h B O0 O σ H E s ⟨fun O σ H G p => c.nx O σ H G (q1 G p), fun v H d p => c.rt v H d (q2 d p), fun O σ H G p => c.bk O σ H G (q3 G p), fun O σ H G p => c.ct O σ H G (q4 G p)⟩
theorem hd_nil (h : P.nx G) : HoD K tNext G P := fun B O0 O σ H E s c => c.nx O σ H G h s
theorem hd_seq (h : HoD K t G { P with nx := fun G' => HoD K u G' P }) : HoD K (tSeq t u) G P := fun B O0 O σ H E s c =>
  h B O0 O σ H _ s ⟨fun O σ H G p s => p B O0 O σ H E s c, c.rt, c.bk, c.ct⟩
theorem StB.set_val {i : Nat} {d : Da} {v : V} (s : StB K B O0 O σ H G) (r : Rep K (hid O H) d v) : StB K B O0 O (σ.set i (some v)) H (G.set i (.val d)) := by
  refine ⟨s.st.set_val r, s.base, s.sub, s.off, fun j l a q e => ?_, fun j a C fs q => ?_⟩
  · rcases get_set q with ⟨_, y⟩ | ⟨n, q'⟩
    · cases y
    · rw [List.getElem?_set_ne n] at e
      exact s.fine j l a q' e
  · rcases get_set q with ⟨_, y⟩ | ⟨n, q'⟩
    · cases y
    · exact s.fineI j a C fs q'
theorem StB.set_un {i : Nat} {v : Option V} (s : StB K B O0 O σ H G) : StB K B O0 O (σ.set i v) H (G.set i .un) := by
  refine ⟨s.st.set_un, s.base, s.sub, s.off, fun j l a q e => ?_, fun j a C fs q => ?_⟩
  · rcases get_set q with ⟨_, y⟩ | ⟨n, q'⟩
    · cases y
    · rw [List.getElem?_set_ne n] at e
      exact s.fine j l a q' e
  · rcases get_set q with ⟨_, y⟩ | ⟨n, q'⟩
    · cases y
    · exact s.fineI j a C fs q'
theorem StB.forget {i : Nat} (s : StB K B O0 O σ H G) : StB K B O0 O σ H (G.set i .un) := by
  refine ⟨s.st.forget, s.base, s.sub, s.off, fun j l a q e => ?_, fun j a C fs q => ?_⟩
  · rcases get_set q with ⟨_, y⟩ | ⟨n, q'⟩
    · cases y
    · exact s.fine j l a q' e
  · rcases get_set q with ⟨_, y⟩ | ⟨n, q'⟩
    · cases y
    · exact s.fineI j a C fs q'
theorem StB.set_own {i : Nat} {p : Addr} {l : List Da} {xs : List V} {H0 : Hp} (s : StB K B O0 O σ H0 G) (e : Same H0 H) (hp : H0 p = none) (hx : H p = some (.lst xs)) (r : RepL K (hid (ins1 O p) H) l xs) :
    StB K B O0 (ins1 O p) (σ.set i (some (.ref p))) H (G.set i (.own l)) := by
  refine ⟨s.st.set_own e hp hx r, s.base.trans e, fun a z => ins1_of (s.sub a z), fun a z => ?_, fun j l2 a q e2 => ?_, fun j a C fs q => ?_⟩
  · rcases ins1_inv z with y | rfl
    · exact s.off a y
    · exact .inr (s.base.free hp)
  · rcases get_set q with ⟨ej, y⟩ | ⟨n, q'⟩
    · rcases get_set e2 with ⟨_, y2⟩ | ⟨n, _⟩
      · cases y2
        cases z : O0 p with
        | false => rfl
        | true => exact absurd hp (s.st.there p (s.sub p z))
      · exact absurd ej n
    · rw [List.getElem?_set_ne n] at e2
      exact s.fine j l2 a q' e2
  · rcases get_set q with ⟨_, y⟩ | ⟨n, q'⟩
    · cases y
    · exact s.fineI j a C fs q'
theorem StB.write {i : Nat} {p : Addr} {l l' : List Da} {xs : List V} (s : StB K B O0 O σ H G) (h : G[i]? = some (.own l)) (hs : σ[i]? = some (some (.ref p))) (r : RepL K (hid O H) l' xs) :
    StB K B O0 O σ (upd H p (.lst xs)) (G.set i (.own l')) := by
  refine ⟨s.st.write h hs r, fun b o e => ?_, s.sub, s.off, fun j l2 a q e => ?_, fun j a C fs q => ?_⟩
  · rw [upd_ne]
    · exact s.base b o e
    · intro z
      subst z
      obtain ⟨p', ys, h1, h2, _⟩ := s.st.slot i _ h
      rw [hs] at h1
      cases h1
      rcases s.off _ h2 with y | y
      · rw [s.fine i l _ h hs] at y
        cases y
      · rw [y] at e
        cases e
  · rcases get_set q with ⟨ej, y⟩ | ⟨n, q'⟩
    · subst ej
      exact s.fine i l a h e
    · exact s.fine j l2 a q' e
  · rcases get_set q with ⟨_, y⟩ | ⟨n, q'⟩
    · cases y
    · exact s.fineI j a C fs q'
theorem hd_asg (h : EvD K te G fun d => GoD K g d G P.nx) : HoD K (tAsg te g) G P := fun B O0 O σ H E s c =>
  h O σ H s.st _ fun v H1 d p e r => p B O0 O σ H1 v (s.mono e) r _ c.nx
theorem go_name {i : Nat} {d : Da} {k : List SD → Prop} (h : k (G.set i (.val d))) : GoD K (gName i) d G k := fun B O0 O σ H v s r Q q =>
  q O _ H _ h (s.set_val r)
theorem hd_set {i : Nat} (h : EvD K te G fun d => P.nx (G.set i (.val d))) : HoD K (tAsg te (gName i)) G P := hd_asg (h.imp fun _ => go_name)
theorem hd_own {i : Nat} (h : EvN K te G fun l => P.nx (G.set i (.own l))) : HoD K (tAsg te (gName i)) G P := fun B O0 O σ H E s c =>
  h O σ H s.st _ fun p H1 xs l q hp e hx r => c.nx (ins1 O p) _ H1 _ q (s.set_own e hp hx r)
theorem hd_drop (h : EvD K te G fun _ => P.nx G) : HoD K (tDrop te) G P := fun B O0 O σ H E s c =>
  h O σ H s.st _ fun v H1 d p e r => c.nx O σ H1 G p (s.mono e)
theorem hd_ret (h : EvD K te G P.rt) : HoD K (tRet te) G P := fun B O0 O σ H E s c =>
  h O σ H s.st _ fun v H1 d p e r => c.rt v H1 d p (s.base.trans e) (r.mono (hid_sub s.sub))
theorem hd_retN (h : P.rt .non) : HoD K tRetN G P := fun B O0 O σ H E s c => c.rt .non H .non h s.base rep_non
theorem hd_if (h : EvT K tt G fun b => (b = true → HoD K t G P) ∧ (b = false → HoD K u G P)) : HoD K (tIfS tt t u) G P := fun B O0 O σ H E s c =>
  h O σ H s.st _ fun b H1 ⟨q1, q2⟩ e => by
    cases b with
    | true => exact q1 rfl B O0 O σ H1 E (s.mono e) c
    | false => exact q2 rfl B O0 O σ H1 E (s.mono e) c
theorem hd_break (h : P.bk G) : HoD K tBreak G P := fun B O0 O σ H E s c => c.bk O σ H G h s
theorem hd_cont (h : P.ct G) : HoD K tCont G P := fun B O0 O σ H E s c => c.ct O σ H G h s
theorem hd_frz (i : Nat) {l : List Da} (h : G[i]? = some (.own l)) (q : HoD K t (G.set i (.val (.lst l))) P) : HoD K t G P := fun B O0 O σ H E s c => by
  obtain ⟨O', h1, ⟨p, h2, h3, h4⟩, h5⟩ := s.st.freeze h
  have z := s.fine i l p h h3
  refine q B O0 O' σ H E ⟨h5, s.base, fun a y => ?_, fun a y => s.off a (h1 a y), fun j l2 a y e => ?_, fun j a C fs y => ?_⟩ c
  · rcases h2 a (s.sub a y) with x | x
    · exact x
    · rw [x, z] at y; cases y
  · rcases get_set y with ⟨_, x⟩ | ⟨_, y'⟩
    · cases x
    · exact s.fine j l2 a y' e
  · rcases get_set y with ⟨_, x⟩ | ⟨_, y'⟩
    · cases x
    · exact s.fineI j a C fs y'
/-- an own list grows -/
theorem hd_append (i : Nat) {l : List Da} (h : G[i]? = some (.own l)) (hl : l.length ≤ 100000) (q : EvD K te G fun d => P.nx (G.set i (.own (l ++ [d])))) :
    HoD K (tDrop (tBM K "list" rAppend (tVar i) (tCons te tNil))) G P := fun B O0 O σ H E s c => by
  obtain ⟨a, xs, h1, h2, h3, h4⟩ := s.st.slot i _ h
  refine ⟨.ref a, h1, .inl ⟨rfl, xs, SqL.of h3⟩, q O σ H s.st _ fun v H1 d r e rv => ?_⟩
  have h4' := h4.mono (hid_mono e)
  refine ⟨a, xs, v, rfl, rfl, e _ _ h3, Nat.lt_of_le_of_lt (Nat.le_trans (Nat.le_of_eq h4.length) hl) (by decide), ?_⟩
  exact c.nx O σ _ _ r ((s.mono e).write h h1 (h4'.append (.one rv)))
/-- an own list's item is stored -/
theorem hd_setitem (i : Nat) {l : List Da} (h : G[i]? = some (.own l)) (q : EvD K te G fun d => EvD K ti G fun z => ∃ k j, z = .int k ∧ ixN l.length k = some j ∧ P.nx (G.set i (.own (l.set j d)))) :
    HoD K (tAsg te (gSub (tVar i) ti rSetL)) G P := fun B O0 O σ H E s c => by
  obtain ⟨a, xs, h1, h2, h3, h4⟩ := s.st.slot i _ h
  refine q O σ H s.st _ fun v H1 d r e rv => ⟨.ref a, h1, r O σ H1 (s.st.mono e) _ fun z H2 dz ⟨k, j, ez, hj, p⟩ e2 rz => ?_⟩
  subst ez
  simp only [Rep] at rz
  have h4' := h4.mono (hid_mono (e.trans e2))
  refine ⟨a, xs, k, j, rfl, rz, (e.trans e2) _ _ h3, by rw [h4.length]; exact hj, ?_⟩
  exact c.nx O σ _ _ p ((s.mono (e.trans e2)).write h h1 (h4'.set (rv.mono (hid_mono e2))))
/-- an own list's item -/
theorem ev_ixO (i : Nat) {l : List Da} {R : Da → Prop} (h : G[i]? = some (.own l)) (q : EvD K ti G fun z => ∃ k d, z = .int k ∧ atI l k = some d ∧ R d) : EvD K (tOp (rIxL K) (tVar i) ti) G R := fun O σ H s Q c => by
  obtain ⟨a, xs, h1, h2, h3, h4⟩ := s.slot i _ h
  refine ⟨.ref a, h1, q O σ H s _ fun z H1 dz ⟨k, d, ez, hd, r⟩ e rz => ?_⟩
  subst ez
  simp only [Rep] at rz
  have h4' := h4.mono (hid_mono e)
  obtain ⟨v, hv, rv⟩ := atI_rep h4' hd
  exact ⟨a, xs, k, v, rfl, rz, SqL.of (e _ _ h3), hv, c v H1 d r e rv⟩
/-- fields of the new instance -/
theorem hd_fld {f : Str} {i : Nat} {p C : Addr} {fs : List (Str × Da)} (h : G[i]? = some (.ino p C fs)) (hc : Cls K C) (hn : NoAttr K C f) (hl : fs.length < 1000)
    (q : EvD K te G fun d => P.nx (G.set i (.ino p C (putD f d fs)))) : HoD K (sFld K (tVar i) te f) G P := fun B O0 O σ H E s c => by
  refine q O σ H s.st _ fun v H1 d r e rv => ?_
  obtain ⟨dx, gs, h1, h2, h3, h4⟩ := (s.st.mono e).slot i _ h
  refine ⟨.ref p, h1, p, C, dx, gs, rfl, h3, hc, hn, by rw [h4.length]; exact hl, ?_⟩
  refine c.nx O σ _ _ r ⟨(s.st.mono e).writeI h (h4.put rv), fun b o eb => ?_, s.sub, s.off, fun j l a y e2 => ?_, fun j a C2 fs2 y => ?_⟩
  · rw [upd_ne]
    · exact e _ _ (s.base b o eb)
    · intro z
      subst z
      rw [s.fineI i _ C fs h] at eb
      cases eb
  · rcases get_set y with ⟨_, x⟩ | ⟨_, y'⟩
    · cases x
    · exact s.fine j l a y' e2
  · rcases get_set y with ⟨_, x⟩ | ⟨_, y'⟩
    · cases x
      exact s.fineI i _ C fs h
    · exact s.fineI j a C2 fs2 y'
end
end Sc
/-! Fd3: calls, promises, loops, comprehensions on data. -/
namespace Sc
open PySem L2

/-! ### promises -/
abbrev WP := List Da → (Da → Prop) → Prop
/-- a def that changes nothing -/
def spD (K : PySem.W.Frag) (W : WP) : Sp := fun vs H Q _ => ∃ (O : Addr → Bool) (ds : List Da) (R : Da → Prop), (∀ a, O a = true → H a ≠ none) ∧ RepL K (hid O H) ds vs ∧ W ds R ∧
  ∀ v H' d, R d → Same H H' → Rep K (hid O H') d v → Q v H'
abbrev WPI := List (Str × Da) → List Da → (List (Str × Da) → Prop) → Prop
/-- an __init__ -/
def spI (K : PySem.W.Frag) (C : Addr) (W : WPI) : Sp := fun vs H Q _ => ∃ (O : Addr → Bool) (x dx : Addr) (gs : List (Str × V)) (fs : List (Str × Da)) (ws : List V) (ds : List Da) (R : List (Str × Da) → Prop),
  vs = .ref x :: ws ∧ H x = some (.ins C dx gs) ∧ O x = true ∧ (∀ a, O a = true → H a ≠ none) ∧ RepF K (hid O H) fs gs ∧ RepL K (hid O H) ds ws ∧ W fs ds R ∧
  ∀ H' dx' gs' fs', R fs' → (∀ b o, b ≠ x → H b = some o → H' b = some o) → H' x = some (.ins C dx' gs') → RepF K (hid O H') fs' gs' → Q .non H'
section
variable {P : Program} {w : World} {K : PySem.W.Frag} {mg : Str → Option Value} {base : Heap}
def slots (ds : List Da) (n : Nat) : List SD := ds.map .val ++ List.replicate (n - ds.length) .un
theorem stv_start {O : Addr → Bool} {H : Hp} {ds : List Da} {vs : List V} {N : List Str} (hO : ∀ a, O a = true → H a ≠ none) (r : RepL K (hid O H) ds vs) : StV K O (L2.start N vs) H (slots ds N.length) := by
  have hl := r.length
  refine ⟨by unfold L2.start slots; simp [hl], hO, fun i sd q => ?_, fun i j si sj a q1 q2 m1 m2 => ?_⟩
  · unfold slots at q
    by_cases hi : i < ds.length
    · rw [List.getElem?_append_left (by simpa using hi), List.getElem?_map] at q
      cases e : ds[i]? with
      | none => rw [e] at q; cases q
      | some d =>
        rw [e] at q
        cases q
        obtain ⟨v, h1, h2⟩ := r.get e
        refine ⟨v, ?_, h2⟩
        unfold L2.start
        rw [List.getElem?_append_left (by rw [List.length_map, hl]; exact hi), List.getElem?_map, h1]
        rfl
    · rw [List.getElem?_append_right (by simpa using hi), List.getElem?_replicate] at q
      split at q
      · cases q; trivial
      · cases q
  · exfalso
    have : ∀ (i : Nat) (si : SD), (slots ds N.length)[i]? = some si → si.mine = false := fun i si q => by
      unfold slots at q
      by_cases hi : i < ds.length
      · rw [List.getElem?_append_left (by simpa using hi), List.getElem?_map] at q
        cases e : ds[i]? with
        | none => rw [e] at q; cases q
        | some d => rw [e] at q; cases q; rfl
      · rw [List.getElem?_append_right (by simpa using hi), List.getElem?_replicate] at q
        split at q
        · cases q; rfl
        · cases q
    rw [this i si q1] at m1
    cases m1
theorem no_mine {ds : List Da} {n i : Nat} {si : SD} (q : (slots ds n)[i]? = some si) : si.mine = false := by
  unfold slots at q
  by_cases hi : i < ds.length
  · rw [List.getElem?_append_left (by simpa using hi), List.getElem?_map] at q
    cases e : ds[i]? with
    | none => rw [e] at q; cases q
    | some d => rw [e] at q; cases q; rfl
  · rw [List.getElem?_append_right (by simpa using hi), List.getElem?_replicate] at q
    split at q
    · cases q; rfl
    · cases q
/-- a def, its defaults not looked at -/
structure FunV (K : PySem.W.Frag) (x qual : Str) (st : Stmt) (f : Addr) (fd : FuncData) : Prop where
  ex : ∃ (oc : Value) (od : Option Addr) (dV kV doc pm : Value) (an : Option Addr) (cdv ct : Value) (osl : Array (Option Value)),
    fd = PySem.W.fnOf x qual (defArgs st) (defBody st) (defScope st) dV kV doc pm an cdv ct ∧ K.lookup f = some ⟨oc, od, .func fd, osl⟩ ∧ PySem.W.codeIn K cdv qual = true
theorem FunV.of {x qual : Str} {st : Stmt} {f : Addr} {fd : FuncData} (F : Fun K x qual st f fd) : FunV K x qual st f fd := by
  obtain ⟨oc, od, kV, doc, pm, an, cdv, ct, osl, h⟩ := F.ex
  exact ⟨oc, od, .none, kV, doc, pm, an, cdv, ct, osl, h⟩
theorem FunV.ok {x qual : Str} {st : Stmt} {f : Addr} {fd : FuncData} {N ps : List Str} {k : Nat} {sp : Sp} (F : FunV K x qual st f fd) (S : FnScope N ps (defScope st)) (len : ∀ vs H Q E, sp vs H Q E → vs.length = ps.length)
    (hbody : ∀ (cdv : Value) (A : Around) (outer : List Env) (s : Shared) (H : Hp) (vs : List V) (Q : VK) (E : XK), Room k (A.deeper (PyProof.Rows.envOfC qual (defScope st) s.heap.objs.size f cdv)) → sp vs H Q E →
      ∃ t, PSs (cxOf CX0 P w K mg base N qual (defScope st) f cdv A outer s H E).nox (defBody st) t ∧ t { nx := fun _ H' => Q .non H', rt := Q } (L2.start N vs) H) : FnOk P w K mg base CX0 (k + 1) f fd ps sp := by
  obtain ⟨oc, od, dV, kV, doc, pm, an, cdv, ct, osl, rfl, lk, hcd⟩ := F.ex
  refine fn_of lk hcd S len fun A outer s H vs Q E hr hsp => ?_
  obtain ⟨t, h, q⟩ := hbody cdv A outer s H vs Q E hr hsp
  exact ⟨t, h.nox, q⟩
/-- THE RULE of a def -/
theorem okD {x qual : Str} {st : Stmt} {f : Addr} {fd : FuncData} {N ps : List Str} {k : Nat} {W : WP} (F : FunV K x qual st f fd) (S : FnScope N ps (defScope st)) (hl : ∀ ds R, W ds R → ds.length = ps.length)
    (hb : ∀ (cdv : Value) (A : Around) (outer : List Env) (s : Shared) (H : Hp) (E : XK), Room k (A.deeper (PyProof.Rows.envOfC qual (defScope st) s.heap.objs.size f cdv)) →
      ∃ t, PSs (cxOf CX0 P w K mg base N qual (defScope st) f cdv A outer s H E).nox (defBody st) t ∧ ∀ ds R, W ds R → HoD K t (slots ds N.length) { nx := fun _ => R .non, rt := R }) :
    FnOk P w K mg base CX0 (k + 1) f fd ps (spD K W) := by
  refine F.ok S (fun vs H Q E h => ?_) (fun cdv A outer s H vs Q E hr h => ?_)
  · obtain ⟨O, ds, R, _, r, hw, _⟩ := h
    rw [r.length, hl ds R hw]
  · obtain ⟨O, ds, R, hO, r, hw, hq⟩ := h
    obtain ⟨t, ht, hd⟩ := hb cdv A outer s H E hr
    refine ⟨t, ht, hd ds R hw H O O _ H _ ⟨stv_start hO r, Same.refl H, fun _ z => z, fun _ z => .inl z, fun i l a q => ?_, fun i a C fs q => ?_⟩ ⟨fun O' σ H' G p s => ?_, fun v H' d p e rv => hq v H' d p e rv, fun _ _ _ _ p => p.elim, fun _ _ _ _ p => p.elim⟩⟩
    · cases no_mine q
    · cases no_mine q
    · exact hq .non H' .non p s.base rep_non
/-- THE RULE of an __init__ -/
theorem okI {x qual : Str} {st : Stmt} {f C : Addr} {fd : FuncData} {n0 : Str} {N ps : List Str} {k : Nat} {W : WPI} (F : FunV K x qual st f fd) (S : FnScope (n0 :: N) (n0 :: ps) (defScope st)) (hl : ∀ fs ds R, W fs ds R → ds.length = ps.length)
    (hb : ∀ (cdv : Value) (A : Around) (outer : List Env) (s : Shared) (H : Hp) (E : XK), Room k (A.deeper (PyProof.Rows.envOfC qual (defScope st) s.heap.objs.size f cdv)) →
      ∃ t, PSs (cxOf CX0 P w K mg base (n0 :: N) qual (defScope st) f cdv A outer s H E).nox (defBody st) t ∧ ∀ self fs ds R, W fs ds R →
        HoD K t (.ino self C fs :: slots ds N.length) { nx := fun G => ∃ fs', G[0]? = some (.ino self C fs') ∧ R fs', rt := fun _ => False }) :
    FnOk P w K mg base CX0 (k + 1) f fd (n0 :: ps) (spI K C W) := by
  refine F.ok S (fun vs H Q E h => ?_) (fun cdv A outer s H vs Q E hr h => ?_)
  · obtain ⟨O, x, dx, gs, fs, ws, ds, R, rfl, _, _, _, _, r, hw, _⟩ := h
    rw [List.length_cons, r.length, hl fs ds R hw]
    rfl
  · obtain ⟨O, x, dx, gs, fs, ws, ds, R, rfl, hx, hO, hthere, rf, r, hw, hq⟩ := h
    obtain ⟨t, ht, hd⟩ := hb cdv A outer s H E hr
    have s0 := stv_start (N := N) hthere r
    have e0 : L2.start (n0 :: N) (V.ref x :: ws) = some (.ref x) :: L2.start N ws := by
      unfold L2.start
      simp
    have hs : StV K O (L2.start (n0 :: N) (V.ref x :: ws)) H (.ino x C fs :: slots ds N.length) := by
      rw [e0]
      refine ⟨by simp [s0.len], hthere, fun i sd q => ?_, fun i j si sj a q1 q2 m1 m2 e1 e2 => ?_⟩
      · cases i with
        | zero =>
          simp at q
          subst q
          exact ⟨dx, gs, rfl, hO, hx, rf⟩
        | succ i => exact s0.slot i sd (by simpa using q)
      · cases i with
        | succ i => cases (no_mine (show (slots ds N.length)[i]? = some si by simpa using q1)).symm.trans m1
        | zero =>
          cases j with
          | zero => rfl
          | succ j => cases (no_mine (show (slots ds N.length)[j]? = some sj by simpa using q2)).symm.trans m2
    let B : Hp := fun b => if b = x then none else H b
    have eB : Same B H := fun b o q => by
      by_cases z : b = x
      · have : B b = none := if_pos z
        rw [this] at q; cases q
      · have : B b = H b := if_neg z
        rw [this] at q; exact q
    refine ⟨t, ht, hd x fs ds R hw B O O _ H _ ⟨hs, eB, fun _ z => z, fun _ z => .inl z, fun i l a q => ?_, fun i a C' fs2 q => ?_⟩ ⟨fun O' σ H' G p s => ?_, fun _ _ _ p => p.elim, fun _ _ _ _ p => p.elim, fun _ _ _ _ p => p.elim⟩⟩
    · cases i with
      | zero => simp at q
      | succ i => cases no_mine (show (slots ds N.length)[i]? = some (.own l) by simpa using q)
    · cases i with
      | zero =>
        simp at q
        obtain ⟨rfl, _⟩ := q
        exact if_pos rfl
      | succ i => cases no_mine (show (slots ds N.length)[i]? = some (.ino a C' fs2) by simpa using q)
    · obtain ⟨fs', q, p⟩ := p
      obtain ⟨dx', gs', h1, h2, h3, h4⟩ := s.st.slot 0 _ q
      refine hq H' dx' gs' fs' p (fun b o n e => s.base b o ?_) h3 (h4.mono (hid_sub s.sub))
      show (if b = x then none else H b) = some o
      rw [if_neg n]
      exact e
end
section
variable {K : PySem.W.Frag} {G : List SD} {R : Da → Prop} {te ta tb : TE} {tt tu : TT} {P : Post}
theorem ev_call {W : WP} {E : XK} {ta : TA} (h : EvA K ta G fun ds => W ds R) : EvD K (tCall (spD K W) [] E ta) G R := fun O σ H s Q k =>
  h O σ H s _ fun vs H1 ds h1 e1 r1 => ⟨O, ds, R, (s.mono e1).there, by simpa using r1, h1, fun v H' d r e rv => k v H' d r (e1.trans e) rv⟩
theorem ev_callE {W : WP} {E : XK} {ta : TA} {dds : List Da} {dvs : List V} (hd : ∀ F, RepL K F dds dvs) (h : EvA K ta G fun ds => W (ds ++ dds) R) : EvD K (tCall (spD K W) dvs E ta) G R := fun O σ H s Q k =>
  h O σ H s _ fun vs H1 ds h1 e1 r1 => ⟨O, ds ++ dds, R, (s.mono e1).there, r1.append (hd _), h1, fun v H' d r e rv => k v H' d r (e1.trans e) rv⟩
theorem ev_meth {C : Addr} {m : Str} {W : WP} {E : XK} {t : TA} (h : EvD K ta G fun d => ∃ fs, d = .obj C fs ∧ fs.lookup m = none ∧ EvA K t G fun ds => W (d :: ds) R) : EvD K (tMeth C m (spD K W) [] E ta t) G R := fun O σ H s Q k =>
  h O σ H s _ fun x H1 d ⟨fs, ed, l, h1⟩ e1 r1 => by
    subst ed
    have r1' := r1
    simp only [Rep] at r1
    obtain ⟨a, dx, gs, rfl, h2, h3⟩ := r1
    refine ⟨a, dx, gs, rfl, hid_same _ _ _ _ h2, h3.look0 l, h1 O σ H1 (s.mono e1) _ fun vs H2 ds hw e2 r2 => ?_⟩
    exact ⟨O, _, R, (s.mono (e1.trans e2)).there, .cons (r1'.mono (hid_mono e2)) (by simpa using r2), hw, fun v H' d r e rv => k v H' d r ((e1.trans e2).trans e) rv⟩
theorem ev_prop {C : Addr} {W : WP} {E : XK} (h : EvD K ta G fun d => ∃ fs, d = .obj C fs ∧ W [d] R) : EvD K (tProp C (spD K W) [] E ta) G R := fun O σ H s Q k =>
  h O σ H s _ fun x H1 d ⟨fs, ed, h1⟩ e1 r1 => by
    subst ed
    have r1' := r1
    simp only [Rep] at r1
    obtain ⟨a, dx, gs, rfl, h2, h3⟩ := r1
    exact ⟨a, dx, gs, rfl, hid_same _ _ _ _ h2, O, _, R, (s.mono e1).there, .one r1', h1, fun v H' d r e rv => k v H' d r (e1.trans e) rv⟩
theorem ev_make {C : Addr} {W : WPI} {E : XK} {t : TA} (h : EvA K t G fun ds => W [] ds fun fs => R (.obj C fs)) : EvD K (tMake C (spI K C W) [] E t) G R := fun O σ H s Q k =>
  h O σ H s _ fun vs H1 ds hw e1 r1 => fun x dx hx hdx hne => by
    have sm : Same H1 (upd (upd H1 dx (.own x)) x (.ins C dx [])) := fun b o e => by
      rw [upd_ne (ne_of_none e hx), upd_ne (ne_of_none e hdx)]
      exact e
    have s1 := s.mono e1
    have hOx := fresh_false s1 hx
    have hle : Same (hid O H1) (hid (ins1 O x) (upd (upd H1 dx (.own x)) x (.ins C dx []))) := hid_le ((hid_same _ _).trans sm) fun a q => (ins1_inv q).imp id fun z => by rw [z]; exact hx
    refine ⟨ins1 O x, x, dx, [], [], vs, ds, _, by simp, upd_same, ins1_self, fun a q => ?_, .nil, r1.mono hle, hw, fun H' dx' gs' fs' p kp hx' rf => ⟨rfl, ?_⟩⟩
    · rcases ins1_inv q with z | rfl
      · exact Same.ne sm (s1.there a z)
      · rw [upd_same]; intro z; cases z
    · have e2 : Same H1 H' := fun b o e => kp b o (ne_of_none e hx) (sm b o e)
      refine k _ H' _ p (e1.trans e2) ?_
      simp only [Rep]
      exact ⟨x, dx', gs', rfl, hid_of hOx hx', rf.mono (hid_sub fun a => ins1_of)⟩

/-! ### what is walked -/
def ItOk (K : PySem.W.Frag) (J : It) (O : Addr → Bool) (H0 : Hp) (ds : List Da) : Prop :=
  ∀ (O2 : Addr → Bool) H, Same (hid O H0) (hid O2 H) → (∀ a, O2 a = true → H a ≠ none) → (J.stop ds.length H) ∧ ∀ i, i < ds.length → J.go i H ∧ ∀ x H', J.yld i H x H' → Same H H' ∧ ∃ d, ds[i]? = some d ∧ Rep K (hid O2 H') d x
def EvI (K : PySem.W.Frag) (wi : TI) (G : List SD) (R : List Da → Prop) : Prop :=
  ∀ O σ H, StV K O σ H G → ∀ Q : It → Hp → Prop, (∀ J H' ds, R ds → Same H H' → ItOk K J O H' ds → Q J H') → wi σ H Q
theorem EvI.imp {wi : TI} {R R' : List Da → Prop} (h : EvI K wi G R) (q : ∀ d, R d → R' d) : EvI K wi G R' := fun O σ H s Q k => h O σ H s Q fun J H' d r => k J H' d (q d r)
theorem itok_list {O : Addr → Bool} {H0 : Hp} {a : Addr} {xs : List V} {ds : List Da} (h : hid O H0 a = some (.lst xs)) (r : RepL K (hid O H0) ds xs) : ItOk K (Itl K a) O H0 ds := fun O2 H e _ => by
  have h2 : SqL K H a xs := SqL.of (hid_same O2 H _ _ (e _ _ h))
  refine ⟨⟨xs, h2, Nat.le_of_eq r.length⟩, fun i hi => ⟨⟨xs, xs[i]'(by rw [r.length]; exact hi), h2, by simp⟩, fun x H' y => ?_⟩⟩
  obtain ⟨rfl, y⟩ := y
  obtain ⟨d, e1, e2⟩ := r.getV (y xs h2)
  exact ⟨Same.refl _, d, e1, e2.mono e⟩
theorem itok_tup {O : Addr → Bool} {H0 : Hp} {a : Addr} {xs : List V} {ds : List Da} (h : hid O H0 a = some (.tup xs)) (r : RepL K (hid O H0) ds xs) : ItOk K (Itt K a) O H0 ds := fun O2 H e _ => by
  have h2 : SqT K H a xs := SqT.of (hid_same O2 H _ _ (e _ _ h))
  refine ⟨⟨xs, h2, Nat.le_of_eq r.length⟩, fun i hi => ⟨⟨xs, xs[i]'(by rw [r.length]; exact hi), h2, by simp⟩, fun x H' y => ?_⟩⟩
  obtain ⟨rfl, y⟩ := y
  obtain ⟨d, e1, e2⟩ := r.getV (y xs h2)
  exact ⟨Same.refl _, d, e1, e2.mono e⟩
theorem ei_list {R : List Da → Prop} (h : EvD K te G fun d => ∃ l, d = .lst l ∧ R l) : EvI K (iList K te) G R := fun O σ H s Q k =>
  h O σ H s _ fun v H1 d ⟨l, ed, r⟩ e1 r1 => by
    subst ed
    simp only [Rep] at r1
    obtain ⟨a, xs, rfl, h2, h3⟩ := r1
    exact ⟨a, rfl, ⟨xs, SqL.of (hid_same _ _ _ _ h2)⟩, k _ H1 l r e1 (itok_list h2 h3)⟩
theorem ei_tup {R : List Da → Prop} (h : EvD K te G fun d => ∃ l, d = .tup l ∧ R l) : EvI K (iTup K te) G R := fun O σ H s Q k =>
  h O σ H s _ fun v H1 d ⟨l, ed, r⟩ e1 r1 => by
    subst ed
    simp only [Rep] at r1
    obtain ⟨a, xs, rfl, h2, h3⟩ := r1
    exact ⟨a, rfl, ⟨xs, SqT.of (hid_same _ _ _ _ h2)⟩, k _ H1 l r e1 (itok_tup h2 h3)⟩
def rangeD (lo : Int) (n : Nat) : List Da := (List.range n).map fun (i : Nat) => Da.int (lo + (i : Int))
theorem itok_range {O : Addr → Bool} {H0 : Hp} {lo : Int} {n : Nat} : ItOk K (Itr lo n) O H0 (rangeD lo n) := fun O2 H e _ => by
  unfold rangeD
  refine ⟨by simp [Itr], fun i hi => ?_⟩
  simp at hi
  refine ⟨hi, fun x H' y => ?_⟩
  obtain ⟨rfl, rfl⟩ := y
  exact ⟨Same.refl _, .int (lo + i), by simp [hi], rep_int⟩
theorem ei_range1 {R : List Da → Prop} {ta : TA} (h : EvA K ta G fun ds => ∃ n : Nat, ds = [.int n] ∧ n ≤ 1000000 ∧ R (rangeD 0 n)) : EvI K (iRng1 ta) G R := fun O σ H s Q k =>
  h O σ H s _ fun vs H1 ds ⟨n, ed, hn, r⟩ e1 r1 => by
    subst ed
    obtain ⟨v, rfl, r2⟩ := r1.one_inv
    simp only [Rep] at r2
    subst r2
    refine ⟨n, rfl, by omega, by omega, ?_⟩
    rw [Int.toNat_natCast]
    exact k _ H1 _ r e1 itok_range
theorem ei_range2 {R : List Da → Prop} {ta : TA} (h : EvA K ta G fun ds => ∃ (i : Nat) (j : Int), ds = [.int i, .int j] ∧ i ≤ 1000000 ∧ j ≤ 1000000 ∧ -1000000 ≤ j ∧ R (rangeD i (j - i).toNat)) : EvI K (iRng2 ta) G R := fun O σ H s Q k =>
  h O σ H s _ fun vs H1 ds ⟨i, j, ed, hi, hj, hj2, r⟩ e1 r1 => by
    subst ed
    obtain ⟨v, u, rfl, r2, r3⟩ := r1.two_inv
    simp only [Rep] at r2 r3
    subst r2 r3
    exact ⟨i, j, rfl, ⟨by omega, by omega, by omega, by omega⟩, k _ H1 _ r e1 itok_range⟩
def enumD (l : List Da) : List Da := l.zipIdx.map fun p => .tup [.int (p.2 : Nat), p.1]
def zipD (l m : List Da) : List Da := List.zipWith (fun x y => .tup [x, y]) l m
theorem enumD_get {l : List Da} {i : Nat} : (enumD l)[i]? = l[i]?.map fun d => .tup [.int (i : Nat), d] := by
  unfold enumD
  rw [List.getElem?_map, List.getElem?_zipIdx]
  cases l[i]? <;> simp
theorem enumD_length {l : List Da} : (enumD l).length = l.length := by simp [enumD]
theorem zipD_get {l m : List Da} {i : Nat} {d e : Da} (h1 : l[i]? = some d) (h2 : m[i]? = some e) : (zipD l m)[i]? = some (.tup [d, e]) := by
  unfold zipD
  rw [List.getElem?_zipWith, h1, h2]
theorem zipD_length {l m : List Da} : (zipD l m).length = min l.length m.length := by simp [zipD]
/-- a new pair -/
theorem rep_pair {O2 : Addr → Bool} {H : Hp} {T : Addr} {x y : V} {d e : Da} (hO : ∀ a, O2 a = true → H a ≠ none) (hT : H T = none) (h1 : Rep K (hid O2 H) d x) (h2 : Rep K (hid O2 H) e y) :
    Rep K (hid O2 (upd H T (.tup [x, y]))) (.tup [d, e]) (.ref T) := by
  have hn : O2 T = false := by
    cases q : O2 T with
    | false => rfl
    | true => exact absurd hT (hO T q)
  have m : Same (hid O2 H) (hid O2 (upd H T (.tup [x, y]))) := hid_mono (same_new hT)
  simp only [Rep]
  exact ⟨T, [x, y], rfl, hid_of hn upd_same, .cons (h1.mono m) (.one (h2.mono m))⟩
theorem ei_enum {R : List Da → Prop} {ta : TA} (h : EvA K ta G fun ds => ∃ l, ds = [.lst l] ∧ R (enumD l)) : EvI K (iEnum K ta) G R := fun O σ H s Q k =>
  h O σ H s _ fun vs H1 ds ⟨l, ed, r⟩ e1 r1 => by
    subst ed
    obtain ⟨v, rfl, r2⟩ := r1.one_inv
    simp only [Rep] at r2
    obtain ⟨a, xs, rfl, h2, h3⟩ := r2
    refine ⟨a, xs, rfl, SqL.of (hid_same _ _ _ _ h2), k _ H1 _ r e1 fun O2 H e hO => ?_⟩
    have h4 : SqL K H a xs := SqL.of (hid_same O2 H _ _ (e _ _ h2))
    rw [enumD_length]
    refine ⟨⟨xs, h4, Nat.le_of_eq h3.length⟩, fun i hi => ⟨⟨xs, xs[i]'(by rw [h3.length]; exact hi), h4, by simp⟩, fun x H' y => ?_⟩⟩
    obtain ⟨T, x, rfl, hT, rfl, y⟩ := y
    obtain ⟨d, q1, q2⟩ := h3.getV (y xs h4)
    exact ⟨same_new hT, _, by rw [enumD_get, q1]; rfl, rep_pair hO hT rep_int (q2.mono e)⟩
theorem ei_zipA {R : List Da → Prop} {ta : TA} (h : EvA K ta G fun ds => ∃ l m, R (zipD l m) ∧ (ds = [.lst l, .lst m] ∨ ds = [.tup l, .tup m])) : EvI K (RZ.iZipA K ta) G R := fun O σ H s Q k =>
  h O σ H s _ fun vs H1 ds ⟨l, m, r, ed⟩ e1 r1 => by
    rcases ed with rfl | rfl
    · obtain ⟨u, v, rfl, r2, r3⟩ := r1.two_inv
      simp only [Rep] at r2 r3
      obtain ⟨a, xs, rfl, h2, h3⟩ := r2
      obtain ⟨b, ys, rfl, h4, h5⟩ := r3
      refine ⟨a, b, xs, ys, rfl, .inl ⟨SqL.of (hid_same _ _ _ _ h2), SqL.of (hid_same _ _ _ _ h4), k _ H1 _ r e1 fun O2 H e hO => ?_⟩⟩
      have h6 : SqL K H a xs := SqL.of (hid_same O2 H _ _ (e _ _ h2))
      have h7 : SqL K H b ys := SqL.of (hid_same O2 H _ _ (e _ _ h4))
      rw [zipD_length]
      have l1 := h3.length
      have l2 := h5.length
      refine ⟨⟨xs, ys, h6, h7, by omega⟩, fun i hi => ⟨⟨xs, ys, xs[i]'(by omega), ys[i]'(by omega), h6, h7, by simp, by simp⟩, fun x H' y => ?_⟩⟩
      obtain ⟨T, x, z, rfl, hT, rfl, y1, y2⟩ := y
      obtain ⟨d, q1, q2⟩ := h3.getV (y1 xs h6)
      obtain ⟨d', q3, q4⟩ := h5.getV (y2 ys h7)
      exact ⟨same_new hT, _, zipD_get q1 q3, rep_pair hO hT (q2.mono e) (q4.mono e)⟩
    · obtain ⟨u, v, rfl, r2, r3⟩ := r1.two_inv
      simp only [Rep] at r2 r3
      obtain ⟨a, xs, rfl, h2, h3⟩ := r2
      obtain ⟨b, ys, rfl, h4, h5⟩ := r3
      refine ⟨a, b, xs, ys, rfl, .inr ⟨SqT.of (hid_same _ _ _ _ h2), SqT.of (hid_same _ _ _ _ h4), k _ H1 _ r e1 fun O2 H e hO => ?_⟩⟩
      have h6 : SqT K H a xs := SqT.of (hid_same O2 H _ _ (e _ _ h2))
      have h7 : SqT K H b ys := SqT.of (hid_same O2 H _ _ (e _ _ h4))
      rw [zipD_length]
      have l1 := h3.length
      have l2 := h5.length
      refine ⟨⟨xs, ys, h6, h7, by omega⟩, fun i hi => ⟨⟨xs, ys, xs[i]'(by omega), ys[i]'(by omega), h6, h7, by simp, by simp⟩, fun x H' y => ?_⟩⟩
      obtain ⟨T, x, z, rfl, hT, rfl, y1, y2⟩ := y
      obtain ⟨d, q1, q2⟩ := h3.getV (y1 xs h6)
      obtain ⟨d', q3, q4⟩ := h5.getV (y2 ys h7)
      exact ⟨same_new hT, _, zipD_get q1 q3, rep_pair hO hT (q2.mono e) (q4.mono e)⟩
def signsD (z : Str) : List Da := z.cps.toList.map fun c => .str ⟨#[c]⟩
theorem ei_str {R : List Da → Prop} (h : EvD K te G fun d => ∃ z, d = .str z ∧ R (signsD z)) : EvI K (iStr te) G R := fun O σ H s Q k =>
  h O σ H s _ fun v H1 d ⟨z, ed, r⟩ e1 r1 => by
    subst ed
    simp only [Rep] at r1
    refine ⟨z, r1, k _ H1 _ r e1 fun O2 H e hO => ?_⟩
    unfold signsD
    refine ⟨by simp [Its], fun i hi => ?_⟩
    simp at hi
    refine ⟨hi, fun x H' y => ?_⟩
    obtain ⟨rfl, c, h1, rfl⟩ := y
    exact ⟨Same.refl _, .str ⟨#[c]⟩, by simp [h1], rep_str⟩

/-! ### targets -/
theorem wipe_get {σ : St} {j : Nat} : ∀ {vs : List Nat}, (wipe σ vs)[j]? = if j ∈ vs then σ[j]?.map (fun _ => none) else σ[j]?
  | [] => by simp [wipe]
  | v :: vs => by
    unfold wipe
    by_cases e : v = j
    · subst e
      rw [List.getElem?_set_self', wipe_get]
      simp only [List.mem_cons_self, if_true]
      split <;> cases σ[v]? <;> simp
    · rw [List.getElem?_set_ne e, wipe_get]
      have : (j ∈ v :: vs) ↔ (j ∈ vs) := by
        simp [List.mem_cons]
        intro z
        exact absurd z.symm e
      simp only [this]
theorem wipe_set {σ : St} {i : Nat} {x : Option V} {vs : List Nat} (h : i ∈ vs) : wipe (σ.set i x) vs = wipe σ vs := by
  apply List.ext_getElem?
  intro j
  rw [wipe_get, wipe_get]
  by_cases e : i = j
  · subst e
    rw [if_pos h, if_pos h, List.getElem?_set_self']
    cases σ[i]? <;> simp
  · rw [List.getElem?_set_ne e]
section
variable (K : PySem.W.Frag)
def GnD (g : TG) (d : Da) (T : Nat → Prop) (G : List SD) (k : List SD → Prop) : Prop :=
  ∀ B O0 O σ H v, StB K B O0 O σ H G → Rep K (hid O H) d v → ∀ Q : St → Hp → Prop, (∀ σ' G', k G' → StB K B O0 O σ' H G' → (∀ vs : List Nat, (∀ i, T i → i ∈ vs) → wipe σ' vs = wipe σ vs) → Q σ' H) → g v σ H Q
def GnsD (g : TGs) (ds : List Da) (T : Nat → Prop) (G : List SD) (k : List SD → Prop) : Prop :=
  ∀ B O0 O σ H vs, StB K B O0 O σ H G → RepL K (hid O H) ds vs → ∀ Q : St → Hp → Prop, (∀ σ' G', k G' → StB K B O0 O σ' H G' → (∀ vs : List Nat, (∀ i, T i → i ∈ vs) → wipe σ' vs = wipe σ vs) → Q σ' H) → g vs σ H Q
end
theorem gn_name {i : Nat} {d : Da} {T : Nat → Prop} {k : List SD → Prop} (hT : T i) (h : k (G.set i (.val d))) : GnD K (gName i) d T G k := fun B O0 O σ H v s r Q q =>
  q _ _ h (s.set_val r) fun vs hv => wipe_set (hv i hT)
theorem gns_nil {T : Nat → Prop} {k : List SD → Prop} (h : k G) : GnsD K gNil [] T G k := fun B O0 O σ H vs s r Q q => ⟨r.inv0, q σ G h s fun _ _ => rfl⟩
theorem gns_cons {d : Da} {ds : List Da} {g : TG} {gs : TGs} {T : Nat → Prop} {k : List SD → Prop} (h : GnD K g d T G fun G' => GnsD K gs ds T G' k) : GnsD K (gCons g gs) (d :: ds) T G k := fun B O0 O σ H vs s r Q q => by
  obtain ⟨v, ws, rfl, h1, h2⟩ := r.inv
  exact ⟨v, ws, rfl, h B O0 O σ H v s h1 _ fun σ' G' p s' z => p B O0 O σ' H ws s' h2 Q fun σ2 G2 p2 s2 z2 => q σ2 G2 p2 s2 fun vs hv => (z2 vs hv).trans (z vs hv)⟩
theorem gn_tup {ds : List Da} {n : Nat} {gs : TGs} {T : Nat → Prop} {k : List SD → Prop} (hn : ds.length = n) (h : GnsD K gs ds T G k) : GnD K (gTup K n gs) (.tup ds) T G k := fun B O0 O σ H v s r Q q => by
  simp only [Rep] at r
  obtain ⟨a, xs, rfl, h2, h3⟩ := r
  exact ⟨a, xs, rfl, SqT.of (hid_same _ _ _ _ h2), h3.length.trans hn, h B O0 O σ H xs s h3 Q q⟩
theorem go_gn {g : TG} {d : Da} {T : Nat → Prop} {k : List SD → Prop} (h : GnD K g d T G k) : GoD K g d G k := fun B O0 O σ H v s r Q q => h B O0 O σ H v s r Q fun σ' G' p s' _ => q O σ' H G' p s'
abbrev allT : Nat → Prop := fun _ => True
/-! ### for -/
theorem hd_for {wi : TI} {g : TG} {tb : TS} (h : EvI K wi G fun ds => ∃ Iv : Nat → List SD → Prop, Iv 0 G ∧
      (∀ i d G', ds[i]? = some d → Iv i G' → GnD K g d allT G' fun G2 => HoD K tb G2 { nx := Iv (i + 1), rt := P.rt, bk := P.nx, ct := Iv (i + 1) }) ∧ ∀ G', Iv ds.length G' → P.nx G') : HoD K (tFor wi g tb) G P := fun B O0 O σ H E s c =>
  h O σ H s.st _ fun J H1 ds ⟨Iv, i0, step, fin⟩ e1 it => by
    have s1 := s.mono e1
    obtain ⟨eB, s2⟩ := s1.up
    have cB := c.weak eB
    refine ⟨fun i m σ H => m = ds.length - i ∧ i ≤ ds.length ∧ ∃ O' G', Iv i G' ∧ StB K (low B O H1) O0 O' σ H G', ⟨_, rfl, Nat.zero_le _, O, G, i0, s2⟩, ?_⟩
    rintro i m σ2 H2 ⟨rfl, hi, O', G', inv, s3⟩
    obtain ⟨t1, t2⟩ := it O' H2 (s3.keep s1.sub) s3.st.there
    by_cases hlt : i < ds.length
    · obtain ⟨u1, u2⟩ := t2 i hlt
      refine .inr ⟨u1, fun σ' H' => ∃ O2 G2, Iv (i + 1) G2 ∧ StB K (low B O H1) O0 O2 σ' H' G2, fun σ' H' ⟨O2, G2, q1, q2⟩ => ⟨ds.length - (i + 1), by omega, rfl, hlt, O2, G2, q1, q2⟩, fun x H' y => ?_⟩
      obtain ⟨e2, d, q1, q2⟩ := u2 x H' y
      refine step i d G' q1 inv _ O0 O' σ2 H' x (s3.mono e2) q2 _ fun σ3 G3 hb s4 _ => ?_
      exact hb _ O0 O' σ3 H' _ s4 ⟨fun O σ H G p s => ⟨O, G, p, s⟩, cB.rt, fun O σ H G p s => cB.nx O σ H G p s, fun O σ H G p s => ⟨O, G, p, s⟩⟩
    · have ei : i = ds.length := by omega
      subst ei
      exact .inl ⟨t1, cB.nx O' σ2 H2 G' (fin G' inv) s3⟩

/-! ### comprehensions -/
def wipeG (G : List SD) : List Nat → List SD
  | [] => G
  | v :: vs => (wipeG G vs).set v .un
theorem StV.wiped {O : Addr → Bool} {σ : St} {H : Hp} (s : StV K O σ H G) : ∀ vs : List Nat, StV K O (wipe σ vs) H (wipeG G vs)
  | [] => s
  | v :: vs => (StV.wiped s vs).set_un
/-- more is hidden: the new list -/
theorem StV.more {O : Addr → Bool} {σ : St} {H H' : Hp} {p : Addr} (s : StV K O σ H G) (e : Same H H') (hp : H p = none) (hp' : H' p ≠ none) : StV K (ins1 O p) σ H' G := by
  refine ⟨s.len, fun a q => ?_, fun i sd q => (s.slot i sd q).grow e (fun a => ins1_of) fun a z => (ins1_inv z).imp id fun y => by rw [y]; exact hp, s.apart⟩
  rcases ins1_inv q with z | rfl
  · exact Same.ne e (s.there a z)
  · exact hp'
/-- slots alone make a whole state: with nothing below -/
theorem StV.whole {O : Addr → Bool} {σ : St} {H : Hp} (s : StV K O σ H G) : StB K (fun _ => none) (fun _ => false) O σ H G :=
  ⟨s, fun _ _ q => (nomatch q), fun _ q => (nomatch q), fun _ _ => .inr rfl, fun _ _ _ _ _ => rfl, fun _ _ _ _ _ => rfl⟩
/-- one turn's item of a comprehension -/
def LcStep (K : PySem.W.Frag) (g : TG) (tt : TT) (te : TE) (vs : List Nat) (G : List SD) (d : Da) (acc : List Da) (nxt : List Da → Prop) : Prop :=
  GnD K g d (· ∈ vs) (wipeG G vs) fun G2 => EvT K tt G2 fun b => (b = true → EvD K te G2 fun e => acc.length ≤ 100000 ∧ nxt (acc ++ [e])) ∧ (b = false → nxt acc)
theorem en_lc {wi : TI} {g : TG} {vs : List Nat} {R : List Da → Prop} (h : EvI K wi G fun ds => ∃ Iv : Nat → List Da → Prop, Iv 0 [] ∧
      (∀ i d acc, ds[i]? = some d → Iv i acc → LcStep K g tt te vs G d acc (Iv (i + 1))) ∧ ∀ acc, Iv ds.length acc → R acc) : EvN K (tLc wi g tt te vs) G R := fun O σ H s Q k =>
  h O σ H s _ fun J H1 ds ⟨Iv, i0, step, fin⟩ e1 it => fun D hD => by
    have s1 := s.mono e1
    have fr : ∀ a, ins1 O D a = true → O a = true ∨ H1 a = none := fun a z => (ins1_inv z).imp id fun y => by rw [y]; exact hD
    refine ⟨fun i m H => m = ds.length - i ∧ i ≤ ds.length ∧ Same H1 H ∧ ∃ acc xs, Iv i acc ∧ H D = some (.lst xs) ∧ RepL K (hid (ins1 O D) H) acc xs, ⟨_, rfl, Nat.zero_le _, same_new hD, [], [], i0, upd_same, .nil⟩, ?_⟩
    rintro i m H2 ⟨rfl, hi, e2, acc, xs, inv, hx, hr⟩
    have s2 : StV K (ins1 O D) σ H2 G := s1.more e2 hD (by rw [hx]; intro z; cases z)
    obtain ⟨t1, t2⟩ := it (ins1 O D) H2 (hid_le ((hid_same _ _).trans e2) fr) s2.there
    by_cases hlt : i < ds.length
    · obtain ⟨u1, u2⟩ := t2 i hlt
      refine .inr ⟨u1, fun H' => Same H1 H' ∧ ∃ acc xs, Iv (i + 1) acc ∧ H' D = some (.lst xs) ∧ RepL K (hid (ins1 O D) H') acc xs, fun H' ⟨q1, q2⟩ => ⟨ds.length - (i + 1), by omega, rfl, hlt, q1, q2⟩, fun x H3 y => ?_⟩
      obtain ⟨e3, d, q1, q2⟩ := u2 x H3 y
      have s3 := (s2.mono e3).wiped vs
      refine step i d acc q1 inv _ _ (ins1 O D) _ H3 x s3.whole q2 _ fun σ3 G3 hb s4 hw => ?_
      refine ⟨?_, hb (ins1 O D) σ3 H3 s4.st _ fun b H4 ⟨v1, v2⟩ e4 => ?_⟩
      · have z := hw vs fun i hi => hi
        rw [z]
        clear z hw hb s4
        apply List.ext_getElem?
        intro j
        rw [wipe_get, wipe_get]
        split
        · cases σ[j]? <;> rfl
        · rfl
      · cases b with
        | true =>
          rw [if_pos rfl]
          refine v1 rfl (ins1 O D) σ3 H4 (s4.st.mono e4) _ fun v H5 e ⟨hl, p⟩ e5 rv => ?_
          have e35 := (e3.trans e4).trans e5
          have hx5 := e35 _ _ hx
          refine ⟨xs, hx5, Nat.lt_of_le_of_lt (Nat.le_trans (Nat.le_of_eq hr.length) hl) (by decide), fun b o q => ?_, acc ++ [e], xs ++ [v], p, upd_same, ?_⟩
          · rw [upd_ne (ne_of_none q hD)]
            exact (e2.trans e35) b o q
          · have eF : hid (ins1 O D) (upd H5 D (.lst (xs ++ [v]))) = hid (ins1 O D) H5 := by
              funext b
              unfold hid
              cases q : ins1 O D b with
              | true => rfl
              | false =>
                rw [if_neg Bool.false_ne_true, if_neg Bool.false_ne_true, upd_ne]
                intro z
                rw [z, ins1_self] at q
                cases q
            rw [eF]
            exact (hr.mono (hid_mono e35)).append (.one rv)
        | false =>
          rw [if_neg Bool.false_ne_true]
          have e34 := e3.trans e4
          exact ⟨e2.trans e34, acc, xs, v2 rfl, e34 _ _ hx, hr.mono (hid_mono e34)⟩
    · have ei : i = ds.length := by omega
      subst ei
      exact .inl ⟨t1, k D H2 xs acc (fin acc inv) (e1.free hD) (e1.trans e2) hx hr⟩
end
end Sc
/-! Fd4: built-ins and operators on data. -/
namespace Sc
open PySem L2
section
variable {K : PySem.W.Frag} {G : List SD} {R : Da → Prop} {te ta tb : TE} {tt tu : TT} {P : Post}
theorem rep_lst_inv {F : Hp} {l : List Da} {v : V} (h : Rep K F (.lst l) v) : ∃ a xs, v = .ref a ∧ F a = some (.lst xs) ∧ RepL K F l xs := by simpa only [Rep] using h
theorem rep_tup_inv {F : Hp} {l : List Da} {v : V} (h : Rep K F (.tup l) v) : ∃ a xs, v = .ref a ∧ F a = some (.tup xs) ∧ RepL K F l xs := by simpa only [Rep] using h
theorem rep_tup {F : Hp} {l : List Da} {a : Addr} {xs : List V} (h : F a = some (.tup xs)) (r : RepL K F l xs) : Rep K F (.tup l) (.ref a) := by
  simp only [Rep]
  exact ⟨a, xs, rfl, h, r⟩
theorem rep_int_inv {F : Hp} {i : Int} {v : V} (h : Rep K F (.int i) v) : v = .int i := by simpa only [Rep] using h
theorem rep_bl_inv {F : Hp} {i : Bool} {v : V} (h : Rep K F (.bl i) v) : v = .bl i := by simpa only [Rep] using h
theorem rep_str_inv {F : Hp} {i : Str} {v : V} (h : Rep K F (.str i) v) : v = .str i := by simpa only [Rep] using h
theorem off_none {O : Addr → Bool} {H : Hp} {p : Addr} (hO : ∀ a, O a = true → H a ≠ none) (hp : H p = none) : O p = false := by
  cases q : O p with
  | false => rfl
  | true => exact absurd hp (hO p q)
/-- a new list told -/
theorem new_list {O : Addr → Bool} {H : Hp} {p : Addr} {ds : List Da} {xs : List V} (hp : H p = none) (r : RepL K (hid O H) ds xs) : RepL K (hid (ins1 O p) (upd H p (.lst xs))) ds xs :=
  r.mono (hid_le ((hid_same _ _).trans (same_new hp)) fun a q => (ins1_inv q).imp id fun z => by rw [z]; exact hp)
theorem new_tup {O : Addr → Bool} {H : Hp} {p : Addr} {ds : List Da} {xs : List V} (hO : ∀ a, O a = true → H a ≠ none) (hp : H p = none) (r : RepL K (hid O H) ds xs) : Rep K (hid O (upd H p (.tup xs))) (.tup ds) (.ref p) :=
  rep_tup (hid_of (off_none hO hp) upd_same) (r.mono (hid_mono (same_new hp)))
/-- a list or a tuple -/
theorem seq_inv {O : Addr → Bool} {H : Hp} {d : Da} {l : List Da} {v : V} (h : Rep K (hid O H) d v) (e : d = .lst l ∨ d = .tup l) : ∃ a xs, v = .ref a ∧ (SqL K H a xs ∨ SqT K H a xs) ∧ RepL K (hid O H) l xs := by
  rcases e with rfl | rfl
  · obtain ⟨a, xs, h1, h2, h3⟩ := rep_lst_inv h
    exact ⟨a, xs, h1, .inl (SqL.of (hid_same _ _ _ _ h2)), h3⟩
  · obtain ⟨a, xs, h1, h2, h3⟩ := rep_tup_inv h
    exact ⟨a, xs, h1, .inr (SqT.of (hid_same _ _ _ _ h2)), h3⟩
abbrev LenT (K : PySem.W.Frag) : List V → Hp → VK → Prop := fun xs H Q => ∃ p ys, xs = [V.ref p] ∧ (SqL K H p ys ∨ SqT K H p ys) ∧ Q (.int ys.length) H
theorem rc_len {d : Da} {l : List Da} (e : d = .lst l ∨ d = .tup l) (r : R (.int l.length)) : RcD K (LenT K) [d] R := fun O H xs hO rl Q k => by
  obtain ⟨v, rfl, h⟩ := rl.one_inv
  obtain ⟨a, xs, rfl, h2, h3⟩ := seq_inv h e
  exact ⟨a, xs, rfl, h2, k _ H _ r (Same.refl H) (by rw [h3.length]; exact rep_int)⟩
theorem rc_lenR {ns : List Int} (r : R (.int ns.length)) : RcD K (LenT K) [.scr ns] R := fun O H xs hO rl Q k => by
  obtain ⟨v, rfl, h⟩ := rl.one_inv
  simp only [Rep] at h
  obtain ⟨a, rfl, h2⟩ := h
  exact ⟨a, _, rfl, .inl ((hid_same _ _).seq h2), k _ H _ r (Same.refl H) (by rw [List.length_map]; exact rep_int)⟩
abbrev LenS : List V → Hp → VK → Prop := fun xs H Q => ∃ z, xs = [V.str z] ∧ z.length ≤ sizeLine ∧ Q (.int z.length) H
theorem rc_lenS {z : Str} (hz : z.length ≤ 100000) (r : R (.int z.length)) : RcD K LenS [.str z] R := fun O H xs hO rl Q k => by
  obtain ⟨v, rfl, h⟩ := rl.one_inv
  cases rep_str_inv h
  exact ⟨z, rfl, Nat.le_trans hz (by decide), k _ H _ r (Same.refl H) rep_int⟩
/-- len of an own list -/
theorem ev_lenO (i : Nat) {l : List Da} (h : G[i]? = some (.own l)) (r : R (.int l.length)) : EvD K (tCB (LenT K) (tCons (tVar i) tNil)) G R := fun O σ H s Q k => by
  obtain ⟨a, xs, h1, h2, h3, h4⟩ := s.slot i _ h
  exact ⟨.ref a, h1, a, xs, rfl, .inl (SqL.of h3), k _ H _ r (Same.refl H) (by rw [h4.length]; exact rep_int)⟩
abbrev ListT (K : PySem.W.Frag) : List V → Hp → VK → Prop := fun xs H Q => ∃ p ys, xs = [V.ref p] ∧ (SqL K H p ys ∨ SqT K H p ys) ∧ ∀ l, H l = none → Q (.ref l) (upd H l (.lst ys))
theorem rn_list {d : Da} {l : List Da} {R : List Da → Prop} (e : d = .lst l ∨ d = .tup l) (r : R l) : RcN K (ListT K) [d] R := fun O H xs hO rl Q k => by
  obtain ⟨v, rfl, h⟩ := rl.one_inv
  obtain ⟨a, xs, rfl, h2, h3⟩ := seq_inv h e
  exact ⟨a, xs, rfl, h2, fun p hp => k p _ xs l r hp (same_new hp) upd_same (new_list hp h3)⟩
abbrev TupT (K : PySem.W.Frag) : List V → Hp → VK → Prop := fun xs H Q => ∃ p ys, xs = [V.ref p] ∧ ((SqL K H p ys ∧ ∀ l, H l = none → Q (.ref l) (upd H l (.tup ys))) ∨ (SqT K H p ys ∧ Q (.ref p) H))
theorem rc_tup {d : Da} {l : List Da} (e : d = .lst l ∨ d = .tup l) (r : R (.tup l)) : RcD K (TupT K) [d] R := fun O H xs hO rl Q k => by
  obtain ⟨v, rfl, h⟩ := rl.one_inv
  rcases e with rfl | rfl
  · obtain ⟨a, xs, rfl, h2, h3⟩ := rep_lst_inv h
    exact ⟨a, xs, rfl, .inl ⟨SqL.of (hid_same _ _ _ _ h2), fun p hp => k _ _ _ r (same_new hp) (new_tup hO hp h3)⟩⟩
  · have h' := h
    obtain ⟨a, xs, rfl, h2, h3⟩ := rep_tup_inv h
    exact ⟨a, xs, rfl, .inr ⟨SqT.of (hid_same _ _ _ _ h2), k _ _ _ r (Same.refl H) h'⟩⟩
/-! ints in a list -/
theorem repL_ints {F : Hp} : ∀ {ns : List Int} {xs : List V}, RepL K F (ns.map Da.int) xs → xs = ns.map V.int
  | [], _, h => h.inv0
  | n :: ns, _, h => by
    obtain ⟨v, r, rfl, h1, h2⟩ := h.inv
    rw [rep_int_inv h1, repL_ints h2]
    rfl
theorem repL_bls {F : Hp} : ∀ {ns : List Bool} {xs : List V}, RepL K F (ns.map Da.bl) xs → xs = ns.map V.bl
  | [], _, h => h.inv0
  | n :: ns, _, h => by
    obtain ⟨v, r, rfl, h1, h2⟩ := h.inv
    rw [rep_bl_inv h1, repL_bls h2]
    rfl
theorem rc_min {ns : List Int} (hn : 0 < ns.length) (r : ∀ m, m ∈ ns → (∀ y, y ∈ ns → m ≤ y) → R (.int m)) : RcD K (rMin K) [.lst (ns.map .int)] R := fun O H xs hO rl Q k => by
  obtain ⟨v, rfl, h⟩ := rl.one_inv
  obtain ⟨a, xs, rfl, h2, h3⟩ := rep_lst_inv h
  rw [repL_ints h3] at h2
  exact ⟨a, ns, rfl, SqL.of (hid_same _ _ _ _ h2), hn, fun m h1 h2 => k _ H _ (r m h1 h2) (Same.refl H) rep_int⟩
theorem rc_max {ns : List Int} (hn : 0 < ns.length) (r : ∀ m, m ∈ ns → (∀ y, y ∈ ns → y ≤ m) → R (.int m)) : RcD K (rMax K) [.lst (ns.map .int)] R := fun O H xs hO rl Q k => by
  obtain ⟨v, rfl, h⟩ := rl.one_inv
  obtain ⟨a, xs, rfl, h2, h3⟩ := rep_lst_inv h
  rw [repL_ints h3] at h2
  exact ⟨a, ns, rfl, SqL.of (hid_same _ _ _ _ h2), hn, fun m h1 h2 => k _ H _ (r m h1 h2) (Same.refl H) rep_int⟩
theorem rc_sum {ns : List Int} (r : R (.int ns.sum)) : RcD K (rSum K) [.lst (ns.map .int)] R := fun O H xs hO rl Q k => by
  obtain ⟨v, rfl, h⟩ := rl.one_inv
  obtain ⟨a, xs, rfl, h2, h3⟩ := rep_lst_inv h
  rw [repL_ints h3] at h2
  exact ⟨a, ns, rfl, SqL.of (hid_same _ _ _ _ h2), k _ H _ r (Same.refl H) rep_int⟩
theorem rc_any {bs : List Bool} (r : R (.bl (bs.any id))) : RcD K (rAny K) [.lst (bs.map .bl)] R := fun O H xs hO rl Q k => by
  obtain ⟨v, rfl, h⟩ := rl.one_inv
  obtain ⟨a, xs, rfl, h2, h3⟩ := rep_lst_inv h
  rw [repL_bls h3] at h2
  exact ⟨a, bs, rfl, SqL.of (hid_same _ _ _ _ h2), k _ H _ r (Same.refl H) rep_bl⟩
abbrev AbsT : List V → Hp → VK → Prop := fun xs H Q => ∃ i, xs = [V.int i] ∧ Q (.int (if i < 0 then -i else i)) H
theorem rc_abs {i : Int} (r : R (.int (if i < 0 then -i else i))) : RcD K AbsT [.int i] R := fun O H xs hO rl Q k => by
  obtain ⟨v, rfl, h⟩ := rl.one_inv
  cases rep_int_inv h
  exact ⟨i, rfl, k _ H _ r (Same.refl H) rep_int⟩
abbrev IntT : List V → Hp → VK → Prop := fun xs H Q => (∃ i, xs = [V.int i] ∧ Q (.int i) H) ∨ ∃ k, xs = [V.bl k] ∧ Q (.int (if k then 1 else 0)) H
theorem rc_int {i : Int} (r : R (.int i)) : RcD K IntT [.int i] R := fun O H xs hO rl Q k => by
  obtain ⟨v, rfl, h⟩ := rl.one_inv
  cases rep_int_inv h
  exact .inl ⟨i, rfl, k _ H _ r (Same.refl H) rep_int⟩
theorem rc_intB {b : Bool} (r : R (.int (if b then 1 else 0))) : RcD K IntT [.bl b] R := fun O H xs hO rl Q k => by
  obtain ⟨v, rfl, h⟩ := rl.one_inv
  cases rep_bl_inv h
  exact .inr ⟨b, rfl, k _ H _ r (Same.refl H) rep_int⟩
abbrev Max2T : List V → Hp → VK → Prop := fun xs H Q => ∃ i j, xs = [V.int i, V.int j] ∧ Q (.int (if j > i then j else i)) H
abbrev Min2T : List V → Hp → VK → Prop := fun xs H Q => ∃ i j, xs = [V.int i, V.int j] ∧ Q (.int (if j < i then j else i)) H
theorem rc_max2 {i j : Int} (r : R (.int (max i j))) : RcD K Max2T [.int i, .int j] R := fun O H xs hO rl Q k => by
  obtain ⟨v, u, rfl, h, h'⟩ := rl.two_inv
  cases rep_int_inv h
  cases rep_int_inv h'
  refine ⟨i, j, rfl, k _ H _ r (Same.refl H) ?_⟩
  have : (if j > i then j else i) = max i j := by split <;> omega
  rw [this]
  exact rep_int
theorem rc_min2 {i j : Int} (r : R (.int (min i j))) : RcD K Min2T [.int i, .int j] R := fun O H xs hO rl Q k => by
  obtain ⟨v, u, rfl, h, h'⟩ := rl.two_inv
  cases rep_int_inv h
  cases rep_int_inv h'
  refine ⟨i, j, rfl, k _ H _ r (Same.refl H) ?_⟩
  have : (if j < i then j else i) = min i j := by split <;> omega
  rw [this]
  exact rep_int
/-! ### slices -/
def cutD (l : List Da) (lo hi : Option Int) : List Da := (l.drop (HT.sIx l.length 0 lo)).take (HT.sIx l.length l.length hi - HT.sIx l.length 0 lo)
theorem RepL.cut {F : Hp} {l : List Da} {xs : List V} {lo hi : Option Int} (h : RepL K F l xs) : RepL K F (cutD l lo hi) (cutV xs lo hi) := by
  unfold cutD cutV
  rw [h.length]
  exact (h.drop _).take _
theorem eo_none {Ro : Option Int → Prop} (r : Ro none) : EvO K tNoPart G Ro := fun O σ H s Q k => k none H r (Same.refl H)
theorem eo_some {Ro : Option Int → Prop} (h : EvD K te G fun d => ∃ i, d = .int i ∧ Ro (some i)) : EvO K (tPart te) G Ro := fun O σ H s Q k =>
  h O σ H s _ fun v H1 d ⟨i, e, r⟩ e1 r1 => by
    subst e
    exact ⟨i, rep_int_inv r1, k _ H1 r e1⟩
theorem en_slL {tl th : TO} {R : List Da → Prop} (h : EvD K te G fun d => EvO K tl G fun lo => EvO K th G fun hi => ∃ l, d = .lst l ∧ R (cutD l lo hi)) : EvN K (tSl (rSlL K) te tl th) G R := fun O σ H s Q k =>
  h O σ H s _ fun v H1 d h1 e1 r1 => h1 O σ H1 (s.mono e1) _ fun lo H2 h2 e2 => h2 O σ H2 (s.mono (e1.trans e2)) _ fun hi H3 ⟨l, e, r⟩ e3 => by
    subst e
    obtain ⟨a, xs, rfl, q1, q2⟩ := rep_lst_inv (r1.mono (hid_mono (e2.trans e3)))
    have e4 := (e1.trans e2).trans e3
    exact ⟨a, xs, rfl, SqL.of (hid_same _ _ _ _ q1), fun p hp => k p _ _ _ r (e4.free hp) (e4.trans (same_new hp)) upd_same (new_list hp q2.cut)⟩
theorem ev_slT {tl th : TO} (h : EvD K te G fun d => EvO K tl G fun lo => EvO K th G fun hi => ∃ l, d = .tup l ∧ R (.tup (cutD l lo hi))) : EvD K (tSl (rSlA K) te tl th) G R := fun O σ H s Q k =>
  h O σ H s _ fun v H1 d h1 e1 r1 => h1 O σ H1 (s.mono e1) _ fun lo H2 h2 e2 => h2 O σ H2 (s.mono (e1.trans e2)) _ fun hi H3 ⟨l, e, r⟩ e3 => by
    subst e
    have r1' := r1.mono (hid_mono (e2.trans e3))
    obtain ⟨a, xs, rfl, q1, q2⟩ := rep_tup_inv r1'
    have e4 := (e1.trans e2).trans e3
    refine ⟨a, xs, rfl, SqT.of (hid_same _ _ _ _ q1), fun ⟨z1, z2⟩ => ?_, fun _ p hp => k _ _ _ r (e4.trans (same_new hp)) (new_tup (s.mono e4).there hp q2.cut)⟩
    rw [q2.length] at z1 z2
    have ec : cutD l lo hi = l := by
      unfold cutD
      rw [z1, z2]
      simp
    rw [ec] at r
    exact k _ _ _ r e4 r1'
theorem en_revL {R : List Da → Prop} (h : EvD K te G fun d => ∃ l, d = .lst l ∧ R l.reverse) : EvN K (tRevL K te) G R := fun O σ H s Q k =>
  h O σ H s _ fun v H1 d ⟨l, e, r⟩ e1 r1 => by
    subst e
    obtain ⟨a, xs, rfl, q1, q2⟩ := rep_lst_inv r1
    exact ⟨a, xs, rfl, SqL.of (hid_same _ _ _ _ q1), fun p hp => k p _ _ _ r (e1.free hp) (e1.trans (same_new hp)) upd_same (new_list hp q2.reverse)⟩
/-! ### joined -/
theorem rn_cat {l m : List Da} {R : List Da → Prop} (hl : l.length + m.length ≤ 100000) (r : R (l ++ m)) : RvN K rCat (.lst l) (.lst m) R := fun O H x y hO h1 h2 Q k => by
  obtain ⟨a, xs, rfl, q1, q2⟩ := rep_lst_inv h1
  obtain ⟨b, ys, rfl, q3, q4⟩ := rep_lst_inv h2
  refine ⟨a, b, xs, ys, rfl, rfl, hid_same _ _ _ _ q1, hid_same _ _ _ _ q3, ?_, fun p hp => k p _ _ _ r hp (same_new hp) upd_same (new_list hp (q2.append q4))⟩
  rw [q2.length, q4.length]
  exact Nat.le_trans hl (by decide)
theorem rv_catA {l m : List Da} (hl : l.length + m.length ≤ 100000) (r : R (.tup (l ++ m))) : RvD K (rCatA K) (.tup l) (.tup m) R := fun O H x y hO h1 h2 Q k => by
  obtain ⟨a, xs, rfl, q1, q2⟩ := rep_tup_inv h1
  obtain ⟨b, ys, rfl, q3, q4⟩ := rep_tup_inv h2
  have l1 := q2.length
  have l2 := q4.length
  refine ⟨a, b, xs, ys, rfl, rfl, SqT.of (hid_same _ _ _ _ q1), SqT.of (hid_same _ _ _ _ q3), by rw [l1, l2]; exact Nat.le_trans hl (by decide), fun z => ?_, fun _ z => ?_, fun _ _ p hp => k _ _ _ r (same_new hp) (new_tup hO hp (q2.append q4))⟩
  · subst z
    have : l = [] := List.length_eq_zero_iff.mp l1.symm
    subst this
    exact k _ H _ r (Same.refl H) h2
  · subst z
    have : m = [] := List.length_eq_zero_iff.mp l2.symm
    subst this
    rw [List.append_nil] at r
    exact k _ H _ r (Same.refl H) h1
theorem rn_rep {l : List Da} {n : Nat} {R : List Da → Prop} (hl : l.length * n ≤ 100000) (hn : n ≤ 100000) (r : R (List.replicate n l).flatten) : RvN K rRep (.lst l) (.int n) R := fun O H x y hO h1 h2 Q k => by
  obtain ⟨a, xs, rfl, q1, q2⟩ := rep_lst_inv h1
  cases rep_int_inv h2
  have rr : ∀ n : Nat, RepL K (hid O H) (List.replicate n l).flatten (List.replicate n xs).flatten := fun n => by
    induction n with
    | zero => exact .nil
    | succ n ih =>
      rw [List.replicate_succ, List.replicate_succ, List.flatten_cons, List.flatten_cons]
      exact q2.append ih
  refine ⟨a, n, xs, rfl, rfl, hid_same _ _ _ _ q1, by omega, by omega, ?_, fun p hp => ?_⟩
  · rw [q2.length, Int.toNat_natCast]
    exact Nat.le_trans hl (by decide)
  · rw [Int.toNat_natCast]
    exact k p _ _ _ r hp (same_new hp) upd_same (new_list hp (rr n))
/-! ### in -/
def flatL : List Da → Option (List V)
  | [] => some []
  | d :: l => match flatD d, flatL l with
    | some v, some r => some (v :: r)
    | _, _ => none
theorem flatL_rep {F : Hp} : ∀ {ds : List Da} {vs xs : List V}, flatL ds = some vs → RepL K F ds xs → xs = vs
  | [], _, _, h, r => by
    cases h
    exact r.inv0
  | d :: ds, vs, _, h, r => by
    unfold flatL at h
    obtain ⟨v, ws, rfl, h1, h2⟩ := r.inv
    cases e1 : flatD d with
    | none => rw [e1] at h; cases h
    | some u =>
      rw [e1] at h
      cases e2 : flatL ds with
      | none => rw [e2] at h; cases h
      | some us =>
        rw [e2] at h
        cases h
        rw [flat_rep e1 h1, flatL_rep e2 h2]
theorem flatD_flat {d : Da} {v : V} (h : flatD d = some v) : flatV v = true := by
  cases d <;> simp only [flatD, Option.some.injEq, reduceCtorEq] at h <;> rw [← h] <;> rfl
theorem flatL_flat : ∀ {ds : List Da} {vs : List V}, flatL ds = some vs → vs.all flatV = true
  | [], _, h => by cases h; rfl
  | d :: ds, vs, h => by
    unfold flatL at h
    cases e1 : flatD d with
    | none => rw [e1] at h; cases h
    | some u =>
      rw [e1] at h
      cases e2 : flatL ds with
      | none => rw [e2] at h; cases h
      | some us =>
        rw [e2] at h
        cases h
        rw [List.all_cons, flatD_flat e1, flatL_flat e2]
        rfl
theorem rv_in {neg : Bool} {d e : Da} {l : List Da} {v : V} {vs : List V} (he : e = .lst l ∨ e = .tup l) (h1 : flatD d = some v) (h2 : flatL l = some vs) (r : R (.bl (if neg then !inV v vs else inV v vs))) : RvD K (rIn K neg) d e R := fun O H x y hO r1 r2 Q k => by
  rw [flat_rep h1 r1]
  obtain ⟨a, xs, rfl, q1, q2⟩ := seq_inv r2 he
  rw [flatL_rep h2 q2] at q1
  exact ⟨a, vs, rfl, q1, flatD_flat h1, flatL_flat h2, k _ H _ r (Same.refl H) rep_bl⟩
/-! ### deep -/
mutual
def toPy : Da → Option PyData
  | .non => some .none
  | .bl b => some (.bool b)
  | .int i => some (.int i)
  | .str z => some (.str z)
  | .tup l => (toPyL l).map .tuple
  | .lst l => (toPyL l).map .list
  | .obj _ _ => none
  | .dct _ => none
  | .scr _ => none
def toPyL : List Da → Option (List PyData)
  | [] => some []
  | d :: l => match toPy d, toPyL l with
    | some x, some r => some (x :: r)
    | _, _ => none
end
mutual
theorem toPy_dp {O : Addr → Bool} {H : Hp} : ∀ {d : Da} {p : PyData} {v : V}, toPy d = some p → Rep K (hid O H) d v → Dp K H v p
  | .non, _, _, h, r => by
    simp only [toPy, Option.some.injEq, Rep] at h r
    subst h r
    exact .non
  | .bl b, _, _, h, r => by
    simp only [toPy, Option.some.injEq, Rep] at h r
    subst h r
    exact .bl b
  | .int i, _, _, h, r => by
    simp only [toPy, Option.some.injEq, Rep] at h r
    subst h r
    exact .int i
  | .str z, _, _, h, r => by
    simp only [toPy, Option.some.injEq, Rep] at h r
    subst h r
    exact .str z
  | .tup l, _, _, h, r => by
    simp only [toPy, Option.map_eq_some_iff] at h
    obtain ⟨q, h1, rfl⟩ := h
    obtain ⟨a, xs, rfl, h2, h3⟩ := rep_tup_inv r
    exact .tup (SqT.of (hid_same _ _ _ _ h2)) (toPyL_dp h1 h3)
  | .lst l, _, _, h, r => by
    simp only [toPy, Option.map_eq_some_iff] at h
    obtain ⟨q, h1, rfl⟩ := h
    obtain ⟨a, xs, rfl, h2, h3⟩ := rep_lst_inv r
    exact .lst (SqL.of (hid_same _ _ _ _ h2)) (toPyL_dp h1 h3)
  | .obj _ _, _, _, h, _ => by simp [toPy] at h
  | .dct _, _, _, h, _ => by simp [toPy] at h
  | .scr _, _, _, h, _ => by simp [toPy] at h
theorem toPyL_dp {O : Addr → Bool} {H : Hp} : ∀ {ds : List Da} {ps : List PyData} {vs : List V}, toPyL ds = some ps → RepL K (hid O H) ds vs → DpAll K H vs ps
  | [], _, _, h, r => by
    simp only [toPyL, Option.some.injEq] at h
    subst h
    rw [r.inv0]
    exact .nil
  | d :: ds, _, _, h, r => by
    obtain ⟨v, ws, rfl, h1, h2⟩ := r.inv
    simp only [toPyL] at h
    cases e1 : toPy d with
    | none => rw [e1] at h; cases h
    | some u =>
      rw [e1] at h
      cases e2 : toPyL ds with
      | none => rw [e2] at h; cases h
      | some us =>
        rw [e2] at h
        cases h
        exact .cons (toPy_dp e1 h1) (toPyL_dp e2 h2)
end
theorem rv_notInD {d : Da} {l : List Da} {p : PyData} {ps : List PyData} (h1 : toPy d = some p) (h2 : toPyL l = some ps) (s1 : SeqAt.shaped p = true) (s2 : SeqAt.shaped (.list ps) = true) (r : R (.bl (!ps.any fun z => PyData.eqv z p))) :
    RvD K (rNotInD K) d (.lst l) R := fun O H x y hO r1 r2 Q k => by
  have e2 : toPy (.lst l) = some (.list ps) := by simp [toPy, h2]
  exact ⟨p, ps, toPy_dp h1 r1, toPy_dp e2 r2, s1, s2, k _ H _ r (Same.refl H) rep_bl⟩
theorem rv_eqD {d e : Da} {p q : PyData} (h1 : toPy d = some p) (h2 : toPy e = some q) (s1 : SeqAt.shaped p = true) (s2 : SeqAt.shaped q = true) (r : R (.bl (PyData.eqv p q))) : RvD K (rEqD K) d e R := fun O H x y hO r1 r2 Q k =>
  ⟨p, q, toPy_dp h1 r1, toPy_dp h2 r2, s1, s2, k _ H _ r (Same.refl H) rep_bl⟩
/-! ### texts -/
theorem rv_addS {i j : Str} (hl : i.length + j.length ≤ 100000) (r : R (.str (i ++ j))) : RvD K (fun x y H Q => ∃ i j, x = .str i ∧ y = .str j ∧ i.length + j.length ≤ sizeLine ∧ Q (.str (i ++ j)) H) (.str i) (.str j) R := fun O H x y hO r1 r2 Q k =>
  ⟨i, j, rep_str_inv r1, rep_str_inv r2, Nat.le_trans hl (by decide), k _ H _ r (Same.refl H) rep_str⟩
/-! ### truth -/
def truD : Da → Option Bool
  | .non => some false
  | .bl b => some b
  | .int i => some (i != 0)
  | .tup l => some (!l.isEmpty)
  | .lst l => some (!l.isEmpty)
  | _ => none
theorem isEmpty_rep {F : Hp} {ds : List Da} {xs : List V} (r : RepL K F ds xs) : xs.isEmpty = ds.isEmpty := by
  have := r.length
  cases ds <;> cases xs <;> simp_all
theorem et_truth {Rb : Bool → Prop} (h : EvD K te G fun d => ∃ b, truD d = some b ∧ Rb b) : EvT K (fun σ H Q => te σ H fun x H' => ∃ k, TruV K x H' k ∧ Q k H') G Rb := fun O σ H s Q k =>
  h O σ H s _ fun v H1 d ⟨b, e, r⟩ e1 r1 => by
    refine ⟨b, ?_, k b H1 r e1⟩
    cases d <;> simp only [truD, Option.some.injEq, reduceCtorEq] at e
    case non => simp only [Rep] at r1; subst r1; exact e.symm
    case bl => simp only [Rep] at r1; subst r1; exact e.symm
    case int => simp only [Rep] at r1; subst r1; exact e.symm
    case tup =>
      obtain ⟨a, xs, rfl, h2, h3⟩ := rep_tup_inv r1
      exact .inr (.inl ⟨xs, SqT.of (hid_same _ _ _ _ h2), by rw [isEmpty_rep h3]; exact e.symm⟩)
    case lst =>
      obtain ⟨a, xs, rfl, h2, h3⟩ := rep_lst_inv r1
      exact .inl ⟨xs, SqL.of (hid_same _ _ _ _ h2), by rw [isEmpty_rep h3]; exact e.symm⟩
theorem et_truO (i : Nat) {l : List Da} {Rb : Bool → Prop} (h : G[i]? = some (.own l)) (r : Rb (!l.isEmpty)) : EvT K (fun σ H Q => tVar i σ H fun x H' => ∃ k, TruV K x H' k ∧ Q k H') G Rb := fun O σ H s Q k => by
  obtain ⟨a, xs, h1, h2, h3, h4⟩ := s.slot i _ h
  exact ⟨.ref a, h1, !l.isEmpty, .inl ⟨xs, SqL.of h3, by rw [isEmpty_rep h4]⟩, k _ H r (Same.refl H)⟩
/-! ### chains -/
theorem ev_chain {r r' : R2} {tc : TE} (h : EvD K ta G fun d => EvD K tb G fun e => RvD K r d e fun z => ∃ b, z = .bl b ∧ (b = true → EvD K tc G fun f => RvD K r' e f R) ∧ (b = false → R (.bl false))) : EvD K (tChain r r' ta tb tc) G R := fun O σ H s Q k =>
  h O σ H s _ fun x H1 d h1 e1 r1 => h1 O σ H1 (s.mono e1) _ fun y H2 e h2 e2 r2 =>
    h2 O H2 x y ((s.mono (e1.trans e2)).there) (r1.mono (hid_mono e2)) r2 _ fun z H3 dz ⟨b, ez, q1, q2⟩ e3 r3 => by
      subst ez
      have e123 := (e1.trans e2).trans e3
      refine ⟨b, rep_bl_inv r3, ?_⟩
      cases b with
      | true => exact q1 rfl O σ H3 (s.mono e123) _ fun w H4 f h4 e4 r4 => h4 O H4 y w ((s.mono (e123.trans e4)).there) (r2.mono (hid_mono (e3.trans e4))) r4 Q fun v H5 z q e5 r5 => k v H5 z q ((e123.trans e4).trans e5) r5
      | false => exact k _ H3 _ (q2 rfl) e123 rep_bl
/-! ### isinstance -/
def tyD : Da → Option String
  | .non => some "NoneType"
  | .bl _ => some "bool"
  | .int _ => some "int"
  | .str _ => some "str"
  | .tup _ => some "tuple"
  | .lst _ => some "list"
  | _ => none
end
end Sc
/-! Fd5: the statements' rules, unbundled; helpers for readings. -/
namespace Sc
open PySem L2
abbrev noG : List SD → Prop := fun _ => False
def Ho (K : PySem.W.Frag) (t : TS) (G : List SD) (nx : List SD → Prop) (rt : Da → Prop) (bk ct : List SD → Prop) : Prop := HoD K t G ⟨nx, rt, bk, ct⟩
section
variable {K : PySem.W.Frag} {G : List SD} {te ta tb ti : TE} {tt tu : TT} {t u : TS} {nx bk ct : List SD → Prop} {rt : Da → Prop} {g : TG}
theorem ho_nil (h : nx G) : Ho K tNext G nx rt bk ct := hd_nil h
theorem ho_seq (h : Ho K t G (fun G' => Ho K u G' nx rt bk ct) rt bk ct) : Ho K (tSeq t u) G nx rt bk ct := hd_seq h
theorem ho_asg (h : EvD K te G fun d => GoD K g d G nx) : Ho K (tAsg te g) G nx rt bk ct := hd_asg h
theorem ho_set {i : Nat} (h : EvD K te G fun d => nx (G.set i (.val d))) : Ho K (tAsg te (gName i)) G nx rt bk ct := hd_set h
theorem ho_own {i : Nat} (h : EvN K te G fun l => nx (G.set i (.own l))) : Ho K (tAsg te (gName i)) G nx rt bk ct := hd_own h
theorem ho_drop (h : EvD K te G fun _ => nx G) : Ho K (tDrop te) G nx rt bk ct := hd_drop h
theorem ho_ret (h : EvD K te G rt) : Ho K (tRet te) G nx rt bk ct := hd_ret h
theorem ho_retN (h : rt .non) : Ho K tRetN G nx rt bk ct := hd_retN h
theorem ho_if (h : EvT K tt G fun b => (b = true → Ho K t G nx rt bk ct) ∧ (b = false → Ho K u G nx rt bk ct)) : Ho K (tIfS tt t u) G nx rt bk ct := hd_if h
theorem ho_break (h : bk G) : Ho K tBreak G nx rt bk ct := hd_break h
theorem ho_cont (h : ct G) : Ho K tCont G nx rt bk ct := hd_cont h
theorem ho_frz (i : Nat) {l : List Da} (h : G[i]? = some (.own l)) (q : Ho K t (G.set i (.val (.lst l))) nx rt bk ct) : Ho K t G nx rt bk ct := hd_frz i h q
theorem ho_forget (i : Nat) (q : Ho K t (G.set i .un) nx rt bk ct) : Ho K t G nx rt bk ct := fun B O0 O σ H E s c => q B O0 O σ H E s.forget c
theorem ho_append (i : Nat) {l : List Da} (h : G[i]? = some (.own l)) (hl : l.length ≤ 100000) (q : EvD K te G fun d => nx (G.set i (.own (l ++ [d])))) :
    Ho K (tDrop (tBM K "list" rAppend (tVar i) (tCons te tNil))) G nx rt bk ct := hd_append i h hl q
theorem ho_setitem (i : Nat) {l : List Da} (h : G[i]? = some (.own l)) (q : EvD K te G fun d => EvD K ti G fun z => ∃ k j, z = .int k ∧ ixN l.length k = some j ∧ nx (G.set i (.own (l.set j d)))) :
    Ho K (tAsg te (gSub (tVar i) ti rSetL)) G nx rt bk ct := hd_setitem i h q
theorem ho_fld {f : Str} {i : Nat} {p C : Addr} {fs : List (Str × Da)} (h : G[i]? = some (.ino p C fs)) (hc : Cls K C) (hn : NoAttr K C f) (hl : fs.length < 1000)
    (q : EvD K te G fun d => nx (G.set i (.ino p C (putD f d fs)))) : Ho K (sFld K (tVar i) te f) G nx rt bk ct := hd_fld h hc hn hl q
theorem ho_for {wi : TI} {tb : TS} (h : EvI K wi G fun ds => ∃ Iv : Nat → List SD → Prop, Iv 0 G ∧
      (∀ i d G', ds[i]? = some d → Iv i G' → GnD K g d allT G' fun G2 => Ho K tb G2 (Iv (i + 1)) rt nx (Iv (i + 1))) ∧ ∀ G', Iv ds.length G' → nx G') : Ho K (tFor wi g tb) G nx rt bk ct := hd_for h
end
section
variable {P : Program} {w : World} {K : PySem.W.Frag} {mg : Str → Option Value} {base : Heap}
theorem okD' {x qual : Str} {st : Stmt} {f : Addr} {fd : FuncData} {N ps : List Str} {k : Nat} {W : WP} (F : FunV K x qual st f fd) (S : FnScope N ps (defScope st)) (hl : ∀ ds R, W ds R → ds.length = ps.length)
    (hb : ∀ (cdv : Value) (A : Around) (outer : List Env) (s : Shared) (H : Hp) (E : XK), Room k (A.deeper (PyProof.Rows.envOfC qual (defScope st) s.heap.objs.size f cdv)) →
      ∃ t, PSs (cxOf CX0 P w K mg base N qual (defScope st) f cdv A outer s H E).nox (defBody st) t ∧ ∀ ds R, W ds R → Ho K t (slots ds N.length) (fun _ => R .non) R noG noG) :
    FnOk P w K mg base CX0 (k + 1) f fd ps (spD K W) := okD F S hl hb
theorem okI' {x qual : Str} {st : Stmt} {f C : Addr} {fd : FuncData} {n0 : Str} {N ps : List Str} {k : Nat} {W : WPI} (F : FunV K x qual st f fd) (S : FnScope (n0 :: N) (n0 :: ps) (defScope st)) (hl : ∀ fs ds R, W fs ds R → ds.length = ps.length)
    (hb : ∀ (cdv : Value) (A : Around) (outer : List Env) (s : Shared) (H : Hp) (E : XK), Room k (A.deeper (PyProof.Rows.envOfC qual (defScope st) s.heap.objs.size f cdv)) →
      ∃ t, PSs (cxOf CX0 P w K mg base (n0 :: N) qual (defScope st) f cdv A outer s H E).nox (defBody st) t ∧ ∀ self fs ds R, W fs ds R →
        Ho K t (.ino self C fs :: slots ds N.length) (fun G => ∃ fs', G[0]? = some (.ino self C fs') ∧ R fs') (fun _ => False) noG noG) :
    FnOk P w K mg base CX0 (k + 1) f fd (n0 :: ps) (spI K C W) := okI F S hl hb
end
/-! helpers -/
theorem rangeD_inv {lo : Int} {n i : Nat} {d : Da} (h : (rangeD lo n)[i]? = some d) : i < n ∧ d = .int (lo + (i : Int)) := by
  unfold rangeD at h
  rw [List.getElem?_map] at h
  by_cases hi : i < n
  · rw [List.getElem?_range hi] at h
    cases h
    exact ⟨hi, rfl⟩
  · rw [List.getElem?_eq_none (by simp; omega)] at h
    cases h
theorem rangeD_length {lo : Int} {n : Nat} : (rangeD lo n).length = n := by simp [rangeD]
theorem map_inv {α : Type} {f : α → Da} {l : List α} {i : Nat} {d : Da} (h : (l.map f)[i]? = some d) : ∃ a, l[i]? = some a ∧ d = f a := by
  rw [List.getElem?_map] at h
  cases e : l[i]? with
  | none => rw [e] at h; cases h
  | some a => rw [e] at h; cases h; exact ⟨a, rfl, rfl⟩
theorem get_lt {α : Type} {l : List α} {i : Nat} {a : α} (h : l[i]? = some a) : i < l.length := (List.getElem?_eq_some_iff.mp h).1
theorem enumD_inv {α : Type} {f : α → Da} {l : List α} {i : Nat} {d : Da} (h : (enumD (l.map f))[i]? = some d) : ∃ a, l[i]? = some a ∧ d = .tup [.int (i : Nat), f a] := by
  rw [enumD_get] at h
  cases e : (l.map f)[i]? with
  | none => rw [e] at h; cases h
  | some x =>
    rw [e] at h
    cases h
    obtain ⟨a, h1, rfl⟩ := map_inv e
    exact ⟨a, h1, rfl⟩
theorem zipD_inv {α β : Type} {f : α → Da} {g : β → Da} {l : List α} {m : List β} {i : Nat} {d : Da} (h : (zipD (l.map f) (m.map g))[i]? = some d) : ∃ a b, l[i]? = some a ∧ m[i]? = some b ∧ d = .tup [f a, g b] := by
  unfold zipD at h
  rw [List.getElem?_zipWith, List.getElem?_map, List.getElem?_map] at h
  cases e : l[i]? with
  | none => rw [e] at h; cases h
  | some a =>
    cases e2 : m[i]? with
    | none => rw [e, e2] at h; cases h
    | some b => rw [e, e2] at h; cases h; exact ⟨a, b, rfl, rfl, rfl⟩
theorem atI_nat' {α : Type} {l : List α} {i : Nat} {a : α} (h : l[i]? = some a) : atI l (i : Int) = some a := atI_nat h
theorem atI_map {α : Type} {f : α → Da} {l : List α} {z : Int} {j : Nat} {a : α} (e : z = (j : Int)) (h : l[j]? = some a) : atI (l.map f) z = some (f a) := by
  subst e
  exact atI_nat (by rw [List.getElem?_map, h]; rfl)
theorem take_succ {α : Type} {l : List α} {i : Nat} {a : α} (h : l[i]? = some a) : l.take (i + 1) = l.take i ++ [a] := by rw [List.take_add_one, h]; rfl
theorem range_succ' (i : Nat) : List.range (i + 1) = List.range i ++ [i] := List.range_succ
theorem getD_of {α : Type} {l : List α} {i : Nat} (d : α) (h : i < l.length) : l[i]? = some (l.getD i d) := by
  rw [List.getD_eq_getElem?_getD, List.getElem?_eq_getElem h]
  rfl
/-- a comprehension over encoded things: each one's item -/
theorem lc_map {K : PySem.W.Frag} {G : List SD} {α : Type} {f : α → Da} {h : Nat → α → Da} {l : List α} {g : TG} {te : TE} {vs : List Nat} {R : List Da → Prop} {E : Nat → α → Da} {ds : List Da}
    (hds : ∀ (i : Nat) d, ds[i]? = some d → ∃ a, l[i]? = some a ∧ d = E i a) (hlen : ds.length = l.length) (hl : l.length ≤ 100000)
    (st : ∀ (i : Nat) a, l[i]? = some a → GnD K g (E i a) (· ∈ vs) (wipeG G vs) fun G2 => EvD K te G2 fun e => e = h i a) (r : R (l.mapIdx h)) :
    ∃ Iv : Nat → List Da → Prop, Iv 0 [] ∧ (∀ i d acc, ds[i]? = some d → Iv i acc → LcStep K g tYes te vs G d acc (Iv (i + 1))) ∧ ∀ acc, Iv ds.length acc → R acc := by
  refine ⟨fun i acc => acc = (l.mapIdx h).take i, by simp, fun i d acc e he => ?_, fun acc he => ?_⟩
  · obtain ⟨a, ha, rfl⟩ := hds i d e
    subst he
    intro B O0 O σ H v s r Q q
    refine st i a ha B O0 O σ H v s r Q fun σ' G' p s' z => q σ' G' (et_yes ⟨fun _ => p.imp fun e he => ?_, fun x => nomatch x⟩) s' z
    subst he
    refine ⟨by rw [List.length_take, List.length_mapIdx]; omega, ?_⟩
    exact (take_succ (by rw [List.getElem?_mapIdx, ha]; rfl)).symm
  · rw [he, hlen, List.take_of_length_le (by rw [List.length_mapIdx]; exact Nat.le_refl _)]
    exact r
end Sc
/-! Px: this program's places, and calls by name. -/
namespace Sc
open PySem L2
def top (i : Nat) : Stmt := PySem.Challenge.pw_settledcases_k49_whole_sound_picks.main.body.getD i (.Pass ⟨0, 0, 0, 0⟩)
structure CA where
  cForum : Addr
  cSuit : Addr
  cRulings : Addr
  cFloorJudge : Addr
  cPanel : Addr
  cJudge : Addr
abbrev MOST_TOP_v : V := .int 4
abbrev MOST_ISSUES_v : V := .int 3
abbrev MOST_RULINGS_v : V := .int 6
abbrev LETTERS_v : V := .str "abcdefghijklmnopqrstuvwxyz"
/-- the module's names -/
structure Tx (mg : Str → Option Value) : Prop where
  range : mg "range" = none
  len : mg "len" = none
  enumerate : mg "enumerate" = none
  zip : mg "zip" = none
  int : mg "int" = none
  abs : mg "abs" = none
  min : mg "min" = none
  max : mg "max" = none
  sum : mg "sum" = none
  tuple : mg "tuple" = none
  list : mg "list" = none
  any : mg "any" = none
  isinstance : mg "isinstance" = none
  str : mg "str" = none
  bool : mg "bool" = none
  iter : mg "iter" = none
  MOST_TOP : ∃ u, mg "MOST_TOP" = some u ∧ RelV MOST_TOP_v u
  MOST_ISSUES : ∃ u, mg "MOST_ISSUES" = some u ∧ RelV MOST_ISSUES_v u
  MOST_RULINGS : ∃ u, mg "MOST_RULINGS" = some u ∧ RelV MOST_RULINGS_v u
  LETTERS : ∃ u, mg "LETTERS" = some u ∧ RelV LETTERS_v u
section
variable (P : Program) (w : World) (K : PySem.W.Frag) (mg : Str → Option Value) (base : Heap)
structure Has (x : Str) (k : Nat) (ps : List Str) (sp : Sp) : Prop where
  ex : ∃ (f : Addr) (fd : FuncData), FnOk P w K mg base CX0 k f fd ps sp ∧ mg x = some (.ref f) ∧ PySem.W.keepIn K (.ref f) = true ∧ Binds K fd ps []
structure HasM (C : Addr) (m : Str) (k : Nat) (ps : List Str) (sp : Sp) : Prop where
  ex : ∃ (f : Addr) (fd : FuncData), FnOk P w K mg base CX0 k f fd ps sp ∧ Meth K C m f ∧ Cls K C ∧ Binds K fd ps []
structure HasC (x : Str) (C : Addr) (k : Nat) (ps : List Str) (sp : Sp) : Prop where
  ex : ∃ (f : Addr) (fd : FuncData), FnOk P w K mg base CX0 k f fd ps sp ∧ Mk K C f ∧ mg x = some (.ref C) ∧ Binds K fd ps []
structure HasP (C : Addr) (m : Str) (k : Nat) (sp : Sp) : Prop where
  ex : ∃ (p f : Addr) (fd : FuncData), FnOk P w K mg base CX0 k f fd ["self"] sp ∧ PropOf K C m p f ∧ Cls K C ∧ Binds K fd ["self"] []
/-- a def stands at its name -/
structure FunAt (x : Str) (st : Stmt) : Prop where
  ex : ∃ (f : Addr) (fd : FuncData), Fun K x x st f fd ∧ mg x = some (.ref f)
end
section
variable {X : Cx} {k : Nat} {ps : List Str} {sp : Sp} {x m : Str} {C : Addr} {p pos apos : Pos} {e o : Expr} {es : List Expr} {t : TA} {ta : TE}
theorem pe_globE {v : V} (hg : Gl X x) (hm : ∃ u, X.mg x = some u ∧ RelV v u) (hd : (x == ("__debug__" : Str)) = false := by decide) : PE X (.Name x pos) (tC v) := by
  obtain ⟨u, h1, h2⟩ := hm
  exact pe_glob hg h1 h2 hd
theorem pe_callH (h : Has X.prog X.w X.K X.mg X.base x k ps sp) (hr : Room k X.A) (hg : Gl X x) (ha : PA X (e :: es) t) (hdb : (x == ("__debug__" : Str)) = false := by decide)
    (he : starEach (e :: es) X.env = (false, eval e X.env) :: starEach es X.env := by rfl) (hpl : (backTo pos (starEach es X.env)).any (·.1) = false := by rfl) : PE X (.Call (.Name x p) (e :: es) [] pos) (tCall sp [] E0 t) := by
  obtain ⟨f, fd, F, hm, hk, hb⟩ := h.ex
  exact pe_call F hr hg hm hk hb .nil pass0 ha hdb he hpl
theorem pe_makeH (h : HasC X.prog X.w X.K X.mg X.base x C k ps sp) (hr : Room (k + 1) X.A) (hg : Gl X x) (ha : PA X (e :: es) t) (hdb : (x == ("__debug__" : Str)) = false := by decide)
    (he : starEach (e :: es) X.env = (false, eval e X.env) :: starEach es X.env := by rfl) (hpl : (backTo pos (starEach es X.env)).any (·.1) = false := by rfl) : PE X (.Call (.Name x p) (e :: es) [] pos) (tMake C sp [] E0 t) := by
  obtain ⟨f, fd, F, M, hm, hb⟩ := h.ex
  exact pe_make M F hr hg hm hb .nil pass0 ha hdb he hpl
theorem pe_methH {pl : Sem Bool} (h : HasM X.prog X.w X.K X.mg X.base C m k ps sp) (hr : Room k X.A) (he : PE X o ta) (ha : PA X (e :: es) t)
    (hst : starEach (e :: es) X.env = (false, eval e X.env) :: starEach es X.env := by rfl) (hpl : (backTo pos (starEach es X.env)).any (·.1) = false := by rfl)
    (ht : eval (.Call (.Attribute o m apos) (e :: es) [] pos) X.env = (do
      let ov ← eval o X.env
      standAt apos.atName
      let (f, first) ← holding [ov] (getMethod ov m pl)
      callWith pos f first (backTo pos (starEach (e :: es) X.env)) (backToKw pos (keywordEach [] X.env))) := by rfl) : PE X (.Call (.Attribute o m apos) (e :: es) [] pos) (tMeth C m sp [] E0 ta t) := by
  obtain ⟨f, fd, F, hm, hc, hb⟩ := h.ex
  exact pe_meth (pl := pl) he hc hm F hr hb .nil pass0 ha hst hpl ht
theorem pe_methH0 {pl : Sem Bool} (h : HasM X.prog X.w X.K X.mg X.base C m k ps sp) (hr : Room k X.A) (he : PE X o ta)
    (ht : eval (.Call (.Attribute o m apos) [] [] pos) X.env = (do
      let ov ← eval o X.env
      standAt apos.atName
      let (f, first) ← holding [ov] (getMethod ov m pl)
      callWith pos f first (backTo pos (starEach [] X.env)) (backToKw pos (keywordEach [] X.env))) := by rfl) : PE X (.Call (.Attribute o m apos) [] [] pos) (tMeth C m sp [] E0 ta tNil) := by
  obtain ⟨f, fd, F, hm, hc, hb⟩ := h.ex
  exact pe_meth0 (pl := pl) he hc hm F hr hb .nil pass0 ht
theorem pe_propH (h : HasP X.prog X.w X.K X.mg X.base C m k sp) (hr : Room (k + 1) X.A) (he : PE X e ta) (hab : attributeBase e m X.env (eval e X.env) = eval e X.env := by rfl) : PE X (.Attribute e m pos) (tProp C sp [] E0 ta) := by
  obtain ⟨p, f, fd, F, hp, hc, hb⟩ := h.ex
  exact pe_prop he hc hp F hr hb .nil pass0 hab
end
section
variable {P : Program} {w : World} {K : PySem.W.Frag} {mg : Str → Option Value} {base : Heap}
/-- a promise by the def's body -/
theorem hasD {x : Str} {st : Stmt} {N ps : List Str} {k : Nat} {W : WP} (F : FunAt K mg x st) (S : FnScope N ps (defScope st)) (hl : ∀ ds R, W ds R → ds.length = ps.length)
    (hbd : ∀ (kV doc pm : Value) (an : Option Addr) (cdv ct : Value) (us : List Value), us.length = ps.length → bindArgs (PySem.W.fnOf x x (defArgs st) (defBody st) (defScope st) .none kV doc pm an cdv ct) ⟨us, []⟩ = pure (ps.zip us))
    (hb : ∀ (f : Addr) (cdv : Value) (A : Around) (outer : List Env) (s : Shared) (H : Hp) (E : XK), Room k (A.deeper (PyProof.Rows.envOfC x (defScope st) s.heap.objs.size f cdv)) →
      ∃ t, PSs (cxOf CX0 P w K mg base N x (defScope st) f cdv A outer s H E).nox (defBody st) t ∧ ∀ ds R, W ds R → Ho K t (slots ds N.length) (fun _ => R .non) R noG noG) : Has P w K mg base x (k + 1) ps (spD K W) := by
  obtain ⟨f, fd, F, hm⟩ := F.ex
  exact ⟨f, fd, okD' (.of F) S hl (hb f), hm, F.kp, F.binds hbd⟩
end
section
variable {P : Program} {w : World} {K : PySem.W.Frag} {mg : Str → Option Value} {base : Heap}
/-- a method stands in its class -/
structure MethAt (K : PySem.W.Frag) (C : Addr) (m qual : Str) (st : Stmt) : Prop where
  ex : ∃ (f : Addr) (fd : FuncData), Fun K m qual st f fd ∧ Meth K C m f ∧ Cls K C
theorem hasM {C : Addr} {m qual : Str} {st : Stmt} {N ps : List Str} {k : Nat} {W : WP} (F : MethAt K C m qual st) (S : FnScope N ps (defScope st)) (hl : ∀ ds R, W ds R → ds.length = ps.length)
    (hbd : ∀ (kV doc pm : Value) (an : Option Addr) (cdv ct : Value) (us : List Value), us.length = ps.length → bindArgs (PySem.W.fnOf m qual (defArgs st) (defBody st) (defScope st) .none kV doc pm an cdv ct) ⟨us, []⟩ = pure (ps.zip us))
    (hb : ∀ (f : Addr) (cdv : Value) (A : Around) (outer : List Env) (s : Shared) (H : Hp) (E : XK), Room k (A.deeper (PyProof.Rows.envOfC qual (defScope st) s.heap.objs.size f cdv)) →
      ∃ t, PSs (cxOf CX0 P w K mg base N qual (defScope st) f cdv A outer s H E).nox (defBody st) t ∧ ∀ ds R, W ds R → Ho K t (slots ds N.length) (fun _ => R .non) R noG noG) : HasM P w K mg base C m (k + 1) ps (spD K W) := by
  obtain ⟨f, fd, F, hm, hc⟩ := F.ex
  exact ⟨f, fd, okD' (.of F) S hl (hb f), hm, hc, F.binds hbd⟩
/-- a property stands in its class -/
structure PropAt (K : PySem.W.Frag) (C : Addr) (m qual : Str) (st : Stmt) : Prop where
  ex : ∃ (p f : Addr) (fd : FuncData), Fun K m qual st f fd ∧ PropOf K C m p f ∧ Cls K C
theorem hasP {C : Addr} {m qual : Str} {st : Stmt} {N : List Str} {k : Nat} {W : WP} (F : PropAt K C m qual st) (S : FnScope N ["self"] (defScope st)) (hl : ∀ ds R, W ds R → ds.length = 1)
    (hbd : ∀ (kV doc pm : Value) (an : Option Addr) (cdv ct : Value) (us : List Value), us.length = 1 → bindArgs (PySem.W.fnOf m qual (defArgs st) (defBody st) (defScope st) .none kV doc pm an cdv ct) ⟨us, []⟩ = pure ((["self"] : List Str).zip us))
    (hb : ∀ (f : Addr) (cdv : Value) (A : Around) (outer : List Env) (s : Shared) (H : Hp) (E : XK), Room k (A.deeper (PyProof.Rows.envOfC qual (defScope st) s.heap.objs.size f cdv)) →
      ∃ t, PSs (cxOf CX0 P w K mg base N qual (defScope st) f cdv A outer s H E).nox (defBody st) t ∧ ∀ ds R, W ds R → Ho K t (slots ds N.length) (fun _ => R .non) R noG noG) : HasP P w K mg base C m (k + 1) (spD K W) := by
  obtain ⟨p, f, fd, F, hm, hc⟩ := F.ex
  exact ⟨p, f, fd, okD' (.of F) S hl (hb f), hm, hc, F.binds hbd⟩
/-- a class may be made -/
structure InitAt (K : PySem.W.Frag) (mg : Str → Option Value) (x : Str) (C : Addr) (qual : Str) (st : Stmt) (ps : List Str) : Prop where
  ex : ∃ (f : Addr) (fd : FuncData), FunV K "__init__" qual st f fd ∧ Mk K C f ∧ mg x = some (.ref C) ∧ Binds K fd ps []
theorem hasC {x : Str} {C : Addr} {qual : Str} {st : Stmt} {N ps : List Str} {k : Nat} {W : WPI} (F : InitAt K mg x C qual st ("self" :: ps)) (S : FnScope ("self" :: N) ("self" :: ps) (defScope st)) (hl : ∀ fs ds R, W fs ds R → ds.length = ps.length)
    (hb : ∀ (f : Addr) (cdv : Value) (A : Around) (outer : List Env) (s : Shared) (H : Hp) (E : XK), Room k (A.deeper (PyProof.Rows.envOfC qual (defScope st) s.heap.objs.size f cdv)) →
      ∃ t, PSs (cxOf CX0 P w K mg base ("self" :: N) qual (defScope st) f cdv A outer s H E).nox (defBody st) t ∧ ∀ self fs ds R, W fs ds R →
        Ho K t (.ino self C fs :: slots ds N.length) (fun G => ∃ fs', G[0]? = some (.ino self C fs') ∧ R fs') (fun _ => False) noG noG) : HasC P w K mg base x C (k + 1) ("self" :: ps) (spI K C W) := by
  obtain ⟨f, fd, F, hm, hx, hbd⟩ := F.ex
  exact ⟨f, fd, okI' F S hl (hb f), hm, hx, hbd⟩
end
/-! plain names for some readings -/
abbrev tTruth (K : PySem.W.Frag) (te : TE) : TT := fun σ H Q => te σ H fun x H' => ∃ k, TruV K x H' k ∧ Q k H'
end Sc
/-! Rx1: enumerate and zip over lists and tuples in any mix. -/
namespace Sc
open PySem L2
def SqK (b : Bool) (K : PySem.W.Frag) (H : Hp) (a : Addr) (xs : List V) : Prop := match b with
  | true => SqL K H a xs
  | false => SqT K H a xs
def ItOf (b : Bool) (h : Heap) (it a : Addr) (i : Nat) : Prop := match b with
  | true => h.IsListIter it a i
  | false => h.IsTupleIter it a i
def SrcAt (b : Bool) (h : Heap) (a : Addr) (its : Array Value) : Prop := match b with
  | true => h.IsList a its
  | false => h.IsTuple a its
def itObjK (b : Bool) (a : Addr) : Obj := match b with
  | true => { cls := .type "list_iterator", data := .fields #[.ref a, .int 0 0] }
  | false => { cls := .type "tuple_iterator", data := .fields #[.ref a, .int 0 0] }
section
variable {X : Cx} {pins : List (Addr × Obj)} {σ : L2.St} {H : Hp} {s : Shared} {a it : Addr} {xs ys : List V} {b : Bool}
theorem sqk_at (I : Inv X pins σ H s) (h : SqK b X.K H a xs) : ∃ its : List Value, Vals xs its ∧ SrcAt b s.heap a its.toArray ∧ xs.length ≤ sizeLine := by
  cases b with
  | true =>
    obtain ⟨its, r, p, q⟩ := I.list h
    exact ⟨its, r, p.isList, q⟩
  | false =>
    obtain ⟨its, r, p, q⟩ := I.tuple h
    exact ⟨its, r, p, q⟩
theorem sqk_inj (I : Inv X pins σ H s) (h : SqK b X.K H a xs) (h' : SqK b X.K H a ys) : xs = ys := by
  cases b with
  | true => exact I.list_inj h h'
  | false => exact I.tuple_inj h h'
theorem src_lt {h : Heap} {its : Array Value} (x : SrcAt b h a its) : a < h.objs.size := by
  cases b with
  | true =>
    obtain ⟨o, ho, _⟩ := x
    exact Heap.lt_size ho
  | false =>
    obtain ⟨o, ho, _⟩ := x
    exact Heap.lt_size ho
theorem itof_at {h : Heap} {i : Nat} (x : ItOf b h it a i) : ∃ o, h.get? it = some o ∧ ∀ v, o.data ≠ .cell v := by
  cases b with
  | true =>
    obtain ⟨o, ho, _, hd⟩ := x
    exact ⟨o, ho, fun v q => by rw [hd] at q; cases q⟩
  | false =>
    obtain ⟨o, ho, _, hd⟩ := x
    exact ⟨o, ho, fun v q => by rw [hd] at q; cases q⟩
theorem itof_mv {h h' : Heap} {i : Nat} (x : ItOf b h it a i) (k : ∀ o, h.get? it = some o → h'.get? it = some o) : ItOf b h' it a i := by
  cases b with
  | true =>
    obtain ⟨o, ho, r⟩ := x
    exact ⟨o, k o ho, r⟩
  | false =>
    obtain ⟨o, ho, r⟩ := x
    exact ⟨o, k o ho, r⟩
theorem itof_new {h : Heap} (e : h.get? it = some (itObjK b a)) : ItOf b h it a 0 := by
  cases b with
  | true => exact ⟨_, e, rfl, rfl⟩
  | false => exact ⟨_, e, rfl, rfl⟩
theorem drawsK {prog : Program} {w : World} {A : Around} (hh : A.handled = none) (hne : a ≠ it) (items : Array Value) :
    Draws prog w A it [it, a] items.size (fun i v => items[i]? = some v) (fun i h => ItOf b h it a i ∧ SrcAt b h a items) := by
  cases b with
  | true => exact Draws.list hh it a hne items
  | false => exact Draws.tuple hh it a hne items
theorem beginsK (items : Array Value) : Begins (.ref a) (itObjK b a) fun h => SrcAt b h a items := by
  cases b with
  | true => exact begins_list a items
  | false => exact begins_tuple a items
end
/-! ### enumerate -/
def IteK (b : Bool) (K : PySem.W.Frag) (a : Addr) : It :=
  ⟨fun i H => ∃ (xs : List V), SqK b K H a xs ∧ i < xs.length, fun i H v H' => ∃ T x, v = .ref T ∧ H T = none ∧ H' = upd H T (.tup [.int (i : Nat), x]) ∧ ∀ xs, SqK b K H a xs → xs[i]? = some x, fun i H => ∃ xs : List V, SqK b K H a xs ∧ xs.length = i⟩
theorem turn_enumK {P : Program} {w : World} {K : PySem.W.Frag} {elts : List Expr} {kk : Nat} {tpos : Pos} {b : Bool} (a e it : Addr) (h1 : e ≠ it) (h2 : a ≠ it) (h3 : e ≠ a) :
    Turn P w K (.Tuple elts kk tpos) (IteK b K a) [e, it] e (fun i h => (∃ old, IsEnum h e it ((i : Nat) : Int) old) ∧ ItOf b h it a i) where
  mem := by simp
  obj := fun i h st c hc => by
    obtain ⟨⟨old, he⟩, hi⟩ := st
    have e' : c = e ∨ c = it := by simpa using hc
    rcases e' with rfl | rfl
    · exact ⟨_, he, fun v q => nomatch q⟩
    · exact itof_at hi
  keep := fun i h h' st k => by
    obtain ⟨⟨old, he⟩, hi⟩ := st
    exact ⟨⟨old, k e (by simp) _ he⟩, itof_mv hi fun o q => k it (by simp) o q⟩
  item := by
    intro X hP hw hK hc i pins s σ H E I hf st hg
    subst hP hw hK
    obtain ⟨xs, hq, hi⟩ := hg
    obtain ⟨its, rv, p, hz⟩ := sqk_at I hq
    have D := drawsK (prog := X.prog) (w := X.w) (A := X.A.in1) (b := b) (I.ok.hd hc) h2 its.toArray
    have G := GoesN.enumFrom (elts := elts) (x1 := kk) (pos := tpos) 0 D e h1 (by simp [h1, h3]) (by simp)
    have hn : i < its.toArray.size := by
      have := rv.length
      simp
      omega
    refine wpAny_mono (G.goes i s (fun v s2 => ∃ x H', Inv X pins σ H' s2 ∧ RelV x v ∧ (IteK b X.K a).yld i H x H' ∧ ((∃ old, IsEnum s2.heap e it ((i + 1 : Nat) : Int) old) ∧ ItOf b s2.heap it a (i + 1)) ∧ ∀ c ∈ [e, it], H' c = none) E hn ⟨by simpa using st.1, st.2, p⟩ fun v h' tk hY hst hk ht => ?_) (fun r s1 ⟨v, e1, h⟩ => ⟨v, e1, h⟩) fun _ _ z => z
    obtain ⟨T, t, x, rfl, hT, hx, hTu⟩ := hY
    have hx' : its[i]? = some x := by simpa using hx
    obtain ⟨y, hy⟩ : ∃ y, xs[i]? = some y := ⟨xs[i], List.getElem?_eq_getElem hi⟩
    obtain ⟨u, hu, ru⟩ := rv.get hy
    rw [hx'] at hu
    cases hu
    have new : ObjOk X.prog X.w (upd H T (.tup [.int (i : Nat), y])) h' T (.tup [.int (i : Nat), y]) :=
      ⟨by show 2 ≤ sizeLine; decide, [.int (0 + (i : Int)) t, x], .cons ⟨t, by simp⟩ (.cons ru .nil), hTu⟩
    have I1 := I.turnedNew (t' := tk) (ch := [e, it]) hk hf hT new
    refine ⟨.ref T, _, I1, rfl, ⟨T, y, rfl, I.hok.fresh hT, rfl, fun zs hz => by rw [sqk_inj I hz hq]; exact hy⟩, ⟨by simpa using hst.1, hst.2.1⟩, fun c hcm => ?_⟩
    have hlt : c < s.heap.objs.size := by
      have e' : c = e ∨ c = it := by simpa using hcm
      rcases e' with rfl | rfl
      · obtain ⟨⟨old, he⟩, _⟩ := st
        exact Heap.lt_size he
      · obtain ⟨o, ho, _⟩ := itof_at st.2
        exact Heap.lt_size ho
    rw [upd_ne (Nat.ne_of_lt (Nat.lt_of_lt_of_le hlt hT))]
    exact (hf c hcm).1
  done := by
    intro X hP hw hK hc i pins s σ H E I hf st hg
    subst hP hw hK
    obtain ⟨xs, hq, hi⟩ := hg
    obtain ⟨its, rv, p, hz⟩ := sqk_at I hq
    have D := drawsK (prog := X.prog) (w := X.w) (A := X.A.in1) (b := b) (I.ok.hd hc) h2 its.toArray
    have G := GoesN.enumFrom (elts := elts) (x1 := kk) (pos := tpos) 0 D e h1 (by simp [h1, h3]) (by simp)
    have hn : i = its.toArray.size := by
      have := rv.length
      simp
      omega
    subst hn
    exact G.stops s (fun s1 => Inv X pins σ H s1) E ⟨by simpa using st.1, st.2, p⟩ fun h' tk hk ht => I.turnedL (t' := tk) (ch := [e, it]) hk hf
  self := fun A i s Q E st h => by
    obtain ⟨⟨old, he⟩, _⟩ := st
    exact wpAny_pyIter_enum he h
set_option maxHeartbeats 1000000 in
theorem enumerate_one {v : Value} {o : Obj} {Hh : Heap → Prop} (B : Begins v o Hh) :
    Meets (Builtin.«enumerate.__new__» ⟨[.type "enumerate", v], []⟩) (fun _ R s => Hh s.heap ∧
      R (.ok (.ret (.ref (s.heap.push o).objs.size))) { s with heap := (s.heap.push o).push { cls := .type "enumerate", data := .fields #[.none, .bool false, .ref s.heap.objs.size, rawInt 0, .none, .none] } }) :=
  .of_wp fun prog w A R s h => by
    obtain ⟨hp, g, d, tk, os⟩ := s
    obtain ⟨h1, h⟩ := h
    have hsub := sub_enumerate
    have q1 : ∀ {A' : Around} {E : Value → Shared → Prop} {Q : Value → Shared → Prop}, Q (.ref hp.objs.size) ⟨hp.push o, g, d, tk, os⟩ → wpAny (model prog w) A' (pyIter v) Q E ⟨hp, g, d, tk, os⟩ :=
      fun q => B.iter prog w _ _ ⟨hp, g, d, tk, os⟩ _ h1 q
    wp_walk using q1
    refine wpAny_stack_any fun st => wpAny_pure ?_
    split
    · rename_i c _ _ _ _ _
      cases (c == Value.type "enumerate") <;> (wp_walk using q1; exact ⟨_, rfl, h⟩)
    · wp_walk using q1
      exact ⟨_, rfl, h⟩
theorem call_enumB {prog : Program} {w : World} {A : Around} {E : Value → Shared → Prop} {s : Shared} {v : Value} {o : Obj} {Hh : Heap → Prop} {Q : Value → Shared → Prop} (B : Begins v o Hh) (h1 : Hh s.heap)
    (h : ∀ h', IsEnum h' (s.heap.objs.size + 1) s.heap.objs.size 0 .none → h'.get? s.heap.objs.size = some o → (∀ b o, s.heap.get? b = some o → h'.get? b = some o) → Q (.ref (s.heap.objs.size + 1)) { s with heap := h' }) :
    wpAny (model prog w) A (call (.type "enumerate") [v]) Q E s := by
  refine callType_new F.called_enumerate (by decide) (F.typeCall_enumerate_1 _) (F.newCall_enumerate_1 _) (fun obj => F.args_object_init_2 obj _) F.entry_enumerate_new (enumerate_one B) ⟨h1, ?_⟩
  have hz : (s.heap.push o).objs.size = s.heap.objs.size + 1 := Heap.size_push ..
  show _ ∧ _
  rw [hz]
  have he : IsEnum ((s.heap.push o).push { cls := .type "enumerate", data := .fields #[.none, .bool false, .ref s.heap.objs.size, rawInt 0, .none, .none] }) (s.heap.objs.size + 1) s.heap.objs.size 0 .none := by
    have := Heap.get?_push_size (s.heap.push o) (o := { cls := .type "enumerate", data := .fields #[.none, .bool false, .ref s.heap.objs.size, rawInt 0, .none, .none] }) rfl
    rw [hz] at this
    exact this
  exact ⟨⟨_, he, rfl⟩, h _ he (Heap.get?_push_of_some _ (Heap.get?_push_size _ B.free)) fun b o x => Heap.get?_push_of_some _ (Heap.get?_push_of_some _ x)⟩
def iEnumK (b : Bool) (K : PySem.W.Frag) (ta : TA) : TI := fun σ H R => ta σ H fun vs H1 => ∃ a xs, vs = [.ref a] ∧ SqK b K H1 a xs ∧ R (IteK b K a) H1
theorem pi_enumK (b : Bool) {X : Cx} {e : Expr} {ta : TA} {p pos tpos : Pos} {elts : List Expr} {kk : Nat} (hg : Gl X "enumerate") (hm : X.mg "enumerate" = none) (ha : PA X [e] ta) (hs : starEach [e] X.env = [(false, eval e X.env)] := by rfl) :
    PI X (.Tuple elts kk tpos) (.Call (.Name "enumerate" p) [e] [] pos) (iEnumK b X.K ta) := by
  refine ⟨fun pins s σ H R I h => ?_⟩
  refine PyProof.Rows.Call_ (ld_blt I hg hm PyProof.Rows.boot_enumerate (PyProof.Rows.callWith_type1 (thn (ha.run pos pins s σ H _ I h) fun us s1 ⟨vs, H1, I1, r1, q1⟩ => ?_) hs rfl))
  obtain ⟨a, xs, ex, hq, q⟩ := q1
  subst ex
  obtain ⟨u, rfl, ru⟩ := vals1 r1
  obtain rfl : u = Value.ref a := ru
  obtain ⟨its, rv, p', hz⟩ := sqk_at I1 hq
  refine call_enumB (beginsK its.toArray) p' fun h' he hit hk => wpAny_pyIter_enum he ?_
  have I2 : Inv X pins σ H1 { s1 with heap := h' } := I1.kept (t' := s1.toks) hk
  have hlt := src_lt p'
  refine ⟨s1.heap.objs.size + 1, [s1.heap.objs.size + 1, s1.heap.objs.size], _, _, H1, rfl, I2, turn_enumK a (s1.heap.objs.size + 1) s1.heap.objs.size (Nat.succ_ne_self _) (Nat.ne_of_lt hlt) (Nat.ne_of_gt (Nat.lt_succ_of_lt hlt)), ⟨⟨.none, he⟩, itof_new hit⟩, fun c hc => ?_, q⟩
  have e' : c = s1.heap.objs.size + 1 ∨ c = s1.heap.objs.size := by simpa using hc
  have hle : s1.heap.objs.size ≤ c := by
    rcases e' with z | z
    · rw [z]; exact Nat.le_add_right _ _
    · rw [z]; exact Nat.le_refl _
  exact I1.fpOk hle (I1.hok.fresh hle)
/-! ### zip -/
def ItzK (b1 b2 : Bool) (K : PySem.W.Frag) (a c : Addr) : It :=
  ⟨fun i H => ∃ xs ys : List V, SqK b1 K H a xs ∧ SqK b2 K H c ys ∧ i < xs.length ∧ i < ys.length,
    fun i H v H' => ∃ T x y, v = .ref T ∧ H T = none ∧ H' = upd H T (.tup [x, y]) ∧ (∀ xs, SqK b1 K H a xs → xs[i]? = some x) ∧ ∀ ys, SqK b2 K H c ys → ys[i]? = some y,
    fun i H => ∃ xs ys : List V, SqK b1 K H a xs ∧ SqK b2 K H c ys ∧ i = min xs.length ys.length⟩
theorem turn_zipK {P : Program} {w : World} {K : PySem.W.Frag} {elts : List Expr} {kk : Nat} {tpos : Pos} {b1 b2 : Bool} {a c z TI TO i1 i2 : Addr} (S : ZipSep2 z TI TO i1 i2 [i1, a] [i2, c]) (n1 : a ≠ i1) (n2 : c ≠ i2) :
    Turn P w K (.Tuple elts kk tpos) (ItzK b1 b2 K a c) [z, TI, TO, i1, i2] z (fun i h => IsZip h z TI TO .none ∧ IsTupOf2 h TI (.ref i1) (.ref i2) ∧ (∃ x y, IsTupOf2 h TO x y) ∧ ItOf b1 h i1 a i ∧ ItOf b2 h i2 c i) where
  mem := by simp
  obj := fun i h st d hd => by
    obtain ⟨hz, hTI, ⟨x, y, hTO⟩, t1, t2⟩ := st
    have e' : d = z ∨ d = TI ∨ d = TO ∨ d = i1 ∨ d = i2 := by simpa using hd
    rcases e' with rfl | rfl | rfl | rfl | rfl
    · exact ⟨_, hz, fun v q => nomatch q⟩
    · exact ⟨_, hTI, fun v q => nomatch q⟩
    · exact ⟨_, hTO, fun v q => nomatch q⟩
    · exact itof_at t1
    · exact itof_at t2
  keep := fun i h h' st k => by
    obtain ⟨hz, hTI, ⟨x, y, hTO⟩, t1, t2⟩ := st
    exact ⟨k z (by simp) _ hz, k TI (by simp) _ hTI, ⟨x, y, k TO (by simp) _ hTO⟩, itof_mv t1 fun o q => k i1 (by simp) o q, itof_mv t2 fun o q => k i2 (by simp) o q⟩
  item := by
    intro X hP hw hK hc i pins s σ H E I hf st hg
    subst hP hw hK
    obtain ⟨xs, ys, hq1, hq2, hi1, hi2⟩ := hg
    obtain ⟨its, rv, p, _⟩ := sqk_at I hq1
    obtain ⟨its2, rv2, p2, _⟩ := sqk_at I hq2
    have D1 := drawsK (prog := X.prog) (w := X.w) (A := X.A.in1) (b := b1) (I.ok.hd hc) n1 its.toArray
    have D2 := drawsK (prog := X.prog) (w := X.w) (A := X.A.in1) (b := b2) (I.ok.hd hc) n2 its2.toArray
    have G := GoesN.zip2 (elts := elts) (x1 := kk) (pos := tpos) S D1 D2
    have l1 := rv.length
    have l2 := rv2.length
    have hn : i < min its.toArray.size its2.toArray.size := by
      simp
      omega
    obtain ⟨hz, hTI, hTO, t1, t2⟩ := st
    refine wpAny_mono (G.goes i s (fun v s2 => ∃ x H', Inv X pins σ H' s2 ∧ RelV x v ∧ (ItzK b1 b2 X.K a c).yld i H x H' ∧ (IsZip s2.heap z TI TO .none ∧ IsTupOf2 s2.heap TI (.ref i1) (.ref i2) ∧ (∃ x y, IsTupOf2 s2.heap TO x y) ∧ ItOf b1 s2.heap i1 a (i + 1) ∧ ItOf b2 s2.heap i2 c (i + 1)) ∧
      ∀ d ∈ [z, TI, TO, i1, i2], H' d = none) E hn ⟨hz, hTI, hTO, ⟨t1, p⟩, t2, p2⟩ fun v h' tk hY hst hk ht => ?_) (fun r s1 ⟨v, e1, h⟩ => ⟨v, e1, h⟩) fun _ _ z => z
    obtain ⟨T, x, y, rfl, hT, hx, hy, hTu⟩ := hY
    have hx' : its[i]? = some x := by simpa using hx
    have hy' : its2[i]? = some y := by simpa using hy
    obtain ⟨u, hu⟩ : ∃ y, xs[i]? = some y := ⟨xs[i], List.getElem?_eq_getElem hi1⟩
    obtain ⟨v, hv⟩ : ∃ y, ys[i]? = some y := ⟨ys[i], List.getElem?_eq_getElem hi2⟩
    obtain ⟨u', hu', ru⟩ := rv.get hu
    obtain ⟨v', hv', rv'⟩ := rv2.get hv
    rw [hx'] at hu'
    cases hu'
    rw [hy'] at hv'
    cases hv'
    have new : ObjOk X.prog X.w (upd H T (.tup [u, v])) h' T (.tup [u, v]) := ⟨by show 2 ≤ sizeLine; decide, [x, y], .cons ru (.cons rv' .nil), hTu⟩
    have I1 := I.turnedNew (t' := tk) (ch := [z, TI, TO, i1, i2]) (fun d o hd q => hk d o (fun hm => hd (by simp at hm ⊢; rcases hm with h | h | h | h <;> simp [h])) q) hf hT new
    obtain ⟨q1, q2, q3, q4, q5⟩ := hst
    refine ⟨.ref T, _, I1, rfl, ⟨T, u, v, rfl, I.hok.fresh hT, rfl, fun zs hz => by rw [sqk_inj I hz hq1]; exact hu, fun zs hz => by rw [sqk_inj I hz hq2]; exact hv⟩, ⟨q1, q2, q3, q4.1, q5.1⟩, fun d hd => ?_⟩
    have hlt : d < s.heap.objs.size := by
      have e' : d = z ∨ d = TI ∨ d = TO ∨ d = i1 ∨ d = i2 := by simpa using hd
      obtain ⟨_, _, hTO⟩ := hTO
      rcases e' with rfl | rfl | rfl | rfl | rfl
      · exact Heap.lt_size hz
      · exact Heap.lt_size hTI
      · exact Heap.lt_size hTO
      · obtain ⟨o, ho, _⟩ := itof_at t1
        exact Heap.lt_size ho
      · obtain ⟨o, ho, _⟩ := itof_at t2
        exact Heap.lt_size ho
    rw [upd_ne (Nat.ne_of_lt (Nat.lt_of_lt_of_le hlt hT))]
    exact (hf d hd).1
  done := by
    intro X hP hw hK hc i pins s σ H E I hf st hg
    subst hP hw hK
    obtain ⟨xs, ys, hq1, hq2, hi⟩ := hg
    obtain ⟨its, rv, p, _⟩ := sqk_at I hq1
    obtain ⟨its2, rv2, p2, _⟩ := sqk_at I hq2
    have D1 := drawsK (prog := X.prog) (w := X.w) (A := X.A.in1) (b := b1) (I.ok.hd hc) n1 its.toArray
    have D2 := drawsK (prog := X.prog) (w := X.w) (A := X.A.in1) (b := b2) (I.ok.hd hc) n2 its2.toArray
    have G := GoesN.zip2 (elts := elts) (x1 := kk) (pos := tpos) S D1 D2
    have hn : i = min its.toArray.size its2.toArray.size := by
      have := rv.length
      have := rv2.length
      simp
      omega
    subst hn
    obtain ⟨hz, hTI, hTO, t1, t2⟩ := st
    exact G.stops s (fun s1 => Inv X pins σ H s1) E ⟨hz, hTI, hTO, ⟨t1, p⟩, t2, p2⟩ fun h' tk hk ht => I.turnedL (t' := tk) (ch := [z, TI, TO, i1, i2]) (fun d o hd q => hk d o (fun hm => hd (by simp at hm ⊢; rcases hm with h | h | h | h <;> simp [h])) q) hf
  self := fun A i s Q E st h => wpAny_pyIter_zip st.1 h
def iZipK (b1 b2 : Bool) (K : PySem.W.Frag) (ta : TA) : TI := fun σ H R => ta σ H fun vs H1 => ∃ a c xs ys, vs = [.ref a, .ref c] ∧ SqK b1 K H1 a xs ∧ SqK b2 K H1 c ys ∧ R (ItzK b1 b2 K a c) H1
theorem pi_zipK (b1 b2 : Bool) {X : Cx} {e e2 : Expr} {ta : TA} {p pos tpos : Pos} {elts : List Expr} {kk : Nat} (hg : Gl X "zip") (hm : X.mg "zip" = none) (ha : PA X [e, e2] ta)
    (hs : starEach [e, e2] X.env = (false, eval e X.env) :: starEach [e2] X.env := by rfl) (hpl : (backTo pos (starEach [e2] X.env)).any (·.1) = false := by rfl) :
    PI X (.Tuple elts kk tpos) (.Call (.Name "zip" p) [e, e2] [] pos) (iZipK b1 b2 X.K ta) := by
  refine ⟨fun pins s σ H R I h => ?_⟩
  refine PyProof.Rows.Call_ (ld_blt I hg hm PyProof.Rows.boot_zip (PyProof.Rows.callWith_type1 (thn (ha.run pos pins s σ H _ I h) fun us s1 ⟨vs, H1, I1, r1, q1⟩ => ?_) hs hpl))
  obtain ⟨a, c, xs, ys, ex, hq1, hq2, q⟩ := q1
  subst ex
  obtain ⟨u, u', rfl, ru, ru'⟩ := vals2 r1
  obtain rfl : u = Value.ref a := ru
  obtain rfl : u' = Value.ref c := ru'
  obtain ⟨its, rv, p1, _⟩ := sqk_at I1 hq1
  obtain ⟨its2, rv2, p2, _⟩ := sqk_at I1 hq2
  have l1 := src_lt p1
  have l2 := src_lt p2
  refine zip_begins2 (beginsK its.toArray) (beginsK its2.toArray) p1 p2 fun h' hz hTI hTO h1 h2 hsz hk => wpAny_pyIter_zip hz ?_
  have I2 : Inv X pins σ H1 { s1 with heap := h' } := I1.kept (t' := s1.toks) hk
  refine ⟨s1.heap.objs.size + 4, [s1.heap.objs.size + 4, s1.heap.objs.size + 2, s1.heap.objs.size + 3, s1.heap.objs.size, s1.heap.objs.size + 1], _, _, H1, rfl, I2,
    turn_zipK (a := a) (c := c) (zip_sep2 (fp1 := [a]) (fp2 := [c]) (by simpa using l1) (by simpa using l2)) (Nat.ne_of_lt l1) (Nat.ne_of_lt (Nat.lt_succ_of_lt l2)), ⟨hz, hTI, ⟨_, _, hTO⟩, itof_new h1, itof_new h2⟩, fun d hd => ?_, q⟩
  have e' : d = s1.heap.objs.size + 4 ∨ d = s1.heap.objs.size + 2 ∨ d = s1.heap.objs.size + 3 ∨ d = s1.heap.objs.size ∨ d = s1.heap.objs.size + 1 := by simpa using hd
  have hle : s1.heap.objs.size ≤ d := by
    rcases e' with z | z | z | z | z
    · rw [z]; exact Nat.le_add_right _ _
    · rw [z]; exact Nat.le_add_right _ _
    · rw [z]; exact Nat.le_add_right _ _
    · rw [z]; exact Nat.le_refl _
    · rw [z]; exact Nat.le_add_right _ _
  exact I1.fpOk hle (I1.hok.fresh hle)
/-! ### on data -/
def seqD (b : Bool) (l : List Da) : Da := if b then .lst l else .tup l
section
variable {K : PySem.W.Frag} {G : List SD}
theorem sqk_rep {b : Bool} {O : Addr → Bool} {H : Hp} {l : List Da} {v : V} (h : Rep K (hid O H) (seqD b l) v) : ∃ a xs, v = .ref a ∧ SqK b K (hid O H) a xs ∧ RepL K (hid O H) l xs := by
  cases b with
  | true =>
    obtain ⟨a, xs, h1, h2, h3⟩ := rep_lst_inv (l := l) (by simpa [seqD] using h)
    exact ⟨a, xs, h1, SqL.of h2, h3⟩
  | false =>
    obtain ⟨a, xs, h1, h2, h3⟩ := rep_tup_inv (l := l) (by simpa [seqD] using h)
    exact ⟨a, xs, h1, SqT.of h2, h3⟩
theorem sqk_mono {b : Bool} {H H' : Hp} {a : Addr} {xs : List V} (e : Same H H') (h : SqK b K H a xs) : SqK b K H' a xs := by
  cases b with
  | true => exact e.seq h
  | false =>
    rcases h with (h | ⟨o, h⟩) | h
    · exact .inl (.inl (e _ _ h))
    · exact .inl (.inr ⟨o, e _ _ h⟩)
    · exact .inr h
theorem ei_enumK {b : Bool} {R : List Da → Prop} {ta : TA} (h : EvA K ta G fun ds => ∃ l, ds = [seqD b l] ∧ R (enumD l)) : EvI K (iEnumK b K ta) G R := fun O σ H s Q k =>
  h O σ H s _ fun vs H1 ds ⟨l, ed, r⟩ e1 r1 => by
    subst ed
    obtain ⟨v, rfl, r2⟩ := r1.one_inv
    obtain ⟨a, xs, rfl, h2, h3⟩ := sqk_rep r2
    refine ⟨a, xs, rfl, sqk_mono (hid_same _ _) h2, k _ H1 _ r e1 fun O2 H e hO => ?_⟩
    have h4 : SqK b K H a xs := sqk_mono (hid_same O2 H) (sqk_mono e h2)
    rw [enumD_length]
    refine ⟨⟨xs, h4, h3.length⟩, fun i hi => ⟨⟨xs, h4, by rw [h3.length]; exact hi⟩, fun x H' y => ?_⟩⟩
    obtain ⟨T, x, rfl, hT, rfl, y⟩ := y
    obtain ⟨d, q1, q2⟩ := h3.getV (y xs h4)
    exact ⟨same_new hT, _, by rw [enumD_get, q1]; rfl, rep_pair hO hT rep_int (q2.mono e)⟩
theorem ei_zipK {b1 b2 : Bool} {R : List Da → Prop} {ta : TA} (h : EvA K ta G fun ds => ∃ l m, ds = [seqD b1 l, seqD b2 m] ∧ R (zipD l m)) : EvI K (iZipK b1 b2 K ta) G R := fun O σ H s Q k =>
  h O σ H s _ fun vs H1 ds ⟨l, m, ed, r⟩ e1 r1 => by
    subst ed
    obtain ⟨u, v, rfl, r2, r3⟩ := r1.two_inv
    obtain ⟨a, xs, rfl, h2, h3⟩ := sqk_rep r2
    obtain ⟨c, ys, rfl, h4, h5⟩ := sqk_rep r3
    refine ⟨a, c, xs, ys, rfl, sqk_mono (hid_same _ _) h2, sqk_mono (hid_same _ _) h4, k _ H1 _ r e1 fun O2 H e hO => ?_⟩
    have h6 : SqK b1 K H a xs := sqk_mono (hid_same O2 H) (sqk_mono e h2)
    have h7 : SqK b2 K H c ys := sqk_mono (hid_same O2 H) (sqk_mono e h4)
    rw [zipD_length]
    have l1 := h3.length
    have l2 := h5.length
    refine ⟨⟨xs, ys, h6, h7, by omega⟩, fun i hi => ⟨⟨xs, ys, h6, h7, by omega, by omega⟩, fun x H' y => ?_⟩⟩
    obtain ⟨T, x, z, rfl, hT, rfl, y1, y2⟩ := y
    obtain ⟨d, q1, q2⟩ := h3.getV (y1 xs h6)
    obtain ⟨d', q3, q4⟩ := h5.getV (y2 ys h7)
    exact ⟨same_new hT, _, zipD_get q1 q3, rep_pair hO hT (q2.mono e) (q4.mono e)⟩
end
end Sc
/-! Rx2: a tuple many times, the sum of a tuple, kinds. -/
namespace Sc
open PySem L2
open AutoSeq1 (wpAny_loadPart')
theorem mul_tup1 (l : Addr) (items : Array Value) (n : Nat) (dd : Option Addr) (sl : Array (Option Value)) (u : Tok) (q0 : sl.size = sl.size) :
    Meets (Builtin.«tuple.__mul__» ⟨[.ref l, .int 1 u], []⟩) (fun _ R s => s.heap.get? l = some { cls := .type "tuple", dict := dd, data := .seq items n, slots := sl } ∧ R (.ok (.ret (Value.ref l))) s) :=
  .of_wp fun prog w A R s h => by
    obtain ⟨hp, g, d, tk, os⟩ := s
    obtain ⟨hl, h⟩ := h
    have f1 := AutoSeq1.idx_int
    have c0 : (decide ((1 : Int) < -(2 ^ 63)) || decide ((1 : Int) ≥ 2 ^ 63)) = false := by decide
    have c1 : (items.isEmpty || (1 : Int) == 1) = true := by simp
    wp_walk using wpAny_loadPart' hl
    repeat (first
      | (refine wpAny_ite_false (decide_eq_false (by rw [c0]; exact Bool.false_ne_true)) ?_; wp_walk using wpAny_loadPart' hl)
      | (refine wpAny_ite_true (decide_eq_true c1) ?_; wp_walk using wpAny_loadPart' hl))
    exact ⟨_, rfl, h⟩
theorem mul_tup0 (l : Addr) (items : Array Value) (n : Nat) (dd : Option Addr) (sl : Array (Option Value)) (u : Tok) (hne : items.isEmpty = false) :
    Meets (Builtin.«tuple.__mul__» ⟨[.ref l, .int 0 u], []⟩) (fun _ R s => s.heap.get? l = some { cls := .type "tuple", dict := dd, data := .seq items n, slots := sl } ∧
      R (.ok (.ret (Value.ref s.heap.objs.size))) { s with heap := s.heap.push { cls := Value.type "tuple", data := Data.seq #[] }, toks := s.toks }) :=
  .of_wp fun prog w A R s h => by
    obtain ⟨hp, g, d, tk, os⟩ := s
    obtain ⟨hl, h⟩ := h
    have f1 := AutoSeq1.idx_int
    have c0 : (decide ((0 : Int) < -(2 ^ 63)) || decide ((0 : Int) ≥ 2 ^ 63)) = false := by decide
    have c1 : (items.isEmpty || (0 : Int) == 1) = false := by rw [hne]; rfl
    have c2 : (decide ((0 : Int) ≤ 0) || items.isEmpty) = true := by simp
    wp_walk using wpAny_loadPart' hl
    repeat (first
      | (refine wpAny_ite_false (decide_eq_false (by rw [c0]; exact Bool.false_ne_true)) ?_; wp_walk using wpAny_loadPart' hl)
      | (refine wpAny_ite_false (decide_eq_false (by rw [c1]; exact Bool.false_ne_true)) ?_; wp_walk using wpAny_loadPart' hl)
      | (refine wpAny_ite_true (decide_eq_true c2) ?_; wp_walk using wpAny_loadPart' hl))
    exact ⟨_, rfl, h⟩
/-- a tuple of one or more items, k times -/
def rRepA (K : PySem.W.Frag) : R2 := fun x y H Q => ∃ l k xs, x = .ref l ∧ y = .int k ∧ SqT K H l xs ∧ xs ≠ [] ∧ 0 ≤ k ∧ k ≤ 1000 ∧ xs.length ≤ 1000 ∧ (k = 1 → Q (.ref l) H) ∧ (k ≠ 1 → ∀ p, H p = none → Q (.ref p) (upd H p (.tup (List.replicate k.toNat xs).flatten)))
section
variable {X : Cx}
theorem op_repA : OpR X (binaryOp .Mult) (rRepA X.K) := by
  intro pins s σ H x y v u Q I rx ry h
  obtain ⟨l, k, xs, ex, ey, hT, hne, h0, h2, hz, q1, q2⟩ := h
  by_cases k2 : 2 ≤ k
  · exact op_repT pins s σ H x y v u Q I rx ry ⟨l, k, xs, ex, ey, hT, hne, k2, h2, hz, q2 (by omega)⟩
  · subst ex ey
    obtain rfl : v = Value.ref l := rx
    obtain ⟨t, rfl⟩ := ry
    obtain ⟨its, r, ⟨⟨cls, dd, data, sl⟩, ho, hc, n, hd⟩, hs⟩ := I.tuple hT
    simp only at hc hd
    subst hc hd
    have hle : its.length = xs.length := r.length.symm
    have hi : its.toArray.isEmpty = false := by
      cases its with
      | nil => exact absurd (List.eq_nil_of_length_eq_zero hle.symm) hne
      | cons a b => rfl
    have road : ∀ {Q' : Value → Shared → Prop} {R : Result → Shared → Prop}, Meets (Builtin.«tuple.__mul__» ⟨[.ref l, .int k t], []⟩) (fun _ R s => s.heap.get? l = some { cls := .type "tuple", dict := dd, data := .seq its.toArray n, slots := sl } ∧ True ∧ True) → True := fun _ => trivial
    have k01 : k = 0 ∨ k = 1 := by omega
    rcases k01 with rfl | rfl
    · refine wpAny_binaryOp_repeat_ref (T := "tuple") (U := "int") (by decide) ⟨_, ho, rfl⟩ (fun s' => typeIs_int s' 0 t) noFill_tuple_mul F.fills_int_mul F.slot_int_rmul repeat_tuple F.slot_int_index.lookup
        (call_meets F.slot_int_rmul (typeIs_int s 0 t) F.entry_int_rmul (F.args_int_rmul_2 _ _) (int_rmul_tuple 0 t l its.toArray n dd sl)
          ⟨ho, rfl, ⟨_, ho, rfl⟩, call_meets F.slot_tuple_mul ⟨_, ho, rfl⟩ F.entry_tuple_mul (F.args_tuple_mul_2 _ _) (mul_tup0 l its.toArray n dd sl t hi) ⟨ho, ?_⟩⟩)
      refine ⟨.ref s.heap.objs.size, _, I.laid (t' := s.toks) (o := .tup []) (fun b ob q => Heap.get?_push_of_some _ q) (Nat.le_refl _) ?_, rfl, q2 (by decide) _ (I.hok.fresh (Nat.le_refl _))⟩
      exact ⟨Nat.zero_le _, [], .nil, PyProof.Rows.IsTup.new _ _⟩
    · refine wpAny_binaryOp_repeat_ref (T := "tuple") (U := "int") (by decide) ⟨_, ho, rfl⟩ (fun s' => typeIs_int s' 1 t) noFill_tuple_mul F.fills_int_mul F.slot_int_rmul repeat_tuple F.slot_int_index.lookup
        (call_meets F.slot_int_rmul (typeIs_int s 1 t) F.entry_int_rmul (F.args_int_rmul_2 _ _) (int_rmul_tuple 1 t l its.toArray n dd sl)
          ⟨ho, rfl, ⟨_, ho, rfl⟩, call_meets F.slot_tuple_mul ⟨_, ho, rfl⟩ F.entry_tuple_mul (F.args_tuple_mul_2 _ _) (mul_tup1 l its.toArray n dd sl t rfl) ⟨ho, ?_⟩⟩)
      exact ⟨.ref l, H, I, rfl, q1 rfl⟩
/-! ### sum(t) -/
def rSumT (K : PySem.W.Frag) : List V → Hp → VK → Prop := fun vs H Q => ∃ (a : Addr) (ns : List Int), vs = [V.ref a] ∧ SqT K H a (ns.map V.int) ∧ Q (.int ns.sum) H
theorem preSum_take {val : Nat → Int} {ns : List Int} (h : ∀ i, i < ns.length → val i = ns.getD i 0) : ∀ j, j ≤ ns.length → preSum val j = (ns.take j).sum
  | 0, _ => by simp [preSum]
  | j + 1, hj => by
    have hlt : j < ns.length := by omega
    rw [preSum, preSum_take h j (by omega), h j hlt, List.take_add_one, List.getElem?_eq_getElem hlt, List.sum_append]
    simp [List.getD_eq_getElem?_getD, hlt]
theorem cr_sumT (hc : X.calm = true) : CallR X (.builtin "sum") (rSumT X.K) := by
  intro pins s σ H vs us Q I r h
  obtain ⟨a, ns, rfl, hs, q⟩ := h
  obtain ⟨its, rv, hl, _⟩ := I.tuple hs
  rw [Vals.ref1 r]
  have hl : s.heap.IsTuple a its.toArray := hl
  have hlt : a < s.heap.objs.size := by obtain ⟨_, e, _⟩ := hl; exact Heap.lt_size e
  refine call_sum_walkG (wpAny_pyIter_tuple hl ?_)
  have len := rv.length
  rw [List.length_map] at len
  refine ⟨s.heap.objs.size, _, _, _, _, _, fun i => ns.getD i 0, rfl, Walks.tuple (A := X.A.in1) (I.ok.hd hc) s.heap.objs.size a (Nat.ne_of_lt hlt) its.toArray, ⟨⟨_, Heap.get?_push_size _ rfl, rfl, rfl⟩, hl.push _⟩, fun b hb => ?_, fun i v hv => ?_, fun h' tk t' hk => ?_⟩
  · show b < (s.heap.push _).objs.size
    rw [Heap.size_push]
    have e' : b = s.heap.objs.size ∨ b = a := by simpa using hb
    rcases e' with rfl | rfl
    · exact Nat.lt_succ_self _
    · exact Nat.lt_succ_of_lt hlt
  · have hv' : its[i]? = some v := by simpa using hv
    have hi : i < its.length := (List.getElem?_eq_some_iff.mp hv').1
    have hn : i < ns.length := by omega
    obtain ⟨u, hu, ru⟩ := rv.get (i := i) (x := .int (ns.getD i 0)) (by rw [List.getElem?_map, List.getElem?_eq_getElem hn]; simp [List.getD_eq_getElem?_getD, hn])
    rw [hv'] at hu
    cases hu
    exact ru
  · have ep : preSum (fun i => ns.getD i 0) its.toArray.size = ns.sum := by
      rw [preSum_take (ns := ns) (fun _ _ => rfl) _ (by simp; omega), List.take_of_length_le (by simp; omega)]
    refine ⟨.int ns.sum, H, I.kept (t' := tk) fun b o e => hk b o (fun z => ?_) (Heap.get?_push_of_some _ e), ⟨t', by rw [ep]⟩, q⟩
    have : b = s.heap.objs.size := by simpa using z
    exact absurd (Heap.lt_size e) (by rw [this]; exact Nat.lt_irrefl _)
end
section
variable {K : PySem.W.Frag} {G : List SD} {R : Da → Prop} {te ta : TE}
theorem rv_repA {l : List Da} {n : Nat} (hne : l ≠ []) (hn : n ≤ 1000) (hl : l.length ≤ 1000) (r : R (.tup (List.replicate n l).flatten)) : RvD K (rRepA K) (.tup l) (.int n) R := fun O H x y hO h1 h2 Q k => by
  obtain ⟨a, xs, rfl, q1, q2⟩ := rep_tup_inv h1
  cases rep_int_inv h2
  have rr : ∀ n : Nat, RepL K (hid O H) (List.replicate n l).flatten (List.replicate n xs).flatten := fun n => by
    induction n with
    | zero => exact .nil
    | succ n ih =>
      rw [List.replicate_succ, List.replicate_succ, List.flatten_cons, List.flatten_cons]
      exact q2.append ih
  have len := q2.length
  refine ⟨a, n, xs, rfl, rfl, SqT.of (hid_same _ _ _ _ q1), fun e => hne (by rw [e] at len; exact List.length_eq_zero_iff.mp len.symm), by omega, by omega, by omega, fun e => ?_, fun _ p hp => ?_⟩
  · have : n = 1 := by omega
    subst this
    rw [show (List.replicate 1 l).flatten = l by simp] at r
    exact k _ H _ r (Same.refl H) h1
  · rw [Int.toNat_natCast]
    exact k _ _ _ r (same_new hp) (new_tup hO hp (rr n))
theorem rc_sumT {ns : List Int} (r : R (.int ns.sum)) : RcD K (rSumT K) [.tup (ns.map .int)] R := fun O H xs hO rl Q k => by
  obtain ⟨v, rfl, h⟩ := rl.one_inv
  obtain ⟨a, xs, rfl, h2, h3⟩ := rep_tup_inv h
  rw [repL_ints h3] at h2
  exact ⟨a, ns, rfl, SqT.of (hid_same _ _ _ _ h2), k _ H _ r (Same.refl H) rep_int⟩
/-! ### kinds -/
theorem ty_rep {O : Addr → Bool} {H : Hp} {d : Da} {v : V} {T : String} (h : tyD d = some T) (r : Rep K (hid O H) d v) : TyX K H v (.type T) := by
  cases d <;> simp only [tyD, Option.some.injEq, reduceCtorEq] at h <;> subst h
  case non => simp only [Rep] at r; subst r; exact .base .non
  case bl => simp only [Rep] at r; subst r; exact .base (.bl _)
  case int => simp only [Rep] at r; subst r; exact .base (.int _)
  case str => simp only [Rep] at r; subst r; exact .base (.str _)
  case tup => obtain ⟨a, xs, rfl, h2, _⟩ := rep_tup_inv r; exact .base (.tup (hid_same _ _ _ _ h2))
  case lst => obtain ⟨a, xs, rfl, h2, _⟩ := rep_lst_inv r; exact .base (.lst (hid_same _ _ _ _ h2))
theorem ev_isi {n : String} (h : EvD K te G fun d => ∃ T b, tyD d = some T ∧ kitB T n = some b ∧ R (.bl b)) : EvD K (tCB (rIsi K) (tCons te (tCons (tC (.ty n)) tNil))) G R := fun O σ H s Q k =>
  h O σ H s _ fun v H1 d ⟨T, b, h1, h2, r⟩ e1 r1 =>
    ⟨v, .ty n, _, _, b, rfl, .ty n, ty_rep h1 r1, kit_ty h2, k _ H1 _ r e1 rep_bl⟩
/-! ### texts -/
abbrev NotInSign : R2 := fun x y H Q => ∃ (c : Nat) (z : Str), x = .str ⟨#[c]⟩ ∧ y = .str z ∧ Q (.bl (!decide (c ∈ z.cps.toList))) H
theorem rv_notInSign {c : Nat} {z : Str} (r : R (.bl (!decide (c ∈ z.cps.toList)))) : RvD K NotInSign (.str ⟨#[c]⟩) (.str z) R := fun O H x y hO h1 h2 Q k =>
  ⟨c, z, rep_str_inv h1, rep_str_inv h2, k _ H _ r (Same.refl H) rep_bl⟩
abbrev CountT : V → List V → Hp → VK → Prop := fun x xs H Q => ∃ a b, x = .str a ∧ xs = [.str b] ∧ Q (.int (Txt.count a b)) H
theorem ev_count {tb : TE} (h : EvD K te G fun d => ∃ a, d = .str a ∧ EvD K tb G fun e => ∃ b, e = .str b ∧ R (.int (Txt.count a b))) : EvD K (tM1 CountT te tb) G R := fun O σ H s Q k =>
  h O σ H s _ fun v H1 d ⟨a, ed, h1⟩ e1 r1 => by
    subst ed
    refine ⟨⟨a, rep_str_inv r1⟩, h1 O σ H1 (s.mono e1) _ fun u H2 e ⟨b, ee, r⟩ e2 r2 => ?_⟩
    subst ee
    exact ⟨a, b, rep_str_inv r1, by rw [rep_str_inv r2], k _ H2 _ r (e1.trans e2) rep_int⟩
theorem repL_strs {F : Hp} : ∀ {ns : List Str} {xs : List V}, RepL K F (ns.map Da.str) xs → xs = ns.map V.str
  | [], _, h => h.inv0
  | n :: ns, _, h => by
    obtain ⟨v, r, rfl, h1, h2⟩ := h.inv
    rw [rep_str_inv h1, repL_strs h2]
    rfl
abbrev JoinT (K : PySem.W.Frag) : V → List V → Hp → VK → Prop := fun x xs H Q => ∃ a p, ∃ ys : List Str, x = .str a ∧ xs = [.ref p] ∧ (SqL K H p (ys.map V.str) ∨ SqT K H p (ys.map V.str)) ∧
  (ys.map (·.length)).sum + ys.length * a.length ≤ 16777216 ∧ Q (.str (Txt.join a ys)) H
theorem ev_join {tb : TE} (h : EvD K te G fun d => ∃ a, d = .str a ∧ EvD K tb G fun e => ∃ ys : List Str, e = .lst (ys.map .str) ∧ (ys.map (·.length)).sum + ys.length * a.length ≤ 16777216 ∧ R (.str (Txt.join a ys))) : EvD K (tM1 (JoinT K) te tb) G R := fun O σ H s Q k =>
  h O σ H s _ fun v H1 d ⟨a, ed, h1⟩ e1 r1 => by
    subst ed
    refine ⟨⟨a, rep_str_inv r1⟩, h1 O σ H1 (s.mono e1) _ fun u H2 e ⟨ys, ee, hz, r⟩ e2 r2 => ?_⟩
    subst ee
    obtain ⟨p, xs, rfl, h2, h3⟩ := rep_lst_inv r2
    rw [repL_strs h3] at h2
    exact ⟨a, p, ys, rep_str_inv r1, rfl, .inl (SqL.of (hid_same _ _ _ _ h2)), hz, k _ H2 _ r (e1.trans e2) rep_str⟩
abbrev StrT : List V → Hp → VK → Prop := fun xs H Q => ∃ i, xs = [V.int i] ∧ i.natAbs.log2 < 1920 ∧ Q (.str (toString i)) H
theorem rc_str {i : Int} (hi : i.natAbs.log2 < 1920) (r : R (.str (toString i))) : RcD K StrT [.int i] R := fun O H xs hO rl Q k => by
  obtain ⟨v, rfl, h⟩ := rl.one_inv
  cases rep_int_inv h
  exact ⟨i, rfl, hi, k _ H _ r (Same.refl H) rep_str⟩
end
end Sc
/-! Rx3: x in o, o of an own class with a __contains__; o(..). -/
namespace Sc
open PySem L2
open PySem.W (findIn isFn InstAt looks_findIn bind_fn)
theorem own_contains {M : Model} {A : Around} {E : Value → Shared → Prop} {s : Shared} {K : PySem.W.Frag} {a C f : Addr} {ox : Obj} {od : Option Obj} {v : Value} {Q : Bool → Shared → Prop} (X : K.In s.heap) (I : InstAt s.heap a ox C od)
    (hs : findIn K (.ref C) "__contains__" = some (some (.ref f))) (hf : isFn K (.ref f) = true) (h : wpAny M A (call (.ref f) [.ref a, v]) (fun r s' => wpAny M A (truthy r) Q E s') E s) : wpAny M A (contains (.ref a) v) Q E s := by
  unfold contains
  refine wpAny_holding ?_
  show wpAny M A (specialOf (.ref a) "__contains__" >>= _) Q E s
  refine wpAny_bind (wpAny_bind (I.type.here ((looks_findIn X hs).here ?_)))
  rw [if_neg (show ¬ ((some (Value.ref f) == some Value.none) = true) from Bool.false_ne_true)]
  unfold callSpecialUnlessNone?
  refine wpAny_bind (wpAny_bind (wpAny_bind (I.type.here ((looks_findIn X hs).here ?_))))
  refine wpAny_holding (wpAny_bind ((bind_fn X _ (beq_iff_eq.mp hf)).here ?_))
  dsimp only
  rw [if_neg (show ¬ ((Value.ref f == Value.none) = true) from Bool.false_ne_true)]
  exact wpAny_bind (wpAny_mono h (fun r s' q => wpAny_pure q) fun _ _ z => z)
def tOwnIn (neg : Bool) (C : Addr) (sp : Sp) (ty td : TE) : TE := fun σ H Q => ty σ H fun y H1 => td σ H1 fun x H2 => ∃ a dx fs, x = .ref a ∧ H2 a = some (.ins C dx fs) ∧
  sp [.ref a, y] H2 (fun r H3 => ∃ k, r = .bl k ∧ Q (.bl (if neg then !k else k)) H3) E0
section
variable {X : Cx} {k : Nat} {ps : List Str} {sp : Sp} {C : Addr} {a b : Expr} {ta tb : TE}
theorem run_ownIn {pins : List (Addr × Obj)} {σ : L2.St} {H : Hp} {s : Shared} {Q : VK} {p : Addr} {y : V} {v : Value} {dx : Addr} {fs : List (Str × V)} (h : HasM X.prog X.w X.K X.mg X.base C "__contains__" k ps sp) (hr : Room k X.A)
    (I : Inv X pins σ H s) (hp : H p = some (.ins C dx fs)) (ry : RelV y v) (hq : sp [.ref p, y] H Q E0) {Q' : Bool → Shared → Prop} (hQ : ∀ r u s' H', Inv X pins σ H' s' → RelV r u → Q r H' → wpAny (model X.prog X.w) X.A (truthy u) Q' X.xe s') :
    wpAny (model X.prog X.w) X.A (contains (.ref p) v) Q' X.xe s := by
  obtain ⟨f, fd, F, hm, hc, hb⟩ := h.ex
  obtain ⟨mA, O, _⟩ := ins_get I.hok hp
  obtain ⟨od, J, _⟩ := O.look
  refine own_contains I.kIn J hm.at_ hm.fn ?_
  refine thn (run_fn (us := [.ref p, v]) (vs := [.ref p, y]) F hr hb .nil pass0 I (.cons rfl (.cons ry .nil)) hq) fun u s' ⟨r, H', I', rr, q⟩ => ?_
  exact hQ r u s' H' I' rr q
theorem pc_own (h : HasM X.prog X.w X.K X.mg X.base C "__contains__" k ps sp) (hr : Room k X.A) (ha : PE X a ta) (hb : PE X b tb) : PC X .In a b (tOwnIn false C sp ta tb) := by
  refine ⟨fun pins s σ H Q I hh => ?_⟩
  refine bin ha hb I hh fun v u s2 x y H2 I2 rx ry q => ?_
  obtain ⟨p, dx, fs, rfl, hp, q⟩ := q
  obtain rfl : u = Value.ref p := ry
  show wpAny _ _ (contains (.ref p) v >>= _) _ _ _
  refine wpAny_bind (run_ownIn h hr I2 hp rx q fun r u s' H' I' rr ⟨kk, er, q⟩ => ?_)
  subst er
  cases rr
  exact wpAny_truthy_bool (wpAny_pure ⟨.bl kk, H', I', rfl, q⟩)
theorem pc_ownN (h : HasM X.prog X.w X.K X.mg X.base C "__contains__" k ps sp) (hr : Room k X.A) (ha : PE X a ta) (hb : PE X b tb) : PC X .NotIn a b (tOwnIn true C sp ta tb) := by
  refine ⟨fun pins s σ H Q I hh => ?_⟩
  refine bin ha hb I hh fun v u s2 x y H2 I2 rx ry q => ?_
  obtain ⟨p, dx, fs, rfl, hp, q⟩ := q
  obtain rfl : u = Value.ref p := ry
  show wpAny _ _ (contains (.ref p) v >>= _) _ _ _
  refine wpAny_bind (run_ownIn h hr I2 hp rx q fun r u s' H' I' rr ⟨kk, er, q⟩ => ?_)
  subst er
  cases rr
  exact wpAny_truthy_bool (wpAny_pure ⟨.bl (!kk), H', I', rfl, q⟩)
end
section
variable {K : PySem.W.Frag} {G : List SD} {R : Da → Prop} {te ta tb : TE}
theorem ev_ownIn {neg : Bool} {C : Addr} {W : WP} (h : EvD K ta G fun d => EvD K tb G fun e => ∃ fs, e = .obj C fs ∧ W [e, d] fun z => ∃ k, z = .bl k ∧ R (.bl (if neg then !k else k))) : EvD K (tOwnIn neg C (spD K W) ta tb) G R := fun O σ H s Q k =>
  h O σ H s _ fun x H1 d h1 e1 r1 => h1 O σ H1 (s.mono e1) _ fun y H2 e ⟨fs, ee, h2⟩ e2 r2 => by
    subst ee
    have r2' := r2
    simp only [Rep] at r2
    obtain ⟨a, dx, gs, rfl, q1, q2⟩ := r2
    refine ⟨a, dx, gs, rfl, hid_same _ _ _ _ q1, O, _, _, (s.mono (e1.trans e2)).there, .cons r2' (.one (r1.mono (hid_mono e2))), h2, fun v H' z ⟨kk, ez, r⟩ e3 r3 => ?_⟩
    subst ez
    exact ⟨kk, rep_bl_inv r3, k _ H' _ r ((e1.trans e2).trans e3) rep_bl⟩
/-- case in the numbers of a forum -/
theorem ev_dIn (h : EvD K ta G fun d => EvD K tb G fun e => ∃ c kvs, d = .tup (c.map .int) ∧ e = .dct kvs ∧ R (.bl (kvs.any fun p => decide (p.1 = c)))) : EvD K (tDIn ta tb) G R := fun O σ H s Q k =>
  h O σ H s _ fun x H1 d h1 e1 r1 => h1 O σ H1 (s.mono e1) _ fun y H2 e ⟨c, kvs, ed, ee, r⟩ e2 r2 => by
    subst ed ee
    obtain ⟨b, xs, rfl, q1, q2⟩ := rep_tup_inv (r1.mono (hid_mono e2))
    simp only [Rep] at r2
    obtain ⟨a, rfl, q3⟩ := r2
    rw [repL_ints q2] at q1
    have ek : (c.map V.int) = ((c.map Sum.inl : List Key).map kV) := by
      rw [List.map_map]
      rfl
    rw [ek] at q1
    have g := DGet.t (hid_same _ _ _ _ q3) (hid_same _ _ _ _ q1)
    refine ⟨a, _, rfl, g, ?_⟩
    have ev : (valV (dctV kvs) (c.map Sum.inl)).isSome = kvs.any fun p => decide (p.1 = c) := by
      unfold valV dctV
      rw [Option.isSome_map, Bool.eq_iff_iff, List.find?_isSome, List.any_eq_true]
      have inj : ∀ {x y : List Int}, (x.map Sum.inl : List Key) = y.map Sum.inl → x = y := fun {x y} h => by
        have := congrArg (List.map fun (k : Key) => match k with | .inl i => i | .inr _ => 0) h
        simpa [List.map_map, Function.comp_def] using this
      constructor
      · rintro ⟨q, hq, hd⟩
        obtain ⟨p, hp, rfl⟩ := List.mem_map.mp hq
        exact ⟨p, hp, decide_eq_true (inj (of_decide_eq_true hd))⟩
      · rintro ⟨p, hp, hd⟩
        exact ⟨_, List.mem_map.mpr ⟨p, hp, rfl⟩, decide_eq_true (by rw [of_decide_eq_true hd])⟩
    rw [ev]
    exact k _ H2 _ r (e1.trans e2) rep_bl
end
end Sc
/-! M1: the things that the program speaks of, in plain Lean, and how they stand as data. -/
namespace Sc
open PySem L2
/-- a case as data -/
abbrev ci (a : List Int) : Da := .tup (a.map .int)
/-- x is above y -/
def ge : List Int → List Int → Bool
  | x :: a, y :: b => decide (y ≤ x) && ge a b
  | _, _ => true
theorem ge_iff : ∀ {a b : List Int}, a.length = b.length → (ge a b = true ↔ ∀ j, j < a.length → b.getD j 0 ≤ a.getD j 0)
  | [], [], _ => by simp [ge]
  | x :: a, y :: b, h => by
    have h' : a.length = b.length := by simpa using h
    rw [ge, Bool.and_eq_true, ge_iff h', decide_eq_true_eq]
    constructor
    · rintro ⟨h1, h2⟩ j hj
      cases j with
      | zero => simpa using h1
      | succ j => simpa using h2 j (by simpa using hj)
    · intro h2
      exact ⟨by simpa using h2 0 (by simp), fun j hj => by simpa using h2 (j + 1) (by simpa using hj)⟩
structure Shape where
  pro : Str
  con : Str
  tops : List Int
def lims (s : Shape) : List Int := List.replicate (s.pro.length + s.con.length) 1 ++ s.tops
structure ShOk (s : Shape) : Prop where
  az : ∀ c ∈ s.pro.cps.toList ++ s.con.cps.toList, 97 ≤ c ∧ c ≤ 122
  nd : (s.pro.cps.toList ++ s.con.cps.toList).Nodup
  top : ∀ t ∈ s.tops, 1 ≤ t ∧ t ≤ 3
  lo : 1 ≤ (lims s).sum
  hi : (lims s).sum ≤ 5
abbrev shapeD (s : Shape) : Da := .tup [.str s.pro, .str s.con, ci s.tops]
abbrev shapesD (l : List Shape) : Da := .lst (l.map shapeD)
def CaseOk (lim c : List Int) : Prop := c.length = lim.length ∧ ∀ i, i < lim.length → 0 ≤ c.getD i 0 ∧ c.getD i 0 ≤ lim.getD i 0
/-- one place more -/
def more (cs : List (List Int)) (l : Int) : List (List Int) := cs.flatMap fun c => (List.range (l + 1).toNat).map fun (k : Nat) => c ++ [(k : Int)]
def casesOf (lim : List Int) : List (List Int) := lim.foldl more [[]]
abbrev casesD (cs : List (List Int)) : Da := .lst (cs.map ci)
/-- limits as they come: not negative, few -/
structure LimOk (lim : List Int) : Prop where
  nn : ∀ l ∈ lim, 1 ≤ l
  hi : lim.sum ≤ 5
theorem sum_ge : ∀ {l : List Int}, (∀ x ∈ l, 1 ≤ x) → (l.length : Int) ≤ l.sum
  | [], _ => by simp
  | x :: l, h => by
    have h1 := h x (by simp)
    have h2 := sum_ge (l := l) fun y hy => h y (by simp [hy])
    rw [List.sum_cons, List.length_cons]
    omega
theorem LimOk.len {lim : List Int} (h : LimOk lim) : lim.length ≤ 5 := by
  have h1 := sum_ge h.nn
  have h2 := h.hi
  omega
theorem ShOk.lim {s : Shape} (h : ShOk s) : LimOk (lims s) := by
  refine ⟨fun l hl => ?_, h.hi⟩
  unfold lims at hl
  rcases List.mem_append.mp hl with z | z
  · have := (List.mem_replicate.mp z).2
    omega
  · exact (h.top l z).1
theorem ShOk.len {s : Shape} (h : ShOk s) : s.pro.length + s.con.length + s.tops.length ≤ 5 := by
  have := h.lim.len
  unfold lims at this
  simpa using this
theorem LimOk.ne {s : Shape} (h : ShOk s) : lims s ≠ [] := fun e => by
  have := h.lo
  rw [e] at this
  simp at this
/-! rows -/
abbrev Part := Option (List Int)
structure Row where
  parts : List Part
  all : Bool
  won : Bool
def partD : Part → Da
  | none => .non
  | some c => ci c
abbrev partsD (ps : List Part) : Da := .tup (ps.map partD)
def modeS (b : Bool) : Str := if b then "all" else "any"
def gI (b : Bool) : Int := if b then 1 else 0
abbrev rowD (r : Row) : Da := .tup [partsD r.parts, .str (modeS r.all), .int (gI r.won)]
abbrev rowsD (l : List Row) : Da := .lst (l.map rowD)
def isCh (r : Row) : Bool := r.all == !r.won
def inPlay (ps : List Part) : List Nat := (List.range ps.length).filter fun i => (ps.getD i none).isSome
def entries (r : Row) : List (Option Nat) := if isCh r then (inPlay r.parts).map some else [none]
def pickD : Option Nat → Da
  | none => .non
  | some n => .int (n : Nat)
abbrev picksD (p : List (Option Nat)) : Da := .tup (p.map pickD)
def fullStep (told : List (List (Option Nat))) (r : Row) : List (List (Option Nat)) := told.flatMap fun p => (entries r).map fun e => p ++ [e]
def fullPicks (rows : List Row) : List (List (Option Nat)) := rows.foldl fullStep [[]]
/-- the parts of one issue that are known -/
abbrev Kn := Nat × List Int × Bool
abbrev knD (k : Kn) : Da := .tup [.int (k.1 : Nat), ci k.2.1, .int (gI k.2.2)]
def kn1 (picks : List (Option Nat)) (i : Nat) (p : Row × Nat) : Option Kn :=
  match p.1.parts.getD i none with
  | none => none
  | some c => if !isCh p.1 || picks.getD p.2 none == some i then some (p.2, c, p.1.won) else none
def kn (rows : List Row) (picks : List (Option Nat)) (i : Nat) : List Kn := rows.zipIdx.filterMap (kn1 picks i)
def knAll (n : Nat) (rows : List Row) (picks : List (Option Nat)) : List (List Kn) := (List.range n).map (kn rows picks)
abbrev knAllD (l : List (List Kn)) : Da := .lst (l.map fun k => .lst (k.map knD))
/-- the quarrels -/
def odd1 (i : Nat) (l : List Kn) : List (Nat × Nat × Nat) := l.flatMap fun a => (l.filter fun b => a.2.2 && !b.2.2 && ge b.2.1 a.2.1).map fun b => (i, a.1, b.1)
def odds (l : List (List Kn)) : List (Nat × Nat × Nat) := l.zipIdx.flatMap fun p => odd1 p.2 p.1
abbrev oddD (t : Nat × Nat × Nat) : Da := .tup [.int (t.1 : Nat), .int (t.2.1 : Nat), .int (t.2.2 : Nat)]
def sound (n : Nat) (rows : List Row) (picks : List (Option Nat)) : Bool := (odds (knAll n rows picks)).isEmpty
def choices (rows : List Row) : List Nat := (List.range rows.length).filter fun n => (rows[n]?.map isCh).getD false
def openRows (rows : List Row) (picks : List (Option Nat)) : List Nat := (choices rows).filter fun n => (picks.getD n none).isNone
/-! books of one issue -/
def lowB (rows : List (List Int × Bool)) (c : List Int) : Int := rows.foldl (fun lo d => if ge c d.1 then max lo (gI d.2) else lo) 0
abbrev decD (d : List Int × Bool) : Da := .tup [ci d.1, .int (gI d.2)]
/-! objects -/
structure PartsOk (shs : List Shape) (ps : List Part) : Prop where
  len : ps.length = shs.length
  ok : ∀ (i : Nat) (s : Shape) (c : List Int), shs[i]? = some s → ps[i]? = some (some c) → CaseOk (lims s) c
  some_ : ∃ (i : Nat) (c : List Int), ps[i]? = some (some c)
structure ShsOk (shs : List Shape) : Prop where
  lo : 1 ≤ shs.length
  hi : shs.length ≤ 3
  ok : ∀ s ∈ shs, ShOk s
structure RowsOk (shs : List Shape) (rows : List Row) : Prop where
  len : rows.length ≤ 6
  ok : ∀ r ∈ rows, PartsOk shs r.parts
def stepsOf (lim : List Int) : List (List Int) := (List.range lim.length).flatMap fun (p : Nat) => (List.range (lim.getD p 0).toNat).map fun (l : Nat) => [(p : Int), (l : Int) + 1]
variable (C : CA)
abbrev fF (s : Shape) : List (Str × Da) := [("pro", .str s.pro), ("con", .str s.con), ("tops", ci s.tops), ("limits", ci (lims s)), ("steps", .tup ((stepsOf (lims s)).map ci)), ("_cases", casesD (casesOf (lims s))),
  ("_numbers", .dct ((casesOf (lims s)).zipIdx.map fun p => (p.1, (p.2 : Int))))]
abbrev fD (s : Shape) : Da := .obj C.cForum (fF s)
abbrev sF (shs : List Shape) : List (Str × Da) := [("forums", .tup (shs.map (fD C)))]
abbrev sD (shs : List Shape) : Da := .obj C.cSuit (sF C shs)
abbrev rF (shs : List Shape) (rows : List Row) : List (Str × Da) := [("suit", sD C shs), ("rows", .tup (rows.map rowD))]
abbrev rD (shs : List Shape) (rows : List Row) : Da := .obj C.cRulings (rF C shs rows)
abbrev jF (s : Shape) (rows : List (List Int × Bool)) : List (Str × Da) := [("rows", .tup (rows.map decD)), ("forum", fD C s), ("top", .int 1)]
abbrev jD (p : Shape × List (List Int × Bool)) : Da := .obj C.cFloorJudge (jF C p.1 p.2)
abbrev pF (l : List (Shape × List (List Int × Bool))) : List (Str × Da) := [("suit", sD C (l.map (·.1))), ("judges", .tup (l.map (jD C)))]
abbrev pD (l : List (Shape × List (List Int × Bool))) : Da := .obj C.cPanel (pF C l)
end Sc
/-! Rx4: readings in plain forms; two-clause comprehensions. -/
namespace Sc
open PySem L2
abbrev AddS : R2 := fun x y H Q => ∃ i j, x = .str i ∧ y = .str j ∧ i.length + j.length ≤ sizeLine ∧ Q (.str (i ++ j)) H
section
variable {K : PySem.W.Frag} {G : List SD} {te : TE} {tt : TT} {ta : TA} {R : List Da → Prop}
theorem ei_enL (h : EvA K ta G fun ds => ∃ l, ds = [.lst l] ∧ R (enumD l)) : EvI K (iEnumK true K ta) G R := ei_enumK (h.imp fun _ ⟨l, e, r⟩ => ⟨l, e, r⟩)
theorem ei_enT (h : EvA K ta G fun ds => ∃ l, ds = [.tup l] ∧ R (enumD l)) : EvI K (iEnumK false K ta) G R := ei_enumK (h.imp fun _ ⟨l, e, r⟩ => ⟨l, e, r⟩)
theorem ei_zTT (h : EvA K ta G fun ds => ∃ l m, ds = [.tup l, .tup m] ∧ R (zipD l m)) : EvI K (iZipK false false K ta) G R := ei_zipK (h.imp fun _ ⟨l, m, e, r⟩ => ⟨l, m, e, r⟩)
theorem ei_zTL (h : EvA K ta G fun ds => ∃ l m, ds = [.tup l, .lst m] ∧ R (zipD l m)) : EvI K (iZipK false true K ta) G R := ei_zipK (h.imp fun _ ⟨l, m, e, r⟩ => ⟨l, m, e, r⟩)
theorem ei_zLT (h : EvA K ta G fun ds => ∃ l m, ds = [.lst l, .tup m] ∧ R (zipD l m)) : EvI K (iZipK true false K ta) G R := ei_zipK (h.imp fun _ ⟨l, m, e, r⟩ => ⟨l, m, e, r⟩)
/-- a comprehension over encoded things, some of them left out -/
theorem lc_filter {α : Type} {h : Nat → α → Da} {p : Nat → α → Bool} {l : List α} {g : TG} {vs : List Nat} {E : Nat → α → Da} {ds : List Da}
    (hds : ∀ (i : Nat) d, ds[i]? = some d → ∃ a, l[i]? = some a ∧ d = E i a) (hlen : ds.length = l.length) (hl : l.length ≤ 100000)
    (st : ∀ (i : Nat) a, l[i]? = some a → GnD K g (E i a) (· ∈ vs) (wipeG G vs) fun G2 => EvT K tt G2 fun b => b = p i a ∧ (b = true → EvD K te G2 fun e => e = h i a)) (r : R ((l.zipIdx.filter fun q => p q.2 q.1).map fun q => h q.2 q.1)) :
    ∃ Iv : Nat → List Da → Prop, Iv 0 [] ∧ (∀ i d acc, ds[i]? = some d → Iv i acc → LcStep K g tt te vs G d acc (Iv (i + 1))) ∧ ∀ acc, Iv ds.length acc → R acc := by
  refine ⟨fun i acc => acc = ((l.zipIdx.take i).filter fun q => p q.2 q.1).map fun q => h q.2 q.1, by simp, fun i d acc e he => ?_, fun acc he => ?_⟩
  · obtain ⟨a, ha, rfl⟩ := hds i d e
    subst he
    have hz : l.zipIdx[i]? = some (a, i) := by rw [List.getElem?_zipIdx, ha]; simp
    intro B O0 O σ H v s r Q q
    refine st i a ha B O0 O σ H v s r Q fun σ' G' pp s' z => q σ' G' (pp.imp fun b ⟨eb, hb⟩ => ⟨fun x => (hb x).imp fun e he => ?_, fun x => ?_⟩) s' z
    · subst he
      have hp : p i a = true := by rw [← eb, x]
      show _ ∧ _ = ((l.zipIdx.take (i + 1)).filter fun q => p q.2 q.1).map fun q => h q.2 q.1
      refine ⟨?_, ?_⟩
      · rw [List.length_map]
        exact Nat.le_trans (List.length_filter_le _ _) (by rw [List.length_take, List.length_zipIdx]; omega)
      · rw [take_succ hz, List.filter_append, List.map_append]
        simp [hp]
    · have hp : p i a = false := by rw [← eb, x]
      show _ = ((l.zipIdx.take (i + 1)).filter fun q => p q.2 q.1).map fun q => h q.2 q.1
      rw [take_succ hz, List.filter_append, List.map_append]
      simp [hp]
  · rw [he, hlen, List.take_of_length_le (by rw [List.length_zipIdx]; exact Nat.le_refl _)]
    exact r
/-- only what stands at D -/
def onlyB (D : Addr) (H : Hp) : Hp := fun b => if b = D then H b else none
def onlyO (D : Addr) : Addr → Bool := fun b => decide (b = D)
theorem onlyB_same {D : Addr} {H : Hp} : Same (onlyB D H) H := fun b o q => by
  unfold onlyB at q
  split at q
  · exact q
  · cases q
theorem StV.wholeD {O : Addr → Bool} {σ : St} {H H' : Hp} {D : Addr} (s : StV K O σ H G) (e : Same H H') (hD : H D = none) (hD' : H' D ≠ none) : StB K (onlyB D H') (onlyO D) (ins1 O D) σ H' G := by
  refine ⟨s.more e hD hD', onlyB_same, fun a q => ?_, fun a q => ?_, fun i l a q q2 => ?_, fun i a C fs q => ?_⟩
  · have : a = D := of_decide_eq_true q
    rw [this]; exact ins1_self
  · by_cases z : a = D
    · exact .inl (decide_eq_true z)
    · exact .inr (if_neg z)
  · refine decide_eq_false fun z => ?_
    obtain ⟨a', xs, h1, h2, h3, _⟩ := s.slot i _ q
    rw [q2] at h1
    cases h1
    rw [z, hD] at h3
    cases h3
  · refine if_neg fun z => ?_
    obtain ⟨dx, gs, h1, h2, h3, _⟩ := s.slot i _ q
    rw [z, hD] at h3
    cases h3
theorem StB.keepD {O : Addr → Bool} {σ : St} {H H' HD : Hp} {D : Addr} (s : StB K (onlyB D HD) (onlyO D) (ins1 O D) σ H G) (hD : H D ≠ none) (hH : HD D ≠ none) (hD' : H' D ≠ none) (e : ∀ b o, b ≠ D → H b = some o → H' b = some o) : StV K (ins1 O D) σ H' G := by
  have fr : Same (hid (ins1 O D) H) (hid (ins1 O D) H') := fun b o q => by
    obtain ⟨q1, q2⟩ := hid_some q
    exact hid_of q1 (e b o (fun z => by rw [z, ins1_self] at q1; cases q1) q2)
  refine ⟨s.st.len, fun a z => ?_, fun i sd q => ?_, s.st.apart⟩
  · by_cases y : a = D
    · rw [y]; exact hD'
    · intro w
      cases q : H a with
      | none => exact s.st.there a z q
      | some o => rw [e a o y q] at w; cases w
  · have z := s.st.slot i sd q
    cases sd with
    | un => trivial
    | val d =>
      obtain ⟨v, z1, z2⟩ := z
      exact ⟨v, z1, z2.mono fr⟩
    | own l2 =>
      obtain ⟨a, ys, z1, z2, z3, z4⟩ := z
      have n := s.fine i l2 a q z1
      exact ⟨a, ys, z1, z2, e _ _ (of_decide_eq_false n) z3, z4.mono fr⟩
    | ino a C fs =>
      obtain ⟨dx, gs, z1, z2, z3, z4⟩ := z
      have n := s.fineI i a C fs q
      refine ⟨dx, gs, z1, z2, e _ _ (fun y => ?_) z3, z4.mono fr⟩
      subst y
      unfold onlyB at n
      rw [if_pos rfl] at n
      exact hH n
/-- two clauses: the outer item gives a list of items -/
theorem en_lc2 {wi wi1 : TI} {g g1 : TG} {tt1 : TT} {vs vs1 : List Nat} (h : EvI K wi G fun ds => ∃ Iv : Nat → List Da → Prop, Iv 0 [] ∧
      (∀ i d acc, ds[i]? = some d → Iv i acc → GnD K g d (· ∈ vs) (wipeG G vs) fun G2 => EvT K tt G2 fun b => (b = false → Iv (i + 1) acc) ∧
        (b = true → EvI K wi1 G2 fun ds1 => ∃ Iw : Nat → List Da → Prop, Iw 0 acc ∧ (∀ j e acc, ds1[j]? = some e → Iw j acc → LcStep K g1 tt1 te vs1 G2 e acc (Iw (j + 1))) ∧ ∀ acc, Iw ds1.length acc → Iv (i + 1) acc)) ∧
      ∀ acc, Iv ds.length acc → R acc) : EvN K (tLc2 wi g tt wi1 g1 tt1 te vs vs1) G R := fun O σ H s Q k =>
  h O σ H s _ fun J H1 ds ⟨Iv, i0, step, fin⟩ e1 it => fun D hD => by
    have s1 := s.mono e1
    have fr : ∀ a, ins1 O D a = true → O a = true ∨ H1 a = none := fun a z => (ins1_inv z).imp id fun y => by rw [y]; exact hD
    refine ⟨fun i m H => m = ds.length - i ∧ i ≤ ds.length ∧ Same H1 H ∧ ∃ acc xs, Iv i acc ∧ H D = some (.lst xs) ∧ RepL K (hid (ins1 O D) H) acc xs, ⟨_, rfl, Nat.zero_le _, same_new hD, [], [], i0, upd_same, .nil⟩, ?_⟩
    rintro i m H2 ⟨rfl, hi, e2, acc, xs, inv, hx, hr⟩
    have s2 : StV K (ins1 O D) σ H2 G := s1.more e2 hD (by rw [hx]; intro z; cases z)
    obtain ⟨t1, t2⟩ := it (ins1 O D) H2 (hid_le ((hid_same _ _).trans e2) fr) s2.there
    by_cases hlt : i < ds.length
    · obtain ⟨u1, u2⟩ := t2 i hlt
      refine .inr ⟨u1, fun H' => Same H1 H' ∧ ∃ acc xs, Iv (i + 1) acc ∧ H' D = some (.lst xs) ∧ RepL K (hid (ins1 O D) H') acc xs, fun H' ⟨q1, q2⟩ => ⟨ds.length - (i + 1), by omega, rfl, hlt, q1, q2⟩, fun x H3 y => ?_⟩
      obtain ⟨e3, d, q1, q2⟩ := u2 x H3 y
      have hx3 := e3 _ _ hx
      have nD : ∀ {H : Hp} {o : HO}, H D = some o → H D ≠ none := fun h z => by rw [h] at z; cases z
      have s3 := (s1.wiped vs).wholeD (e2.trans e3) hD (nD hx3)
      refine step i d acc q1 inv _ _ (ins1 O D) _ H3 x s3 q2 _ fun σ3 G3 hb s4 hw => ?_
      refine ⟨?_, hb (ins1 O D) σ3 H3 s4.st _ fun b H4 ⟨v2, v1⟩ e4 => ?_⟩
      · have z := hw vs fun i hi => hi
        rw [z]
        clear z hw hb s4
        apply List.ext_getElem?
        intro j
        rw [wipe_get, wipe_get]
        split
        · cases σ[j]? <;> rfl
        · rfl
      · have e34 := e3.trans e4
        cases b with
        | false =>
          rw [if_neg Bool.false_ne_true]
          exact ⟨e2.trans e34, acc, xs, v2 rfl, e34 _ _ hx, hr.mono (hid_mono e34)⟩
        | true =>
          rw [if_pos rfl]
          have s5 := s4.mono e4
          refine v1 rfl (ins1 O D) σ3 H4 s5.st _ fun J1 H5 ds1 ⟨Iw, j0, stp, fn⟩ e5 it1 => ?_
          have e25 := (e2.trans e34).trans e5
          have hx5 := (e34.trans e5) _ _ hx
          have s5' := s5.mono e5
          have same1 : ∀ {H : Hp}, (∀ b o, b ≠ D → H5 b = some o → H b = some o) → Same H1 H := fun {H} hk b o q => hk b o (ne_of_none q hD) (e25 b o q)
          refine ⟨fun j m H => m = ds1.length - j ∧ j ≤ ds1.length ∧ (∀ b o, b ≠ D → H5 b = some o → H b = some o) ∧ ∃ acc xs, Iw j acc ∧ H D = some (.lst xs) ∧ RepL K (hid (ins1 O D) H) acc xs,
            ⟨_, rfl, Nat.zero_le _, fun _ _ _ z => z, acc, xs, j0, hx5, hr.mono (hid_mono (e34.trans e5))⟩, ?_⟩
          rintro j m H6 ⟨rfl, hj, e6, acc1, xs1, inv1, hx6, hr6⟩
          have fr5 : Same (hid (ins1 O D) H5) (hid (ins1 O D) H6) := fun b o q => by
            obtain ⟨q1, q2⟩ := hid_some q
            exact hid_of q1 (e6 b o (fun z => by rw [z, ins1_self] at q1; cases q1) q2)
          have s6 : StV K (ins1 O D) σ3 H6 G3 := s5'.keepD (nD hx5) (nD hx3) (nD hx6) e6
          obtain ⟨t3, t4⟩ := it1 (ins1 O D) H6 fr5 s6.there
          by_cases hltj : j < ds1.length
          · obtain ⟨u3, u4⟩ := t4 j hltj
            refine .inr ⟨u3, fun H' => (∀ b o, b ≠ D → H5 b = some o → H' b = some o) ∧ ∃ acc xs, Iw (j + 1) acc ∧ H' D = some (.lst xs) ∧ RepL K (hid (ins1 O D) H') acc xs, fun H' ⟨q1, q2⟩ => ⟨ds1.length - (j + 1), by omega, rfl, hltj, q1, q2⟩, fun y H7 yy => ?_⟩
            obtain ⟨e7, d1, q3, q4⟩ := u4 y H7 yy
            have s7 := (s6.mono e7).wiped vs1
            refine stp j d1 acc1 q3 inv1 _ _ (ins1 O D) _ H7 y s7.whole q4 _ fun σ8 G8 hb8 s8 hw8 => ?_
            refine ⟨?_, hb8 (ins1 O D) σ8 H7 s8.st _ fun b H8 ⟨w1, w2⟩ e8 => ?_⟩
            · have z := hw8 vs1 fun i hi => hi
              rw [z]
              clear z hw8 hb8 s8
              apply List.ext_getElem?
              intro j
              rw [wipe_get, wipe_get]
              split
              · cases σ3[j]? <;> rfl
              · rfl
            · cases b with
              | true =>
                rw [if_pos rfl]
                refine w1 rfl (ins1 O D) σ8 H8 (s8.st.mono e8) _ fun v H9 e ⟨hl, p⟩ e9 rv => ?_
                have e79 := (e7.trans e8).trans e9
                have hx9 := e79 _ _ hx6
                refine ⟨xs1, hx9, Nat.lt_of_le_of_lt (Nat.le_trans (Nat.le_of_eq hr6.length) hl) (by decide), fun b o n q => ?_, acc1 ++ [e], xs1 ++ [v], p, upd_same, ?_⟩
                · rw [upd_ne n]
                  exact e79 b o (e6 b o n q)
                · have eF : hid (ins1 O D) (upd H9 D (.lst (xs1 ++ [v]))) = hid (ins1 O D) H9 := by
                    funext b
                    unfold hid
                    cases q : ins1 O D b with
                    | true => rfl
                    | false =>
                      rw [if_neg Bool.false_ne_true, if_neg Bool.false_ne_true, upd_ne]
                      intro z
                      rw [z, ins1_self] at q
                      cases q
                  rw [eF]
                  exact (hr6.mono (hid_mono e79)).append (.one rv)
              | false =>
                rw [if_neg Bool.false_ne_true]
                have e78 := e7.trans e8
                exact ⟨fun b o n q => e78 b o (e6 b o n q), acc1, xs1, w2 rfl, e78 _ _ hx6, hr6.mono (hid_mono e78)⟩
          · have ej : j = ds1.length := by omega
            subst ej
            exact .inl ⟨t3, same1 e6, acc1, xs1, fn acc1 inv1, hx6, hr6⟩
    · have ei : i = ds.length := by omega
      subst ei
      exact .inl ⟨t1, k D H2 xs acc (fin acc inv) (e1.free hD) (e1.trans e2) hx hr⟩
end
end Sc
/-! Rx5: rules in the form that the walk takes. -/
namespace Sc
open PySem L2
section
variable {K : PySem.W.Frag} {G : List SD} {te ta tb ti : TE} {tt tu : TT} {t u : TS} {nx bk ct : List SD → Prop} {rt : Da → Prop} {R : Da → Prop} {RL : List Da → Prop} {g : TG}
theorem ho_app {i : Nat} {l : List Da} (h : G[i]? = some (.own l)) (q : EvD K te G fun d => l.length ≤ 100000 ∧ nx (G.set i (.own (l ++ [d])))) :
    Ho K (tDrop (tBM K "list" rAppend (tVar i) (tCons te tNil))) G nx rt bk ct := fun B O0 O σ H E s c => by
  by_cases hl : l.length ≤ 100000
  · exact ho_append i h hl (q.imp fun _ z => z.2) B O0 O σ H E s c
  · obtain ⟨a, xs, h1, h2, h3, h4⟩ := s.st.slot i _ h
    refine ⟨.ref a, h1, .inl ⟨rfl, xs, SqL.of h3⟩, q O σ H s.st _ fun v H1 d r e rv => absurd r.1 hl⟩
theorem ev_lst {ta : TA} (h : EvA K ta G fun ds => ds.length ≤ 100000 ∧ R (.lst ds)) : EvD K (tLst ta) G R := ev_new (en_lst h)
theorem ev_lc {wi : TI} {vs : List Nat} (h : EvI K wi G fun ds => ∃ Iv : Nat → List Da → Prop, Iv 0 [] ∧
      (∀ i d acc, ds[i]? = some d → Iv i acc → LcStep K g tt te vs G d acc (Iv (i + 1))) ∧ ∀ acc, Iv ds.length acc → R (.lst acc)) : EvD K (tLc wi g tt te vs) G R := ev_new (en_lc h)
theorem RvD.new {r : R2} {d e : Da} (h : RvN K r d e fun ds => R (.lst ds)) : RvD K r d e R := fun O H x y hO h1 h2 Q k => h O H x y hO h1 h2 Q fun p H' xs z rz hp e hx hr => by
  have hn : O p = false := by
    cases q : O p with
    | false => rfl
    | true => exact absurd hp (hO p q)
  refine k _ H' _ rz e ?_
  simp only [Rep]
  exact ⟨p, xs, rfl, hid_of hn hx, hr.mono (hid_sub fun a => ins1_of)⟩
theorem RcD.new {r : List V → Hp → VK → Prop} {ds : List Da} (h : RcN K r ds fun ds => R (.lst ds)) : RcD K r ds R := fun O H x hO h1 Q k => h O H x hO h1 Q fun p H' xs z rz hp e hx hr => by
  have hn : O p = false := by
    cases q : O p with
    | false => rfl
    | true => exact absurd hp (hO p q)
  refine k _ H' _ rz e ?_
  simp only [Rep]
  exact ⟨p, xs, rfl, hid_of hn hx, hr.mono (hid_sub fun a => ins1_of)⟩
theorem rv_catL {l m : List Da} (r : l.length + m.length ≤ 100000 ∧ R (.lst (l ++ m))) : RvD K rCat (.lst l) (.lst m) R := RvD.new (rn_cat r.1 r.2)
theorem rn_catL {l m : List Da} (r : l.length + m.length ≤ 100000 ∧ RL (l ++ m)) : RvN K rCat (.lst l) (.lst m) RL := rn_cat r.1 r.2
theorem rv_catT {l m : List Da} (r : l.length + m.length ≤ 100000 ∧ R (.tup (l ++ m))) : RvD K (rCatA K) (.tup l) (.tup m) R := rv_catA r.1 r.2
theorem rv_repL {l : List Da} {n : Nat} (r : l.length * n ≤ 100000 ∧ n ≤ 100000 ∧ R (.lst (List.replicate n l).flatten)) : RvD K rRep (.lst l) (.int n) R := RvD.new (rn_rep r.1 r.2.1 r.2.2)
theorem rc_listL {l : List Da} (r : R (.lst l)) : RcD K (ListT K) [.lst l] R := RcD.new (rn_list (.inl rfl) r)
theorem rc_listT {l : List Da} (r : R (.lst l)) : RcD K (ListT K) [.tup l] R := RcD.new (rn_list (.inr rfl) r)
theorem ev_slL {tl th : TO} (h : EvD K te G fun d => EvO K tl G fun lo => EvO K th G fun hi => ∃ l, d = .lst l ∧ R (.lst (cutD l lo hi))) : EvD K (tSl (rSlL K) te tl th) G R := ev_new (en_slL h)
theorem ev_revL (h : EvD K te G fun d => ∃ l, d = .lst l ∧ R (.lst l.reverse)) : EvD K (tRevL K te) G R := ev_new (en_revL h)
theorem rv_addT {i j : Str} (r : i.length + j.length ≤ 100000 ∧ R (.str (i ++ j))) : RvD K AddS (.str i) (.str j) R := rv_addS r.1 r.2
theorem rv_neS {i j : Str} (r : R (.bl (!(i == j)))) : RvD K rNe (.str i) (.str j) R := rv_ne rfl rfl rfl (by rw [dec_str]; exact r)
theorem rv_mulC {i j : Int} (r : CMul i j ∧ R (.int (i * j))) : RvD K (rI CMul fun i j => .int (i * j)) (.int i) (.int j) R := rv_mul r.1 r.2
theorem rv_modC {i j : Int} (r : 0 < j ∧ R (.int (i % j))) : RvD K (rI (fun _ j => 0 < j) fun i j => .int (i % j)) (.int i) (.int j) R := rv_mod r.1 r.2
theorem rv_divC {i j : Int} (r : CDiv i j ∧ R (.int (i / j))) : RvD K (rI CDiv fun i j => .int (i / j)) (.int i) (.int j) R := rv_div r.1 r.2
theorem rv_powC {i j : Int} (r : CPow i j ∧ R (.int (i ^ j.toNat))) : RvD K (rI CPow fun i j => .int (i ^ j.toNat)) (.int i) (.int j) R := rv_I (fun _ => rep_int) r.1 r.2
theorem rc_tupL {l : List Da} (r : R (.tup l)) : RcD K (TupT K) [.lst l] R := rc_tup (.inl rfl) r
theorem rc_tupT {l : List Da} (r : R (.tup l)) : RcD K (TupT K) [.tup l] R := rc_tup (.inr rfl) r
theorem rc_lenL {l : List Da} (r : R (.int l.length)) : RcD K (LenT K) [.lst l] R := rc_len (.inl rfl) r
theorem rc_lenT {l : List Da} (r : R (.int l.length)) : RcD K (LenT K) [.tup l] R := rc_len (.inr rfl) r
theorem rc_lenC {z : Str} (r : z.length ≤ 100000 ∧ R (.int z.length)) : RcD K LenS [.str z] R := rc_lenS r.1 r.2
theorem rv_inC {neg : Bool} {d e : Da} {l : List Da} {v : V} {vs : List V} (he : e = .lst l ∨ e = .tup l) (h1 : flatD d = some v) (h2 : flatL l = some vs) (r : R (.bl (if neg then !inV v vs else inV v vs))) : RvD K (rIn K neg) d e R := rv_in he h1 h2 r
theorem and_mid {A B : Prop} (M : List SD → Prop) (h : (A → Ho K t G M rt bk ct) ∧ (B → Ho K u G M rt bk ct)) (q : ∀ G', M G' → nx G') : (A → Ho K t G nx rt bk ct) ∧ (B → Ho K u G nx rt bk ct) :=
  ⟨fun a => HoD.imp (P := ⟨M, rt, bk, ct⟩) (P' := ⟨nx, rt, bk, ct⟩) (h.1 a) q (fun _ z => z) (fun _ z => z) fun _ z => z, fun a => HoD.imp (P := ⟨M, rt, bk, ct⟩) (P' := ⟨nx, rt, bk, ct⟩) (h.2 a) q (fun _ z => z) (fun _ z => z) fun _ z => z⟩
theorem gMulL {i j : Int} {P : Prop} (h1 : -18446744073709551616 < i ∧ i < 18446744073709551616) (h : P) : CMul i j ∧ P := ⟨.inl (by simpa using h1), h⟩
theorem gMulR {i j : Int} {P : Prop} (h1 : -18446744073709551616 < j ∧ j < 18446744073709551616) (h : P) : CMul i j ∧ P := ⟨.inr (by simpa using h1), h⟩
theorem gDiv {i j : Int} {P : Prop} (h1 : 0 < j ∧ j < 1073741824) (h : P) : CDiv i j ∧ P := ⟨h1, h⟩
theorem gMod {j : Int} {P : Prop} (h1 : 0 < j) (h : P) : 0 < j ∧ P := ⟨h1, h⟩
theorem gPow {i j : Int} {P : Prop} (h1 : 0 ≤ j ∧ j ≤ 1000000 ∧ i.natAbs < 2 ^ 64) (h : P) : CPow i j ∧ P := ⟨h1, h⟩
theorem tt_and {X Y : Prop} (h : X) : (true = true → X) ∧ (true = false → Y) := ⟨fun _ => h, fun z => (nomatch z)⟩
theorem ff_and {X Y : Prop} (h : Y) : (false = true → X) ∧ (false = false → Y) := ⟨fun z => (nomatch z), fun _ => h⟩
theorem and_t {b : Bool} {X Y : Prop} (h : b = true) (x : X) : (b = true → X) ∧ (b = false → Y) := ⟨fun _ => x, fun z => absurd (h.symm.trans z) (by decide)⟩
theorem and_f {b : Bool} {X Y : Prop} (h : b = false) (y : Y) : (b = true → X) ∧ (b = false → Y) := ⟨fun z => absurd (h.symm.trans z) (by decide), fun _ => y⟩
theorem lit0 {P : Prop} (h : P) : ([] : List Da).length ≤ 100000 ∧ P := ⟨by decide, h⟩
theorem lit1 {P : Prop} {a : Da} (h : P) : [a].length ≤ 100000 ∧ P := ⟨by simp, h⟩
theorem lit2 {P : Prop} {a b : Da} (h : P) : [a, b].length ≤ 100000 ∧ P := ⟨by simp, h⟩
theorem lit3 {P : Prop} {a b c : Da} (h : P) : [a, b, c].length ≤ 100000 ∧ P := ⟨by simp, h⟩
theorem lit4 {P : Prop} {a b c d : Da} (h : P) : [a, b, c, d].length ≤ 100000 ∧ P := ⟨by simp, h⟩
theorem cut_to {l : List Da} {n : Nat} : cutD l none (some (n : Int)) = l.take n := by
  unfold cutD
  rw [HT.sIx_none, HT.sIx_nat, List.drop_zero, Nat.sub_zero]
  by_cases h : n ≤ l.length
  · rw [Nat.min_eq_left h]
  · rw [Nat.min_eq_right (by omega), List.take_length, List.take_of_length_le (by omega)]
theorem cut_from {l : List Da} {n : Nat} : cutD l (some ((n : Int) + 1)) none = l.drop (n + 1) := by
  unfold cutD
  rw [HT.sIx_none, show ((n : Int) + 1) = ((n + 1 : Nat) : Int) from rfl, HT.sIx_nat]
  by_cases h : n + 1 ≤ l.length
  · rw [Nat.min_eq_left h, List.take_of_length_le (by rw [List.length_drop]; exact Nat.le_refl _)]
  · rw [Nat.min_eq_right (by omega), List.drop_length, List.drop_of_length_le (by omega), List.take_nil]
theorem cut_span {l : List Da} {n m : Nat} (h : n ≤ l.length) : cutD l (some (n : Int)) (some (m : Int)) = (l.take m).drop n := by
  unfold cutD
  rw [HT.sIx_nat, HT.sIx_nat, List.drop_take, Nat.min_eq_left h]
  by_cases h2 : m ≤ l.length
  · rw [Nat.min_eq_left h2]
  · rw [Nat.min_eq_right (by omega), List.take_of_length_le (by rw [List.length_drop]; exact Nat.le_refl _), List.take_of_length_le (by rw [List.length_drop]; omega)]
theorem getD_mem {α : Type} {l : List α} {i : Nat} {d : α} (h : i < l.length) : l.getD i d ∈ l := by
  rw [List.getD_eq_getElem?_getD, List.getElem?_eq_getElem h]
  exact List.getElem_mem h
theorem getD_get {α : Type} {l : List α} {i : Nat} {a d : α} (h : l[i]? = some a) : l.getD i d = a := by
  rw [List.getD_eq_getElem?_getD, h]
  rfl
/-- over a range -/
theorem lc_range {h : Nat → Da} {n : Nat} {vs : List Nat} (hn : n ≤ 100000)
    (st : ∀ i, i < n → GnD K g (.int (i : Nat)) (· ∈ vs) (wipeG G vs) fun G2 => EvD K te G2 fun e => e = h i) (r : RL ((List.range n).map h)) :
    ∃ Iv : Nat → List Da → Prop, Iv 0 [] ∧ (∀ i d acc, (rangeD 0 n)[i]? = some d → Iv i acc → LcStep K g tYes te vs G d acc (Iv (i + 1))) ∧ ∀ acc, Iv (rangeD 0 n).length acc → RL acc := by
  refine lc_map (l := List.range n) (f := fun (i : Nat) => .int (i : Nat)) (E := fun _ i => .int (i : Nat)) (h := fun i _ => h i) (fun i d e => ?_) (by simp [rangeD_length]) (by simpa using hn) (fun i a ha => ?_) ?_
  · obtain ⟨hi, rfl⟩ := rangeD_inv e
    exact ⟨i, List.getElem?_range hi, by rw [Int.zero_add]⟩
  · have hi : i < n := by simpa using get_lt ha
    rw [List.getElem?_range hi] at ha
    cases ha
    exact st i hi
  · have e : ((List.range n).mapIdx fun i _ => h i) = (List.range n).map h := by
      apply List.ext_getElem?
      intro j
      rw [List.getElem?_mapIdx, List.getElem?_map]
      by_cases q : j < n
      · rw [List.getElem?_range q]
        rfl
      · rw [List.getElem?_eq_none (by simp; omega)]
        rfl
    rw [e]
    exact r
theorem lc_rangeF {h : Nat → Da} {p : Nat → Bool} {n : Nat} {vs : List Nat} (hn : n ≤ 100000)
    (st : ∀ i, i < n → GnD K g (.int (i : Nat)) (· ∈ vs) (wipeG G vs) fun G2 => EvT K tt G2 fun b => b = p i ∧ (b = true → EvD K te G2 fun e => e = h i)) (r : RL (((List.range n).filter p).map h)) :
    ∃ Iv : Nat → List Da → Prop, Iv 0 [] ∧ (∀ i d acc, (rangeD 0 n)[i]? = some d → Iv i acc → LcStep K g tt te vs G d acc (Iv (i + 1))) ∧ ∀ acc, Iv (rangeD 0 n).length acc → RL acc := by
  refine lc_filter (l := List.range n) (E := fun _ i => .int (i : Nat)) (h := fun i _ => h i) (p := fun i _ => p i) (fun i d e => ?_) (by simp [rangeD_length]) (by simpa using hn) (fun i a ha => ?_) ?_
  · obtain ⟨hi, rfl⟩ := rangeD_inv e
    exact ⟨i, List.getElem?_range hi, by rw [Int.zero_add]⟩
  · have hi : i < n := by simpa using get_lt ha
    rw [List.getElem?_range hi] at ha
    cases ha
    exact st i hi
  · have e : (List.range n).zipIdx = (List.range n).map fun i => (i, i) := by
      apply List.ext_getElem?
      intro j
      rw [List.getElem?_zipIdx, List.getElem?_map]
      by_cases q : j < n
      · rw [List.getElem?_range q]
        simp
      · rw [List.getElem?_eq_none (by simp; omega)]
        rfl
    rw [e, List.filter_map, List.map_map]
    exact r
/-- over encoded things -/
theorem lc_list {α : Type} {f h : α → Da} {l : List α} {vs : List Nat} (hn : l.length ≤ 100000)
    (st : ∀ (i : Nat) a, l[i]? = some a → GnD K g (f a) (· ∈ vs) (wipeG G vs) fun G2 => EvD K te G2 fun e => e = h a) (r : RL (l.map h)) :
    ∃ Iv : Nat → List Da → Prop, Iv 0 [] ∧ (∀ i d acc, (l.map f)[i]? = some d → Iv i acc → LcStep K g tYes te vs G d acc (Iv (i + 1))) ∧ ∀ acc, Iv (l.map f).length acc → RL acc := by
  refine lc_map (l := l) (f := f) (E := fun _ a => f a) (h := fun _ a => h a) (fun i d e => map_inv e) (by simp) hn st ?_
  rw [List.mapIdx_eq_zipIdx_map]
  have e : (l.zipIdx.map fun x => h x.1) = l.map h := by
    rw [show (fun x : α × Nat => h x.1) = h ∘ Prod.fst from rfl, ← List.map_map, List.zipIdx_map_fst]
  rw [e]
  exact r
theorem lc_listF {α : Type} {f h : α → Da} {p : α → Bool} {l : List α} {vs : List Nat} (hn : l.length ≤ 100000)
    (st : ∀ (i : Nat) a, l[i]? = some a → GnD K g (f a) (· ∈ vs) (wipeG G vs) fun G2 => EvT K tt G2 fun b => b = p a ∧ (b = true → EvD K te G2 fun e => e = h a)) (r : RL ((l.filter p).map h)) :
    ∃ Iv : Nat → List Da → Prop, Iv 0 [] ∧ (∀ i d acc, (l.map f)[i]? = some d → Iv i acc → LcStep K g tt te vs G d acc (Iv (i + 1))) ∧ ∀ acc, Iv (l.map f).length acc → RL acc := by
  refine lc_filter (l := l) (E := fun _ a => f a) (h := fun _ a => h a) (p := fun _ a => p a) (fun i d e => map_inv e) (by simp) hn st ?_
  have e : ((l.zipIdx.filter fun q => p q.1).map fun q => h q.1) = (l.filter p).map h := by
    rw [show (fun x : α × Nat => h x.1) = h ∘ Prod.fst from rfl, ← List.map_map]
    congr 1
    rw [show (fun x : α × Nat => p x.1) = p ∘ Prod.fst from rfl, ← List.filter_map, List.zipIdx_map_fst]
  rw [e]
  exact r
theorem ru_neg {i : Int} (r : R (.int (-i))) : RuD K (rU fun i => .int (-i)) (.int i) R := fun O H x hO h1 Q k => by
  simp only [Rep] at h1
  exact ⟨i, h1, k _ H _ r (Same.refl H) rep_int⟩
theorem ev_slS {tl th : TO} (h : EvD K te G fun d => EvO K tl G fun lo => EvO K th G fun hi => ∃ z, d = .str z ∧ z.length ≤ 100000 ∧ R (.str (cutS z lo hi))) : EvD K (tSl rSlS te tl th) G R := fun O σ H s Q k =>
  h O σ H s _ fun v H1 d h1 e1 r1 => h1 O σ H1 (s.mono e1) _ fun lo H2 h2 e2 => h2 O σ H2 (s.mono (e1.trans e2)) _ fun hi H3 ⟨z, ez, hz, r⟩ e3 => by
    subst ez
    simp only [Rep] at r1
    exact ⟨z, r1, Nat.le_trans hz (by decide), k _ H3 _ r ((e1.trans e2).trans e3) rep_str⟩
theorem ixN_last {n : Nat} : ixN (n + 1) (-1) = some n := by
  unfold ixN
  rw [if_neg (by omega), if_pos (by omega)]
  congr 1
  omega
theorem atI_last {α : Type} {l : List α} {x : α} : atI (l ++ [x]) (-1) = some x := by
  unfold atI
  rw [List.length_append, List.length_singleton, ixN_last]
  simp
theorem rv_ixSC {z : Str} {i : Int} {c : Nat} (e : atI z.cps.toList i = some c) (r : z.length ≤ 100000 ∧ R (.str ⟨#[c]⟩)) : RvD K rIxS (.str z) (.int i) R := rv_ixS r.1 e r.2
theorem cutS_to {z : Str} {n : Nat} : (cutS z none (some (n : Int))).cps.toList = z.cps.toList.take n := by
  unfold cutS
  simp only []
  rw [HT.sIx_none, HT.sIx_nat, List.drop_zero, Nat.sub_zero]
  by_cases h : n ≤ z.length
  · rw [Nat.min_eq_left h]
  · rw [Nat.min_eq_right (by omega), List.take_of_length_le (by show z.cps.toList.length ≤ z.cps.size; simp), List.take_of_length_le (by have : z.length = z.cps.size := rfl; simp; omega)]
theorem cutS_from {z : Str} {n : Nat} : (cutS z (some ((n : Int) + 1)) none).cps.toList = z.cps.toList.drop (n + 1) := by
  unfold cutS
  simp only []
  have hz : z.length = z.cps.size := rfl
  rw [HT.sIx_none, show ((n : Int) + 1) = ((n + 1 : Nat) : Int) from rfl, HT.sIx_nat]
  by_cases h : n + 1 ≤ z.length
  · rw [Nat.min_eq_left h, List.take_of_length_le (by rw [List.length_drop]; simp; omega)]
  · rw [Nat.min_eq_right (by omega), List.drop_of_length_le (by simp; omega), List.drop_of_length_le (by simp; omega), List.take_nil]
/-- each turn's item: any that is good -/
theorem lc_rangeP {α : Type} {f : α → Da} {ok : Nat → α → Prop} {n : Nat} {vs : List Nat} (hn : n ≤ 100000)
    (st : ∀ i, i < n → GnD K g (.int (i : Nat)) (· ∈ vs) (wipeG G vs) fun G2 => EvD K te G2 fun e => ∃ a, e = f a ∧ ok i a) (r : ∀ l : List α, l.length = n → (∀ i a, l[i]? = some a → ok i a) → RL (l.map f)) :
    ∃ Iv : Nat → List Da → Prop, Iv 0 [] ∧ (∀ i d acc, (rangeD 0 n)[i]? = some d → Iv i acc → LcStep K g tYes te vs G d acc (Iv (i + 1))) ∧ ∀ acc, Iv (rangeD 0 n).length acc → RL acc := by
  refine ⟨fun i acc => ∃ l : List α, acc = l.map f ∧ l.length = i ∧ ∀ i a, l[i]? = some a → ok i a, ⟨[], rfl, rfl, fun i a h => (nomatch h)⟩, fun i d acc e he => ?_, fun acc he => ?_⟩
  · obtain ⟨hi, rfl⟩ := rangeD_inv e
    obtain ⟨l, rfl, hl, hok⟩ := he
    rw [Int.zero_add]
    intro B O0 O σ H v s r Q q
    refine st i hi B O0 O σ H v s r Q fun σ' G' p s' z => q σ' G' (et_yes ⟨fun _ => p.imp fun e he => ?_, fun x => nomatch x⟩) s' z
    obtain ⟨a, rfl, ha⟩ := he
    refine ⟨by rw [List.length_map]; omega, l ++ [a], by simp, by simp [hl], fun j b hb => ?_⟩
    by_cases hj : j < l.length
    · rw [List.getElem?_append_left hj] at hb
      exact hok j b hb
    · rw [List.getElem?_append_right (by omega)] at hb
      have : j - l.length = 0 := by
        by_cases z : j - l.length = 0
        · exact z
        · rw [List.getElem?_eq_none (by simp; omega)] at hb
          cases hb
      rw [this] at hb
      cases hb
      rw [show j = i by omega]
      exact ha
  · obtain ⟨l, rfl, hl, hok⟩ := he
    rw [rangeD_length] at hl
    exact r l hl hok
theorem ho_if2 {Pb : Bool → Prop} (h1 : EvT K tt G Pb) (h2 : Pb true → Ho K t G nx rt bk ct) (h3 : Pb false → Ho K u G nx rt bk ct) : Ho K (tIfS tt t u) G nx rt bk ct :=
  ho_if (h1.imp fun b p => ⟨fun e => h2 (e ▸ p), fun e => h3 (e ▸ p)⟩)
theorem ho_sit {i : Nat} {l : List Da} (h : G[i]? = some (.own l)) (q : EvD K te G fun d => EvD K ti G fun z => ∃ k j, z = .int k ∧ ixN l.length k = some j ∧ nx (G.set i (.own (l.set j d)))) :
    Ho K (tAsg te (gSub (tVar i) ti rSetL)) G nx rt bk ct := ho_setitem i h q
/-- fields of the instance that is being made -/
theorem ev_fldI {f : Str} {i : Nat} {p C : Addr} {fs : List (Str × Da)} {x : Da} (h : G[i]? = some (.ino p C fs)) (hc : Cls K C) (hn : NoAttr K C f) (hl : fs.lookup f = some x) (r : R x) : EvD K (tFld K (tVar i) f) G R := fun O σ H s Q k => by
  obtain ⟨dx, gs, h1, h2, h3, h4⟩ := s.slot i _ h
  obtain ⟨u, l2, r2⟩ := h4.look hl
  exact ⟨.ref p, h1, p, C, dx, gs, u, rfl, h3, hc, hn, l2, k _ H _ r (Same.refl H) r2⟩
theorem ev_conI {f : Str} {i : Nat} {p C : Addr} {fs : List (Str × Da)} {v : V} {u : Value} {x : Da} (h : G[i]? = some (.ino p C fs)) (hc : Cls K C) (hn : Con K C f v u) (hx : flatD x = some v) (hl : fs.lookup f = none) (r : R x) : EvD K (tCon K (tVar i) f) G R := fun O σ H s Q k => by
  obtain ⟨dx, gs, h1, h2, h3, h4⟩ := s.slot i _ h
  refine ⟨.ref p, h1, p, C, dx, gs, v, u, rfl, h3, hc, hn, h4.look0 hl, k _ H x r (Same.refl H) ?_⟩
  cases x <;> simp only [flatD, Option.some.injEq, reduceCtorEq] at hx <;> simp only [Rep] <;> exact hx.symm
theorem gLook {f : Str} {fs : List (Str × Da)} {P : Prop} (h : fs.lookup f = none) (p : P) : fs.lookup f = none ∧ P := ⟨h, p⟩
theorem gFld {d x : Da} {C : Addr} {fs : List (Str × Da)} {f : Str} {P : Da → Prop} (e : d = .obj C fs) (h1 : Cls K C) (h2 : NoAttr K C f) (h3 : fs.lookup f = some x) (h : P x) : ∃ C fs x, d = .obj C fs ∧ Cls K C ∧ NoAttr K C f ∧ fs.lookup f = some x ∧ P x := ⟨C, fs, x, e, h1, h2, h3, h⟩
/-- slices of an own list -/
theorem ho_eqG {G' : List SD} (e : G = G') (h : Ho K t G' nx rt bk ct) : Ho K t G nx rt bk ct := e ▸ h
theorem EvD.eqv {te' : TE} (e : te = te') (h : EvD K te' G R) : EvD K te G R := e ▸ h
end
end Sc
/-! M2: what each def promises. -/
namespace Sc
open PySem L2
/-! plain things -/
abbrev dR (dr : List Int) : Da := .lst (dr.map .int)
abbrev wonsD (l : List (List (List Int))) : Da := .lst (l.map casesD)
structure WonsOk (shs : List Shape) (wons : List (List (List Int))) : Prop where
  len : wons.length = shs.length
  ok : ∀ (i : Nat) (s : Shape) (ws : List (List Int)), shs[i]? = some s → wons[i]? = some ws → ws.length ≤ 3 ∧ ∀ w ∈ ws, CaseOk (lims s) w
/-- the hidden grade of one case -/
def hg (ws : List (List Int)) (c : List Int) : Bool := ws.any fun w => ge c w
def hgi (wons : List (List (List Int))) (ps : List Part) (i : Nat) : Bool := hg (wons.getD i []) ((ps.getD i none).getD [])
def decided (ps : List Part) (all : Bool) (wons : List (List (List Int))) : Bool := if all then (inPlay ps).all (hgi wons ps) else (inPlay ps).any (hgi wons ps)
def Decided (wons : List (List (List Int))) (rows : List Row) : Prop := ∀ r ∈ rows, r.won = decided r.parts r.all wons
def plainD : Nat → Da → Prop
  | _, .non => True
  | _, .int _ => True
  | n + 1, .tup l => l.length ≤ 1000 ∧ ∀ d ∈ l, plainD n d
  | n + 1, .lst l => l.length ≤ 1000 ∧ ∀ d ∈ l, plainD n d
  | _, _ => False
def textOf (s : Shape) : Str := (((s.pro ++ ("/" : Str)) ++ s.con) ++ ("/" : Str)) ++ Txt.join "" (s.tops.map fun t => ((toString t : String) : Str))
abbrev Judged := Shape × List (List Int × Bool)
def gradesOf (l : List Judged) (ps : List Part) : List Int := (inPlay ps).map fun i => lowB ((l[i]?.map (·.2)).getD []) ((ps.getD i none).getD [])
/-- the panel's answer -/
def Ans (l : List Judged) (ps : List Part) (all : Bool) (m : Int) : Prop := m ∈ gradesOf l ps ∧ ∀ y ∈ gradesOf l ps, if all then m ≤ y else y ≤ m
structure LOk (l : List Judged) : Prop where
  shs : ShsOk (l.map (·.1))
  ok : ∀ j ∈ l, j.2.length ≤ 6 ∧ ∀ d ∈ j.2, CaseOk (lims j.1) d.1
def panelL (shs : List Shape) (rows : List Row) (p : List (Option Nat)) : List Judged := shs.zipIdx.map fun q => (q.1, (kn rows p q.2).map fun k => k.2)
def dueOf (n : Nat) (rows : List Row) : List (List (Option Nat)) := (fullPicks rows).filter (sound n rows)
/-- what the classes of the text are -/
structure OFx (K : PySem.W.Frag) (C : CA) : Prop where
  f : Cls K C.cForum
  s : Cls K C.cSuit
  r : Cls K C.cRulings
  j : Cls K C.cFloorJudge
  p : Cls K C.cPanel
  f_pro : NoAttr K C.cForum "pro"
  f_con : NoAttr K C.cForum "con"
  f_tops : NoAttr K C.cForum "tops"
  f_limits : NoAttr K C.cForum "limits"
  f_steps : NoAttr K C.cForum "steps"
  f_cases : NoAttr K C.cForum "_cases"
  f_numbers : NoAttr K C.cForum "_numbers"
  s_forums : NoAttr K C.cSuit "forums"
  r_suit : NoAttr K C.cRulings "suit"
  r_rows : NoAttr K C.cRulings "rows"
  j_rows : NoAttr K C.cFloorJudge "rows"
  j_forum : NoAttr K C.cFloorJudge "forum"
  j_top : NoAttr K C.cFloorJudge "top"
  p_suit : NoAttr K C.cPanel "suit"
  p_judges : NoAttr K C.cPanel "judges"
  f_TOPS : ∃ u, Con K C.cForum "TOPS" (.int 3) u
  f_STEPS : ∃ u, Con K C.cForum "STEPS" (.int 5) u
/-! promises -/
def W_at_least : WP := fun ds R => ∃ a b : List Int, ds = [ci a, ci b] ∧ a.length = b.length ∧ a.length ≤ 1000 ∧ R (.bl (ge a b))
abbrev W_law_above : WP := W_at_least
def W_row_bounds : WP := fun ds R => ∃ (rows : List (List Int × Bool)) (c : List Int), ds = [.tup (rows.map decD), .int 1, ci c] ∧ (∀ d ∈ rows, d.1.length = c.length) ∧ c.length ≤ 1000 ∧ ∀ hi : Int, R (.tup [.int (lowB rows c), .int hi])
def W_issues_in_play : WP := fun ds R => ∃ ps : List Part, ds = [partsD ps] ∧ ps.length ≤ 1000 ∧ R (.lst ((inPlay ps).map fun (i : Nat) => Da.int (i : Int)))
def W_with_pick : WP := fun ds R => ∃ (p : List (Option Nat)) (row : Nat) (e : Option Nat), ds = [picksD p, .int (row : Nat), pickD e] ∧ row < p.length ∧ p.length ≤ 1000 ∧ R (picksD (p.set row e))
abbrev W_law_picks_after : WP := W_with_pick
def W_law_limits : WP := fun ds R => ∃ s : Shape, ds = [shapeD s] ∧ s.pro.length + s.con.length + s.tops.length ≤ 1000 ∧ R (.lst ((lims s).map .int))
def W_law_is_choice : WP := fun ds R => ∃ r : Row, ds = [rowD r] ∧ R (.bl (isCh r))
def W_law_cell : WP := fun ds R => ∃ (ns : List Int) (k : Nat), ds = [.scr ns, .int k] ∧ ∀ i, R (.int i)
def W_law_case : WP := fun ds R => ∃ (dr : List Int) (at_ : Nat) (lim : List Int), ds = [.lst (dr.map .int), .int at_, .lst (lim.map .int)] ∧ at_ + lim.length ≤ dr.length ∧ LimOk lim ∧ ∀ c, CaseOk lim c → R (ci c)
def W_all_cases : WP := fun ds R => ∃ lim, ds = [ci lim] ∧ LimOk lim ∧ R (casesD (casesOf lim))
def W_law_cases : WP := fun ds R => ∃ lim : List Int, ds = [.lst (lim.map .int)] ∧ LimOk lim ∧ R (casesD (casesOf lim))
def W_law_draws : WP := fun ds R => ∃ (ns : List Int) (k many : Nat), ds = [.scr ns, .int k, .int many] ∧ k ≤ 1000 ∧ many ≤ 1000 ∧ ∀ l : List Int, l.length = many → (∀ x ∈ l, 0 ≤ x ∧ x < 1000) → R (dR l)
def W_law_same : WP := fun ds R => ∃ d, ds = [d, d] ∧ plainD 3 d ∧ R (.bl true)
def W_law_issue : WP := fun ds R => ∃ (dr : List Int) (at_ most : Nat), ds = [dR dr, .int at_, .str "abcdefghijklmnopqrstuvwxyz", .int most] ∧ 1 ≤ most ∧ most ≤ 5 ∧ at_ + 11 ≤ dr.length ∧ at_ ≤ 1000 ∧ ∀ (s : Shape) (z : Str), ShOk s → R (.tup [.str s.pro, .str s.con, ci s.tops, .str z])
def W_law_shapes : WP := fun ds R => ∃ (dr : List Int) (most : Nat), ds = [dR dr, .int most, .bl false] ∧ 1 ≤ most ∧ most ≤ 5 ∧ 34 ≤ dr.length ∧ ∀ shs, ShsOk shs → (dr.getD 0 0 = 2 → shs.length = 3) → R (shapesD shs)
def W_law_parts : WP := fun ds R => ∃ (dr : List Int) (at_ : Nat) (shs : List Shape), ds = [dR dr, .int at_, shapesD shs] ∧ ShsOk shs ∧ at_ + 16 ≤ dr.length ∧ ∀ ps, PartsOk shs ps → R (partsD ps)
def W_law_wons : WP := fun ds R => ∃ (dr : List Int) (at_ : Nat) (shs : List Shape), ds = [dR dr, .int at_, shapesD shs] ∧ ShsOk shs ∧ at_ + 48 ≤ dr.length ∧ ∀ wons, WonsOk shs wons → R (wonsD wons)
def W_law_part_grade : WP := fun ds R => ∃ (ws : List (List Int)) (c : List Int), ds = [casesD ws, ci c] ∧ (∀ w ∈ ws, w.length = c.length) ∧ c.length ≤ 1000 ∧ R (.int (gI (hg ws c)))
def W_law_decided : WP := fun ds R => ∃ (shs : List Shape) (ps : List Part) (all : Bool) (wons : List (List (List Int))), ds = [partsD ps, .str (modeS all), wonsD wons] ∧ ShsOk shs ∧ PartsOk shs ps ∧ WonsOk shs wons ∧ R (.int (gI (decided ps all wons)))
def W_law_rulings : WP := fun ds R => ∃ (dr : List Int) (at_ many : Nat) (shs : List Shape) (wons : List (List (List Int))), ds = [dR dr, .int at_, shapesD shs, .int many, wonsD wons] ∧ ShsOk shs ∧ (wons = [] ∨ WonsOk shs wons) ∧ many ≤ 6 ∧ at_ + 17 * many ≤ dr.length ∧
  ∀ rows, rows.length = many → RowsOk shs rows → (wons ≠ [] → Decided wons rows) → R (rowsD rows)
def W_law_entries_of : WP := fun ds R => ∃ r : Row, ds = [rowD r] ∧ r.parts.length ≤ 1000 ∧ R (.lst ((entries r).map pickD))
def W_law_full_picks : WP := fun ds R => ∃ rows : List Row, ds = [rowsD rows] ∧ rows.length ≤ 6 ∧ (∀ r ∈ rows, r.parts.length ≤ 3) ∧ R (.lst ((fullPicks rows).map picksD))
def W_law_known : WP := fun ds R => ∃ (rows : List Row) (p : List (Option Nat)) (i : Nat), ds = [rowsD rows, picksD p, .int i] ∧ rows.length ≤ 6 ∧ p.length = rows.length ∧ (∀ r ∈ rows, i < r.parts.length) ∧ R (.lst ((kn rows p i).map knD))
def W_law_odds : WP := fun ds R => ∃ (shs : List Shape) (rows : List Row) (p : List (Option Nat)), ds = [rowsD rows, picksD p, .int shs.length] ∧ ShsOk shs ∧ RowsOk shs rows ∧ p.length = rows.length ∧ R (.lst ((odds (knAll shs.length rows p)).map oddD))
def W_known_quarrels : WP := fun ds R => ∃ (shs : List Shape) (rows : List Row) (p : List (Option Nat)), ds = [knAllD (knAll shs.length rows p)] ∧ ShsOk shs ∧ RowsOk shs rows ∧ p.length = rows.length ∧ R (.lst ((odds (knAll shs.length rows p)).map oddD))
def W_law_knot : WP := fun ds R => ∃ (dr : List Int) (shs : List Shape), ds = [dR dr, .int 0, shapesD shs] ∧ ShsOk shs ∧ shs.length = 3 ∧ 105 ≤ dr.length ∧ ∀ rows, rows.length = 6 → RowsOk shs rows → R (rowsD rows)
def W_law_shuffled : WP := fun ds R => ∃ (rows : List Row) (dr : List Int) (at_ : Nat), ds = [rowsD rows, dR dr, .int at_] ∧ rows.length ≤ 6 ∧ at_ + rows.length ≤ dr.length ∧ ∀ rows', rows'.length = rows.length → (∀ r ∈ rows', r ∈ rows) → R (rowsD rows')
def W_law_drawn_suit : WP := fun ds R => ∃ ns : List Int, ds = [.scr ns] ∧ ∀ shs rows wons, ShsOk shs → RowsOk shs rows → (wons = [] ∨ WonsOk shs wons ∧ Decided wons rows) → R (.tup [shapesD shs, rowsD rows, wonsD wons])
section
variable (C : CA)
def W_Forum_contains : WP := fun ds R => ∃ s c, ds = [fD C s, ci c] ∧ ShOk s ∧ CaseOk (lims s) c ∧ R (.bl true)
def W_Forum_text : WP := fun ds R => ∃ s, ds = [fD C s] ∧ ShOk s ∧ R (.str (textOf s))
def W_Forum_init (_ : CA) : WPI := fun fs ds R => ∃ s : Shape, fs = [] ∧ ds = [.str s.pro, .str s.con, ci s.tops] ∧ ShOk s ∧ R (fF s)
def W_Suit_init : WPI := fun fs ds R => ∃ shs, fs = [] ∧ ds = [.lst (shs.map (fD C))] ∧ ShsOk shs ∧ R (sF C shs)
def W_Suit_contains : WP := fun ds R => ∃ shs ps, ds = [sD C shs, partsD ps] ∧ ShsOk shs ∧ PartsOk shs ps ∧ R (.bl true)
def W_Rulings_init : WPI := fun fs ds R => ∃ shs rows, fs = [] ∧ ds = [sD C shs, rowsD rows] ∧ ShsOk shs ∧ RowsOk shs rows ∧ R (rF C shs rows)
def W_Rulings_choice_rows : WP := fun ds R => ∃ shs rows, ds = [rD C shs rows] ∧ rows.length ≤ 1000 ∧ R (.tup ((choices rows).map fun (i : Nat) => Da.int (i : Int)))
def W_same_suit : WP := fun ds R => ∃ shs, ds = [sD C shs, sD C shs] ∧ ShsOk shs ∧ R (.bl true)
def W_no_picks : WP := fun ds R => ∃ shs rows, ds = [rD C shs rows] ∧ rows.length ≤ 1000 ∧ R (picksD (List.replicate rows.length none))
def W_open_rows : WP := fun ds R => ∃ shs rows p, ds = [rD C shs rows, picksD p] ∧ p.length = rows.length ∧ rows.length ≤ 1000 ∧ R (.lst ((openRows rows p).map fun (i : Nat) => Da.int (i : Int)))
def W_known_parts : WP := fun ds R => ∃ shs rows p, ds = [rD C shs rows, picksD p] ∧ ShsOk shs ∧ RowsOk shs rows ∧ p.length = rows.length ∧ R (knAllD (knAll shs.length rows p))
def W_FloorJudge_init : WPI := fun fs ds R => ∃ (s : Shape) (b : List (List Int × Bool)), fs = [] ∧ ds = [fD C s, .int 1, .lst (b.map decD)] ∧ ShOk s ∧ b.length ≤ 6 ∧ (∀ d ∈ b, CaseOk (lims s) d.1) ∧ R (jF C s b)
def W_Judge_init : WPI := fun fs ds R => ∃ (s : Shape) (x : Da), fs = ([("rows", x)] : List (Str × Da)) ∧ ds = [fD C s, .int 1] ∧ R [("rows", x), ("forum", fD C s), ("top", .int 1)]
def W_checked_rows : WP := fun ds R => ∃ (s : Shape) (b : List (List Int × Bool)), ds = [fD C s, .int 1, .lst (b.map decD)] ∧ ShOk s ∧ b.length ≤ 6 ∧ (∀ d ∈ b, CaseOk (lims s) d.1) ∧ R (.tup (b.map decD))
def W_checked_rowsT : WP := fun ds R => ∃ s : Shape, ds = [fD C s, .int 1, .tup []] ∧ R (.tup [])
def W_FloorJudge_grade_of : WP := fun ds R => ∃ (s : Shape) (b : List (List Int × Bool)) (c : List Int), ds = [jD C (s, b), ci c] ∧ ShOk s ∧ (∀ d ∈ b, CaseOk (lims s) d.1) ∧ CaseOk (lims s) c ∧ R (.int (lowB b c))
def W_Judge_table : WP := fun ds R => ∃ (s : Shape) (b : List (List Int × Bool)), ds = [jD C (s, b)] ∧ ShOk s ∧ (∀ d ∈ b, CaseOk (lims s) d.1) ∧ R (.tup ((casesOf (lims s)).map fun c => .int (lowB b c)))
def W_require_yes_no : WP := fun ds R => ∃ j : Judged, ds = [jD C j] ∧ R .non
def W_Panel_init : WPI := fun fs ds R => ∃ l : List Judged, fs = [] ∧ ds = [sD C (l.map (·.1)), .lst (l.map (jD C))] ∧ LOk l ∧ R (pF C l)
def W_Panel_call : WP := fun ds R => ∃ (l : List Judged) (ps : List Part) (all : Bool), ds = [pD C l, partsD ps, .str (modeS all)] ∧ LOk l ∧ PartsOk (l.map (·.1)) ps ∧ ∀ m, Ans l ps all m → R (.int m)
def W_Panel_first_break : WP := fun ds R => ∃ (l : List Judged) (rows : List Row), ds = [pD C l, rD C (l.map (·.1)) rows] ∧ LOk l ∧ RowsOk (l.map (·.1)) rows ∧ (∀ r ∈ rows, ∀ m, Ans l r.parts r.all m → m = gI r.won) ∧ R .non
def W_Panel_keeps : WP := fun ds R => ∃ (l : List Judged) (rows : List Row), ds = [pD C l, rD C (l.map (·.1)) rows] ∧ LOk l ∧ RowsOk (l.map (·.1)) rows ∧ (∀ r ∈ rows, ∀ m, Ans l r.parts r.all m → m = gI r.won) ∧ R (.bl true)
def W_panel_of : WP := fun ds R => ∃ shs rows p, ds = [rD C shs rows, picksD p] ∧ ShsOk shs ∧ RowsOk shs rows ∧ p.length = rows.length ∧ R (pD C (panelL shs rows p))
def W_first_picks : WP := fun ds R => ∃ shs rows, ds = [rD C shs rows] ∧ ShsOk shs ∧ RowsOk shs rows ∧ R (match dueOf shs.length rows with | [] => .non | p :: _ => picksD p)
def W_law_least : WP := fun ds R => ∃ shs rows wons, ds = [rD C shs rows, rowsD rows, .lst ((dueOf shs.length rows).map picksD), shapesD shs, wonsD wons] ∧ ShsOk shs ∧ RowsOk shs rows ∧ WonsOk shs wons ∧ Decided wons rows ∧ R (.bl true)
def W_law_apart : WP := fun ds R => ∃ (shs : List Shape) (rows : List Row) (n : Nat), ds = [sD C shs, rowsD rows, .lst ((dueOf shs.length rows).map picksD), .int n] ∧ ShsOk shs ∧ RowsOk shs rows ∧ n ∈ choices rows ∧ R (.bl true)
end
def W_law : WP := fun ds R => ∃ ns : List Int, ds = [.scr ns] ∧ R (.bl true)
/-! small laws -/
theorem rv_eqP {K : PySem.W.Frag} {R : Da → Prop} {e : Option Nat} {i : Nat} (r : R (.bl (e == some i))) : RvD K rEq (pickD e) (.int (i : Nat)) R := by
  cases e with
  | none => exact rv_eqNI r
  | some z =>
    refine rv_eqI ?_
    have ez : (decide ((z : Int) = (i : Int)) : Bool) = (some z == some i) := by
      rw [Bool.eq_iff_iff, decide_eq_true_eq, beq_iff_eq, Option.some.injEq]
      omega
    rw [ez]
    exact r
theorem gI_01 (b : Bool) : gI b = 0 ∨ gI b = 1 := by cases b <;> decide
theorem lowB_01 {b : List (List Int × Bool)} {c : List Int} : lowB b c = 0 ∨ lowB b c = 1 := by
  unfold lowB
  suffices ∀ (b : List (List Int × Bool)) (x : Int), x = 0 ∨ x = 1 → (b.foldl (fun lo d => if ge c d.1 then max lo (gI d.2) else lo) x = 0 ∨ b.foldl (fun lo d => if ge c d.1 then max lo (gI d.2) else lo) x = 1) from this b 0 (.inl rfl)
  intro b
  induction b with
  | nil => exact fun x h => h
  | cons d b ih =>
    intro x h
    rw [List.foldl_cons]
    refine ih _ ?_
    split
    · rcases gI_01 d.2 with z | z <;> rcases h with y | y <;> rw [z, y] <;> decide
    · exact h
end Sc
/-! M3: laws of cases. -/
namespace Sc
open PySem L2
theorem more_len {cs : List (List Int)} {l : Int} : (more cs l).length = cs.length * (l + 1).toNat := by
  unfold more
  induction cs with
  | nil => simp
  | cons c cs ih => rw [List.flatMap_cons, List.length_append, ih, List.length_cons, Nat.succ_mul]; simp; omega
theorem succ_le_pow (n : Nat) : n + 1 ≤ 2 ^ n := by
  induction n with
  | zero => decide
  | succ n ih => rw [Nat.pow_succ]; omega
theorem foldl_more_len : ∀ {lim : List Int} {cs : List (List Int)}, (∀ l ∈ lim, 1 ≤ l) → (lim.foldl more cs).length ≤ cs.length * 2 ^ lim.sum.toNat
  | [], cs, _ => by simp
  | l :: lim, cs, h => by
    rw [List.foldl_cons, List.sum_cons]
    have h1 := h l (by simp)
    have hs : (0 : Int) ≤ lim.sum := by
      have := sum_ge (l := lim) fun x hx => h x (by simp [hx])
      omega
    have h2 := foldl_more_len (lim := lim) (cs := more cs l) fun x hx => h x (by simp [hx])
    rw [more_len] at h2
    refine Nat.le_trans h2 ?_
    rw [show (l + lim.sum).toNat = l.toNat + lim.sum.toNat by omega, Nat.pow_add, ← Nat.mul_assoc]
    refine Nat.mul_le_mul_right _ (Nat.mul_le_mul_left _ ?_)
    rw [show (l + 1).toNat = l.toNat + 1 by omega]
    exact succ_le_pow _
theorem casesOf_len {lim : List Int} (h : LimOk lim) : (casesOf lim).length ≤ 32 := by
  have h1 := foldl_more_len (lim := lim) (cs := [[]]) h.nn
  have h2 := h.hi
  have h3 : 2 ^ lim.sum.toNat ≤ 2 ^ 5 := Nat.pow_le_pow_right (by decide) (by omega)
  unfold casesOf
  simp at h1
  omega
theorem sum_take {lim : List Int} (h : ∀ l ∈ lim, 1 ≤ l) (i : Nat) : (lim.take i).sum ≤ lim.sum := by
  have e : lim.sum = (lim.take i).sum + (lim.drop i).sum := by rw [← List.sum_append, List.take_append_drop]
  have := sum_ge (l := lim.drop i) fun x hx => h x (List.mem_of_mem_drop hx)
  omega
theorem LimOk.take {lim : List Int} (h : LimOk lim) (i : Nat) : LimOk (lim.take i) := by
  have := sum_take h.nn i
  exact ⟨fun l hl => h.nn l (List.mem_of_mem_take hl), by have := h.hi; omega⟩
theorem casesOf_take {lim : List Int} {i : Nat} {l : Int} (h : lim[i]? = some l) : casesOf (lim.take (i + 1)) = more (casesOf (lim.take i)) l := by
  unfold casesOf
  rw [take_succ h, List.foldl_append]
  rfl
theorem LimOk.le {lim : List Int} (h : LimOk lim) {l : Int} (hl : l ∈ lim) : 1 ≤ l ∧ l ≤ 5 := by
  refine ⟨h.nn l hl, ?_⟩
  obtain ⟨i, hi, e⟩ := List.mem_iff_getElem.mp hl
  have h1 : lim.sum = (lim.take i).sum + (lim.drop i).sum := by rw [← List.sum_append, List.take_append_drop]
  have h2 := sum_ge (l := lim.take i) fun x hx => h.nn x (List.mem_of_mem_take hx)
  rw [List.drop_eq_getElem_cons hi, List.sum_cons, e] at h1
  have h3 := sum_ge (l := lim.drop (i + 1)) fun x hx => h.nn x (List.mem_of_mem_drop hx)
  have := h.hi
  omega
theorem more_take {cs : List (List Int)} {l : Int} {i : Nat} {c : List Int} (h : cs[i]? = some c) : more (cs.take (i + 1)) l = more (cs.take i) l ++ (List.range (l + 1).toNat).map fun (k : Nat) => c ++ [(k : Int)] := by
  unfold more
  rw [take_succ h, List.flatMap_append]
  simp
theorem getD_app {α : Type} {a : List α} {x d : α} {i : Nat} : (a ++ [x]).getD i d = if i = a.length then x else a.getD i d := by
  rw [List.getD_eq_getElem?_getD, List.getD_eq_getElem?_getD]
  by_cases h : i = a.length
  · subst h
    simp
  · rw [if_neg h]
    by_cases h2 : i < a.length
    · rw [List.getElem?_append_left h2]
    · rw [List.getElem?_eq_none (by simp; omega), List.getElem?_eq_none (by omega)]
theorem foldl_more_ok : ∀ {lim pre : List Int} {cs : List (List Int)}, (∀ l ∈ lim, 0 ≤ l) → (∀ c, c ∈ cs ↔ CaseOk pre c) → ∀ c, c ∈ lim.foldl more cs ↔ CaseOk (pre ++ lim) c
  | [], pre, cs, _, h => by simpa using h
  | l :: lim, pre, cs, hn, h => by
    intro c
    rw [List.foldl_cons, show pre ++ l :: lim = (pre ++ [l]) ++ lim by simp]
    refine foldl_more_ok (fun x hx => hn x (by simp [hx])) (fun c => ?_) c
    have h0 := hn l (by simp)
    unfold more
    rw [List.mem_flatMap]
    constructor
    · rintro ⟨a, ha, hc⟩
      obtain ⟨k, hk, rfl⟩ := List.mem_map.mp hc
      rw [List.mem_range] at hk
      obtain ⟨q1, q2⟩ := (h a).mp ha
      refine ⟨by simp [q1], fun i hi => ?_⟩
      rw [getD_app, getD_app]
      by_cases e : i = pre.length
      · rw [if_pos (by omega), if_pos e]
        omega
      · rw [if_neg (by omega), if_neg e]
        simp at hi
        exact q2 i (by omega)
    · rintro ⟨q1, q2⟩
      rw [List.length_append, List.length_singleton] at q1 q2
      obtain ⟨a, x, rfl⟩ : ∃ a x, c = a ++ [x] := by
        rcases List.eq_nil_or_concat c with rfl | ⟨a, x, e⟩
        · simp at q1
        · exact ⟨a, x, by rw [e, List.concat_eq_append]⟩
      simp at q1
      refine ⟨a, (h a).mpr ⟨q1, fun i hi => ?_⟩, ?_⟩
      · have := q2 i (by omega)
        rw [getD_app, getD_app, if_neg (by omega), if_neg (by omega)] at this
        exact this
      · have := q2 pre.length (by omega)
        rw [getD_app, getD_app, if_pos q1.symm, if_pos rfl] at this
        exact List.mem_map.mpr ⟨x.toNat, List.mem_range.mpr (by omega), by rw [Int.toNat_of_nonneg this.1]⟩
theorem mem_casesOf {lim : List Int} (h : ∀ l ∈ lim, 0 ≤ l) {c : List Int} : c ∈ casesOf lim ↔ CaseOk lim c :=
  foldl_more_ok (pre := []) h (fun c => by
    constructor
    · intro h
      simp at h
      subst h
      exact ⟨rfl, fun i hi => by simp at hi⟩
    · rintro ⟨h, _⟩
      simpa using h) c
theorem CaseOk.len {lim c : List Int} (h : CaseOk lim c) : c.length = lim.length := h.1
end Sc
/-! Rx6: an instance called. -/
namespace Sc
open PySem L2 PySem.Spec PyProof.Rows
section
variable (P : Program) (w : World) (K : PySem.W.Frag) (mg : Str → Option Value) (base : Heap)
structure HasO (C : Addr) (k : Nat) (ps : List Str) (sp : Sp) : Prop where
  ex : ∃ (f : Addr) (fd : FuncData), FnOk P w K mg base CX0 k f fd ps sp ∧ StX.CallO K C f ∧ Binds K fd ps []
structure CallAt (C : Addr) (m qual : Str) (st : Stmt) : Prop where
  ex : ∃ (f : Addr) (fd : FuncData), Fun K m qual st f fd ∧ StX.CallO K C f
end
section
variable {P : Program} {w : World} {K : PySem.W.Frag} {mg : Str → Option Value} {base : Heap}
theorem hasO {C : Addr} {m qual : Str} {st : Stmt} {N ps : List Str} {k : Nat} {W : WP} (F : CallAt K C m qual st) (S : FnScope N ps (defScope st)) (hl : ∀ ds R, W ds R → ds.length = ps.length)
    (hbd : ∀ (kV doc pm : Value) (an : Option Addr) (cdv ct : Value) (us : List Value), us.length = ps.length → bindArgs (PySem.W.fnOf m qual (defArgs st) (defBody st) (defScope st) .none kV doc pm an cdv ct) ⟨us, []⟩ = pure (ps.zip us))
    (hb : ∀ (f : Addr) (cdv : Value) (A : Around) (outer : List Env) (s : Shared) (H : Hp) (E : XK), Room k (A.deeper (PyProof.Rows.envOfC qual (defScope st) s.heap.objs.size f cdv)) →
      ∃ t, PSs (cxOf CX0 P w K mg base N qual (defScope st) f cdv A outer s H E).nox (defBody st) t ∧ ∀ ds R, W ds R → Ho K t (slots ds N.length) (fun _ => R .non) R noG noG) : HasO P w K mg base C (k + 1) ps (spD K W) := by
  obtain ⟨f, fd, F, hm⟩ := F.ex
  exact ⟨f, fd, okD' (.of F) S hl (hb f), hm, F.binds hbd⟩
end
def tOwnCall (C : Addr) (sp : Sp) (tf : TE) (t : TA) : TE := fun σ H Q => tf σ H fun y H1 => ∃ a, y = V.ref a ∧ t σ H1 fun vs H2 => (∃ dx fs, H2 a = some (.ins C dx fs)) ∧ sp (V.ref a :: vs) H2 Q E0
section
variable {X : Cx} {k : Nat} {ps : List Str} {sp : Sp} {C : Addr} {x : Str} {p pos : Pos} {e fe : Expr} {es : List Expr} {tf : TE} {t : TA}
theorem pe_callOH (h : HasO X.prog X.w X.K X.mg X.base C k ps sp) (hr : Room k X.A) (hf : PE X fe tf) (ha : PA X (e :: es) t)
    (ht : eval (.Call fe (e :: es) [] pos) X.env = (do callWith pos (← eval fe X.env) [] (backTo pos (starEach (e :: es) X.env)) (backToKw pos (keywordEach [] X.env))) := by rfl)
    (he : starEach (e :: es) X.env = (false, eval e X.env) :: starEach es X.env := by rfl) (hpl : (backTo pos (starEach es X.env)).any (·.1) = false := by rfl) : PE X (.Call fe (e :: es) [] pos) (tOwnCall C sp tf t) := by
  refine ⟨fun pins s σ H Q I h' => ?_⟩
  obtain ⟨f, fd, F, c, hb⟩ := h.ex
  refine Call_ (thn (hf.run pins s σ H _ I h') fun u s1 ⟨y, H1, I1, ry, a, ey, q⟩ => ?_) ht
  subst ey
  obtain rfl : u = Value.ref a := ry
  refine StX.callO_with (thn (ha.run pos pins s1 σ H1 _ I1 q) fun us s2 ⟨vs, H2, I2, r, hi, q2⟩ => ?_) he hpl
  obtain ⟨ox, od, J, hd⟩ := StX.insC_at I2 (.inr hi : StX.InsC X H2 a C)
  refine ⟨⟨C, ox, od, J, hd⟩, ?_⟩
  have r2 : Vals (V.ref a :: vs) (Value.ref a :: us) := .cons rfl r
  have hl : (Value.ref a :: us).length = ps.length := by
    rw [← r2.length]
    exact F.len _ _ _ _ q2
  have hbt : BindsTo s2 fd ⟨Value.ref a :: us, []⟩ (ps.zip (Value.ref a :: us)) := by
    have := hb s2 (Value.ref a :: us) I2.kIn (by rw [List.append_nil]; exact hl)
    rwa [List.append_nil] at this
  refine wpAny_call (PySem.W.kco_code I2.kIn J hd c.at_ c.fn c.fi (codeAny_mono (F.run X.A X.stack s2 H2 ⟨Value.ref a :: us, []⟩ (Value.ref a :: us) (V.ref a :: vs) Q E0 hr I2.env0 hbt r2 q2) fun r s' hq => ?_))
  cases r with
  | error e => exact pass0 pins σ H2 s2 e s' I2 hq
  | ok fl =>
    cases fl with
    | ret u => exact I2.after hq
    | next => exact False.elim hq
    | brk => exact False.elim hq
    | cont => exact False.elim hq
end
section
variable {K : PySem.W.Frag} {G : List SD} {R : Da → Prop} {tf : TE} {t : TA}
theorem ev_ownCall {C : Addr} {W : WP} (h : EvD K tf G fun d => ∃ fs, d = .obj C fs ∧ EvA K t G fun ds => W (d :: ds) R) : EvD K (tOwnCall C (spD K W) tf t) G R := fun O σ H s Q k =>
  h O σ H s _ fun x H1 d ⟨fs, ed, h1⟩ e1 r1 => by
    subst ed
    have r1' := r1
    simp only [Rep] at r1
    obtain ⟨a, dx, gs, rfl, h2, h3⟩ := r1
    refine ⟨a, rfl, h1 O σ H1 (s.mono e1) _ fun vs H2 ds hw e2 r2 => ⟨⟨dx, gs, e2 _ _ (hid_same _ _ _ _ h2)⟩, ?_⟩⟩
    exact ⟨O, _, R, (s.mono (e1.trans e2)).there, .cons (r1'.mono (hid_mono e2)) r2, hw, fun v H' d r e rv => k v H' d r ((e1.trans e2).trans e) rv⟩
/-- zipped encoded things -/
theorem zipD_map {α β : Type} {f : α → Da} {g : β → Da} {l : List α} {m : List β} : zipD (l.map f) (m.map g) = (l.zip m).map fun x => .tup [f x.1, g x.2] := by
  unfold zipD
  rw [List.zipWith_map, List.zip_eq_zipWith, List.map_zipWith]
end
end Sc
/-! Rx7: a list of lists that are filled in place; its name stands in slot 2. -/
namespace Sc
open PySem L2
section
variable (K : PySem.W.Frag)
structure Nst (B : Hp) (O0 O : Addr → Bool) (σ : St) (H : Hp) (G : List SD) (a : Addr) (ll : List (List Da)) : Prop where
  st : StB K B O0 O σ H G
  nm : ∀ (i : Nat) sd, G[i]? = some sd → sd.mine = false
  two : σ[2]? = some (some (.ref a))
  nest : ∃ ps : List Addr, H a = some (.lst (ps.map .ref)) ∧ O a = true ∧ O0 a = false ∧ a ∉ ps ∧ ps.Nodup ∧ ps.length = ll.length ∧
    ∀ (i : Nat) p l, ps[i]? = some p → ll[i]? = some l → O p = true ∧ O0 p = false ∧ ∃ xs, H p = some (.lst xs) ∧ RepL K (hid O H) l xs
def HoN (t : TS) (G : List SD) (ll : List (List Da)) (nx : List SD → List (List Da) → Prop) : Prop :=
  ∀ B O0 O σ H E a, Nst K B O0 O σ H G a ll → (∀ σ' H' G' ll', nx G' ll' → Nst K B O0 O σ' H' G' a ll' → E.nx σ' H') → t E σ H
end
section
variable {K : PySem.W.Frag} {B : Hp} {O0 O : Addr → Bool} {σ : St} {H H' : Hp} {G : List SD} {a : Addr} {ll : List (List Da)} {t u f : TS} {te : TE} {tt : TT} {nx : List SD → List (List Da) → Prop}
theorem Nst.mono (e : Same H H') (h : Nst K B O0 O σ H G a ll) : Nst K B O0 O σ H' G a ll := by
  obtain ⟨ps, h1, h2, h3, h4, h5, h6, h7⟩ := h.nest
  refine ⟨h.st.mono e, h.nm, h.two, ps, e _ _ h1, h2, h3, h4, h5, h6, fun i p l q1 q2 => ?_⟩
  obtain ⟨r1, r2, xs, r3, r4⟩ := h7 i p l q1 q2
  exact ⟨r1, r2, xs, e _ _ r3, r4.mono (hid_mono e)⟩
theorem hid_poke {p : Addr} {o : HO} (h : O p = true) : hid O (upd H p o) = hid O H := by
  funext b
  unfold hid
  cases q : O b with
  | true => rfl
  | false =>
    rw [if_neg Bool.false_ne_true, if_neg Bool.false_ne_true, upd_ne]
    intro z
    rw [z, h] at q
    cases q
theorem StB.poke {p : Addr} {o : HO} (s : StB K B O0 O σ H G) (nm : ∀ (i : Nat) sd, G[i]? = some sd → sd.mine = false) (h : O p = true) (h0 : O0 p = false) : StB K B O0 O σ (upd H p o) G := by
  refine ⟨⟨s.st.len, fun a q => ?_, fun i sd q => ?_, s.st.apart⟩, fun b x e => ?_, s.sub, s.off, s.fine, s.fineI⟩
  · by_cases e : a = p
    · rw [e, upd_same]; intro z; cases z
    · rw [upd_ne e]; exact s.st.there a q
  · have z := s.st.slot i sd q
    have m := nm i sd q
    cases sd with
    | un => trivial
    | val d =>
      obtain ⟨v, z1, z2⟩ := z
      exact ⟨v, z1, by rw [hid_poke h]; exact z2⟩
    | own l => cases m
    | ino a C fs => cases m
  · rw [upd_ne]
    · exact s.base b x e
    · intro z
      subst z
      rcases s.off b h with y | y
      · rw [h0] at y; cases y
      · rw [y] at e; cases e
theorem hn_seq (h : HoN K t G ll fun G' ll' => HoN K u G' ll' nx) : HoN K (tSeq t u) G ll nx := fun B O0 O σ H E a n k =>
  h B O0 O σ H _ a n fun σ' H' G' ll' q n' => q B O0 O σ' H' E a n' k
theorem hn_nil (h : nx G ll) : HoN K tNext G ll nx := fun B O0 O σ H E a n k => k σ H G ll h n
theorem set_nm {i : Nat} {d : Da} (nm : ∀ (i : Nat) sd, G[i]? = some sd → sd.mine = false) : ∀ (j : Nat) sd, (G.set i (.val d))[j]? = some sd → sd.mine = false := fun j sd q => by
  rcases get_set q with ⟨_, rfl⟩ | ⟨_, q⟩
  · rfl
  · exact nm j sd q
theorem hn_set {i : Nat} (hi : i ≠ 2) (h : EvD K te G fun d => nx (G.set i (.val d)) ll) : HoN K (tAsg te (gName i)) G ll nx := fun B O0 O σ H E a n k =>
  h O σ H n.st.st _ fun v H1 d q e r => by
    have n1 := n.mono e
    refine k _ H1 _ ll q ⟨n1.st.set_val r, set_nm n.nm, ?_, n1.nest⟩
    rw [List.getElem?_set_ne hi]
    exact n.two
theorem hn_if (h : EvT K tt G fun b => (b = true → HoN K t G ll nx) ∧ (b = false → HoN K u G ll nx)) : HoN K (tIfS tt t u) G ll nx := fun B O0 O σ H E a n k =>
  h O σ H n.st.st _ fun b H1 ⟨q1, q2⟩ e => by
    cases b with
    | true => exact q1 rfl B O0 O σ H1 E a (n.mono e) k
    | false => exact q2 rfl B O0 O σ H1 E a (n.mono e) k
theorem hn_for {wi : TI} {g : TG} {tb : TS} (V : List Nat) (h2 : 2 ∉ V) (h : EvI K wi G fun ds => ∃ Iv : Nat → List SD → List (List Da) → Prop, Iv 0 G ll ∧
      (∀ i d G' ll', ds[i]? = some d → Iv i G' ll' → GnD K g d (· ∈ V) G' fun G2 => (∀ (i : Nat) sd, G2[i]? = some sd → sd.mine = false) ∧ HoN K tb G2 ll' (Iv (i + 1))) ∧ ∀ G' ll', Iv ds.length G' ll' → nx G' ll') : HoN K (tFor wi g tb) G ll nx := fun B O0 O σ H E a n k =>
  h O σ H n.st.st _ fun J H1 ds ⟨Iv, i0, step, fin⟩ e1 it => by
    have n1 := n.mono e1
    obtain ⟨eB, s2⟩ := n1.st.up
    refine ⟨fun i m σ H => m = ds.length - i ∧ i ≤ ds.length ∧ ∃ G' ll', Iv i G' ll' ∧ Nst K (low B O H1) O0 O σ H G' a ll', ⟨_, rfl, Nat.zero_le _, G, ll, i0, s2, n1.nm, n1.two, n1.nest⟩, ?_⟩
    rintro i m σ2 H2 ⟨rfl, hi, G', ll', inv, n3⟩
    obtain ⟨t1, t2⟩ := it O H2 (n3.st.keep n1.st.sub) n3.st.st.there
    by_cases hlt : i < ds.length
    · obtain ⟨u1, u2⟩ := t2 i hlt
      refine .inr ⟨u1, fun σ' H' => ∃ G2 ll2, Iv (i + 1) G2 ll2 ∧ Nst K (low B O H1) O0 O σ' H' G2 a ll2, fun σ' H' ⟨G2, ll2, q1, q2⟩ => ⟨ds.length - (i + 1), by omega, rfl, hlt, G2, ll2, q1, q2⟩, fun x H' y => ?_⟩
      obtain ⟨e2, d, q1, q2⟩ := u2 x H' y
      have n4 := n3.mono e2
      refine step i d G' ll' q1 inv _ O0 O σ2 H' x n4.st q2 _ fun σ3 G3 ⟨nm3, hb⟩ s4 hw => ?_
      have two : σ3[2]? = some (some (.ref a)) := by
        have z := congrArg (fun l => l[2]?) (hw V fun i hi => hi)
        simp only [wipe_get, if_neg h2] at z
        rw [z]
        exact n4.two
      exact hb _ O0 O σ3 H' _ a ⟨s4, nm3, two, n4.nest⟩ fun σ' H'' G'' ll'' q n' => ⟨G'', ll'', q, n'⟩
    · have ei : i = ds.length := by omega
      subst ei
      refine .inl ⟨t1, k σ2 H2 G' ll' (fin G' ll' inv) ⟨n3.st.weak eB, n3.nm, n3.two, n3.nest⟩⟩
/-- an inner list grows -/
theorem hn_app {j : Nat} {l : List Da} (h5 : G[5]? = some (.val (.int (j : Nat)))) (hj : ll[j]? = some l) (hl : l.length ≤ 100000) (h : EvD K te G fun d => nx G (ll.set j (l ++ [d]))) :
    HoN K (tDrop (tBM K "list" rAppend (tOp (rIxL K) (tVar 2) (tVar 5)) (tCons te tNil))) G ll nx := fun B O0 O σ H E a n k => by
  obtain ⟨ps, h1, h2, h3, h4, h5', h6, h7⟩ := n.nest
  obtain ⟨v5, z1, z2⟩ := n.st.st.slot 5 _ h5
  simp only [Rep] at z2
  subst z2
  have hjl := get_lt hj
  obtain ⟨p, hp⟩ : ∃ p, ps[j]? = some p := ⟨_, List.getElem?_eq_getElem (by omega)⟩
  obtain ⟨r1, r2, xs, r3, r4⟩ := h7 j p l hp hj
  refine ⟨.ref a, n.two, .int (j : Nat), z1, a, ps.map .ref, j, .ref p, rfl, rfl, SqL.of h1, atI_nat' (by rw [List.getElem?_map, hp]; rfl), .inl ⟨rfl, xs, SqL.of r3⟩, ?_⟩
  refine h O σ H n.st.st _ fun v H1 d q e rv => ?_
  have n1 := n.mono e
  have r4' := r4.mono (hid_mono e)
  refine ⟨p, xs, v, rfl, rfl, e _ _ r3, Nat.lt_of_le_of_lt (Nat.le_trans (Nat.le_of_eq r4.length) hl) (by decide), ?_⟩
  have hap : a ≠ p := fun z => h4 (z ▸ List.mem_of_getElem? hp)
  refine k σ _ G _ q ⟨n1.st.poke n.nm r1 r2, n.nm, n.two, ps, by rw [upd_ne hap]; exact e _ _ h1, h2, h3, h4, h5', by rw [List.length_set]; exact h6, fun i p' l' q1 q2 => ?_⟩
  rcases get_set q2 with ⟨rfl, rfl⟩ | ⟨ne, q2⟩
  · rw [hp] at q1
    cases q1
    exact ⟨r1, r2, _, upd_same, by rw [hid_poke r1]; exact r4'.append (.one rv)⟩
  · obtain ⟨w1, w2, ys, w3, w4⟩ := h7 i p' l' q1 q2
    have hpp : p' ≠ p := fun z => by
      subst z
      exact ne ((List.getElem?_inj (get_lt hp) h5').mp (hp.trans q1.symm))
    exact ⟨w1, w2, ys, by rw [upd_ne hpp]; exact e _ _ w3, by rw [hid_poke r1]; exact w4.mono (hid_mono e)⟩
/-- more is hidden: new lists -/
theorem StB.many {O' : Addr → Bool} (s : StB K B O0 O σ H G) (nm : ∀ (i : Nat) sd, G[i]? = some sd → sd.mine = false) (e : Same H H') (up : ∀ a, O a = true → O' a = true) (fr : ∀ a, O' a = true → O a = true ∨ H a = none ∧ H' a ≠ none) : StB K B O0 O' σ H' G := by
  refine ⟨⟨s.st.len, fun a q => ?_, fun i sd q => (s.st.slot i sd q).grow e up fun a z => (fr a z).imp id And.left, s.st.apart⟩, s.base.trans e, fun a z => up a (s.sub a z), fun a z => ?_, s.fine, s.fineI⟩
  · rcases fr a q with z | z
    · exact Same.ne e (s.st.there a z)
    · exact z.2
  · rcases fr a z with y | y
    · exact s.off a y
    · exact .inr (s.base.free y.1)
/-- the list of new lists, what fills it, and its end -/
theorem ho_nest {wi : TI} {vs : List Nat} {nx' bk ct : List SD → Prop} {rt : Da → Prop} {n6 : Nat} (h6v : vs = [n6]) (hlen : 2 < G.length) (nm : ∀ (i : Nat) sd, G[i]? = some sd → sd.mine = false)
    (h : EvI K wi G fun ds => ds.length ≤ 1000 ∧ HoN K u (G.set 2 .un) (ds.map fun _ => []) fun G1 ll1 => HoN K f G1 ll1 fun G2 ll2 => rt (.lst (ll2.map .lst))) :
    Ho K (tSeq (tAsg (tLc wi (gName n6) tYes (tLst tNil) vs) (gName 2)) (tSeq u (tSeq f (tRet (tVar 2))))) G nx' rt bk ct := fun B O0 O σ H E s c =>
  h O σ H s.st _ fun J H1 ds ⟨hdl, hn⟩ e1 it => fun D hD => by
    subst h6v
    have s1 := s.mono e1
    refine ⟨fun i m H => m = ds.length - i ∧ i ≤ ds.length ∧ Same H1 H ∧ ∃ ps : List Addr, H D = some (.lst (ps.map .ref)) ∧ ps.length = i ∧ ps.Nodup ∧ D ∉ ps ∧ ∀ p ∈ ps, H1 p = none ∧ H p = some (.lst []),
      ⟨_, rfl, Nat.zero_le _, same_new hD, [], upd_same, rfl, List.nodup_nil, by simp, fun p hp => (nomatch hp)⟩, ?_⟩
    rintro i m H2 ⟨rfl, hi, e2, ps, h1, h2, h3, h4, h5⟩
    obtain ⟨t1, t2⟩ := it O H2 (hid_mono e2) (s1.mono e2).st.there
    by_cases hlt : i < ds.length
    · obtain ⟨u1, u2⟩ := t2 i hlt
      refine .inr ⟨u1, fun H' => Same H1 H' ∧ ∃ ps : List Addr, H' D = some (.lst (ps.map .ref)) ∧ ps.length = i + 1 ∧ ps.Nodup ∧ D ∉ ps ∧ ∀ p ∈ ps, H1 p = none ∧ H' p = some (.lst []), fun H' ⟨q1, q2⟩ => ⟨ds.length - (i + 1), by omega, rfl, hlt, q1, q2⟩, fun x H3 y => ?_⟩
      obtain ⟨e3, d, q1, q2⟩ := u2 x H3 y
      refine ⟨?_, ?_⟩
      · show ((wipe σ [n6]).set n6 (some x)).set n6 none = σ.set n6 none
        show ((σ.set n6 none).set n6 (some x)).set n6 none = σ.set n6 none
        rw [List.set_set, List.set_set]
      · refine ⟨Nat.zero_le _, fun p hp => ?_⟩
        have hx3 := e3 _ _ h1
        have hDp : D ≠ p := ne_of_none hx3 hp
        refine ⟨ps.map .ref, by rw [upd_ne hDp]; exact hx3, ?_, fun b o q => ?_, ps ++ [p], by rw [upd_same, List.map_append]; rfl, by simp [h2], ?_, ?_, fun p' hp' => ?_⟩
        · rw [List.length_map, h2]
          exact Nat.lt_of_lt_of_le hlt (Nat.le_trans hdl (by decide))
        · rw [upd_ne (ne_of_none q hD), upd_ne (ne_of_none (e3 _ _ (e2 _ _ q)) hp)]
          exact e3 _ _ (e2 _ _ q)
        · rw [List.nodup_append]
          refine ⟨h3, by simp, fun a ha b hb => ?_⟩
          rw [List.mem_singleton.mp hb]
          exact ne_of_none (e3 _ _ (h5 a ha).2) hp
        · intro z
          rcases List.mem_append.mp z with z | z
          · exact h4 z
          · exact hDp (List.mem_singleton.mp z)
        · rcases List.mem_append.mp hp' with z | z
          · obtain ⟨y1, y2⟩ := h5 p' z
            refine ⟨y1, ?_⟩
            have pD : p' ≠ D := fun w => by rw [w] at z; exact h4 z
            rw [upd_ne pD, upd_ne (ne_of_none (e3 _ _ y2) hp)]
            exact e3 _ _ y2
          · rw [List.mem_singleton.mp z]
            exact ⟨(e2.trans e3).free hp, by rw [upd_ne (Ne.symm hDp), upd_same]⟩
    · have ei : i = ds.length := by omega
      subst ei
      refine .inl ⟨t1, ?_⟩
      have e02 := e2
      let O' : Addr → Bool := fun b => O b || decide (b = D) || decide (b ∈ ps)
      have up : ∀ a, O a = true → O' a = true := fun a q => by simp [O', q]
      have fr : ∀ a, O' a = true → O a = true ∨ H1 a = none ∧ H2 a ≠ none := fun a q => by
        simp only [O', Bool.or_eq_true, decide_eq_true_eq] at q
        rcases q with (q | q) | q
        · exact .inl q
        · exact .inr ⟨by rw [q]; exact hD, by rw [q, h1]; intro z; cases z⟩
        · obtain ⟨y1, y2⟩ := h5 a q
          exact .inr ⟨y1, by rw [y2]; intro z; cases z⟩
      have s2 := s1.many nm e2 up fr
      have not0 : ∀ a, H1 a = none → O0 a = false := fun a q => by
        cases z : O0 a with
        | false => rfl
        | true => exact absurd q (s1.st.there a (s1.sub a z))
      have s3 : StB K B O0 O' (σ.set 2 (some (.ref D))) H2 (G.set 2 .un) := s2.set_un
      refine hn B O0 O' _ H2 _ D ⟨s3, fun j sd q => ?_, ?_, ps, h1, by simp [O'], not0 D hD, h4, h3, by rw [List.length_map]; exact h2, fun j p l q1 q2 => ?_⟩ fun σ' H' G1 ll1 q n1 => q B O0 O' σ' H' _ D n1 fun σ2 H2 G2 ll2 q2 n2 => ?_
      · rcases get_set q with ⟨_, rfl⟩ | ⟨_, q⟩
        · rfl
        · exact nm j sd q
      · rw [List.getElem?_set_self (by rw [s.st.len]; exact hlen)]
      · have hp := List.mem_of_getElem? q1
        obtain ⟨y1, y2⟩ := h5 p hp
        refine ⟨by simp [O', hp], not0 p y1, [], y2, ?_⟩
        rw [List.getElem?_map] at q2
        cases w : ds[j]? with
        | none => rw [w] at q2; cases q2
        | some d => rw [w] at q2; cases q2; exact .nil
      · refine ⟨.ref D, n2.two, c.rt _ H2 _ q2 n2.st.base ?_⟩
        obtain ⟨ps', w1, w2, w3, w4, w5, w6, w7⟩ := n2.nest
        simp only [Rep]
        refine ⟨D, ps'.map .ref, rfl, hid_of w3 w1, ?_⟩
        have key : ∀ (qs : List Addr) (ls : List (List Da)), qs.length = ls.length → (∀ (i : Nat) p l, qs[i]? = some p → ls[i]? = some l → O0 p = false ∧ ∃ xs, H2 p = some (.lst xs) ∧ RepL K (hid O0 H2) l xs) → RepL K (hid O0 H2) (ls.map .lst) (qs.map .ref) := by
          intro qs
          induction qs with
          | nil =>
            intro ls hl _
            cases ls with
            | nil => exact .nil
            | cons l ls => cases hl
          | cons p qs ih =>
            intro ls hl hk
            cases ls with
            | nil => cases hl
            | cons l ls =>
              obtain ⟨k1, xs, k2, k3⟩ := hk 0 p l rfl rfl
              refine .cons ?_ (ih ls (by simpa using hl) fun i p' l' a1 a2 => hk (i + 1) p' l' (by simpa using a1) (by simpa using a2))
              simp only [Rep]
              exact ⟨p, xs, rfl, hid_of k1 k2, k3⟩
        exact key ps' ll2 w6 fun i p l a1 a2 => by
          obtain ⟨k1, k2, xs, k3, k4⟩ := w7 i p l a1 a2
          exact ⟨k2, xs, k3, k4.mono (hid_sub n2.st.sub)⟩
end
end Sc
/-! Rx8: a def that ends with super().__init__(..). -/
namespace Sc
open PySem L2 PySem.Spec PyProof.Rows
open PySem.W (ksEnv ksFn ks_superIn InstAt)
/-- the context of the body: the cell of __class__ is old -/
def supX (P : Program) (w : World) (K : PySem.W.Frag) (mg : Str → Option Value) (base : Heap) (N : List Str) (qual : Str) (scope : Scope) (f : Addr) (cd : Value) (cc : Addr) (A : Around) (outer : List Env) (s : Shared) (H : Hp) (E : XK) : Cx where
  prog := P
  w := w
  K := K
  mg := mg
  base := base
  A := A.deeper (ksEnv qual scope s.heap.objs.size f cd cc)
  N := N
  s_0 := s
  H_0 := H
  env := ksEnv qual scope s.heap.objs.size f cd cc
  outer := outer
  stack := ksEnv qual scope s.heap.objs.size f cd cc :: outer
  ex := []
  calm := true
  fn := fun x => x != "__class__"
  pn := []
  xe := fun e s' => wpAny (model P w) (A.deeper (ksEnv qual scope s.heap.objs.size f cd cc)) (leaving (ksEnv qual scope s.heap.objs.size f cd cc) e) (fun _ s'' => CX0 outer H s E e s'') (fun e' s'' => CX0 outer H s E e' s'') s'
/-- what the text must hold -/
structure SupAt (P : Program) (K : PySem.W.Frag) (mg : Str → Option Value) (x qual : Str) (st : Stmt) (C D f2 : Addr) (f : Addr) (fd : FuncData) : Prop where
  ex : ∃ (oc ccl cl : Value) (od cdd cld : Option Addr) (dV kV doc pm : Value) (an : Option Addr) (cda cc : Addr) (ct : Value) (osl ccs csl : Array (Option Value)) (vs : Array Value) (file : Str) (tf : Tok) (cdD cdC : ClassData),
    fd = ksFn x qual (defArgs st) (defBody st) (defScope st) dV kV doc pm an (.ref cda) ct cc ∧ K.lookup f = some ⟨oc, od, .func fd, osl⟩ ∧ PySem.W.codeIn K (.ref cda) qual = true ∧
    K.lookup cda = some ⟨ccl, cdd, .fields vs, ccs⟩ ∧ vs[2]? = some (.str file tf) ∧ ((P.main.file : Str) == file) = true ∧ K.lookup cc = some ⟨cl, cld, .cell (some (.ref D)), csl⟩ ∧ PySem.W.clsIn K D = some cdD ∧ PySem.W.clsIn K C = some cdC
  sub : PySem.W.mroIn K C (.ref D) = some true
  sup : ks_superIn K C D "__init__" = some (some (.ref f2))
  ty : PySem.W.typeIn K (.ref f2) = some (.type "function")
  fn : PySem.W.fnIn K f2 = true
  st : PySem.W.nsIn K cStatics "thirdparty.any" = some none
  mgs : mg "super" = none
  top : (P.main.scope.names.lookup ("super" : Str)).isSome = false
/-- its scope -/
structure SupScope (N ps : List Str) (sc : Scope) : Prop where
  kind : sc.kind = .function
  co : sc.isCoroutine = false
  gen : sc.isGenerator = false
  nd : N.Nodup
  pre : N.take ps.length = ps
  par : ∀ x ∈ ps, sc.names.lookup x = some .local
  free : ∀ x, sc.names.lookup x = some .free → x = "__class__"
  nocell : ∀ y ∈ sc.names, y.2 ≠ .cell
  cls : sc.names.lookup ("__class__" : Str) = some .free
  sup : sc.names.lookup ("super" : Str) = some .globalImplicit
  self : ps.head? = some "self"
theorem look_mem {y : Str} {u : Value} : ∀ {l : List (Str × Value)}, (l.map (·.1)).Nodup → (y, u) ∈ l → l.lookup y = some u
  | [], _, h => (nomatch h)
  | (z, v) :: l, hn, h => by
    rw [List.map_cons, List.nodup_cons] at hn
    rw [List.lookup_cons]
    rcases List.mem_cons.mp h with e | e
    · cases e
      rw [beq_self_eq_true]
    · have : (y == z) = false := by
        cases q : y == z with
        | false => rfl
        | true =>
          rw [eq_of_beq q] at e
          exact absurd (List.mem_map.mpr ⟨_, e, rfl⟩) hn.1
      rw [this]
      exact look_mem hn.2 e
theorem zip_look {ps : List Str} {us : List Value} {i : Nat} {y : Str} {u : Value} (hn : ps.Nodup) (h1 : ps[i]? = some y) (h2 : us[i]? = some u) : (ps.zip us).reverse.lookup y = some u := by
  refine look_mem ?_ (List.mem_reverse.mpr (List.mem_of_getElem? (List.getElem?_zip_eq_some.mpr ⟨h1, h2⟩)))
  rw [List.map_reverse]
  refine List.pairwise_reverse.mpr (List.Pairwise.imp (fun h => Ne.symm h) (hn.sublist (?_ : List.Sublist _ _)))
  exact (by
    have : (ps.zip us).map (·.1) = ps.take us.length := by
      apply List.ext_getElem?
      intro j
      rw [List.getElem?_map, List.zip_eq_zipWith, List.getElem?_zipWith, List.getElem?_take]
      by_cases q : j < us.length
      · rw [if_pos q, List.getElem?_eq_getElem q]
        cases ps[j]? <;> rfl
      · rw [if_neg q, List.getElem?_eq_none (l := us) (by omega)]
        cases ps[j]? <;> rfl
    rw [this]
    exact List.take_sublist _ _)
theorem sup_start {P : Program} {w : World} {K : PySem.W.Frag} {mg : Str → Option Value} {base : Heap} {N ps : List Str} {qual : Str} {scope : Scope} {f cc : Addr} {cd cl : Value} {cld : Option Addr} {csl : Array (Option Value)} {D : Addr} {A : Around} {outer : List Env} {s : Shared} {h₁ : Heap} {t : Nat} {H : Hp} {E : XK} {us : List Value} {vs : List V}
    (S : SupScope N ps scope) (hd : A.handled = none) (e0 : Env0 P w K mg base A outer s H) (hl : vs.length = ps.length) (r : Vals vs us) (hcell : K.lookup cc = some ⟨cl, cld, .cell (some (.ref D)), csl⟩)
    (hns : h₁.Ns s.heap.objs.size (fun x => (ps.zip us).reverse.lookup x)) (hk : ∀ b o, s.heap.get? b = some o → h₁.get? b = some o) :
    Inv (supX P w K mg base N qual scope f cd cc A outer s H E) [] (L2.start N vs) H { s with heap := h₁, toks := t } := by
  have hpl : ps.length ≤ N.length := by have := congrArg List.length S.pre; rw [List.length_take] at this; omega
  have only : ∀ {x c}, (supX P w K mg base N qual scope f cd cc A outer s H E).env.cells.lookup x = some c → x = "__class__" ∧ c = cc := fun {x c} h => by
    have h : ([("__class__", cc)] : List (Str × Addr)).lookup x = some c := h
    rw [List.lookup_cons] at h
    cases q : x == "__class__" with
    | true => rw [q] at h; cases h; exact ⟨eq_of_beq q, rfl⟩
    | false => rw [q] at h; cases h
  have hbc : base.get? cc = some ⟨cl, cld, .cell (some (.ref D)), csl⟩ := e0.mod.kin _ _ hcell
  have hsc := (e0.bs _ _ hbc).1
  have noA : ∀ b : Addr, b ∉ (supX P w K mg base N qual scope f cd cc A outer s H E).ex := fun b z => absurd (show b ∈ ([] : List Addr) from z) (by simp)
  refine ⟨⟨e0.mod, S.kind, rfl, rfl, Nat.le_refl _, fun y z c h1 h2 => by rw [(only h1).1, (only h2).1], fun y hy => ?_, fun y c h1 h => ?_, fun _ => hd, Around.frames_deeper e0.frames, .inr ⟨rfl, rfl⟩, fun b z => absurd z (noA b), e0.bs, e0.bsz, fun b _ _ => noA b, fun b z => absurd z (noA b), e0.funs, e0.frf⟩,
    rfl, e0.bare, Un.kept hk, ⟨_, hns, fun i y v h1 h2 h3 => ?_⟩, fun y c h => ?_, e0.hok.fresh (Nat.le_refl _), fun y c h => ?_, fun p hp => absurd (show p ∈ ([] : List (Addr × Obj)) from hp) (by simp), e0.hok.kept hk, ?_⟩
  · rcases hy with hy | hy
    · exact absurd rfl (S.nocell _ (PySem.mem_of_lookup (show scope.names.lookup y = some .cell from hy)))
    · rw [S.free y hy]
      exact ⟨cc, rfl⟩
  · rw [(only h).1] at h1
    exact nomatch (show (("__class__" : Str) != "__class__") = true from h1)
  · have hi : i < vs.length := by
      unfold L2.start at h2
      by_cases hi : i < vs.length
      · exact hi
      · rw [List.getElem?_append_right (by simpa using hi)] at h2
        rw [List.getElem?_replicate] at h2
        split at h2 <;> cases h2
    have ha : vs[i]? = some v := by
      unfold L2.start at h2
      rw [List.getElem?_append_left (by simpa using hi), List.getElem?_map] at h2
      cases e : vs[i]? with
      | none => rw [e] at h2; cases h2
      | some a => rw [e] at h2; cases h2; rfl
    obtain ⟨u, hu, rv⟩ := r.get ha
    have hp : ps[i]? = some y := by
      rw [← S.pre, List.getElem?_take_of_lt (by omega)]; exact h1
    have ndP : ps.Nodup := by rw [← S.pre]; exact S.nd.sublist (List.take_sublist _ _)
    refine ⟨u, rv, .inl ⟨S.par y (List.mem_of_getElem? hp), ?_⟩⟩
    exact zip_look ndP hp hu
  · rw [(only h).2]
    exact ⟨_, _, hk _ _ hsc, rfl⟩
  · rw [(only h).2]
    exact (e0.bs _ _ hbc).2
  · unfold L2.start
    show _ = N.length
    rw [List.length_append, List.length_map, List.length_replicate]
    omega
/-- super().__init__(..) as the last statement -/
def tSup (C : Addr) (sp : Sp) (ta : TA) : TS := fun D σ H => ∃ x dx fs, σ[0]? = some (some (.ref x)) ∧ H x = some (.ins C dx fs) ∧ ta σ H fun vs H2 => sp (.ref x :: vs) H2 (fun _ H3 => D.nx σ H3) E0
/-- THE RULE of such a def -/
theorem okSup {P : Program} {w : World} {K : PySem.W.Frag} {mg : Str → Option Value} {base : Heap} {x qual : Str} {st s1 : Stmt} {C D f2 f : Addr} {fd fd2 : FuncData} {N ps ps2 : List Str} {k : Nat} {sp sp2 : Sp} {e : Expr} {es : List Expr} {p0 p1 apos cpos spos : Pos}
    (F : SupAt P K mg x qual st C D f2 f fd) (S : SupScope N ps (defScope st)) (hN : N[0]? = some ("self" : Str)) (hbd : defBody st = [s1, .Expr (.Call (.Attribute (.Call (.Name "super" p0) [] [] p1) "__init__" apos) (e :: es) [] cpos) spos])
    (hpa : ((defArgs st).posonlyargs ++ (defArgs st).args).head?.map (·.arg) = some ("self" : Str))
    (F2 : FnOk P w K mg base CX0 k f2 fd2 ps2 sp2) (hb2 : Binds K fd2 ps2 []) (hint : ∀ L a cd cc, interactive (ksEnv qual (defScope st) L a cd cc) = false) (len : ∀ vs H Q E, sp vs H Q E → vs.length = ps.length)
    (hbody : ∀ (cdv : Value) (cc : Addr) (A : Around) (outer : List Env) (s : Shared) (H : Hp) (vs : List V) (Q : VK) (E : XK), Room k (A.deeper (ksEnv qual (defScope st) s.heap.objs.size f cdv cc)) → sp vs H Q E →
      ∃ t1 ta, PS (supX P w K mg base N qual (defScope st) f cdv cc A outer s H E) s1 t1 ∧ PA (supX P w K mg base N qual (defScope st) f cdv cc A outer s H E) (e :: es) ta ∧
        (starEach (e :: es) (ksEnv qual (defScope st) s.heap.objs.size f cdv cc) = (false, eval e (ksEnv qual (defScope st) s.heap.objs.size f cdv cc)) :: starEach es (ksEnv qual (defScope st) s.heap.objs.size f cdv cc)) ∧
        ((backTo cpos (starEach es (ksEnv qual (defScope st) s.heap.objs.size f cdv cc))).any (·.1) = false) ∧ swapsWith (.Call (.Attribute (.Call (.Name "super" p0) [] [] p1) "__init__" apos) (e :: es) [] cpos) none spos.line (ksEnv qual (defScope st) s.heap.objs.size f cdv cc) = pure false ∧
        (∃ pl : Sem Bool, eval (.Call (.Attribute (.Call (.Name "super" p0) [] [] p1) "__init__" apos) (e :: es) [] cpos) (ksEnv qual (defScope st) s.heap.objs.size f cdv cc) = (do
          let ov ← attributeBase (.Call (.Name "super" p0) [] [] p1) "__init__" (ksEnv qual (defScope st) s.heap.objs.size f cdv cc) (eval (.Call (.Name "super" p0) [] [] p1) (ksEnv qual (defScope st) s.heap.objs.size f cdv cc))
          standAt apos.atName
          let (f', first) ← holding [ov] (getMethod ov "__init__" pl)
          callWith cpos f' first (backTo cpos (starEach (e :: es) (ksEnv qual (defScope st) s.heap.objs.size f cdv cc))) [])) ∧
        (tSeq t1 (tSup C sp2 ta)) { nx := fun _ H' => Q .non H', rt := fun _ _ => False } (L2.start N vs) H) : FnOk P w K mg base CX0 (k + 1) f fd ps sp := by
  obtain ⟨oc, ccl, cl, od, cdd, cld, dV, kV, doc, pm, an, cda, cc, ct, osl, ccs, csl, vsC, file, tf, cdD, cdC, rfl, lk, hcd, lcode, hvs, hfile, lcell, hD, hC⟩ := F.ex
  refine ⟨len, fun A outer s H args us vs Q E hr e0 hb r hsp => ?_⟩
  have hl := len _ _ _ _ hsp
  have KX : K.In s.heap := e0.mod.kin.keeps fun b o e => (e0.bs b o e).1
  have lim : s.heap.NoLimit := e0.mod.nolimit.keeps fun b o e => (e0.bs b o e).1
  refine ks_codeAny_call_defAt (fd := ksFn x qual (defArgs st) (defBody st) (defScope st) dV kV doc pm an (.ref cda) ct cc) (body := defBody st) hr.depth (KX _ _ lk) rfl lim (PySem.W.codeRec_of KX hcd) rfl hb S.nocell (fun y hy => S.par _ (List.of_mem_zip hy).1) (fun h₁ hns hk => ?_) S.co S.gen S.kind
  show PySem.wpAt _ (A.deeper (ksEnv qual (defScope st) s.heap.objs.size f (.ref cda) cc)) (.func (defBody st) (ksEnv qual (defScope st) s.heap.objs.size f (.ref cda) cc)) (execs (defBody st) (ksEnv qual (defScope st) s.heap.objs.size f (.ref cda) cc)) _ _ _
  obtain ⟨t1, ta, ht1, hta, hst, hpl, hsw, ⟨pl, hcall⟩, hq⟩ := hbody (.ref cda) cc A outer s H vs Q E (hr.deeper _) hsp
  have I : Inv (supX P w K mg base N qual (defScope st) f (.ref cda) cc A outer s H E) [] (L2.start N vs) H { s with heap := h₁, toks := s.toks + (ps.zip us).length } := sup_start S hr.hd e0 hl r lcell hns hk
  generalize hX : supX P w K mg base N qual (defScope st) f (.ref cda) cc A outer s H E = X at I ht1 hta
  have XA : X.A = A.deeper (ksEnv qual (defScope st) s.heap.objs.size f (.ref cda) cc) := by rw [← hX]; rfl
  have Xenv : X.env = ksEnv qual (defScope st) s.heap.objs.size f (.ref cda) cc := by rw [← hX]; rfl
  have z := ht1.run [] _ _ _ _ I hq
  subst hX
  rw [hbd]
  refine PySem.ks_wpAt_execs_cons (PySem.wpAt_of_wpAny (wpAny_mono z (fun fl s1 hs => ?_) fun e s' hx => hx))
  cases fl with
  | brk => obtain ⟨_, _, _, q⟩ := hs; exact q.elim
  | cont => obtain ⟨_, _, _, q⟩ := hs; exact q.elim
  | ret u => obtain ⟨_, _, _, _, _, q⟩ := hs; exact q.elim
  | next =>
    obtain ⟨σ1, H1, I1, x1, dx, fs, hσ, hx1, q⟩ := hs
    refine PySem.ks_wpAt_execs_cons (PySem.ks_wpAt_Expr_any (PySem.ks_wpAt_MethodCall (pl := pl) ?_ hcall) (hint _ _ _ _) hsw)
    obtain ⟨ar, har, harg⟩ : ∃ ar, ((defArgs st).posonlyargs ++ (defArgs st).args).head? = some ar ∧ ar.arg = "self" := by
      cases w : ((defArgs st).posonlyargs ++ (defArgs st).args).head? with
      | none => rw [w] at hpa; cases hpa
      | some ar => rw [w] at hpa; exact ⟨ar, rfl, Option.some.inj hpa⟩
    have Kin := I1.kIn
    obtain ⟨oD, hD1, hD2⟩ : ∃ oD, s1.heap.get? D = some oD ∧ oD.data = .cls cdD := by
      unfold PySem.W.clsIn at hD
      split at hD
      · rename_i c d cd' sl ho
        cases hD
        exact ⟨_, Kin _ _ ho, rfl⟩
      · cases hD
    refine PySem.ks_wpAt_super_base (env := ksEnv qual (defScope st) s.heap.objs.size f (.ref cda) cc) S.sup S.cls (by decide) rfl (Kin _ _ lk) rfl har rfl (Kin _ _ lcode) rfl hvs hfile F.top ?_
    have hself : (defScope st).names.lookup ("self" : Str) = some .local := S.par _ (List.mem_of_mem_head? S.self)
    obtain ⟨mA, OO, _⟩ := ins_get I1.hok hx1
    obtain ⟨odx, J, _⟩ := OO.look
    obtain ⟨m, hn, hslots⟩ := I1.loc
    obtain ⟨u, ru, lku⟩ := hslots 0 "self" (.ref x1) hN hσ (.inl hself)
    obtain rfl : u = Value.ref x1 := ru
    have hm : m "self" = some (.ref x1) := by
      rcases lku with ⟨_, z⟩ | ⟨z, _⟩
      · exact z
      · rcases z with z | z
        · exact nomatch (hself.symm.trans z : some NameKind.local = some NameKind.cell)
        · exact nomatch (hself.symm.trans z : some NameKind.local = some NameKind.free)
    obtain ⟨mb, g1, g2⟩ := I1.mod.blt
    refine PySem.W.ks_loadName_global S.kind S.sup (Calls.loadGlobal_builtin (I1.mod.glob.keeps I1.bk) F.mgs (g1.keeps I1.bk) ((g2 "super" (by decide)).trans (by decide +kernel)) ⟨rfl, ?_⟩)
    refine wpAny_loadName_free S.kind S.cls rfl ⟨_, Kin _ _ lcell, rfl⟩ ?_
    rw [harg]
    refine wpAny_loadName_local S.kind hself hn hm ?_
    obtain ⟨hh, g, d, tt, os⟩ := s1
    refine ks_wpAny_isType_cls hD1 hD2 ⟨rfl, ?_⟩
    refine ks_wpAny_call_super hD1 hD2 J.at_ J.cls (fun c e => ?_) (PySem.W.looks_mroIn Kin F.sub) (fun h' e k => ?_)
    · have := J.no
      unfold PySem.W.notCls at this
      rw [e] at this
      exact Bool.noConfusion this
    · have I2 := ClX.pin_new (t' := tt) I1 k (Nat.le_refl _) e (fun v z => nomatch z)
      have Kin2 := I2.kIn
      have hf2 : ∃ of, h'.get? f2 = some of ∧ of.cls = .type "function" := by
        have ht' : (K.lookup f2).map (·.cls) = some (.type "function") := F.ty
        cases z : K.lookup f2 with
        | none => rw [z] at ht'; cases ht'
        | some of => rw [z] at ht'; exact ⟨of, Kin2 _ _ z, Option.some.inj ht'⟩
      obtain ⟨of, hof, hofc⟩ := hf2
      have hsup := F.sup
      unfold ks_superIn at hsup
      rw [hC] at hsup
      refine ks_wpAny_getMethod_super e (PySem.W.looks_opaque Kin2 F.st) (l₀ := cdC.mro) ?_ rfl Kin2 hsup hof hofc (PySem.W.ks_ne Kin J hC) (by decide) ?_
      · exact fun A Q E s k q => wpAny_bind ((PySem.W.looks_clsIn Kin2 hC) A _ E s k (wpAny_pure q))
      · have I3 := ClX.met_new (g := f2) (C := x1) I2
        have I3 := I3.pins_of fun p hp => I3.pin p (List.mem_append_right _ hp)
        have hb : base.get? h'.objs.size = none := by
          cases w : base.get? h'.objs.size with
          | none => rfl
          | some o =>
            have := Heap.lt_size (I2.bk _ _ w)
            exact absurd this (Nat.lt_irrefl _)
        refine ClX.callwith_cm I3 hb F.fn (thn (hta.run cpos _ _ σ1 H1 _ I3 q) fun us2 s4 ⟨vs2, H2, I4, r2, q2⟩ => ⟨?_, ?_⟩) hst hpl
        · exact ⟨ClX.pin_at I4, I4.kIn⟩
        · have hF := F2.raw hb2 .nil
          refine thn (ClX.run_cm (Q := fun _ H3 => Q .non H3) (E := E0) (sp := fun vs H Q E => sp2 (vs ++ []) H Q E) hF (hr.deeper _) pass0 I4 r2 (by rw [List.append_nil]; exact q2)) fun u s5 ⟨v, H5, I5, _, q5⟩ => ?_
          refine PySem.wpAt_of_wpAny (wpAny_execs_nil ?_)
          exact ⟨.non, H5, I5.os, I5.bare, I5.base, I5.hok, rfl, q5⟩
section
variable {K : PySem.W.Frag} {G : List SD} {ta : TA} {nx bk ct : List SD → Prop} {rt : Da → Prop}
theorem ho_sup {C p : Addr} {fs : List (Str × Da)} {W : WPI} (h : G[0]? = some (.ino p C fs)) (q : EvA K ta G fun ds => W fs ds fun fs' => nx (G.set 0 (.ino p C fs'))) : Ho K (tSup C (spI K C W) ta) G nx rt bk ct := fun B O0 O σ H E s c => by
  obtain ⟨dx, gs, h1, h2, h3, h4⟩ := s.st.slot 0 _ h
  refine ⟨p, dx, gs, h1, h3, q O σ H s.st _ fun vs H1 ds hw e1 r1 => ?_⟩
  have s1 := s.mono e1
  refine ⟨O, p, dx, gs, fs, vs, ds, _, rfl, e1 _ _ h3, h2, s1.st.there, h4.mono (hid_mono e1), r1, hw, fun H' dx' gs' fs' hn kp hx' rf => ?_⟩
  have Bp := s.fineI 0 p C fs h
  have fr : Same (hid O H1) (hid O H') := fun b o y => by
    obtain ⟨y1, y2⟩ := hid_some y
    exact hid_of y1 (kp b o (fun z => by rw [z, h2] at y1; cases y1) y2)
  refine c.nx O σ H' _ hn ⟨⟨by rw [s.st.len, List.length_set], fun a y => ?_, fun j sd y => ?_, fun j k si sj a q1 q2 m1 m2 => ?_⟩, fun b o y => ?_, s.sub, s.off, fun j l a y1 y2 => ?_, fun j a C2 fs2 y => ?_⟩
  · by_cases z : a = p
    · rw [z, hx']; intro w; cases w
    · intro w
      cases v : H1 a with
      | none => exact s1.st.there a y v
      | some o => rw [kp a o z v] at w; cases w
  · rcases get_set y with ⟨rfl, rfl⟩ | ⟨n, y'⟩
    · exact ⟨dx', gs', h1, h2, hx', rf⟩
    · have z := s1.st.slot j sd y'
      have dis : ∀ a, sd.mine = true → σ[j]? = some (some (.ref a)) → a ≠ p := fun a hm e ea => by
        subst ea
        exact n (s.st.apart 0 j _ _ a h y' rfl hm h1 e)
      cases sd with
      | un => trivial
      | val d =>
        obtain ⟨v, z1, z2⟩ := z
        exact ⟨v, z1, z2.mono fr⟩
      | own l2 =>
        obtain ⟨a, ys, z1, z2, z3, z4⟩ := z
        exact ⟨a, ys, z1, z2, kp _ _ (dis a rfl z1) z3, z4.mono fr⟩
      | ino a C fs =>
        obtain ⟨dx, gs, z1, z2, z3, z4⟩ := z
        exact ⟨dx, gs, z1, z2, kp _ _ (dis a rfl z1) z3, z4.mono fr⟩
  · have key : ∀ (j : Nat) (si : SD), (G.set 0 (.ino p C fs'))[j]? = some si → si.mine = true → ∃ sk, G[j]? = some sk ∧ sk.mine = true := fun j si q m => by
      rcases get_set q with ⟨rfl, rfl⟩ | ⟨n, q'⟩
      · exact ⟨_, h, rfl⟩
      · exact ⟨_, q', m⟩
    obtain ⟨s1', g1, n1⟩ := key j si q1 m1
    obtain ⟨s2', g2, n2⟩ := key k sj q2 m2
    exact s.st.apart j k s1' s2' a g1 g2 n1 n2
  · exact kp b o (fun z => by rw [z, Bp] at y; cases y) (s1.base b o y)
  · rcases get_set y1 with ⟨_, z⟩ | ⟨_, y1⟩
    · cases z
    · exact s.fine j l a y1 y2
  · rcases get_set y with ⟨_, z⟩ | ⟨_, y⟩
    · cases z
      exact Bp
    · exact s.fineI j a C2 fs2 y
end
end Sc
/-! Rx9: a dict comprehension whose keys are tuples of ints (the walk of HandS/DictComp, the dict of the other kind). -/
namespace Sc
open PySem L2 PySem.Spec PyProof.Rows
theorem d_dictSetT {X : Cx} {pins : List (Addr × Obj)} {σ : L2.St} {H : Hp} {s : Shared} {E : Value → Shared → Prop} {D b : Addr} {kvs : List (List Key × V)} {k : List Key} {v : V} {r : Value} {Q : Unit → Shared → Prop} (hu : X.A.units < cLine) (I : Inv X pins σ H s) (hD : H D = some (.dT kvs)) (eb : H b = some (.tup (k.map kV))) (hz : kvs.length < sizeLine)
    (rv : RelV v r) (h : ∀ s', Inv X pins σ (upd H D (.dT (putK kvs k v))) s' → Q () s') : wpAny (model X.prog X.w) X.A (dictSet D (.ref b) r) Q E s := by
  obtain ⟨z, hd, xs, rel, dd⟩ := dt_of I.hok hD
  have hzv : xs.length ≤ sizeLine := by rw [← Paired.length rel]; exact z
  have hl : (putK kvs k v).length ≤ sizeLine := by have := length_putK kvs k v; omega
  refine wpAny_dictSet_heap (hsz := hzv) (show (tupleKind (mixKind X.prog X.w)).room X.A from hu) (key_of I.hok eb) dd fun h' dd' hs => h _ ?_
  obtain ⟨q, es, ep, hq, h2, h3, h4, _, h5⟩ := dd'
  refine d_write I (by rw [hD]; exact True.intro) hs ⟨q, hq⟩ ⟨hl, hd, _, (rel.put k eb rv).keeps fun c ys ec => ?_, q, es, ep, hq, h2, h3, h4, h5⟩
  rw [upd_ne (ne_of ec hD (fun z => nomatch z))]
  exact ec
section
variable {X : Cx}
def tDcT (wi : TI) (g : TG) (tt : TT) (tk tv : TE) (vs : List Nat) : TE := fun σ H Q => wi σ H fun J H1 => ∀ D, H1 D = none → ∃ W : Nat → Nat → Hp → Prop, (∃ m, W 0 m (upd H1 D (.dT []))) ∧ ∀ i m H, W i m H →
  (J.stop i H ∧ Q (.ref D) H) ∨ (J.go i H ∧ ∃ Nx : Hp → Prop, (∀ H', Nx H' → ∃ m', m' < m ∧ W (i + 1) m' H') ∧ ∀ x H', J.yld i H x H' → g x (wipe σ vs) H' fun σ2 H2 => wipe σ2 vs = wipe σ vs ∧ tt σ2 H2 fun b H3 =>
    if b = true then tk σ2 H3 fun y H4 => tv σ2 H4 fun z H5 => ∃ kvs k kb, y = .ref kb ∧ H5 kb = some (.tup (k.map kV)) ∧ H5 D = some (.dT kvs) ∧ kvs.length < sizeLine ∧ Nx (upd H5 D (.dT (putK kvs k z))) else Nx H3)
theorem dcT_core {pins : List (Addr × Obj)} {s : Shared} {σ : L2.St} {H : Hp} {Q : VK} {kx vx tg iter : Expr} {ifs : List Expr} {scope : Scope} {own : List (Str × Nat)} {pos pos' : Pos} {wi : TI} {g : TG} {tt : TT} {tk tv : TE} {use : Option (Value → Sem Unit)} {Qf : Value → Shared → Prop}
    (hu : X.A.units + 1 < cLine) (hc : X.calm = true) (hN : X.N.Nodup) (I : Inv X pins σ H s) (hi : PI X tg iter wi) (ok : BlkOk X.N X.env.scope scope own)
    (hg : ∀ (s : Shared) (H : Hp) (C : Addr) (cl : List (Str × Addr)) (fp : List Addr), PG (X.blk s H scope (compEnvC scope cl C X.env) fp) tg g) (ht : ∀ (s : Shared) (H : Hp) (C : Addr) (cl : List (Str × Addr)) (fp : List Addr), PTs (X.blk s H scope (compEnvC scope cl C X.env) fp) ifs tt)
    (hk : ∀ (s : Shared) (H : Hp) (C : Addr) (cl : List (Str × Addr)) (fp : List Addr), PE (X.blk s H scope (compEnvC scope cl C X.env) fp) kx tk)
    (he : ∀ (s : Shared) (H : Hp) (C : Addr) (cl : List (Str × Addr)) (fp : List Addr), PE (X.blk s H scope (compEnvC scope cl C X.env) fp) vx tv) (hs : ∀ x, foldedSetIterable iter X.env x = pure x)
    (h : tDcT wi g tt tk tv (own.map (·.2)) σ H Q)
    (hRR : ∀ D C s' m H', Inv X pins σ H' s' → Q (.ref D) H' → s'.heap.Ns C m → FpOk X pins H' C → compPost (model X.prog X.w) X.A X.xe use Qf (.ref D) C (.ok .next) s') :
    wpAny (model X.prog X.w) X.A (comprehension (.DictComp kx vx [⟨tg, iter, ifs, 0⟩] scope pos) scope X.env pos' newDict false (eval iter X.env) use) Qf X.xe s := by
  have hfree : ∀ y ∈ scope.names, y.2 = .free → ∃ c, X.env.cells.lookup y.1 = some c := fun y hy e => by
    rcases ok.free y hy e with k | k
    · exact I.ok.has _ (.inl k)
    · exact I.ok.has _ (.inr k)
  refine wpAny_comprehension_free (use := use) rfl hs (closure_ok hfree) ok.kind (fun y hy e => by rw [ok.uniq y hy, e])
    (thn (hi.run pins s σ H _ I h) fun xv s1 hx => thn hx fun itv s2 h2 => ?_)
  obtain ⟨it, fp, tn, J, H2, e, I2, T, st2, f2, q⟩ := h2
  subst e
  refine wpAny_newObj_type (newEnv_comp ?_)
  generalize hD : s2.heap.objs.size = D
  have hDn : H2 D = none := I2.hok.fresh (Nat.le_of_eq hD)
  obtain ⟨W, ⟨m0, w0⟩, turn⟩ := q D hDn
  -- the new list
  generalize hs3 : ({ s2 with heap := s2.heap.push { cls := .type "dict", data := .dict #[] } } : Shared) = s3
  have I3 : Inv X pins σ (upd H2 D (.dT [])) s3 := by
    rw [← hs3]
    refine I2.laid (t' := s2.toks) (fun b o e => Heap.get?_push_of_some _ e) (Nat.le_of_eq hD) ?_
    rw [← hD]
    exact dt_empty s2.heap I2.big
  have h3 : s3.heap = s2.heap.push { cls := .type "dict", data := .dict #[] } := by rw [← hs3]
  have sz : ∀ b ∈ fp, b < s2.heap.objs.size := fun b hb => by
    obtain ⟨o, e, _⟩ := T.obj _ _ st2 b hb
    exact Heap.lt_size e
  have f3 : ∀ b ∈ fp, FpOk X pins (upd H2 D (.dT [])) b ∧ b < s3.heap.objs.size := fun b hb => by
    have hlt := sz b hb
    refine ⟨⟨?_, (f2 b hb).2⟩, by rw [h3, Heap.size_push]; exact Nat.lt_succ_of_lt hlt⟩
    rw [upd_ne (by rw [← hD]; exact Nat.ne_of_lt hlt)]
    exact (f2 b hb).1
  have st3 : tn 0 s3.heap := T.keep _ _ _ st2 fun b _ o e => by rw [h3]; exact Heap.get?_push_of_some _ e
  have I4 := block_start I3 ok hN f3
  have pg := hg s3 (upd H2 D (.dT [])) s3.heap.objs.size (cellsFrom (s3.heap.objs.size + 1) scope.names (cloFrom X.env.cells scope.names [])) fp
  have pt := ht s3 (upd H2 D (.dT [])) s3.heap.objs.size (cellsFrom (s3.heap.objs.size + 1) scope.names (cloFrom X.env.cells scope.names [])) fp
  have pk := hk s3 (upd H2 D (.dT [])) s3.heap.objs.size (cellsFrom (s3.heap.objs.size + 1) scope.names (cloFrom X.env.cells scope.names [])) fp
  have pe := he s3 (upd H2 D (.dT [])) s3.heap.objs.size (cellsFrom (s3.heap.objs.size + 1) scope.names (cloFrom X.env.cells scope.names [])) fp
  show codeAny _ _ (.compStart (.DictComp kx vx [⟨tg, iter, ifs, 0⟩] scope pos) 0 (.ref it) (.ref D) (compEnvC scope (cellsFrom (s3.heap.objs.size + 1) scope.names (cloFrom X.env.cells scope.names [])) s3.heap.objs.size X.env)) (compPost (model X.prog X.w) X.A X.xe use Qf (.ref D) s3.heap.objs.size) { s3 with heap := pushCells (s3.heap.push { cls := .type "dict", data := .dict #[] }) scope.names }
  have nfp : ∀ b ∈ fp, (upd H2 D (.dT [])) b = none := fun b hb => (f3 b hb).1.1
  generalize hce : compEnvC scope (cellsFrom (s3.heap.objs.size + 1) scope.names (cloFrom X.env.cells scope.names [])) s3.heap.objs.size X.env = ce at I4 pg pt pk pe ⊢
  have cL : ce.locals = s3.heap.objs.size := by subst hce; rfl
  generalize hH3 : upd H2 D (.dT []) = H3 at I3 I4 pg pt pk pe w0 nfp f3
  generalize hs4 : ({ s3 with heap := pushCells (s3.heap.push { cls := .type "dict", data := .dict #[] }) scope.names } : Shared) = s4 at I4 ⊢
  have st4 : tn 0 s4.heap := T.keep _ _ _ st3 fun b _ o e => by rw [← hs4]; exact pushCells_keeps _ _ _ _ (Heap.get?_push_of_some _ e)
  have stat : ∀ {σ' : L2.St} {H' : Hp} {s' : Shared}, Inv (X.blk s3 H3 scope ce fp) [] σ' H' s' → (∀ b ∈ fp, H' b = none) → ∀ b ∈ fp, FpOk (X.blk s3 H3 scope ce fp) [] H' b := fun {σ' H' s'} I' hn b hb =>
    ⟨hn b hb, (I'.ok.exf b hb).1, I'.ok.exfs b hb, .inl hb, fun x c e => (I'.ok.exf b hb).2 x c e, fun p hp => absurd (show p ∈ ([] : List (Addr × Obj)) ++ [] from hp) (by simp)⟩
  have loop : codeAny (model X.prog X.w) X.A (.compLoop (.DictComp kx vx [⟨tg, iter, ifs, 0⟩] scope pos) 0 (.ref it) (.ref D) ce) (compPost (model X.prog X.w) X.A X.xe use Qf (.ref D) s3.heap.objs.size) s4 := by
    refine compLoop_anyD (fun n s' => ∃ i H', Inv (X.blk s3 H3 scope ce fp) [] (wipe σ (own.map (·.2))) H' s' ∧ tn i s'.heap ∧ (∀ b ∈ fp, H' b = none) ∧ W i n H') ?_ m0 ⟨0, H3, I4, st4, nfp, w0⟩
    rintro n s5 ⟨i, H5, I5, st5, n5, w5⟩
    rcases turn i n H5 w5 with ⟨stop, qq⟩ | ⟨go, Nx, hNx, step⟩
    · have td := T.done (X.blk s3 H3 scope ce fp) rfl rfl rfl hc i [] s5 _ H5 (fun _ _ => False) I5 (stat I5 n5) st5 stop
      refine thnF td fun r s6 ⟨hr, I6⟩ => ?_
      subst hr
      -- back in the def's context
      have I7 : Inv X pins σ H5 s6 := I3.call' (ch := fp) I6.os I6.base I6.hok I6.bare fun b hb => ⟨(f3 b hb).1.2.2.2.1, (f3 b hb).1.2.1, (f3 b hb).1.2.2.2.2.1, (f3 b hb).1.2.2.2.2.2⟩
      have nC : H5 s3.heap.objs.size = none := by
        have z : H5 ce.locals = none := I6.free
        rw [cL] at z
        exact z
      obtain ⟨m, hn, _⟩ := I6.loc
      have hn : s6.heap.Ns ce.locals m := hn
      rw [cL] at hn
      exact hRR D s3.heap.objs.size s6 m H5 I7 qq hn (I3.fpOk (Nat.le_refl _) nC)
    · have ti := T.item (X.blk s3 H3 scope ce fp) rfl rfl rfl hc i [] s5 _ H5 (fun _ _ => False) I5 (stat I5 n5) st5 go
      refine thnF ti fun r s6 ⟨u, hr, h6⟩ => ?_
      subst hr
      refine thnF h6 fun _ s7 ⟨x, H7, I7, r7, y7, st7, n7⟩ => ?_
      have I7' := I7.pinned (stat I7 n7) (T.obj _ _ st7)
      refine thnF (pg.run _ s7 _ H7 x u _ I7' r7 (step x H7 y7)) fun _ s8 ⟨σ8, H8, I8, hw8, q8⟩ => ?_
      refine thnF (pt.run _ s8 σ8 H8 _ I8 q8) fun b s9 ⟨H9, I9, q9⟩ => ?_
      -- the turn's end
      have fin : ∀ {s' : Shared} {H' : Hp}, Inv (X.blk s3 H3 scope ce fp) ([] ++ pinsAt fp s7.heap) σ8 H' s' → Nx H' → ∃ m, m < n ∧ ∃ i H', Inv (X.blk s3 H3 scope ce fp) [] (wipe σ (own.map (·.2))) H' s' ∧ tn i s'.heap ∧ (∀ b ∈ fp, H' b = none) ∧ W i m H' := fun {s' H'} I' nx => by
        obtain ⟨m', hm, w'⟩ := hNx H' nx
        have pin' : ∀ b ∈ fp, ∀ o, s7.heap.get? b = some o → s'.heap.get? b = some o ∧ H' b = none := fun b hb o e =>
          let z := I'.pin (b, o) (List.mem_append_right _ (List.mem_append_right _ (mem_pinsAt hb e)))
          ⟨z.1, z.2.1⟩
        have hl : (wipe σ (own.map (·.2))).length = σ8.length := by rw [← hw8, wipe_length]
        refine ⟨m', hm, i + 1, H', (I'.unpinned (pins := [])).weak hl (fun j v e => ?_), T.keep _ _ _ st7 fun b hb o e => (pin' b hb o e).1, fun b hb => ?_, w'⟩
        · rw [← hw8] at e
          exact (wipe_some e).1
        · obtain ⟨o, e, _⟩ := T.obj _ _ st7 b hb
          exact (pin' b hb o e).2
      cases b with
      | false =>
        simp only [Bool.false_eq_true, if_false] at q9 ⊢
        exact fin I9 q9
      | true =>
        simp only [if_true] at q9 ⊢
        refine thnF (pk.run _ s9 σ8 H9 _ I9 q9) fun z s10 ⟨yk, H10, I10, r10, q10⟩ => ?_
        refine thnF (pe.run _ s10 σ8 H10 _ I10 q10) fun z2 s11 ⟨yv, H11, I11, r11, kvs, k, kb, ek, hb11, hD11, hz11, nx⟩ => ?_
        subst ek
        cases (show z = Value.ref kb from r10)
        exact d_dictSetT (X := X.blk s3 H3 scope ce fp) (Nat.lt_of_le_of_lt (Nat.le_succ _) hu) I11 hD11 hb11 hz11 r11 fun s12 I12 => fin I12 nx
  exact codeAny_compStart_dict loop (T.self X.A 0 _ _ _ st4 loop)
/-- as a value -/
theorem pe_dcT {kx vx tg iter : Expr} {ifs : List Expr} {scope : Scope} {own : List (Str × Nat)} {pos : Pos} {wi : TI} {g : TG} {tt : TT} {tk tv : TE} (hu : X.A.units + 1 < cLine) (hc : X.calm = true) (hN : X.N.Nodup) (hi : PI X tg iter wi) (ok : BlkOk X.N X.env.scope scope own)
    (hg : ∀ (s : Shared) (H : Hp) (C : Addr) (cl : List (Str × Addr)) (fp : List Addr), PG (X.blk s H scope (compEnvC scope cl C X.env) fp) tg g) (ht : ∀ (s : Shared) (H : Hp) (C : Addr) (cl : List (Str × Addr)) (fp : List Addr), PTs (X.blk s H scope (compEnvC scope cl C X.env) fp) ifs tt)
    (hk : ∀ (s : Shared) (H : Hp) (C : Addr) (cl : List (Str × Addr)) (fp : List Addr), PE (X.blk s H scope (compEnvC scope cl C X.env) fp) kx tk)
    (he : ∀ (s : Shared) (H : Hp) (C : Addr) (cl : List (Str × Addr)) (fp : List Addr), PE (X.blk s H scope (compEnvC scope cl C X.env) fp) vx tv) (hs : ∀ x, foldedSetIterable iter X.env x = pure x := by intro _; rfl) :
    PE X (.DictComp kx vx [⟨tg, iter, ifs, 0⟩] scope pos) (tDcT wi g tt tk tv (own.map (·.2))) := by
  refine ⟨fun pins s σ H Q I h => ?_⟩
  rw [arm_eval_DictComp]
  refine dcT_core hu hc hN I hi ok hg ht hk he hs h fun D C s' m H' I' q hn f => ⟨m, hn, fun h'' sb => ?_⟩
  obtain ⟨f0, f1, f2, f3, f4, f5⟩ := f
  exact ⟨.ref D, H', I'.turned (t' := s'.toks) (fun b o hb e => (sb.2 b hb).trans e) f0 f1 f3 f4 f5, rfl, q⟩
end
theorem putK_new {acc : List (List Int × Int)} {c : List Int} {n : Int} (h : c ∉ acc.map (·.1)) : putK (dctV acc) (c.map Sum.inl) (.int n) = dctV (acc ++ [(c, n)]) := by
  have inj : ∀ {x y : List Int}, (x.map Sum.inl : List Key) = y.map Sum.inl → x = y := fun {x y} h => by
    have := congrArg (List.map fun (k : Key) => match k with | .inl i => i | .inr _ => 0) h
    simpa [List.map_map, Function.comp_def] using this
  unfold putK
  rw [if_neg]
  · unfold dctV
    rw [List.map_append]
    rfl
  · intro z
    rw [List.any_eq_true] at z
    obtain ⟨q, hq, hd⟩ := z
    unfold dctV at hq
    obtain ⟨p, hp, rfl⟩ := List.mem_map.mp hq
    exact h (List.mem_map.mpr ⟨p, hp, inj (of_decide_eq_true hd)⟩)
section
variable {K : PySem.W.Frag} {G : List SD} {tk tv : TE} {tt : TT} {R : Da → Prop}
theorem ev_dcT {wi : TI} {g : TG} {vs : List Nat} (h : EvI K wi G fun ds => ∃ Iv : Nat → List (List Int × Int) → Prop, Iv 0 [] ∧
      (∀ i d acc, ds[i]? = some d → Iv i acc → GnD K g d (· ∈ vs) (wipeG G vs) fun G2 => EvT K tt G2 fun b => b = true ∧ EvD K tk G2 fun y => ∃ c, y = .tup (c.map .int) ∧ EvD K tv G2 fun z => ∃ n, z = .int n ∧ acc.length ≤ 100000 ∧ c ∉ acc.map (·.1) ∧ Iv (i + 1) (acc ++ [(c, n)])) ∧
      ∀ acc, Iv ds.length acc → R (.dct acc)) : EvD K (tDcT wi g tt tk tv vs) G R := fun O σ H s Q k =>
  h O σ H s _ fun J H1 ds ⟨Iv, i0, step, fin⟩ e1 it => fun D hD => by
    have s1 := s.mono e1
    have fr : ∀ a, ins1 O D a = true → O a = true ∨ H1 a = none := fun a z => (ins1_inv z).imp id fun y => by rw [y]; exact hD
    have nD : ∀ {H : Hp} {o : HO}, H D = some o → H D ≠ none := fun h z => by rw [h] at z; cases z
    refine ⟨fun i m H => m = ds.length - i ∧ i ≤ ds.length ∧ Same H1 H ∧ ∃ acc, Iv i acc ∧ H D = some (.dT (dctV acc)), ⟨_, rfl, Nat.zero_le _, same_new hD, [], i0, upd_same⟩, ?_⟩
    rintro i m H2 ⟨rfl, hi, e2, acc, inv, hx⟩
    have s2 : StV K (ins1 O D) σ H2 G := s1.more e2 hD (nD hx)
    obtain ⟨t1, t2⟩ := it (ins1 O D) H2 (hid_le ((hid_same _ _).trans e2) fr) s2.there
    by_cases hlt : i < ds.length
    · obtain ⟨u1, u2⟩ := t2 i hlt
      refine .inr ⟨u1, fun H' => Same H1 H' ∧ ∃ acc, Iv (i + 1) acc ∧ H' D = some (.dT (dctV acc)), fun H' ⟨q1, q2⟩ => ⟨ds.length - (i + 1), by omega, rfl, hlt, q1, q2⟩, fun x H3 y => ?_⟩
      obtain ⟨e3, d, q1, q2⟩ := u2 x H3 y
      have s3 := (s2.mono e3).wiped vs
      refine step i d acc q1 inv _ _ (ins1 O D) _ H3 x s3.whole q2 _ fun σ3 G3 hb s4 hw => ?_
      refine ⟨?_, hb (ins1 O D) σ3 H3 s4.st _ fun b H4 ⟨v1, v2⟩ e4 => ?_⟩
      · have z := hw vs fun i hi => hi
        rw [z]
        clear z hw hb s4
        apply List.ext_getElem?
        intro j
        rw [wipe_get, wipe_get]
        split
        · cases σ[j]? <;> rfl
        · rfl
      · subst v1
        rw [if_pos rfl]
        refine v2 (ins1 O D) σ3 H4 (s4.st.mono e4) _ fun yk H5 dk ⟨c, ek, v3⟩ e5 rk => ?_
        subst ek
        refine v3 (ins1 O D) σ3 H5 ((s4.st.mono e4).mono e5) _ fun zv H6 dz ⟨n, en, hl, hc, inv'⟩ e6 rz => ?_
        subst en
        obtain ⟨kb, xs, rfl, k1, k2⟩ := rep_tup_inv rk
        rw [repL_ints k2] at k1
        have ek : (c.map V.int) = ((c.map Sum.inl : List Key).map kV) := by
          rw [List.map_map]
          rfl
        rw [ek] at k1
        simp only [Rep] at rz
        subst rz
        have e36 := ((e3.trans e4).trans e5).trans e6
        refine ⟨dctV acc, c.map Sum.inl, kb, rfl, e6 _ _ (hid_same _ _ _ _ k1), e36 _ _ hx, ?_, fun b o q => ?_, acc ++ [(c, n)], inv', ?_⟩
        · unfold dctV
          rw [List.length_map]
          exact Nat.lt_of_le_of_lt hl (by decide)
        · rw [upd_ne (ne_of_none q hD)]
          exact (e2.trans e36) b o q
        · rw [upd_same, putK_new hc]
    · have ei : i = ds.length := by omega
      subst ei
      refine .inl ⟨t1, k _ H2 _ (fin acc inv) (e1.trans e2) ?_⟩
      simp only [Rep]
      exact ⟨D, rfl, hid_of (fresh_false s1 hD) hx⟩
end
end Sc
/-! D1: order, boxes. -/
namespace Sc
open PySem L2
theorem ge_no {a b : List Int} (hab : a.length = b.length) {i : Nat} (hi : i < a.length) (h : a.getD i 0 < b.getD i 0) : ge a b = false := by
  cases q : ge a b with
  | false => rfl
  | true =>
    have := (ge_iff hab).mp q i hi
    omega
theorem lowB_take {rows : List (List Int × Bool)} {c : List Int} {i : Nat} {d : List Int × Bool} (h : rows[i]? = some d) : lowB (rows.take (i + 1)) c = if ge c d.1 then max (lowB (rows.take i) c) (gI d.2) else lowB (rows.take i) c := by
  unfold lowB
  rw [take_succ h, List.foldl_append]
  rfl
theorem range_filterMap {α : Type} (l : List (Option α)) : ((l.zipIdx.filter fun q => q.1.isSome).map fun q => Da.int ((q.2 : Nat) : Int)) = ((List.range l.length).filter fun i => (l.getD i none).isSome).map fun (i : Nat) => Da.int (i : Int) := by
  have e : l.zipIdx = (List.range l.length).map fun i => (l.getD i none, i) := by
    apply List.ext_getElem?
    intro j
    rw [List.getElem?_zipIdx, List.getElem?_map]
    by_cases h : j < l.length
    · rw [List.getElem?_range h, getD_of none h]
      simp
    · rw [List.getElem?_eq_none (l := List.range l.length) (by simp; omega), List.getElem?_eq_none (l := l) (by omega)]
      rfl
  rw [e, List.filter_map, List.map_map]
  rfl
theorem play_eq {ps : List Part} : ((ps.zipIdx.filter fun q => (fun (_ : Nat) (p : Part) => p.isSome) q.2 q.1).map fun q => (fun (i : Nat) (_ : Part) => Da.int (i : Nat)) q.2 q.1) = (inPlay ps).map fun (i : Nat) => Da.int (i : Int) := range_filterMap ps
theorem put_eq {p : List (Option Nat)} {row : Nat} {e : Option Nat} (h : row < p.length) : (p.map pickD).take row ++ [pickD e] ++ (p.map pickD).drop (row + 1) = (p.set row e).map pickD := by
  rw [← List.map_take, ← List.map_drop, List.set_eq_take_append_cons_drop, if_pos h]
  simp
theorem rep1_eq {n : Nat} : (List.replicate n [Da.int 1]).flatten = (List.replicate n (1 : Int)).map .int := by
  induction n with
  | zero => rfl
  | succ n ih => rw [List.replicate_succ, List.replicate_succ, List.flatten_cons, ih]; rfl
section
variable {P : Program} {w : World} {K : PySem.W.Frag} {mg : Str → Option Value} {base : Heap}
-- at_least
abbrev s_at_least : Stmt := top 12
abbrev sc_at_least_N : List Str := ["x", "y", "place"]
theorem sc_at_least : FnScope sc_at_least_N ["x", "y"] (defScope s_at_least) := ⟨rfl, rfl, rfl, by decide +kernel, rfl, by decide +kernel, by decide +kernel⟩
-- uses: g:len g:range
-- slots: 0=x 1=y 2=place

theorem has_at_least (F : FunAt K mg "at_least" s_at_least) (T : Tx mg)  : Has P w K mg base "at_least" 1 ["x", "y"] (spD K (W_at_least)) := by
  refine hasD F sc_at_least (fun ds R h => ?_) (fun _ _ _ _ _ _ us hl => match us, hl with | [_, _], _ => rfl) fun f cdv A outer s H E hr => ⟨_, (pss_cons (ps_for PassesOwn.never rfl (pi_range1 rfl T.range (pa_cons (pe_callB call_len_seq (by rfl) T.len (by decide +kernel) (pa_cons (pv 0) pa_nil)) pa_nil)) (pg_name (i := 2) sc_at_least.nd rfl (by first | exact .inl rfl | exact .inr rfl)) (pss_one (ps_if (pt_cmpR op_lt (pe_ix ix_tup (pv 0) (pv 2) (fun _ _ => rfl)) (pe_ix ix_tup (pv 1) (pv 2) (fun _ _ => rfl)) (nomark _)) (pss_one (ps_ret pe_bl)) pss_nil)))
      (pss_one (ps_ret pe_bl))), fun ds R h => ?_⟩
  · obtain ⟨a, b, rfl, _⟩ := h
    rfl
  · obtain ⟨a, b, rfl, hab, hn, hR⟩ := h
    dsimp only [cxOf, Cx.nox, Cx.wish]
    show Ho K _ [.val (ci a), .val (ci b), .un] _ _ _ _
    refine ho_seq (ho_for (ei_range1 (ea_cons (ev_cb (ea_cons (ev_var rfl (ea_nil (rc_lenT (ea_nil ⟨_, rfl, ?_⟩)))))))))
    refine ⟨by simp; omega, fun i G => ∃ s, G = [.val (ci a), .val (ci b), s] ∧ ∀ j, j < i → b.getD j 0 ≤ a.getD j 0, ⟨_, rfl, fun j hj => by omega⟩, ?_, ?_⟩
    · rintro i d G e ⟨s, rfl, hi⟩
      obtain ⟨hi', rfl⟩ := rangeD_inv e
      simp at hi'
      refine gn_name trivial (ho_if (et_test (ev_op (ev_op (ev_var rfl (ev_var rfl ?_))))))
      refine rv_ixT (atI_map (j := i) (by omega) (getD_of 0 hi')) ?_
      refine ev_op (ev_var rfl (ev_var rfl ?_))
      refine rv_ixT (atI_map (j := i) (by omega) (getD_of 0 (by omega))) ?_
      refine rv_lt ⟨_, rfl, ?_⟩
      refine ⟨fun hb => ?_, fun hb => ?_⟩
      · refine ho_ret (ev_bl ?_)
        rw [← ge_no hab hi' (of_decide_eq_true hb)]
        exact hR
      · refine ho_nil ⟨_, rfl, ?_⟩
        intro j hj
        by_cases e : j = i
        · subst e
          rw [decide_eq_false_iff_not] at hb
          omega
        · exact hi j (by omega)
    · rintro G ⟨s, rfl, hi⟩
      simp only [rangeD_length, List.length_map] at hi
      refine ho_ret (ev_bl ?_)
      rw [← (ge_iff hab).mpr hi]
      exact hR
-- _law_above
abbrev s__law_above : Stmt := top 50
abbrev sc__law_above_N : List Str := ["_law_x", "_law_y", "_law_p"]
theorem sc__law_above : FnScope sc__law_above_N ["_law_x", "_law_y"] (defScope s__law_above) := ⟨rfl, rfl, rfl, by decide +kernel, rfl, by decide +kernel, by decide +kernel⟩
-- uses: g:len g:range
-- slots: 0=_law_x 1=_law_y 2=_law_p

theorem has_law_above (F : FunAt K mg "_law_above" s__law_above) (T : Tx mg)  : Has P w K mg base "_law_above" 1 ["_law_x", "_law_y"] (spD K (W_law_above)) := by
  refine hasD F sc__law_above (fun ds R h => ?_) (fun _ _ _ _ _ _ us hl => match us, hl with | [_, _], _ => rfl) fun f cdv A outer s H E hr => ⟨_, (pss_cons (ps_for PassesOwn.never rfl (pi_range1 rfl T.range (pa_cons (pe_callB call_len_seq (by rfl) T.len (by decide +kernel) (pa_cons (pv 0) pa_nil)) pa_nil)) (pg_name (i := 2) sc__law_above.nd rfl (by first | exact .inl rfl | exact .inr rfl)) (pss_one (ps_if (pt_cmpR op_lt (pe_ix ix_tup (pv 0) (pv 2) (fun _ _ => rfl)) (pe_ix ix_tup (pv 1) (pv 2) (fun _ _ => rfl)) (nomark _)) (pss_one (ps_ret pe_bl)) pss_nil)))
      (pss_one (ps_ret pe_bl))), fun ds R h => ?_⟩
  · obtain ⟨a, b, rfl, _⟩ := h
    rfl
  · obtain ⟨a, b, rfl, hab, hn, hR⟩ := h
    dsimp only [cxOf, Cx.nox, Cx.wish]
    show Ho K _ [.val (ci a), .val (ci b), .un] _ _ _ _
    refine ho_seq (ho_for (ei_range1 (ea_cons (ev_cb (ea_cons (ev_var rfl (ea_nil (rc_lenT (ea_nil ⟨_, rfl, ?_⟩)))))))))
    refine ⟨by simp; omega, fun i G => ∃ s, G = [.val (ci a), .val (ci b), s] ∧ ∀ j, j < i → b.getD j 0 ≤ a.getD j 0, ⟨_, rfl, fun j hj => by omega⟩, ?_, ?_⟩
    · rintro i d G e ⟨s, rfl, hi⟩
      obtain ⟨hi', rfl⟩ := rangeD_inv e
      simp at hi'
      refine gn_name trivial (ho_if (et_test (ev_op (ev_op (ev_var rfl (ev_var rfl ?_))))))
      refine rv_ixT (atI_map (j := i) (by omega) (getD_of 0 hi')) ?_
      refine ev_op (ev_var rfl (ev_var rfl ?_))
      refine rv_ixT (atI_map (j := i) (by omega) (getD_of 0 (by omega))) ?_
      refine rv_lt ⟨_, rfl, ?_⟩
      refine ⟨fun hb => ?_, fun hb => ?_⟩
      · refine ho_ret (ev_bl ?_)
        rw [← ge_no hab hi' (of_decide_eq_true hb)]
        exact hR
      · refine ho_nil ⟨_, rfl, ?_⟩
        intro j hj
        by_cases e : j = i
        · subst e
          rw [decide_eq_false_iff_not] at hb
          omega
        · exact hi j (by omega)
    · rintro G ⟨s, rfl, hi⟩
      simp only [rangeD_length, List.length_map] at hi
      refine ho_ret (ev_bl ?_)
      rw [← (ge_iff hab).mpr hi]
      exact hR
-- row_bounds
abbrev s_row_bounds : Stmt := top 18
abbrev sc_row_bounds_N : List Str := ["rows", "top", "case", "low", "high", "decided", "grade"]
theorem sc_row_bounds : FnScope sc_row_bounds_N ["rows", "top", "case"] (defScope s_row_bounds) := ⟨rfl, rfl, rfl, by decide +kernel, rfl, by decide +kernel, by decide +kernel⟩
-- uses: at_least g:max g:min
-- slots: 0=rows 1=top 2=case 3=low 4=high 5=decided 6=grade

theorem has_row_bounds (F : FunAt K mg "row_bounds" s_row_bounds) (T : Tx mg) (h_at_least : Has P w K mg base "at_least" 1 ["x", "y"] (spD K (W_at_least))) : Has P w K mg base "row_bounds" 2 ["rows", "top", "case"] (spD K (W_row_bounds)) := by
  refine hasD F sc_row_bounds (fun ds R h => ?_) (fun _ _ _ _ _ _ us hl => match us, hl with | [_, _, _], _ => rfl) fun f cdv A outer s H E hr => ⟨_, (pss_cons (ps_set (i := 3) sc_row_bounds.nd rfl (Or.inl rfl) pe_int)
      (pss_cons (ps_set (i := 4) sc_row_bounds.nd rfl (Or.inl rfl) (pv 1))
      (pss_cons (ps_for PassesOwn.never rfl (pi_tup (pv 0)) (pg_tup rfl (pgs_cons (pg_name (i := 5) sc_row_bounds.nd rfl (by first | exact .inl rfl | exact .inr rfl)) (pgs_cons (pg_name (i := 6) sc_row_bounds.nd rfl (by first | exact .inl rfl | exact .inr rfl)) pgs_nil))) (pss_cons (ps_if (pt_val (pe_callH h_at_least (hr.mono (by decide)) rfl (pa_cons (pv 2) (pa_cons (pv 5) pa_nil)))) (pss_one (ps_set (i := 3) sc_row_bounds.nd rfl (Or.inl rfl) (pe_callB (call_max2 rfl) (by rfl) T.max (by decide +kernel) (pa_cons (pv 3) (pa_cons (pv 6) pa_nil))))) pss_nil)
      (pss_one (ps_if (pt_val (pe_callH h_at_least (hr.mono (by decide)) rfl (pa_cons (pv 5) (pa_cons (pv 2) pa_nil)))) (pss_one (ps_set (i := 4) sc_row_bounds.nd rfl (Or.inl rfl) (pe_callB (call_min2 rfl) (by rfl) T.min (by decide +kernel) (pa_cons (pv 4) (pa_cons (pv 6) pa_nil))))) pss_nil))))
      (pss_one (ps_ret (pe_tup (pa_cons (pv 3) (pa_cons (pv 4) pa_nil)))))))), fun ds R h => ?_⟩
  · obtain ⟨a, b, rfl, _⟩ := h
    rfl
  · obtain ⟨rows, c, rfl, hl, hn, hR⟩ := h
    dsimp only [cxOf, Cx.nox, Cx.wish]
    show Ho K _ [.val (.tup (rows.map decD)), .val (.int 1), .val (ci c), .un, .un, .un, .un] _ _ _ _
    refine ho_seq (ho_set (ev_int (ho_seq (ho_set (ev_var rfl (ho_seq (ho_for (ei_tup (ev_var rfl ⟨_, rfl, ?_⟩)))))))))
    refine ⟨fun i G => ∃ hi s1 s2, G = [.val (.tup (rows.map decD)), .val (.int 1), .val (ci c), .val (.int (lowB (rows.take i) c)), .val (.int hi), s1, s2], ⟨_, _, _, rfl⟩, ?_, ?_⟩
    · rintro i d G e ⟨hi, s1, s2, rfl⟩
      obtain ⟨d, hd, rfl⟩ := map_inv e
      refine gn_tup rfl (gns_cons (gn_name trivial (gns_cons (gn_name trivial (gns_nil (ho_seq (ho_if (et_B (ev_call (ea_cons (ev_var rfl (ea_cons (ev_var rfl (ea_nil ?_))))))))))))))
      refine ⟨c, d.1, rfl, (hl d (List.mem_of_getElem? hd)).symm, hn, ?_⟩
      refine ⟨_, rfl, ?_⟩
      refine and_mid (fun G => ∃ hi, G = [.val (.tup (rows.map decD)), .val (.int 1), .val (ci c), .val (.int (lowB (rows.take (i + 1)) c)), .val (.int hi), .val (ci d.1), .val (.int (gI d.2))]) ⟨fun hb => ?_, fun hb => ?_⟩ ?_
      · refine ho_set (ev_cb (ea_cons (ev_var rfl (ea_cons (ev_var rfl (ea_nil (rc_max2 ?_)))))))
        rw [lowB_take hd, if_pos hb]
        exact ⟨_, rfl⟩
      · refine ho_nil ?_
        rw [lowB_take hd, hb, if_neg Bool.false_ne_true]
        exact ⟨_, rfl⟩
      · rintro G ⟨hi, rfl⟩
        refine ho_if (et_B (ev_call (ea_cons (ev_var rfl (ea_cons (ev_var rfl (ea_nil ?_)))))))
        refine ⟨d.1, c, rfl, hl d (List.mem_of_getElem? hd), by rw [hl d (List.mem_of_getElem? hd)]; exact hn, ?_⟩
        refine ⟨_, rfl, ?_⟩
        refine ⟨fun hb => ?_, fun hb => ?_⟩
        · refine ho_set (ev_cb (ea_cons (ev_var rfl (ea_cons (ev_var rfl (ea_nil (rc_min2 ?_)))))))
          exact ⟨_, _, _, rfl⟩
        · refine ho_nil ?_
          exact ⟨_, _, _, rfl⟩
    · rintro G ⟨hi, s1, s2, rfl⟩
      refine ho_ret (ev_tup (ea_cons (ev_var rfl (ea_cons (ev_var rfl (ea_nil (lit2 ?_)))))))
      rw [List.length_map, List.take_length]
      exact hR hi
-- issues_in_play
abbrev s_issues_in_play : Stmt := top 33
abbrev sc_issues_in_play_N : List Str := ["parts", "issue", "part"]
theorem sc_issues_in_play : FnScope sc_issues_in_play_N ["parts"] (defScope s_issues_in_play) := ⟨rfl, rfl, rfl, by decide +kernel, rfl, by decide +kernel, by decide +kernel⟩
-- uses: g:enumerate
-- slots: 0=parts 1=issue 2=part

theorem has_issues_in_play (F : FunAt K mg "issues_in_play" s_issues_in_play) (T : Tx mg)  : Has P w K mg base "issues_in_play" 1 ["parts"] (spD K (W_issues_in_play)) := by
  refine hasD F sc_issues_in_play (fun ds R h => ?_) (fun _ _ _ _ _ _ us hl => match us, hl with | [_], _ => rfl) fun f cdv A outer s H E hr => ⟨_, (pss_one (ps_ret (pe_lc (own := [("issue", 1), ("part", 2)]) (g := (gTup K 2 (gCons (gName 1) (gCons (gName 2) gNil)))) (tt := (tB (tNotN (tVar 2)))) (te := (tVar 1)) rfl sc_issues_in_play.nd (pi_enumK false (by rfl) T.enumerate (pa_cons (pv 0) pa_nil)) (blkOk_by (N := sc_issues_in_play_N) (sc := defScope s_issues_in_play) (by decide +kernel)) (fun _ _ _ _ _ => (pg_tup rfl (pgs_cons (pg_name (i := 1) sc_issues_in_play.nd rfl (by first | exact .inl rfl | exact .inr rfl)) (pgs_cons (pg_name (i := 2) sc_issues_in_play.nd rfl (by first | exact .inl rfl | exact .inr rfl)) pgs_nil)))) (fun _ _ _ _ _ => (pts_one (pt_cmp (pc_notN (pv 2))))) (fun _ _ _ _ _ => (pv 1))))), fun ds R h => ?_⟩
  · obtain ⟨ps, rfl, _⟩ := h
    rfl
  · obtain ⟨ps, rfl, hn, hR⟩ := h
    dsimp only [cxOf, Cx.nox, Cx.wish]
    show Ho K _ [.val (partsD ps), .un, .un] _ _ _ _
    refine ho_ret (ev_lc (ei_enT (ea_cons (ev_var rfl (ea_nil ⟨_, rfl, ?_⟩)))))
    refine lc_filter (l := ps) (E := fun i p => .tup [.int (i : Nat), partD p]) (p := fun _ p => p.isSome) (h := fun i _ => .int (i : Nat)) (fun i d e => enumD_inv e) (by simp [enumD_length]) (by omega) (fun i a ha => ?_) ?_
    · refine gn_tup rfl (gns_cons (gn_name (by decide) (gns_cons (gn_name (by decide) (gns_nil (et_B (ev_notN (ev_var rfl ⟨_, rfl, ?_⟩))))))))
      refine ⟨by cases a <;> rfl, fun _ => ?_⟩
      exact ev_var rfl (rfl)
    · rw [play_eq]
      exact hR
-- with_pick
abbrev s_with_pick : Stmt := top 38
abbrev sc_with_pick_N : List Str := ["picks", "row", "issue"]
theorem sc_with_pick : FnScope sc_with_pick_N ["picks", "row", "issue"] (defScope s_with_pick) := ⟨rfl, rfl, rfl, by decide +kernel, rfl, by decide +kernel, by decide +kernel⟩
-- uses: 
-- slots: 0=picks 1=row 2=issue

theorem has_with_pick (F : FunAt K mg "with_pick" s_with_pick) (T : Tx mg)  : Has P w K mg base "with_pick" 1 ["picks", "row", "issue"] (spD K (W_with_pick)) := by
  refine hasD F sc_with_pick (fun ds R h => ?_) (fun _ _ _ _ _ _ us hl => match us, hl with | [_, _, _], _ => rfl) fun f cdv A outer s H E hr => ⟨_, (pss_one (ps_ret (pe_op op_catA (pe_op op_catA (pe_slice sl_tupA (pv 0) po_none (po_some (pv 1))) (pe_tup (pa_cons (pv 2) pa_nil))) (pe_slice sl_tupA (pv 0) (po_some (pe_op op_add (pv 1) pe_int)) po_none)))), fun ds R h => ?_⟩
  · obtain ⟨p, row, e, rfl, _⟩ := h
    rfl
  · obtain ⟨p, row, e, rfl, hr, hn, hR⟩ := h
    dsimp only [cxOf, Cx.nox, Cx.wish]
    show Ho K _ [.val (picksD p), .val (.int (row : Nat)), .val (pickD e)] _ _ _ _
    refine ho_ret (ev_op (ev_op (ev_slT (ev_var rfl (eo_none (eo_some (ev_var rfl ⟨_, rfl, ⟨_, rfl, (ev_tup (ea_cons (ev_var rfl (ea_nil (lit1 (rv_catT ?_))))))⟩⟩)))))))
    refine ⟨by simp [cut_to, cut_from]; omega, ?_⟩
    refine ev_slT (ev_var rfl (eo_some (ev_op (ev_var rfl (ev_int (rv_add ⟨_, rfl, (eo_none ⟨_, rfl, (rv_catT ?_)⟩)⟩))))))
    rw [cut_to, cut_from]
    refine ⟨by simp; omega, ?_⟩
    rw [put_eq hr]
    exact hR
-- _law_picks_after
abbrev s__law_picks_after : Stmt := top 65
abbrev sc__law_picks_after_N : List Str := ["_law_picks", "_law_row", "_law_issue_here"]
theorem sc__law_picks_after : FnScope sc__law_picks_after_N ["_law_picks", "_law_row", "_law_issue_here"] (defScope s__law_picks_after) := ⟨rfl, rfl, rfl, by decide +kernel, rfl, by decide +kernel, by decide +kernel⟩
-- uses: 
-- slots: 0=_law_picks 1=_law_row 2=_law_issue_here

theorem has_law_picks_after (F : FunAt K mg "_law_picks_after" s__law_picks_after) (T : Tx mg)  : Has P w K mg base "_law_picks_after" 1 ["_law_picks", "_law_row", "_law_issue_here"] (spD K (W_law_picks_after)) := by
  refine hasD F sc__law_picks_after (fun ds R h => ?_) (fun _ _ _ _ _ _ us hl => match us, hl with | [_, _, _], _ => rfl) fun f cdv A outer s H E hr => ⟨_, (pss_one (ps_ret (pe_op op_catA (pe_op op_catA (pe_slice sl_tupA (pv 0) po_none (po_some (pv 1))) (pe_tup (pa_cons (pv 2) pa_nil))) (pe_slice sl_tupA (pv 0) (po_some (pe_op op_add (pv 1) pe_int)) po_none)))), fun ds R h => ?_⟩
  · obtain ⟨p, row, e, rfl, _⟩ := h
    rfl
  · obtain ⟨p, row, e, rfl, hr, hn, hR⟩ := h
    dsimp only [cxOf, Cx.nox, Cx.wish]
    show Ho K _ [.val (picksD p), .val (.int (row : Nat)), .val (pickD e)] _ _ _ _
    refine ho_ret (ev_op (ev_op (ev_slT (ev_var rfl (eo_none (eo_some (ev_var rfl ⟨_, rfl, ⟨_, rfl, (ev_tup (ea_cons (ev_var rfl (ea_nil (lit1 (rv_catT ?_))))))⟩⟩)))))))
    refine ⟨by simp [cut_to, cut_from]; omega, ?_⟩
    refine ev_slT (ev_var rfl (eo_some (ev_op (ev_var rfl (ev_int (rv_add ⟨_, rfl, (eo_none ⟨_, rfl, (rv_catT ?_)⟩)⟩))))))
    rw [cut_to, cut_from]
    refine ⟨by simp; omega, ?_⟩
    rw [put_eq hr]
    exact hR
-- _law_limits
abbrev s__law_limits : Stmt := top 48
abbrev sc__law_limits_N : List Str := ["_law_shape"]
theorem sc__law_limits : FnScope sc__law_limits_N ["_law_shape"] (defScope s__law_limits) := ⟨rfl, rfl, rfl, by decide +kernel, rfl, by decide +kernel, by decide +kernel⟩
-- uses: g:len g:list
-- slots: 0=_law_shape

theorem has_law_limits (F : FunAt K mg "_law_limits" s__law_limits) (T : Tx mg)  : Has P w K mg base "_law_limits" 1 ["_law_shape"] (spD K (W_law_limits)) := by
  refine hasD F sc__law_limits (fun ds R h => ?_) (fun _ _ _ _ _ _ us hl => match us, hl with | [_], _ => rfl) fun f cdv A outer s H E hr => ⟨_, (pss_one (ps_ret (pe_op op_cat (pe_op op_rep (pe_lst (pa_cons pe_int pa_nil)) (pe_op op_add (pe_callB call_len_str (by rfl) T.len (by decide +kernel) (pa_cons (pe_ix ix_tup (pv 0) pe_int (fun _ _ => rfl)) pa_nil)) (pe_callB call_len_str (by rfl) T.len (by decide +kernel) (pa_cons (pe_ix ix_tup (pv 0) pe_int (fun _ _ => rfl)) pa_nil)))) (pe_callTy call_list_of (by rfl) T.list (by decide +kernel) (pa_cons (pe_ix ix_tup (pv 0) pe_int (fun _ _ => rfl)) pa_nil))))), fun ds R h => ?_⟩
  · obtain ⟨s, rfl, _⟩ := h
    rfl
  · obtain ⟨s, rfl, hn, hR⟩ := h
    dsimp only [cxOf, Cx.nox, Cx.wish]
    show Ho K _ [.val (shapeD s)] _ _ _ _
    refine ho_ret (ev_op (ev_op (ev_lst (ea_cons (ev_int (ea_nil (lit1 (ev_op (ev_cb (ea_cons (ev_op (ev_var rfl (ev_int (rv_ixT rfl (ea_nil (rc_lenC ?_))))))))))))))))
    refine ⟨by omega, ?_⟩
    refine ev_cb (ea_cons (ev_op (ev_var rfl (ev_int (rv_ixT rfl (ea_nil (rc_lenC ?_)))))))
    refine ⟨by omega, ?_⟩
    refine rv_add ?_
    rw [← Int.natCast_add]
    refine rv_repL ⟨by simp; omega, by omega, ?_⟩
    refine ev_cb (ea_cons (ev_op (ev_var rfl (ev_int (rv_ixT rfl (ea_nil (rc_listT (rv_catL ?_))))))))
    refine ⟨by simp; omega, ?_⟩
    rw [rep1_eq]
    simpa [lims] using hR
-- _law_is_choice
abbrev s__law_is_choice : Stmt := top 60
abbrev sc__law_is_choice_N : List Str := ["_law_row"]
theorem sc__law_is_choice : FnScope sc__law_is_choice_N ["_law_row"] (defScope s__law_is_choice) := ⟨rfl, rfl, rfl, by decide +kernel, rfl, by decide +kernel, by decide +kernel⟩
-- uses: 
-- slots: 0=_law_row

theorem has_law_is_choice (F : FunAt K mg "_law_is_choice" s__law_is_choice) (T : Tx mg)  : Has P w K mg base "_law_is_choice" 1 ["_law_row"] (spD K (W_law_is_choice)) := by
  refine hasD F sc__law_is_choice (fun ds R h => ?_) (fun _ _ _ _ _ _ us hl => match us, hl with | [_], _ => rfl) fun f cdv A outer s H E hr => ⟨_, (pss_one (ps_ret (pe_cmpR op_eq (pe_cmpR op_eq (pe_ix ix_tup (pv 0) pe_int (fun _ _ => rfl)) pe_str (nomark _)) (pe_cmpR op_eq (pe_ix ix_tup (pv 0) pe_int (fun _ _ => rfl)) pe_int (nomark _)) (nomark _)))), fun ds R h => ?_⟩
  · obtain ⟨s, rfl, _⟩ := h
    rfl
  · obtain ⟨r, rfl, hR⟩ := h
    dsimp only [cxOf, Cx.nox, Cx.wish]
    show Ho K _ [.val (rowD r)] _ _ _ _
    refine ho_ret (ev_op (ev_op (ev_op (ev_var rfl (ev_int (rv_ixT rfl (ev_str (rv_eqS (ev_op (ev_op (ev_var rfl (ev_int (rv_ixT rfl (ev_int (rv_eqI (rv_eqB ?_))))))))))))))))
    have e : ((modeS r.all == "all") == decide (gI r.won = 0)) = isCh r := by
      unfold isCh modeS gI
      cases r.all <;> cases r.won <;> decide
    rw [e]
    exact hR
-- _law_cell
abbrev s__law_cell : Stmt := top 46
abbrev sc__law_cell_N : List Str := ["_law_script", "_law_k"]
theorem sc__law_cell : FnScope sc__law_cell_N ["_law_script", "_law_k"] (defScope s__law_cell) := ⟨rfl, rfl, rfl, by decide +kernel, rfl, by decide +kernel, by decide +kernel⟩
-- uses: g:len g:int
-- slots: 0=_law_script 1=_law_k

theorem has_law_cell (F : FunAt K mg "_law_cell" s__law_cell) (T : Tx mg)  : Has P w K mg base "_law_cell" 1 ["_law_script", "_law_k"] (spD K (W_law_cell)) := by
  refine hasD F sc__law_cell (fun ds R h => ?_) (fun _ _ _ _ _ _ us hl => match us, hl with | [_, _], _ => rfl) fun f cdv A outer s H E hr => ⟨_, (pss_cons (ps_if (pt_cmpR op_lt (pv 1) (pe_callB call_len_seq (by rfl) T.len (by decide +kernel) (pa_cons (pv 0) pa_nil)) (nomark _)) (pss_one (ps_ret (pe_callTy call_int1 (by rfl) T.int (by decide +kernel) (pa_cons (pe_ix ix_list (pv 0) (pv 1) (fun _ _ => rfl)) pa_nil)))) pss_nil)
      (pss_one (ps_ret pe_int))), fun ds R h => ?_⟩
  · obtain ⟨ns, k, rfl, _⟩ := h
    rfl
  · obtain ⟨ns, k, rfl, hR⟩ := h
    dsimp only [cxOf, Cx.nox, Cx.wish]
    show Ho K _ [.val (.scr ns), .val (.int (k : Nat))] _ _ _ _
    refine ho_seq (ho_if (et_test (ev_op (ev_var rfl (ev_cb (ea_cons (ev_var rfl (ea_nil (rc_lenR (rv_lt ⟨_, rfl, ?_⟩))))))))))
    refine ⟨fun hb => ?_, fun hb => ?_⟩
    · refine ho_ret (ev_cb (ea_cons (ev_op (ev_var rfl (ev_var rfl ?_)))))
      have hk : k < ns.length := by
        have := of_decide_eq_true hb
        omega
      refine rv_ixR (atI_nat' (getD_of 0 hk)) ?_
      refine ea_nil (rc_int ?_)
      exact hR _
    · refine ho_nil (ho_ret (ev_int ?_))
      exact hR _
-- _law_case
abbrev s__law_case : Stmt := top 49
abbrev sc__law_case_N : List Str := ["_law_draws_here", "_law_at", "_law_limits_here", "_law_p"]
theorem sc__law_case : FnScope sc__law_case_N ["_law_draws_here", "_law_at", "_law_limits_here"] (defScope s__law_case) := ⟨rfl, rfl, rfl, by decide +kernel, rfl, by decide +kernel, by decide +kernel⟩
-- uses: g:len g:range g:int g:tuple
-- slots: 0=_law_draws_here 1=_law_at 2=_law_limits_here 3=_law_p

theorem has_law_case (F : FunAt K mg "_law_case" s__law_case) (T : Tx mg)  : Has P w K mg base "_law_case" 1 ["_law_draws_here", "_law_at", "_law_limits_here"] (spD K (W_law_case)) := by
  refine hasD F sc__law_case (fun ds R h => ?_) (fun _ _ _ _ _ _ us hl => match us, hl with | [_, _, _], _ => rfl) fun f cdv A outer s H E hr => ⟨_, (pss_one (ps_ret (pe_callTy call_tuple_of (by rfl) T.tuple (by decide +kernel) (pa_cons (pe_lc (own := [("_law_p", 3)]) (g := (gName 3)) (tt := tYes) (te := (tOp (rI (fun _ j => 0 < j) fun i j => .int (i % j)) (tCB IntT (tCons (tOp (rIxL K) (tVar 0) (tOp (rI0 fun i j => .int (i + j)) (tVar 1) (tVar 3))) tNil)) (tOp (rI0 fun i j => .int (i + j)) (tOp (rIxL K) (tVar 2) (tVar 3)) (tC (.int 1))))) rfl sc__law_case.nd (pi_range1 rfl T.range (pa_cons (pe_callB call_len_seq (by rfl) T.len (by decide +kernel) (pa_cons (pv 2) pa_nil)) pa_nil)) (blkOk_by (N := sc__law_case_N) (sc := defScope s__law_case) (by decide +kernel)) (fun _ _ _ _ _ => (pg_name (i := 3) sc__law_case.nd rfl (by first | exact .inl rfl | exact .inr rfl))) (fun _ _ _ _ _ => pts_nil) (fun _ _ _ _ _ => (pe_op op_mod (pe_callTy call_int1 (by rfl) T.int (by decide +kernel) (pa_cons (pe_ix ix_list (pv 0) (pe_op op_add (pv 1) (pv 3)) (fun _ _ => rfl)) pa_nil)) (pe_op op_add (pe_ix ix_list (pv 2) (pv 3) (fun _ _ => rfl)) pe_int)))) pa_nil)))), fun ds R h => ?_⟩
  · obtain ⟨ns, k, l, rfl, _⟩ := h
    rfl
  · obtain ⟨dr, at_, lim, rfl, hat, hl, hR⟩ := h
    dsimp only [cxOf, Cx.nox, Cx.wish]
    show Ho K _ [.val (.lst (dr.map .int)), .val (.int (at_ : Nat)), .val (.lst (lim.map .int)), .un] _ _ _ _
    refine ho_ret (ev_cb (ea_cons (ev_lc (ei_range1 (ea_cons (ev_cb (ea_cons (ev_var rfl (ea_nil (rc_lenL (ea_nil ⟨_, rfl, ?_⟩)))))))))))
    refine ⟨by have := hl.len; simp; omega, ?_⟩
    refine lc_range (h := fun i => .int (dr.getD (at_ + i) 0 % (lim.getD i 0 + 1))) (by have := hl.len; simp; omega) (fun i hi => ?_) ?_
    · simp at hi
      have hp := hl.nn (lim.getD i 0) (getD_mem hi)
      refine gn_name (by decide) (ev_op (ev_cb (ea_cons (ev_op (ev_var rfl (ev_op (ev_var rfl (ev_var rfl (rv_add ?_)))))))))
      refine rv_ixL (atI_map (j := at_ + i) (by omega) (getD_of 0 (by omega))) ?_
      refine ea_nil (rc_int (ev_op (ev_op (ev_var rfl (ev_var rfl ?_)))))
      refine rv_ixL (atI_map (j := i) (by omega) (getD_of 0 hi)) ?_
      refine ev_int (rv_add (rv_modC ?_))
      refine ⟨by omega, ?_⟩
      exact rfl
    · refine ea_nil (rc_tupL ?_)
      rw [List.length_map]
      have := hR ((List.range lim.length).map fun i => dr.getD (at_ + i) 0 % (lim.getD i 0 + 1)) ⟨by simp, fun i hi => ?_⟩
      · rw [ci, List.map_map] at this
        exact this
      · have hp := hl.nn (lim.getD i 0) (getD_mem hi)
        have e : ((List.range lim.length).map fun i => dr.getD (at_ + i) 0 % (lim.getD i 0 + 1)).getD i 0 = dr.getD (at_ + i) 0 % (lim.getD i 0 + 1) := getD_get (by rw [List.getElem?_map, List.getElem?_range hi]; rfl)
        rw [e]
        have h1 := Int.emod_nonneg (dr.getD (at_ + i) 0) (b := lim.getD i 0 + 1) (by omega)
        have h2 := Int.emod_lt_of_pos (dr.getD (at_ + i) 0) (b := lim.getD i 0 + 1) (by omega)
        omega
end
end Sc
/-! D2: cases. -/
namespace Sc
open PySem L2
section
variable {P : Program} {w : World} {K : PySem.W.Frag} {mg : Str → Option Value} {base : Heap}
-- all_cases
abbrev s_all_cases : Stmt := top 24
abbrev sc_all_cases_N : List Str := ["limits", "cases", "limit", "case", "level"]
theorem sc_all_cases : FnScope sc_all_cases_N ["limits"] (defScope s_all_cases) := ⟨rfl, rfl, rfl, by decide +kernel, rfl, by decide +kernel, by decide +kernel⟩
-- uses: g:range
-- slots: 0=limits 1=cases 2=limit 3=case 4=level

theorem has_all_cases (F : FunAt K mg "all_cases" s_all_cases) (T : Tx mg)  : Has P w K mg base "all_cases" 1 ["limits"] (spD K (W_all_cases)) := by
  refine hasD F sc_all_cases (fun ds R h => ?_) (fun _ _ _ _ _ _ us hl => match us, hl with | [_], _ => rfl) fun f cdv A outer s H E hr => ⟨_, (pss_cons (ps_set (i := 1) sc_all_cases.nd rfl (Or.inl rfl) (pe_lst (pa_cons (pe_tup pa_nil) pa_nil)))
      (pss_cons (ps_for PassesOwn.never rfl (pi_tup (pv 0)) (pg_name (i := 2) sc_all_cases.nd rfl (by first | exact .inl rfl | exact .inr rfl)) (pss_one (ps_setLc2 (i := 1) (own := [("case", 3), ("level", 4)]) (vs1 := [4]) (g := (gName 3)) (tt := tYes) (wi1 := (iRng1 (tCons (tOp (rI0 fun i j => .int (i + j)) (tVar 2) (tC (.int 1))) tNil))) (g1 := (gName 4)) (tt1 := tYes) (te := (tOp (rCatA K) (tVar 3) (tTup (tCons (tVar 4) tNil)))) rfl sc_all_cases.nd rfl rfl (sw_true rfl rfl rfl (by decide +kernel)) (pi_list (pv 1)) (blkOk_by (N := sc_all_cases_N) (sc := defScope s_all_cases) (by decide +kernel)) (by decide) (fun _ _ _ _ _ => (pg_name (i := 3) sc_all_cases.nd rfl (by first | exact .inl rfl | exact .inr rfl))) (fun _ _ _ _ _ => pts_nil) (fun _ _ _ _ _ => (pi_range1 rfl T.range (pa_cons (pe_op op_add (pv 2) pe_int) pa_nil))) (fun _ _ _ _ _ => (pg_name (i := 4) sc_all_cases.nd rfl (by first | exact .inl rfl | exact .inr rfl))) (fun _ _ _ _ _ => pts_nil) (fun _ _ _ _ _ => (pe_op op_catA (pv 3) (pe_tup (pa_cons (pv 4) pa_nil)))))))
      (pss_one (ps_ret (pv 1))))), fun ds R h => ?_⟩
  · obtain ⟨lim, rfl, _⟩ := h
    rfl
  · obtain ⟨lim, rfl, hl, hR⟩ := h
    dsimp only [cxOf, Cx.nox, Cx.wish]
    show Ho K _ [.val (ci lim), .un, .un, .un, .un] _ _ _ _
    refine ho_seq (ho_set ?_)
    refine ev_lst (ea_cons (ev_tup (ea_nil (lit0 (ea_nil (lit1 (ho_seq (ho_for (ei_tup (ev_var rfl ⟨_, rfl, ?_⟩))))))))))
    refine ⟨fun i G => ∃ s1 s2 s3, G = [.val (ci lim), .val (casesD (casesOf (lim.take i))), s1, s2, s3], ⟨_, _, _, rfl⟩, ?_, ?_⟩
    · rintro i d G e ⟨s1, s2, s3, rfl⟩
      obtain ⟨l, hd, rfl⟩ := map_inv e
      have hle := hl.le (List.mem_of_getElem? hd)
      have hcl := casesOf_len (hl.take i)
      refine gn_name trivial ?_
      refine ho_set (ev_new (en_lc2 ?_))
      refine ei_list (ev_var rfl ⟨_, rfl, ?_⟩)
      refine ⟨fun j acc => acc = (more ((casesOf (lim.take i)).take j) l).map ci, rfl, ?_, ?_⟩
      · rintro j d acc e rfl
        obtain ⟨c, hc, rfl⟩ := map_inv e
        refine gn_name (by decide) (et_yes ?_)
        refine ⟨fun x => (nomatch x), fun _ => ?_⟩
        refine ei_range1 (ea_cons (ev_op (ev_var rfl (ev_int (rv_add (ea_nil ?_))))))
        refine ⟨(l + 1).toNat, by rw [Int.toNat_of_nonneg (by omega)], by omega, ?_⟩
        refine ⟨fun k acc => acc = (more ((casesOf (lim.take i)).take j) l ++ (List.range k).map fun (k : Nat) => c ++ [(k : Int)]).map ci, by simp, ?_, ?_⟩
        · rintro k d acc e rfl
          obtain ⟨hk, rfl⟩ := rangeD_inv e
          have hlen : (more ((casesOf (lim.take i)).take j) l).length ≤ 32 * 6 := by
            rw [more_len]
            refine Nat.mul_le_mul ?_ (by omega)
            rw [List.length_take]
            omega
          show GnD _ _ _ _ _ _
          refine gn_name (by decide) (et_yes (tt_and (ev_op (ev_var rfl (ev_tup (ea_cons (ev_var rfl (ea_nil (lit1 (rv_catT ?_))))))))))
          have hcn : c.length = (lim.take i).length := ((mem_casesOf fun x hx => by have := hl.nn x (List.mem_of_mem_take hx); omega).mp (List.mem_of_getElem? hc)).len
          have h5 := hl.len
          rw [List.length_take] at hcn
          refine ⟨by simp; omega, by simp; omega, ?_⟩
          dsimp only
          rw [range_succ']
          simp
        · rintro acc rfl
          rw [rangeD_length, more_take hc]
      · rintro acc rfl
        rw [List.length_map, List.take_length, ← casesOf_take hd]
        exact ⟨_, _, _, rfl⟩
    · rintro G ⟨s1, s2, s3, rfl⟩
      rw [List.length_map, List.take_length]
      refine ho_ret (ev_var rfl ?_)
      exact hR
-- _law_cases
abbrev s__law_cases : Stmt := top 51
abbrev sc__law_cases_N : List Str := ["_law_limits_here", "_law_cases_here", "_law_limit", "_law_longer", "_law_k", "_law_level"]
theorem sc__law_cases : FnScope sc__law_cases_N ["_law_limits_here"] (defScope s__law_cases) := ⟨rfl, rfl, rfl, by decide +kernel, rfl, by decide +kernel, by decide +kernel⟩
-- uses: g:len g:range
-- slots: 0=_law_limits_here 1=_law_cases_here 2=_law_limit 3=_law_longer 4=_law_k 5=_law_level

theorem has_law_cases (F : FunAt K mg "_law_cases" s__law_cases) (T : Tx mg)  : Has P w K mg base "_law_cases" 1 ["_law_limits_here"] (spD K (W_law_cases)) := by
  refine hasD F sc__law_cases (fun ds R h => ?_) (fun _ _ _ _ _ _ us hl => match us, hl with | [_], _ => rfl) fun f cdv A outer s H E hr => ⟨_, (pss_cons (ps_set (i := 1) sc__law_cases.nd rfl (Or.inl rfl) (pe_lst (pa_cons (pe_tup pa_nil) pa_nil)))
      (pss_cons (ps_for PassesOwn.never rfl (pi_list (pv 0)) (pg_name (i := 2) sc__law_cases.nd rfl (by first | exact .inl rfl | exact .inr rfl)) (pss_cons (ps_set (i := 3) sc__law_cases.nd rfl (Or.inl rfl) (pe_lst pa_nil))
      (pss_cons (ps_for PassesOwn.never rfl (pi_range1 rfl T.range (pa_cons (pe_callB call_len_seq (by rfl) T.len (by decide +kernel) (pa_cons (pv 1) pa_nil)) pa_nil)) (pg_name (i := 4) sc__law_cases.nd rfl (by first | exact .inl rfl | exact .inr rfl)) (pss_one (ps_for PassesOwn.never rfl (pi_range1 rfl T.range (pa_cons (pe_op op_add (pv 2) pe_int) pa_nil)) (pg_name (i := 5) sc__law_cases.nd rfl (by first | exact .inl rfl | exact .inr rfl)) (pss_one (ps_expr (pe_bm PySem.F.plainAttrs_list PySem.F.slot_list_append PySem.F.type_list_append mt_append (pv 3) (pa_cons (pe_op op_catA (pe_ix ix_list (pv 1) (pv 4) (fun _ _ => rfl)) (pe_tup (pa_cons (pv 5) pa_nil))) pa_nil)))))))
      (pss_one (ps_set (i := 1) sc__law_cases.nd rfl (Or.inl rfl) (pv 3))))))
      (pss_one (ps_ret (pv 1))))), fun ds R h => ?_⟩
  · obtain ⟨lim, rfl, _⟩ := h
    rfl
  · obtain ⟨lim, rfl, hl, hR⟩ := h
    dsimp only [cxOf, Cx.nox, Cx.wish]
    show Ho K _ [.val (.lst (lim.map .int)), .un, .un, .un, .un, .un] _ _ _ _
    refine ho_seq (ho_set ?_)
    refine ev_lst (ea_cons (ev_tup (ea_nil (lit0 (ea_nil (lit1 (ho_seq (ho_for (ei_list (ev_var rfl ⟨_, rfl, ?_⟩))))))))))
    refine ⟨fun i G => ∃ s1 s2 s3 s4, G = [.val (.lst (lim.map .int)), .val (casesD (casesOf (lim.take i))), s1, s2, s3, s4], ⟨_, _, _, _, rfl⟩, ?_, ?_⟩
    · rintro i d G e ⟨s1, s2, s3, s4, rfl⟩
      obtain ⟨l, hd, rfl⟩ := map_inv e
      have hle := hl.le (List.mem_of_getElem? hd)
      have hcl := casesOf_len (hl.take i)
      have hlen : ∀ j, (more ((casesOf (lim.take i)).take j) l).length ≤ 32 * 6 := fun j => by
        rw [more_len]
        refine Nat.mul_le_mul ?_ (by omega)
        rw [List.length_take]
        omega
      refine gn_name trivial (ho_seq ?_)
      refine ho_own (en_lst ?_)
      refine ea_nil (lit0 (ho_seq (ho_for (ei_range1 (ea_cons (ev_cb (ea_cons (ev_var rfl (ea_nil (rc_lenL (ea_nil ⟨_, rfl, ?_⟩)))))))))))
      refine ⟨by simp; omega, fun j G => ∃ s3 s4, G = [.val (.lst (lim.map .int)), .val (casesD (casesOf (lim.take i))), .val (.int l), .own ((more ((casesOf (lim.take i)).take j) l).map ci), s3, s4], ⟨_, _, rfl⟩, ?_, ?_⟩
      · rintro j d G e ⟨s3, s4, rfl⟩
        obtain ⟨hj, rfl⟩ := rangeD_inv e
        simp at hj
        obtain ⟨c, hc⟩ : ∃ c, (casesOf (lim.take i))[j]? = some c := ⟨_, List.getElem?_eq_getElem hj⟩
        refine gn_name trivial (ho_for (ei_range1 (ea_cons (ev_op (ev_var rfl (ev_int (rv_add (ea_nil ?_))))))))
        refine ⟨(l + 1).toNat, by rw [Int.toNat_of_nonneg (by omega)], by omega, ?_⟩
        refine ⟨fun k G => ∃ s4, G = [.val (.lst (lim.map .int)), .val (casesD (casesOf (lim.take i))), .val (.int l), .own ((more ((casesOf (lim.take i)).take j) l ++ (List.range k).map fun (k : Nat) => c ++ [(k : Int)]).map ci), .val (.int (0 + (j : Nat))), s4], ⟨_, by simp; rfl⟩, ?_, ?_⟩
        · rintro k d G e ⟨s4, rfl⟩
          obtain ⟨hk, rfl⟩ := rangeD_inv e
          refine gn_name trivial (ho_app rfl (ev_op (ev_op (ev_var rfl (ev_var rfl ?_)))))
          refine rv_ixL (atI_map (j := j) (by omega) hc) ?_
          refine ev_tup (ea_cons (ev_var rfl (ea_nil (lit1 (rv_catT ?_)))))
          have hcn : (c).length = (lim.take i).length := ((mem_casesOf fun x hx => by have := hl.nn x (List.mem_of_mem_take hx); omega).mp (List.mem_of_getElem? hc)).len
          have h5 := hl.len
          rw [List.length_take] at hcn
          have := hlen j
          refine ⟨by simp; omega, by simp; omega, ?_⟩
          dsimp only
          rw [range_succ', show (more ((casesOf (lim.take i)).take j) l ++ (List.range k ++ [k]).map fun (k : Nat) => c ++ [(k : Int)]).map ci = (more ((casesOf (lim.take i)).take j) l ++ (List.range k).map fun (k : Nat) => c ++ [(k : Int)]).map ci ++ [.tup (c.map .int ++ [.int (0 + (k : Nat))])] by simp]
          exact ⟨_, rfl⟩
        · rintro G ⟨s4, rfl⟩
          skip
          rw [rangeD_length, more_take hc]
          exact ⟨_, _, rfl⟩
      · rintro G ⟨s3, s4, rfl⟩
        refine ho_frz 3 rfl ?_
        refine ho_set (ev_var rfl ?_)
        rw [rangeD_length, List.length_map, List.take_length, ← casesOf_take hd]
        exact ⟨_, _, _, _, rfl⟩
    · rintro G ⟨s1, s2, s3, s4, rfl⟩
      rw [List.length_map, List.take_length]
      refine ho_ret (ev_var rfl ?_)
      exact hR
-- _law_part_grade
abbrev s__law_part_grade : Stmt := top 57
abbrev sc__law_part_grade_N : List Str := ["_law_cases_here", "_law_part", "_law_case_here"]
theorem sc__law_part_grade : FnScope sc__law_part_grade_N ["_law_cases_here", "_law_part"] (defScope s__law_part_grade) := ⟨rfl, rfl, rfl, by decide +kernel, rfl, by decide +kernel, by decide +kernel⟩
-- uses: _law_above
-- slots: 0=_law_cases_here 1=_law_part 2=_law_case_here

theorem has_law_part_grade (F : FunAt K mg "_law_part_grade" s__law_part_grade) (T : Tx mg) (h_law_above : Has P w K mg base "_law_above" 1 ["_law_x", "_law_y"] (spD K (W_law_above))) : Has P w K mg base "_law_part_grade" 2 ["_law_cases_here", "_law_part"] (spD K (W_law_part_grade)) := by
  refine hasD F sc__law_part_grade (fun ds R h => ?_) (fun _ _ _ _ _ _ us hl => match us, hl with | [_, _], _ => rfl) fun f cdv A outer s H E hr => ⟨_, (pss_cons (ps_for PassesOwn.never rfl (pi_list (pv 0)) (pg_name (i := 2) sc__law_part_grade.nd rfl (by first | exact .inl rfl | exact .inr rfl)) (pss_one (ps_if (pt_val (pe_callH h_law_above (hr.mono (by decide)) rfl (pa_cons (pv 1) (pa_cons (pv 2) pa_nil)))) (pss_one (ps_ret pe_int)) pss_nil)))
      (pss_one (ps_ret pe_int))), fun ds R h => ?_⟩
  · obtain ⟨ws, c, rfl, _⟩ := h
    rfl
  · obtain ⟨ws, c, rfl, hl, hn, hR⟩ := h
    dsimp only [cxOf, Cx.nox, Cx.wish]
    show Ho K _ [.val (casesD ws), .val (ci c), .un] _ _ _ _
    refine ho_seq (ho_for (ei_list (ev_var rfl ⟨_, rfl, ?_⟩)))
    refine ⟨fun i G => ∃ s1, G = [.val (casesD ws), .val (ci c), s1] ∧ hg (ws.take i) c = false, ⟨_, rfl, rfl⟩, ?_, ?_⟩
    · rintro i d G e ⟨s1, rfl, hi⟩
      obtain ⟨x, hd, rfl⟩ := map_inv e
      have hx := List.mem_of_getElem? hd
      refine gn_name trivial (ho_if (et_B (ev_call (ea_cons (ev_var rfl (ea_cons (ev_var rfl (ea_nil ?_))))))))
      refine ⟨c, x, rfl, (hl x hx).symm, hn, ?_⟩
      refine ⟨_, rfl, ?_⟩
      refine ⟨fun hb => ?_, fun hb => ?_⟩
      · refine ho_ret (ev_int ?_)
        rw [show (1 : Int) = gI (hg ws c) by rw [show hg ws c = true from List.any_eq_true.mpr ⟨x, hx, hb⟩]; rfl]
        exact hR
      · refine ho_nil ⟨_, rfl, ?_⟩
        unfold hg at hi ⊢
        rw [take_succ hd, List.any_append, hi]
        simp [hb]
    · rintro G ⟨s1, rfl, hi⟩
      rw [List.length_map, List.take_length] at hi
      refine ho_ret (ev_int ?_)
      rw [show (0 : Int) = gI (hg ws c) by rw [hi]; rfl]
      exact hR
-- _law_entries_of
abbrev s__law_entries_of : Stmt := top 61
abbrev sc__law_entries_of_N : List Str := ["_law_row", "_law_n"]
theorem sc__law_entries_of : FnScope sc__law_entries_of_N ["_law_row"] (defScope s__law_entries_of) := ⟨rfl, rfl, rfl, by decide +kernel, rfl, by decide +kernel, by decide +kernel⟩
-- uses: _law_is_choice g:len g:range
-- slots: 0=_law_row 1=_law_n

theorem has_law_entries_of (F : FunAt K mg "_law_entries_of" s__law_entries_of) (T : Tx mg) (h_law_is_choice : Has P w K mg base "_law_is_choice" 1 ["_law_row"] (spD K (W_law_is_choice))) : Has P w K mg base "_law_entries_of" 2 ["_law_row"] (spD K (W_law_entries_of)) := by
  refine hasD F sc__law_entries_of (fun ds R h => ?_) (fun _ _ _ _ _ _ us hl => match us, hl with | [_], _ => rfl) fun f cdv A outer s H E hr => ⟨_, (pss_cons (ps_if (pt_val (pe_callH h_law_is_choice (hr.mono (by decide)) rfl (pa_cons (pv 0) pa_nil))) (pss_one (ps_ret (pe_lc (own := [("_law_n", 1)]) (g := (gName 1)) (tt := (tB (tNotN (tOp (rIxT K) (tOp (rIxT K) (tVar 0) (tC (.int 0))) (tVar 1))))) (te := (tVar 1)) rfl sc__law_entries_of.nd (pi_range1 rfl T.range (pa_cons (pe_callB call_len_seq (by rfl) T.len (by decide +kernel) (pa_cons (pe_ix ix_tup (pv 0) pe_int (fun _ _ => rfl)) pa_nil)) pa_nil)) (blkOk_by (N := sc__law_entries_of_N) (sc := defScope s__law_entries_of) (by decide +kernel)) (fun _ _ _ _ _ => (pg_name (i := 1) sc__law_entries_of.nd rfl (by first | exact .inl rfl | exact .inr rfl))) (fun _ _ _ _ _ => (pts_one (pt_cmp (pc_notN (pe_ix ix_tup (pe_ix ix_tup (pv 0) pe_int (fun _ _ => rfl)) (pv 1) (fun _ _ => rfl)))))) (fun _ _ _ _ _ => (pv 1))))) pss_nil)
      (pss_one (ps_ret (pe_lst (pa_cons pe_non pa_nil))))), fun ds R h => ?_⟩
  · obtain ⟨r, rfl, _⟩ := h
    rfl
  · obtain ⟨r, rfl, hn, hR⟩ := h
    dsimp only [cxOf, Cx.nox, Cx.wish]
    show Ho K _ [.val (rowD r), .un] _ _ _ _
    refine ho_seq (ho_if (et_B (ev_call (ea_cons (ev_var rfl (ea_nil ?_))))))
    refine ⟨r, rfl, ?_⟩
    refine ⟨_, rfl, ?_⟩
    refine ⟨fun hb => ?_, fun hb => ?_⟩
    · refine ho_ret (ev_lc (ei_range1 (ea_cons (ev_cb (ea_cons (ev_op (ev_var rfl (ev_int (rv_ixT rfl (ea_nil (rc_lenT (ea_nil ⟨_, rfl, ?_⟩))))))))))))
      refine ⟨by simp; omega, ?_⟩
      refine lc_rangeF (p := fun i => (r.parts.getD i none).isSome) (h := fun i => .int (i : Nat)) (by simp; omega) (fun i hi => ?_) ?_
      · rw [List.length_map] at hi
        refine gn_name (by decide) (et_B (ev_notN (ev_op (ev_op (ev_var rfl (ev_int (rv_ixT rfl (ev_var rfl ?_))))))))
        refine rv_ixT (atI_map (j := i) (by omega) (getD_of none hi)) ?_
        refine ⟨_, rfl, ?_⟩
        refine ⟨by cases r.parts.getD i none <;> rfl, fun _ => ?_⟩
        exact ev_var rfl (rfl)
      · unfold entries inPlay at hR
        rw [if_pos hb, List.map_map] at hR
        rw [List.length_map]
        exact hR
    · refine ho_nil (ho_ret (ev_lst (ea_cons (ev_non (ea_nil (lit1 ?_))))))
      unfold entries at hR
      rw [hb, if_neg Bool.false_ne_true] at hR
      exact hR
end
end Sc
/-! D3: draws. -/
namespace Sc
open PySem L2
section
variable {P : Program} {w : World} {K : PySem.W.Frag} {mg : Str → Option Value} {base : Heap}
-- _law_draws
abbrev s__law_draws : Stmt := top 47
abbrev sc__law_draws_N : List Str := ["_law_script", "_law_k", "_law_many", "_law_cell_here", "_law_seed", "_law_draws_here", "_law_n", "_law_one", "_law_two"]
theorem sc__law_draws : FnScope sc__law_draws_N ["_law_script", "_law_k", "_law_many"] (defScope s__law_draws) := ⟨rfl, rfl, rfl, by decide +kernel, rfl, by decide +kernel, by decide +kernel⟩
-- uses: _law_cell g:abs g:int g:range g:len
-- slots: 0=_law_script 1=_law_k 2=_law_many 3=_law_cell_here 4=_law_seed 5=_law_draws_here 6=_law_n 7=_law_one 8=_law_two

theorem has_law_draws (F : FunAt K mg "_law_draws" s__law_draws) (T : Tx mg) (h_law_cell : Has P w K mg base "_law_cell" 1 ["_law_script", "_law_k"] (spD K (W_law_cell))) : Has P w K mg base "_law_draws" 2 ["_law_script", "_law_k", "_law_many"] (spD K (W_law_draws)) := by
  refine hasD F sc__law_draws (fun ds R h => ?_) (fun _ _ _ _ _ _ us hl => match us, hl with | [_, _, _], _ => rfl) fun f cdv A outer s H E hr => ⟨_, (pss_cons (ps_set (i := 3) sc__law_draws.nd rfl (Or.inl rfl) (pe_callB call_abs (by rfl) T.abs (by decide +kernel) (pa_cons (pe_callH h_law_cell (hr.mono (by decide)) rfl (pa_cons (pv 0) (pa_cons (pv 1) pa_nil))) pa_nil)))
      (pss_cons (ps_set (i := 4) sc__law_draws.nd rfl (Or.inl rfl) (pe_op op_mod (pe_callTy call_int1 (by rfl) T.int (by decide +kernel) (pa_cons (pe_op op_add (pe_op op_add (pv 3) (pe_op op_mul pe_int (pv 1))) pe_int) pa_nil)) pe_int))
      (pss_cons (ps_set (i := 5) sc__law_draws.nd rfl (Or.inl rfl) (pe_lst pa_nil))
      (pss_cons (ps_if (pt_cmpR op_ge (pv 3) (pe_op op_pow pe_int pe_int) (nomark _)) (pss_one (ps_for PassesOwn.never rfl (pi_range1 rfl T.range (pa_cons (pv 2) pa_nil)) (pg_name (i := 6) sc__law_draws.nd rfl (by first | exact .inl rfl | exact .inr rfl)) (pss_one (ps_if (pt_cmpR op_gt (pv 3) pe_int (nomark _)) (pss_cons (ps_expr (pe_bm PySem.F.plainAttrs_list PySem.F.slot_list_append PySem.F.type_list_append mt_append (pv 5) (pa_cons (pe_op op_mod (pe_callTy call_int1 (by rfl) T.int (by decide +kernel) (pa_cons (pv 3) pa_nil)) pe_int) pa_nil)))
      (pss_one (ps_set (i := 3) sc__law_draws.nd rfl (Or.inl rfl) (pe_op op_fdiv (pv 3) pe_int)))) pss_nil)))) pss_nil)
      (pss_cons (ps_for PassesOwn.never rfl (pi_range2 rfl T.range (pa_cons (pe_callB call_len_seq (by rfl) T.len (by decide +kernel) (pa_cons (pv 5) pa_nil)) (pa_cons (pv 2) pa_nil))) (pg_name (i := 6) sc__law_draws.nd rfl (by first | exact .inl rfl | exact .inr rfl)) (pss_cons (ps_set (i := 7) sc__law_draws.nd rfl (Or.inl rfl) (pe_op op_mod (pe_callTy call_int1 (by rfl) T.int (by decide +kernel) (pa_cons (pe_op op_add (pe_op op_add (pe_op op_mul (pv 4) pe_int) (pe_op op_mul (pv 6) pe_int)) pe_int) pa_nil)) pe_int))
      (pss_cons (ps_set (i := 8) sc__law_draws.nd rfl (Or.inl rfl) (pe_op op_mod (pe_callTy call_int1 (by rfl) T.int (by decide +kernel) (pa_cons (pe_op op_add (pe_op op_add (pe_op op_mul (pv 7) (pv 7)) (pv 4)) (pv 6)) pa_nil)) pe_int))
      (pss_one (ps_expr (pe_bm PySem.F.plainAttrs_list PySem.F.slot_list_append PySem.F.type_list_append mt_append (pv 5) (pa_cons (pe_op op_mod (pe_callTy call_int1 (by rfl) T.int (by decide +kernel) (pa_cons (pe_op op_fdiv (pv 8) pe_int) pa_nil)) pe_int) pa_nil)))))))
      (pss_one (ps_ret (pv 5)))))))), fun ds R h => ?_⟩
  · obtain ⟨ns, k, many, rfl, _⟩ := h
    rfl
  · obtain ⟨ns, k, many, rfl, hk, hm, hR⟩ := h
    dsimp only [cxOf, Cx.nox, Cx.wish]
    show Ho K _ [.val (.scr ns), .val (.int (k : Nat)), .val (.int (many : Nat)), .un, .un, .un, .un, .un, .un] _ _ _ _
    refine ho_seq (ho_set (ev_cb (ea_cons (ev_call (ea_cons (ev_var rfl (ea_cons (ev_var rfl (ea_nil ?_)))))))))
    refine ⟨ns, k, rfl, fun cell => ?_⟩
    refine ea_nil (rc_abs (ho_seq (ho_set (ev_op (ev_cb (ea_cons (ev_op (ev_op (ev_var rfl (ev_op (ev_int (ev_var rfl (rv_mulC (gMulL (by decide) (rv_add (ev_int (rv_add (ea_nil (rc_int (ev_int (rv_modC (gMod (by decide) (ho_seq ?_)))))))))))))))))))))))
    refine ho_own (en_lst ?_)
    refine ea_nil (lit0 (ho_seq (ho_if (et_test (ev_op (ev_var rfl (ev_op (ev_int (ev_int (rv_powC (gPow (by decide) (rv_ge ⟨_, rfl, ?_⟩))))))))))))
    refine and_mid (fun G => ∃ (s3 s6 : SD) (l : List Int), G = [.val (.scr ns), .val (.int (k : Nat)), .val (.int (many : Nat)), s3, .val (.int (((if cell < 0 then -cell else cell) + 7919 * (k : Nat) + 1) % 2147483629)), .own (l.map .int), s6, .un, .un] ∧ l.length ≤ many ∧ ∀ x ∈ l, 0 ≤ x ∧ x < 1000) ⟨fun hb => ?_, fun hb => ?_⟩ ?_
    · refine ho_for (ei_range1 (ea_cons (ev_var rfl (ea_nil ⟨_, rfl, ?_⟩))))
      refine ⟨by omega, fun i G => ∃ (z : Int) (s6 : SD) (l : List Int), G = [.val (.scr ns), .val (.int (k : Nat)), .val (.int (many : Nat)), .val (.int z), .val (.int (((if cell < 0 then -cell else cell) + 7919 * (k : Nat) + 1) % 2147483629)), .own (l.map .int), s6, .un, .un] ∧ l.length ≤ i ∧ ∀ x ∈ l, 0 ≤ x ∧ x < 1000, ⟨_, _, [], rfl, Nat.zero_le _, fun x hx => (nomatch hx)⟩, ?_, ?_⟩
      · rintro i d G e ⟨z, s6, l, rfl, hl, hx⟩
        obtain ⟨hi, rfl⟩ := rangeD_inv e
        refine gn_name trivial (ho_if (et_test (ev_op (ev_var rfl (ev_int (rv_gt ⟨_, rfl, ?_⟩))))))
        refine ⟨fun hb => ?_, fun hb => ?_⟩
        · refine ho_seq (ho_app rfl (ev_op (ev_cb (ea_cons (ev_var rfl (ea_nil (rc_int (ev_int (rv_modC (gMod (by decide) ?_))))))))))
          refine ⟨by simp; omega, ?_⟩
          refine ho_set (ev_op (ev_var rfl (ev_int (rv_divC (gDiv (by decide) ?_)))))
          refine ⟨_, _, l ++ [z % 1000], by rw [List.map_append]; rfl, by simp; omega, fun x hx' => ?_⟩
          rcases List.mem_append.mp hx' with y | y
          · exact hx x y
          · rw [List.mem_singleton.mp y]
            omega
        · refine ho_nil ?_
          exact ⟨_, _, _, rfl, by omega, hx⟩
      · rintro G ⟨z, s6, l, rfl, hl, hx⟩
        rw [rangeD_length] at hl
        exact ⟨_, _, l, rfl, hl, hx⟩
    · refine ho_nil ?_
      exact ⟨_, _, [], rfl, Nat.zero_le _, fun x hx => (nomatch hx)⟩
    · rintro G ⟨s3, s6, l, rfl, hl, hx⟩
      refine ho_seq (ho_for (ei_range2 (ea_cons (ev_lenO _ rfl (ea_cons (ev_var rfl (ea_nil ⟨_, _, rfl, ?_⟩)))))))
      rw [List.length_map]
      refine ⟨by omega, by omega, by omega, ?_⟩
      generalize hz : ((if cell < 0 then -cell else cell) + 7919 * (k : Nat) + 1) % 2147483629 = z
      have hz1 : 0 ≤ z ∧ z < 2147483629 := by omega
      refine ⟨fun i G => ∃ (s6 s7 s8 : SD) (m : List Int), G = [.val (.scr ns), .val (.int (k : Nat)), .val (.int (many : Nat)), s3, .val (.int z), .own (m.map .int), s6, s7, s8] ∧ m.length = l.length + i ∧ ∀ x ∈ m, 0 ≤ x ∧ x < 1000, ⟨_, _, _, l, rfl, by omega, hx⟩, ?_, ?_⟩
      · rintro i d G e ⟨s6, s7, s8, m, rfl, hm', hx'⟩
        obtain ⟨hi, rfl⟩ := rangeD_inv e
        refine gn_name trivial (ho_seq (ho_set (ev_op (ev_cb (ea_cons (ev_op (ev_op (ev_op (ev_var rfl (ev_int (rv_mulC (gMulR (by decide) (ev_op (ev_var rfl (ev_int (rv_mulC (gMulR (by decide) (rv_add (ev_int (rv_add (ea_nil (rc_int (ev_int (rv_modC (gMod (by decide) (ho_seq (ho_set (ev_op (ev_cb (ea_cons (ev_op (ev_op (ev_op (ev_var rfl (ev_var rfl (rv_mulC ?_))))))))))))))))))))))))))))))))))))
        generalize hu : (z * 48271 + ((l.length : Nat) + (i : Int)) * 69621 + 17) % 2147483629 = u
        have hu1 : 0 ≤ u ∧ u < 2147483629 := by omega
        refine ⟨.inl ⟨by omega, by omega⟩, ?_⟩
        refine ev_var rfl (rv_add (ev_var rfl (rv_add (ea_nil (rc_int (ev_int (rv_modC (gMod (by decide) (ho_app rfl (ev_op (ev_cb (ea_cons (ev_op (ev_var rfl (ev_int (rv_divC (gDiv (by decide) (ea_nil (rc_int (ev_int (rv_modC (gMod (by decide) ?_))))))))))))))))))))))
        refine ⟨by simp; omega, ?_⟩
        skip
        generalize (u * u + z + ((l.length : Nat) + (i : Int))) % 998244353 / 11 = t
        refine ⟨_, _, _, m ++ [t % 1000], by rw [List.map_append]; rfl, by simp; omega, fun x hx2 => ?_⟩
        rcases List.mem_append.mp hx2 with y | y
        · exact hx' x y
        · rw [List.mem_singleton.mp y]
          omega
      · rintro G ⟨s6, s7, s8, m, rfl, hm', hx'⟩
        rw [rangeD_length] at hm'
        refine ho_frz 5 rfl ?_
        refine ho_ret (ev_var rfl ?_)
        exact hR m (by omega) hx'
end
end Sc
/-! D4: the hidden panel, drawn rows. -/
namespace Sc
open PySem L2
theorem gI_min {l : List Nat} {b : Nat → Bool} {m : Int} (h1 : m ∈ l.map fun i => gI (b i)) (h2 : ∀ y ∈ l.map fun i => gI (b i), m ≤ y) : m = gI (l.all b) := by
  obtain ⟨i, hi, rfl⟩ := List.mem_map.mp h1
  cases q : l.all b with
  | true => rw [List.all_eq_true.mp q i hi]
  | false =>
    obtain ⟨j, hj, hb⟩ := List.all_eq_false.mp q
    have := h2 _ (List.mem_map.mpr ⟨j, hj, rfl⟩)
    have hb' : b j = false := by simpa using hb
    rw [hb'] at this
    rcases gI_01 (b i) with z | z
    · rw [z]; rfl
    · rw [z] at this
      exact absurd this (by decide)
theorem gI_max {l : List Nat} {b : Nat → Bool} {m : Int} (h1 : m ∈ l.map fun i => gI (b i)) (h2 : ∀ y ∈ l.map fun i => gI (b i), y ≤ m) : m = gI (l.any b) := by
  obtain ⟨i, hi, rfl⟩ := List.mem_map.mp h1
  cases q : l.any b with
  | false =>
    have := List.any_eq_false.mp q i hi
    have hb' : b i = false := by simpa using this
    rw [hb']
  | true =>
    obtain ⟨j, hj, hb⟩ := List.any_eq_true.mp q
    have := h2 _ (List.mem_map.mpr ⟨j, hj, rfl⟩)
    rw [hb] at this
    rcases gI_01 (b i) with z | z
    · rw [z] at this
      exact absurd this (by decide)
    · rw [z]; rfl
theorem mem_inPlay {ps : List Part} {i : Nat} : i ∈ inPlay ps ↔ ∃ c, ps[i]? = some (some c) := by
  unfold inPlay
  rw [List.mem_filter, List.mem_range]
  constructor
  · rintro ⟨h1, h2⟩
    rw [getD_of none h1]
    cases q : ps.getD i none with
    | none => rw [q] at h2; cases h2
    | some c => exact ⟨c, rfl⟩
  · rintro ⟨c, hc⟩
    refine ⟨get_lt hc, ?_⟩
    rw [getD_get hc]
    rfl
section
variable {P : Program} {w : World} {K : PySem.W.Frag} {mg : Str → Option Value} {base : Heap}
-- _law_decided
abbrev s__law_decided : Stmt := top 58
abbrev sc__law_decided_N : List Str := ["_law_parts_here", "_law_mode", "_law_wons_here", "_law_grades", "_law_n"]
theorem sc__law_decided : FnScope sc__law_decided_N ["_law_parts_here", "_law_mode", "_law_wons_here"] (defScope s__law_decided) := ⟨rfl, rfl, rfl, by decide +kernel, rfl, by decide +kernel, by decide +kernel⟩
-- uses: g:len g:range _law_part_grade g:min g:max
-- slots: 0=_law_parts_here 1=_law_mode 2=_law_wons_here 3=_law_grades 4=_law_n

theorem has_law_decided (F : FunAt K mg "_law_decided" s__law_decided) (T : Tx mg) (h_law_part_grade : Has P w K mg base "_law_part_grade" 2 ["_law_cases_here", "_law_part"] (spD K (W_law_part_grade))) : Has P w K mg base "_law_decided" 3 ["_law_parts_here", "_law_mode", "_law_wons_here"] (spD K (W_law_decided)) := by
  refine hasD F sc__law_decided (fun ds R h => ?_) (fun _ _ _ _ _ _ us hl => match us, hl with | [_, _, _], _ => rfl) fun f cdv A outer s H E hr => ⟨_, (pss_cons (ps_setLc (i := 3) (own := [("_law_n", 4)]) (g := (gName 4)) (tt := (tB (tNotN (tOp (rIxT K) (tVar 0) (tVar 4))))) (te := (tCall (spD K (W_law_part_grade)) [] E0 (tCons (tOp (rIxL K) (tVar 2) (tVar 4)) (tCons (tOp (rIxT K) (tVar 0) (tVar 4)) tNil)))) rfl sc__law_decided.nd rfl rfl (sw_true rfl rfl rfl (by decide +kernel)) (pi_range1 rfl T.range (pa_cons (pe_callB call_len_seq (by rfl) T.len (by decide +kernel) (pa_cons (pv 0) pa_nil)) pa_nil)) (blkOk_by (N := sc__law_decided_N) (sc := defScope s__law_decided) (by decide +kernel)) (fun _ _ _ _ _ => (pg_name (i := 4) sc__law_decided.nd rfl (by first | exact .inl rfl | exact .inr rfl))) (fun _ _ _ _ _ => (pts_one (pt_cmp (pc_notN (pe_ix ix_tup (pv 0) (pv 4) (fun _ _ => rfl)))))) (fun _ _ _ _ _ => (pe_callH h_law_part_grade (hr.mono (by decide)) rfl (pa_cons (pe_ix ix_list (pv 2) (pv 4) (fun _ _ => rfl)) (pa_cons (pe_ix ix_tup (pv 0) (pv 4) (fun _ _ => rfl)) pa_nil)))))
      (pss_cons (ps_if (pt_cmpR op_eq (pv 1) pe_str (nomark _)) (pss_one (ps_ret (pe_callB (cr_min rfl) (by rfl) T.min (by decide +kernel) (pa_cons (pv 3) pa_nil)))) pss_nil)
      (pss_one (ps_ret (pe_callB (cr_max rfl) (by rfl) T.max (by decide +kernel) (pa_cons (pv 3) pa_nil)))))), fun ds R h => ?_⟩
  · obtain ⟨shs, ps, all, wons, rfl, _⟩ := h
    rfl
  · obtain ⟨shs, ps, all, wons, rfl, hs, hp, hw, hR⟩ := h
    dsimp only [cxOf, Cx.nox, Cx.wish]
    show Ho K _ [.val (partsD ps), .val (.str (modeS all)), .val (wonsD wons), .un, .un] _ _ _ _
    have h3 := hs.hi
    have hpl := hp.len
    have hwl := hw.len
    refine ho_seq ?_
    refine ho_set (ev_lc ?_)
    refine ei_range1 (ea_cons (ev_cb (ea_cons (ev_var rfl (ea_nil (rc_lenT (ea_nil ⟨_, rfl, ?_⟩)))))))
    refine ⟨by simp; omega, ?_⟩
    refine lc_rangeF (p := fun i => (ps.getD i none).isSome) (h := fun i => .int (gI (hgi wons ps i))) (by simp; omega) (fun i hi => ?_) ?_
    · rw [List.length_map] at hi
      refine gn_name (by decide) (et_B (ev_notN (ev_op (ev_var rfl (ev_var rfl ?_)))))
      refine rv_ixT (atI_map (j := i) (by omega) (getD_of none hi)) ?_
      refine ⟨_, rfl, ?_⟩
      refine ⟨by cases ps.getD i none <;> rfl, fun hb => ?_⟩
      obtain ⟨c, hc⟩ : ∃ c, ps.getD i none = some c := by
        cases q : ps.getD i none with
        | none => rw [q] at hb; exact absurd hb (by decide)
        | some c => exact ⟨c, rfl⟩
      refine ev_call (ea_cons (ev_op (ev_var rfl (ev_var rfl ?_))))
      refine rv_ixL (atI_map (j := i) (by omega) (getD_of [] (by omega))) ?_
      refine ea_cons (ev_op (ev_var rfl (ev_var rfl ?_)))
      refine rv_ixT (atI_map (j := i) (by omega) (getD_of none hi)) ?_
      refine ea_nil ?_
      rw [hc]
      have hsh := List.getElem?_eq_getElem (l := shs) (i := i) (by omega)
      have hok := hp.ok i _ c hsh (by rw [getD_of none hi, hc])
      have hw2 := hw.ok i _ _ hsh (getD_of [] (by omega))
      have hlc := hok.len
      have hl5 := (hs.ok _ (List.mem_of_getElem? hsh)).lim.len
      refine ⟨_, c, rfl, fun w hwm => by rw [(hw2.2 w hwm).len, hlc], by omega, ?_⟩
      unfold hgi
      rw [hc]
      rfl
    · have hne : 0 < (inPlay ps).length := by
        obtain ⟨i, c, hc⟩ := hp.some_
        exact List.length_pos_of_mem (mem_inPlay.mpr ⟨c, hc⟩)
      have e : ((List.range ps.length).filter fun i => (ps.getD i none).isSome).map (fun i => Da.int (gI (hgi wons ps i))) = ((inPlay ps).map fun i => gI (hgi wons ps i)).map .int := by
        rw [List.map_map]
        rfl
      rw [List.length_map, e]
      refine ho_seq (ho_if (et_test (ev_op (ev_var rfl (ev_str (rv_eqS ⟨_, rfl, ?_⟩))))))
      refine ⟨fun hb => ?_, fun hb => ?_⟩
      · refine ho_ret (ev_cb (ea_cons (ev_var rfl (ea_nil ?_))))
        refine rc_min (by simpa using hne) fun m h1 h2 => ?_
        rw [gI_min h1 h2]
        cases all with
        | false => exact absurd hb (by decide)
        | true => exact hR
      · refine ho_nil (ho_ret (ev_cb (ea_cons (ev_var rfl (ea_nil ?_)))))
        refine rc_max (by simpa using hne) fun m h1 h2 => ?_
        rw [gI_max h1 h2]
        cases all with
        | true => exact absurd hb (by decide)
        | false => exact hR
-- _law_wons
abbrev s__law_wons : Stmt := top 56
abbrev sc__law_wons_N : List Str := ["_law_draws_here", "_law_at", "_law_shapes_here", "_law_wons_here", "_law_n", "_law_spot", "_law_k"]
theorem sc__law_wons : FnScope sc__law_wons_N ["_law_draws_here", "_law_at", "_law_shapes_here"] (defScope s__law_wons) := ⟨rfl, rfl, rfl, by decide +kernel, rfl, by decide +kernel, by decide +kernel⟩
-- uses: g:len g:range g:int _law_limits _law_case
-- slots: 0=_law_draws_here 1=_law_at 2=_law_shapes_here 3=_law_wons_here 4=_law_n 5=_law_spot 6=_law_k

theorem has_law_wons (F : FunAt K mg "_law_wons" s__law_wons) (T : Tx mg) (h_law_limits : Has P w K mg base "_law_limits" 1 ["_law_shape"] (spD K (W_law_limits))) (h_law_case : Has P w K mg base "_law_case" 1 ["_law_draws_here", "_law_at", "_law_limits_here"] (spD K (W_law_case))) : Has P w K mg base "_law_wons" 2 ["_law_draws_here", "_law_at", "_law_shapes_here"] (spD K (W_law_wons)) := by
  refine hasD F sc__law_wons (fun ds R h => ?_) (fun _ _ _ _ _ _ us hl => match us, hl with | [_, _, _], _ => rfl) fun f cdv A outer s H E hr => ⟨_, (pss_cons (ps_set (i := 3) sc__law_wons.nd rfl (Or.inl rfl) (pe_lst pa_nil))
      (pss_cons (ps_for PassesOwn.never rfl (pi_range1 rfl T.range (pa_cons (pe_callB call_len_seq (by rfl) T.len (by decide +kernel) (pa_cons (pv 2) pa_nil)) pa_nil)) (pg_name (i := 4) sc__law_wons.nd rfl (by first | exact .inl rfl | exact .inr rfl)) (pss_cons (ps_set (i := 5) sc__law_wons.nd rfl (Or.inr rfl) (pe_op op_add (pv 1) (pe_op op_mul pe_int (pv 4))))
      (pss_one (ps_expr (pe_bm PySem.F.plainAttrs_list PySem.F.slot_list_append PySem.F.type_list_append mt_append (pv 3) (pa_cons (pe_lc (own := [("_law_k", 6)]) (g := (gName 6)) (tt := tYes) (te := (tCall (spD K (W_law_case)) [] E0 (tCons (tVar 0) (tCons (tOp (rI0 fun i j => .int (i + j)) (tOp (rI0 fun i j => .int (i + j)) (tVar 5) (tC (.int 1))) (tOp (rI CMul fun i j => .int (i * j)) (tC (.int 5)) (tVar 6))) (tCons (tCall (spD K (W_law_limits)) [] E0 (tCons (tOp (rIxL K) (tVar 2) (tVar 4)) tNil)) tNil))))) rfl sc__law_wons.nd (pi_range1 rfl T.range (pa_cons (pe_op op_mod (pe_callTy call_int1 (by rfl) T.int (by decide +kernel) (pa_cons (pe_ix ix_list (pv 0) (pv 5) (fun _ _ => rfl)) pa_nil)) pe_int) pa_nil)) (blkOk_by (N := sc__law_wons_N) (sc := defScope s__law_wons) (by decide +kernel)) (fun _ _ _ _ _ => (pg_name (i := 6) sc__law_wons.nd rfl (by first | exact .inl rfl | exact .inr rfl))) (fun _ _ _ _ _ => pts_nil) (fun _ _ _ _ _ => (pe_callH h_law_case (hr.mono (by decide)) rfl (pa_cons (pv 0) (pa_cons (pe_op op_add (pe_op op_add (pv 5) pe_int) (pe_op op_mul pe_int (pv 6))) (pa_cons (pe_callH h_law_limits (hr.mono (by decide)) rfl (pa_cons (pe_ix ix_list (pv 2) (pv 4) (fun _ _ => rfl)) pa_nil)) pa_nil)))))) pa_nil))))))
      (pss_one (ps_ret (pv 3))))), fun ds R h => ?_⟩
  · obtain ⟨dr, at_, shs, rfl, _⟩ := h
    rfl
  · obtain ⟨dr, at_, shs, rfl, hs, hn, hR⟩ := h
    dsimp only [cxOf, Cx.nox, Cx.wish]
    show Ho K _ [.val (dR dr), .val (.int (at_ : Nat)), .val (shapesD shs), .un, .un, .un, .un] _ _ _ _
    have h3 := hs.hi
    refine ho_seq ?_
    refine ho_own (en_lst ?_)
    refine ea_nil (lit0 (ho_seq (ho_for (ei_range1 (ea_cons (ev_cb (ea_cons (ev_var rfl (ea_nil (rc_lenL (ea_nil ⟨_, rfl, ?_⟩)))))))))))
    refine ⟨by simp; omega, fun i G => ∃ (s4 s5 s6 : SD) (wons : List (List (List Int))), G = [.val (dR dr), .val (.int (at_ : Nat)), .val (shapesD shs), .own (wons.map casesD), s4, s5, s6] ∧ wons.length = i ∧
      ∀ (i : Nat) (s : Shape) (ws : List (List Int)), shs[i]? = some s → wons[i]? = some ws → ws.length ≤ 3 ∧ ∀ w ∈ ws, CaseOk (lims s) w, ⟨_, _, _, [], rfl, rfl, fun i s ws _ h => (nomatch h)⟩, ?_, ?_⟩
    · rintro i d G e ⟨s4, s5, s6, wons, rfl, hl, hok⟩
      obtain ⟨hi, rfl⟩ := rangeD_inv e
      rw [List.length_map] at hi
      have hsh := List.getElem?_eq_getElem (l := shs) (i := i) (by omega)
      have hso := hs.ok _ (List.mem_of_getElem? hsh)
      refine gn_name trivial (ho_seq (ho_set (ev_op (ev_var rfl (ev_op (ev_int (ev_var rfl (rv_mulC (gMulL (by decide) (rv_add (ho_app rfl (ev_lc (ei_range1 (ea_cons (ev_op (ev_cb (ea_cons (ev_op (ev_var rfl (ev_var rfl ?_))))))))))))))))))))
      refine rv_ixL (atI_map (j := at_ + 16 * i) (by omega) (getD_of 0 (by omega))) ?_
      refine ea_nil (rc_int (ev_int (rv_modC (gMod (by decide) (ea_nil ?_)))))
      refine ⟨((dr.getD (at_ + 16 * i) 0) % 4).toNat, by rw [Int.toNat_of_nonneg (by omega)], by omega, ?_⟩
      refine lc_rangeP (f := ci) (ok := fun _ c => CaseOk (lims shs[i]) c) (by omega) (fun k hk => ?_) (fun l hl2 hl3 => ?_)
      · refine gn_name (by decide) (ev_call (ea_cons (ev_var rfl (ea_cons (ev_op (ev_op (ev_var rfl (ev_int (rv_add (ev_op (ev_int (ev_var rfl (rv_mulC (gMulL (by decide) (rv_add (ea_cons (ev_call (ea_cons (ev_op (ev_var rfl (ev_var rfl ?_)))))))))))))))))))))
        refine rv_ixL (atI_map (j := i) (by omega) hsh) ?_
        refine ea_nil ?_
        refine ⟨_, rfl, by have := hso.len; omega, ?_⟩
        refine ea_nil ?_
        refine ⟨dr, at_ + 16 * i + 1 + 5 * k, lims shs[i], by simp, ?_, hso.lim, fun c hc => ⟨c, rfl, hc⟩⟩
        have := hso.lim.len
        omega
      · refine ⟨by rw [List.length_map]; omega, _, _, _, wons ++ [l], by rw [List.map_append]; rfl, by simp [hl], fun j s ws h1 h2 => ?_⟩
        by_cases hj : j < wons.length
        · rw [List.getElem?_append_left hj] at h2
          exact hok j s ws h1 h2
        · have hj2 := get_lt h2
          rw [List.length_append, List.length_singleton] at hj2
          rw [List.getElem?_append_right (by omega), show j - wons.length = 0 by omega] at h2
          cases h2
          rw [show j = i by omega, hsh] at h1
          cases h1
          refine ⟨by omega, fun w hw => ?_⟩
          obtain ⟨k, hk, rfl⟩ := List.mem_iff_getElem.mp hw
          exact hl3 k _ (List.getElem?_eq_getElem hk)
    · rintro G ⟨s4, s5, s6, wons, rfl, hl, hok⟩
      refine ho_frz 3 rfl ?_
      refine ho_ret (ev_var rfl ?_)
      rw [rangeD_length, List.length_map] at hl
      exact hR wons ⟨hl, hok⟩
end
end Sc
/-! D5: drawn parts and shapes. -/
namespace Sc
open PySem L2
def bitD : Nat → Int := fun j => [1, 2, 4].getD j 1
section
variable {P : Program} {w : World} {K : PySem.W.Frag} {mg : Str → Option Value} {base : Heap}
-- _law_parts
abbrev s__law_parts : Stmt := top 55
abbrev sc__law_parts_N : List Str := ["_law_draws_here", "_law_at", "_law_shapes_here", "_law_many", "_law_mask", "_law_parts_here", "_law_n"]
theorem sc__law_parts : FnScope sc__law_parts_N ["_law_draws_here", "_law_at", "_law_shapes_here"] (defScope s__law_parts) := ⟨rfl, rfl, rfl, by decide +kernel, rfl, by decide +kernel, by decide +kernel⟩
-- uses: g:len g:int g:range _law_limits _law_case g:tuple
-- slots: 0=_law_draws_here 1=_law_at 2=_law_shapes_here 3=_law_many 4=_law_mask 5=_law_parts_here 6=_law_n

theorem has_law_parts (F : FunAt K mg "_law_parts" s__law_parts) (T : Tx mg) (h_law_limits : Has P w K mg base "_law_limits" 1 ["_law_shape"] (spD K (W_law_limits))) (h_law_case : Has P w K mg base "_law_case" 1 ["_law_draws_here", "_law_at", "_law_limits_here"] (spD K (W_law_case))) : Has P w K mg base "_law_parts" 2 ["_law_draws_here", "_law_at", "_law_shapes_here"] (spD K (W_law_parts)) := by
  refine hasD F sc__law_parts (fun ds R h => ?_) (fun _ _ _ _ _ _ us hl => match us, hl with | [_, _, _], _ => rfl) fun f cdv A outer s H E hr => ⟨_, (pss_cons (ps_set (i := 3) sc__law_parts.nd rfl (Or.inl rfl) (pe_callB call_len_seq (by rfl) T.len (by decide +kernel) (pa_cons (pv 2) pa_nil)))
      (pss_cons (ps_set (i := 4) sc__law_parts.nd rfl (Or.inl rfl) (pe_op op_add pe_int (pe_op op_mod (pe_callTy call_int1 (by rfl) T.int (by decide +kernel) (pa_cons (pe_ix ix_list (pv 0) (pv 1) (fun _ _ => rfl)) pa_nil)) (pe_ix ix_tup (pe_tup (pa_cons pe_int (pa_cons pe_int (pa_cons pe_int pa_nil)))) (pe_op op_sub (pv 3) pe_int) (fun _ _ => rfl)))))
      (pss_cons (ps_set (i := 5) sc__law_parts.nd rfl (Or.inl rfl) (pe_lst pa_nil))
      (pss_cons (ps_for PassesOwn.never rfl (pi_range1 rfl T.range (pa_cons (pv 3) pa_nil)) (pg_name (i := 6) sc__law_parts.nd rfl (by first | exact .inl rfl | exact .inr rfl)) (pss_one (ps_if (pt_cmpR op_eq (pe_op op_mod (pe_callTy call_int1 (by rfl) T.int (by decide +kernel) (pa_cons (pe_op op_fdiv (pv 4) (pe_ix ix_tup (pe_tup (pa_cons pe_int (pa_cons pe_int (pa_cons pe_int pa_nil)))) (pv 6) (fun _ _ => rfl))) pa_nil)) pe_int) pe_int (nomark _)) (pss_one (ps_expr (pe_bm PySem.F.plainAttrs_list PySem.F.slot_list_append PySem.F.type_list_append mt_append (pv 5) (pa_cons (pe_callH h_law_case (hr.mono (by decide)) rfl (pa_cons (pv 0) (pa_cons (pe_op op_add (pe_op op_add (pv 1) pe_int) (pe_op op_mul pe_int (pv 6))) (pa_cons (pe_callH h_law_limits (hr.mono (by decide)) rfl (pa_cons (pe_ix ix_list (pv 2) (pv 6) (fun _ _ => rfl)) pa_nil)) pa_nil)))) pa_nil)))) (pss_one (ps_expr (pe_bm PySem.F.plainAttrs_list PySem.F.slot_list_append PySem.F.type_list_append mt_append (pv 5) (pa_cons pe_non pa_nil)))))))
      (pss_one (ps_ret (pe_callTy call_tuple_of (by rfl) T.tuple (by decide +kernel) (pa_cons (pv 5) pa_nil)))))))), fun ds R h => ?_⟩
  · obtain ⟨dr, at_, shs, rfl, _⟩ := h
    rfl
  · obtain ⟨dr, at_, shs, rfl, hs, hn, hR⟩ := h
    dsimp only [cxOf, Cx.nox, Cx.wish]
    show Ho K _ [.val (dR dr), .val (.int (at_ : Nat)), .val (shapesD shs), .un, .un, .un, .un] _ _ _ _
    have h1 := hs.lo
    have h3 := hs.hi
    refine ho_seq (ho_set (ev_cb (ea_cons (ev_var rfl (ea_nil (rc_lenL (ho_seq (ho_set (ev_op (ev_int (ev_op (ev_cb (ea_cons (ev_op (ev_var rfl (ev_var rfl ?_))))))))))))))))
    refine rv_ixL (atI_map (j := at_) (by omega) (getD_of 0 (by omega))) ?_
    refine ea_nil (rc_int (ev_op (ev_tup (ea_cons (ev_int (ea_cons (ev_int (ea_cons (ev_int (ea_nil (lit3 (ev_op (ev_var rfl (ev_int (rv_sub ?_)))))))))))))))
    refine rv_ixT (l := [1, 3, 7].map .int) (atI_map (j := shs.length - 1) (by simp; omega) (getD_of 0 (by simp; omega))) ?_
    refine rv_modC ?_
    have hk : ([1, 3, 7] : List Int).getD (shs.length - 1) 0 = 2 ^ shs.length - 1 := by
      have : shs.length = 1 ∨ shs.length = 2 ∨ shs.length = 3 := by omega
      rcases this with z | z | z <;> rw [z] <;> rfl
    rw [hk]
    have hpos : (0 : Int) < 2 ^ shs.length - 1 := by
      have : shs.length = 1 ∨ shs.length = 2 ∨ shs.length = 3 := by omega
      rcases this with z | z | z <;> rw [z] <;> decide
    refine ⟨hpos, ?_⟩
    have b1 := Int.emod_nonneg (dr.getD at_ 0) (b := 2 ^ shs.length - 1) (by omega)
    have b2 := Int.emod_lt_of_pos (dr.getD at_ 0) (b := 2 ^ shs.length - 1) hpos
    refine rv_add (ho_seq ?_)
    generalize hm : 1 + dr.getD at_ 0 % (2 ^ shs.length - 1) = m
    have b3 : 1 ≤ m ∧ m < 2 ^ shs.length := by omega
    refine ho_own (en_lst ?_)
    refine ea_nil (lit0 (ho_seq (ho_for (ei_range1 (ea_cons (ev_var rfl (ea_nil ⟨_, rfl, ?_⟩)))))))
    rw [List.length_map]
    refine ⟨by omega, fun i G => ∃ (s6 : SD) (ps : List Part), G = [.val (dR dr), .val (.int (at_ : Nat)), .val (shapesD shs), .val (.int (shs.length : Nat)), .val (.int m), .own (ps.map partD), s6] ∧ ps.length = i ∧
      (∀ (j : Nat) (s : Shape) (c : List Int), shs[j]? = some s → ps[j]? = some (some c) → CaseOk (lims s) c) ∧ ∀ j, j < i → m / bitD j % 2 = 1 → ∃ c, ps[j]? = some (some c), ⟨_, [], rfl, rfl, fun j s c _ h => (nomatch h), fun j h => by omega⟩, ?_, ?_⟩
    · rintro i d G e ⟨s6, ps, rfl, hl, hok, hb⟩
      obtain ⟨hi, rfl⟩ := rangeD_inv e
      have hsh := List.getElem?_eq_getElem (l := shs) (i := i) hi
      have hso := hs.ok _ (List.mem_of_getElem? hsh)
      have hbd : ([1, 2, 4] : List Int).getD i 0 = bitD i := by
        have : i = 0 ∨ i = 1 ∨ i = 2 := by omega
        rcases this with rfl | rfl | rfl <;> rfl
      have hbp : 0 < bitD i ∧ bitD i < 1073741824 := by
        have : i = 0 ∨ i = 1 ∨ i = 2 := by omega
        rcases this with rfl | rfl | rfl <;> decide
      have more_ : ∀ (p : Part) (s6' : SD), (∀ c, p = some c → CaseOk (lims shs[i]) c) → (m / bitD i % 2 = 1 → ∃ c, p = some c) →
          ∃ (s6 : SD) (ps' : List Part), [SD.val (dR dr), .val (.int (at_ : Nat)), .val (shapesD shs), .val (.int (shs.length : Nat)), .val (.int m), .own (ps.map partD ++ [partD p]), s6'] = [.val (dR dr), .val (.int (at_ : Nat)), .val (shapesD shs), .val (.int (shs.length : Nat)), .val (.int m), .own (ps'.map partD), s6] ∧ ps'.length = i + 1 ∧
      (∀ (j : Nat) (s : Shape) (c : List Int), shs[j]? = some s → ps'[j]? = some (some c) → CaseOk (lims s) c) ∧ ∀ j, j < i + 1 → m / bitD j % 2 = 1 → ∃ c, ps'[j]? = some (some c) := fun p s6' q1 q2 => by
        refine ⟨s6', ps ++ [p], by rw [List.map_append]; rfl, by simp [hl], fun j s c g1 g2 => ?_, fun j hj hbj => ?_⟩
        · by_cases hj : j < ps.length
          · rw [List.getElem?_append_left hj] at g2
            exact hok j s c g1 g2
          · have hj2 := get_lt g2
            rw [List.length_append, List.length_singleton] at hj2
            rw [List.getElem?_append_right (by omega), show j - ps.length = 0 by omega] at g2
            have g2 : some p = some (some c) := g2
            cases g2
            rw [show j = i by omega, hsh] at g1
            cases g1
            exact q1 c rfl
        · by_cases hj2 : j < i
          · obtain ⟨c, hc⟩ := hb j hj2 hbj
            exact ⟨c, by rw [List.getElem?_append_left (by omega)]; exact hc⟩
          · have : j = i := by omega
            subst this
            obtain ⟨c, rfl⟩ := q2 hbj
            refine ⟨c, ?_⟩
            rw [List.getElem?_append_right (by omega), show j - ps.length = 0 by omega]
            rfl
      refine gn_name trivial (ho_if (et_test (ev_op (ev_op (ev_cb (ea_cons (ev_op (ev_var rfl (ev_op (ev_tup (ea_cons (ev_int (ea_cons (ev_int (ea_cons (ev_int (ea_nil (lit3 (ev_var rfl ?_)))))))))))))))))))
      refine rv_ixT (l := [1, 2, 4].map .int) (atI_map (j := i) (by omega) (getD_of 0 (by simp; omega))) ?_
      rw [hbd]
      refine rv_divC ⟨hbp, ?_⟩
      refine ea_nil (rc_int (ev_int (rv_modC (gMod (by decide) (ev_int (rv_eqI ⟨_, rfl, ?_⟩))))))
      refine ⟨fun hb2 => ?_, fun hb2 => ?_⟩
      · refine ho_app rfl (ev_call (ea_cons (ev_var rfl (ea_cons (ev_op (ev_op (ev_var rfl (ev_int (rv_add (ev_op (ev_int (ev_var rfl (rv_mulC (gMulL (by decide) (rv_add (ea_cons (ev_call (ea_cons (ev_op (ev_var rfl (ev_var rfl ?_)))))))))))))))))))))
        refine rv_ixL (atI_map (j := i) (by omega) hsh) ?_
        refine ea_nil ?_
        refine ⟨_, rfl, by have := hso.len; omega, ?_⟩
        refine ea_nil ?_
        refine ⟨dr, at_ + 1 + 5 * i, lims shs[i], by simp, ?_, hso.lim, fun c hc => ?_⟩
        · have := hso.lim.len
          omega
        · refine ⟨by rw [List.length_map]; omega, ?_⟩
          exact more_ (some c) _ (fun c' e => by cases e; exact hc) fun _ => ⟨c, rfl⟩
      · refine ho_app rfl (ev_non ?_)
        refine ⟨by rw [List.length_map]; omega, ?_⟩
        exact more_ none _ (fun c' e => (nomatch e)) fun z => absurd z (of_decide_eq_false hb2)
    · rintro G ⟨s6, ps, rfl, hl, hok, hb⟩
      refine ho_frz 5 rfl ?_
      refine ho_ret (ev_cb (ea_cons (ev_var rfl (ea_nil (rc_tupL ?_)))))
      rw [rangeD_length] at hl hb
      refine hR ps ⟨hl, hok, ?_⟩
      have hx : ∃ j, j < shs.length ∧ m / bitD j % 2 = 1 := by
        have : shs.length = 1 ∨ shs.length = 2 ∨ shs.length = 3 := by omega
        have e0 : bitD 0 = 1 := rfl
        have e1 : bitD 1 = 2 := rfl
        have e2 : bitD 2 = 4 := rfl
        rcases this with z | z | z <;> rw [z] at b3 ⊢
        · exact ⟨0, by omega, by rw [e0]; omega⟩
        · by_cases q0 : m / bitD 0 % 2 = 1
          · exact ⟨0, by omega, q0⟩
          · exact ⟨1, by omega, by rw [e0] at q0; rw [e1]; omega⟩
        · by_cases q0 : m / bitD 0 % 2 = 1
          · exact ⟨0, by omega, q0⟩
          · by_cases q1 : m / bitD 1 % 2 = 1
            · exact ⟨1, by omega, q1⟩
            · exact ⟨2, by omega, by rw [e0] at q0; rw [e1] at q1; rw [e2]; omega⟩
      obtain ⟨j, hj, hbj⟩ := hx
      obtain ⟨c, hc⟩ := hb j hj hbj
      exact ⟨j, c, hc⟩
end
end Sc
/-! D6: full picks, known parts, quarrels. -/
namespace Sc
open PySem L2
theorem fullPicks_take {rows : List Row} {i : Nat} {r : Row} (h : rows[i]? = some r) : fullPicks (rows.take (i + 1)) = fullStep (fullPicks (rows.take i)) r := by
  unfold fullPicks
  rw [take_succ h, List.foldl_append]
  rfl
theorem inPlay_len {ps : List Part} : (inPlay ps).length ≤ ps.length := by
  unfold inPlay
  refine Nat.le_trans (List.length_filter_le _ _) ?_
  simp
theorem entries_len {r : Row} (h : r.parts.length ≤ 3) : (entries r).length ≤ 3 := by
  unfold entries
  split
  · rw [List.length_map]
    exact Nat.le_trans inPlay_len h
  · simp
theorem fullStep_len {told : List (List (Option Nat))} {r : Row} : (fullStep told r).length = told.length * (entries r).length := by
  unfold fullStep
  induction told with
  | nil => simp
  | cons c cs ih => rw [List.flatMap_cons, List.length_append, ih, List.length_cons, Nat.succ_mul]; simp; omega
theorem full_len : ∀ {rows : List Row} {told : List (List (Option Nat))}, (∀ r ∈ rows, r.parts.length ≤ 3) → (rows.foldl fullStep told).length ≤ told.length * 3 ^ rows.length
  | [], told, _ => by simp
  | r :: rows, told, h => by
    rw [List.foldl_cons]
    have h2 := full_len (rows := rows) (told := fullStep told r) fun x hx => h x (by simp [hx])
    rw [fullStep_len] at h2
    refine Nat.le_trans h2 ?_
    rw [List.length_cons, Nat.pow_succ, Nat.mul_comm (3 ^ rows.length) 3, ← Nat.mul_assoc]
    exact Nat.mul_le_mul_right _ (Nat.mul_le_mul_left _ (entries_len (h r (by simp))))
theorem fullPicks_len {rows : List Row} (h : rows.length ≤ 6) (h3 : ∀ r ∈ rows, r.parts.length ≤ 3) : (fullPicks rows).length ≤ 729 := by
  have h1 := full_len (told := [[]]) h3
  have h2 : 3 ^ rows.length ≤ 3 ^ 6 := Nat.pow_le_pow_right (by decide) h
  unfold fullPicks
  simp at h1
  omega
theorem full_mem : ∀ {rows : List Row} {told : List (List (Option Nat))} {p : List (Option Nat)}, p ∈ rows.foldl fullStep told → ∃ q ∈ told, p.length = q.length + rows.length
  | [], told, p, h => ⟨p, h, rfl⟩
  | r :: rows, told, p, h => by
    rw [List.foldl_cons] at h
    obtain ⟨q, hq, e⟩ := full_mem h
    unfold fullStep at hq
    obtain ⟨u, hu, hq⟩ := List.mem_flatMap.mp hq
    obtain ⟨x, hx, rfl⟩ := List.mem_map.mp hq
    exact ⟨u, hu, by rw [e]; simp; omega⟩
theorem fullPicks_mem {rows : List Row} {p : List (Option Nat)} (h : p ∈ fullPicks rows) : p.length = rows.length := by
  obtain ⟨q, hq, e⟩ := full_mem h
  have : q = [] := by simpa using hq
  rw [e, this]
  simp
theorem fullStep_take {told : List (List (Option Nat))} {r : Row} {j : Nat} {p : List (Option Nat)} (h : told[j]? = some p) : fullStep (told.take (j + 1)) r = fullStep (told.take j) r ++ (entries r).map fun e => p ++ [e] := by
  unfold fullStep
  rw [take_succ h, List.flatMap_append]
  simp
section
variable {P : Program} {w : World} {K : PySem.W.Frag} {mg : Str → Option Value} {base : Heap}
-- _law_full_picks
abbrev s__law_full_picks : Stmt := top 62
abbrev sc__law_full_picks_N : List Str := ["_law_rows", "_law_told", "_law_row", "_law_longer", "_law_k", "_law_entry"]
theorem sc__law_full_picks : FnScope sc__law_full_picks_N ["_law_rows"] (defScope s__law_full_picks) := ⟨rfl, rfl, rfl, by decide +kernel, rfl, by decide +kernel, by decide +kernel⟩
-- uses: g:len g:range _law_entries_of
-- slots: 0=_law_rows 1=_law_told 2=_law_row 3=_law_longer 4=_law_k 5=_law_entry

theorem has_law_full_picks (F : FunAt K mg "_law_full_picks" s__law_full_picks) (T : Tx mg) (h_law_entries_of : Has P w K mg base "_law_entries_of" 2 ["_law_row"] (spD K (W_law_entries_of))) : Has P w K mg base "_law_full_picks" 3 ["_law_rows"] (spD K (W_law_full_picks)) := by
  refine hasD F sc__law_full_picks (fun ds R h => ?_) (fun _ _ _ _ _ _ us hl => match us, hl with | [_], _ => rfl) fun f cdv A outer s H E hr => ⟨_, (pss_cons (ps_set (i := 1) sc__law_full_picks.nd rfl (Or.inl rfl) (pe_lst (pa_cons (pe_tup pa_nil) pa_nil)))
      (pss_cons (ps_for PassesOwn.never rfl (pi_list (pv 0)) (pg_name (i := 2) sc__law_full_picks.nd rfl (by first | exact .inl rfl | exact .inr rfl)) (pss_cons (ps_set (i := 3) sc__law_full_picks.nd rfl (Or.inl rfl) (pe_lst pa_nil))
      (pss_cons (ps_for PassesOwn.never rfl (pi_range1 rfl T.range (pa_cons (pe_callB call_len_seq (by rfl) T.len (by decide +kernel) (pa_cons (pv 1) pa_nil)) pa_nil)) (pg_name (i := 4) sc__law_full_picks.nd rfl (by first | exact .inl rfl | exact .inr rfl)) (pss_one (ps_for PassesOwn.never rfl (pi_list (pe_callH h_law_entries_of (hr.mono (by decide)) rfl (pa_cons (pv 2) pa_nil))) (pg_name (i := 5) sc__law_full_picks.nd rfl (by first | exact .inl rfl | exact .inr rfl)) (pss_one (ps_expr (pe_bm PySem.F.plainAttrs_list PySem.F.slot_list_append PySem.F.type_list_append mt_append (pv 3) (pa_cons (pe_op op_catA (pe_ix ix_list (pv 1) (pv 4) (fun _ _ => rfl)) (pe_tup (pa_cons (pv 5) pa_nil))) pa_nil)))))))
      (pss_one (ps_set (i := 1) sc__law_full_picks.nd rfl (Or.inl rfl) (pv 3))))))
      (pss_one (ps_ret (pv 1))))), fun ds R h => ?_⟩
  · obtain ⟨rows, rfl, _⟩ := h
    rfl
  · obtain ⟨rows, rfl, hn, h3, hR⟩ := h
    dsimp only [cxOf, Cx.nox, Cx.wish]
    show Ho K _ [.val (rowsD rows), .un, .un, .un, .un, .un] _ _ _ _
    refine ho_seq (ho_set ?_)
    refine ev_lst (ea_cons (ev_tup (ea_nil (lit0 (ea_nil (lit1 (ho_seq (ho_for (ei_list (ev_var rfl ⟨_, rfl, ?_⟩))))))))))
    refine ⟨fun i G => ∃ s1 s2 s3 s4, G = [.val (rowsD rows), .val (.lst ((fullPicks (rows.take i)).map picksD)), s1, s2, s3, s4], ⟨_, _, _, _, rfl⟩, ?_, ?_⟩
    · rintro i d G e ⟨s1, s2, s3, s4, rfl⟩
      obtain ⟨r, hd, rfl⟩ := map_inv e
      have hr3 := h3 r (List.mem_of_getElem? hd)
      have hfl := fullPicks_len (rows := rows.take i) (by rw [List.length_take]; omega) fun r hr => h3 r (List.mem_of_mem_take hr)
      have hlen : ∀ j, (fullStep ((fullPicks (rows.take i)).take j) r).length ≤ 729 * 3 := fun j => by
        rw [fullStep_len]
        refine Nat.mul_le_mul ?_ (entries_len hr3)
        rw [List.length_take]
        omega
      refine gn_name trivial (ho_seq ?_)
      refine ho_own (en_lst ?_)
      refine ea_nil (lit0 (ho_seq (ho_for (ei_range1 (ea_cons (ev_cb (ea_cons (ev_var rfl (ea_nil (rc_lenL (ea_nil ⟨_, rfl, ?_⟩)))))))))))
      refine ⟨by simp; omega, fun j G => ∃ s3 s4, G = [.val (rowsD rows), .val (.lst ((fullPicks (rows.take i)).map picksD)), .val (rowD r), .own ((fullStep ((fullPicks (rows.take i)).take j) r).map picksD), s3, s4], ⟨_, _, rfl⟩, ?_, ?_⟩
      · rintro j d G e ⟨s3, s4, rfl⟩
        obtain ⟨hj, rfl⟩ := rangeD_inv e
        simp at hj
        obtain ⟨p, hp⟩ : ∃ p, (fullPicks (rows.take i))[j]? = some p := ⟨_, List.getElem?_eq_getElem hj⟩
        have hpl := fullPicks_mem (List.mem_of_getElem? hp)
        rw [List.length_take] at hpl
        refine gn_name trivial (ho_for (ei_list (ev_call (ea_cons (ev_var rfl (ea_nil ?_))))))
        refine ⟨r, rfl, by omega, ?_⟩
        refine ⟨_, rfl, ?_⟩
        refine ⟨fun k G => ∃ s4, G = [.val (rowsD rows), .val (.lst ((fullPicks (rows.take i)).map picksD)), .val (rowD r), .own ((fullStep ((fullPicks (rows.take i)).take j) r ++ ((entries r).take k).map fun e => p ++ [e]).map picksD), .val (.int (0 + (j : Nat))), s4], ⟨_, by simp; rfl⟩, ?_, ?_⟩
        · rintro k d G e ⟨s4, rfl⟩
          obtain ⟨en, hen, rfl⟩ := map_inv e
          refine gn_name trivial (ho_app rfl (ev_op (ev_op (ev_var rfl (ev_var rfl ?_)))))
          refine rv_ixL (atI_map (j := j) (by omega) hp) ?_
          refine ev_tup (ea_cons (ev_var rfl (ea_nil (lit1 (rv_catT ?_)))))
          have := hlen j
          have h9 := get_lt hen
          have h10 := entries_len hr3
          refine ⟨by simp; omega, by simp; omega, ?_⟩
          dsimp only
          rw [take_succ hen, show (fullStep ((fullPicks (rows.take i)).take j) r ++ ((entries r).take k ++ [en]).map fun e => p ++ [e]).map picksD = (fullStep ((fullPicks (rows.take i)).take j) r ++ ((entries r).take k).map fun e => p ++ [e]).map picksD ++ [.tup (p.map pickD ++ [pickD en])] by simp]
          exact ⟨_, rfl⟩
        · rintro G ⟨s4, rfl⟩
          rw [List.length_map, List.take_length, ← fullStep_take hp]
          exact ⟨_, _, rfl⟩
      · rintro G ⟨s3, s4, rfl⟩
        refine ho_frz 3 rfl ?_
        refine ho_set (ev_var rfl ?_)
        rw [rangeD_length, List.length_map, List.take_length, ← fullPicks_take hd]
        exact ⟨_, _, _, _, rfl⟩
    · rintro G ⟨s1, s2, s3, s4, rfl⟩
      rw [List.length_map, List.take_length]
      refine ho_ret (ev_var rfl ?_)
      exact hR
-- _law_known
abbrev s__law_known : Stmt := top 63
abbrev sc__law_known_N : List Str := ["_law_rows", "_law_picks", "_law_issue_here", "_law_known_here", "_law_n", "_law_part"]
theorem sc__law_known : FnScope sc__law_known_N ["_law_rows", "_law_picks", "_law_issue_here"] (defScope s__law_known) := ⟨rfl, rfl, rfl, by decide +kernel, rfl, by decide +kernel, by decide +kernel⟩
-- uses: g:len g:range _law_is_choice
-- slots: 0=_law_rows 1=_law_picks 2=_law_issue_here 3=_law_known_here 4=_law_n 5=_law_part

theorem has_law_known (F : FunAt K mg "_law_known" s__law_known) (T : Tx mg) (h_law_is_choice : Has P w K mg base "_law_is_choice" 1 ["_law_row"] (spD K (W_law_is_choice))) : Has P w K mg base "_law_known" 2 ["_law_rows", "_law_picks", "_law_issue_here"] (spD K (W_law_known)) := by
  refine hasD F sc__law_known (fun ds R h => ?_) (fun _ _ _ _ _ _ us hl => match us, hl with | [_, _, _], _ => rfl) fun f cdv A outer s H E hr => ⟨_, (pss_cons (ps_set (i := 3) sc__law_known.nd rfl (Or.inl rfl) (pe_lst pa_nil))
      (pss_cons (ps_for PassesOwn.never rfl (pi_range1 rfl T.range (pa_cons (pe_callB call_len_seq (by rfl) T.len (by decide +kernel) (pa_cons (pv 0) pa_nil)) pa_nil)) (pg_name (i := 4) sc__law_known.nd rfl (by first | exact .inl rfl | exact .inr rfl)) (pss_cons (ps_set (i := 5) sc__law_known.nd rfl (Or.inl rfl) (pe_ix ix_tup (pe_ix ix_tup (pe_ix ix_list (pv 0) (pv 4) (fun _ _ => rfl)) pe_int (fun _ _ => rfl)) (pv 2) (fun _ _ => rfl)))
      (pss_one (ps_if (PW.pt (pw_and (pt_cmp (pc_notN (pv 5))) (pw_and1 (PW.pt (pw_or (pt_not (pt_val (pe_callH h_law_is_choice (hr.mono (by decide)) rfl (pa_cons (pe_ix ix_list (pv 0) (pv 4) (fun _ _ => rfl)) pa_nil)))) (pw_or1 (pt_cmpR op_eq (pe_ix ix_tup (pv 1) (pv 4) (fun _ _ => rfl)) (pv 2) (nomark _)))))))) (pss_one (ps_expr (pe_bm PySem.F.plainAttrs_list PySem.F.slot_list_append PySem.F.type_list_append mt_append (pv 3) (pa_cons (pe_tup (pa_cons (pv 4) (pa_cons (pv 5) (pa_cons (pe_ix ix_tup (pe_ix ix_list (pv 0) (pv 4) (fun _ _ => rfl)) pe_int (fun _ _ => rfl)) pa_nil)))) pa_nil)))) pss_nil))))
      (pss_one (ps_ret (pv 3))))), fun ds R h => ?_⟩
  · obtain ⟨rows, p, i, rfl, _⟩ := h
    rfl
  · obtain ⟨rows, p, i, rfl, hn, hp, hi, hR⟩ := h
    dsimp only [cxOf, Cx.nox, Cx.wish]
    show Ho K _ [.val (rowsD rows), .val (picksD p), .val (.int (i : Nat)), .un, .un, .un] _ _ _ _
    refine ho_seq ?_
    refine ho_own (en_lst ?_)
    refine ea_nil (lit0 (ho_seq (ho_for (ei_range1 (ea_cons (ev_cb (ea_cons (ev_var rfl (ea_nil (rc_lenL (ea_nil ⟨_, rfl, ?_⟩)))))))))))
    refine ⟨by simp; omega, fun n G => ∃ s4 s5, G = [.val (rowsD rows), .val (picksD p), .val (.int (i : Nat)), .own (((rows.zipIdx.take n).filterMap (kn1 p i)).map knD), s4, s5], ⟨_, _, rfl⟩, ?_, ?_⟩
    · rintro n d G e ⟨s4, s5, rfl⟩
      obtain ⟨hn2, rfl⟩ := rangeD_inv e
      rw [List.length_map] at hn2
      obtain ⟨r, hr⟩ : ∃ r, rows[n]? = some r := ⟨_, List.getElem?_eq_getElem hn2⟩
      obtain ⟨q, hq⟩ : ∃ q, r.parts[i]? = some q := ⟨_, List.getElem?_eq_getElem (hi r (List.mem_of_getElem? hr))⟩
      obtain ⟨e, he⟩ : ∃ e, p[n]? = some e := ⟨_, List.getElem?_eq_getElem (by omega)⟩
      have hz : rows.zipIdx[n]? = some (r, n) := by rw [List.getElem?_zipIdx, hr]; simp
      have hk : ∀ c, q = some c → kn1 p i (r, n) = if !isCh r || e == some i then some (n, c, r.won) else none := fun c hc => by
        subst hc
        unfold kn1
        rw [getD_get hq, getD_get he]
      have hk0 : q = none → kn1 p i (r, n) = none := fun hc => by
        subst hc
        unfold kn1
        rw [getD_get hq]
      have put : ∀ o, kn1 p i (r, n) = o → (rows.zipIdx.take (n + 1)).filterMap (kn1 p i) = (rows.zipIdx.take n).filterMap (kn1 p i) ++ o.toList := fun o ho => by
        rw [take_succ hz, List.filterMap_append, List.filterMap_cons, ho]
        cases o <;> rfl
      have hlen : ((rows.zipIdx.take n).filterMap (kn1 p i)).length ≤ 6 := by
        refine Nat.le_trans (List.length_filterMap_le _ _) ?_
        rw [List.length_take, List.length_zipIdx]
        omega
      refine gn_name trivial (ho_seq (ho_set (ev_op (ev_op (ev_op (ev_var rfl (ev_var rfl ?_)))))))
      refine rv_ixL (atI_map (j := n) (by omega) hr) ?_
      refine ev_int (rv_ixT rfl (ev_var rfl ?_))
      refine rv_ixT (atI_map (j := i) (by omega) hq) ?_
      refine ho_if (et_and (et_B (ev_notN (ev_var rfl ⟨_, rfl, ?_⟩))))
      refine ⟨fun hb => ?_, fun hb => ?_⟩
      · refine et_or (et_not (et_B (ev_call (ea_cons (ev_op (ev_var rfl (ev_var rfl ?_)))))))
        refine rv_ixL (atI_map (j := n) (by omega) hr) ?_
        refine ea_nil ?_
        refine ⟨r, rfl, ?_⟩
        refine ⟨_, rfl, ?_⟩
        obtain ⟨c, rfl⟩ : ∃ c, q = some c := by
          cases q with
          | none => exact absurd hb (by decide)
          | some c => exact ⟨c, rfl⟩
        have fin : (!isCh r || e == some i) = true → Ho K (tDrop (tBM K "list" rAppend (tVar 3) (tCons (tTup (tCons (tVar 4) (tCons (tVar 5) (tCons (tOp (rIxT K) (tOp (rIxL K) (tVar 0) (tVar 4)) (tC (V.int 2))) tNil)))) tNil)))
            [SD.val (rowsD rows), SD.val (picksD p), SD.val (Da.int ↑i), SD.own (List.map knD (List.filterMap (kn1 p i) (List.take n rows.zipIdx))), SD.val (Da.int (0 + ↑n)), SD.val (ci c)]
            (fun G => ∃ s4 s5, G = [.val (rowsD rows), .val (picksD p), .val (.int (i : Nat)), .own (((rows.zipIdx.take (n + 1)).filterMap (kn1 p i)).map knD), s4, s5]) R (fun G' => Ho K (tRet (tVar 3)) G' (fun x => R Da.non) R noG noG)
            (fun G => ∃ s4 s5, G = [.val (rowsD rows), .val (picksD p), .val (.int (i : Nat)), .own (((rows.zipIdx.take (n + 1)).filterMap (kn1 p i)).map knD), s4, s5]) := fun hx => by
          refine ho_app rfl (ev_tup (ea_cons (ev_var rfl (ea_cons (ev_var rfl (ea_cons (ev_op (ev_op (ev_var rfl (ev_var rfl ?_))))))))))
          refine rv_ixL (atI_map (j := n) (by omega) hr) ?_
          refine ev_int (rv_ixT rfl (ea_nil (lit3 ?_)))
          refine ⟨by rw [List.length_map]; omega, ?_⟩
          rw [put (some (n, c, r.won)) (by rw [hk c rfl, if_pos hx]), List.map_append, Int.zero_add]
          exact ⟨_, _, rfl⟩
        have fin0 : (!isCh r || e == some i) = false → ∃ s4 s5, [SD.val (rowsD rows), SD.val (picksD p), SD.val (Da.int ↑i), SD.own (List.map knD (List.filterMap (kn1 p i) (List.take n rows.zipIdx))), SD.val (Da.int (0 + ↑n)), SD.val (ci c)] = [.val (rowsD rows), .val (picksD p), .val (.int (i : Nat)), .own (((rows.zipIdx.take (n + 1)).filterMap (kn1 p i)).map knD), s4, s5] := fun hx => by
          rw [put none (by rw [hk c rfl, hx]; rfl), Option.toList_none, List.append_nil]
          exact ⟨_, _, rfl⟩
        refine ⟨fun hc => ?_, fun hc => ?_⟩
        · refine ⟨fun _ => fin (by rw [hc]; rfl), fun z => nomatch z⟩
        · refine et_test (ev_op (ev_op (ev_var rfl (ev_var rfl ?_))))
          refine rv_ixT (atI_map (j := n) (by omega) he) ?_
          refine ev_var rfl (rv_eqP ⟨_, rfl, ?_⟩)
          refine ⟨fun hd => fin (by rw [hc, hd]; rfl), fun hd => ?_⟩
          refine ho_nil ?_
          exact fin0 (by rw [hc, hd]; rfl)
      · refine ⟨fun z => (nomatch z), fun _ => ?_⟩
        refine ho_nil ?_
        cases q with
        | some c => exact nomatch (show true = false from hb)
        | none =>
          rw [put none (hk0 rfl), Option.toList_none, List.append_nil]
          exact ⟨_, _, rfl⟩
    · rintro G ⟨s4, s5, rfl⟩
      refine ho_frz 3 rfl ?_
      refine ho_ret (ev_var rfl ?_)
      rw [rangeD_length, List.length_map, List.take_of_length_le (by rw [List.length_zipIdx]; exact Nat.le_refl _)]
      exact hR
end
end Sc
/-! D7: quarrels. -/
namespace Sc
open PySem L2
theorem knAll_get {n : Nat} {rows : List Row} {p : List (Option Nat)} {i : Nat} {l : List Kn} (h : (knAll n rows p)[i]? = some l) : i < n ∧ l = kn rows p i := by
  unfold knAll at h
  rw [List.getElem?_map] at h
  by_cases hi : i < n
  · rw [List.getElem?_range hi] at h
    cases h
    exact ⟨hi, rfl⟩
  · rw [List.getElem?_eq_none (by simp; omega)] at h
    cases h
theorem kn_len {rows : List Row} {p : List (Option Nat)} {i : Nat} : (kn rows p i).length ≤ rows.length := by
  unfold kn
  refine Nat.le_trans (List.length_filterMap_le _ _) ?_
  simp
theorem kn_mem {rows : List Row} {p : List (Option Nat)} {i : Nat} {k : Kn} (h : k ∈ kn rows p i) : ∃ r, rows[k.1]? = some r ∧ r.parts.getD i none = some k.2.1 ∧ k.2.2 = r.won ∧ (isCh r = false ∨ p.getD k.1 none = some i) := by
  unfold kn at h
  obtain ⟨⟨r, n⟩, hm, hk⟩ := List.mem_filterMap.mp h
  have hr : rows[n]? = some r := by
    have := List.mem_zipIdx_iff_getElem?.mp hm
    simpa using this
  unfold kn1 at hk
  dsimp only at hk
  cases q : r.parts.getD i none with
  | none => rw [q] at hk; cases hk
  | some c =>
    rw [q] at hk
    dsimp only at hk
    split at hk
    · next hc =>
      cases hk
      refine ⟨r, hr, q, rfl, ?_⟩
      rw [Bool.or_eq_true, Bool.not_eq_true', beq_iff_eq] at hc
      exact hc
    · cases hk
theorem part_len {shs : List Shape} {rows : List Row} (hr : RowsOk shs rows) {r : Row} {i : Nat} {c : List Int} (hm : r ∈ rows) (hc : r.parts.getD i none = some c) : ∃ s, shs[i]? = some s ∧ CaseOk (lims s) c := by
  have hp := hr.ok r hm
  have hi : i < r.parts.length := by
    by_cases h : i < r.parts.length
    · exact h
    · rw [List.getD_eq_getElem?_getD, List.getElem?_eq_none (by omega)] at hc
      cases hc
  have hs := List.getElem?_eq_getElem (l := shs) (i := i) (by rw [← hp.len]; exact hi)
  exact ⟨_, hs, hp.ok i _ c hs (by rw [getD_of none hi, hc])⟩
theorem kn_case {shs : List Shape} {rows : List Row} (hr : RowsOk shs rows) {p : List (Option Nat)} {i : Nat} {k : Kn} (h : k ∈ kn rows p i) : ∃ s, shs[i]? = some s ∧ CaseOk (lims s) k.2.1 := by
  obtain ⟨r, h1, h2, _⟩ := kn_mem h
  exact part_len hr (List.mem_of_getElem? h1) h2
/-- two steps of the quarrels -/
def oddIn (i : Nat) (l : List Kn) (a : Kn) : List (Nat × Nat × Nat) := (l.filter fun b => a.2.2 && !b.2.2 && ge b.2.1 a.2.1).map fun b => (i, a.1, b.1)
theorem odd1_take {i j : Nat} {l m : List Kn} {a : Kn} (h : m[j]? = some a) : (m.take (j + 1)).flatMap (oddIn i l) = (m.take j).flatMap (oddIn i l) ++ oddIn i l a := by
  rw [take_succ h, List.flatMap_append]
  simp
theorem odds_take {l : List (List Kn)} {i : Nat} {m : List Kn} (h : l[i]? = some m) : (l.zipIdx.take (i + 1)).flatMap (fun p => odd1 p.2 p.1) = (l.zipIdx.take i).flatMap (fun p => odd1 p.2 p.1) ++ odd1 i m := by
  have hz : l.zipIdx[i]? = some (m, i) := by rw [List.getElem?_zipIdx, h]; simp
  rw [take_succ hz, List.flatMap_append]
  simp
theorem oddIn_take {i k : Nat} {l : List Kn} {a b : Kn} (h : l[k]? = some b) : oddIn i (l.take (k + 1)) a = oddIn i (l.take k) a ++ if a.2.2 && !b.2.2 && ge b.2.1 a.2.1 then [(i, a.1, b.1)] else [] := by
  unfold oddIn
  rw [take_succ h, List.filter_append, List.map_append]
  congr 1
  rw [List.filter_cons]
  split <;> rfl
theorem oddIn_len {i : Nat} {l : List Kn} {a : Kn} : (oddIn i l a).length ≤ l.length := by
  unfold oddIn
  rw [List.length_map]
  exact List.length_filter_le _ _
theorem fm_len {α β : Type} {f : α → List β} {n : Nat} : ∀ {l : List α}, (∀ a ∈ l, (f a).length ≤ n) → (l.flatMap f).length ≤ l.length * n
  | [], _ => by simp
  | a :: l, h => by
    rw [List.flatMap_cons, List.length_append, List.length_cons, Nat.succ_mul]
    have h1 := h a (by simp)
    have h2 := fm_len (l := l) fun x hx => h x (by simp [hx])
    omega
theorem odds_len {l : List (List Kn)} {i : Nat} {n : Nat} (h : ∀ m ∈ l, m.length ≤ n) : ((l.zipIdx.take i).flatMap fun p => odd1 p.2 p.1).length ≤ l.length * (n * n) := by
  refine Nat.le_trans (fm_len (n := n * n) fun p hp => ?_) (Nat.mul_le_mul_right _ (by rw [List.length_take, List.length_zipIdx]; omega))
  have hm : p.1 ∈ l := by
    have := List.mem_of_mem_take hp
    have h2 := List.mem_zipIdx_iff_getElem?.mp this
    exact List.mem_of_getElem? h2
  have hl := h _ hm
  show (p.1.flatMap (oddIn p.2 p.1)).length ≤ _
  refine Nat.le_trans (fm_len (n := n) fun a _ => Nat.le_trans oddIn_len hl) (Nat.mul_le_mul_right _ hl)
section
variable {P : Program} {w : World} {K : PySem.W.Frag} {mg : Str → Option Value} {base : Heap}
-- known_quarrels
abbrev s_known_quarrels : Stmt := top 41
abbrev sc_known_quarrels_N : List Str := ["known", "found", "issue", "rows", "won", "weak", "more", "lost", "strong", "less"]
theorem sc_known_quarrels : FnScope sc_known_quarrels_N ["known"] (defScope s_known_quarrels) := ⟨rfl, rfl, rfl, by decide +kernel, rfl, by decide +kernel, by decide +kernel⟩
-- uses: g:enumerate at_least
-- slots: 0=known 1=found 2=issue 3=rows 4=won 5=weak 6=more 7=lost 8=strong 9=less

theorem has_known_quarrels (F : FunAt K mg "known_quarrels" s_known_quarrels) (T : Tx mg) (h_at_least : Has P w K mg base "at_least" 1 ["x", "y"] (spD K (W_at_least))) : Has P w K mg base "known_quarrels" 2 ["known"] (spD K (W_known_quarrels)) := by
  refine hasD F sc_known_quarrels (fun ds R h => ?_) (fun _ _ _ _ _ _ us hl => match us, hl with | [_], _ => rfl) fun f cdv A outer s H E hr => ⟨_, (pss_cons (ps_set (i := 1) sc_known_quarrels.nd rfl (Or.inl rfl) (pe_lst pa_nil))
      (pss_cons (ps_for PassesOwn.never rfl (pi_enumK true (by rfl) T.enumerate (pa_cons (pv 0) pa_nil)) (pg_tup rfl (pgs_cons (pg_name (i := 2) sc_known_quarrels.nd rfl (by first | exact .inl rfl | exact .inr rfl)) (pgs_cons (pg_name (i := 3) sc_known_quarrels.nd rfl (by first | exact .inl rfl | exact .inr rfl)) pgs_nil))) (pss_one (ps_for PassesOwn.never rfl (pi_list (pv 3)) (pg_tup rfl (pgs_cons (pg_name (i := 4) sc_known_quarrels.nd rfl (by first | exact .inl rfl | exact .inr rfl)) (pgs_cons (pg_name (i := 5) sc_known_quarrels.nd rfl (by first | exact .inl rfl | exact .inr rfl)) (pgs_cons (pg_name (i := 6) sc_known_quarrels.nd rfl (by first | exact .inl rfl | exact .inr rfl)) pgs_nil)))) (pss_one (ps_for PassesOwn.never rfl (pi_list (pv 3)) (pg_tup rfl (pgs_cons (pg_name (i := 7) sc_known_quarrels.nd rfl (by first | exact .inl rfl | exact .inr rfl)) (pgs_cons (pg_name (i := 8) sc_known_quarrels.nd rfl (by first | exact .inl rfl | exact .inr rfl)) (pgs_cons (pg_name (i := 9) sc_known_quarrels.nd rfl (by first | exact .inl rfl | exact .inr rfl)) pgs_nil)))) (pss_one (ps_if (PW.pt (pw_and (pt_cmpR op_gt (pv 6) (pv 9) (nomark _)) (pw_and1 (pt_val (pe_callH h_at_least (hr.mono (by decide)) rfl (pa_cons (pv 8) (pa_cons (pv 5) pa_nil))))))) (pss_one (ps_expr (pe_bm PySem.F.plainAttrs_list PySem.F.slot_list_append PySem.F.type_list_append mt_append (pv 1) (pa_cons (pe_tup (pa_cons (pv 2) (pa_cons (pv 4) (pa_cons (pv 7) pa_nil)))) pa_nil)))) pss_nil)))))))
      (pss_one (ps_ret (pv 1))))), fun ds R h => ?_⟩
  · obtain ⟨shs, rows, p, rfl, _⟩ := h
    rfl
  · obtain ⟨shs, rows, p, rfl, hs, hr, hp, hR⟩ := h
    dsimp only [cxOf, Cx.nox, Cx.wish]
    have h3 := hs.hi
    have h6 := hr.len
    have hkl : (knAll shs.length rows p).length = shs.length := by simp [knAll]
    have hk6 : ∀ m ∈ knAll shs.length rows p, m.length ≤ 6 := fun m hm => by
      obtain ⟨i, hi, e⟩ := List.mem_iff_getElem.mp hm
      obtain ⟨_, rfl⟩ := knAll_get (by rw [List.getElem?_eq_getElem hi, e])
      have := kn_len (rows := rows) (p := p) (i := i)
      omega
    generalize hl : knAll shs.length rows p = l at hR hkl hk6 ⊢
    show Ho K _ [.val (knAllD l), .un, .un, .un, .un, .un, .un, .un, .un, .un] _ _ _ _
    refine ho_seq ?_
    refine ho_own (en_lst ?_)
    refine ea_nil (lit0 (ho_seq (ho_for (ei_enL (ea_cons (ev_var rfl (ea_nil ⟨_, rfl, ?_⟩)))))))
    refine ⟨fun i G => ∃ s2 s3 s4 s5 s6 s7 s8 s9, G = [.val (knAllD l), .own (((l.zipIdx.take i).flatMap fun p => odd1 p.2 p.1).map oddD), s2, s3, s4, s5, s6, s7, s8, s9], ⟨_, _, _, _, _, _, _, _, rfl⟩, ?_, ?_⟩
    · rintro i d G e ⟨s2, s3, s4, s5, s6, s7, s8, s9, rfl⟩
      obtain ⟨m, hm, rfl⟩ := enumD_inv (f := fun k : List Kn => Da.lst (k.map knD)) e
      have hm6 := hk6 m (List.mem_of_getElem? hm)
      have hol := odds_len (i := i) hk6
      have hcase : ∀ k ∈ m, ∃ s, shs[i]? = some s ∧ CaseOk (lims s) k.2.1 := by
        obtain ⟨_, rfl⟩ := knAll_get (by rw [hl]; exact hm)
        exact fun k hk => kn_case hr hk
      refine gn_tup rfl (gns_cons (gn_name trivial (gns_cons (gn_name trivial (gns_nil (ho_for (ei_list (ev_var rfl ⟨_, rfl, ?_⟩))))))))
      generalize hA : (l.zipIdx.take i).flatMap (fun p => odd1 p.2 p.1) = A at hol ⊢
      refine ⟨fun j G => ∃ s4 s5 s6 s7 s8 s9, G = [.val (knAllD l), .own ((A ++ (m.take j).flatMap (oddIn i m)).map oddD), .val (.int (i : Nat)), .val (.lst (m.map knD)), s4, s5, s6, s7, s8, s9], ⟨s4, s5, s6, s7, s8, s9, by simp⟩, ?_, ?_⟩
      · rintro j d G e ⟨s4, s5, s6, s7, s8, s9, rfl⟩
        obtain ⟨a, ha, rfl⟩ := map_inv e
        refine gn_tup rfl (gns_cons (gn_name trivial (gns_cons (gn_name trivial (gns_cons (gn_name trivial (gns_nil (ho_for (ei_list (ev_var rfl ⟨_, rfl, ?_⟩))))))))))
        have hBl : ((m.take j).flatMap (oddIn i m)).length ≤ 6 * 6 := by
          refine Nat.le_trans (fm_len (n := 6) fun a _ => Nat.le_trans oddIn_len hm6) (Nat.mul_le_mul_right _ ?_)
          rw [List.length_take]
          omega
        generalize hB : (m.take j).flatMap (oddIn i m) = B at hBl ⊢
        refine ⟨fun k G => ∃ s7 s8 s9, G = [.val (knAllD l), .own ((A ++ B ++ oddIn i (m.take k) a).map oddD), .val (.int (i : Nat)), .val (.lst (m.map knD)), .val (.int (a.1 : Nat)), .val (ci a.2.1), .val (.int (gI a.2.2)), s7, s8, s9], ⟨s7, s8, s9, by simp [oddIn]⟩, ?_, ?_⟩
        · rintro k d G e ⟨s7, s8, s9, rfl⟩
          obtain ⟨b, hb, rfl⟩ := map_inv e
          obtain ⟨s, hs1, hca⟩ := hcase a (List.mem_of_getElem? ha)
          obtain ⟨s', hs2, hcb⟩ := hcase b (List.mem_of_getElem? hb)
          rw [hs1] at hs2
          cases hs2
          have hl5 := (hs.ok s (List.mem_of_getElem? hs1)).lim.len
          have hIl : (oddIn i (m.take k) a).length ≤ 6 := Nat.le_trans oddIn_len (by rw [List.length_take]; omega)
          refine gn_tup rfl (gns_cons (gn_name trivial (gns_cons (gn_name trivial (gns_cons (gn_name trivial (gns_nil (ho_if (et_and (et_test (ev_op (ev_var rfl (ev_var rfl (rv_gt ⟨_, rfl, ?_⟩))))))))))))))
          have eg : (decide (gI b.2.2 < gI a.2.2) : Bool) = (a.2.2 && !b.2.2) := by
            cases a.2.2 <;> cases b.2.2 <;> decide
          have fin0 : (a.2.2 && !b.2.2 && ge b.2.1 a.2.1) = false → ∃ s7' s8' s9', [SD.val (knAllD l), .own ((A ++ B ++ oddIn i (m.take k) a).map oddD), .val (.int (i : Nat)), .val (.lst (m.map knD)), .val (.int (a.1 : Nat)), .val (ci a.2.1), .val (.int (gI a.2.2)), .val (.int (b.1 : Nat)), .val (ci b.2.1), .val (.int (gI b.2.2))] =
              [.val (knAllD l), .own ((A ++ B ++ oddIn i (m.take (k + 1)) a).map oddD), .val (.int (i : Nat)), .val (.lst (m.map knD)), .val (.int (a.1 : Nat)), .val (ci a.2.1), .val (.int (gI a.2.2)), s7', s8', s9'] := fun hx => by
            rw [oddIn_take hb, hx, if_neg Bool.false_ne_true, List.append_nil]
            exact ⟨_, _, _, rfl⟩
          refine ⟨fun hx => ?_, fun hx => ?_⟩
          · refine et_B (ev_call (ea_cons (ev_var rfl (ea_cons (ev_var rfl (ea_nil ?_))))))
            refine ⟨b.2.1, a.2.1, rfl, by rw [hca.len, hcb.len], by rw [hcb.len]; omega, ?_⟩
            refine ⟨_, rfl, ?_⟩
            refine ⟨fun hy => ?_, fun hy => ?_⟩
            · refine ho_app rfl (ev_tup (ea_cons (ev_var rfl (ea_cons (ev_var rfl (ea_cons (ev_var rfl (ea_nil (lit3 ?_)))))))))
              refine ⟨by simp; omega, ?_⟩
              dsimp only
              rw [oddIn_take hb, if_pos (by rw [← eg, hx, hy]; rfl), ← List.append_assoc, List.map_append (l₂ := [(i, a.1, b.1)])]
              exact ⟨_, _, _, rfl⟩
            · refine ho_nil ?_
              exact fin0 (by rw [hy, Bool.and_false])
          · refine ff_and (ho_nil ?_)
            exact fin0 (by rw [← eg, hx, Bool.false_and])
        · rintro G ⟨s7, s8, s9, rfl⟩
          rw [List.length_map, List.take_length, List.append_assoc, ← hB, ← odd1_take ha]
          exact ⟨_, _, _, _, _, _, rfl⟩
      · rintro G ⟨s4, s5, s6, s7, s8, s9, rfl⟩
        rw [List.length_map, List.take_length, ← hA]
        rw [show (l.zipIdx.take i).flatMap (fun p => odd1 p.2 p.1) ++ m.flatMap (oddIn i m) = (l.zipIdx.take (i + 1)).flatMap (fun p => odd1 p.2 p.1) from (odds_take hm).symm]
        exact ⟨_, _, _, _, _, _, _, _, rfl⟩
    · rintro G ⟨s2, s3, s4, s5, s6, s7, s8, s9, rfl⟩
      refine ho_frz 1 rfl ?_
      refine ho_ret (ev_var rfl ?_)
      rw [enumD_length, List.length_map, List.take_of_length_le (by rw [List.length_zipIdx]; exact Nat.le_refl _)]
      exact hR
end
end Sc
/-! D8: the law's quarrels, shuffled rows. -/
namespace Sc
open PySem L2
theorem knAll_at {n : Nat} {rows : List Row} {p : List (Option Nat)} {i : Nat} (h : i < n) : (knAll n rows p)[i]? = some (kn rows p i) := by
  unfold knAll
  rw [List.getElem?_map, List.getElem?_range h]
  rfl
section
variable {P : Program} {w : World} {K : PySem.W.Frag} {mg : Str → Option Value} {base : Heap}
-- _law_odds
abbrev s__law_odds : Stmt := top 64
abbrev sc__law_odds_N : List Str := ["_law_rows", "_law_picks", "_law_issues", "_law_found", "_law_issue_here", "_law_known_here", "_law_one", "_law_other"]
theorem sc__law_odds : FnScope sc__law_odds_N ["_law_rows", "_law_picks", "_law_issues"] (defScope s__law_odds) := ⟨rfl, rfl, rfl, by decide +kernel, rfl, by decide +kernel, by decide +kernel⟩
-- uses: g:range _law_known _law_above
-- slots: 0=_law_rows 1=_law_picks 2=_law_issues 3=_law_found 4=_law_issue_here 5=_law_known_here 6=_law_one 7=_law_other

theorem has_law_odds (F : FunAt K mg "_law_odds" s__law_odds) (T : Tx mg) (h_law_known : Has P w K mg base "_law_known" 2 ["_law_rows", "_law_picks", "_law_issue_here"] (spD K (W_law_known))) (h_law_above : Has P w K mg base "_law_above" 1 ["_law_x", "_law_y"] (spD K (W_law_above))) : Has P w K mg base "_law_odds" 3 ["_law_rows", "_law_picks", "_law_issues"] (spD K (W_law_odds)) := by
  refine hasD F sc__law_odds (fun ds R h => ?_) (fun _ _ _ _ _ _ us hl => match us, hl with | [_, _, _], _ => rfl) fun f cdv A outer s H E hr => ⟨_, (pss_cons (ps_set (i := 3) sc__law_odds.nd rfl (Or.inl rfl) (pe_lst pa_nil))
      (pss_cons (ps_for PassesOwn.never rfl (pi_range1 rfl T.range (pa_cons (pv 2) pa_nil)) (pg_name (i := 4) sc__law_odds.nd rfl (by first | exact .inl rfl | exact .inr rfl)) (pss_cons (ps_set (i := 5) sc__law_odds.nd rfl (Or.inl rfl) (pe_callH h_law_known (hr.mono (by decide)) rfl (pa_cons (pv 0) (pa_cons (pv 1) (pa_cons (pv 4) pa_nil)))))
      (pss_one (ps_for PassesOwn.never rfl (pi_list (pv 5)) (pg_name (i := 6) sc__law_odds.nd rfl (by first | exact .inl rfl | exact .inr rfl)) (pss_one (ps_for PassesOwn.never rfl (pi_list (pv 5)) (pg_name (i := 7) sc__law_odds.nd rfl (by first | exact .inl rfl | exact .inr rfl)) (pss_one (ps_if (PW.pt (pw_and (pt_cmpR op_eq (pe_ix ix_tup (pv 6) pe_int (fun _ _ => rfl)) pe_int (nomark _)) (pw_and (pt_cmpR op_eq (pe_ix ix_tup (pv 7) pe_int (fun _ _ => rfl)) pe_int (nomark _)) (pw_and1 (pt_val (pe_callH h_law_above (hr.mono (by decide)) rfl (pa_cons (pe_ix ix_tup (pv 7) pe_int (fun _ _ => rfl)) (pa_cons (pe_ix ix_tup (pv 6) pe_int (fun _ _ => rfl)) pa_nil)))))))) (pss_one (ps_expr (pe_bm PySem.F.plainAttrs_list PySem.F.slot_list_append PySem.F.type_list_append mt_append (pv 3) (pa_cons (pe_tup (pa_cons (pv 4) (pa_cons (pe_ix ix_tup (pv 6) pe_int (fun _ _ => rfl)) (pa_cons (pe_ix ix_tup (pv 7) pe_int (fun _ _ => rfl)) pa_nil)))) pa_nil)))) pss_nil))))))))
      (pss_one (ps_ret (pv 3))))), fun ds R h => ?_⟩
  · obtain ⟨shs, rows, p, rfl, _⟩ := h
    rfl
  · obtain ⟨shs, rows, p, rfl, hs, hr, hp, hR⟩ := h
    dsimp only [cxOf, Cx.nox, Cx.wish]
    have h3 := hs.hi
    have h6 := hr.len
    have hkl : (knAll shs.length rows p).length = shs.length := by simp [knAll]
    have hk6 : ∀ m ∈ knAll shs.length rows p, m.length ≤ 6 := fun m hm => by
      obtain ⟨i, hi, e⟩ := List.mem_iff_getElem.mp hm
      obtain ⟨_, rfl⟩ := knAll_get (by rw [List.getElem?_eq_getElem hi, e])
      have := kn_len (rows := rows) (p := p) (i := i)
      omega
    have hk0 : ∀ i, i < shs.length → (knAll shs.length rows p)[i]? = some (kn rows p i) := fun i hi => knAll_at hi
    generalize knAll shs.length rows p = l at hR hkl hk6 hk0 ⊢
    show Ho K _ [.val (rowsD rows), .val (picksD p), .val (.int (shs.length : Nat)), .un, .un, .un, .un, .un] _ _ _ _
    refine ho_seq ?_
    refine ho_own (en_lst ?_)
    refine ea_nil (lit0 (ho_seq (ho_for (ei_range1 (ea_cons (ev_var rfl (ea_nil ⟨_, rfl, ?_⟩)))))))
    refine ⟨by omega, fun i G => ∃ s4 s5 s6 s7, G = [.val (rowsD rows), .val (picksD p), .val (.int (shs.length : Nat)), .own (((l.zipIdx.take i).flatMap fun p => odd1 p.2 p.1).map oddD), s4, s5, s6, s7], ⟨_, _, _, _, rfl⟩, ?_, ?_⟩
    · rintro i d G e ⟨s4, s5, s6, s7, rfl⟩
      obtain ⟨hi, rfl⟩ := rangeD_inv e
      have hm := hk0 i hi
      have hm6 := hk6 _ (List.mem_of_getElem? hm)
      have hol := odds_len (i := i) hk6
      have hcase : ∀ k ∈ kn rows p i, ∃ s, shs[i]? = some s ∧ CaseOk (lims s) k.2.1 := fun k hk => kn_case hr hk
      refine gn_name trivial (ho_seq (ho_set (ev_call (ea_cons (ev_var rfl (ea_cons (ev_var rfl (ea_cons (ev_var rfl (ea_nil ?_))))))))))
      refine ⟨rows, p, i, by rw [Int.zero_add], h6, hp, fun r hm => by rw [(hr.ok r hm).len]; exact hi, ?_⟩
      generalize kn rows p i = m at hm hm6 hcase ⊢
      refine ho_for (ei_list (ev_var rfl ⟨_, rfl, ?_⟩))
      rw [Int.zero_add]
      generalize hA : (l.zipIdx.take i).flatMap (fun p => odd1 p.2 p.1) = A at hol ⊢
      refine ⟨fun j G => ∃ s6 s7, G = [.val (rowsD rows), .val (picksD p), .val (.int (shs.length : Nat)), .own ((A ++ (m.take j).flatMap (oddIn i m)).map oddD), .val (.int (i : Nat)), .val (.lst (m.map knD)), s6, s7], ⟨s6, s7, by simp⟩, ?_, ?_⟩
      · rintro j d G e ⟨s6, s7, rfl⟩
        obtain ⟨a, ha, rfl⟩ := map_inv e
        refine gn_name trivial (ho_for (ei_list (ev_var rfl ⟨_, rfl, ?_⟩)))
        have hBl : ((m.take j).flatMap (oddIn i m)).length ≤ 6 * 6 := by
          refine Nat.le_trans (fm_len (n := 6) fun a _ => Nat.le_trans oddIn_len hm6) (Nat.mul_le_mul_right _ ?_)
          rw [List.length_take]
          omega
        generalize hB : (m.take j).flatMap (oddIn i m) = B at hBl ⊢
        refine ⟨fun k G => ∃ s7, G = [.val (rowsD rows), .val (picksD p), .val (.int (shs.length : Nat)), .own ((A ++ B ++ oddIn i (m.take k) a).map oddD), .val (.int (i : Nat)), .val (.lst (m.map knD)), .val (knD a), s7], ⟨s7, by simp [oddIn]⟩, ?_, ?_⟩
        · rintro k d G e ⟨s7, rfl⟩
          obtain ⟨b, hb, rfl⟩ := map_inv e
          obtain ⟨s, hs1, hca⟩ := hcase a (List.mem_of_getElem? ha)
          obtain ⟨s', hs2, hcb⟩ := hcase b (List.mem_of_getElem? hb)
          rw [hs1] at hs2
          cases hs2
          have hl5 := (hs.ok s (List.mem_of_getElem? hs1)).lim.len
          have hIl : (oddIn i (m.take k) a).length ≤ 6 := Nat.le_trans oddIn_len (by rw [List.length_take]; omega)
          have ea : (decide (gI a.2.2 = 1) : Bool) = a.2.2 := by cases a.2.2 <;> decide
          have eb : (decide (gI b.2.2 = 0) : Bool) = !b.2.2 := by cases b.2.2 <;> decide
          refine gn_name trivial (ho_if (et_and (et_test (ev_op (ev_op (ev_var rfl (ev_int (rv_ixT rfl (ev_int (rv_eqI ⟨_, rfl, ?_⟩))))))))))
          have fin0 : (a.2.2 && !b.2.2 && ge b.2.1 a.2.1) = false → ∃ s7', [SD.val (rowsD rows), .val (picksD p), .val (.int (shs.length : Nat)), .own ((A ++ B ++ oddIn i (m.take k) a).map oddD), .val (.int (i : Nat)), .val (.lst (m.map knD)), .val (knD a), .val (knD b)] =
              [.val (rowsD rows), .val (picksD p), .val (.int (shs.length : Nat)), .own ((A ++ B ++ oddIn i (m.take (k + 1)) a).map oddD), .val (.int (i : Nat)), .val (.lst (m.map knD)), .val (knD a), s7'] := fun hx => by
            rw [oddIn_take hb, hx, if_neg Bool.false_ne_true, List.append_nil]
            exact ⟨_, rfl⟩
          refine ⟨fun hx => ?_, fun hx => ?_⟩
          · refine et_and (et_test (ev_op (ev_op (ev_var rfl (ev_int (rv_ixT rfl (ev_int (rv_eqI ⟨_, rfl, ?_⟩))))))))
            refine ⟨fun hz => ?_, fun hz => ?_⟩
            · refine et_B (ev_call (ea_cons (ev_op (ev_var rfl (ev_int (rv_ixT rfl (ea_cons (ev_op (ev_var rfl (ev_int (rv_ixT rfl (ea_nil ?_))))))))))))
              refine ⟨b.2.1, a.2.1, rfl, by rw [hca.len, hcb.len], by rw [hcb.len]; omega, ?_⟩
              refine ⟨_, rfl, ?_⟩
              refine ⟨fun hy => ?_, fun hy => ?_⟩
              · refine ho_app rfl (ev_tup (ea_cons (ev_var rfl (ea_cons (ev_op (ev_var rfl (ev_int (rv_ixT rfl (ea_cons (ev_op (ev_var rfl (ev_int (rv_ixT rfl (ea_nil (lit3 ?_)))))))))))))))
                refine ⟨by simp; omega, ?_⟩
                dsimp only
                rw [oddIn_take hb, if_pos (by rw [← ea, hx, ← eb, hz, hy]; rfl), ← List.append_assoc, List.map_append (l₂ := [(i, a.1, b.1)])]
                exact ⟨_, rfl⟩
              · refine ho_nil ?_
                exact fin0 (by rw [hy, Bool.and_false])
            · refine ff_and (ho_nil ?_)
              exact fin0 (by rw [← eb, hz, Bool.and_false, Bool.false_and])
          · refine ff_and (ho_nil ?_)
            exact fin0 (by rw [← ea, hx, Bool.false_and, Bool.false_and])
        · rintro G ⟨s7, rfl⟩
          rw [List.length_map, List.take_length, List.append_assoc, ← hB, ← odd1_take ha]
          exact ⟨_, _, rfl⟩
      · rintro G ⟨s6, s7, rfl⟩
        rw [List.length_map, List.take_length, ← hA]
        rw [show (l.zipIdx.take i).flatMap (fun p => odd1 p.2 p.1) ++ m.flatMap (oddIn i m) = (l.zipIdx.take (i + 1)).flatMap (fun p => odd1 p.2 p.1) from (odds_take hm).symm]
        exact ⟨_, _, _, _, rfl⟩
    · rintro G ⟨s4, s5, s6, s7, rfl⟩
      refine ho_frz 3 rfl ?_
      refine ho_ret (ev_var rfl ?_)
      rw [rangeD_length, List.take_of_length_le (by rw [List.length_zipIdx, hkl]; exact Nat.le_refl _)]
      exact hR
-- _law_shuffled
abbrev s__law_shuffled : Stmt := top 67
abbrev sc__law_shuffled_N : List Str := ["_law_rows", "_law_draws_here", "_law_at", "_law_left", "_law_told", "_law_n", "_law_k"]
theorem sc__law_shuffled : FnScope sc__law_shuffled_N ["_law_rows", "_law_draws_here", "_law_at"] (defScope s__law_shuffled) := ⟨rfl, rfl, rfl, by decide +kernel, rfl, by decide +kernel, by decide +kernel⟩
-- uses: g:list g:len g:range g:int
-- slots: 0=_law_rows 1=_law_draws_here 2=_law_at 3=_law_left 4=_law_told 5=_law_n 6=_law_k

theorem has_law_shuffled (F : FunAt K mg "_law_shuffled" s__law_shuffled) (T : Tx mg)  : Has P w K mg base "_law_shuffled" 1 ["_law_rows", "_law_draws_here", "_law_at"] (spD K (W_law_shuffled)) := by
  refine hasD F sc__law_shuffled (fun ds R h => ?_) (fun _ _ _ _ _ _ us hl => match us, hl with | [_, _, _], _ => rfl) fun f cdv A outer s H E hr => ⟨_, (pss_cons (ps_set (i := 3) sc__law_shuffled.nd rfl (Or.inl rfl) (pe_callTy call_list_of (by rfl) T.list (by decide +kernel) (pa_cons (pv 0) pa_nil)))
      (pss_cons (ps_set (i := 4) sc__law_shuffled.nd rfl (Or.inl rfl) (pe_lst pa_nil))
      (pss_cons (ps_for PassesOwn.never rfl (pi_range1 rfl T.range (pa_cons (pe_callB call_len_seq (by rfl) T.len (by decide +kernel) (pa_cons (pv 0) pa_nil)) pa_nil)) (pg_name (i := 5) sc__law_shuffled.nd rfl (by first | exact .inl rfl | exact .inr rfl)) (pss_cons (ps_set (i := 6) sc__law_shuffled.nd rfl (Or.inl rfl) (pe_op op_mod (pe_callTy call_int1 (by rfl) T.int (by decide +kernel) (pa_cons (pe_ix ix_list (pv 1) (pe_op op_add (pv 2) (pv 5)) (fun _ _ => rfl)) pa_nil)) (pe_callB call_len_seq (by rfl) T.len (by decide +kernel) (pa_cons (pv 3) pa_nil))))
      (pss_cons (ps_expr (pe_bm PySem.F.plainAttrs_list PySem.F.slot_list_append PySem.F.type_list_append mt_append (pv 4) (pa_cons (pe_ix ix_list (pv 3) (pv 6) (fun _ _ => rfl)) pa_nil)))
      (pss_one (ps_set (i := 3) sc__law_shuffled.nd rfl (Or.inl rfl) (pe_op op_cat (pe_slice sl_list (pv 3) po_none (po_some (pv 6))) (pe_slice sl_list (pv 3) (po_some (pe_op op_add (pv 6) pe_int)) po_none)))))))
      (pss_one (ps_ret (pv 4)))))), fun ds R h => ?_⟩
  · obtain ⟨rows, dr, at_, rfl, _⟩ := h
    rfl
  · obtain ⟨rows, dr, at_, rfl, h6, hd, hR⟩ := h
    dsimp only [cxOf, Cx.nox, Cx.wish]
    show Ho K _ [.val (rowsD rows), .val (dR dr), .val (.int (at_ : Nat)), .un, .un, .un, .un] _ _ _ _
    refine ho_seq (ho_set ?_)
    refine ev_cb (ea_cons (ev_var rfl (ea_nil (rc_listL (ho_seq ?_)))))
    refine ho_own (en_lst ?_)
    refine ea_nil (lit0 (ho_seq (ho_for (ei_range1 (ea_cons (ev_cb (ea_cons (ev_var rfl (ea_nil (rc_lenL (ea_nil ⟨_, rfl, ?_⟩)))))))))))
    refine ⟨by simp; omega, fun i G => ∃ (s5 s6 : SD) (left told : List Row), G = [.val (rowsD rows), .val (dR dr), .val (.int (at_ : Nat)), .val (rowsD left), .own (told.map rowD), s5, s6] ∧ left.length + i = rows.length ∧ told.length = i ∧ (∀ r ∈ left, r ∈ rows) ∧ ∀ r ∈ told, r ∈ rows,
      ⟨_, _, rows, [], rfl, rfl, rfl, fun _ h => h, fun _ h => (nomatch h)⟩, ?_, ?_⟩
    · rintro i d G e ⟨s5, s6, left, told, rfl, hl, ht, hm1, hm2⟩
      obtain ⟨hi, rfl⟩ := rangeD_inv e
      rw [List.length_map] at hi
      refine gn_name trivial (ho_seq (ho_set (ev_op (ev_cb (ea_cons (ev_op (ev_var rfl (ev_op (ev_var rfl (ev_var rfl (rv_add ?_)))))))))))
      refine rv_ixL (atI_map (j := at_ + i) (by omega) (getD_of 0 (by omega))) ?_
      refine ea_nil (rc_int (ev_cb (ea_cons (ev_var rfl (ea_nil (rc_lenL (rv_modC ?_)))))))
      rw [List.length_map]
      have hpos : (0 : Int) < (left.length : Nat) := by omega
      refine ⟨hpos, ?_⟩
      have b1 := Int.emod_nonneg (dr.getD (at_ + i) 0) (b := (left.length : Nat)) (by omega)
      have b2 := Int.emod_lt_of_pos (dr.getD (at_ + i) 0) hpos
      obtain ⟨k, hk⟩ := Int.eq_ofNat_of_zero_le b1
      rw [hk] at b2 ⊢
      have hkl : k < left.length := by omega
      obtain ⟨r, hr⟩ : ∃ r, left[k]? = some r := ⟨_, List.getElem?_eq_getElem hkl⟩
      refine ho_seq (ho_app rfl (ev_op (ev_var rfl (ev_var rfl ?_))))
      refine rv_ixL (atI_map (j := k) rfl hr) ?_
      skip
      refine ⟨by rw [List.length_map]; omega, ?_⟩
      refine ho_set ?_
      refine ev_op (ev_slL (ev_var rfl (eo_none (eo_some (ev_var rfl ⟨_, rfl, ⟨_, rfl, (ev_slL (ev_var rfl (eo_some (ev_op (ev_var rfl (ev_int (rv_add ⟨_, rfl, (eo_none ⟨_, rfl, (rv_catL ?_)⟩)⟩)))))))⟩⟩)))))
      rw [cut_to, cut_from, ← List.map_take, ← List.map_drop]
      refine ⟨by simp; omega, ?_⟩
      refine ⟨_, _, left.take k ++ left.drop (k + 1), told ++ [r], by simp only [rowsD, List.map_append]; rfl, by simp; omega, by simp; omega, fun x hx => ?_, fun x hx => ?_⟩
      · rcases List.mem_append.mp hx with y | y
        · exact hm1 x (List.mem_of_mem_take y)
        · exact hm1 x (List.mem_of_mem_drop y)
      · rcases List.mem_append.mp hx with y | y
        · exact hm2 x y
        · rw [List.mem_singleton.mp y]
          exact hm1 r (List.mem_of_getElem? hr)
    · rintro G ⟨s5, s6, left, told, rfl, hl, ht, hm1, hm2⟩
      refine ho_frz 4 rfl ?_
      refine ho_ret (ev_var rfl ?_)
      rw [rangeD_length, List.length_map] at ht
      exact hR told ht hm2
end
end Sc
/-! D9: drawn shapes. -/
namespace Sc
open PySem L2
/-- what the drawing of one issue keeps -/
structure Iss (i : Nat) (pro con : Str) (tops : List Int) (pool : Str) : Prop where
  top : ∀ t ∈ tops, 1 ≤ t ∧ t ≤ 3
  sum : (pro.length : Int) + (con.length : Int) + tops.sum = i
  nd : (pro.cps.toList ++ con.cps.toList ++ pool.cps.toList).Nodup
  az : ∀ c ∈ pro.cps.toList ++ con.cps.toList ++ pool.cps.toList, 97 ≤ c ∧ c ≤ 122
  len : pool.length + pro.length + con.length = 26
theorem Iss.start : Iss 0 "" "" [] "abcdefghijklmnopqrstuvwxyz" := ⟨fun t h => (nomatch h), rfl, by decide +kernel, by decide +kernel, by decide +kernel⟩
theorem str_push {z : Str} {c : Nat} : (z ++ (⟨#[c]⟩ : Str)).cps.toList = z.cps.toList ++ [c] := by
  show (z.cps ++ #[c]).toList = _
  simp
theorem str_push_len {z : Str} {c : Nat} : (z ++ (⟨#[c]⟩ : Str)).length = z.length + 1 := by
  show (z.cps ++ #[c]).size = _
  simp
  rfl
theorem cps_len {z : Str} : z.cps.toList.length = z.length := by simp; rfl
theorem nn_sum : ∀ {l : List Int}, (∀ t ∈ l, 1 ≤ t ∧ t ≤ 3) → 0 ≤ l.sum ∧ (l.length : Int) ≤ l.sum
  | [], _ => by simp
  | x :: l, h => by
    have h1 := h x (by simp)
    have h2 := nn_sum (l := l) fun y hy => h y (by simp [hy])
    rw [List.sum_cons, List.length_cons]
    omega
theorem pick_perm {l : List Nat} {k c : Nat} (h : l[k]? = some c) : List.Perm l (c :: (l.take k ++ l.drop (k + 1))) := by
  obtain ⟨hk, rfl⟩ := List.getElem?_eq_some_iff.mp h
  have e : l = l.take k ++ l[k] :: l.drop (k + 1) := by
    rw [← List.drop_eq_getElem_cons hk, List.take_append_drop]
  exact (List.Perm.of_eq e).trans List.perm_middle
theorem Iss.pro {i : Nat} {pro con pool pool' : Str} {tops : List Int} {k c : Nat} (h : Iss i pro con tops pool) (hk : pool.cps.toList[k]? = some c) (hp : pool'.cps.toList = pool.cps.toList.take k ++ pool.cps.toList.drop (k + 1)) : Iss (i + 1) (pro ++ (⟨#[c]⟩ : Str)) con tops pool' := by
  have pm := pick_perm hk
  have hp2 : List.Perm (pro.cps.toList ++ con.cps.toList ++ pool.cps.toList) ((pro ++ (⟨#[c]⟩ : Str)).cps.toList ++ con.cps.toList ++ pool'.cps.toList) := by
    rw [str_push, hp]
    refine (List.Perm.append_left _ pm).trans ?_
    rw [List.append_assoc, List.append_assoc, List.append_assoc]
    refine List.Perm.append_left _ ?_
    exact List.perm_middle
  refine ⟨h.top, ?_, hp2.nodup_iff.mp h.nd, fun x hx => h.az x (hp2.mem_iff.mpr hx), ?_⟩
  · have := h.sum
    rw [str_push_len]
    push_cast
    omega
  · have := hp2.length_eq
    have h9 := h.len
    simp only [List.length_append, cps_len, str_push_len] at this ⊢
    omega
theorem Iss.con {i : Nat} {pro con pool pool' : Str} {tops : List Int} {k c : Nat} (h : Iss i pro con tops pool) (hk : pool.cps.toList[k]? = some c) (hp : pool'.cps.toList = pool.cps.toList.take k ++ pool.cps.toList.drop (k + 1)) : Iss (i + 1) pro (con ++ (⟨#[c]⟩ : Str)) tops pool' := by
  have pm := pick_perm hk
  have hp2 : List.Perm (pro.cps.toList ++ con.cps.toList ++ pool.cps.toList) (pro.cps.toList ++ (con ++ (⟨#[c]⟩ : Str)).cps.toList ++ pool'.cps.toList) := by
    rw [str_push, hp]
    refine (List.Perm.append_left _ pm).trans ?_
    rw [List.append_assoc, List.append_assoc, List.append_assoc]
    refine List.Perm.append_left _ (List.Perm.append_left _ ?_)
    exact List.Perm.refl _
  refine ⟨h.top, ?_, hp2.nodup_iff.mp h.nd, fun x hx => h.az x (hp2.mem_iff.mpr hx), ?_⟩
  · have := h.sum
    rw [str_push_len]
    push_cast
    omega
  · have := hp2.length_eq
    have h9 := h.len
    simp only [List.length_append, cps_len, str_push_len] at this ⊢
    omega
theorem Iss.top1 {i : Nat} {pro con pool : Str} {tops : List Int} (h : Iss i pro con tops pool) : Iss (i + 1) pro con (tops ++ [1]) pool := by
  refine ⟨fun t ht => ?_, ?_, h.nd, h.az, h.len⟩
  · rcases List.mem_append.mp ht with z | z
    · exact h.top t z
    · rw [List.mem_singleton.mp z]; decide
  · have := h.sum
    rw [List.sum_append]
    simp
    omega
theorem Iss.up {i : Nat} {pro con pool : Str} {tops : List Int} {t : Int} (h : Iss i pro con (tops ++ [t]) pool) (ht : t < 3) : Iss (i + 1) pro con (tops ++ [t + 1]) pool := by
  refine ⟨fun x hx => ?_, ?_, h.nd, h.az, h.len⟩
  · rcases List.mem_append.mp hx with z | z
    · exact h.top x (List.mem_append_left _ z)
    · rw [List.mem_singleton.mp z]
      have := h.top t (by simp)
      omega
  · have := h.sum
    rw [List.sum_append] at this ⊢
    simp at this ⊢
    omega
theorem rep_sum {n : Nat} : (List.replicate n (1 : Int)).sum = n := by
  induction n with
  | zero => rfl
  | succ n ih => rw [List.replicate_succ, List.sum_cons, ih]; omega
theorem Iss.ok {i : Nat} {pro con pool : Str} {tops : List Int} (h : Iss i pro con tops pool) (h1 : 1 ≤ i) (h5 : i ≤ 5) : ShOk ⟨pro, con, tops⟩ := by
  have hs : (lims ⟨pro, con, tops⟩).sum = i := by
    unfold lims
    have := h.sum
    rw [List.sum_append, rep_sum]
    show ((pro.length + con.length : Nat) : Int) + tops.sum = i
    omega
  refine ⟨fun c hc => h.az c (List.mem_append_left _ hc), (List.nodup_append.mp h.nd).1, h.top, by omega, by omega⟩
section
variable {P : Program} {w : World} {K : PySem.W.Frag} {mg : Str → Option Value} {base : Heap}
-- _law_issue
abbrev s__law_issue : Stmt := top 53
abbrev sc__law_issue_N : List Str := ["_law_draws_here", "_law_at", "_law_pool", "_law_most", "_law_pro", "_law_con", "_law_tops", "_law_n", "_law_side", "_law_k"]
theorem sc__law_issue : FnScope sc__law_issue_N ["_law_draws_here", "_law_at", "_law_pool", "_law_most"] (defScope s__law_issue) := ⟨rfl, rfl, rfl, by decide +kernel, rfl, by decide +kernel, by decide +kernel⟩
-- uses: g:int g:range g:len g:tuple
-- slots: 0=_law_draws_here 1=_law_at 2=_law_pool 3=_law_most 4=_law_pro 5=_law_con 6=_law_tops 7=_law_n 8=_law_side 9=_law_k

theorem has_law_issue (F : FunAt K mg "_law_issue" s__law_issue) (T : Tx mg)  : Has P w K mg base "_law_issue" 1 ["_law_draws_here", "_law_at", "_law_pool", "_law_most"] (spD K (W_law_issue)) := by
  refine hasD F sc__law_issue (fun ds R h => ?_) (fun _ _ _ _ _ _ us hl => match us, hl with | [_, _, _, _], _ => rfl) fun f cdv A outer s H E hr => ⟨_, (pss_cons (ps_set (i := 4) sc__law_issue.nd rfl (Or.inl rfl) pe_str)
      (pss_cons (ps_set (i := 5) sc__law_issue.nd rfl (Or.inl rfl) pe_str)
      (pss_cons (ps_set (i := 6) sc__law_issue.nd rfl (Or.inl rfl) (pe_lst pa_nil))
      (pss_cons (ps_for PassesOwn.never rfl (pi_range1 rfl T.range (pa_cons (pe_op op_add pe_int (pe_op op_mod (pe_callTy call_int1 (by rfl) T.int (by decide +kernel) (pa_cons (pe_ix ix_list (pv 0) (pv 1) (fun _ _ => rfl)) pa_nil)) (pv 3))) pa_nil)) (pg_name (i := 7) sc__law_issue.nd rfl (by first | exact .inl rfl | exact .inr rfl)) (pss_cons (ps_set (i := 8) sc__law_issue.nd rfl (Or.inl rfl) (pe_op op_mod (pe_callTy call_int1 (by rfl) T.int (by decide +kernel) (pa_cons (pe_ix ix_list (pv 0) (pe_op op_add (pe_op op_add (pv 1) pe_int) (pe_op op_mul pe_int (pv 7))) (fun _ _ => rfl)) pa_nil)) pe_int))
      (pss_one (ps_if (PW.pt (pw_and (pt_cmpR op_eq (pv 8) pe_int (nomark _)) (pw_and (pt_cmpR op_gt (pe_callB call_len_seq (by rfl) T.len (by decide +kernel) (pa_cons (pv 6) pa_nil)) pe_int (nomark _)) (pw_and1 (pt_cmpR op_lt (pe_ix ix_list (pv 6) (pe_un un_neg pe_int) (fun _ _ => rfl)) pe_int (nomark _)))))) (pss_one (ps_asg (pe_op op_add (pe_ix ix_list (pv 6) (pe_un un_neg pe_int) (fun _ _ => rfl)) pe_int) (pg_sub (pv 6) (pe_un un_neg pe_int) set_list))) (pss_one (ps_if (pt_cmpR op_eq (pv 8) pe_int (nomark _)) (pss_one (ps_expr (pe_bm PySem.F.plainAttrs_list PySem.F.slot_list_append PySem.F.type_list_append mt_append (pv 6) (pa_cons pe_int pa_nil)))) (pss_cons (ps_set (i := 9) sc__law_issue.nd rfl (Or.inl rfl) (pe_op op_mod (pe_callTy call_int1 (by rfl) T.int (by decide +kernel) (pa_cons (pe_ix ix_list (pv 0) (pe_op op_add (pe_op op_add (pv 1) pe_int) (pe_op op_mul pe_int (pv 7))) (fun _ _ => rfl)) pa_nil)) (pe_callB call_len_str (by rfl) T.len (by decide +kernel) (pa_cons (pv 2) pa_nil))))
      (pss_cons (ps_if (pt_cmpR op_eq (pv 8) pe_int (nomark _)) (pss_one (ps_set (i := 5) sc__law_issue.nd rfl (Or.inl rfl) (pe_op op_add_str (pv 5) (pe_ix ix_str (pv 2) (pv 9) (fun _ _ => rfl))))) (pss_one (ps_set (i := 4) sc__law_issue.nd rfl (Or.inl rfl) (pe_op op_add_str (pv 4) (pe_ix ix_str (pv 2) (pv 9) (fun _ _ => rfl))))))
      (pss_one (ps_set (i := 2) sc__law_issue.nd rfl (Or.inl rfl) (pe_op op_add_str (pe_slice sl_str (pv 2) po_none (po_some (pv 9))) (pe_slice sl_str (pv 2) (po_some (pe_op op_add (pv 9) pe_int)) po_none))))))))))))
      (pss_one (ps_ret (pe_tup (pa_cons (pv 4) (pa_cons (pv 5) (pa_cons (pe_callTy call_tuple_of (by rfl) T.tuple (by decide +kernel) (pa_cons (pv 6) pa_nil)) (pa_cons (pv 2) pa_nil))))))))))), fun ds R h => ?_⟩
  · obtain ⟨dr, at_, most, rfl, _⟩ := h
    rfl
  · obtain ⟨dr, at_, most, rfl, hm1, hm5, hn, hat, hR⟩ := h
    dsimp only [cxOf, Cx.nox, Cx.wish]
    show Ho K _ [.val (dR dr), .val (.int (at_ : Nat)), .val (.str "abcdefghijklmnopqrstuvwxyz"), .val (.int (most : Nat)), .un, .un, .un, .un, .un, .un] _ _ _ _
    refine ho_seq (ho_set (ev_str (ho_seq (ho_set (ev_str (ho_seq ?_))))))
    refine ho_own (en_lst ?_)
    refine ea_nil (lit0 (ho_seq (ho_for (ei_range1 (ea_cons (ev_op (ev_int (ev_op (ev_cb (ea_cons (ev_op (ev_var rfl (ev_var rfl ?_)))))))))))))
    refine rv_ixL (atI_map (j := at_) (by omega) (getD_of 0 (by omega))) ?_
    refine ea_nil (rc_int (ev_var rfl (rv_modC ?_)))
    have hpos : (0 : Int) < (most : Nat) := by omega
    refine ⟨hpos, ?_⟩
    have b1 := Int.emod_nonneg (dr.getD at_ 0) (b := (most : Nat)) (by omega)
    have b2 := Int.emod_lt_of_pos (dr.getD at_ 0) hpos
    obtain ⟨k, hk⟩ := Int.eq_ofNat_of_zero_le b1
    rw [hk] at b2 ⊢
    refine rv_add (ea_nil ⟨_, rfl, ?_⟩)
    generalize hq : 1 + k = q
    refine ⟨by omega, fun i G => ∃ (pro con pool : Str) (tops : List Int) (s7 s8 s9 : SD), G = [.val (dR dr), .val (.int (at_ : Nat)), .val (.str pool), .val (.int (most : Nat)), .val (.str pro), .val (.str con), .own (tops.map .int), s7, s8, s9] ∧ Iss i pro con tops pool,
      ⟨_, _, _, [], _, _, _, rfl, Iss.start⟩, ?_, ?_⟩
    · rintro i d G e ⟨pro, con, pool, tops, s7, s8, s9, rfl, hI⟩
      obtain ⟨hi, rfl⟩ := rangeD_inv e
      have hsm := nn_sum hI.top
      have hIs := hI.sum
      have hIl := hI.len
      refine gn_name trivial (ho_seq (ho_set (ev_op (ev_cb (ea_cons (ev_op (ev_var rfl (ev_op (ev_op (ev_var rfl (ev_int (rv_add (ev_op (ev_int (ev_var rfl (rv_mulC (gMulL (by decide) (rv_add ?_))))))))))))))))))
      refine rv_ixL (atI_map (j := at_ + 1 + 2 * i) (by omega) (getD_of 0 (by omega))) ?_
      refine ea_nil (rc_int (ev_int (rv_modC (gMod (by decide) ?_))))
      generalize dr.getD (at_ + 1 + 2 * i) 0 % 4 = side
      have fin : ∀ (pro con pool : Str) (tops : List Int) (s8 s9 : SD), Iss (i + 1) pro con tops pool → ∃ (pro' con' pool' : Str) (tops' : List Int) (s7 s8' s9' : SD), [SD.val (dR dr), .val (.int (at_ : Nat)), .val (.str pool), .val (.int (most : Nat)), .val (.str pro), .val (.str con), .own (tops.map .int), .val (.int (0 + (i : Int))), s8, s9] = [.val (dR dr), .val (.int (at_ : Nat)), .val (.str pool'), .val (.int (most : Nat)), .val (.str pro'), .val (.str con'), .own (tops'.map .int), s7, s8', s9'] ∧ Iss (i + 1) pro' con' tops' pool' :=
        fun pro con pool tops s8 s9 h => ⟨_, _, _, _, _, _, _, rfl, h⟩
      refine ho_if2 (Pb := fun b => b = true → ∃ init t, tops = init ++ [t] ∧ t < 3) ?_ (fun hb => ?_) fun _ => ?_
      · refine et_and (et_test (ev_op (ev_var rfl (ev_int (rv_eqI ⟨_, rfl, ?_⟩)))))
        refine ⟨fun hx => ?_, fun _ z => (nomatch z)⟩
        refine et_and (et_test (ev_op (ev_lenO _ rfl (ev_int (rv_gt ⟨_, rfl, ?_⟩)))))
        refine ⟨fun hy => ?_, fun _ z => (nomatch z)⟩
        have hne : tops ≠ [] := fun z => by subst z; exact absurd hy (by decide)
        obtain ⟨init, t, rfl⟩ : ∃ init t, tops = init ++ [t] := (by
          rcases List.eq_nil_or_concat tops with z | ⟨a, x, z⟩
          · exact absurd z hne
          · exact ⟨a, x, by rw [z, List.concat_eq_append]⟩)
        refine et_test (ev_op (ev_ixO _ rfl (ev_un (ev_int (ru_neg ?_)))))
        refine ⟨_, .int t, rfl, by rw [List.map_append]; exact atI_last, ?_⟩
        refine ev_int (rv_lt ⟨_, rfl, ?_⟩)
        exact fun hz => ⟨init, t, rfl, of_decide_eq_true hz⟩
      · obtain ⟨init, t, rfl, ht⟩ := hb rfl
        refine ho_sit rfl ?_
        refine ev_op (ev_ixO _ rfl (ev_un (ev_int (ru_neg ?_))))
        refine ⟨_, .int t, rfl, by rw [List.map_append]; exact atI_last, ?_⟩
        refine ev_int (rv_add (ev_un (ev_int (ru_neg ?_))))
        refine ⟨_, init.length, rfl, by rw [List.length_map, List.length_append, List.length_singleton]; exact ixN_last, ?_⟩
        have e9 : (List.map Da.int (init ++ [t])).set init.length (.int (t + 1)) = (init ++ [t + 1]).map .int := by
          rw [List.map_append, List.map_append]
          have := List.set_append_right (s := init.map Da.int) (t := [Da.int t]) init.length (.int (t + 1)) (by simp)
          simpa using this
        rw [e9]
        exact fin _ _ _ _ _ _ (hI.up ht)
      · refine ho_if (et_test (ev_op (ev_var rfl (ev_int (rv_eqI ⟨_, rfl, ?_⟩)))))
        refine ⟨fun hx => ?_, fun hx => ?_⟩
        · refine ho_app rfl (ev_int ?_)
          refine ⟨by rw [List.length_map]; omega, ?_⟩
          have e9 : tops.map Da.int ++ [.int 1] = (tops ++ [1]).map .int := by simp
          rw [e9]
          exact fin _ _ _ _ _ _ hI.top1
        · refine ho_seq (ho_set (ev_op (ev_cb (ea_cons (ev_op (ev_var rfl (ev_op (ev_op (ev_var rfl (ev_int (rv_add (ev_op (ev_int (ev_var rfl (rv_mulC (gMulL (by decide) (rv_add ?_)))))))))))))))))
          refine rv_ixL (atI_map (j := at_ + 2 + 2 * i) (by omega) (getD_of 0 (by omega))) ?_
          refine ea_nil (rc_int (ev_cb (ea_cons (ev_var rfl (ea_nil (rc_lenC ?_))))))
          refine ⟨by omega, ?_⟩
          refine rv_modC ?_
          have hpp : (0 : Int) < (pool.length : Nat) := by omega
          refine ⟨hpp, ?_⟩
          have c1 := Int.emod_nonneg (dr.getD (at_ + 2 + 2 * i) 0) (b := (pool.length : Nat)) (by omega)
          have c2 := Int.emod_lt_of_pos (dr.getD (at_ + 2 + 2 * i) 0) hpp
          obtain ⟨kk, hkk⟩ := Int.eq_ofNat_of_zero_le c1
          rw [hkk] at c2 ⊢
          have hkl : kk < pool.cps.toList.length := by rw [cps_len]; omega
          obtain ⟨c, hc⟩ : ∃ c, pool.cps.toList[kk]? = some c := ⟨_, List.getElem?_eq_getElem hkl⟩
          have hcl : (cutS pool none (some (kk : Int))).length ≤ 26 := by rw [← cps_len, cutS_to, List.length_take, cps_len]; omega
          have hcl2 : (cutS pool (some ((kk : Int) + 1)) none).length ≤ 26 := by rw [← cps_len, cutS_from, List.length_drop, cps_len]; omega
          have hpool : (cutS pool none (some (kk : Int)) ++ cutS pool (some ((kk : Int) + 1)) none).cps.toList = pool.cps.toList.take kk ++ pool.cps.toList.drop (kk + 1) := by
            rw [← cutS_to, ← cutS_from]
            show ((cutS pool none (some (kk : Int))).cps ++ (cutS pool (some ((kk : Int) + 1)) none).cps).toList = _
            simp
          refine ho_seq ?_
          refine ho_if2 (Pb := fun _ => True) ?_ (fun _ => ?_) fun _ => ?_
          · refine et_test (ev_op (ev_var rfl (ev_int (rv_eqI ⟨_, rfl, ?_⟩))))
            trivial
          · refine ho_set (ev_op (ev_var rfl (ev_op (ev_var rfl (ev_var rfl ?_)))))
            refine rv_ixSC (atI_nat' hc) ⟨by omega, ?_⟩
            refine rv_addT ?_
            refine ⟨by show con.length + 1 ≤ 100000; omega, ?_⟩
            refine ho_set (ev_op (ev_slS (ev_var rfl (eo_none (eo_some (ev_var rfl ⟨_, rfl, ⟨_, rfl, ?_⟩⟩))))))
            refine ⟨by omega, ?_⟩
            refine ev_slS (ev_var rfl (eo_some (ev_op (ev_var rfl (ev_int (rv_add ⟨_, rfl, (eo_none ⟨_, rfl, ?_⟩)⟩))))))
            refine ⟨by omega, ?_⟩
            refine rv_addT ?_
            refine ⟨by omega, ?_⟩
            exact fin _ _ _ _ _ _ (hI.con hc hpool)
          · refine ho_set (ev_op (ev_var rfl (ev_op (ev_var rfl (ev_var rfl ?_)))))
            refine rv_ixSC (atI_nat' hc) ⟨by omega, ?_⟩
            refine rv_addT ?_
            refine ⟨by show pro.length + 1 ≤ 100000; omega, ?_⟩
            refine ho_set (ev_op (ev_slS (ev_var rfl (eo_none (eo_some (ev_var rfl ⟨_, rfl, ⟨_, rfl, ?_⟩⟩))))))
            refine ⟨by omega, ?_⟩
            refine ev_slS (ev_var rfl (eo_some (ev_op (ev_var rfl (ev_int (rv_add ⟨_, rfl, (eo_none ⟨_, rfl, ?_⟩)⟩))))))
            refine ⟨by omega, ?_⟩
            refine rv_addT ?_
            refine ⟨by omega, ?_⟩
            exact fin _ _ _ _ _ _ (hI.pro hc hpool)
    · rintro G ⟨pro, con, pool, tops, s7, s8, s9, rfl, hI⟩
      rw [rangeD_length] at hI
      refine ho_frz 6 rfl ?_
      refine ho_ret (ev_tup (ea_cons (ev_var rfl (ea_cons (ev_var rfl (ea_cons (ev_cb (ea_cons (ev_var rfl (ea_nil (rc_tupL (ea_cons (ev_var rfl (ea_nil (lit4 ?_)))))))))))))))
      exact hR _ _ (hI.ok (by omega) (by omega))
end
end Sc
/-! D10: drawn shapes, rulings. -/
namespace Sc
open PySem L2
section
variable {P : Program} {w : World} {K : PySem.W.Frag} {mg : Str → Option Value} {base : Heap}
-- _law_shapes
abbrev s__law_shapes : Stmt := top 54
abbrev sc__law_shapes_N : List Str := ["_law_draws_here", "_law_most", "_law_apart_here", "_law_pool", "_law_shapes_here", "_law_left", "_law_many", "_law_n", "_law_at", "_law_told"]
theorem sc__law_shapes : FnScope sc__law_shapes_N ["_law_draws_here", "_law_most", "_law_apart_here"] (defScope s__law_shapes) := ⟨rfl, rfl, rfl, by decide +kernel, rfl, by decide +kernel, by decide +kernel⟩
-- uses: g:int g:range g:min _law_issue g:len g:sum
-- slots: 0=_law_draws_here 1=_law_most 2=_law_apart_here 3=_law_pool 4=_law_shapes_here 5=_law_left 6=_law_many 7=_law_n 8=_law_at 9=_law_told

theorem has_law_shapes (F : FunAt K mg "_law_shapes" s__law_shapes) (T : Tx mg) (h_law_issue : Has P w K mg base "_law_issue" 1 ["_law_draws_here", "_law_at", "_law_pool", "_law_most"] (spD K (W_law_issue))) : Has P w K mg base "_law_shapes" 2 ["_law_draws_here", "_law_most", "_law_apart_here"] (spD K (W_law_shapes)) := by
  refine hasD F sc__law_shapes (fun ds R h => ?_) (fun _ _ _ _ _ _ us hl => match us, hl with | [_, _, _], _ => rfl) fun f cdv A outer s H E hr => ⟨_, (pss_cons (ps_set (i := 3) sc__law_shapes.nd rfl (Or.inl rfl) pe_str)
      (pss_cons (ps_set (i := 4) sc__law_shapes.nd rfl (Or.inl rfl) (pe_lst pa_nil))
      (pss_cons (ps_set (i := 5) sc__law_shapes.nd rfl (Or.inl rfl) pe_int)
      (pss_cons (ps_set (i := 6) sc__law_shapes.nd rfl (Or.inl rfl) (pe_op op_add pe_int (pe_op op_mod (pe_callTy call_int1 (by rfl) T.int (by decide +kernel) (pa_cons (pe_ix ix_list (pv 0) pe_int (fun _ _ => rfl)) pa_nil)) pe_int)))
      (pss_cons (ps_for PassesOwn.never rfl (pi_range1 rfl T.range (pa_cons (pv 6) pa_nil)) (pg_name (i := 7) sc__law_shapes.nd rfl (by first | exact .inl rfl | exact .inr rfl)) (pss_cons (ps_set (i := 8) sc__law_shapes.nd rfl (Or.inl rfl) (pe_op op_add pe_int (pe_op op_mul pe_int (pv 7))))
      (pss_one (ps_if (pt_val (pv 2)) (pss_cons (ps_set (i := 9) sc__law_shapes.nd rfl (Or.inl rfl) (pe_callH h_law_issue (hr.mono (by decide)) rfl (pa_cons (pv 0) (pa_cons (pv 8) (pa_cons (pv 3) (pa_cons (pe_callB (call_min2 rfl) (by rfl) T.min (by decide +kernel) (pa_cons (pv 1) (pa_cons (pe_op op_sub (pv 5) (pe_op op_sub (pe_op op_sub (pv 6) pe_int) (pv 7))) pa_nil))) pa_nil))))))
      (pss_cons (ps_set (i := 3) sc__law_shapes.nd rfl (Or.inl rfl) (pe_ix ix_tup (pv 9) pe_int (fun _ _ => rfl)))
      (pss_cons (ps_set (i := 5) sc__law_shapes.nd rfl (Or.inl rfl) (pe_op op_sub (pe_op op_sub (pe_op op_sub (pv 5) (pe_callB call_len_str (by rfl) T.len (by decide +kernel) (pa_cons (pe_ix ix_tup (pv 9) pe_int (fun _ _ => rfl)) pa_nil))) (pe_callB call_len_str (by rfl) T.len (by decide +kernel) (pa_cons (pe_ix ix_tup (pv 9) pe_int (fun _ _ => rfl)) pa_nil))) (pe_callB (cr_sumT rfl) (by rfl) T.sum (by decide +kernel) (pa_cons (pe_ix ix_tup (pv 9) pe_int (fun _ _ => rfl)) pa_nil))))
      (pss_one (ps_expr (pe_bm PySem.F.plainAttrs_list PySem.F.slot_list_append PySem.F.type_list_append mt_append (pv 4) (pa_cons (pe_tup (pa_cons (pe_ix ix_tup (pv 9) pe_int (fun _ _ => rfl)) (pa_cons (pe_ix ix_tup (pv 9) pe_int (fun _ _ => rfl)) (pa_cons (pe_ix ix_tup (pv 9) pe_int (fun _ _ => rfl)) pa_nil)))) pa_nil))))))) (pss_one (ps_if (PW.pt (pw_and (pt_cmpR op_gt (pv 7) pe_int (nomark _)) (pw_and1 (pt_cmpR op_eq (pe_op op_mod (pe_callTy call_int1 (by rfl) T.int (by decide +kernel) (pa_cons (pe_op op_fdiv (pe_ix ix_list (pv 0) (pv 8) (fun _ _ => rfl)) pe_int) pa_nil)) pe_int) pe_int (nomark _))))) (pss_one (ps_expr (pe_bm PySem.F.plainAttrs_list PySem.F.slot_list_append PySem.F.type_list_append mt_append (pv 4) (pa_cons (pe_ix ix_list (pv 4) (pe_un un_neg pe_int) (fun _ _ => rfl)) pa_nil)))) (pss_cons (ps_set (i := 9) sc__law_shapes.nd rfl (Or.inl rfl) (pe_callH h_law_issue (hr.mono (by decide)) rfl (pa_cons (pv 0) (pa_cons (pv 8) (pa_cons (pv 3) (pa_cons (pv 1) pa_nil))))))
      (pss_one (ps_expr (pe_bm PySem.F.plainAttrs_list PySem.F.slot_list_append PySem.F.type_list_append mt_append (pv 4) (pa_cons (pe_tup (pa_cons (pe_ix ix_tup (pv 9) pe_int (fun _ _ => rfl)) (pa_cons (pe_ix ix_tup (pv 9) pe_int (fun _ _ => rfl)) (pa_cons (pe_ix ix_tup (pv 9) pe_int (fun _ _ => rfl)) pa_nil)))) pa_nil)))))))))))
      (pss_one (ps_ret (pv 4)))))))), fun ds R h => ?_⟩
  · obtain ⟨dr, most, rfl, _⟩ := h
    rfl
  · obtain ⟨dr, most, rfl, hm1, hm5, hn, hR⟩ := h
    dsimp only [cxOf, Cx.nox, Cx.wish]
    show Ho K _ [.val (dR dr), .val (.int (most : Nat)), .val (.bl false), .un, .un, .un, .un, .un, .un, .un] _ _ _ _
    refine ho_seq (ho_set (ev_str (ho_seq ?_)))
    refine ho_own (en_lst ?_)
    refine ea_nil (lit0 (ho_seq (ho_set (ev_int (ho_seq (ho_set (ev_op (ev_int (ev_op (ev_cb (ea_cons (ev_op (ev_var rfl (ev_int ?_))))))))))))))
    refine rv_ixL (atI_map (j := 0) rfl (getD_of 0 (by omega))) ?_
    refine ea_nil (rc_int (ev_int (rv_modC (gMod (by decide) (rv_add (ho_seq (ho_for (ei_range1 (ea_cons (ev_var rfl (ea_nil ?_)))))))))))
    have b1 := Int.emod_nonneg (dr.getD 0 0) (b := 3) (by omega)
    have b2 := Int.emod_lt_of_pos (dr.getD 0 0) (b := 3) (by omega)
    obtain ⟨k, hk⟩ := Int.eq_ofNat_of_zero_le b1
    rw [hk] at b2 ⊢
    refine ⟨_, rfl, ?_⟩
    generalize hq : 1 + k = q
    refine ⟨by omega, fun i G => ∃ (s6 s7 s8 s9 : SD) (shs : List Shape), G = [.val (dR dr), .val (.int (most : Nat)), .val (.bl false), .val (.str "abcdefghijklmnopqrstuvwxyz"), .own (shs.map shapeD), .val (.int 5), s6, s7, s8, s9] ∧ shs.length = i ∧ ∀ s ∈ shs, ShOk s,
      ⟨_, _, _, _, [], rfl, rfl, fun s h => (nomatch h)⟩, ?_, ?_⟩
    · rintro i d G e ⟨s6, s7, s8, s9, shs, rfl, hl, hok⟩
      obtain ⟨hi, rfl⟩ := rangeD_inv e
      refine gn_name trivial (ho_seq (ho_set (ev_op (ev_int (ev_op (ev_int (ev_var rfl (rv_mulC (gMulL (by decide) (rv_add ?_))))))))))
      refine ho_if ?_
      refine et_B (ev_var rfl ⟨_, rfl, (ff_and ?_)⟩)
      have fin : ∀ (s : Shape) (s8 s9 : SD), ShOk s → ∃ (s6' s7' s8' s9' : SD) (shs' : List Shape), [SD.val (dR dr), .val (.int (most : Nat)), .val (.bl false), .val (.str "abcdefghijklmnopqrstuvwxyz"), .own (shs.map shapeD ++ [shapeD s]), .val (.int 5), s6, .val (.int (0 + (i : Int))), s8, s9] =
          [.val (dR dr), .val (.int (most : Nat)), .val (.bl false), .val (.str "abcdefghijklmnopqrstuvwxyz"), .own (shs'.map shapeD), .val (.int 5), s6', s7', s8', s9'] ∧ shs'.length = i + 1 ∧ ∀ s ∈ shs', ShOk s := fun s s8 s9 hs => by
        refine ⟨_, _, _, _, shs ++ [s], by rw [List.map_append]; rfl, by simp [hl], fun x hx => ?_⟩
        rcases List.mem_append.mp hx with y | y
        · exact hok x y
        · rw [List.mem_singleton.mp y]
          exact hs
      refine ho_if2 (Pb := fun b => b = true → 0 < i) ?_ (fun hb => ?_) fun _ => ?_
      · refine et_and (et_test (ev_op (ev_var rfl (ev_int (rv_gt ⟨_, rfl, ?_⟩)))))
        refine ⟨fun hx => ?_, fun _ z => (nomatch z)⟩
        refine et_test (ev_op (ev_op (ev_cb (ea_cons (ev_op (ev_op (ev_var rfl (ev_var rfl ?_))))))))
        refine rv_ixL (atI_map (j := 1 + 11 * i) (by omega) (getD_of 0 (by omega))) ?_
        refine ev_int (rv_divC (gDiv (by decide) (ea_nil (rc_int (ev_int (rv_modC (gMod (by decide) (ev_int (rv_eqI ⟨_, rfl, ?_⟩)))))))))
        intro _
        have := of_decide_eq_true hx
        omega
      · obtain ⟨init, t, rfl⟩ : ∃ init t, shs = init ++ [t] := by
          rcases List.eq_nil_or_concat shs with z | ⟨a, x, z⟩
          · subst z
            have := hb rfl
            simp at hl
            omega
          · exact ⟨a, x, by rw [z, List.concat_eq_append]⟩
        refine ho_app rfl (ev_ixO _ rfl (ev_un (ev_int (ru_neg ?_))))
        refine ⟨_, shapeD t, rfl, by rw [List.map_append]; exact atI_last, ?_⟩
        refine ⟨by rw [List.length_map]; omega, ?_⟩
        exact fin t _ _ (hok t (by simp))
      · refine ho_seq (ho_set (ev_call (ea_cons (ev_var rfl (ea_cons (ev_var rfl (ea_cons (ev_var rfl (ea_cons (ev_var rfl (ea_nil ?_)))))))))))
        refine ⟨dr, 1 + 11 * i, most, by simp, hm1, hm5, by omega, by omega, fun s z hs => ?_⟩
        refine ho_app rfl (ev_tup (ea_cons (ev_op (ev_var rfl (ev_int (rv_ixT rfl (ea_cons (ev_op (ev_var rfl (ev_int (rv_ixT rfl (ea_cons (ev_op (ev_var rfl (ev_int (rv_ixT rfl (ea_nil (lit3 ?_))))))))))))))))))
        refine ⟨by rw [List.length_map]; omega, ?_⟩
        exact fin s _ _ hs
    · rintro G ⟨s6, s7, s8, s9, shs, rfl, hl, hok⟩
      rw [rangeD_length] at hl
      refine ho_frz 4 rfl ?_
      refine ho_ret (ev_var rfl ?_)
      refine hR shs ⟨by omega, by omega, hok⟩ fun z => ?_
      rw [z] at hk
      have : (k : Int) = 2 := by rw [← hk]; rfl
      omega
-- _law_rulings
abbrev s__law_rulings : Stmt := top 59
abbrev sc__law_rulings_N : List Str := ["_law_draws_here", "_law_at", "_law_shapes_here", "_law_many", "_law_wons_here", "_law_rows", "_law_n", "_law_spot", "_law_parts_here", "_law_mode", "_law_grade"]
theorem sc__law_rulings : FnScope sc__law_rulings_N ["_law_draws_here", "_law_at", "_law_shapes_here", "_law_many", "_law_wons_here"] (defScope s__law_rulings) := ⟨rfl, rfl, rfl, by decide +kernel, rfl, by decide +kernel, by decide +kernel⟩
-- uses: g:range _law_parts g:int g:len _law_decided
-- slots: 0=_law_draws_here 1=_law_at 2=_law_shapes_here 3=_law_many 4=_law_wons_here 5=_law_rows 6=_law_n 7=_law_spot 8=_law_parts_here 9=_law_mode 10=_law_grade

theorem has_law_rulings (F : FunAt K mg "_law_rulings" s__law_rulings) (T : Tx mg) (h_law_parts : Has P w K mg base "_law_parts" 2 ["_law_draws_here", "_law_at", "_law_shapes_here"] (spD K (W_law_parts))) (h_law_decided : Has P w K mg base "_law_decided" 3 ["_law_parts_here", "_law_mode", "_law_wons_here"] (spD K (W_law_decided))) : Has P w K mg base "_law_rulings" 4 ["_law_draws_here", "_law_at", "_law_shapes_here", "_law_many", "_law_wons_here"] (spD K (W_law_rulings)) := by
  refine hasD F sc__law_rulings (fun ds R h => ?_) (fun _ _ _ _ _ _ us hl => match us, hl with | [_, _, _, _, _], _ => rfl) fun f cdv A outer s H E hr => ⟨_, (pss_cons (ps_set (i := 5) sc__law_rulings.nd rfl (Or.inl rfl) (pe_lst pa_nil))
      (pss_cons (ps_for PassesOwn.never rfl (pi_range1 rfl T.range (pa_cons (pv 3) pa_nil)) (pg_name (i := 6) sc__law_rulings.nd rfl (by first | exact .inl rfl | exact .inr rfl)) (pss_cons (ps_set (i := 7) sc__law_rulings.nd rfl (Or.inl rfl) (pe_op op_add (pv 1) (pe_op op_mul pe_int (pv 6))))
      (pss_cons (ps_set (i := 8) sc__law_rulings.nd rfl (Or.inl rfl) (pe_callH h_law_parts (hr.mono (by decide)) rfl (pa_cons (pv 0) (pa_cons (pv 7) (pa_cons (pv 2) pa_nil)))))
      (pss_cons (ps_set (i := 9) sc__law_rulings.nd rfl (Or.inl rfl) (pe_ix ix_tup (pe_tup (pa_cons pe_str (pa_cons pe_str pa_nil))) (pe_op op_mod (pe_callTy call_int1 (by rfl) T.int (by decide +kernel) (pa_cons (pe_ix ix_list (pv 0) (pe_op op_add (pv 7) pe_int) (fun _ _ => rfl)) pa_nil)) pe_int) (fun _ _ => rfl)))
      (pss_cons (ps_set (i := 10) sc__law_rulings.nd rfl (Or.inl rfl) (pe_op op_mod (pe_callTy call_int1 (by rfl) T.int (by decide +kernel) (pa_cons (pe_op op_fdiv (pe_ix ix_list (pv 0) (pe_op op_add (pv 7) pe_int) (fun _ _ => rfl)) pe_int) pa_nil)) pe_int))
      (pss_cons (ps_if (pt_cmpR op_gt (pe_callB call_len_seq (by rfl) T.len (by decide +kernel) (pa_cons (pv 4) pa_nil)) pe_int (nomark _)) (pss_one (ps_set (i := 10) sc__law_rulings.nd rfl (Or.inl rfl) (pe_callH h_law_decided (hr.mono (by decide)) rfl (pa_cons (pv 8) (pa_cons (pv 9) (pa_cons (pv 4) pa_nil)))))) pss_nil)
      (pss_one (ps_expr (pe_bm PySem.F.plainAttrs_list PySem.F.slot_list_append PySem.F.type_list_append mt_append (pv 5) (pa_cons (pe_tup (pa_cons (pv 8) (pa_cons (pv 9) (pa_cons (pv 10) pa_nil)))) pa_nil))))))))))
      (pss_one (ps_ret (pv 5))))), fun ds R h => ?_⟩
  · obtain ⟨dr, at_, many, shs, wons, rfl, _⟩ := h
    rfl
  · obtain ⟨dr, at_, many, shs, wons, rfl, hs, hw, hm, hn, hR⟩ := h
    dsimp only [cxOf, Cx.nox, Cx.wish]
    show Ho K _ [.val (dR dr), .val (.int (at_ : Nat)), .val (shapesD shs), .val (.int (many : Nat)), .val (wonsD wons), .un, .un, .un, .un, .un, .un] _ _ _ _
    refine ho_seq ?_
    refine ho_own (en_lst ?_)
    refine ea_nil (lit0 (ho_seq (ho_for (ei_range1 (ea_cons (ev_var rfl (ea_nil ⟨_, rfl, ?_⟩)))))))
    refine ⟨by omega, fun i G => ∃ (s6 s7 s8 s9 s10 : SD) (rows : List Row), G = [.val (dR dr), .val (.int (at_ : Nat)), .val (shapesD shs), .val (.int (many : Nat)), .val (wonsD wons), .own (rows.map rowD), s6, s7, s8, s9, s10] ∧ rows.length = i ∧ (∀ r ∈ rows, PartsOk shs r.parts) ∧ (wons ≠ [] → Decided wons rows),
      ⟨_, _, _, _, _, [], rfl, rfl, fun _ h => (nomatch h), fun _ _ h => (nomatch h)⟩, ?_, ?_⟩
    · rintro i d G e ⟨s6, s7, s8, s9, s10, rows, rfl, hl, hok, hd⟩
      obtain ⟨hi, rfl⟩ := rangeD_inv e
      refine gn_name trivial (ho_seq (ho_set (ev_op (ev_var rfl (ev_op (ev_int (ev_var rfl (rv_mulC (gMulL (by decide) (rv_add (ho_seq (ho_set (ev_call (ea_cons (ev_var rfl (ea_cons (ev_var rfl (ea_cons (ev_var rfl (ea_nil ?_))))))))))))))))))))
      refine ⟨dr, at_ + 17 * i, shs, by simp, hs, by omega, fun ps hps => ?_⟩
      refine ho_seq (ho_set (ev_op (ev_tup (ea_cons (ev_str (ea_cons (ev_str (ea_nil (lit2 (ev_op (ev_cb (ea_cons (ev_op (ev_var rfl (ev_op (ev_var rfl (ev_int (rv_add ?_))))))))))))))))))
      refine rv_ixL (atI_map (j := at_ + 17 * i + 16) (by omega) (getD_of 0 (by omega))) ?_
      refine ea_nil (rc_int (ev_int (rv_modC (gMod (by decide) ?_))))
      obtain ⟨k, hk⟩ := Int.eq_ofNat_of_zero_le (Int.emod_nonneg (dr.getD (at_ + 17 * i + 16) 0) (b := 2) (by omega))
      have hk2 : k < 2 := by omega
      have hk2' : k < ([("all" : Str), "any"] : List Str).length := hk2
      refine rv_ixT (l := ([("all" : Str), "any"] : List Str).map .str) (atI_map (j := k) hk (getD_of ("" : Str) hk2')) ?_
      have hmode : ([("all" : Str), "any"] : List Str).getD k "" = modeS (decide (k = 0)) := by
        have : k = 0 ∨ k = 1 := by omega
        rcases this with rfl | rfl <;> rfl
      rw [hmode]
      generalize decide (k = 0) = all
      refine ho_seq (ho_set (ev_op (ev_cb (ea_cons (ev_op (ev_op (ev_var rfl (ev_op (ev_var rfl (ev_int (rv_add ?_)))))))))))
      refine rv_ixL (atI_map (j := at_ + 17 * i + 16) (by omega) (getD_of 0 (by omega))) ?_
      refine ev_int (rv_divC (gDiv (by decide) (ea_nil (rc_int (ev_int (rv_modC (gMod (by decide) (ho_seq ?_))))))))
      generalize dr.getD (at_ + 17 * i + 16) 0 = g
      have fin : ∀ won s6 s7, (wons ≠ [] → won = decided ps all wons) → ∃ (s6' s7' s8 s9 s10 : SD) (rows' : List Row), [SD.val (dR dr), .val (.int (at_ : Nat)), .val (shapesD shs), .val (.int (many : Nat)), .val (wonsD wons), .own (rows.map rowD ++ [rowD ⟨ps, all, won⟩]), s6, s7, .val (partsD ps), .val (.str (modeS all)), .val (.int (gI won))] =
          [.val (dR dr), .val (.int (at_ : Nat)), .val (shapesD shs), .val (.int (many : Nat)), .val (wonsD wons), .own (rows'.map rowD), s6', s7', s8, s9, s10] ∧ rows'.length = i + 1 ∧ (∀ r ∈ rows', PartsOk shs r.parts) ∧ (wons ≠ [] → Decided wons rows') := fun won s6 s7 hx => by
        refine ⟨_, _, _, _, _, rows ++ [⟨ps, all, won⟩], by rw [List.map_append]; rfl, by simp [hl], fun r hr => ?_, fun hne r hr => ?_⟩
        · rcases List.mem_append.mp hr with y | y
          · exact hok r y
          · rw [List.mem_singleton.mp y]
            exact hps
        · rcases List.mem_append.mp hr with y | y
          · exact hd hne r y
          · rw [List.mem_singleton.mp y]
            exact hx hne
      refine ho_if2 (Pb := fun b => b = decide (0 < wons.length)) ?_ (fun hb => ?_) fun hb => ?_
      · refine et_test (ev_op (ev_cb (ea_cons (ev_var rfl (ea_nil (rc_lenL (ev_int (rv_gt ⟨_, rfl, ?_⟩))))))))
        rw [List.length_map, Bool.eq_iff_iff, decide_eq_true_eq, decide_eq_true_eq]
        omega
      · have hne : wons ≠ [] := fun z => by subst z; exact nomatch hb
        refine ho_set (ev_call (ea_cons (ev_var rfl (ea_cons (ev_var rfl (ea_cons (ev_var rfl (ea_nil ?_))))))))
        refine ⟨shs, ps, all, wons, rfl, hs, hps, hw.resolve_left hne, ?_⟩
        refine ho_app rfl (ev_tup (ea_cons (ev_var rfl (ea_cons (ev_var rfl (ea_cons (ev_var rfl (ea_nil (lit3 ?_)))))))))
        refine ⟨by rw [List.length_map]; omega, ?_⟩
        exact fin _ _ _ fun _ => rfl
      · have hne : wons = [] := by
          cases wons with
          | nil => rfl
          | cons x l => exact absurd hb (by simp)
        refine ho_nil (ho_app rfl (ev_tup (ea_cons (ev_var rfl (ea_cons (ev_var rfl (ea_cons (ev_var rfl (ea_nil (lit3 ?_))))))))))
        refine ⟨by rw [List.length_map]; omega, ?_⟩
        have eg : g / 2 % 2 = gI (decide (g / 2 % 2 = 1)) := by
          by_cases q : g / 2 % 2 = 1
          · rw [q]; rfl
          · rw [decide_eq_false q]
            show _ = 0
            omega
        rw [eg]
        exact fin _ _ _ fun z => absurd hne z
    · rintro G ⟨s6, s7, s8, s9, s10, rows, rfl, hl, hok, hd⟩
      rw [rangeD_length] at hl
      refine ho_frz 5 rfl ?_
      refine ho_ret (ev_var rfl ?_)
      exact hR rows hl ⟨by omega, hok⟩ hd
end
end Sc
/-! D11: the knot, the drawn suit. -/
namespace Sc
open PySem L2
section
variable {P : Program} {w : World} {K : PySem.W.Frag} {mg : Str → Option Value} {base : Heap}
-- _law_knot
abbrev s__law_knot : Stmt := top 66
abbrev sc__law_knot_N : List Str := ["_law_draws_here", "_law_at", "_law_shapes_here", "_law_middles", "_law_rows", "_law_n", "_law_parts_here", "_law_issue_here", "_law_case_here", "_law_p"]
theorem sc__law_knot : FnScope sc__law_knot_N ["_law_draws_here", "_law_at", "_law_shapes_here"] (defScope s__law_knot) := ⟨rfl, rfl, rfl, by decide +kernel, rfl, by decide +kernel, by decide +kernel⟩
-- uses: g:range _law_limits _law_case g:len g:min g:tuple g:max
-- slots: 0=_law_draws_here 1=_law_at 2=_law_shapes_here 3=_law_middles 4=_law_rows 5=_law_n 6=_law_parts_here 7=_law_issue_here 8=_law_case_here 9=_law_p

theorem has_law_knot (F : FunAt K mg "_law_knot" s__law_knot) (T : Tx mg) (h_law_limits : Has P w K mg base "_law_limits" 1 ["_law_shape"] (spD K (W_law_limits))) (h_law_case : Has P w K mg base "_law_case" 1 ["_law_draws_here", "_law_at", "_law_limits_here"] (spD K (W_law_case))) : Has P w K mg base "_law_knot" 2 ["_law_draws_here", "_law_at", "_law_shapes_here"] (spD K (W_law_knot)) := by
  refine hasD F sc__law_knot (fun ds R h => ?_) (fun _ _ _ _ _ _ us hl => match us, hl with | [_, _, _], _ => rfl) fun f cdv A outer s H E hr => ⟨_, (pss_cons (ps_set (i := 3) sc__law_knot.nd rfl (Or.inr rfl) (pe_lc (own := [("_law_n", 5)]) (g := (gName 5)) (tt := tYes) (te := (tCall (spD K (W_law_case)) [] E0 (tCons (tVar 0) (tCons (tOp (rI0 fun i j => .int (i + j)) (tVar 1) (tOp (rI CMul fun i j => .int (i * j)) (tC (.int 5)) (tVar 5))) (tCons (tCall (spD K (W_law_limits)) [] E0 (tCons (tOp (rIxL K) (tVar 2) (tVar 5)) tNil)) tNil))))) rfl sc__law_knot.nd (pi_range1 rfl T.range (pa_cons pe_int pa_nil)) (blkOk_by (N := sc__law_knot_N) (sc := defScope s__law_knot) (by decide +kernel)) (fun _ _ _ _ _ => (pg_name (i := 5) sc__law_knot.nd rfl (by first | exact .inl rfl | exact .inr rfl))) (fun _ _ _ _ _ => pts_nil) (fun _ _ _ _ _ => (pe_callH h_law_case (hr.mono (by decide)) rfl (pa_cons (pv 0) (pa_cons (pe_op op_add (pv 1) (pe_op op_mul pe_int (pv 5))) (pa_cons (pe_callH h_law_limits (hr.mono (by decide)) rfl (pa_cons (pe_ix ix_list (pv 2) (pv 5) (fun _ _ => rfl)) pa_nil)) pa_nil)))))))
      (pss_cons (ps_set (i := 4) sc__law_knot.nd rfl (Or.inl rfl) (pe_lst pa_nil))
      (pss_cons (ps_for PassesOwn.never rfl (pi_range1 rfl T.range (pa_cons pe_int pa_nil)) (pg_name (i := 5) sc__law_knot.nd rfl (by first | exact .inl rfl | exact .inr rfl)) (pss_cons (ps_set (i := 6) sc__law_knot.nd rfl (Or.inl rfl) (pe_lst pa_nil))
      (pss_cons (ps_for PassesOwn.never rfl (pi_range1 rfl T.range (pa_cons pe_int pa_nil)) (pg_name (i := 7) sc__law_knot.nd rfl (by first | exact .inl rfl | exact .inr rfl)) (pss_cons (ps_set (i := 8) sc__law_knot.nd rfl (Or.inr rfl) (pe_callH h_law_case (hr.mono (by decide)) rfl (pa_cons (pv 0) (pa_cons (pe_op op_add (pe_op op_add (pe_op op_add (pv 1) pe_int) (pe_op op_mul pe_int (pv 5))) (pe_op op_mul pe_int (pv 7))) (pa_cons (pe_callH h_law_limits (hr.mono (by decide)) rfl (pa_cons (pe_ix ix_list (pv 2) (pv 7) (fun _ _ => rfl)) pa_nil)) pa_nil)))))
      (pss_one (ps_if (pt_cmpR op_eq (pv 7) (pe_op op_mod (pv 5) pe_int) (nomark _)) (pss_one (ps_expr (pe_bm PySem.F.plainAttrs_list PySem.F.slot_list_append PySem.F.type_list_append mt_append (pv 6) (pa_cons pe_non pa_nil)))) (pss_one (ps_if (pt_cmpR op_lt (pv 5) pe_int (nomark _)) (pss_one (ps_expr (pe_bm PySem.F.plainAttrs_list PySem.F.slot_list_append PySem.F.type_list_append mt_append (pv 6) (pa_cons (pe_callTy call_tuple_of (by rfl) T.tuple (by decide +kernel) (pa_cons (pe_lc (own := [("_law_p", 9)]) (g := (gName 9)) (tt := tYes) (te := (tCB Min2T (tCons (tOp (rIxT K) (tVar 8) (tVar 9)) (tCons (tOp (rIxT K) (tOp (rIxL K) (tVar 3) (tVar 7)) (tVar 9)) tNil)))) rfl sc__law_knot.nd (pi_range1 rfl T.range (pa_cons (pe_callB call_len_seq (by rfl) T.len (by decide +kernel) (pa_cons (pv 8) pa_nil)) pa_nil)) (blkOk_by (N := sc__law_knot_N) (sc := defScope s__law_knot) (by decide +kernel)) (fun _ _ _ _ _ => (pg_name (i := 9) sc__law_knot.nd rfl (by first | exact .inl rfl | exact .inr rfl))) (fun _ _ _ _ _ => pts_nil) (fun _ _ _ _ _ => (pe_callB (call_min2 rfl) (by rfl) T.min (by decide +kernel) (pa_cons (pe_ix ix_tup (pv 8) (pv 9) (fun _ _ => rfl)) (pa_cons (pe_ix ix_tup (pe_ix ix_list (pv 3) (pv 7) (fun _ _ => rfl)) (pv 9) (fun _ _ => rfl)) pa_nil))))) pa_nil)) pa_nil)))) (pss_one (ps_expr (pe_bm PySem.F.plainAttrs_list PySem.F.slot_list_append PySem.F.type_list_append mt_append (pv 6) (pa_cons (pe_callTy call_tuple_of (by rfl) T.tuple (by decide +kernel) (pa_cons (pe_lc (own := [("_law_p", 9)]) (g := (gName 9)) (tt := tYes) (te := (tCB Max2T (tCons (tOp (rIxT K) (tVar 8) (tVar 9)) (tCons (tOp (rIxT K) (tOp (rIxL K) (tVar 3) (tVar 7)) (tVar 9)) tNil)))) rfl sc__law_knot.nd (pi_range1 rfl T.range (pa_cons (pe_callB call_len_seq (by rfl) T.len (by decide +kernel) (pa_cons (pv 8) pa_nil)) pa_nil)) (blkOk_by (N := sc__law_knot_N) (sc := defScope s__law_knot) (by decide +kernel)) (fun _ _ _ _ _ => (pg_name (i := 9) sc__law_knot.nd rfl (by first | exact .inl rfl | exact .inr rfl))) (fun _ _ _ _ _ => pts_nil) (fun _ _ _ _ _ => (pe_callB (call_max2 rfl) (by rfl) T.max (by decide +kernel) (pa_cons (pe_ix ix_tup (pv 8) (pv 9) (fun _ _ => rfl)) (pa_cons (pe_ix ix_tup (pe_ix ix_list (pv 3) (pv 7) (fun _ _ => rfl)) (pv 9) (fun _ _ => rfl)) pa_nil))))) pa_nil)) pa_nil))))))))))
      (pss_one (ps_expr (pe_bm PySem.F.plainAttrs_list PySem.F.slot_list_append PySem.F.type_list_append mt_append (pv 4) (pa_cons (pe_tup (pa_cons (pe_callTy call_tuple_of (by rfl) T.tuple (by decide +kernel) (pa_cons (pv 6) pa_nil)) (pa_cons (pe_ix ix_tup (pe_tup (pa_cons pe_str (pa_cons pe_str pa_nil))) (pe_op op_fdiv (pv 5) pe_int) (fun _ _ => rfl)) (pa_cons (pe_op op_sub pe_int (pe_op op_fdiv (pv 5) pe_int)) pa_nil)))) pa_nil)))))))
      (pss_one (ps_ret (pv 4)))))), fun ds R h => ?_⟩
  · obtain ⟨dr, shs, rfl, _⟩ := h
    rfl
  · obtain ⟨dr, shs, rfl, hs, h3, hn, hR⟩ := h
    dsimp only [cxOf, Cx.nox, Cx.wish]
    show Ho K _ [.val (dR dr), .val (.int 0), .val (shapesD shs), .un, .un, .un, .un, .un, .un, .un] _ _ _ _
    have hsh : ∀ {i}, i < 3 → ∃ s, shs[i]? = some s ∧ ShOk s := fun {i} hi => ⟨_, List.getElem?_eq_getElem (by omega), hs.ok _ (List.getElem_mem _)⟩
    refine ho_seq ?_
    refine ho_set (ev_lc ?_)
    refine ei_range1 (ea_cons (ev_int (ea_nil ⟨_, rfl, ?_⟩)))
    refine ⟨by decide, ?_⟩
    refine lc_rangeP (f := ci) (ok := fun i c => ∀ s, shs[i]? = some s → CaseOk (lims s) c) (by decide) (fun i hi => ?_) fun mids hml hmo => ?_
    · have hi : i < 3 := hi
      obtain ⟨s, hs1, hso⟩ := hsh hi
      refine gn_name (by decide) (ev_call (ea_cons (ev_var rfl (ea_cons (ev_op (ev_var rfl (ev_op (ev_int (ev_var rfl (rv_mulC (gMulL (by decide) (rv_add (ea_cons (ev_call (ea_cons (ev_op (ev_var rfl (ev_var rfl ?_))))))))))))))))))
      refine rv_ixL (atI_map (j := i) rfl hs1) ?_
      refine ea_nil ?_
      refine ⟨s, rfl, by have := hso.len; omega, ?_⟩
      refine ea_nil ?_
      refine ⟨dr, 5 * i, lims s, by simp, ?_, hso.lim, fun c hc => ⟨c, rfl, fun s' h' => ?_⟩⟩
      · have := hso.lim.len
        omega
      · rw [hs1] at h'
        cases h'
        exact hc
    have hml : mids.length = 3 := hml
    refine ho_seq ?_
    refine ho_own (en_lst ?_)
    refine ea_nil (lit0 (ho_seq (ho_for (ei_range1 (ea_cons (ev_int (ea_nil ⟨_, rfl, ?_⟩)))))))
    refine ⟨by decide, ?_⟩
    refine ⟨fun n G => ∃ (s5 s6 s7 s8 s9 : SD) (rows : List Row), G = [.val (dR dr), .val (.int 0), .val (shapesD shs), .val (casesD mids), .own (rows.map rowD), s5, s6, s7, s8, s9] ∧ rows.length = n ∧ ∀ r ∈ rows, PartsOk shs r.parts,
      ⟨_, _, _, _, _, [], rfl, rfl, fun _ h => (nomatch h)⟩, ?_, ?_⟩
    · rintro n d G e ⟨s5, s6, s7, s8, s9, rows, rfl, hl, hok⟩
      obtain ⟨hn6, rfl⟩ := rangeD_inv e
      have hn6 : n < 6 := hn6
      refine gn_name trivial (ho_seq ?_)
      refine ho_own (en_lst ?_)
      refine ea_nil (lit0 (ho_seq (ho_for (ei_range1 (ea_cons (ev_int (ea_nil ⟨_, rfl, ?_⟩)))))))
      refine ⟨by decide, ?_⟩
      refine ⟨fun k G => ∃ (s7 s8 s9 : SD) (ps : List Part), G = [.val (dR dr), .val (.int 0), .val (shapesD shs), .val (casesD mids), .own (rows.map rowD), .val (.int (0 + (n : Int))), .own (ps.map partD), s7, s8, s9] ∧ ps.length = k ∧
        (∀ (j : Nat) (s : Shape) (c : List Int), shs[j]? = some s → ps[j]? = some (some c) → CaseOk (lims s) c) ∧ ∀ j, j < k → j ≠ n % 3 → ∃ c, ps[j]? = some (some c), ⟨_, _, _, [], rfl, rfl, fun j s c _ h => (nomatch h), fun j h => by omega⟩, ?_, ?_⟩
      · rintro k d G e ⟨s7, s8, s9, ps, rfl, hpl, hpo, hps⟩
        obtain ⟨hk3, rfl⟩ := rangeD_inv e
        have hk3 : k < 3 := hk3
        obtain ⟨s, hs1, hso⟩ := hsh hk3
        obtain ⟨mid, hmid⟩ : ∃ m, mids[k]? = some m := ⟨_, List.getElem?_eq_getElem (by omega)⟩
        have hmc := hmo k mid hmid s hs1
        have hl5 := hso.lim.len
        have more_ : ∀ (p : Part) (s8' s9' : SD), (∀ c, p = some c → CaseOk (lims s) c) → (k ≠ n % 3 → ∃ c, p = some c) →
            ∃ (s7 s8 s9 : SD) (ps' : List Part), [SD.val (dR dr), .val (.int 0), .val (shapesD shs), .val (casesD mids), .own (rows.map rowD), .val (.int (0 + (n : Int))), .own (ps.map partD ++ [partD p]), .val (.int (0 + (k : Int))), s8', s9'] = [.val (dR dr), .val (.int 0), .val (shapesD shs), .val (casesD mids), .own (rows.map rowD), .val (.int (0 + (n : Int))), .own (ps'.map partD), s7, s8, s9] ∧ ps'.length = k + 1 ∧
        (∀ (j : Nat) (s : Shape) (c : List Int), shs[j]? = some s → ps'[j]? = some (some c) → CaseOk (lims s) c) ∧ ∀ j, j < k + 1 → j ≠ n % 3 → ∃ c, ps'[j]? = some (some c) := fun p s8' s9' q1 q2 => by
          refine ⟨_, _, _, ps ++ [p], by rw [List.map_append]; rfl, by simp [hpl], fun j s' c g1 g2 => ?_, fun j hj hbj => ?_⟩
          · by_cases hj : j < ps.length
            · rw [List.getElem?_append_left hj] at g2
              exact hpo j s' c g1 g2
            · have hj2 := get_lt g2
              rw [List.length_append, List.length_singleton] at hj2
              rw [List.getElem?_append_right (by omega), show j - ps.length = 0 by omega] at g2
              have g2 : some p = some (some c) := g2
              cases g2
              rw [show j = k by omega, hs1] at g1
              cases g1
              exact q1 c rfl
          · by_cases hj2 : j < k
            · obtain ⟨c, hc⟩ := hps j hj2 hbj
              exact ⟨c, by rw [List.getElem?_append_left (by omega)]; exact hc⟩
            · have : j = k := by omega
              subst this
              obtain ⟨c, rfl⟩ := q2 hbj
              refine ⟨c, ?_⟩
              rw [List.getElem?_append_right (by omega), show j - ps.length = 0 by omega]
              rfl
        refine gn_name trivial (ho_seq (ho_set (ev_call (ea_cons (ev_var rfl (ea_cons (ev_op (ev_op (ev_op (ev_var rfl (ev_int (rv_add (ev_op (ev_int (ev_var rfl (rv_mulC (gMulL (by decide) (rv_add (ev_op (ev_int (ev_var rfl (rv_mulC (gMulL (by decide) (rv_add (ea_cons (ev_call (ea_cons (ev_op (ev_var rfl (ev_var rfl ?_))))))))))))))))))))))))))))))
        refine rv_ixL (atI_map (j := k) (by omega) hs1) ?_
        refine ea_nil ?_
        refine ⟨s, rfl, by have := hso.len; omega, ?_⟩
        refine ea_nil ?_
        refine ⟨dr, 15 + 15 * n + 5 * k, lims s, by simp, by omega, hso.lim, fun c hc => ?_⟩
        have hcl := hc.len
        have hml2 := hmc.len
        refine ho_if (et_test (ev_op (ev_var rfl (ev_op (ev_var rfl (ev_int (rv_modC (gMod (by decide) (rv_eqI ⟨_, rfl, ?_⟩)))))))))
        refine ⟨fun hb => ?_, fun hb => ?_⟩
        · refine ho_app rfl (ev_non ?_)
          refine ⟨by rw [List.length_map]; omega, ?_⟩
          exact more_ none _ _ (fun c' e => (nomatch e)) fun z => absurd (of_decide_eq_true hb) (by omega)
        · refine ho_if (et_test (ev_op (ev_var rfl (ev_int (rv_lt ⟨_, rfl, ?_⟩)))))
          refine ⟨fun hb2 => ?_, fun hb2 => ?_⟩
          · refine ho_app rfl (ev_cb (ea_cons (ev_lc (ei_range1 (ea_cons (ev_cb (ea_cons (ev_var rfl (ea_nil (rc_lenT (ea_nil ⟨_, rfl, ?_⟩)))))))))))
            refine ⟨by rw [List.length_map]; omega, ?_⟩
            refine lc_range (h := fun j => .int (min (c.getD j 0) (mid.getD j 0))) (by rw [List.length_map]; omega) (fun j hj => ?_) ?_
            · rw [List.length_map] at hj
              refine gn_name (by decide) (ev_cb (ea_cons (ev_op (ev_var rfl (ev_var rfl ?_)))))
              refine rv_ixT (atI_map (j := j) rfl (getD_of 0 hj)) ?_
              refine ea_cons (ev_op (ev_op (ev_var rfl (ev_var rfl ?_))))
              refine rv_ixL (atI_map (j := k) (by omega) hmid) ?_
              refine ev_var rfl ?_
              refine rv_ixT (atI_map (j := j) rfl (getD_of 0 (by omega))) ?_
              exact ea_nil (rc_min2 (rfl))
            · refine ea_nil (rc_tupL ?_)
              refine ⟨by rw [List.length_map]; omega, ?_⟩
              have := more_ (some ((List.range c.length).map fun j => min (c.getD j 0) (mid.getD j 0))) (.val (ci c)) s9 (fun c' e => by
                cases e
                refine ⟨by simp [hcl], fun j hj => ?_⟩
                rw [getD_get (by rw [List.getElem?_map, List.getElem?_range (by omega)]; rfl)]
                have h1 := hc.2 j hj
                have h2 := hmc.2 j hj
                show 0 ≤ min (c.getD j 0) (mid.getD j 0) ∧ min (c.getD j 0) (mid.getD j 0) ≤ (lims s).getD j 0
                omega) fun _ => ⟨_, rfl⟩
              rw [List.length_map]
              simp only [partD, ci, List.map_map] at this
              exact this
          · refine ho_app rfl (ev_cb (ea_cons (ev_lc (ei_range1 (ea_cons (ev_cb (ea_cons (ev_var rfl (ea_nil (rc_lenT (ea_nil ⟨_, rfl, ?_⟩)))))))))))
            refine ⟨by rw [List.length_map]; omega, ?_⟩
            refine lc_range (h := fun j => .int (max (c.getD j 0) (mid.getD j 0))) (by rw [List.length_map]; omega) (fun j hj => ?_) ?_
            · rw [List.length_map] at hj
              refine gn_name (by decide) (ev_cb (ea_cons (ev_op (ev_var rfl (ev_var rfl ?_)))))
              refine rv_ixT (atI_map (j := j) rfl (getD_of 0 hj)) ?_
              refine ea_cons (ev_op (ev_op (ev_var rfl (ev_var rfl ?_))))
              refine rv_ixL (atI_map (j := k) (by omega) hmid) ?_
              refine ev_var rfl ?_
              refine rv_ixT (atI_map (j := j) rfl (getD_of 0 (by omega))) ?_
              exact ea_nil (rc_max2 (rfl))
            · refine ea_nil (rc_tupL ?_)
              refine ⟨by rw [List.length_map]; omega, ?_⟩
              have := more_ (some ((List.range c.length).map fun j => max (c.getD j 0) (mid.getD j 0))) (.val (ci c)) s9 (fun c' e => by
                cases e
                refine ⟨by simp [hcl], fun j hj => ?_⟩
                rw [getD_get (by rw [List.getElem?_map, List.getElem?_range (by omega)]; rfl)]
                have h1 := hc.2 j hj
                have h2 := hmc.2 j hj
                show 0 ≤ max (c.getD j 0) (mid.getD j 0) ∧ max (c.getD j 0) (mid.getD j 0) ≤ (lims s).getD j 0
                omega) fun _ => ⟨_, rfl⟩
              rw [List.length_map]
              simp only [partD, ci, List.map_map] at this
              exact this
      · rintro G ⟨s7, s8, s9, ps, rfl, hpl, hpo, hps⟩
        simp only [rangeD_length] at hpl hps
        have hpl : ps.length = 3 := hpl
        refine ho_frz 6 rfl ?_
        refine ho_app rfl (ev_tup (ea_cons (ev_cb (ea_cons (ev_var rfl (ea_nil (rc_tupL (ea_cons (ev_op (ev_tup (ea_cons (ev_str (ea_cons (ev_str (ea_nil (lit2 (ev_op (ev_var rfl (ev_int (rv_divC (gDiv (by decide) ?_)))))))))))))))))))))
        have hpk : PartsOk shs ps := by
          refine ⟨by omega, hpo, ?_⟩
          by_cases q : n % 3 = 0
          · obtain ⟨c, hc⟩ := hps 1 (by decide) (by omega)
            exact ⟨1, c, hc⟩
          · obtain ⟨c, hc⟩ := hps 0 (by decide) (by omega)
            exact ⟨0, c, hc⟩
        have hk2 : n / 3 < 2 := by omega
        have hk2' : n / 3 < ([("any" : Str), "all"] : List Str).length := hk2
        refine rv_ixT (l := ([("any" : Str), "all"] : List Str).map .str) (atI_map (j := n / 3) (by omega) (getD_of ("" : Str) hk2')) ?_
        refine ea_cons (ev_op (ev_int (ev_op (ev_var rfl (ev_int (rv_divC (gDiv (by decide) (rv_sub (ea_nil (lit3 ?_))))))))))
        have hmode : ([("any" : Str), "all"] : List Str).getD (n / 3) "" = modeS (decide (3 ≤ n)) := by
          by_cases q : 3 ≤ n
          · rw [show n / 3 = 1 by omega, decide_eq_true q]; rfl
          · rw [show n / 3 = 0 by omega, decide_eq_false q]; rfl
        have hgr : 1 - (0 + (n : Int)) / 3 = gI (decide (n < 3)) := by
          by_cases q : n < 3
          · rw [decide_eq_true q]
            show _ = 1
            omega
          · rw [decide_eq_false q]
            show _ = 0
            omega
        rw [hmode, hgr]
        refine ⟨by rw [List.length_map]; omega, _, _, _, _, _, rows ++ [⟨ps, decide (3 ≤ n), decide (n < 3)⟩], by rw [List.map_append]; rfl, by simp [hl], fun r hr => ?_⟩
        rcases List.mem_append.mp hr with y | y
        · exact hok r y
        · rw [List.mem_singleton.mp y]
          exact hpk
    · rintro G ⟨s5, s6, s7, s8, s9, rows, rfl, hl, hok⟩
      rw [rangeD_length] at hl
      have hl : rows.length = 6 := hl
      refine ho_frz 4 rfl ?_
      refine ho_ret (ev_var rfl ?_)
      exact hR rows hl ⟨by omega, hok⟩
end
end Sc
/-! D12: the drawn suit. -/
namespace Sc
open PySem L2
section
variable {P : Program} {w : World} {K : PySem.W.Frag} {mg : Str → Option Value} {base : Heap}
-- _law_drawn_suit
abbrev s__law_drawn_suit : Stmt := top 68
abbrev sc__law_drawn_suit_N : List Str := ["_law_script", "_law_draws_here", "_law_most", "_law_how", "_law_shapes_here", "_law_wons_here", "_law_rows", "_law_kept", "_law_choices", "_law_row", "_law_knot_here"]
theorem sc__law_drawn_suit : FnScope sc__law_drawn_suit_N ["_law_script"] (defScope s__law_drawn_suit) := ⟨rfl, rfl, rfl, by decide +kernel, rfl, by decide +kernel, by decide +kernel⟩
-- uses: _law_draws g:int _law_shapes _law_knot _law_shuffled _law_wons _law_rulings _law_is_choice
-- slots: 0=_law_script 1=_law_draws_here 2=_law_most 3=_law_how 4=_law_shapes_here 5=_law_wons_here 6=_law_rows 7=_law_kept 8=_law_choices 9=_law_row 10=_law_knot_here

theorem has_law_drawn_suit (F : FunAt K mg "_law_drawn_suit" s__law_drawn_suit) (T : Tx mg) (h_law_draws : Has P w K mg base "_law_draws" 2 ["_law_script", "_law_k", "_law_many"] (spD K (W_law_draws))) (h_law_shapes : Has P w K mg base "_law_shapes" 2 ["_law_draws_here", "_law_most", "_law_apart_here"] (spD K (W_law_shapes))) (h_law_knot : Has P w K mg base "_law_knot" 2 ["_law_draws_here", "_law_at", "_law_shapes_here"] (spD K (W_law_knot))) (h_law_shuffled : Has P w K mg base "_law_shuffled" 1 ["_law_rows", "_law_draws_here", "_law_at"] (spD K (W_law_shuffled))) (h_law_wons : Has P w K mg base "_law_wons" 2 ["_law_draws_here", "_law_at", "_law_shapes_here"] (spD K (W_law_wons))) (h_law_rulings : Has P w K mg base "_law_rulings" 4 ["_law_draws_here", "_law_at", "_law_shapes_here", "_law_many", "_law_wons_here"] (spD K (W_law_rulings))) (h_law_is_choice : Has P w K mg base "_law_is_choice" 1 ["_law_row"] (spD K (W_law_is_choice))) : Has P w K mg base "_law_drawn_suit" 5 ["_law_script"] (spD K (W_law_drawn_suit)) := by
  refine hasD F sc__law_drawn_suit (fun ds R h => ?_) (fun _ _ _ _ _ _ us hl => match us, hl with | [_], _ => rfl) fun f cdv A outer s H E hr => ⟨_, (pss_cons (ps_set (i := 1) sc__law_drawn_suit.nd rfl (Or.inl rfl) (pe_callH h_law_draws (hr.mono (by decide)) rfl (pa_cons (pv 0) (pa_cons pe_int (pa_cons pe_int pa_nil)))))
      (pss_cons (ps_set (i := 2) sc__law_drawn_suit.nd rfl (Or.inl rfl) (pe_ix ix_tup (pe_tup (pa_cons pe_int (pa_cons pe_int (pa_cons pe_int (pa_cons pe_int pa_nil))))) (pe_op op_mod (pe_callTy call_int1 (by rfl) T.int (by decide +kernel) (pa_cons (pe_ix ix_list (pv 1) pe_int (fun _ _ => rfl)) pa_nil)) pe_int) (fun _ _ => rfl)))
      (pss_cons (ps_set (i := 3) sc__law_drawn_suit.nd rfl (Or.inl rfl) (pe_op op_mod (pe_callTy call_int1 (by rfl) T.int (by decide +kernel) (pa_cons (pe_ix ix_list (pv 1) pe_int (fun _ _ => rfl)) pa_nil)) pe_int))
      (pss_cons (ps_if (pt_cmpR op_eq (pv 3) pe_int (nomark _)) (pss_cons (ps_set (i := 4) sc__law_drawn_suit.nd rfl (Or.inl rfl) (pe_callH h_law_shapes (hr.mono (by decide)) rfl (pa_cons (pe_op op_cat (pe_lst (pa_cons pe_int pa_nil)) (pe_slice sl_list (pv 1) (po_some pe_int) (po_some pe_int))) (pa_cons (pv 2) (pa_cons pe_bl pa_nil)))))
      (pss_cons (ps_set (i := 10) sc__law_drawn_suit.nd rfl (Or.inl rfl) (pe_callH h_law_draws (hr.mono (by decide)) rfl (pa_cons (pv 0) (pa_cons pe_int (pa_cons pe_int pa_nil)))))
      (pss_one (ps_ret (pe_tup (pa_cons (pv 4) (pa_cons (pe_slice sl_list (pe_callH h_law_shuffled (hr.mono (by decide)) rfl (pa_cons (pe_callH h_law_knot (hr.mono (by decide)) rfl (pa_cons (pv 10) (pa_cons pe_int (pa_cons (pv 4) pa_nil)))) (pa_cons (pv 10) (pa_cons pe_int pa_nil)))) po_none (po_some pe_int)) (pa_cons (pe_lst pa_nil) pa_nil)))))))) pss_nil)
      (pss_cons (ps_set (i := 4) sc__law_drawn_suit.nd rfl (Or.inl rfl) (pe_callH h_law_shapes (hr.mono (by decide)) rfl (pa_cons (pv 1) (pa_cons (pv 2) (pa_cons pe_bl pa_nil)))))
      (pss_cons (ps_set (i := 5) sc__law_drawn_suit.nd rfl (Or.inl rfl) (pe_lst pa_nil))
      (pss_cons (ps_if (pt_cmpR op_eq (pv 3) pe_int (nomark _)) (pss_one (ps_set (i := 5) sc__law_drawn_suit.nd rfl (Or.inl rfl) (pe_callH h_law_wons (hr.mono (by decide)) rfl (pa_cons (pe_callH h_law_draws (hr.mono (by decide)) rfl (pa_cons (pv 0) (pa_cons pe_int (pa_cons pe_int pa_nil)))) (pa_cons pe_int (pa_cons (pv 4) pa_nil)))))) pss_nil)
      (pss_cons (ps_set (i := 6) sc__law_drawn_suit.nd rfl (Or.inl rfl) (pe_callH h_law_rulings (hr.mono (by decide)) rfl (pa_cons (pe_callH h_law_draws (hr.mono (by decide)) rfl (pa_cons (pv 0) (pa_cons pe_int (pa_cons pe_int pa_nil)))) (pa_cons pe_int (pa_cons (pv 4) (pa_cons pe_int (pa_cons (pv 5) pa_nil)))))))
      (pss_cons (ps_set (i := 6) sc__law_drawn_suit.nd rfl (Or.inl rfl) (pe_slice sl_list (pe_op op_cat (pv 6) (pe_callH h_law_rulings (hr.mono (by decide)) rfl (pa_cons (pe_callH h_law_draws (hr.mono (by decide)) rfl (pa_cons (pv 0) (pa_cons pe_int (pa_cons pe_int pa_nil)))) (pa_cons pe_int (pa_cons (pv 4) (pa_cons pe_int (pa_cons (pv 5) pa_nil))))))) po_none (po_some (pe_op op_mod (pe_callTy call_int1 (by rfl) T.int (by decide +kernel) (pa_cons (pe_ix ix_list (pv 1) pe_int (fun _ _ => rfl)) pa_nil)) pe_int))))
      (pss_cons (ps_set (i := 7) sc__law_drawn_suit.nd rfl (Or.inl rfl) (pe_lst pa_nil))
      (pss_cons (ps_set (i := 8) sc__law_drawn_suit.nd rfl (Or.inl rfl) pe_int)
      (pss_cons (ps_for PassesOwn.never rfl (pi_list (pv 6)) (pg_name (i := 9) sc__law_drawn_suit.nd rfl (by first | exact .inl rfl | exact .inr rfl)) (pss_one (ps_if (PW.pt (pw_or (pt_not (pt_val (pe_callH h_law_is_choice (hr.mono (by decide)) rfl (pa_cons (pv 9) pa_nil)))) (pw_or1 (pt_cmpR op_lt (pv 8) pe_int (nomark _))))) (pss_cons (ps_expr (pe_bm PySem.F.plainAttrs_list PySem.F.slot_list_append PySem.F.type_list_append mt_append (pv 7) (pa_cons (pv 9) pa_nil)))
      (pss_one (ps_set (i := 8) sc__law_drawn_suit.nd rfl (Or.inl rfl) (pe_op op_add (pv 8) (pe_callTy call_int1 (by rfl) T.int (by decide +kernel) (pa_cons (pe_callH h_law_is_choice (hr.mono (by decide)) rfl (pa_cons (pv 9) pa_nil)) pa_nil)))))) pss_nil)))
      (pss_one (ps_ret (pe_tup (pa_cons (pv 4) (pa_cons (pv 7) (pa_cons (pv 5) pa_nil)))))))))))))))))), fun ds R h => ?_⟩
  · obtain ⟨ns, rfl, _⟩ := h
    rfl
  · obtain ⟨ns, rfl, hR⟩ := h
    dsimp only [cxOf, Cx.nox, Cx.wish]
    show Ho K _ [.val (.scr ns), .un, .un, .un, .un, .un, .un, .un, .un, .un, .un] _ _ _ _
    refine ho_seq (ho_set (ev_call (ea_cons (ev_var rfl (ea_cons (ev_int (ea_cons (ev_int (ea_nil ?_)))))))))
    refine ⟨ns, 0, 37, rfl, by decide, by decide, fun dr hdl hdb => ?_⟩
    refine ho_seq (ho_set (ev_op (ev_tup (ea_cons (ev_int (ea_cons (ev_int (ea_cons (ev_int (ea_cons (ev_int (ea_nil (lit4 (ev_op (ev_cb (ea_cons (ev_op (ev_var rfl (ev_int ?_)))))))))))))))))))
    refine rv_ixL (atI_map (j := 34) rfl (getD_of 0 (by omega))) ?_
    refine ea_nil (rc_int (ev_int (rv_modC (gMod (by decide) ?_))))
    obtain ⟨k, hk⟩ := Int.eq_ofNat_of_zero_le (Int.emod_nonneg (dr.getD 34 0) (b := 4) (by omega))
    have hk4 : k < ([1, 2, 3, 5] : List Nat).length := by show k < 4; omega
    refine rv_ixT (l := ([1, 2, 3, 5] : List Nat).map fun n => .int (n : Nat)) (atI_map (j := k) hk (getD_of 0 hk4)) ?_
    have hm : 1 ≤ ([1, 2, 3, 5] : List Nat).getD k 0 ∧ ([1, 2, 3, 5] : List Nat).getD k 0 ≤ 5 := by
      have : k = 0 ∨ k = 1 ∨ k = 2 ∨ k = 3 := by
        have : k < 4 := hk4
        omega
      rcases this with rfl | rfl | rfl | rfl <;> decide
    generalize ([1, 2, 3, 5] : List Nat).getD k 0 = most at hm ⊢
    refine ho_seq (ho_set (ev_op (ev_cb (ea_cons (ev_op (ev_var rfl (ev_int ?_)))))))
    refine rv_ixL (atI_map (j := 35) rfl (getD_of 0 (by omega))) ?_
    refine ea_nil (rc_int (ev_int (rv_modC (gMod (by decide) (ho_seq ?_)))))
    generalize dr.getD 35 0 % 4 = how
    refine ho_if2 (Pb := fun _ => True) ?_ (fun _ => ?_) fun _ => ?_
    · refine et_test (ev_op (ev_var rfl (ev_int (rv_eqI ⟨_, rfl, ?_⟩))))
      trivial
    · refine ho_seq (ho_set (ev_call (ea_cons (ev_op (ev_lst (ea_cons (ev_int (ea_nil (lit1 (ev_slL (ev_var rfl (eo_some (ev_int ⟨_, rfl, (eo_some (ev_int ⟨_, rfl, ⟨_, rfl, (rv_catL ?_)⟩⟩))⟩)))))))))))))
      rw [cut_span (n := 1) (m := 34) (by simp; omega) |> fun h => (h : cutD (dr.map Da.int) (some 1) (some 34) = _)]
      refine ⟨by simp; omega, ?_⟩
      refine ea_cons (ev_var rfl (ea_cons (ev_bl (ea_nil ?_))))
      refine ⟨2 :: (dr.take 34).drop 1, most, by simp [dR], hm.1, hm.2, by simp; omega, fun shs hs hs3 => ?_⟩
      have h3 : shs.length = 3 := hs3 rfl
      refine ho_seq (ho_set (ev_call (ea_cons (ev_var rfl (ea_cons (ev_int (ea_cons (ev_int (ea_nil ?_)))))))))
      refine ⟨ns, 1, 111, rfl, by decide, by decide, fun dr2 hdl2 hdb2 => ?_⟩
      refine ho_ret (ev_tup (ea_cons (ev_var rfl (ea_cons (ev_slL (ev_call (ea_cons (ev_call (ea_cons (ev_var rfl (ea_cons (ev_int (ea_cons (ev_var rfl (ea_nil ?_)))))))))))))))
      refine ⟨dr2, shs, rfl, hs, h3, by omega, fun rows hrl hro => ?_⟩
      refine ea_cons (ev_var rfl (ea_cons (ev_int (ea_nil ?_))))
      refine ⟨rows, dr2, 105, rfl, by omega, by omega, fun rows' hl' hm' => ?_⟩
      refine eo_none (eo_some (ev_int ⟨_, rfl, ⟨_, rfl, (ea_cons (ev_lst (ea_nil (lit0 (ea_nil (lit3 ?_))))))⟩⟩))
      rw [cut_to (n := 4) |> fun h => (h : cutD (rows'.map rowD) none (some 4) = _), ← List.map_take]
      exact hR shs _ [] hs ⟨by rw [List.length_take]; omega, fun r hr => hro.ok r (hm' r (List.mem_of_mem_take hr))⟩ (.inl rfl)
    · refine ho_nil (ho_seq (ho_set (ev_call (ea_cons (ev_var rfl (ea_cons (ev_var rfl (ea_cons (ev_bl (ea_nil ?_))))))))))
      refine ⟨dr, most, rfl, hm.1, hm.2, by omega, fun shs hs _ => ?_⟩
      refine ho_seq ?_
      refine ho_set (ev_lst ?_)
      refine ea_nil (lit0 (ho_seq ?_))
      refine ho_if ?_
      refine et_test (ev_op (ev_var rfl (ev_int (rv_eqI ⟨_, rfl, ?_⟩))))
      refine and_mid (fun G => ∃ wons : List (List (List Int)), G = [.val (.scr ns), .val (dR dr), .val (.int (most : Nat)), .val (.int how), .val (shapesD shs), .val (wonsD wons), .un, .un, .un, .un, .un] ∧ (wons = [] ∨ WonsOk shs wons)) ⟨fun _ => ?_, fun _ => ?_⟩ ?_
      · refine ho_set (ev_call (ea_cons (ev_call (ea_cons (ev_var rfl (ea_cons (ev_int (ea_cons (ev_int (ea_nil ?_))))))))))
        refine ⟨ns, 3, 48, rfl, by decide, by decide, fun dr2 hdl2 hdb2 => ?_⟩
        refine ea_cons (ev_int (ea_cons (ev_var rfl (ea_nil ?_))))
        refine ⟨dr2, 0, shs, rfl, hs, by omega, fun wons hw => ?_⟩
        exact ⟨wons, rfl, .inr hw⟩
      · refine ho_nil ?_
        exact ⟨[], rfl, .inl rfl⟩
      · rintro G ⟨wons, rfl, hw⟩
        refine ho_seq (ho_set (ev_call (ea_cons (ev_call (ea_cons (ev_var rfl (ea_cons (ev_int (ea_cons (ev_int (ea_nil ?_)))))))))))
        refine ⟨ns, 1, 68, rfl, by decide, by decide, fun dr2 hdl2 hdb2 => ?_⟩
        refine ea_cons (ev_int (ea_cons (ev_var rfl (ea_cons (ev_int (ea_cons (ev_var rfl (ea_nil ?_))))))))
        refine ⟨dr2, 0, 4, shs, wons, rfl, hs, hw, by decide, by omega, fun rows hrl hro hrd => ?_⟩
        refine ho_seq ?_
        refine ho_set ?_
        refine ev_slL (ev_op (ev_var rfl (ev_call (ea_cons (ev_call (ea_cons (ev_var rfl (ea_cons (ev_int (ea_cons (ev_int (ea_nil ?_))))))))))))
        refine ⟨ns, 2, 34, rfl, by decide, by decide, fun dr3 hdl3 hdb3 => ?_⟩
        refine ea_cons (ev_int (ea_cons (ev_var rfl (ea_cons (ev_int (ea_cons (ev_var rfl (ea_nil ?_))))))))
        refine ⟨dr3, 0, 2, shs, wons, rfl, hs, hw, by decide, by omega, fun rows2 hrl2 hro2 hrd2 => ?_⟩
        refine rv_catL ?_
        refine ⟨by simp; omega, ?_⟩
        refine eo_none (eo_some (ev_op (ev_cb (ea_cons (ev_op (ev_var rfl (ev_int ?_)))))))
        refine rv_ixL (atI_map (j := 36) rfl (getD_of 0 (by omega))) ?_
        refine ea_nil (rc_int (ev_int (rv_modC (gMod (by decide) ⟨_, rfl, ⟨_, rfl, (ho_seq ?_)⟩⟩))))
        obtain ⟨q, hq⟩ := Int.eq_ofNat_of_zero_le (Int.emod_nonneg (dr.getD 36 0) (b := 7) (by omega))
        rw [hq]
        skip
        rw [cut_to, ← List.map_append, ← List.map_take]
        have hro3 : ∀ r ∈ (rows ++ rows2).take q, PartsOk shs r.parts := fun r hr => by
          rcases List.mem_append.mp (List.mem_of_mem_take hr) with y | y
          · exact hro.ok r y
          · exact hro2.ok r y
        have hrd3 : wons ≠ [] → Decided wons ((rows ++ rows2).take q) := fun hne r hr => by
          rcases List.mem_append.mp (List.mem_of_mem_take hr) with y | y
          · exact hrd hne r y
          · exact hrd2 hne r y
        have hrl3 : ((rows ++ rows2).take q).length ≤ 6 := by
          rw [List.length_take, List.length_append]
          omega
        generalize (rows ++ rows2).take q = rws at hro3 hrd3 hrl3 ⊢
        refine ho_own (en_lst ?_)
        refine ea_nil (lit0 (ho_seq (ho_set (ev_int (ho_seq (ho_for (ei_list (ev_var rfl ⟨_, rfl, ?_⟩))))))))
        refine ⟨fun i G => ∃ (kept : List Row) (c : Int) (s9 : SD), G = [.val (.scr ns), .val (dR dr), .val (.int (most : Nat)), .val (.int how), .val (shapesD shs), .val (wonsD wons), .val (rowsD rws), .own (kept.map rowD), .val (.int c), s9, .un] ∧ kept.length ≤ i ∧ ∀ r ∈ kept, r ∈ rws,
          ⟨[], 0, _, rfl, Nat.zero_le _, fun r h => (nomatch h)⟩, ?_, ?_⟩
        · rintro i d G e ⟨kept, c, s9, rfl, hkl, hkm⟩
          obtain ⟨r, hr, rfl⟩ := map_inv e
          have hi := get_lt hr
          refine gn_name trivial ?_
          refine ho_if2 (Pb := fun _ => True) ?_ (fun _ => ?_) fun _ => ?_
          · refine et_or (et_not (et_B (ev_call (ea_cons (ev_var rfl (ea_nil ?_))))))
            refine ⟨r, rfl, ?_⟩
            refine ⟨_, rfl, ?_⟩
            refine ⟨fun _ => trivial, fun _ => ?_⟩
            refine et_test (ev_op (ev_var rfl (ev_int (rv_lt ⟨_, rfl, ?_⟩))))
            trivial
          · refine ho_seq (ho_app rfl (ev_var rfl ?_))
            refine ⟨by rw [List.length_map]; omega, ?_⟩
            refine ho_set (ev_op (ev_var rfl (ev_cb (ea_cons (ev_call (ea_cons (ev_var rfl (ea_nil ?_))))))))
            refine ⟨r, rfl, ?_⟩
            refine ea_nil (rc_intB (rv_add ?_))
            refine ⟨kept ++ [r], _, _, by rw [List.map_append]; rfl, by simp; omega, fun x hx => ?_⟩
            rcases List.mem_append.mp hx with y | y
            · exact hkm x y
            · rw [List.mem_singleton.mp y]
              exact List.mem_of_getElem? hr
          · refine ho_nil ?_
            exact ⟨kept, c, _, rfl, by omega, hkm⟩
        · rintro G ⟨kept, c, s9, rfl, hkl, hkm⟩
          rw [List.length_map] at hkl
          refine ho_frz 7 rfl ?_
          refine ho_ret (ev_tup (ea_cons (ev_var rfl (ea_cons (ev_var rfl (ea_cons (ev_var rfl (ea_nil (lit3 ?_)))))))))
          refine hR shs kept wons hs ⟨by omega, fun r hr => hro3 r (hkm r hr)⟩ ?_
          rcases hw with rfl | hw
          · exact .inl rfl
          · refine .inr ⟨hw, fun r hr => hrd3 (fun z => ?_) r (hkm r hr)⟩
            have h1 := hw.len
            have h2 := hs.lo
            rw [z] at h1
            simp at h1
            omega
end
end Sc
/-! D13: methods. -/
namespace Sc
open PySem L2
section
variable {P : Program} {w : World} {K : PySem.W.Frag} {mg : Str → Option Value} {base : Heap} {C : CA}
theorem choice_eq {rows : List Row} : ((rows.zipIdx.filter fun q => (fun (_ : Nat) (r : Row) => isCh r) q.2 q.1).map fun q => (fun (i : Nat) (_ : Row) => Da.int (i : Nat)) q.2 q.1) = (choices rows).map fun (i : Nat) => Da.int (i : Int) := by
  have e : rows.zipIdx = (List.range rows.length).attach.map fun i => (rows[i.1]'(List.mem_range.mp i.2), i.1) := by
    apply List.ext_getElem?
    intro j
    rw [List.getElem?_zipIdx, List.getElem?_map]
    by_cases h : j < rows.length
    · rw [List.getElem?_eq_getElem h, List.getElem?_eq_getElem (by simpa using h)]
      simp
    · rw [List.getElem?_eq_none (by omega), List.getElem?_eq_none (by simp; omega)]
      rfl
  have e2 : (rows.zipIdx.filter fun q => isCh q.1).map (fun q => Da.int ((q.2 : Nat) : Int)) = ((List.range rows.length).filter fun n => (rows[n]?.map isCh).getD false).map fun (i : Nat) => Da.int (i : Int) := by
    have e3 : ∀ (l : List Row) (k : Nat), (l.zipIdx k).map (fun q => (q.2, isCh q.1)) = (List.range l.length).map fun j => (j + k, (l[j]?.map isCh).getD false) := by
      intro l
      induction l with
      | nil => intro k; rfl
      | cons x l ih =>
        intro k
        rw [List.zipIdx_cons, List.map_cons, ih, List.length_cons, List.range_succ_eq_map, List.map_cons, List.map_map]
        congr 1
        · simp
        · apply List.map_congr_left
          intro j _
          simp
          omega
    have e4 := e3 rows 0
    have e5 : (rows.zipIdx.filter fun q => isCh q.1).map (fun q => Da.int ((q.2 : Nat) : Int)) = ((rows.zipIdx.map fun q => (q.2, isCh q.1)).filter fun q => q.2).map fun q => Da.int ((q.1 : Nat) : Int) := by
      rw [List.filter_map, List.map_map]
      rfl
    rw [e5, e4, List.filter_map, List.map_map]
    rfl
  exact e2
-- require_yes_no
abbrev s_require_yes_no : Stmt := top 17
abbrev sc_require_yes_no_N : List Str := ["book"]
theorem sc_require_yes_no : FnScope sc_require_yes_no_N ["book"] (defScope s_require_yes_no) := ⟨rfl, rfl, rfl, by decide +kernel, rfl, by decide +kernel, by decide +kernel⟩
-- uses: 
-- slots: 0=book

theorem has_require_yes_no (F : FunAt K mg "require_yes_no" s_require_yes_no) (T : Tx mg) (O : OFx K C)  : Has P w K mg base "require_yes_no" 1 ["book"] (spD K (W_require_yes_no C)) := by
  refine hasD F sc_require_yes_no (fun ds R h => ?_) (fun _ _ _ _ _ _ us hl => match us, hl with | [_], _ => rfl) fun f cdv A outer s H E hr => ⟨_, (pss_one (ps_if (pt_cmpR op_ne (pe_fld (pv 0) rfl) pe_int (nomark _)) (pss_one ps_never) pss_nil)), fun ds R h => ?_⟩
  · obtain ⟨j, rfl, _⟩ := h
    rfl
  · obtain ⟨j, rfl, hR⟩ := h
    dsimp only [cxOf, Cx.nox, Cx.wish]
    show Ho K _ [.val (jD C j)] _ _ _ _
    refine ho_if (et_test (ev_op (ev_fld (ev_var rfl (gFld rfl (OFx.j O) (OFx.j_top O) rfl (ev_int (rv_neI ⟨_, rfl, ?_⟩)))))))
    refine ⟨fun hb => (nomatch (show false = true from hb)), fun _ => ?_⟩
    refine ho_nil ?_
    exact hR
-- Rulings.choice_rows
abbrev s_Rulings_choice_rows : Stmt := inClass (top 31) 3
abbrev sc_Rulings_choice_rows_N : List Str := ["self", "n", "_", "mode", "grade"]
theorem sc_Rulings_choice_rows : FnScope sc_Rulings_choice_rows_N ["self"] (defScope s_Rulings_choice_rows) := ⟨rfl, rfl, rfl, by decide +kernel, rfl, by decide +kernel, by decide +kernel⟩
-- uses: g:enumerate g:tuple
-- slots: 0=self 1=n 2=_ 3=mode 4=grade

theorem has_Rulings_choice_rows (F : MethAt K C.cRulings "choice_rows" "Rulings.choice_rows" s_Rulings_choice_rows) (T : Tx mg) (O : OFx K C)  : HasM P w K mg base C.cRulings "choice_rows" 1 ["self"] (spD K (W_Rulings_choice_rows C)) := by
  refine hasM F sc_Rulings_choice_rows (fun ds R h => ?_) (fun _ _ _ _ _ _ us hl => match us, hl with | [_], _ => rfl) fun f cdv A outer s H E hr => ⟨_, (pss_one (ps_ret (pe_callTy call_tuple_of (by rfl) T.tuple (by decide +kernel) (pa_cons (pe_lc (own := [("n", 1), ("_", 2), ("mode", 3), ("grade", 4)]) (g := (gTup K 2 (gCons (gName 1) (gCons (gTup K 3 (gCons (gName 2) (gCons (gName 3) (gCons (gName 4) gNil)))) gNil)))) (tt := (tTest (tOp rEq (tOp rEq (tVar 3) (tC (.str "all"))) (tOp rEq (tVar 4) (tC (.int 0)))))) (te := (tVar 1)) rfl sc_Rulings_choice_rows.nd (pi_enumK false (by rfl) T.enumerate (pa_cons (pe_fld (pv 0) rfl) pa_nil)) (blkOk_by (N := sc_Rulings_choice_rows_N) (sc := defScope s_Rulings_choice_rows) (by decide +kernel)) (fun _ _ _ _ _ => (pg_tup rfl (pgs_cons (pg_name (i := 1) sc_Rulings_choice_rows.nd rfl (by first | exact .inl rfl | exact .inr rfl)) (pgs_cons (pg_tup rfl (pgs_cons (pg_name (i := 2) sc_Rulings_choice_rows.nd rfl (by first | exact .inl rfl | exact .inr rfl)) (pgs_cons (pg_name (i := 3) sc_Rulings_choice_rows.nd rfl (by first | exact .inl rfl | exact .inr rfl)) (pgs_cons (pg_name (i := 4) sc_Rulings_choice_rows.nd rfl (by first | exact .inl rfl | exact .inr rfl)) pgs_nil)))) pgs_nil)))) (fun _ _ _ _ _ => (pts_one (pt_cmpR op_eq (pe_cmpR op_eq (pv 3) pe_str (nomark _)) (pe_cmpR op_eq (pv 4) pe_int (nomark _)) (nomark _)))) (fun _ _ _ _ _ => (pv 1))) pa_nil)))), fun ds R h => ?_⟩
  · obtain ⟨shs, rows, rfl, _⟩ := h
    rfl
  · obtain ⟨shs, rows, rfl, hn, hR⟩ := h
    dsimp only [cxOf, Cx.nox, Cx.wish]
    show Ho K _ [.val (rD C shs rows), .un, .un, .un, .un] _ _ _ _
    refine ho_ret (ev_cb (ea_cons (ev_lc (ei_enT (ea_cons (ev_fld (ev_var rfl (gFld rfl (OFx.r O) (OFx.r_rows O) rfl (ea_nil ⟨_, rfl, ?_⟩)))))))))
    refine lc_filter (l := rows) (E := fun i r => .tup [.int (i : Nat), rowD r]) (p := fun _ r => isCh r) (h := fun i _ => .int (i : Nat)) (fun i d e => enumD_inv e) (by simp [enumD_length]) (by omega) (fun i a ha => ?_) ?_
    · refine gn_tup rfl (gns_cons (gn_name (by decide) (gns_cons (gn_tup rfl (gns_cons (gn_name (by decide) (gns_cons (gn_name (by decide) (gns_cons (gn_name (by decide) (gns_nil (gns_nil (et_test (ev_op (ev_op (ev_var rfl (ev_str (rv_eqS (ev_op (ev_var rfl (ev_int (rv_eqI (rv_eqB ⟨_, rfl, ?_⟩)))))))))))))))))))))))
      refine ⟨?_, fun _ => ?_⟩
      · unfold isCh modeS gI
        cases a.all <;> cases a.won <;> decide
      · exact ev_var rfl (rfl)
    · refine ea_nil (rc_tupL ?_)
      rw [choice_eq]
      exact hR
end
end Sc
/-! D14: methods of forums and suits. -/
namespace Sc
open PySem L2
section
variable {P : Program} {w : World} {K : PySem.W.Frag} {mg : Str → Option Value} {base : Heap} {C : CA}
-- Forum.__contains__
abbrev s_Forum__contains_ : Stmt := inClass (top 26) 4
abbrev sc_Forum__contains__N : List Str := ["self", "case"]
theorem sc_Forum__contains_ : FnScope sc_Forum__contains__N ["self", "case"] (defScope s_Forum__contains_) := ⟨rfl, rfl, rfl, by decide +kernel, rfl, by decide +kernel, by decide +kernel⟩
-- uses: 
-- slots: 0=self 1=case

theorem has_Forum_contains (F : MethAt K C.cForum "__contains__" "Forum.__contains__" s_Forum__contains_) (T : Tx mg) (O : OFx K C)  : HasM P w K mg base C.cForum "__contains__" 1 ["self", "case"] (spD K (W_Forum_contains C)) := by
  refine hasM F sc_Forum__contains_ (fun ds R h => ?_) (fun _ _ _ _ _ _ us hl => match us, hl with | [_, _], _ => rfl) fun f cdv A outer s H E hr => ⟨_, (pss_one (ps_ret (pe_cmp (pc_din (hu_of hr) (pv 1) (pe_fld (pv 0) rfl))))), fun ds R h => ?_⟩
  · obtain ⟨s, c, rfl, _⟩ := h
    rfl
  · obtain ⟨s, c, rfl, hs, hc, hR⟩ := h
    dsimp only [cxOf, Cx.nox, Cx.wish]
    show Ho K _ [.val (fD C s), .val (ci c)] _ _ _ _
    refine ho_ret (ev_dIn (ev_var rfl (ev_fld (ev_var rfl (gFld rfl (OFx.f O) (OFx.f_numbers O) rfl ?_)))))
    refine ⟨c, _, rfl, rfl, ?_⟩
    have hm : c ∈ casesOf (lims s) := (mem_casesOf fun l hl => by have := hs.lim.nn l hl; omega).mpr hc
    obtain ⟨i, hi, rfl⟩ := List.mem_iff_getElem.mp hm
    have : (((casesOf (lims s)).zipIdx.map fun p => (p.1, (p.2 : Int))).any fun p => decide (p.1 = (casesOf (lims s))[i])) = true := by
      rw [List.any_eq_true]
      exact ⟨((casesOf (lims s))[i], (i : Int)), List.mem_map.mpr ⟨((casesOf (lims s))[i], i), List.mem_zipIdx_iff_getElem?.mpr (List.getElem?_eq_getElem hi), rfl⟩, decide_eq_true rfl⟩
    rw [this]
    exact hR
-- Forum.text
abbrev s_Forum_text : Stmt := inClass (top 26) 5
abbrev sc_Forum_text_N : List Str := ["self", "top"]
theorem sc_Forum_text : FnScope sc_Forum_text_N ["self"] (defScope s_Forum_text) := ⟨rfl, rfl, rfl, by decide +kernel, rfl, by decide +kernel, by decide +kernel⟩
-- uses: g:str
-- slots: 0=self 1=top

theorem has_Forum_text (F : PropAt K C.cForum "text" "Forum.text" s_Forum_text) (T : Tx mg) (O : OFx K C)  : HasP P w K mg base C.cForum "text" 1 (spD K (W_Forum_text C)) := by
  refine hasP F sc_Forum_text (fun ds R h => ?_) (fun _ _ _ _ _ _ us hl => match us, hl with | [_], _ => rfl) fun f cdv A outer s H E hr => ⟨_, (pss_one (ps_ret (pe_op op_add_str (pe_op op_add_str (pe_op op_add_str (pe_op op_add_str (pe_fld (pv 0) rfl) pe_str) (pe_fld (pv 0) rfl)) pe_str) (pe_join pe_str (pe_lc (own := [("top", 1)]) (g := (gName 1)) (tt := tYes) (te := (tCB StrT (tCons (tVar 1) tNil))) rfl sc_Forum_text.nd (pi_tup (pe_fld (pv 0) rfl)) (blkOk_by (N := sc_Forum_text_N) (sc := defScope s_Forum_text) (by decide +kernel)) (fun _ _ _ _ _ => (pg_name (i := 1) sc_Forum_text.nd rfl (by first | exact .inl rfl | exact .inr rfl))) (fun _ _ _ _ _ => pts_nil) (fun _ _ _ _ _ => (pe_callTy call_str_int (by rfl) T.str (by decide +kernel) (pa_cons (pv 1) pa_nil)))))))), fun ds R h => ?_⟩
  · obtain ⟨s, rfl, _⟩ := h
    rfl
  · obtain ⟨s, rfl, hs, hR⟩ := h
    dsimp only [cxOf, Cx.nox, Cx.wish]
    show Ho K _ [.val (fD C s), .un] _ _ _ _
    have hl := hs.len
    refine ho_ret (ev_op (ev_op (ev_op (ev_op (ev_fld (ev_var rfl (gFld rfl (OFx.f O) (OFx.f_pro O) rfl (ev_str (rv_addT ?_)))))))))
    refine ⟨by show s.pro.length + 1 ≤ 100000; omega, ?_⟩
    refine ev_fld (ev_var rfl (gFld rfl (OFx.f O) (OFx.f_con O) rfl (rv_addT ?_)))
    have l1 : (s.pro ++ ("/" : Str)).length = s.pro.length + 1 := by
      show (s.pro.cps ++ ("/" : Str).cps).size = _
      rw [Array.size_append]
      rfl
    have l2 : (s.pro ++ ("/" : Str) ++ s.con).length = s.pro.length + 1 + s.con.length := by
      show ((s.pro ++ ("/" : Str)).cps ++ s.con.cps).size = _
      rw [Array.size_append]
      show (s.pro ++ ("/" : Str)).length + _ = _
      rw [l1]
      rfl
    have l3 : (s.pro ++ ("/" : Str) ++ s.con ++ ("/" : Str)).length = s.pro.length + 1 + s.con.length + 1 := by
      show ((s.pro ++ ("/" : Str) ++ s.con).cps ++ ("/" : Str).cps).size = _
      rw [Array.size_append]
      show (s.pro ++ ("/" : Str) ++ s.con).length + _ = _
      rw [l2]
      rfl
    refine ⟨by omega, ?_⟩
    refine ev_str (rv_addT ?_)
    refine ⟨by show _ + 1 ≤ 100000; omega, ?_⟩
    refine ev_join (ev_str ⟨_, rfl, (ev_lc (ei_tup (ev_fld (ev_var rfl (gFld rfl (OFx.f O) (OFx.f_tops O) rfl ⟨_, rfl, ?_⟩)))))⟩)
    refine lc_list (h := fun t => .str ((toString t : String) : Str)) (by omega) (fun i t ht => ?_) ?_
    · have := hs.top t (List.mem_of_getElem? ht)
      refine gn_name (by decide) (ev_cb (ea_cons (ev_var rfl (ea_nil ?_))))
      refine rc_str ?_ ?_
      · have : t = 1 ∨ t = 2 ∨ t = 3 := by omega
        rcases this with rfl | rfl | rfl <;> decide
      · rfl
    · refine ⟨s.tops.map fun t => ((toString t : String) : Str), by rw [List.map_map]; rfl, ?_, ?_⟩
      · have e0 : ∀ l : List Int, (∀ t ∈ l, 1 ≤ t ∧ t ≤ 3) → ((l.map fun t => ((toString t : String) : Str)).map fun x => x.length).sum = l.length := by
          intro l
          induction l with
          | nil => intro _; rfl
          | cons t l ih =>
            intro hl
            have ht := hl t (by simp)
            have : ((toString t : String) : Str).length = 1 := by
              have : t = 1 ∨ t = 2 ∨ t = 3 := by omega
              rcases this with rfl | rfl | rfl <;> decide
            rw [List.map_cons, List.map_cons, List.sum_cons, this, ih fun x hx => hl x (by simp [hx])]
            rw [List.length_cons]
            omega
        rw [e0 _ hs.top, show ("" : Str).length = 0 from rfl, Nat.mul_zero]
        omega
      · have hj : (Txt.join ("" : Str) (s.tops.map fun t => ((toString t : String) : Str))).length = s.tops.length := by
          have := PySem.W.KT.join_ones (s.tops.map fun t => ((toString t : String) : Str)) fun a ha => by
            obtain ⟨t, ht, rfl⟩ := List.mem_map.mp ha
            have := hs.top t ht
            have : t = 1 ∨ t = 2 ∨ t = 3 := by omega
            rcases this with rfl | rfl | rfl <;> decide
          rw [List.length_map] at this
          exact this
        refine rv_addT ?_
        refine ⟨by omega, ?_⟩
        exact hR
-- Suit.__init__
abbrev s_Suit__init_ : Stmt := inClass (top 30) 0
abbrev sc_Suit__init__N : List Str := ["self", "forums"]
theorem sc_Suit__init_ : FnScope sc_Suit__init__N ["self", "forums"] (defScope s_Suit__init_) := ⟨rfl, rfl, rfl, by decide +kernel, rfl, by decide +kernel, by decide +kernel⟩
-- uses: g:len g:MOST_ISSUES g:tuple
-- slots: 0=self 1=forums

theorem has_Suit_init (F : InitAt K mg "Suit" C.cSuit "Suit.__init__" s_Suit__init_ ["self", "forums"]) (T : Tx mg) (O : OFx K C)  : HasC P w K mg base "Suit" C.cSuit 1 ["self", "forums"] (spI K C.cSuit (W_Suit_init C)) := by
  refine hasC F sc_Suit__init_ (fun fs ds R h => ?_) fun f cdv A outer s H E hr => ⟨_, (pss_cons (ps_if (pt_not (pt_chain op_le op_le pe_int (pe_callB call_len_seq (by rfl) T.len (by decide +kernel) (pa_cons (pv 1) pa_nil)) (pe_globE (v := MOST_ISSUES_v) rfl T.MOST_ISSUES))) (pss_one ps_never) pss_nil)
      (pss_one (ps_fld (pv 0) (pe_callTy call_tuple_of (by rfl) T.tuple (by decide +kernel) (pa_cons (pv 1) pa_nil)) rfl))), fun self fs ds R h => ?_⟩
  · obtain ⟨shs, rfl, rfl, _⟩ := h
    rfl
  · obtain ⟨shs, rfl, rfl, hs, hR⟩ := h
    dsimp only [cxOf, Cx.nox, Cx.wish]
    show Ho K _ [.ino self C.cSuit [], .val (.lst (shs.map (fD C)))] _ _ _ _
    have h1 := hs.lo
    have h3 := hs.hi
    refine ho_seq (ho_if (et_not (et_test (ev_chain (ev_int (ev_cb (ea_cons (ev_var rfl (ea_nil (rc_lenL (rv_le ⟨_, rfl, ?_⟩)))))))))))
    rw [List.length_map]
    refine and_t (decide_eq_true (by omega)) ?_
    refine ev_int (rv_le ⟨_, rfl, ?_⟩)
    refine and_f (by rw [decide_eq_true (by omega)]; rfl) ?_
    refine ho_nil ?_
    refine ho_fld rfl O.s O.s_forums (by decide) ?_
    refine ev_cb (ea_cons (ev_var rfl (ea_nil (rc_tupL ⟨_, rfl, ?_⟩))))
    exact hR
-- Suit.__contains__
abbrev s_Suit__contains_ : Stmt := inClass (top 30) 1
abbrev sc_Suit__contains__N : List Str := ["self", "parts", "part", "forum"]
theorem sc_Suit__contains_ : FnScope sc_Suit__contains__N ["self", "parts"] (defScope s_Suit__contains_) := ⟨rfl, rfl, rfl, by decide +kernel, rfl, by decide +kernel, by decide +kernel⟩
-- uses: g:len g:zip Forum.__contains__ g:any
-- slots: 0=self 1=parts 2=part 3=forum

theorem has_Suit_contains (F : MethAt K C.cSuit "__contains__" "Suit.__contains__" s_Suit__contains_) (T : Tx mg) (O : OFx K C) (h_Forum_contains : HasM P w K mg base C.cForum "__contains__" 1 ["self", "case"] (spD K (W_Forum_contains C))) : HasM P w K mg base C.cSuit "__contains__" 2 ["self", "parts"] (spD K (W_Suit_contains C)) := by
  refine hasM F sc_Suit__contains_ (fun ds R h => ?_) (fun _ _ _ _ _ _ us hl => match us, hl with | [_, _], _ => rfl) fun f cdv A outer s H E hr => ⟨_, (pss_cons (ps_if (pt_cmpR op_ne (pe_callB call_len_seq (by rfl) T.len (by decide +kernel) (pa_cons (pv 1) pa_nil)) (pe_callB call_len_seq (by rfl) T.len (by decide +kernel) (pa_cons (pe_fld (pv 0) rfl) pa_nil)) (nomark _)) (pss_one (ps_ret pe_bl)) pss_nil)
      (pss_cons (ps_for PassesOwn.never rfl (pi_zipK false false (by rfl) T.zip (pa_cons (pv 1) (pa_cons (pe_fld (pv 0) rfl) pa_nil))) (pg_tup rfl (pgs_cons (pg_name (i := 2) sc_Suit__contains_.nd rfl (by first | exact .inl rfl | exact .inr rfl)) (pgs_cons (pg_name (i := 3) sc_Suit__contains_.nd rfl (by first | exact .inl rfl | exact .inr rfl)) pgs_nil))) (pss_one (ps_if (PW.pt (pw_and (pt_cmp (pc_notN (pv 2))) (pw_and1 (pt_cmp (pc_ownN h_Forum_contains (hr.mono (by decide)) (pv 2) (pv 3)))))) (pss_one (ps_ret pe_bl)) pss_nil)))
      (pss_one (ps_ret (pe_callB (cr_any rfl) (by rfl) T.any (by decide +kernel) (pa_cons (pe_lc (own := [("part", 2)]) (g := (gName 2)) (tt := tYes) (te := (tNotN (tVar 2))) rfl sc_Suit__contains_.nd (pi_tup (pv 1)) (blkOk_by (N := sc_Suit__contains__N) (sc := defScope s_Suit__contains_) (by decide +kernel)) (fun _ _ _ _ _ => (pg_name (i := 2) sc_Suit__contains_.nd rfl (by first | exact .inl rfl | exact .inr rfl))) (fun _ _ _ _ _ => pts_nil) (fun _ _ _ _ _ => (pe_cmp (pc_notN (pv 2))))) pa_nil)))))), fun ds R h => ?_⟩
  · obtain ⟨shs, ps, rfl, _⟩ := h
    rfl
  · obtain ⟨shs, ps, rfl, hs, hp, hR⟩ := h
    dsimp only [cxOf, Cx.nox, Cx.wish]
    show Ho K _ [.val (sD C shs), .val (partsD ps), .un, .un] _ _ _ _
    have h3 := hs.hi
    have hpl := hp.len
    refine ho_seq (ho_if (et_test (ev_op (ev_cb (ea_cons (ev_var rfl (ea_nil (rc_lenT (ev_cb (ea_cons (ev_fld (ev_var rfl (gFld rfl (OFx.s O) (OFx.s_forums O) rfl (ea_nil (rc_lenT (rv_neI ⟨_, rfl, ?_⟩))))))))))))))))
    refine and_f (by rw [List.length_map, List.length_map, decide_eq_true (by omega)]; rfl) ?_
    refine ho_nil (ho_seq (ho_for (ei_zTT (ea_cons (ev_var rfl (ea_cons (ev_fld (ev_var rfl (gFld rfl (OFx.s O) (OFx.s_forums O) rfl (ea_nil ⟨_, _, rfl, ?_⟩))))))))))
    refine ⟨fun i G => ∃ s2 s3, G = [.val (sD C shs), .val (partsD ps), s2, s3], ⟨_, _, rfl⟩, ?_, ?_⟩
    · rintro i d G e ⟨s2, s3, rfl⟩
      obtain ⟨p, s, hp1, hs1, rfl⟩ := zipD_inv e
      refine gn_tup rfl (gns_cons (gn_name trivial (gns_cons (gn_name trivial (gns_nil (ho_if (et_and (et_B (ev_notN (ev_var rfl ⟨_, rfl, ?_⟩))))))))))
      refine ⟨fun hb => ?_, fun _ => ?_⟩
      · obtain ⟨c, rfl⟩ : ∃ c, p = some c := by
          cases p with
          | none => exact absurd hb (by decide)
          | some c => exact ⟨c, rfl⟩
        refine et_B (ev_ownIn (ev_var rfl (ev_var rfl ⟨_, rfl, ?_⟩)))
        refine ⟨s, c, rfl, hs.ok s (List.mem_of_getElem? hs1), hp.ok i s c hs1 hp1, ?_⟩
        refine ⟨_, rfl, ⟨_, rfl, ?_⟩⟩
        refine and_f (by decide) ?_
        refine ho_nil ?_
        exact ⟨_, _, rfl⟩
      · refine ff_and (ho_nil ?_)
        exact ⟨_, _, rfl⟩
    · rintro G ⟨s2, s3, rfl⟩
      refine ho_ret (ev_cb (ea_cons (ev_lc (ei_tup (ev_var rfl ⟨_, rfl, ?_⟩)))))
      refine lc_list (h := fun p => .bl (Option.isSome p)) (by omega) (fun i p hp1 => ?_) ?_
      · refine gn_name (by decide) (ev_notN (ev_var rfl ?_))
        cases p <;> rfl
      · refine ea_nil ?_
        have e : (ps.map fun p => Da.bl (Option.isSome p)) = (ps.map Option.isSome).map .bl := by
          rw [List.map_map]
          rfl
        rw [e]
        refine rc_any ?_
        have : (ps.map Option.isSome).any id = true := by
          obtain ⟨i, c, hc⟩ := hp.some_
          rw [List.any_eq_true]
          exact ⟨true, List.mem_map.mpr ⟨some c, List.mem_of_getElem? hc, rfl⟩, rfl⟩
        rw [this]
        exact hR
-- Rulings.__init__
abbrev s_Rulings__init_ : Stmt := inClass (top 31) 0
abbrev sc_Rulings__init__N : List Str := ["self", "suit", "rows", "row", "parts", "mode", "grade"]
theorem sc_Rulings__init_ : FnScope sc_Rulings__init__N ["self", "suit", "rows"] (defScope s_Rulings__init_) := ⟨rfl, rfl, rfl, by decide +kernel, rfl, by decide +kernel, by decide +kernel⟩
-- uses: Suit.__contains__ g:len g:MOST_RULINGS g:tuple
-- slots: 0=self 1=suit 2=rows 3=row 4=parts 5=mode 6=grade

theorem has_Rulings_init (F : InitAt K mg "Rulings" C.cRulings "Rulings.__init__" s_Rulings__init_ ["self", "suit", "rows"]) (T : Tx mg) (O : OFx K C) (h_Suit_contains : HasM P w K mg base C.cSuit "__contains__" 2 ["self", "parts"] (spD K (W_Suit_contains C))) : HasC P w K mg base "Rulings" C.cRulings 3 ["self", "suit", "rows"] (spI K C.cRulings (W_Rulings_init C)) := by
  refine hasC F sc_Rulings__init_ (fun fs ds R h => ?_) fun f cdv A outer s H E hr => ⟨_, (pss_cons (ps_for PassesOwn.never rfl (pi_list (pv 2)) (pg_name (i := 3) sc_Rulings__init_.nd rfl (by first | exact .inl rfl | exact .inr rfl)) (pss_one (ps_if (pt_cmp (pc_ownN h_Suit_contains (hr.mono (by decide)) (pe_ix ix_tup (pv 3) pe_int (fun _ _ => rfl)) (pv 1))) (pss_one ps_never) pss_nil)))
      (pss_cons (ps_for PassesOwn.never rfl (pi_list (pv 2)) (pg_name (i := 3) sc_Rulings__init_.nd rfl (by first | exact .inl rfl | exact .inr rfl)) (pss_one (ps_if (pt_cmpR op_notIn_seq (pe_ix ix_tup (pv 3) pe_int (fun _ _ => rfl)) (pe_tup (pa_cons pe_int (pa_cons pe_int pa_nil))) (by first | exact nomark _ | rfl)) (pss_one ps_never) pss_nil)))
      (pss_cons (ps_if (pt_cmpR op_gt (pe_callB call_len_seq (by rfl) T.len (by decide +kernel) (pa_cons (pv 2) pa_nil)) (pe_globE (v := MOST_RULINGS_v) rfl T.MOST_RULINGS) (nomark _)) (pss_one ps_never) pss_nil)
      (pss_cons (ps_fld (pv 0) (pv 1) rfl)
      (pss_one (ps_fld (pv 0) (pe_callTy call_tuple_of (by rfl) T.tuple (by decide +kernel) (pa_cons (pe_lc (own := [("parts", 4), ("mode", 5), ("grade", 6)]) (g := (gTup K 3 (gCons (gName 4) (gCons (gName 5) (gCons (gName 6) gNil))))) (tt := tYes) (te := (tTup (tCons (tVar 4) (tCons (tVar 5) (tCons (tVar 6) tNil))))) rfl sc_Rulings__init_.nd (pi_list (pv 2)) (blkOk_by (N := sc_Rulings__init__N) (sc := defScope s_Rulings__init_) (by decide +kernel)) (fun _ _ _ _ _ => (pg_tup rfl (pgs_cons (pg_name (i := 4) sc_Rulings__init_.nd rfl (by first | exact .inl rfl | exact .inr rfl)) (pgs_cons (pg_name (i := 5) sc_Rulings__init_.nd rfl (by first | exact .inl rfl | exact .inr rfl)) (pgs_cons (pg_name (i := 6) sc_Rulings__init_.nd rfl (by first | exact .inl rfl | exact .inr rfl)) pgs_nil))))) (fun _ _ _ _ _ => pts_nil) (fun _ _ _ _ _ => (pe_tup (pa_cons (pv 4) (pa_cons (pv 5) (pa_cons (pv 6) pa_nil)))))) pa_nil)) rfl)))))), fun self fs ds R h => ?_⟩
  · obtain ⟨shs, rows, rfl, rfl, _⟩ := h
    rfl
  · obtain ⟨shs, rows, rfl, rfl, hs, hr, hR⟩ := h
    dsimp only [cxOf, Cx.nox, Cx.wish]
    show Ho K _ [.ino self C.cRulings [], .val (sD C shs), .val (rowsD rows), .un, .un, .un, .un] _ _ _ _
    have h6 := hr.len
    refine ho_seq (ho_for (ei_list (ev_var rfl ⟨_, rfl, ?_⟩)))
    refine ⟨fun i G => ∃ s3, G = [.ino self C.cRulings [], .val (sD C shs), .val (rowsD rows), s3, .un, .un, .un], ⟨_, rfl⟩, ?_, ?_⟩
    · rintro i d G e ⟨s3, rfl⟩
      obtain ⟨r, hd, rfl⟩ := map_inv e
      refine gn_name trivial (ho_if (et_B (ev_ownIn (ev_op (ev_var rfl (ev_int (rv_ixT rfl (ev_var rfl ⟨_, rfl, ?_⟩))))))))
      refine ⟨shs, r.parts, rfl, hs, hr.ok r (List.mem_of_getElem? hd), ?_⟩
      refine ⟨_, rfl, ⟨_, rfl, ?_⟩⟩
      refine and_f (by decide) ?_
      refine ho_nil ?_
      exact ⟨_, rfl⟩
    · rintro G ⟨s3, rfl⟩
      refine ho_seq (ho_for (ei_list (ev_var rfl ⟨_, rfl, ?_⟩)))
      refine ⟨fun i G => ∃ s3, G = [.ino self C.cRulings [], .val (sD C shs), .val (rowsD rows), s3, .un, .un, .un], ⟨_, rfl⟩, ?_, ?_⟩
      · rintro i d G e ⟨s3, rfl⟩
        obtain ⟨r, hd, rfl⟩ := map_inv e
        refine gn_name trivial (ho_if (et_test (ev_op (ev_op (ev_var rfl (ev_int (rv_ixT rfl (ev_tup (ea_cons (ev_int (ea_cons (ev_int (ea_nil (lit2 ?_))))))))))))))
        refine rv_in (v := .int (gI r.won)) (vs := [.int 0, .int 1]) (.inr rfl) rfl rfl ?_
        refine ⟨_, rfl, ?_⟩
        refine and_f (by cases r.won <;> decide) ?_
        refine ho_nil ?_
        exact ⟨_, rfl⟩
      · rintro G ⟨s3, rfl⟩
        refine ho_seq (ho_if (et_test (ev_op (ev_cb (ea_cons (ev_var rfl (ea_nil (rc_lenL (ev_int (rv_gt ⟨_, rfl, ?_⟩))))))))))
        rw [List.length_map]
        refine and_f (decide_eq_false (by omega)) ?_
        refine ho_nil (ho_seq ?_)
        refine ho_fld rfl O.r O.r_suit (by decide) ?_
        refine ev_var rfl ?_
        refine ho_fld rfl O.r O.r_rows (show 1 < 1000 by decide) ?_
        refine ev_cb (ea_cons (ev_lc (ei_list (ev_var rfl ⟨_, rfl, ?_⟩))))
        refine lc_list (h := rowD) (by omega) (fun i r hd => ?_) ?_
        · exact gn_tup rfl (gns_cons (gn_name (by decide) (gns_cons (gn_name (by decide) (gns_cons (gn_name (by decide) (gns_nil (ev_tup (ea_cons (ev_var rfl (ea_cons (ev_var rfl (ea_cons (ev_var rfl (ea_nil (lit3 (rfl)))))))))))))))))
        · refine ea_nil (rc_tupL ⟨_, rfl, ?_⟩)
          exact hR
-- no_picks
abbrev s_no_picks : Stmt := top 37
abbrev sc_no_picks_N : List Str := ["rulings"]
theorem sc_no_picks : FnScope sc_no_picks_N ["rulings"] (defScope s_no_picks) := ⟨rfl, rfl, rfl, by decide +kernel, rfl, by decide +kernel, by decide +kernel⟩
-- uses: g:len
-- slots: 0=rulings

theorem has_no_picks (F : FunAt K mg "no_picks" s_no_picks) (T : Tx mg) (O : OFx K C)  : Has P w K mg base "no_picks" 1 ["rulings"] (spD K (W_no_picks C)) := by
  refine hasD F sc_no_picks (fun ds R h => ?_) (fun _ _ _ _ _ _ us hl => match us, hl with | [_], _ => rfl) fun f cdv A outer s H E hr => ⟨_, (pss_one (ps_ret (pe_op op_repA (pe_tup (pa_cons pe_non pa_nil)) (pe_callB call_len_seq (by rfl) T.len (by decide +kernel) (pa_cons (pe_fld (pv 0) rfl) pa_nil))))), fun ds R h => ?_⟩
  · obtain ⟨shs, rows, rfl, _⟩ := h
    rfl
  · obtain ⟨shs, rows, rfl, hn, hR⟩ := h
    dsimp only [cxOf, Cx.nox, Cx.wish]
    show Ho K _ [.val (rD C shs rows)] _ _ _ _
    refine ho_ret (ev_op (ev_tup (ea_cons (ev_non (ea_nil (lit1 (ev_cb (ea_cons (ev_fld (ev_var rfl (gFld rfl (OFx.r O) (OFx.r_rows O) rfl (ea_nil (rc_lenT ?_)))))))))))))
    refine rv_repA (by decide) (by rw [List.length_map]; exact hn) (by decide) ?_
    have e : ∀ n, (List.replicate n [Da.non]).flatten = (List.replicate n (none : Option Nat)).map pickD := fun n => by
      induction n with
      | zero => rfl
      | succ n ih => rw [List.replicate_succ, List.replicate_succ, List.flatten_cons, ih]; rfl
    rw [e, List.length_map]
    exact hR
-- open_rows
abbrev s_open_rows : Stmt := top 39
abbrev sc_open_rows_N : List Str := ["rulings", "picks", "row"]
theorem sc_open_rows : FnScope sc_open_rows_N ["rulings", "picks"] (defScope s_open_rows) := ⟨rfl, rfl, rfl, by decide +kernel, rfl, by decide +kernel, by decide +kernel⟩
-- uses: Rulings.choice_rows
-- slots: 0=rulings 1=picks 2=row

theorem has_open_rows (F : FunAt K mg "open_rows" s_open_rows) (T : Tx mg) (O : OFx K C) (h_Rulings_choice_rows : HasM P w K mg base C.cRulings "choice_rows" 1 ["self"] (spD K (W_Rulings_choice_rows C))) : Has P w K mg base "open_rows" 2 ["rulings", "picks"] (spD K (W_open_rows C)) := by
  refine hasD F sc_open_rows (fun ds R h => ?_) (fun _ _ _ _ _ _ us hl => match us, hl with | [_, _], _ => rfl) fun f cdv A outer s H E hr => ⟨_, (pss_one (ps_ret (pe_lc (own := [("row", 2)]) (g := (gName 2)) (tt := (tB (tIsN (tOp (rIxT K) (tVar 1) (tVar 2))))) (te := (tVar 2)) rfl sc_open_rows.nd (pi_tup (pe_methH0 h_Rulings_choice_rows (hr.mono (by decide)) (pv 0))) (blkOk_by (N := sc_open_rows_N) (sc := defScope s_open_rows) (by decide +kernel)) (fun _ _ _ _ _ => (pg_name (i := 2) sc_open_rows.nd rfl (by first | exact .inl rfl | exact .inr rfl))) (fun _ _ _ _ _ => (pts_one (pt_cmp (pc_isN (pe_ix ix_tup (pv 1) (pv 2) (fun _ _ => rfl)))))) (fun _ _ _ _ _ => (pv 2))))), fun ds R h => ?_⟩
  · obtain ⟨shs, rows, p, rfl, _⟩ := h
    rfl
  · obtain ⟨shs, rows, p, rfl, hp, hn, hR⟩ := h
    dsimp only [cxOf, Cx.nox, Cx.wish]
    show Ho K _ [.val (rD C shs rows), .val (picksD p), .un] _ _ _ _
    refine ho_ret (ev_lc (ei_tup (ev_meth (ev_var rfl ⟨_, rfl, (gLook rfl (ea_nil ?_))⟩))))
    refine ⟨shs, rows, rfl, hn, ?_⟩
    refine ⟨_, rfl, ?_⟩
    refine lc_listF (p := fun n => (p.getD n none).isNone) (h := fun (i : Nat) => .int (i : Int)) ?_ (fun i n hd => ?_) hR
    · unfold choices
      refine Nat.le_trans (List.length_filter_le _ _) ?_
      simp
      omega
    · have hn2 : n < p.length := by
        have := List.mem_of_getElem? hd
        unfold choices at this
        have := (List.mem_filter.mp this).1
        rw [List.mem_range] at this
        omega
      refine gn_name (by decide) (et_B (ev_isN (ev_op (ev_var rfl (ev_var rfl ?_)))))
      refine rv_ixT (atI_map (j := n) rfl (getD_of none hn2)) ?_
      refine ⟨_, rfl, ?_⟩
      refine ⟨by cases p.getD n none <;> rfl, fun _ => ?_⟩
      exact ev_var rfl (rfl)
end
end Sc
/-! D15: judges and panels. -/
namespace Sc
open PySem L2
theorem text_strOk {s : Shape} (h : ShOk s) : PyData.strOk (textOf s) = true := by
  have lift : ∀ z : Str, (∀ c ∈ z.cps.toList, c < 0x110000) → PyData.strOk z = true := fun z hz => by
    unfold PyData.strOk
    rw [← Array.all_toList, List.all_eq_true]
    exact fun c hc => decide_eq_true (hz c hc)
  have app : ∀ a b : Str, (a ++ b).cps.toList = a.cps.toList ++ b.cps.toList := fun a b => by
    show (a.cps ++ b.cps).toList = _
    simp
  refine lift _ fun c hc => ?_
  have ht : ∀ l : List Int, (∀ t ∈ l, 1 ≤ t ∧ t ≤ 3) → ∀ c ∈ (Str.join ("" : Str) (l.map fun t => ((toString t : String) : Str))).cps.toList, c < 0x110000 := by
    have one : ∀ t : Int, 1 ≤ t ∧ t ≤ 3 → ∀ c ∈ ((toString t : String) : Str).cps.toList, c < 0x110000 := fun t ht => by
      have : t = 1 ∨ t = 2 ∨ t = 3 := by omega
      rcases this with rfl | rfl | rfl <;> decide
    intro l
    induction l with
    | nil => intro _ c hc; exact nomatch (show c ∈ ([] : List Nat) from hc)
    | cons t l ih =>
      intro hl c hc
      have h1 := one t (hl t (by simp))
      have h2 := ih fun x hx => hl x (by simp [hx])
      cases l with
      | nil => exact h1 c hc
      | cons u l =>
        have hc : c ∈ (((toString t : String) : Str) ++ ("" : Str) ++ Str.join ("" : Str) ((u :: l).map fun t => ((toString t : String) : Str))).cps.toList := hc
        rw [app, app, List.mem_append, List.mem_append] at hc
        rcases hc with (y | y) | y
        · exact h1 c y
        · exact nomatch (show c ∈ ([] : List Nat) from y)
        · exact h2 c y
  have ej : Txt.join ("" : Str) (s.tops.map fun t => ((toString t : String) : Str)) = Str.join ("" : Str) (s.tops.map fun t => ((toString t : String) : Str)) := by
    show Builtin.Str.glued _ _ = _
    rw [StrLaws.glued_eq_join]
  unfold textOf at hc
  rw [app, app, app, app, ej] at hc
  simp only [List.mem_append] at hc
  rcases hc with (((y | y) | y) | y) | y
  · have := h.az c (List.mem_append_left _ y)
    omega
  · have : c = 47 := by simpa using (show c ∈ ([47] : List Nat) from y)
    omega
  · have := h.az c (List.mem_append_right _ y)
    omega
  · have : c = 47 := by simpa using (show c ∈ ([47] : List Nat) from y)
    omega
  · exact ht _ h.top c y
theorem toPy_strs : ∀ l : List Str, toPyL (l.map .str) = some (l.map .str)
  | [] => by simp [toPyL]
  | x :: l => by simp [toPyL, toPy, toPy_strs l]
theorem strs_lay : ∀ l : List Str, (∀ z ∈ l, PyData.strOk z = true) → PyData.canLayAll0 (l.map .str) = true
  | [], _ => by simp [PyData.canLayAll0]
  | x :: l, h => by simp [PyData.canLayAll0, PyData.canLay0, h x (by simp), strs_lay l fun z hz => h z (by simp [hz])]
theorem strs_depth : ∀ l : List Str, PyData.depthAll (l.map .str) = 0
  | [] => by simp [PyData.depthAll]
  | x :: l => by simp [PyData.depthAll, PyData.depth, strs_depth l]
theorem strs_eqv : ∀ l : List Str, PyData.eqvAll (l.map .str) (l.map .str) = true
  | [] => by simp [PyData.eqvAll]
  | x :: l => by simp [PyData.eqvAll, PyData.eqv, strs_eqv l]
section
variable {P : Program} {w : World} {K : PySem.W.Frag} {mg : Str → Option Value} {base : Heap} {C : CA}
-- same_suit
abbrev s_same_suit : Stmt := top 32
abbrev sc_same_suit_N : List Str := ["left", "right", "forum"]
theorem sc_same_suit : FnScope sc_same_suit_N ["left", "right"] (defScope s_same_suit) := ⟨rfl, rfl, rfl, by decide +kernel, rfl, by decide +kernel, by decide +kernel⟩
-- uses: Forum.text
-- slots: 0=left 1=right 2=forum

theorem has_same_suit (F : FunAt K mg "same_suit" s_same_suit) (T : Tx mg) (O : OFx K C) (h_Forum_text : HasP P w K mg base C.cForum "text" 1 (spD K (W_Forum_text C))) : Has P w K mg base "same_suit" 3 ["left", "right"] (spD K (W_same_suit C)) := by
  refine hasD F sc_same_suit (fun ds R h => ?_) (fun _ _ _ _ _ _ us hl => match us, hl with | [_, _], _ => rfl) fun f cdv A outer s H E hr => ⟨_, (pss_one (ps_ret (pe_cmpR (op_eqD hr.units) (pe_lc (own := [("forum", 2)]) (g := (gName 2)) (tt := tYes) (te := (tProp C.cForum (spD K (W_Forum_text C)) [] E0 (tVar 2))) rfl sc_same_suit.nd (pi_tup (pe_fld (pv 0) rfl)) (blkOk_by (N := sc_same_suit_N) (sc := defScope s_same_suit) (by decide +kernel)) (fun _ _ _ _ _ => (pg_name (i := 2) sc_same_suit.nd rfl (by first | exact .inl rfl | exact .inr rfl))) (fun _ _ _ _ _ => pts_nil) (fun _ _ _ _ _ => (pe_propH h_Forum_text (hr.mono (by decide)) (pv 2)))) (pe_lc (own := [("forum", 2)]) (g := (gName 2)) (tt := tYes) (te := (tProp C.cForum (spD K (W_Forum_text C)) [] E0 (tVar 2))) rfl sc_same_suit.nd (pi_tup (pe_fld (pv 1) rfl)) (blkOk_by (N := sc_same_suit_N) (sc := defScope s_same_suit) (by decide +kernel)) (fun _ _ _ _ _ => (pg_name (i := 2) sc_same_suit.nd rfl (by first | exact .inl rfl | exact .inr rfl))) (fun _ _ _ _ _ => pts_nil) (fun _ _ _ _ _ => (pe_propH h_Forum_text (hr.mono (by decide)) (pv 2)))) (nomark _)))), fun ds R h => ?_⟩
  · obtain ⟨shs, rfl, _⟩ := h
    rfl
  · obtain ⟨shs, rfl, hs, hR⟩ := h
    dsimp only [cxOf, Cx.nox, Cx.wish]
    show Ho K _ [.val (sD C shs), .val (sD C shs), .un] _ _ _ _
    have h3 := hs.hi
    refine ho_ret (ev_op (ev_lc (ei_tup (ev_fld (ev_var rfl (gFld rfl (OFx.s O) (OFx.s_forums O) rfl ⟨_, rfl, ?_⟩))))))
    refine lc_list (h := fun s => .str (textOf s)) (by omega) (fun i s hd => ?_) ?_
    · refine gn_name (by decide) (ev_prop (ev_var rfl ⟨_, rfl, ?_⟩))
      exact ⟨s, rfl, hs.ok s (List.mem_of_getElem? hd), rfl⟩
    · refine ev_lc (ei_tup (ev_fld (ev_var rfl (gFld rfl (OFx.s O) (OFx.s_forums O) rfl ⟨_, rfl, ?_⟩))))
      refine lc_list (h := fun s => .str (textOf s)) (by omega) (fun i s hd => ?_) ?_
      · refine gn_name (by decide) (ev_prop (ev_var rfl ⟨_, rfl, ?_⟩))
        exact ⟨s, rfl, hs.ok s (List.mem_of_getElem? hd), rfl⟩
      · have e : (shs.map fun s => Da.str (textOf s)) = (shs.map textOf).map .str := by
          rw [List.map_map]
          rfl
        have hp : toPy (.lst ((shs.map textOf).map .str)) = some (.list ((shs.map textOf).map .str)) := by
          simp only [toPy, toPy_strs, Option.map_some]
        have hsh : SeqAt.shaped (.list ((shs.map textOf).map .str)) = true := by
          unfold SeqAt.shaped
          rw [Bool.and_eq_true]
          refine ⟨?_, decide_eq_true ?_⟩
          · simp only [PyData.canLay0]
            exact strs_lay _ fun z hz => by
              obtain ⟨s, hs1, rfl⟩ := List.mem_map.mp hz
              exact text_strOk (hs.ok s hs1)
          · simp only [PyData.depth, strs_depth]
            decide
        rw [e]
        refine rv_eqD hp hp hsh hsh ?_
        rw [show PyData.eqv (.list ((shs.map textOf).map .str)) (.list ((shs.map textOf).map .str)) = true by rw [PyData.eqv]; exact strs_eqv _]
        exact hR
-- FloorJudge.grade_of
abbrev s_FloorJudge_grade_of : Stmt := inClass (top 21) 2
abbrev sc_FloorJudge_grade_of_N : List Str := ["self", "case"]
theorem sc_FloorJudge_grade_of : FnScope sc_FloorJudge_grade_of_N ["self", "case"] (defScope s_FloorJudge_grade_of) := ⟨rfl, rfl, rfl, by decide +kernel, rfl, by decide +kernel, by decide +kernel⟩
-- uses: row_bounds
-- slots: 0=self 1=case

theorem has_FloorJudge_grade_of (F : MethAt K C.cFloorJudge "grade_of" "FloorJudge.grade_of" s_FloorJudge_grade_of) (T : Tx mg) (O : OFx K C) (h_row_bounds : Has P w K mg base "row_bounds" 2 ["rows", "top", "case"] (spD K (W_row_bounds))) : HasM P w K mg base C.cFloorJudge "grade_of" 3 ["self", "case"] (spD K (W_FloorJudge_grade_of C)) := by
  refine hasM F sc_FloorJudge_grade_of (fun ds R h => ?_) (fun _ _ _ _ _ _ us hl => match us, hl with | [_, _], _ => rfl) fun f cdv A outer s H E hr => ⟨_, (pss_one (ps_ret (pe_ix ix_tup (pe_callH h_row_bounds (hr.mono (by decide)) rfl (pa_cons (pe_fld (pv 0) rfl) (pa_cons (pe_fld (pv 0) rfl) (pa_cons (pv 1) pa_nil)))) pe_int (fun _ _ => rfl)))), fun ds R h => ?_⟩
  · obtain ⟨s, b, c, rfl, _⟩ := h
    rfl
  · obtain ⟨s, b, c, rfl, hs, hb, hc, hR⟩ := h
    dsimp only [cxOf, Cx.nox, Cx.wish]
    show Ho K _ [.val (jD C (s, b)), .val (ci c)] _ _ _ _
    have := hc.len
    have := hs.lim.len
    refine ho_ret (ev_op (ev_call (ea_cons (ev_fld (ev_var rfl (gFld rfl (OFx.j O) (OFx.j_rows O) rfl (ea_cons (ev_fld (ev_var rfl (gFld rfl (OFx.j O) (OFx.j_top O) rfl (ea_cons (ev_var rfl (ea_nil ?_)))))))))))))
    refine ⟨b, c, rfl, fun d hd => by rw [(hb d hd).len, hc.len], by omega, fun hi => ?_⟩
    refine ev_int (rv_ixT rfl ?_)
    exact hR
-- checked_rows
abbrev s_checked_rows : Stmt := top 15
abbrev sc_checked_rows_N : List Str := ["forum", "top", "rows", "case", "_", "grade"]
theorem sc_checked_rows : FnScope sc_checked_rows_N ["forum", "top", "rows"] (defScope s_checked_rows) := ⟨rfl, rfl, rfl, by decide +kernel, rfl, by decide +kernel, by decide +kernel⟩
-- uses: Forum.__contains__ g:MOST_TOP g:tuple
-- slots: 0=forum 1=top 2=rows 3=case 4=_ 5=grade

theorem has_checked_rows (F : FunAt K mg "checked_rows" s_checked_rows) (T : Tx mg) (O : OFx K C) (h_Forum_contains : HasM P w K mg base C.cForum "__contains__" 1 ["self", "case"] (spD K (W_Forum_contains C))) : Has P w K mg base "checked_rows" 2 ["forum", "top", "rows"] (spD K (W_checked_rows C)) := by
  refine hasD F sc_checked_rows (fun ds R h => ?_) (fun _ _ _ _ _ _ us hl => match us, hl with | [_, _, _], _ => rfl) fun f cdv A outer s H E hr => ⟨_, (pss_cons (ps_for PassesOwn.never rfl (pi_list (pv 2)) (pg_tup rfl (pgs_cons (pg_name (i := 3) sc_checked_rows.nd rfl (by first | exact .inl rfl | exact .inr rfl)) (pgs_cons (pg_name (i := 4) sc_checked_rows.nd rfl (by first | exact .inl rfl | exact .inr rfl)) pgs_nil))) (pss_one (ps_if (pt_cmp (pc_ownN h_Forum_contains (hr.mono (by decide)) (pv 3) (pv 0))) (pss_one ps_never) pss_nil)))
      (pss_cons (ps_if (pt_not (pt_chain op_le op_le pe_int (pv 1) (pe_globE (v := MOST_TOP_v) rfl T.MOST_TOP))) (pss_one ps_never) pss_nil)
      (pss_cons (ps_for PassesOwn.never rfl (pi_list (pv 2)) (pg_tup rfl (pgs_cons (pg_name (i := 4) sc_checked_rows.nd rfl (by first | exact .inl rfl | exact .inr rfl)) (pgs_cons (pg_name (i := 5) sc_checked_rows.nd rfl (by first | exact .inl rfl | exact .inr rfl)) pgs_nil))) (pss_one (ps_if (pt_not (pt_chain op_le op_le pe_int (pv 5) (pv 1))) (pss_one ps_never) pss_nil)))
      (pss_one (ps_ret (pe_callTy call_tuple_of (by rfl) T.tuple (by decide +kernel) (pa_cons (pe_lc (own := [("case", 3), ("grade", 5)]) (g := (gTup K 2 (gCons (gName 3) (gCons (gName 5) gNil)))) (tt := tYes) (te := (tTup (tCons (tVar 3) (tCons (tVar 5) tNil)))) rfl sc_checked_rows.nd (pi_list (pv 2)) (blkOk_by (N := sc_checked_rows_N) (sc := defScope s_checked_rows) (by decide +kernel)) (fun _ _ _ _ _ => (pg_tup rfl (pgs_cons (pg_name (i := 3) sc_checked_rows.nd rfl (by first | exact .inl rfl | exact .inr rfl)) (pgs_cons (pg_name (i := 5) sc_checked_rows.nd rfl (by first | exact .inl rfl | exact .inr rfl)) pgs_nil)))) (fun _ _ _ _ _ => pts_nil) (fun _ _ _ _ _ => (pe_tup (pa_cons (pv 3) (pa_cons (pv 5) pa_nil))))) pa_nil))))))), fun ds R h => ?_⟩
  · obtain ⟨s, b, rfl, _⟩ := h
    rfl
  · obtain ⟨s, b, rfl, hs, hn, hb, hR⟩ := h
    dsimp only [cxOf, Cx.nox, Cx.wish]
    show Ho K _ [.val (fD C s), .val (.int 1), .val (.lst (b.map decD)), .un, .un, .un] _ _ _ _
    refine ho_seq (ho_for (ei_list (ev_var rfl ⟨_, rfl, ?_⟩)))
    refine ⟨fun i G => ∃ s3 s4, G = [.val (fD C s), .val (.int 1), .val (.lst (b.map decD)), s3, s4, .un], ⟨_, _, rfl⟩, ?_, ?_⟩
    · rintro i d G e ⟨s3, s4, rfl⟩
      obtain ⟨d, hd, rfl⟩ := map_inv e
      refine gn_tup rfl (gns_cons (gn_name trivial (gns_cons (gn_name trivial (gns_nil (ho_if (et_B (ev_ownIn (ev_var rfl (ev_var rfl ⟨_, rfl, ?_⟩))))))))))
      refine ⟨s, d.1, rfl, hs, hb d (List.mem_of_getElem? hd), ?_⟩
      refine ⟨_, rfl, ⟨_, rfl, ?_⟩⟩
      refine and_f (by decide) ?_
      refine ho_nil ?_
      exact ⟨_, _, rfl⟩
    · rintro G ⟨s3, s4, rfl⟩
      refine ho_seq (ho_if (et_not (et_test (ev_chain (ev_int (ev_var rfl (rv_le ⟨_, rfl, ?_⟩)))))))
      refine and_t (by decide) ?_
      refine ev_int (rv_le ⟨_, rfl, ?_⟩)
      refine and_f (by decide) ?_
      refine ho_nil (ho_seq (ho_for (ei_list (ev_var rfl ⟨_, rfl, ?_⟩))))
      refine ⟨fun i G => ∃ s3 s4 s5, G = [.val (fD C s), .val (.int 1), .val (.lst (b.map decD)), s3, s4, s5], ⟨_, _, _, rfl⟩, ?_, ?_⟩
      · rintro i d G e ⟨s3, s4, s5, rfl⟩
        obtain ⟨d, hd, rfl⟩ := map_inv e
        refine gn_tup rfl (gns_cons (gn_name trivial (gns_cons (gn_name trivial (gns_nil (ho_if (et_not (et_test (ev_chain (ev_int (ev_var rfl (rv_le ⟨_, rfl, ?_⟩))))))))))))
        refine and_t (by cases d.2 <;> decide) ?_
        refine ev_var rfl (rv_le ⟨_, rfl, ?_⟩)
        refine and_f (by cases d.2 <;> decide) ?_
        refine ho_nil ?_
        exact ⟨_, _, _, rfl⟩
      · rintro G ⟨s3, s4, s5, rfl⟩
        refine ho_ret (ev_cb (ea_cons (ev_lc (ei_list (ev_var rfl ⟨_, rfl, ?_⟩)))))
        refine lc_list (h := decD) (by omega) (fun i d hd => ?_) ?_
        · exact gn_tup rfl (gns_cons (gn_name (by decide) (gns_cons (gn_name (by decide) (gns_nil (ev_tup (ea_cons (ev_var rfl (ea_cons (ev_var rfl (ea_nil (lit2 (rfl)))))))))))))
        · refine ea_nil (rc_tupL ?_)
          exact hR
end
end Sc
/-! D16: panels. -/
namespace Sc
open PySem L2
theorem zip_range {α β : Type} {l : List α} {m : List β} (h : m.length = l.length) (d : α) (e : β) : l.zip m = (List.range m.length).map fun i => (l.getD i d, m.getD i e) := by
  apply List.ext_getElem?
  intro j
  rw [List.zip_eq_zipWith, List.getElem?_zipWith, List.getElem?_map]
  by_cases hj : j < m.length
  · rw [List.getElem?_range hj, getD_of d (by omega : j < l.length), getD_of e hj]
    rfl
  · rw [List.getElem?_eq_none (l := m) (by omega), List.getElem?_eq_none (l := l) (by omega), List.getElem?_eq_none (by simp; omega)]
    rfl
theorem grades_eq {l : List Judged} {ps : List Part} (h : ps.length = l.length) : ((l.zip ps).filter fun x => x.2.isSome).map (fun x => Da.int (lowB x.1.2 (x.2.getD []))) = (gradesOf l ps).map .int := by
  rw [zip_range h (⟨"", "", []⟩, []) none, List.filter_map, List.map_map]
  unfold gradesOf
  rw [List.map_map]
  unfold inPlay
  apply List.map_congr_left
  intro i hi
  have hi2 : i < ps.length := List.mem_range.mp (List.mem_filter.mp hi).1
  have hl : l[i]? = some (l.getD i (⟨"", "", []⟩, [])) := getD_of _ (by omega)
  show Da.int (lowB (l.getD i (⟨"", "", []⟩, [])).2 _) = Da.int (lowB ((l[i]?.map (·.2)).getD []) _)
  rw [hl]
  rfl
section
variable {P : Program} {w : World} {K : PySem.W.Frag} {mg : Str → Option Value} {base : Heap} {C : CA}
-- Panel.__init__
abbrev s_Panel__init_ : Stmt := inClass (top 35) 0
abbrev sc_Panel__init__N : List Str := ["self", "suit", "judges", "judge", "forum"]
theorem sc_Panel__init_ : FnScope sc_Panel__init__N ["self", "suit", "judges"] (defScope s_Panel__init_) := ⟨rfl, rfl, rfl, by decide +kernel, rfl, by decide +kernel, by decide +kernel⟩
-- uses: require_yes_no g:zip Forum.text g:len g:tuple
-- slots: 0=self 1=suit 2=judges 3=judge 4=forum

theorem has_Panel_init (F : InitAt K mg "Panel" C.cPanel "Panel.__init__" s_Panel__init_ ["self", "suit", "judges"]) (T : Tx mg) (O : OFx K C) (h_require_yes_no : Has P w K mg base "require_yes_no" 1 ["book"] (spD K (W_require_yes_no C))) (h_Forum_text : HasP P w K mg base C.cForum "text" 1 (spD K (W_Forum_text C))) : HasC P w K mg base "Panel" C.cPanel 3 ["self", "suit", "judges"] (spI K C.cPanel (W_Panel_init C)) := by
  refine hasC F sc_Panel__init_ (fun fs ds R h => ?_) fun f cdv A outer s H E hr => ⟨_, (pss_cons (ps_for PassesOwn.never rfl (pi_list (pv 2)) (pg_name (i := 3) sc_Panel__init_.nd rfl (by first | exact .inl rfl | exact .inr rfl)) (pss_one (ps_expr (pe_callH h_require_yes_no (hr.mono (by decide)) rfl (pa_cons (pv 3) pa_nil)))))
      (pss_cons (ps_for PassesOwn.never rfl (pi_zipK true false (by rfl) T.zip (pa_cons (pv 2) (pa_cons (pe_fld (pv 1) rfl) pa_nil))) (pg_tup rfl (pgs_cons (pg_name (i := 3) sc_Panel__init_.nd rfl (by first | exact .inl rfl | exact .inr rfl)) (pgs_cons (pg_name (i := 4) sc_Panel__init_.nd rfl (by first | exact .inl rfl | exact .inr rfl)) pgs_nil))) (pss_one (ps_if (pt_cmpR op_ne (pe_propH h_Forum_text (hr.mono (by decide)) (pe_fld (pv 3) rfl)) (pe_propH h_Forum_text (hr.mono (by decide)) (pv 4)) (nomark _)) (pss_one ps_never) pss_nil)))
      (pss_cons (ps_if (pt_cmpR op_ne (pe_callB call_len_seq (by rfl) T.len (by decide +kernel) (pa_cons (pv 2) pa_nil)) (pe_callB call_len_seq (by rfl) T.len (by decide +kernel) (pa_cons (pe_fld (pv 1) rfl) pa_nil)) (nomark _)) (pss_one ps_never) pss_nil)
      (pss_cons (ps_fld (pv 0) (pv 1) rfl)
      (pss_one (ps_fld (pv 0) (pe_callTy call_tuple_of (by rfl) T.tuple (by decide +kernel) (pa_cons (pv 2) pa_nil)) rfl)))))), fun self fs ds R h => ?_⟩
  · obtain ⟨l, rfl, rfl, _⟩ := h
    rfl
  · obtain ⟨l, rfl, rfl, hl, hR⟩ := h
    dsimp only [cxOf, Cx.nox, Cx.wish]
    show Ho K _ [.ino self C.cPanel [], .val (sD C (l.map (·.1))), .val (.lst (l.map (jD C))), .un, .un] _ _ _ _
    refine ho_seq (ho_for (ei_list (ev_var rfl ⟨_, rfl, ?_⟩)))
    refine ⟨fun i G => ∃ s3, G = [.ino self C.cPanel [], .val (sD C (l.map (·.1))), .val (.lst (l.map (jD C))), s3, .un], ⟨_, rfl⟩, ?_, ?_⟩
    · rintro i d G e ⟨s3, rfl⟩
      obtain ⟨j, hd, rfl⟩ := map_inv e
      refine gn_name trivial (ho_drop (ev_call (ea_cons (ev_var rfl (ea_nil ?_)))))
      refine ⟨j, rfl, ?_⟩
      exact ⟨_, rfl⟩
    · rintro G ⟨s3, rfl⟩
      refine ho_seq (ho_for (ei_zLT (ea_cons (ev_var rfl (ea_cons (ev_fld (ev_var rfl (gFld rfl (OFx.s O) (OFx.s_forums O) rfl (ea_nil ⟨_, _, rfl, ?_⟩)))))))))
      refine ⟨fun i G => ∃ s3 s4, G = [.ino self C.cPanel [], .val (sD C (l.map (·.1))), .val (.lst (l.map (jD C))), s3, s4], ⟨_, _, rfl⟩, ?_, ?_⟩
      · rintro i d G e ⟨s3, s4, rfl⟩
        obtain ⟨j, s, hj, hs, rfl⟩ := zipD_inv e
        have hjs : s = j.1 := by
          rw [List.getElem?_map, hj] at hs
          cases hs
          rfl
        subst hjs
        have hso := hl.shs.ok j.1 (List.mem_map.mpr ⟨j, List.mem_of_getElem? hj, rfl⟩)
        refine gn_tup rfl (gns_cons (gn_name trivial (gns_cons (gn_name trivial (gns_nil (ho_if (et_test (ev_op (ev_prop (ev_fld (ev_var rfl (gFld rfl (OFx.j O) (OFx.j_forum O) rfl ⟨_, rfl, ?_⟩))))))))))))
        refine ⟨j.1, rfl, hso, ?_⟩
        refine ev_prop (ev_var rfl ⟨_, rfl, ?_⟩)
        refine ⟨j.1, rfl, hso, ?_⟩
        refine rv_neS ⟨_, rfl, ?_⟩
        refine and_f (by simp) ?_
        refine ho_nil ?_
        exact ⟨_, _, rfl⟩
      · rintro G ⟨s3, s4, rfl⟩
        refine ho_seq (ho_if (et_test (ev_op (ev_cb (ea_cons (ev_var rfl (ea_nil (rc_lenL (ev_cb (ea_cons (ev_fld (ev_var rfl (gFld rfl (OFx.s O) (OFx.s_forums O) rfl (ea_nil (rc_lenT (rv_neI ⟨_, rfl, ?_⟩))))))))))))))))
        refine and_f (by simp) ?_
        refine ho_nil (ho_seq ?_)
        refine ho_fld rfl O.p O.p_suit (by decide) ?_
        refine ev_var rfl ?_
        refine ho_fld rfl O.p O.p_judges (show 1 < 1000 by decide) ?_
        refine ev_cb (ea_cons (ev_var rfl (ea_nil (rc_tupL ⟨_, rfl, ?_⟩))))
        exact hR
-- Panel.__call__
abbrev s_Panel__call_ : Stmt := inClass (top 35) 1
abbrev sc_Panel__call__N : List Str := ["self", "parts", "mode", "grades", "judge", "part"]
theorem sc_Panel__call_ : FnScope sc_Panel__call__N ["self", "parts", "mode"] (defScope s_Panel__call_) := ⟨rfl, rfl, rfl, by decide +kernel, rfl, by decide +kernel, by decide +kernel⟩
-- uses: Suit.__contains__ g:zip FloorJudge.grade_of g:min g:max
-- slots: 0=self 1=parts 2=mode 3=grades 4=judge 5=part

theorem has_Panel_call (F : CallAt K C.cPanel "__call__" "Panel.__call__" s_Panel__call_) (T : Tx mg) (O : OFx K C) (h_Suit_contains : HasM P w K mg base C.cSuit "__contains__" 2 ["self", "parts"] (spD K (W_Suit_contains C))) (h_FloorJudge_grade_of : HasM P w K mg base C.cFloorJudge "grade_of" 3 ["self", "case"] (spD K (W_FloorJudge_grade_of C))) : HasO P w K mg base C.cPanel 4 ["self", "parts", "mode"] (spD K (W_Panel_call C)) := by
  refine hasO F sc_Panel__call_ (fun ds R h => ?_) (fun _ _ _ _ _ _ us hl => match us, hl with | [_, _, _], _ => rfl) fun f cdv A outer s H E hr => ⟨_, (pss_cons (ps_if (pt_cmp (pc_ownN h_Suit_contains (hr.mono (by decide)) (pv 1) (pe_fld (pv 0) rfl))) (pss_one ps_never) pss_nil)
      (pss_cons (ps_setLc (i := 3) (own := [("judge", 4), ("part", 5)]) (g := (gTup K 2 (gCons (gName 4) (gCons (gName 5) gNil)))) (tt := (tB (tNotN (tVar 5)))) (te := (tMeth C.cFloorJudge "grade_of" (spD K (W_FloorJudge_grade_of C)) [] E0 (tVar 4) (tCons (tVar 5) tNil))) rfl sc_Panel__call_.nd rfl rfl (sw_true rfl rfl rfl (by decide +kernel)) (pi_zipK false false (by rfl) T.zip (pa_cons (pe_fld (pv 0) rfl) (pa_cons (pv 1) pa_nil))) (blkOk_by (N := sc_Panel__call__N) (sc := defScope s_Panel__call_) (by decide +kernel)) (fun _ _ _ _ _ => (pg_tup rfl (pgs_cons (pg_name (i := 4) sc_Panel__call_.nd rfl (by first | exact .inl rfl | exact .inr rfl)) (pgs_cons (pg_name (i := 5) sc_Panel__call_.nd rfl (by first | exact .inl rfl | exact .inr rfl)) pgs_nil)))) (fun _ _ _ _ _ => (pts_one (pt_cmp (pc_notN (pv 5))))) (fun _ _ _ _ _ => (pe_methH h_FloorJudge_grade_of (hr.mono (by decide)) (pv 4) (pa_cons (pv 5) pa_nil))))
      (pss_cons (ps_if (pt_cmpR op_eq (pv 2) pe_str (nomark _)) (pss_one (ps_ret (pe_callB (cr_min rfl) (by rfl) T.min (by decide +kernel) (pa_cons (pv 3) pa_nil)))) pss_nil)
      (pss_one (ps_ret (pe_callB (cr_max rfl) (by rfl) T.max (by decide +kernel) (pa_cons (pv 3) pa_nil))))))), fun ds R h => ?_⟩
  · obtain ⟨l, ps, all, rfl, _⟩ := h
    rfl
  · obtain ⟨l, ps, all, rfl, hl, hp, hR⟩ := h
    dsimp only [cxOf, Cx.nox, Cx.wish]
    show Ho K _ [.val (pD C l), .val (partsD ps), .val (.str (modeS all)), .un, .un, .un] _ _ _ _
    have h3 := hl.shs.hi
    have hpl := hp.len
    rw [List.length_map] at h3 hpl
    refine ho_seq (ho_if (et_B (ev_ownIn (ev_var rfl (ev_fld (ev_var rfl (gFld rfl (OFx.p O) (OFx.p_suit O) rfl ⟨_, rfl, ?_⟩)))))))
    refine ⟨_, ps, rfl, hl.shs, hp, ?_⟩
    refine ⟨_, rfl, ⟨_, rfl, ?_⟩⟩
    refine and_f (by decide) ?_
    refine ho_nil (ho_seq ?_)
    refine ho_set (ev_lc ?_)
    refine ei_zTT (ea_cons (ev_fld (ev_var rfl (gFld rfl (OFx.p O) (OFx.p_judges O) rfl (ea_cons (ev_var rfl (ea_nil ⟨_, _, rfl, ?_⟩)))))))
    rw [zipD_map]
    refine lc_listF (p := fun x => x.2.isSome) (h := fun x => .int (lowB x.1.2 (x.2.getD []))) (by rw [List.length_zip]; omega) (fun i x hx => ?_) ?_
    · obtain ⟨⟨s, b⟩, p⟩ := x
      have hx2 := List.getElem?_zip_eq_some.mp hx
      have hj := hx2.1
      have hpp := hx2.2
      refine gn_tup rfl (gns_cons (gn_name (by decide) (gns_cons (gn_name (by decide) (gns_nil (et_B (ev_notN (ev_var rfl ⟨_, rfl, ?_⟩))))))))
      refine ⟨by cases p <;> rfl, fun hb => ?_⟩
      obtain ⟨c, rfl⟩ : ∃ c, p = some c := by
        cases p with
        | none => exact nomatch (show false = true from hb)
        | some c => exact ⟨c, rfl⟩
      have hs1 : (l.map (·.1))[i]? = some s := by
        rw [List.getElem?_map, hj]
        rfl
      refine ev_meth (ev_var rfl ⟨_, rfl, (gLook rfl (ea_cons (ev_var rfl (ea_nil ?_))))⟩)
      refine ⟨s, b, c, rfl, hl.shs.ok s (List.mem_of_getElem? hs1), (hl.ok _ (List.mem_of_getElem? hj)).2, hp.ok i s c hs1 hpp, ?_⟩
      rfl
    · rw [grades_eq hpl]
      have hne : 0 < (gradesOf l ps).length := by
        obtain ⟨i, c, hc⟩ := hp.some_
        unfold gradesOf inPlay
        rw [List.length_map]
        refine List.length_pos_of_mem (a := i) (List.mem_filter.mpr ⟨List.mem_range.mpr (get_lt hc), ?_⟩)
        rw [getD_get hc]
        rfl
      refine ho_seq (ho_if (et_test (ev_op (ev_var rfl (ev_str (rv_eqS ⟨_, rfl, ?_⟩))))))
      refine ⟨fun hb => ?_, fun hb => ?_⟩
      · refine ho_ret (ev_cb (ea_cons (ev_var rfl (ea_nil ?_))))
        refine rc_min hne fun m h1 h2 => hR m ⟨h1, fun y hy => ?_⟩
        cases all with
        | false => exact absurd hb (by decide)
        | true => exact h2 y hy
      · refine ho_nil (ho_ret (ev_cb (ea_cons (ev_var rfl (ea_nil ?_)))))
        refine rc_max hne fun m h1 h2 => hR m ⟨h1, fun y hy => ?_⟩
        cases all with
        | true => exact absurd hb (by decide)
        | false => exact h2 y hy
-- Panel.first_break
abbrev s_Panel_first_break : Stmt := inClass (top 35) 2
abbrev sc_Panel_first_break_N : List Str := ["self", "rulings", "number", "parts", "mode", "grade"]
theorem sc_Panel_first_break : FnScope sc_Panel_first_break_N ["self", "rulings"] (defScope s_Panel_first_break) := ⟨rfl, rfl, rfl, by decide +kernel, rfl, by decide +kernel, by decide +kernel⟩
-- uses: same_suit g:enumerate Panel.__call__
-- slots: 0=self 1=rulings 2=number 3=parts 4=mode 5=grade

theorem has_Panel_first_break (F : MethAt K C.cPanel "first_break" "Panel.first_break" s_Panel_first_break) (T : Tx mg) (O : OFx K C) (h_same_suit : Has P w K mg base "same_suit" 3 ["left", "right"] (spD K (W_same_suit C))) (h_Panel_call : HasO P w K mg base C.cPanel 4 ["self", "parts", "mode"] (spD K (W_Panel_call C))) : HasM P w K mg base C.cPanel "first_break" 5 ["self", "rulings"] (spD K (W_Panel_first_break C)) := by
  refine hasM F sc_Panel_first_break (fun ds R h => ?_) (fun _ _ _ _ _ _ us hl => match us, hl with | [_, _], _ => rfl) fun f cdv A outer s H E hr => ⟨_, (pss_cons (ps_if (pt_not (pt_val (pe_callH h_same_suit (hr.mono (by decide)) rfl (pa_cons (pe_fld (pv 0) rfl) (pa_cons (pe_fld (pv 1) rfl) pa_nil))))) (pss_one ps_never) pss_nil)
      (pss_cons (ps_for PassesOwn.never rfl (pi_enumK false (by rfl) T.enumerate (pa_cons (pe_fld (pv 1) rfl) pa_nil)) (pg_tup rfl (pgs_cons (pg_name (i := 2) sc_Panel_first_break.nd rfl (by first | exact .inl rfl | exact .inr rfl)) (pgs_cons (pg_tup rfl (pgs_cons (pg_name (i := 3) sc_Panel_first_break.nd rfl (by first | exact .inl rfl | exact .inr rfl)) (pgs_cons (pg_name (i := 4) sc_Panel_first_break.nd rfl (by first | exact .inl rfl | exact .inr rfl)) (pgs_cons (pg_name (i := 5) sc_Panel_first_break.nd rfl (by first | exact .inl rfl | exact .inr rfl)) pgs_nil)))) pgs_nil))) (pss_one (ps_if (pt_cmpR op_ne (pe_callOH h_Panel_call (hr.mono (by decide)) (pv 0) (pa_cons (pv 3) (pa_cons (pv 4) pa_nil))) (pv 5) (nomark _)) (pss_one (ps_ret (pv 2))) pss_nil)))
      (pss_one (ps_ret pe_non)))), fun ds R h => ?_⟩
  · obtain ⟨l, rows, rfl, _⟩ := h
    rfl
  · obtain ⟨l, rows, rfl, hl, hr, hk, hR⟩ := h
    dsimp only [cxOf, Cx.nox, Cx.wish]
    show Ho K _ [.val (pD C l), .val (rD C (l.map (·.1)) rows), .un, .un, .un, .un] _ _ _ _
    refine ho_seq (ho_if (et_not (et_B (ev_call (ea_cons (ev_fld (ev_var rfl (gFld rfl (OFx.p O) (OFx.p_suit O) rfl (ea_cons (ev_fld (ev_var rfl (gFld rfl (OFx.r O) (OFx.r_suit O) rfl (ea_nil ?_)))))))))))))
    refine ⟨_, rfl, hl.shs, ?_⟩
    refine ⟨_, rfl, ?_⟩
    refine and_f rfl ?_
    refine ho_nil (ho_seq (ho_for (ei_enT (ea_cons (ev_fld (ev_var rfl (gFld rfl (OFx.r O) (OFx.r_rows O) rfl (ea_nil ⟨_, rfl, ?_⟩))))))))
    refine ⟨fun i G => ∃ s2 s3 s4 s5, G = [.val (pD C l), .val (rD C (l.map (·.1)) rows), s2, s3, s4, s5], ⟨_, _, _, _, rfl⟩, ?_, ?_⟩
    · rintro i d G e ⟨s2, s3, s4, s5, rfl⟩
      obtain ⟨r, hd, rfl⟩ := enumD_inv e
      have hm := List.mem_of_getElem? hd
      refine gn_tup rfl (gns_cons (gn_name trivial (gns_cons (gn_tup rfl (gns_cons (gn_name trivial (gns_cons (gn_name trivial (gns_cons (gn_name trivial (gns_nil (gns_nil (ho_if (et_test (ev_op (ev_ownCall (ev_var rfl ⟨_, rfl, (ea_cons (ev_var rfl (ea_cons (ev_var rfl (ea_nil ?_)))))⟩)))))))))))))))))
      refine ⟨l, r.parts, r.all, rfl, hl, hr.ok r hm, fun m hmm => ?_⟩
      rw [hk r hm m hmm]
      refine ev_var rfl (rv_neI ⟨_, rfl, ?_⟩)
      refine and_f (by simp) ?_
      refine ho_nil ?_
      exact ⟨_, _, _, _, rfl⟩
    · rintro G ⟨s2, s3, s4, s5, rfl⟩
      refine ho_ret (ev_non ?_)
      exact hR
-- Panel.keeps
abbrev s_Panel_keeps : Stmt := inClass (top 35) 3
abbrev sc_Panel_keeps_N : List Str := ["self", "rulings"]
theorem sc_Panel_keeps : FnScope sc_Panel_keeps_N ["self", "rulings"] (defScope s_Panel_keeps) := ⟨rfl, rfl, rfl, by decide +kernel, rfl, by decide +kernel, by decide +kernel⟩
-- uses: Panel.first_break
-- slots: 0=self 1=rulings

theorem has_Panel_keeps (F : MethAt K C.cPanel "keeps" "Panel.keeps" s_Panel_keeps) (T : Tx mg) (O : OFx K C) (h_Panel_first_break : HasM P w K mg base C.cPanel "first_break" 5 ["self", "rulings"] (spD K (W_Panel_first_break C))) : HasM P w K mg base C.cPanel "keeps" 6 ["self", "rulings"] (spD K (W_Panel_keeps C)) := by
  refine hasM F sc_Panel_keeps (fun ds R h => ?_) (fun _ _ _ _ _ _ us hl => match us, hl with | [_, _], _ => rfl) fun f cdv A outer s H E hr => ⟨_, (pss_one (ps_ret (pe_cmp (pc_isN (pe_methH h_Panel_first_break (hr.mono (by decide)) (pv 0) (pa_cons (pv 1) pa_nil)))))), fun ds R h => ?_⟩
  · obtain ⟨l, rows, rfl, _⟩ := h
    rfl
  · obtain ⟨l, rows, rfl, hl, hr, hk, hR⟩ := h
    show Ho K _ [.val (pD C l), .val (rD C (l.map (·.1)) rows)] _ _ _ _
    refine ho_ret (ev_isN (ev_meth (ev_var rfl ⟨_, rfl, (gLook rfl (ea_cons (ev_var rfl (ea_nil ?_))))⟩)))
    refine ⟨l, rows, rfl, hl, hr, hk, ?_⟩
    exact hR
end
end Sc
/-! D18: the known parts. -/
namespace Sc
open PySem L2
theorem flat_nats : ∀ l : List Nat, flatL (l.map fun (i : Nat) => Da.int (i : Int)) = some (l.map fun (i : Nat) => V.int (i : Int))
  | [] => rfl
  | x :: l => by simp [flatL, flatD, flat_nats l]
theorem inV_nats {n : Nat} {l : List Nat} : inV (.int (n : Int)) (l.map fun (i : Nat) => V.int (i : Int)) = decide (n ∈ l) := by
  unfold inV
  rw [Bool.eq_iff_iff, List.any_eq_true, decide_eq_true_eq]
  constructor
  · rintro ⟨y, hy, e⟩
    obtain ⟨i, hi, rfl⟩ := List.mem_map.mp hy
    have : i = n := by
      simp [eqV] at e
      omega
    exact this ▸ hi
  · intro h
    exact ⟨_, List.mem_map.mpr ⟨n, h, rfl⟩, by simp [eqV]⟩
abbrev Nm (G : List SD) : Prop := ∀ (i : Nat) sd, G[i]? = some sd → sd.mine = false
/-- the known parts of one issue so far -/
def kf (rows : List Row) (p : List (Option Nat)) (n i : Nat) : List Kn := (rows.zipIdx.take n).filterMap (kn1 p i)
theorem kf_succ {rows : List Row} {p : List (Option Nat)} {n i : Nat} {r : Row} (h : rows[n]? = some r) : kf rows p (n + 1) i = kf rows p n i ++ (kn1 p i (r, n)).toList := by
  have hz : rows.zipIdx[n]? = some (r, n) := by rw [List.getElem?_zipIdx, h]; simp
  unfold kf
  rw [take_succ hz, List.filterMap_append, List.filterMap_cons]
  cases kn1 p i (r, n) <;> rfl
theorem kf_len {rows : List Row} {p : List (Option Nat)} {n i : Nat} : (kf rows p n i).length ≤ rows.length := by
  unfold kf
  refine Nat.le_trans (List.length_filterMap_le _ _) ?_
  rw [List.length_take, List.length_zipIdx]
  omega
theorem choices_mem {rows : List Row} {n : Nat} {r : Row} (h : rows[n]? = some r) : n ∈ choices rows ↔ isCh r = true := by
  unfold choices
  rw [List.mem_filter, List.mem_range]
  constructor
  · rintro ⟨_, q⟩
    rw [h] at q
    exact q
  · intro q
    exact ⟨get_lt h, by rw [h]; exact q⟩
theorem inPlay_nodup {ps : List Part} : (inPlay ps).Nodup := List.Nodup.sublist (List.filter_sublist) List.nodup_range
section
variable {P : Program} {w : World} {K : PySem.W.Frag} {mg : Str → Option Value} {base : Heap} {C : CA}
-- known_parts
abbrev s_known_parts : Stmt := top 40
abbrev sc_known_parts_N : List Str := ["rulings", "picks", "known", "choices", "number", "issue", "_", "parts", "grade"]
theorem sc_known_parts : FnScope sc_known_parts_N ["rulings", "picks"] (defScope s_known_parts) := ⟨rfl, rfl, rfl, by decide +kernel, rfl, by decide +kernel, by decide +kernel⟩
-- uses: Rulings.choice_rows g:enumerate issues_in_play
-- slots: 0=rulings 1=picks 2=known 3=choices 4=number 5=issue 6=_ 7=parts 8=grade

theorem has_known_parts (F : FunAt K mg "known_parts" s_known_parts) (T : Tx mg) (O : OFx K C) (h_Rulings_choice_rows : HasM P w K mg base C.cRulings "choice_rows" 1 ["self"] (spD K (W_Rulings_choice_rows C))) (h_issues_in_play : Has P w K mg base "issues_in_play" 1 ["parts"] (spD K (W_issues_in_play))) : Has P w K mg base "known_parts" 2 ["rulings", "picks"] (spD K (W_known_parts C)) := by
  refine hasD F sc_known_parts (fun ds R h => ?_) (fun _ _ _ _ _ _ us hl => match us, hl with | [_, _], _ => rfl) fun f cdv A outer s H E hr => ⟨_, (pss_cons (ps_setLc (i := 2) (own := [("_", 6)]) (g := (gName 6)) (tt := tYes) (te := (tLst tNil)) rfl sc_known_parts.nd rfl rfl (sw_true rfl rfl rfl (by decide +kernel)) (pi_tup (pe_fld (pe_fld (pv 0) rfl) rfl)) (blkOk_by (N := sc_known_parts_N) (sc := defScope s_known_parts) (by decide +kernel)) (fun _ _ _ _ _ => (pg_name (i := 6) sc_known_parts.nd rfl (by first | exact .inl rfl | exact .inr rfl))) (fun _ _ _ _ _ => pts_nil) (fun _ _ _ _ _ => (pe_lst pa_nil)))
      (pss_cons (ps_set (i := 3) sc_known_parts.nd rfl (Or.inl rfl) (pe_methH0 h_Rulings_choice_rows (hr.mono (by decide)) (pv 0)))
      (pss_cons (ps_for PassesOwn.never rfl (pi_enumK false (by rfl) T.enumerate (pa_cons (pe_fld (pv 0) rfl) pa_nil)) (pg_tup rfl (pgs_cons (pg_name (i := 4) sc_known_parts.nd rfl (by first | exact .inl rfl | exact .inr rfl)) (pgs_cons (pg_tup rfl (pgs_cons (pg_name (i := 7) sc_known_parts.nd rfl (by first | exact .inl rfl | exact .inr rfl)) (pgs_cons (pg_name (i := 6) sc_known_parts.nd rfl (by first | exact .inl rfl | exact .inr rfl)) (pgs_cons (pg_name (i := 8) sc_known_parts.nd rfl (by first | exact .inl rfl | exact .inr rfl)) pgs_nil)))) pgs_nil))) (pss_one (ps_for PassesOwn.never rfl (pi_list (pe_callH h_issues_in_play (hr.mono (by decide)) rfl (pa_cons (pv 7) pa_nil))) (pg_name (i := 5) sc_known_parts.nd rfl (by first | exact .inl rfl | exact .inr rfl)) (pss_one (ps_if (PW.pt (pw_or (pt_cmpR op_notIn_seq (pv 4) (pv 3) (by first | exact nomark _ | rfl)) (pw_or1 (pt_cmpR op_eq (pe_ix ix_tup (pv 1) (pv 4) (fun _ _ => rfl)) (pv 5) (nomark _))))) (pss_one (ps_expr (pe_bm PySem.F.plainAttrs_list PySem.F.slot_list_append PySem.F.type_list_append mt_append (pe_ix ix_list (pv 2) (pv 5) (fun _ _ => rfl)) (pa_cons (pe_tup (pa_cons (pv 4) (pa_cons (pe_ix ix_tup (pv 7) (pv 5) (fun _ _ => rfl)) (pa_cons (pv 8) pa_nil)))) pa_nil)))) pss_nil)))))
      (pss_one (ps_ret (pv 2)))))), fun ds R h => ?_⟩
  · obtain ⟨shs, rows, p, rfl, _⟩ := h
    rfl
  · obtain ⟨shs, rows, p, rfl, hs, hr, hp, hR⟩ := h
    dsimp only [cxOf, Cx.nox, Cx.wish]
    have h3 := hs.hi
    have h6 := hr.len
    show Ho K _ [.val (rD C shs rows), .val (picksD p), .un, .un, .un, .un, .un, .un, .un] _ _ _ _
    have nm0 : Nm [.val (rD C shs rows), .val (picksD p), .un, .un, .un, .un, .un, .un, .un] := fun i sd q => by
      have := List.mem_of_getElem? q
      simp at this
      rcases this with rfl | rfl | rfl <;> rfl
    refine ho_nest rfl (by show 2 < 9; decide) nm0 ?_
    refine ei_tup (ev_fld (ev_fld (ev_var rfl (gFld rfl (OFx.r O) (OFx.r_suit O) rfl (gFld rfl (OFx.s O) (OFx.s_forums O) rfl ⟨_, rfl, ?_⟩)))))
    refine ⟨by rw [List.length_map]; omega, ?_⟩
    refine hn_set (by decide) ?_
    refine ev_meth (ev_var rfl ⟨_, rfl, (gLook rfl (ea_nil ?_))⟩)
    refine ⟨shs, rows, rfl, by omega, ?_⟩
    refine hn_for [4, 6, 7, 8] (by decide) ?_
    refine ei_enT (ea_cons (ev_fld (ev_var rfl (gFld rfl (OFx.r O) (OFx.r_rows O) rfl (ea_nil ⟨_, rfl, ?_⟩)))))
    refine ⟨fun n G ll => Nm G ∧ (∃ s4 s5 s6 s7 s8, G = [.val (rD C shs rows), .val (picksD p), .un, .val (.tup ((choices rows).map fun (i : Nat) => Da.int (i : Int))), s4, s5, s6, s7, s8]) ∧ ll = (List.range shs.length).map fun i => (kf rows p n i).map knD,
      ⟨set_nm nm0, ⟨_, _, _, _, _, rfl⟩, ?_⟩, ?_, ?_⟩
    · rw [List.map_map]
      apply List.ext_getElem?
      intro j
      rw [List.getElem?_map, List.getElem?_map]
      by_cases q : j < shs.length
      · rw [List.getElem?_range q, List.getElem?_eq_getElem q]
        rfl
      · rw [List.getElem?_eq_none (l := shs) (by omega), List.getElem?_eq_none (by simp; omega)]
        rfl
    · rintro n d G ll e ⟨nm, ⟨s4, s5, s6, s7, s8, rfl⟩, rfl⟩
      obtain ⟨r, hd, rfl⟩ := enumD_inv e
      have hrp := hr.ok r (List.mem_of_getElem? hd)
      have hpl := hrp.len
      have hnl := get_lt hd
      obtain ⟨pn, hpn⟩ : ∃ x, p[n]? = some x := ⟨_, List.getElem?_eq_getElem (by omega)⟩
      refine gn_tup rfl (gns_cons (gn_name (by decide) (gns_cons (gn_tup rfl (gns_cons (gn_name (by decide) (gns_cons (gn_name (by decide) (gns_cons (gn_name (by decide) (gns_nil (gns_nil ?_))))))))))))
      refine ⟨set_nm (set_nm (set_nm (set_nm nm))), ?_⟩
      refine hn_for [5] (by decide) ?_
      refine ei_list (ev_call (ea_cons (ev_var rfl (ea_nil ?_))))
      refine ⟨r.parts, rfl, by omega, ?_⟩
      refine ⟨_, rfl, ?_⟩
      let gf : Nat → Nat → List Da := fun j i => (kf rows p n i).map knD ++ if i ∈ (inPlay r.parts).take j then (kn1 p i (r, n)).toList.map knD else []
      refine ⟨fun j G ll => Nm G ∧ (∃ s5, G = [.val (rD C shs rows), .val (picksD p), .un, .val (.tup ((choices rows).map fun (i : Nat) => Da.int (i : Int))), .val (.int (n : Nat)), s5, .val (.str (modeS r.all)), .val (partsD r.parts), .val (.int (gI r.won))]) ∧ ll = (List.range shs.length).map (gf j),
        ⟨set_nm (set_nm (set_nm (set_nm nm))), ⟨_, rfl⟩, ?_⟩, ?_, ?_⟩
      · apply List.map_congr_left
        intro i _
        show _ = _ ++ _
        rw [List.take_zero, if_neg (by simp), List.append_nil]
      · rintro j d G ll e ⟨nm2, ⟨s5, rfl⟩, rfl⟩
        obtain ⟨i, hi, rfl⟩ := map_inv e
        have him := List.mem_of_getElem? hi
        have hir : i < r.parts.length := by
          unfold inPlay at him
          exact List.mem_range.mp (List.mem_filter.mp him).1
        obtain ⟨c, hc⟩ : ∃ c, r.parts[i]? = some (some c) := by
          unfold inPlay at him
          have := (List.mem_filter.mp him).2
          rw [getD_of none hir]
          cases q : r.parts.getD i none with
          | none => rw [q] at this; cases this
          | some c => exact ⟨c, rfl⟩
        have hk : kn1 p i (r, n) = if !isCh r || pn == some i then some (n, c, r.won) else none := by
          unfold kn1
          rw [getD_get hc, getD_get hpn]
        have hni : i ∉ (inPlay r.parts).take j := fun hm => by
          obtain ⟨j', hj', e'⟩ := List.mem_iff_getElem.mp hm
          rw [List.length_take] at hj'
          rw [List.getElem_take] at e'
          have : (inPlay r.parts)[j']? = (inPlay r.parts)[j]? := by
            rw [hi, List.getElem?_eq_getElem (by omega), e']
          have := (List.getElem?_inj (by omega) inPlay_nodup).mp this
          omega
        have step : ∀ i', gf (j + 1) i' = gf j i' ++ if i' = i then (kn1 p i (r, n)).toList.map knD else [] := fun i' => by
          show _ ++ _ = (_ ++ _) ++ _
          rw [take_succ hi]
          by_cases q : i' = i
          · subst q
            rw [if_pos (by simp), if_neg hni, if_pos rfl, List.append_nil]
          · rw [if_neg q, List.append_nil]
            simp only [List.mem_append, List.mem_singleton, q, or_false]
        have nm3 : Nm [.val (rD C shs rows), .val (picksD p), .un, .val (.tup ((choices rows).map fun (i : Nat) => Da.int (i : Int))), .val (.int (n : Nat)), .val (.int (i : Nat)), .val (.str (modeS r.all)), .val (partsD r.parts), .val (.int (gI r.won))] := set_nm (i := 5) (d := .int (i : Nat)) nm2
        refine gn_name (by decide) ?_
        refine ⟨nm3, ?_⟩
        refine hn_if ?_
        refine et_or (et_test (ev_op (ev_var rfl (ev_var rfl ?_))))
        refine rv_in (v := .int (n : Int)) (.inr rfl) rfl (flat_nats _) ?_
        rw [inV_nats]
        have fin : (!isCh r || pn == some i) = true → HoN K (tDrop (tBM K "list" rAppend (tOp (rIxL K) (tVar 2) (tVar 5)) (tCons (tTup (tCons (tVar 4) (tCons (tOp (rIxT K) (tVar 7) (tVar 5)) (tCons (tVar 8) tNil)))) tNil)))
            ([.val (rD C shs rows), .val (picksD p), .un, .val (.tup ((choices rows).map fun (i : Nat) => Da.int (i : Int))), .val (.int (n : Nat)), .val (.int (i : Nat)), .val (.str (modeS r.all)), .val (partsD r.parts), .val (.int (gI r.won))]) ((List.range shs.length).map (gf j))
            (fun G ll => Nm G ∧ (∃ s5, G = [.val (rD C shs rows), .val (picksD p), .un, .val (.tup ((choices rows).map fun (i : Nat) => Da.int (i : Int))), .val (.int (n : Nat)), s5, .val (.str (modeS r.all)), .val (partsD r.parts), .val (.int (gI r.won))]) ∧ ll = (List.range shs.length).map (gf (j + 1))) := fun hx => by
          have hg : ((List.range shs.length).map (gf j))[i]? = some (gf j i) := by
            rw [List.getElem?_map, List.getElem?_range (by omega)]
            rfl
          have hgl : (gf j i).length ≤ 7 := by
            show ((kf rows p n i).map knD ++ _).length ≤ 7
            rw [if_neg hni, List.append_nil, List.length_map]
            have := kf_len (rows := rows) (p := p) (n := n) (i := i)
            omega
          refine hn_app rfl hg (by omega) ?_
          refine ev_tup (ea_cons (ev_var rfl (ea_cons (ev_op (ev_var rfl (ev_var rfl ?_))))))
          refine rv_ixT (atI_map (j := i) rfl hc) ?_
          refine ea_cons (ev_var rfl (ea_nil (lit3 ?_)))
          refine ⟨nm3, ⟨_, rfl⟩, ?_⟩
          apply List.ext_getElem?
          intro i'
          rw [List.getElem?_map]
          by_cases q : i' < shs.length
          · rw [List.getElem?_range q, Option.map_some, step i']
            by_cases q2 : i' = i
            · subst q2
              rw [List.getElem?_set_self (by simp; exact q), if_pos rfl, hk, if_pos hx]
              rfl
            · rw [List.getElem?_set_ne (fun z => q2 z.symm), List.getElem?_map, List.getElem?_range q, if_neg q2, List.append_nil]
              rfl
          · rw [List.getElem?_eq_none (by simp; omega), List.getElem?_eq_none (by simp; omega)]
            rfl
        have fin0 : (!isCh r || pn == some i) = false → (List.range shs.length).map (gf j) = (List.range shs.length).map (gf (j + 1)) := fun hx => by
          apply List.map_congr_left
          intro i' _
          rw [step i', hk, hx]
          by_cases q : i' = i
          · rw [if_pos q]; simp
          · rw [if_neg q, List.append_nil]
        have hcm : decide (n ∈ choices rows) = isCh r := by
          rw [Bool.eq_iff_iff, decide_eq_true_eq]
          exact choices_mem hd
        rw [hcm]
        refine ⟨_, rfl, ?_⟩
        refine ⟨fun hb => ⟨fun _ => ?_, fun z => nomatch z⟩, fun hb => ?_⟩
        · exact fin (by rw [show (!isCh r) = true from hb]; rfl)
        · refine et_test (ev_op (ev_op (ev_var rfl (ev_var rfl ?_))))
          refine rv_ixT (atI_map (j := n) rfl hpn) ?_
          refine ev_var rfl (rv_eqP ⟨_, rfl, ?_⟩)
          refine ⟨fun hc2 => ?_, fun hc2 => ?_⟩
          · exact fin (by rw [show (!isCh r) = false from hb, hc2]; rfl)
          · refine hn_nil ⟨nm3, ⟨_, rfl⟩, fin0 (by rw [show (!isCh r) = false from hb, hc2]; rfl)⟩
      · rintro G ll ⟨nm2, ⟨s5, rfl⟩, rfl⟩
        refine ⟨nm2, ⟨_, _, _, _, _, rfl⟩, ?_⟩
        rw [List.length_map]
        apply List.map_congr_left
        intro i hi
        show _ ++ _ = _
        rw [List.take_length, kf_succ hd, List.map_append]
        by_cases q : i ∈ inPlay r.parts
        · rw [if_pos q]
        · rw [if_neg q]
          have : r.parts.getD i none = none := by
            cases w : r.parts.getD i none with
            | none => rfl
            | some c =>
              exfalso
              apply q
              unfold inPlay
              refine List.mem_filter.mpr ⟨List.mem_range.mpr ?_, by rw [w]; rfl⟩
              rw [hpl]
              exact List.mem_range.mp hi
          unfold kn1
          rw [this]
          rfl
    · rintro G ll ⟨nm, _, rfl⟩
      have e : ((List.range shs.length).map fun i => (kf rows p (enumD (rows.map rowD)).length i).map knD).map Da.lst = (knAll shs.length rows p).map fun k => Da.lst (k.map knD) := by
        unfold knAll
        rw [List.map_map, List.map_map]
        apply List.map_congr_left
        intro i _
        show Da.lst _ = Da.lst _
        unfold kf kn
        rw [List.take_of_length_le (by rw [enumD_length, List.length_map, List.length_zipIdx]; exact Nat.le_refl _)]
      rw [e]
      exact hR
end
end Sc
/-! D20: the judge's making. -/
namespace Sc
open PySem L2
section
variable {P : Program} {w : World} {K : PySem.W.Frag} {mg : Str → Option Value} {base : Heap} {C : CA}
theorem has_checked_rowsT (F : FunAt K mg "checked_rows" s_checked_rows) (T : Tx mg) (O : OFx K C) (h_Forum_contains : HasM P w K mg base C.cForum "__contains__" 1 ["self", "case"] (spD K (W_Forum_contains C))) : Has P w K mg base "checked_rows" 2 ["forum", "top", "rows"] (spD K (W_checked_rowsT C)) := by
  refine hasD F sc_checked_rows (fun ds R h => ?_) (fun _ _ _ _ _ _ us hl => match us, hl with | [_, _, _], _ => rfl) fun f cdv A outer s H E hr => ⟨_, (pss_cons (ps_for PassesOwn.never rfl (pi_tup (pv 2)) (pg_tup rfl (pgs_cons (pg_name (i := 3) sc_checked_rows.nd rfl (by first | exact .inl rfl | exact .inr rfl)) (pgs_cons (pg_name (i := 4) sc_checked_rows.nd rfl (by first | exact .inl rfl | exact .inr rfl)) pgs_nil))) (pss_one (ps_if (pt_cmp (pc_ownN h_Forum_contains (hr.mono (by decide)) (pv 3) (pv 0))) (pss_one ps_never) pss_nil)))
      (pss_cons (ps_if (pt_not (pt_chain op_le op_le pe_int (pv 1) (pe_globE (v := MOST_TOP_v) rfl T.MOST_TOP))) (pss_one ps_never) pss_nil)
      (pss_cons (ps_for PassesOwn.never rfl (pi_tup (pv 2)) (pg_tup rfl (pgs_cons (pg_name (i := 4) sc_checked_rows.nd rfl (by first | exact .inl rfl | exact .inr rfl)) (pgs_cons (pg_name (i := 5) sc_checked_rows.nd rfl (by first | exact .inl rfl | exact .inr rfl)) pgs_nil))) (pss_one (ps_if (pt_not (pt_chain op_le op_le pe_int (pv 5) (pv 1))) (pss_one ps_never) pss_nil)))
      (pss_one (ps_ret (pe_callTy call_tuple_of (by rfl) T.tuple (by decide +kernel) (pa_cons (pe_lc (own := [("case", 3), ("grade", 5)]) (g := (gTup K 2 (gCons (gName 3) (gCons (gName 5) gNil)))) (tt := tYes) (te := (tTup (tCons (tVar 3) (tCons (tVar 5) tNil)))) rfl sc_checked_rows.nd (pi_tup (pv 2)) (blkOk_by (N := sc_checked_rows_N) (sc := defScope s_checked_rows) (by decide +kernel)) (fun _ _ _ _ _ => (pg_tup rfl (pgs_cons (pg_name (i := 3) sc_checked_rows.nd rfl (by first | exact .inl rfl | exact .inr rfl)) (pgs_cons (pg_name (i := 5) sc_checked_rows.nd rfl (by first | exact .inl rfl | exact .inr rfl)) pgs_nil)))) (fun _ _ _ _ _ => pts_nil) (fun _ _ _ _ _ => (pe_tup (pa_cons (pv 3) (pa_cons (pv 5) pa_nil))))) pa_nil))))))), fun ds R h => ?_⟩
  · obtain ⟨s, rfl, _⟩ := h
    rfl
  · obtain ⟨s, rfl, hR⟩ := h
    try dsimp only [cxOf, Cx.nox, Cx.wish]
    show Ho K _ [.val (fD C s), .val (.int 1), .val (.tup []), .un, .un, .un] _ _ _ _
    refine ho_seq (ho_for (ei_tup (ev_var rfl ⟨_, rfl, ?_⟩)))
    refine ⟨fun i G => G = [.val (fD C s), .val (.int 1), .val (.tup []), .un, .un, .un], rfl, fun i d G e => (nomatch e), ?_⟩
    rintro G rfl
    refine ho_seq (ho_if (et_not (et_test (ev_chain (ev_int (ev_var rfl (rv_le ⟨_, rfl, ?_⟩)))))))
    refine and_t (by decide) ?_
    refine ev_int (rv_le ⟨_, rfl, ?_⟩)
    refine and_f (by decide) ?_
    refine ho_nil (ho_seq (ho_for (ei_tup (ev_var rfl ⟨_, rfl, ?_⟩))))
    refine ⟨fun i G => G = [.val (fD C s), .val (.int 1), .val (.tup []), .un, .un, .un], rfl, fun i d G e => (nomatch e), ?_⟩
    rintro G rfl
    refine ho_ret (ev_cb (ea_cons (ev_lc (ei_tup (ev_var rfl ⟨_, rfl, ?_⟩)))))
    refine ⟨fun i acc => acc = [], rfl, fun i d acc e => (nomatch e), ?_⟩
    rintro acc rfl
    refine ea_nil (rc_tupL ?_)
    exact hR
-- Judge.__init__
abbrev s_Judge__init_ : Stmt := inClass (top 20) 1
abbrev sc_Judge__init__N : List Str := ["self", "forum", "top"]
theorem sc_Judge__init_ : FnScope sc_Judge__init__N ["self", "forum", "top"] (defScope s_Judge__init_) := ⟨rfl, rfl, rfl, by decide +kernel, rfl, by decide +kernel, by decide +kernel⟩
-- uses: checked_rowsT
-- slots: 0=self 1=forum 2=top

theorem fn_Judge_init {f : Addr} {fd : FuncData} (F : FunV K "__init__" "Judge.__init__" s_Judge__init_ f fd) (T : Tx mg) (O : OFx K C) (h_checked_rowsT : Has P w K mg base "checked_rows" 2 ["forum", "top", "rows"] (spD K (W_checked_rowsT C))) : FnOk P w K mg base CX0 3 f fd ["self", "forum", "top"] (spI K C.cFloorJudge (W_Judge_init C)) := by
  refine okI' F sc_Judge__init_ (fun fs ds R h => ?_) fun cdv A outer s H E hr => ⟨_, (pss_cons (ps_expr (pe_callH h_checked_rowsT (hr.mono (by decide)) rfl (pa_cons (pv 1) (pa_cons (pv 2) (pa_cons (pe_tup pa_nil) pa_nil)))))
      (pss_cons (ps_fld (pv 0) (pv 1) rfl)
      (pss_one (ps_fld (pv 0) (pv 2) rfl)))), fun self fs ds R h => ?_⟩
  · obtain ⟨s, x, rfl, rfl, _⟩ := h
    rfl
  · obtain ⟨s, x, rfl, rfl, hR⟩ := h
    try dsimp only [cxOf, Cx.nox, Cx.wish]
    show Ho K _ [.ino self C.cFloorJudge [("rows", x)], .val (fD C s), .val (.int 1)] _ _ _ _
    refine ho_seq (ho_drop (ev_call (ea_cons (ev_var rfl (ea_cons (ev_var rfl (ea_cons (ev_tup (ea_nil (lit0 (ea_nil ?_)))))))))))
    refine ⟨s, rfl, ?_⟩
    refine ho_seq ?_
    refine ho_fld rfl O.j O.j_forum (show 1 < 1000 by decide) ?_
    refine ev_var rfl ?_
    refine ho_fld rfl O.j O.j_top (show 2 < 1000 by decide) ?_
    refine ev_var rfl ⟨_, rfl, ?_⟩
    exact hR
theorem ini_run {t : TS} {n0 : Str} {N : List Str} {C0 : Addr} {W : WPI} {vs : List V} {H : Hp} {Q : VK} {E : XK} (h : spI K C0 W vs H Q E) (hd : ∀ self fs ds R, W fs ds R → Ho K t (.ino self C0 fs :: slots ds N.length) (fun G => ∃ fs', G[0]? = some (.ino self C0 fs') ∧ R fs') (fun _ => False) noG noG) :
    t { nx := fun _ H' => Q .non H', rt := fun _ _ => False } (L2.start (n0 :: N) vs) H := by
  obtain ⟨O, x, dx, gs, fs, ws, ds, R, rfl, hx, hO, hthere, rf, r, hw, hq⟩ := h
  have s0 := stv_start (N := N) hthere r
  have e0 : L2.start (n0 :: N) (V.ref x :: ws) = some (.ref x) :: L2.start N ws := by
    unfold L2.start
    simp
  have hs : StV K O (L2.start (n0 :: N) (V.ref x :: ws)) H (.ino x C0 fs :: slots ds N.length) := by
    rw [e0]
    refine ⟨by simp [s0.len], hthere, fun i sd q => ?_, fun i j si sj a q1 q2 m1 m2 e1 e2 => ?_⟩
    · cases i with
      | zero =>
        simp at q
        subst q
        exact ⟨dx, gs, rfl, hO, hx, rf⟩
      | succ i => exact s0.slot i sd (by simpa using q)
    · cases i with
      | succ i => cases (no_mine (show (slots ds N.length)[i]? = some si by simpa using q1)).symm.trans m1
      | zero =>
        cases j with
        | zero => rfl
        | succ j => cases (no_mine (show (slots ds N.length)[j]? = some sj by simpa using q2)).symm.trans m2
  let B : Hp := fun b => if b = x then none else H b
  have eB : Same B H := fun b o q => by
    by_cases z : b = x
    · have : B b = none := if_pos z
      rw [this] at q; cases q
    · have : B b = H b := if_neg z
      rw [this] at q; exact q
  refine hd x fs ds R hw B O O _ H _ ⟨hs, eB, fun _ z => z, fun _ z => .inl z, fun i l a q => ?_, fun i a C' fs2 q => ?_⟩ ⟨fun O' σ H' G p s => ?_, fun _ _ _ p => p.elim, fun _ _ _ _ p => p.elim, fun _ _ _ _ p => p.elim⟩
  · cases i with
    | zero => simp at q
    | succ i => cases no_mine (show (slots ds N.length)[i]? = some (.own l) by simpa using q)
  · cases i with
    | zero =>
      simp at q
      obtain ⟨rfl, _⟩ := q
      exact if_pos rfl
    | succ i => cases no_mine (show (slots ds N.length)[i]? = some (.ino a C' fs2) by simpa using q)
  · obtain ⟨fs', q, p⟩ := p
    obtain ⟨dx', gs', h1, h2, h3, h4⟩ := s.st.slot 0 _ q
    refine hq H' dx' gs' fs' p (fun b o n e => s.base b o ?_) h3 (h4.mono (hid_sub s.sub))
    show (if b = x then none else H b) = some o
    rw [if_neg n]
    exact e
abbrev s_FloorJudge__init_ : Stmt := inClass (top 21) 1
abbrev sc_FloorJudge__init__N : List Str := ["self", "forum", "top", "rows"]
theorem sc_FloorJudge__init_ : SupScope sc_FloorJudge__init__N ["self", "forum", "top", "rows"] (defScope s_FloorJudge__init_) := ⟨rfl, rfl, rfl, by decide +kernel, rfl, fun x hx => by
  simp at hx
  rcases hx with rfl | rfl | rfl | rfl <;> rfl, fun x hx =>
  (show ∀ y ∈ (defScope s_FloorJudge__init_).names, y.2 = .free → y.1 = "__class__" by decide +kernel) _ (PySem.mem_of_lookup hx) rfl, by decide +kernel, rfl, rfl, rfl⟩
structure JudgeAt (P : Program) (K : PySem.W.Frag) (mg : Str → Option Value) (C : CA) : Prop where
  ex : ∃ (f : Addr) (fd : FuncData) (f2 : Addr) (fd2 : FuncData), SupAt P K mg "__init__" "FloorJudge.__init__" s_FloorJudge__init_ C.cFloorJudge C.cFloorJudge f2 f fd ∧ Binds K fd ["self", "forum", "top", "rows"] [] ∧
    FunV K "__init__" "Judge.__init__" s_Judge__init_ f2 fd2 ∧ Binds K fd2 ["self", "forum", "top"] [] ∧ Mk K C.cFloorJudge f ∧ mg "FloorJudge" = some (.ref C.cFloorJudge)
theorem has_FloorJudge_init (F : JudgeAt P K mg C) (T : Tx mg) (O : OFx K C) (h_checked_rows : Has P w K mg base "checked_rows" 2 ["forum", "top", "rows"] (spD K (W_checked_rows C))) (h_checked_rowsT : Has P w K mg base "checked_rows" 2 ["forum", "top", "rows"] (spD K (W_checked_rowsT C))) :
    HasC P w K mg base "FloorJudge" C.cFloorJudge 5 ["self", "forum", "top", "rows"] (spI K C.cFloorJudge (W_FloorJudge_init C)) := by
  obtain ⟨f, fd, f2, fd2, S, hb, F2, hb2, M, hx⟩ := F.ex
  refine ⟨f, fd, FnOk.mono (okSup (k := 3) (sp2 := spI K C.cFloorJudge (W_Judge_init C)) S sc_FloorJudge__init_ rfl rfl rfl (fn_Judge_init F2 T O h_checked_rowsT) hb2 (fun _ _ _ _ => rfl) (fun vs H Q E h => ?_) fun cdv cc A outer s H vs Q E hr hsp => ?_) (by decide), M, hx, hb⟩
  · obtain ⟨O', x, dx, gs, fs, ws, ds, R, rfl, _, _, _, _, r, hw, _⟩ := h
    obtain ⟨s, b, rfl, rfl, _⟩ := hw
    have := r.length
    simpa using this
  · refine ⟨_, _, ps_fld (pv 0) (pe_callH h_checked_rows (hr.mono (by decide)) rfl (pa_cons (pv 1) (pa_cons (pv 2) (pa_cons (pv 3) pa_nil)))) rfl, pa_cons (pv 1) (pa_cons (pv 2) pa_nil), rfl, rfl, rfl, ⟨_, rfl⟩, ini_run (N := ["forum", "top", "rows"]) hsp fun self fs ds R h => ?_⟩
    obtain ⟨s, b, rfl, rfl, hs, hbl, hbc, hR⟩ := h
    show Ho K _ [.ino self C.cFloorJudge [], .val (fD C s), .val (.int 1), .val (.lst (b.map decD))] _ _ _ _
    refine ho_seq ?_
    refine ho_fld rfl O.j O.j_rows (by decide) ?_
    refine ev_call (ea_cons (ev_var rfl (ea_cons (ev_var rfl (ea_cons (ev_var rfl (ea_nil ?_)))))))
    refine ⟨s, b, rfl, hs, hbl, hbc, ?_⟩
    refine ho_sup rfl ?_
    refine ea_cons (ev_var rfl (ea_cons (ev_var rfl (ea_nil ?_))))
    exact ⟨s, _, rfl, rfl, _, rfl, hR⟩
end
end Sc
/-! D17: letters; the panel of picks; the same. -/
namespace Sc
open PySem L2
def W_distinct_letters : WP := fun ds R => ∃ z : Str, ds = [.str z] ∧ z.length ≤ 1000 ∧ z.cps.toList.Nodup ∧ (∀ c ∈ z.cps.toList, 97 ≤ c ∧ c ≤ 122) ∧ R (.bl true)
section
variable {P : Program} {w : World} {K : PySem.W.Frag} {mg : Str → Option Value} {base : Heap} {C : CA}
-- distinct_letters
abbrev s_distinct_letters : Stmt := top 25
abbrev sc_distinct_letters_N : List Str := ["text", "letter"]
theorem sc_distinct_letters : FnScope sc_distinct_letters_N ["text"] (defScope s_distinct_letters) := ⟨rfl, rfl, rfl, by decide +kernel, rfl, by decide +kernel, by decide +kernel⟩
-- uses: g:LETTERS
-- slots: 0=text 1=letter

theorem has_distinct_letters (F : FunAt K mg "distinct_letters" s_distinct_letters) (T : Tx mg)  : Has P w K mg base "distinct_letters" 1 ["text"] (spD K (W_distinct_letters)) := by
  refine hasD F sc_distinct_letters (fun ds R h => ?_) (fun _ _ _ _ _ _ us hl => match us, hl with | [_], _ => rfl) fun f cdv A outer s H E hr => ⟨_, (pss_cons (ps_for PassesOwn.never rfl (pi_str (pv 0)) (pg_name (i := 1) sc_distinct_letters.nd rfl (by first | exact .inl rfl | exact .inr rfl)) (pss_one (ps_if (PW.pt (pw_or (pt_cmpR op_notIn_sign (pv 1) (pe_globE (v := LETTERS_v) rfl T.LETTERS) rfl) (pw_or1 (pt_cmpR op_gt (pe_m1 PySem.F.slot_str_count PySem.F.type_str_count mt_count (pv 0) (pv 1)) pe_int (nomark _))))) (pss_one (ps_ret pe_bl)) pss_nil)))
      (pss_one (ps_ret pe_bl))), fun ds R h => ?_⟩
  · obtain ⟨z, rfl, _⟩ := h
    rfl
  · obtain ⟨z, rfl, hn, hd, hz, hR⟩ := h
    show Ho K _ [.val (.str z), .un] _ _ _ _
    refine ho_seq (ho_for (ei_str (ev_var rfl ⟨_, rfl, ?_⟩)))
    refine ⟨fun i G => ∃ s1, G = [.val (.str z), s1], ⟨_, rfl⟩, ?_, ?_⟩
    · rintro i d G e ⟨s1, rfl⟩
      unfold signsD at e
      obtain ⟨c, hc, rfl⟩ := map_inv e
      have hm := List.mem_of_getElem? hc
      refine gn_name trivial (ho_if (et_or (et_test (ev_op (ev_var rfl (ev_str ?_))))))
      refine rv_notInSign ?_
      refine ⟨_, rfl, ?_⟩
      have hin : c ∈ ("abcdefghijklmnopqrstuvwxyz" : Str).cps.toList := by
        have := hz c hm
        have e : ("abcdefghijklmnopqrstuvwxyz" : Str).cps.toList = (List.range 26).map (· + 97) := by decide +kernel
        rw [e]
        exact List.mem_map.mpr ⟨c - 97, List.mem_range.mpr (by omega), by omega⟩
      refine and_f (by rw [decide_eq_true hin]; rfl) ?_
      refine et_test (ev_op (ev_count (ev_var rfl ⟨_, rfl, (ev_var rfl ⟨_, rfl, (ev_int (rv_gt ⟨_, rfl, ?_⟩))⟩)⟩)))
      rw [PyProof.Rows.count_cnt]
      have hcn : ∀ l : List Nat, l.Nodup → PyProof.Rows.cnt c l ≤ 1 ∧ (c ∉ l → PyProof.Rows.cnt c l = 0) := by
        intro l
        induction l with
        | nil => exact fun _ => ⟨by rw [PyProof.Rows.cnt_nil]; decide, fun _ => rfl⟩
        | cons x l ih =>
          intro hnd
          obtain ⟨h1, h2⟩ := List.nodup_cons.mp hnd
          obtain ⟨i1, i2⟩ := ih h2
          rw [PyProof.Rows.cnt_cons]
          by_cases q : x = c
          · subst q
            rw [if_pos rfl, i2 h1]
            exact ⟨by decide, fun hx => absurd (List.mem_cons_self) hx⟩
          · rw [if_neg q]
            refine ⟨by omega, fun hx => ?_⟩
            rw [i2 fun y => hx (List.mem_cons_of_mem _ y)]
            rfl
      have h1 := (hcn _ hd).1
      refine and_f (decide_eq_false (by omega)) ?_
      refine ho_nil ?_
      exact ⟨_, rfl⟩
    · rintro G ⟨s1, rfl⟩
      refine ho_ret (ev_bl ?_)
      exact hR
-- panel_of
abbrev s_panel_of : Stmt := top 44
abbrev sc_panel_of_N : List Str := ["rulings", "picks", "judges", "forum", "rows", "_", "case", "grade"]
theorem sc_panel_of : FnScope sc_panel_of_N ["rulings", "picks"] (defScope s_panel_of) := ⟨rfl, rfl, rfl, by decide +kernel, rfl, by decide +kernel, by decide +kernel⟩
-- uses: known_parts g:zip FloorJudge.__init__ Panel.__init__
-- slots: 0=rulings 1=picks 2=judges 3=forum 4=rows 5=_ 6=case 7=grade

theorem has_panel_of (F : FunAt K mg "panel_of" s_panel_of) (T : Tx mg) (O : OFx K C) (h_known_parts : Has P w K mg base "known_parts" 2 ["rulings", "picks"] (spD K (W_known_parts C))) (h_FloorJudge_init : HasC P w K mg base "FloorJudge" C.cFloorJudge 5 ["self", "forum", "top", "rows"] (spI K C.cFloorJudge (W_FloorJudge_init C))) (h_Panel_init : HasC P w K mg base "Panel" C.cPanel 3 ["self", "suit", "judges"] (spI K C.cPanel (W_Panel_init C))) : Has P w K mg base "panel_of" 7 ["rulings", "picks"] (spD K (W_panel_of C)) := by
  refine hasD F sc_panel_of (fun ds R h => ?_) (fun _ _ _ _ _ _ us hl => match us, hl with | [_, _], _ => rfl) fun f cdv A outer s H E hr => ⟨_, (pss_cons (ps_set (i := 2) sc_panel_of.nd rfl (Or.inl rfl) (pe_lst pa_nil))
      (pss_cons (ps_for PassesOwn.never rfl (pi_zipK false true (by rfl) T.zip (pa_cons (pe_fld (pe_fld (pv 0) rfl) rfl) (pa_cons (pe_callH h_known_parts (hr.mono (by decide)) rfl (pa_cons (pv 0) (pa_cons (pv 1) pa_nil))) pa_nil))) (pg_tup rfl (pgs_cons (pg_name (i := 3) sc_panel_of.nd rfl (by first | exact .inl rfl | exact .inr rfl)) (pgs_cons (pg_name (i := 4) sc_panel_of.nd rfl (by first | exact .inl rfl | exact .inr rfl)) pgs_nil))) (pss_one (ps_expr (pe_bm PySem.F.plainAttrs_list PySem.F.slot_list_append PySem.F.type_list_append mt_append (pv 2) (pa_cons (pe_makeH h_FloorJudge_init (hr.mono (by decide)) rfl (pa_cons (pv 3) (pa_cons pe_int (pa_cons (pe_lc (own := [("_", 5), ("case", 6), ("grade", 7)]) (g := (gTup K 3 (gCons (gName 5) (gCons (gName 6) (gCons (gName 7) gNil))))) (tt := tYes) (te := (tTup (tCons (tVar 6) (tCons (tVar 7) tNil)))) rfl sc_panel_of.nd (pi_list (pv 4)) (blkOk_by (N := sc_panel_of_N) (sc := defScope s_panel_of) (by decide +kernel)) (fun _ _ _ _ _ => (pg_tup rfl (pgs_cons (pg_name (i := 5) sc_panel_of.nd rfl (by first | exact .inl rfl | exact .inr rfl)) (pgs_cons (pg_name (i := 6) sc_panel_of.nd rfl (by first | exact .inl rfl | exact .inr rfl)) (pgs_cons (pg_name (i := 7) sc_panel_of.nd rfl (by first | exact .inl rfl | exact .inr rfl)) pgs_nil))))) (fun _ _ _ _ _ => pts_nil) (fun _ _ _ _ _ => (pe_tup (pa_cons (pv 6) (pa_cons (pv 7) pa_nil))))) pa_nil)))) pa_nil)))))
      (pss_one (ps_ret (pe_makeH h_Panel_init (hr.mono (by decide)) rfl (pa_cons (pe_fld (pv 0) rfl) (pa_cons (pv 2) pa_nil))))))), fun ds R h => ?_⟩
  · obtain ⟨shs, rows, p, rfl, _⟩ := h
    rfl
  · obtain ⟨shs, rows, p, rfl, hs, hr, hp, hR⟩ := h
    try dsimp only [cxOf, Cx.nox, Cx.wish]
    show Ho K _ [.val (rD C shs rows), .val (picksD p), .un, .un, .un, .un, .un, .un] _ _ _ _
    have h3 := hs.hi
    have h6 := hr.len
    refine ho_seq ?_
    refine ho_own (en_lst ?_)
    refine ea_nil (lit0 (ho_seq (ho_for (ei_zTL (ea_cons (ev_fld (ev_fld (ev_var rfl (gFld rfl (OFx.r O) (OFx.r_suit O) rfl (gFld rfl (OFx.s O) (OFx.s_forums O) rfl (ea_cons (ev_call (ea_cons (ev_var rfl (ea_cons (ev_var rfl (ea_nil ?_)))))))))))))))))
    refine ⟨shs, rows, p, rfl, hs, hr, hp, ?_⟩
    refine ea_nil ⟨_, _, rfl, ?_⟩
    rw [zipD_map]
    have hkl : (knAll shs.length rows p).length = shs.length := by simp [knAll]
    have hLl : (panelL shs rows p).length = shs.length := by simp [panelL]
    refine ⟨fun i G => ∃ s3 s4, G = [.val (rD C shs rows), .val (picksD p), .own (((panelL shs rows p).take i).map (jD C)), s3, s4, .un, .un, .un], ⟨_, _, rfl⟩, ?_, ?_⟩
    · rintro i d G e ⟨s3, s4, rfl⟩
      obtain ⟨⟨s, m⟩, hd, rfl⟩ := map_inv e
      obtain ⟨hs1, hm⟩ := List.getElem?_zip_eq_some.mp hd
      obtain ⟨hi, rfl⟩ := knAll_get hm
      have hj : (panelL shs rows p)[i]? = some (s, (kn rows p i).map fun k => k.2) := by
        unfold panelL
        have hs1 : shs[i]? = some s := hs1
        rw [List.getElem?_map, List.getElem?_zipIdx, hs1]
        simp
      refine gn_tup rfl (gns_cons (gn_name trivial (gns_cons (gn_name trivial (gns_nil (ho_app rfl (ev_make (ea_cons (ev_var rfl (ea_cons (ev_int (ea_cons (ev_lc (ei_list (ev_var rfl ⟨_, rfl, ?_⟩)))))))))))))))
      refine lc_list (f := knD) (h := fun k => decD k.2) (by show (kn rows p i).length ≤ 100000; have := kn_len (rows := rows) (p := p) (i := i); omega) (fun j k hk => ?_) ?_
      · exact gn_tup rfl (gns_cons (gn_name (by decide) (gns_cons (gn_name (by decide) (gns_cons (gn_name (by decide) (gns_nil (ev_tup (ea_cons (ev_var rfl (ea_cons (ev_var rfl (ea_nil (lit2 (rfl)))))))))))))))
      · refine ea_nil ?_
        refine ⟨s, (kn rows p i).map fun k => k.2, rfl, by rw [List.map_map]; rfl, hs.ok s (List.mem_of_getElem? hs1), by rw [List.length_map]; have := kn_len (rows := rows) (p := p) (i := i); omega, fun d hd => ?_, ?_⟩
        · obtain ⟨k, hk, rfl⟩ := List.mem_map.mp hd
          obtain ⟨s', h1, h2⟩ := kn_case hr hk
          have hs1 : shs[i]? = some s := hs1
          rw [hs1] at h1
          cases h1
          exact h2
        · refine ⟨by rw [List.length_map, List.length_take]; omega, ?_⟩
          dsimp only
          rw [take_succ hj, List.map_append]
          exact ⟨_, _, rfl⟩
    · rintro G ⟨s3, s4, rfl⟩
      rw [List.length_map, List.length_zip, hkl, Nat.min_self, ← hLl, List.take_length]
      refine ho_frz 2 rfl ?_
      refine ho_ret (ev_make (ea_cons (ev_fld (ev_var rfl (gFld rfl (OFx.r O) (OFx.r_suit O) rfl (ea_cons (ev_var rfl (ea_nil ?_))))))))
      have e : (panelL shs rows p).map (·.1) = shs := by
        unfold panelL
        rw [List.map_map]
        exact List.zipIdx_map_fst _ _
      refine ⟨panelL shs rows p, rfl, by rw [e], ⟨by rw [e]; exact hs, fun j hj => ?_⟩, hR⟩
      unfold panelL at hj
      obtain ⟨⟨s, i⟩, hq, rfl⟩ := List.mem_map.mp hj
      have hs1 : shs[i]? = some s := List.mem_zipIdx_iff_getElem?.mp hq
      refine ⟨by show ((kn rows p i).map fun k => k.2).length ≤ 6; rw [List.length_map]; have := kn_len (rows := rows) (p := p) (i := i); omega, fun d hd => ?_⟩
      obtain ⟨k, hk, rfl⟩ := List.mem_map.mp hd
      obtain ⟨s', h1, h2⟩ := kn_case hr hk
      rw [hs1] at h1
      cases h1
      exact h2
end
end Sc
/-! D19: the same. -/
namespace Sc
open PySem L2
local macro_rules | `(tactic| walk_at "new") => `(tactic| (first
  | (with_reducible refine ho_own (en_lst ?_))
  | (with_reducible refine ho_own (en_lc ?_))
  | (with_reducible refine ho_own (en_lc2 ?_))
  | (with_reducible refine ho_own (en_slL ?_))
  | (with_reducible refine ho_own (en_revL ?_))
  | (with_reducible refine ho_own (en_op (r := rCat) ?_))
  | (with_reducible refine ho_own (en_op (r := rRep) ?_))
  | (with_reducible refine ho_own (en_cb (r := ListT _) ?_))))
local macro_rules | `(tactic| walk_at "ev") => `(tactic| repeat (first
  | (with_reducible refine ho_seq ?_)
  | ((fail_if_success (first | (with_reducible refine ho_own (en_lst ?_)) | (with_reducible refine ho_own (en_lc ?_)) | (with_reducible refine ho_own (en_lc2 ?_)) | (with_reducible refine ho_own (en_slL ?_)) | (with_reducible refine ho_own (en_revL ?_)) | (with_reducible refine ho_own (en_op (r := rCat) ?_)) | (with_reducible refine ho_own (en_op (r := rRep) ?_)) | (with_reducible refine ho_own (en_cb (r := ListT _) ?_)))); (with_reducible refine ho_set ?_))
  | (with_reducible refine ho_ret ?_)
  | (with_reducible refine ho_if ?_)
  | (with_reducible refine ho_nil ?_)
  | ((with_reducible refine' ho_app ?hv ?_); (case hv => exact rfl))
  | (with_reducible refine ho_drop ?_)
  | (with_reducible refine ho_break ?_)
  | (with_reducible refine ho_cont ?_)
  | (with_reducible refine ev_int ?_)
  | (with_reducible refine ev_bl ?_)
  | (with_reducible refine ev_non ?_)
  | (with_reducible refine ev_str ?_)
  | ((with_reducible refine' ev_var ?hv ?_); (case hv => exact rfl))
  | ((with_reducible refine' ev_ixO _ ?hv ?_); (case hv => exact rfl))
  | (with_reducible refine ev_op ?_)
  | (with_reducible refine ev_un ?_)
  | (with_reducible refine ea_nil ?_)
  | (with_reducible refine ea_cons ?_)
  | ((with_reducible refine' ev_lenO _ ?hv ?_); (case hv => exact rfl))
  | (with_reducible refine ev_isi ?_)
  | (with_reducible refine ev_cb ?_)
  | (with_reducible refine ev_call ?_)
  | (with_reducible refine ev_make ?_)
  | (with_reducible refine ev_meth ?_)
  | (with_reducible refine ev_prop ?_)
  | (with_reducible refine ev_ownCall ?_)
  | (with_reducible refine ev_fld ?_)
  | (with_reducible refine ev_tup ?_)
  | (with_reducible refine ev_lst ?_)
  | (with_reducible refine ev_lc ?_)
  | (with_reducible refine ev_slL ?_)
  | (with_reducible refine ev_slT ?_)
  | (with_reducible refine ev_slS ?_)
  | (with_reducible refine ev_revL ?_)
  | (with_reducible refine ev_ownIn ?_)
  | (with_reducible refine ev_dIn ?_)
  | (with_reducible refine ev_count ?_)
  | (with_reducible refine ev_join ?_)
  | (with_reducible refine et_test ?_)
  | (with_reducible refine et_B ?_)
  | (with_reducible refine et_and ?_)
  | (with_reducible refine et_or ?_)
  | (with_reducible refine et_not ?_)
  | ((with_reducible refine' et_truO _ ?hv ?_); (case hv => exact rfl))
  | (with_reducible refine et_truth ?_)
  | (with_reducible refine et_yes ?_)
  | (with_reducible refine ev_andV ?_)
  | (with_reducible refine ev_orV ?_)
  | (with_reducible refine ev_notV ?_)
  | (with_reducible refine ev_isN ?_)
  | (with_reducible refine ev_notN ?_)
  | (with_reducible refine ev_chain ?_)
  | (with_reducible refine ru_neg ?_)
  | (with_reducible refine rv_add ?_)
  | (with_reducible refine rv_sub ?_)
  | (with_reducible refine rv_mulC ?_)
  | (with_reducible refine rv_modC ?_)
  | (with_reducible refine rv_divC ?_)
  | (with_reducible refine rv_powC ?_)
  | (with_reducible refine rv_lt ?_)
  | (with_reducible refine rv_le ?_)
  | (with_reducible refine rv_gt ?_)
  | (with_reducible refine rv_ge ?_)
  | (with_reducible refine rv_eqP ?_)
  | (with_reducible refine rv_eqI ?_)
  | (with_reducible refine rv_neI ?_)
  | (with_reducible refine rv_eqB ?_)
  | (with_reducible refine rv_eqS ?_)
  | (with_reducible refine rv_neS ?_)
  | (with_reducible refine rv_eqNI ?_)
  | ((with_reducible refine' rv_ixT ?hv ?_); (case hv => exact rfl))
  | ((with_reducible refine' rv_ixL ?hv ?_); (case hv => exact rfl))
  | (with_reducible refine rv_catT ?_)
  | (with_reducible refine rv_catL ?_)
  | (with_reducible refine rn_catL ?_)
  | (with_reducible refine rv_repL ?_)
  | (with_reducible refine rv_addT ?_)
  | (with_reducible refine rc_int ?_)
  | (with_reducible refine rc_intB ?_)
  | (with_reducible refine rc_abs ?_)
  | (with_reducible refine rc_max2 ?_)
  | (with_reducible refine rc_min2 ?_)
  | (with_reducible refine rc_lenR ?_)
  | (with_reducible refine rc_lenL ?_)
  | (with_reducible refine rc_lenT ?_)
  | (with_reducible refine rc_lenC ?_)
  | (with_reducible refine rc_tupL ?_)
  | (with_reducible refine rc_tupT ?_)
  | (with_reducible refine rc_listL ?_)
  | (with_reducible refine rc_listT ?_)
  | (with_reducible refine ei_range1 ?_)
  | (with_reducible refine ei_range2 ?_)
  | (with_reducible refine ei_list ?_)
  | (with_reducible refine ei_tup ?_)
  | (with_reducible refine ei_enL ?_)
  | (with_reducible refine ei_enT ?_)
  | (with_reducible refine ei_zTT ?_)
  | (with_reducible refine ei_zTL ?_)
  | (with_reducible refine ei_zLT ?_)
  | (with_reducible refine ei_str ?_)
  | (with_reducible refine gn_name trivial ?_)
  | (with_reducible refine gn_name (by decide) ?_)
  | (with_reducible refine gn_tup rfl ?_)
  | (with_reducible refine gns_cons ?_)
  | (with_reducible refine gns_nil ?_)
  | (with_reducible refine ho_for ?_)
  | (with_reducible refine eo_none ?_)
  | (with_reducible refine eo_some ?_)
  | ((with_reducible refine' gMod ?hv ?_); (case hv => decide))
  | ((with_reducible refine' gDiv ?hv ?_); (case hv => decide))
  | ((with_reducible refine' gMulR ?hv ?_); (case hv => decide))
  | ((with_reducible refine' gMulL ?hv ?_); (case hv => decide))
  | ((with_reducible refine' gPow ?hv ?_); (case hv => decide))
  | (with_reducible refine tt_and ?_)
  | (with_reducible refine ff_and ?_)
  | (with_reducible refine lit0 ?_)
  | (with_reducible refine lit1 ?_)
  | (with_reducible refine lit2 ?_)
  | (with_reducible refine lit3 ?_)
  | (with_reducible refine lit4 ?_)
  | (with_reducible refine ⟨_, rfl, ?_⟩)
  | (with_reducible refine ⟨_, _, rfl, ?_⟩)
  | ((with_reducible refine' gLook ?hv ?_); (case hv => rfl))
  | ((with_reducible refine' gFld ?he ?h1 ?h2 ?h3 ?_); (case he => with_reducible rfl); (case h1 => first | (with_reducible exact OFx.f (by assumption)) | (with_reducible exact OFx.s (by assumption)) | (with_reducible exact OFx.r (by assumption)) | (with_reducible exact OFx.j (by assumption)) | (with_reducible exact OFx.p (by assumption)) | (with_reducible exact OFx.f_pro (by assumption)) | (with_reducible exact OFx.f_con (by assumption)) | (with_reducible exact OFx.f_tops (by assumption)) | (with_reducible exact OFx.f_limits (by assumption)) | (with_reducible exact OFx.f_steps (by assumption)) | (with_reducible exact OFx.f_cases (by assumption)) | (with_reducible exact OFx.f_numbers (by assumption)) | (with_reducible exact OFx.s_forums (by assumption)) | (with_reducible exact OFx.r_suit (by assumption)) | (with_reducible exact OFx.r_rows (by assumption)) | (with_reducible exact OFx.j_rows (by assumption)) | (with_reducible exact OFx.j_forum (by assumption)) | (with_reducible exact OFx.j_top (by assumption)) | (with_reducible exact OFx.p_suit (by assumption)) | (with_reducible exact OFx.p_judges (by assumption))); (case h2 => first | (with_reducible exact OFx.f (by assumption)) | (with_reducible exact OFx.s (by assumption)) | (with_reducible exact OFx.r (by assumption)) | (with_reducible exact OFx.j (by assumption)) | (with_reducible exact OFx.p (by assumption)) | (with_reducible exact OFx.f_pro (by assumption)) | (with_reducible exact OFx.f_con (by assumption)) | (with_reducible exact OFx.f_tops (by assumption)) | (with_reducible exact OFx.f_limits (by assumption)) | (with_reducible exact OFx.f_steps (by assumption)) | (with_reducible exact OFx.f_cases (by assumption)) | (with_reducible exact OFx.f_numbers (by assumption)) | (with_reducible exact OFx.s_forums (by assumption)) | (with_reducible exact OFx.r_suit (by assumption)) | (with_reducible exact OFx.r_rows (by assumption)) | (with_reducible exact OFx.j_rows (by assumption)) | (with_reducible exact OFx.j_forum (by assumption)) | (with_reducible exact OFx.j_top (by assumption)) | (with_reducible exact OFx.p_suit (by assumption)) | (with_reducible exact OFx.p_judges (by assumption))); (case h3 => rfl))
  | (with_reducible rfl)))
local macro_rules | `(tactic| walk_at "evi") => `(tactic| repeat (first
  | (with_reducible refine ho_seq ?_)
  | ((fail_if_success (first | (with_reducible refine ho_own (en_lst ?_)) | (with_reducible refine ho_own (en_lc ?_)) | (with_reducible refine ho_own (en_lc2 ?_)) | (with_reducible refine ho_own (en_slL ?_)) | (with_reducible refine ho_own (en_revL ?_)) | (with_reducible refine ho_own (en_op (r := rCat) ?_)) | (with_reducible refine ho_own (en_op (r := rRep) ?_)) | (with_reducible refine ho_own (en_cb (r := ListT _) ?_)))); (with_reducible refine ho_set ?_))
  | (with_reducible refine ho_ret ?_)
  | (with_reducible refine ho_nil ?_)
  | ((with_reducible refine' ho_app ?hv ?_); (case hv => exact rfl))
  | (with_reducible refine ho_drop ?_)
  | (with_reducible refine ho_break ?_)
  | (with_reducible refine ho_cont ?_)
  | (with_reducible refine ev_int ?_)
  | (with_reducible refine ev_bl ?_)
  | (with_reducible refine ev_non ?_)
  | (with_reducible refine ev_str ?_)
  | ((with_reducible refine' ev_var ?hv ?_); (case hv => exact rfl))
  | ((with_reducible refine' ev_ixO _ ?hv ?_); (case hv => exact rfl))
  | (with_reducible refine ev_op ?_)
  | (with_reducible refine ev_un ?_)
  | (with_reducible refine ea_nil ?_)
  | (with_reducible refine ea_cons ?_)
  | ((with_reducible refine' ev_lenO _ ?hv ?_); (case hv => exact rfl))
  | (with_reducible refine ev_isi ?_)
  | (with_reducible refine ev_cb ?_)
  | (with_reducible refine ev_call ?_)
  | (with_reducible refine ev_make ?_)
  | (with_reducible refine ev_meth ?_)
  | (with_reducible refine ev_prop ?_)
  | (with_reducible refine ev_ownCall ?_)
  | (with_reducible refine ev_fld ?_)
  | (with_reducible refine ev_tup ?_)
  | (with_reducible refine ev_lst ?_)
  | (with_reducible refine ev_lc ?_)
  | (with_reducible refine ev_slL ?_)
  | (with_reducible refine ev_slT ?_)
  | (with_reducible refine ev_slS ?_)
  | (with_reducible refine ev_revL ?_)
  | (with_reducible refine ev_ownIn ?_)
  | (with_reducible refine ev_dIn ?_)
  | (with_reducible refine ev_count ?_)
  | (with_reducible refine ev_join ?_)
  | (with_reducible refine et_test ?_)
  | (with_reducible refine et_B ?_)
  | (with_reducible refine et_and ?_)
  | (with_reducible refine et_or ?_)
  | (with_reducible refine et_not ?_)
  | ((with_reducible refine' et_truO _ ?hv ?_); (case hv => exact rfl))
  | (with_reducible refine et_truth ?_)
  | (with_reducible refine et_yes ?_)
  | (with_reducible refine ev_andV ?_)
  | (with_reducible refine ev_orV ?_)
  | (with_reducible refine ev_notV ?_)
  | (with_reducible refine ev_isN ?_)
  | (with_reducible refine ev_notN ?_)
  | (with_reducible refine ev_chain ?_)
  | (with_reducible refine ru_neg ?_)
  | (with_reducible refine rv_add ?_)
  | (with_reducible refine rv_sub ?_)
  | (with_reducible refine rv_mulC ?_)
  | (with_reducible refine rv_modC ?_)
  | (with_reducible refine rv_divC ?_)
  | (with_reducible refine rv_powC ?_)
  | (with_reducible refine rv_lt ?_)
  | (with_reducible refine rv_le ?_)
  | (with_reducible refine rv_gt ?_)
  | (with_reducible refine rv_ge ?_)
  | (with_reducible refine rv_eqP ?_)
  | (with_reducible refine rv_eqI ?_)
  | (with_reducible refine rv_neI ?_)
  | (with_reducible refine rv_eqB ?_)
  | (with_reducible refine rv_eqS ?_)
  | (with_reducible refine rv_neS ?_)
  | (with_reducible refine rv_eqNI ?_)
  | ((with_reducible refine' rv_ixT ?hv ?_); (case hv => exact rfl))
  | ((with_reducible refine' rv_ixL ?hv ?_); (case hv => exact rfl))
  | (with_reducible refine rv_catT ?_)
  | (with_reducible refine rv_catL ?_)
  | (with_reducible refine rn_catL ?_)
  | (with_reducible refine rv_repL ?_)
  | (with_reducible refine rv_addT ?_)
  | (with_reducible refine rc_int ?_)
  | (with_reducible refine rc_intB ?_)
  | (with_reducible refine rc_abs ?_)
  | (with_reducible refine rc_max2 ?_)
  | (with_reducible refine rc_min2 ?_)
  | (with_reducible refine rc_lenR ?_)
  | (with_reducible refine rc_lenL ?_)
  | (with_reducible refine rc_lenT ?_)
  | (with_reducible refine rc_lenC ?_)
  | (with_reducible refine rc_tupL ?_)
  | (with_reducible refine rc_tupT ?_)
  | (with_reducible refine rc_listL ?_)
  | (with_reducible refine rc_listT ?_)
  | (with_reducible refine ei_range1 ?_)
  | (with_reducible refine ei_range2 ?_)
  | (with_reducible refine ei_list ?_)
  | (with_reducible refine ei_tup ?_)
  | (with_reducible refine ei_enL ?_)
  | (with_reducible refine ei_enT ?_)
  | (with_reducible refine ei_zTT ?_)
  | (with_reducible refine ei_zTL ?_)
  | (with_reducible refine ei_zLT ?_)
  | (with_reducible refine ei_str ?_)
  | (with_reducible refine gn_name trivial ?_)
  | (with_reducible refine gn_name (by decide) ?_)
  | (with_reducible refine gn_tup rfl ?_)
  | (with_reducible refine gns_cons ?_)
  | (with_reducible refine gns_nil ?_)
  | (with_reducible refine ho_for ?_)
  | (with_reducible refine eo_none ?_)
  | (with_reducible refine eo_some ?_)
  | ((with_reducible refine' gMod ?hv ?_); (case hv => decide))
  | ((with_reducible refine' gDiv ?hv ?_); (case hv => decide))
  | ((with_reducible refine' gMulR ?hv ?_); (case hv => decide))
  | ((with_reducible refine' gMulL ?hv ?_); (case hv => decide))
  | ((with_reducible refine' gPow ?hv ?_); (case hv => decide))
  | (with_reducible refine tt_and ?_)
  | (with_reducible refine ff_and ?_)
  | (with_reducible refine lit0 ?_)
  | (with_reducible refine lit1 ?_)
  | (with_reducible refine lit2 ?_)
  | (with_reducible refine lit3 ?_)
  | (with_reducible refine lit4 ?_)
  | (with_reducible refine ⟨_, rfl, ?_⟩)
  | (with_reducible refine ⟨_, _, rfl, ?_⟩)
  | ((with_reducible refine' gLook ?hv ?_); (case hv => rfl))
  | ((with_reducible refine' gFld ?he ?h1 ?h2 ?h3 ?_); (case he => with_reducible rfl); (case h1 => first | (with_reducible exact OFx.f (by assumption)) | (with_reducible exact OFx.s (by assumption)) | (with_reducible exact OFx.r (by assumption)) | (with_reducible exact OFx.j (by assumption)) | (with_reducible exact OFx.p (by assumption)) | (with_reducible exact OFx.f_pro (by assumption)) | (with_reducible exact OFx.f_con (by assumption)) | (with_reducible exact OFx.f_tops (by assumption)) | (with_reducible exact OFx.f_limits (by assumption)) | (with_reducible exact OFx.f_steps (by assumption)) | (with_reducible exact OFx.f_cases (by assumption)) | (with_reducible exact OFx.f_numbers (by assumption)) | (with_reducible exact OFx.s_forums (by assumption)) | (with_reducible exact OFx.r_suit (by assumption)) | (with_reducible exact OFx.r_rows (by assumption)) | (with_reducible exact OFx.j_rows (by assumption)) | (with_reducible exact OFx.j_forum (by assumption)) | (with_reducible exact OFx.j_top (by assumption)) | (with_reducible exact OFx.p_suit (by assumption)) | (with_reducible exact OFx.p_judges (by assumption))); (case h2 => first | (with_reducible exact OFx.f (by assumption)) | (with_reducible exact OFx.s (by assumption)) | (with_reducible exact OFx.r (by assumption)) | (with_reducible exact OFx.j (by assumption)) | (with_reducible exact OFx.p (by assumption)) | (with_reducible exact OFx.f_pro (by assumption)) | (with_reducible exact OFx.f_con (by assumption)) | (with_reducible exact OFx.f_tops (by assumption)) | (with_reducible exact OFx.f_limits (by assumption)) | (with_reducible exact OFx.f_steps (by assumption)) | (with_reducible exact OFx.f_cases (by assumption)) | (with_reducible exact OFx.f_numbers (by assumption)) | (with_reducible exact OFx.s_forums (by assumption)) | (with_reducible exact OFx.r_suit (by assumption)) | (with_reducible exact OFx.r_rows (by assumption)) | (with_reducible exact OFx.j_rows (by assumption)) | (with_reducible exact OFx.j_forum (by assumption)) | (with_reducible exact OFx.j_top (by assumption)) | (with_reducible exact OFx.p_suit (by assumption)) | (with_reducible exact OFx.p_judges (by assumption))); (case h3 => rfl))
  | (with_reducible rfl)))
theorem kit_N_bool : kitB "NoneType" "bool" = some false := by decide +kernel
theorem kit_N_int : kitB "NoneType" "int" = some false := by decide +kernel
theorem kit_N_str : kitB "NoneType" "str" = some false := by decide +kernel
theorem kit_N_tuple : kitB "NoneType" "tuple" = some false := by decide +kernel
theorem kit_N_list : kitB "NoneType" "list" = some false := by decide +kernel
theorem kit_I_bool : kitB "int" "bool" = some false := by decide +kernel
theorem kit_I_int : kitB "int" "int" = some true := by decide +kernel
theorem kit_I_str : kitB "int" "str" = some false := by decide +kernel
theorem kit_I_tuple : kitB "int" "tuple" = some false := by decide +kernel
theorem kit_I_list : kitB "int" "list" = some false := by decide +kernel
theorem kit_T_bool : kitB "tuple" "bool" = some false := by decide +kernel
theorem kit_T_int : kitB "tuple" "int" = some false := by decide +kernel
theorem kit_T_str : kitB "tuple" "str" = some false := by decide +kernel
theorem kit_T_tuple : kitB "tuple" "tuple" = some true := by decide +kernel
theorem kit_T_list : kitB "tuple" "list" = some false := by decide +kernel
theorem kit_L_bool : kitB "list" "bool" = some false := by decide +kernel
theorem kit_L_int : kitB "list" "int" = some false := by decide +kernel
theorem kit_L_str : kitB "list" "str" = some false := by decide +kernel
theorem kit_L_tuple : kitB "list" "tuple" = some false := by decide +kernel
theorem kit_L_list : kitB "list" "list" = some true := by decide +kernel
theorem gKit {d : Da} {T n : String} {b : Bool} {P : Bool → Prop} (h1 : tyD d = some T) (h2 : kitB T n = some b) (h : P b) : ∃ T b, tyD d = some T ∧ kitB T n = some b ∧ P b := ⟨T, b, h1, h2, h⟩
abbrev rIxE (K : PySem.W.Frag) : R2 := fun x y H Q => rIxT K x y H Q ∨ rIxL K x y H Q
theorem ix_either {X : Cx} : IxR X (rIxE X.K) := by
  intro value slice pins s σ H x y v u Q I rx ry h hs
  rcases h with h | h
  · exact ix_tup value slice pins s σ H x y v u Q I rx ry h hs
  · exact ix_list value slice pins s σ H x y v u Q I rx ry h hs
theorem rv_ixET {K : PySem.W.Frag} {R : Da → Prop} {l : List Da} {i : Int} {d : Da} (e : atI l i = some d) (r : R d) : RvD K (rIxE K) (.tup l) (.int i) R := fun O H x y hO r1 r2 Q k => .inl (rv_ixT e r O H x y hO r1 r2 Q k)
theorem rv_ixEL {K : PySem.W.Frag} {R : Da → Prop} {l : List Da} {i : Int} {d : Da} (e : atI l i = some d) (r : R d) : RvD K (rIxE K) (.lst l) (.int i) R := fun O H x y hO r1 r2 Q k => .inr (rv_ixL e r O H x y hO r1 r2 Q k)
section
variable {P : Program} {w : World} {K : PySem.W.Frag} {mg : Str → Option Value} {base : Heap}
-- _law_same
abbrev s__law_same : Stmt := top 52
abbrev sc__law_same_N : List Str := ["_law_told", "_law_due", "_law_k"]
theorem sc__law_same : FnScope sc__law_same_N ["_law_told", "_law_due"] (defScope s__law_same) := ⟨rfl, rfl, rfl, by decide +kernel, rfl, by decide +kernel, by decide +kernel⟩
-- uses: g:bool g:isinstance g:int g:str g:tuple g:len g:list g:range _law_same
-- slots: 0=_law_told 1=_law_due 2=_law_k

def kidsD : Da → List Da
  | .tup l => l
  | .lst l => l
  | _ => []
def W_same (W : WP) : WP := fun ds R => ∃ d, ds = [d, d] ∧ (d = .non ∨ (∃ i, d = .int i) ∨ (∃ l, d = .tup l ∧ l.length ≤ 1000) ∨ ∃ l, d = .lst l ∧ l.length ≤ 1000) ∧ (∀ e ∈ kidsD d, ∀ R' : Da → Prop, R' (.bl true) → W [e, e] R') ∧ R (.bl true)
theorem same_step {W_law_same : WP} {k : Nat} (F : FunAt K mg "_law_same" s__law_same) (T : Tx mg) (h_law_same : Has P w K mg base "_law_same" k ["_law_told", "_law_due"] (spD K W_law_same)) : Has P w K mg base "_law_same" (k + 1) ["_law_told", "_law_due"] (spD K (W_same W_law_same)) := by
  refine hasD F sc__law_same (fun ds R h => ?_) (fun _ _ _ _ _ _ us hl => match us, hl with | [_, _], _ => rfl) fun f cdv A outer s H E hr => ⟨_, (pss_cons (ps_if (PW.pt (pw_or (pt_val (pe_callB call_isi (by rfl) T.isinstance (by decide +kernel) (pa_cons (pv 0) (pa_cons (pe_bltn (v := .ty "bool") rfl T.bool (by decide +kernel) rfl) pa_nil)))) (pw_or1 (pt_val (pe_callB call_isi (by rfl) T.isinstance (by decide +kernel) (pa_cons (pv 1) (pa_cons (pe_bltn (v := .ty "bool") rfl T.bool (by decide +kernel) rfl) pa_nil))))))) (pss_one (ps_ret (pe_and (pe_callB call_isi (by rfl) T.isinstance (by decide +kernel) (pa_cons (pv 0) (pa_cons (pe_bltn (v := .ty "bool") rfl T.bool (by decide +kernel) rfl) pa_nil))) (pe_and (pe_callB call_isi (by rfl) T.isinstance (by decide +kernel) (pa_cons (pv 1) (pa_cons (pe_bltn (v := .ty "bool") rfl T.bool (by decide +kernel) rfl) pa_nil))) (pe_one (pe_cmpR op_eq (pv 0) (pv 1) (nomark _))))))) pss_nil)
      (pss_cons (ps_if (pt_val (pe_callB call_isi (by rfl) T.isinstance (by decide +kernel) (pa_cons (pv 1) (pa_cons (pe_bltn (v := .ty "int") rfl T.int (by decide +kernel) rfl) pa_nil)))) (pss_one (ps_ret (pe_and (pe_callB call_isi (by rfl) T.isinstance (by decide +kernel) (pa_cons (pv 0) (pa_cons (pe_bltn (v := .ty "int") rfl T.int (by decide +kernel) rfl) pa_nil))) (pe_one (pe_cmpR op_eq (pv 0) (pv 1) (nomark _)))))) pss_nil)
      (pss_cons (ps_if (pt_val (pe_callB call_isi (by rfl) T.isinstance (by decide +kernel) (pa_cons (pv 1) (pa_cons (pe_bltn (v := .ty "str") rfl T.str (by decide +kernel) rfl) pa_nil)))) (pss_one (ps_ret (pe_and (pe_callB call_isi (by rfl) T.isinstance (by decide +kernel) (pa_cons (pv 0) (pa_cons (pe_bltn (v := .ty "str") rfl T.str (by decide +kernel) rfl) pa_nil))) (pe_one (pe_cmpR op_eq (pv 0) (pv 1) (nomark _)))))) pss_nil)
      (pss_cons (ps_if (pt_cmp (pc_isN (pv 1))) (pss_one (ps_ret (pe_cmp (pc_isN (pv 0))))) pss_nil)
      (pss_cons (ps_if (pt_val (pe_callB call_isi (by rfl) T.isinstance (by decide +kernel) (pa_cons (pv 1) (pa_cons (pe_bltn (v := .ty "tuple") rfl T.tuple (by decide +kernel) rfl) pa_nil)))) (pss_one (ps_if (PW.pt (pw_or (pt_not (pt_val (pe_callB call_isi (by rfl) T.isinstance (by decide +kernel) (pa_cons (pv 0) (pa_cons (pe_bltn (v := .ty "tuple") rfl T.tuple (by decide +kernel) rfl) pa_nil))))) (pw_or1 (pt_cmpR op_ne (pe_callB call_len_seq (by rfl) T.len (by decide +kernel) (pa_cons (pv 0) pa_nil)) (pe_callB call_len_seq (by rfl) T.len (by decide +kernel) (pa_cons (pv 1) pa_nil)) (nomark _))))) (pss_one (ps_ret pe_bl)) pss_nil)) (pss_one (ps_if (PW.pt (pw_or (pt_not (pt_val (pe_callB call_isi (by rfl) T.isinstance (by decide +kernel) (pa_cons (pv 0) (pa_cons (pe_bltn (v := .ty "list") rfl T.list (by decide +kernel) rfl) pa_nil))))) (pw_or1 (pt_cmpR op_ne (pe_callB call_len_seq (by rfl) T.len (by decide +kernel) (pa_cons (pv 0) pa_nil)) (pe_callB call_len_seq (by rfl) T.len (by decide +kernel) (pa_cons (pv 1) pa_nil)) (nomark _))))) (pss_one (ps_ret pe_bl)) pss_nil)))
      (pss_cons (ps_for PassesOwn.never rfl (pi_range1 rfl T.range (pa_cons (pe_callB call_len_seq (by rfl) T.len (by decide +kernel) (pa_cons (pv 1) pa_nil)) pa_nil)) (pg_name (i := 2) sc__law_same.nd rfl (by first | exact .inl rfl | exact .inr rfl)) (pss_one (ps_if (pt_not (pt_val (pe_callH h_law_same hr rfl (pa_cons (pe_ix ix_either (pv 0) (pv 2) (fun _ _ => rfl)) (pa_cons (pe_ix ix_either (pv 1) (pv 2) (fun _ _ => rfl)) pa_nil))))) (pss_one (ps_ret pe_bl)) pss_nil)))
      (pss_one (ps_ret pe_bl)))))))), fun ds R h => ?_⟩
  · obtain ⟨d, rfl, _⟩ := h
    rfl
  · obtain ⟨d, rfl, hd, hk, hR⟩ := h
    try dsimp only [cxOf, Cx.nox, Cx.wish]
    show Ho K _ [.val d, .val d, .un] _ _ _ _
    rcases hd with rfl | ⟨i, rfl⟩ | ⟨l, rfl, hl⟩ | ⟨l, rfl, hl⟩
    · refine ho_seq (ho_if (et_or (et_B (ev_isi (ev_var rfl ?_)))))
      repeat ((first | (refine gKit rfl kit_N_bool ?_) | (refine gKit rfl kit_N_int ?_) | (refine gKit rfl kit_N_str ?_) | (refine gKit rfl kit_N_tuple ?_) | (refine gKit rfl kit_N_list ?_) | (refine gKit rfl kit_I_bool ?_) | (refine gKit rfl kit_I_int ?_) | (refine gKit rfl kit_I_str ?_) | (refine gKit rfl kit_I_tuple ?_) | (refine gKit rfl kit_I_list ?_) | (refine gKit rfl kit_T_bool ?_) | (refine gKit rfl kit_T_int ?_) | (refine gKit rfl kit_T_str ?_) | (refine gKit rfl kit_T_tuple ?_) | (refine gKit rfl kit_T_list ?_) | (refine gKit rfl kit_L_bool ?_) | (refine gKit rfl kit_L_int ?_) | (refine gKit rfl kit_L_str ?_) | (refine gKit rfl kit_L_tuple ?_) | (refine gKit rfl kit_L_list ?_)); walk_at "ev")
      refine and_t rfl ?_
      refine ho_ret (ev_isN (ev_var rfl ?_))
      exact hR
    · refine ho_seq (ho_if (et_or (et_B (ev_isi (ev_var rfl ?_)))))
      repeat ((first | (refine gKit rfl kit_N_bool ?_) | (refine gKit rfl kit_N_int ?_) | (refine gKit rfl kit_N_str ?_) | (refine gKit rfl kit_N_tuple ?_) | (refine gKit rfl kit_N_list ?_) | (refine gKit rfl kit_I_bool ?_) | (refine gKit rfl kit_I_int ?_) | (refine gKit rfl kit_I_str ?_) | (refine gKit rfl kit_I_tuple ?_) | (refine gKit rfl kit_I_list ?_) | (refine gKit rfl kit_T_bool ?_) | (refine gKit rfl kit_T_int ?_) | (refine gKit rfl kit_T_str ?_) | (refine gKit rfl kit_T_tuple ?_) | (refine gKit rfl kit_T_list ?_) | (refine gKit rfl kit_L_bool ?_) | (refine gKit rfl kit_L_int ?_) | (refine gKit rfl kit_L_str ?_) | (refine gKit rfl kit_L_tuple ?_) | (refine gKit rfl kit_L_list ?_)); walk_at "ev")
      rw [decide_eq_true rfl]
      exact hR
    · refine ho_seq (ho_if (et_or (et_B (ev_isi (ev_var rfl ?_)))))
      repeat ((first | (refine gKit rfl kit_N_bool ?_) | (refine gKit rfl kit_N_int ?_) | (refine gKit rfl kit_N_str ?_) | (refine gKit rfl kit_N_tuple ?_) | (refine gKit rfl kit_N_list ?_) | (refine gKit rfl kit_I_bool ?_) | (refine gKit rfl kit_I_int ?_) | (refine gKit rfl kit_I_str ?_) | (refine gKit rfl kit_I_tuple ?_) | (refine gKit rfl kit_I_list ?_) | (refine gKit rfl kit_T_bool ?_) | (refine gKit rfl kit_T_int ?_) | (refine gKit rfl kit_T_str ?_) | (refine gKit rfl kit_T_tuple ?_) | (refine gKit rfl kit_T_list ?_) | (refine gKit rfl kit_L_bool ?_) | (refine gKit rfl kit_L_int ?_) | (refine gKit rfl kit_L_str ?_) | (refine gKit rfl kit_L_tuple ?_) | (refine gKit rfl kit_L_list ?_)); walk_at "ev")
      refine and_f rfl ?_
      refine ho_nil (ho_seq (ho_if (et_B (ev_isi (ev_var rfl ?_)))))
      repeat ((first | (refine gKit rfl kit_N_bool ?_) | (refine gKit rfl kit_N_int ?_) | (refine gKit rfl kit_N_str ?_) | (refine gKit rfl kit_N_tuple ?_) | (refine gKit rfl kit_N_list ?_) | (refine gKit rfl kit_I_bool ?_) | (refine gKit rfl kit_I_int ?_) | (refine gKit rfl kit_I_str ?_) | (refine gKit rfl kit_I_tuple ?_) | (refine gKit rfl kit_I_list ?_) | (refine gKit rfl kit_T_bool ?_) | (refine gKit rfl kit_T_int ?_) | (refine gKit rfl kit_T_str ?_) | (refine gKit rfl kit_T_tuple ?_) | (refine gKit rfl kit_T_list ?_) | (refine gKit rfl kit_L_bool ?_) | (refine gKit rfl kit_L_int ?_) | (refine gKit rfl kit_L_str ?_) | (refine gKit rfl kit_L_tuple ?_) | (refine gKit rfl kit_L_list ?_)); walk_at "ev")
      refine and_f rfl ?_
      refine et_test (ev_op (ev_cb (ea_cons (ev_var rfl (ea_nil (rc_lenT (ev_cb (ea_cons (ev_var rfl (ea_nil (rc_lenT (rv_neI ⟨_, rfl, ?_⟩))))))))))))
      refine and_f (by simp) ?_
      refine ho_nil (ho_seq (ho_for (ei_range1 (ea_cons (ev_cb (ea_cons (ev_var rfl (ea_nil (rc_lenT (ea_nil ⟨_, rfl, ?_⟩))))))))))
      refine ⟨by omega, fun i G => ∃ s, G = [.val (.tup l), .val (.tup l), s], ⟨_, rfl⟩, ?_, ?_⟩
      · rintro i d G e ⟨s, rfl⟩
        obtain ⟨hi, rfl⟩ := rangeD_inv e
        obtain ⟨x, hx⟩ : ∃ x, l[i]? = some x := ⟨_, List.getElem?_eq_getElem hi⟩
        refine gn_name trivial (ho_if (et_not (et_B (ev_call (ea_cons (ev_op (ev_var rfl (ev_var rfl ?_))))))))
        refine rv_ixET (by rw [Int.zero_add]; exact atI_nat' hx) ?_
        refine ea_cons (ev_op (ev_var rfl (ev_var rfl ?_)))
        refine rv_ixET (by rw [Int.zero_add]; exact atI_nat' hx) ?_
        refine ea_nil ?_
        refine hk x (List.mem_of_getElem? hx) _ ?_
        refine ⟨_, rfl, ?_⟩
        refine and_f rfl ?_
        refine ho_nil ?_
        exact ⟨_, rfl⟩
      · rintro G ⟨s, rfl⟩
        refine ho_ret (ev_bl ?_)
        exact hR
    · refine ho_seq (ho_if (et_or (et_B (ev_isi (ev_var rfl ?_)))))
      repeat ((first | (refine gKit rfl kit_N_bool ?_) | (refine gKit rfl kit_N_int ?_) | (refine gKit rfl kit_N_str ?_) | (refine gKit rfl kit_N_tuple ?_) | (refine gKit rfl kit_N_list ?_) | (refine gKit rfl kit_I_bool ?_) | (refine gKit rfl kit_I_int ?_) | (refine gKit rfl kit_I_str ?_) | (refine gKit rfl kit_I_tuple ?_) | (refine gKit rfl kit_I_list ?_) | (refine gKit rfl kit_T_bool ?_) | (refine gKit rfl kit_T_int ?_) | (refine gKit rfl kit_T_str ?_) | (refine gKit rfl kit_T_tuple ?_) | (refine gKit rfl kit_T_list ?_) | (refine gKit rfl kit_L_bool ?_) | (refine gKit rfl kit_L_int ?_) | (refine gKit rfl kit_L_str ?_) | (refine gKit rfl kit_L_tuple ?_) | (refine gKit rfl kit_L_list ?_)); walk_at "ev")
      refine and_f rfl ?_
      refine ho_nil (ho_seq (ho_if (et_B (ev_isi (ev_var rfl ?_)))))
      repeat ((first | (refine gKit rfl kit_N_bool ?_) | (refine gKit rfl kit_N_int ?_) | (refine gKit rfl kit_N_str ?_) | (refine gKit rfl kit_N_tuple ?_) | (refine gKit rfl kit_N_list ?_) | (refine gKit rfl kit_I_bool ?_) | (refine gKit rfl kit_I_int ?_) | (refine gKit rfl kit_I_str ?_) | (refine gKit rfl kit_I_tuple ?_) | (refine gKit rfl kit_I_list ?_) | (refine gKit rfl kit_T_bool ?_) | (refine gKit rfl kit_T_int ?_) | (refine gKit rfl kit_T_str ?_) | (refine gKit rfl kit_T_tuple ?_) | (refine gKit rfl kit_T_list ?_) | (refine gKit rfl kit_L_bool ?_) | (refine gKit rfl kit_L_int ?_) | (refine gKit rfl kit_L_str ?_) | (refine gKit rfl kit_L_tuple ?_) | (refine gKit rfl kit_L_list ?_)); walk_at "ev")
      refine and_f rfl ?_
      refine et_test (ev_op (ev_cb (ea_cons (ev_var rfl (ea_nil (rc_lenL (ev_cb (ea_cons (ev_var rfl (ea_nil (rc_lenL (rv_neI ⟨_, rfl, ?_⟩))))))))))))
      refine and_f (by simp) ?_
      refine ho_nil (ho_seq (ho_for (ei_range1 (ea_cons (ev_cb (ea_cons (ev_var rfl (ea_nil (rc_lenL (ea_nil ⟨_, rfl, ?_⟩))))))))))
      refine ⟨by omega, fun i G => ∃ s, G = [.val (.lst l), .val (.lst l), s], ⟨_, rfl⟩, ?_, ?_⟩
      · rintro i d G e ⟨s, rfl⟩
        obtain ⟨hi, rfl⟩ := rangeD_inv e
        obtain ⟨x, hx⟩ : ∃ x, l[i]? = some x := ⟨_, List.getElem?_eq_getElem hi⟩
        refine gn_name trivial (ho_if (et_not (et_B (ev_call (ea_cons (ev_op (ev_var rfl (ev_var rfl ?_))))))))
        refine rv_ixEL (by rw [Int.zero_add]; exact atI_nat' hx) ?_
        refine ea_cons (ev_op (ev_var rfl (ev_var rfl ?_)))
        refine rv_ixEL (by rw [Int.zero_add]; exact atI_nat' hx) ?_
        refine ea_nil ?_
        refine hk x (List.mem_of_getElem? hx) _ ?_
        refine ⟨_, rfl, ?_⟩
        refine and_f rfl ?_
        refine ho_nil ?_
        exact ⟨_, rfl⟩
      · rintro G ⟨s, rfl⟩
        refine ho_ret (ev_bl ?_)
        exact hR
end
end Sc
/-! M4: plain laws of picks. -/
namespace Sc
open PySem L2
/-! full picks -/
theorem mem_fold : ∀ {rows : List Row} {told : List (List (Option Nat))} {p : List (Option Nat)}, p ∈ rows.foldl fullStep told ↔ ∃ q es, q ∈ told ∧ p = q ++ es ∧ es.length = rows.length ∧ ∀ (n : Nat) r, rows[n]? = some r → ∃ e, es[n]? = some e ∧ e ∈ entries r
  | [], told, p => by
    constructor
    · intro h
      exact ⟨p, [], h, by simp, rfl, fun n r h => (nomatch h)⟩
    · rintro ⟨q, es, h1, rfl, h3, _⟩
      have : es = [] := by simpa using h3
      rw [this, List.append_nil]
      exact h1
  | r :: rows, told, p => by
    rw [List.foldl_cons, mem_fold]
    constructor
    · rintro ⟨q, es, h1, rfl, h3, h4⟩
      unfold fullStep at h1
      obtain ⟨u, hu, hq⟩ := List.mem_flatMap.mp h1
      obtain ⟨e, he, rfl⟩ := List.mem_map.mp hq
      refine ⟨u, e :: es, hu, by simp, by simp [h3], fun n r' hn => ?_⟩
      cases n with
      | zero =>
        simp at hn
        subst hn
        exact ⟨e, rfl, he⟩
      | succ n =>
        obtain ⟨e', h5, h6⟩ := h4 n r' (by simpa using hn)
        exact ⟨e', by simpa using h5, h6⟩
    · rintro ⟨q, es, h1, rfl, h3, h4⟩
      obtain ⟨e, he, hen⟩ := h4 0 r rfl
      cases es with
      | nil => simp at h3
      | cons e' es =>
        simp at he
        subst he
        refine ⟨q ++ [e'], es, ?_, by simp, by simpa using h3, fun n r' hn => ?_⟩
        · unfold fullStep
          exact List.mem_flatMap.mpr ⟨q, h1, List.mem_map.mpr ⟨e', hen, rfl⟩⟩
        · obtain ⟨e'', h5, h6⟩ := h4 (n + 1) r' (by simpa using hn)
          exact ⟨e'', by simpa using h5, h6⟩
theorem mem_fullPicks {rows : List Row} {p : List (Option Nat)} : p ∈ fullPicks rows ↔ p.length = rows.length ∧ ∀ (n : Nat) r, rows[n]? = some r → ∃ e, p[n]? = some e ∧ e ∈ entries r := by
  unfold fullPicks
  rw [mem_fold]
  constructor
  · rintro ⟨q, es, h1, rfl, h3, h4⟩
    have : q = [] := by simpa using h1
    subst this
    exact ⟨h3, h4⟩
  · rintro ⟨h1, h2⟩
    exact ⟨[], p, by simp, rfl, h1, h2⟩
theorem entries_mem {r : Row} {e : Option Nat} : e ∈ entries r ↔ (isCh r = true ∧ ∃ i, e = some i ∧ i ∈ inPlay r.parts) ∨ (isCh r = false ∧ e = none) := by
  unfold entries
  cases q : isCh r with
  | true =>
    rw [if_pos rfl]
    simp
    constructor
    · rintro ⟨a, h1, h2⟩; exact ⟨a, h2.symm, h1⟩
    · rintro ⟨a, h1, h2⟩; exact ⟨a, h2, h1.symm⟩
  | false =>
    rw [if_neg Bool.false_ne_true]
    simp
/-! soundness -/
theorem sound_iff {n : Nat} {rows : List Row} {p : List (Option Nat)} : sound n rows p = true ↔ ∀ i, i < n → ∀ a ∈ kn rows p i, ∀ b ∈ kn rows p i, a.2.2 = true → b.2.2 = false → ge b.2.1 a.2.1 = false := by
  unfold sound odds
  rw [List.isEmpty_iff, List.flatMap_eq_nil_iff]
  constructor
  · intro h i hi a ha b hb h1 h2
    have hk : (knAll n rows p)[i]? = some (kn rows p i) := by
      unfold knAll
      rw [List.getElem?_map, List.getElem?_range hi]
      rfl
    have := h (kn rows p i, i) (List.mem_zipIdx_iff_getElem?.mpr hk)
    unfold odd1 at this
    rw [List.flatMap_eq_nil_iff] at this
    have := this a ha
    rw [List.map_eq_nil_iff, List.filter_eq_nil_iff] at this
    have := this b hb
    rw [h1, h2] at this
    simpa using this
  · rintro h ⟨l, i⟩ hm
    obtain ⟨hi, e⟩ := knAll_get (List.mem_zipIdx_iff_getElem?.mp hm)
    dsimp only at hi e ⊢
    subst e
    unfold odd1
    rw [List.flatMap_eq_nil_iff]
    intro a ha
    rw [List.map_eq_nil_iff, List.filter_eq_nil_iff]
    intro b hb hc
    rw [Bool.and_eq_true, Bool.and_eq_true, Bool.not_eq_true'] at hc
    rw [h i hi a ha b hb hc.1.1 hc.1.2] at hc
    exact absurd hc.2 (by decide)
theorem kn_iff {rows : List Row} {p : List (Option Nat)} {i : Nat} {k : Kn} : k ∈ kn rows p i ↔ ∃ r, rows[k.1]? = some r ∧ r.parts.getD i none = some k.2.1 ∧ k.2.2 = r.won ∧ (isCh r = false ∨ p.getD k.1 none = some i) := by
  constructor
  · exact kn_mem
  · rintro ⟨r, h1, h2, h3, h4⟩
    unfold kn
    refine List.mem_filterMap.mpr ⟨(r, k.1), List.mem_zipIdx_iff_getElem?.mpr h1, ?_⟩
    unfold kn1
    dsimp only
    rw [h2]
    dsimp only
    rw [if_pos (by
      rw [Bool.or_eq_true, Bool.not_eq_true', beq_iff_eq]
      exact h4), ← h3]
/-! order -/
theorem ge_trans : ∀ {a b c : List Int}, a.length = b.length → b.length = c.length → ge a b = true → ge b c = true → ge a c = true
  | [], [], [], _, _, _, _ => rfl
  | x :: a, y :: b, z :: c, h1, h2, h3, h4 => by
    simp only [ge, Bool.and_eq_true, decide_eq_true_eq] at h3 h4 ⊢
    exact ⟨by omega, ge_trans (by simpa using h1) (by simpa using h2) h3.2 h4.2⟩
theorem ge_refl : ∀ {a : List Int}, ge a a = true
  | [] => rfl
  | x :: a => by simp only [ge, Bool.and_eq_true, decide_eq_true_eq]; exact ⟨Int.le_refl _, ge_refl⟩
/-- the hidden grade rises -/
theorem hg_mono {ws : List (List Int)} {a b : List Int} (hl : ∀ w ∈ ws, w.length = a.length) (hab : a.length = b.length) (h : ge b a = true) (ha : hg ws a = true) : hg ws b = true := by
  unfold hg at ha ⊢
  obtain ⟨w, hw, hx⟩ := List.any_eq_true.mp ha
  exact List.any_eq_true.mpr ⟨w, hw, ge_trans hab.symm (hl w hw).symm h hx⟩
theorem lowB_one {b : List (List Int × Bool)} {c : List Int} : lowB b c = 1 ↔ ∃ d ∈ b, d.2 = true ∧ ge c d.1 = true := by
  have key : ∀ (b : List (List Int × Bool)) (x : Int), x = 0 ∨ x = 1 → (b.foldl (fun lo d => if ge c d.1 then max lo (gI d.2) else lo) x = 1 ↔ x = 1 ∨ ∃ d ∈ b, d.2 = true ∧ ge c d.1 = true) := by
    intro b
    induction b with
    | nil => intro x _; simp
    | cons d b ih =>
      intro x hx
      rw [List.foldl_cons, ih]
      · simp only [List.mem_cons, exists_eq_or_imp]
        cases q : ge c d.1 with
        | false =>
          rw [if_neg Bool.false_ne_true]
          simp
        | true =>
          rw [if_pos rfl]
          cases w : d.2 with
          | true =>
            have : max x (gI true) = 1 := by
              rcases hx with z | z <;> rw [z] <;> decide
            rw [this]
            simp
          | false =>
            have : max x (gI false) = x := by
              rcases hx with z | z <;> rw [z] <;> decide
            rw [this]
            simp
      · split
        · rcases gI_01 d.2 with z | z <;> rcases hx with y | y <;> rw [z, y] <;> decide
        · exact hx
  unfold lowB
  rw [key b 0 (.inl rfl)]
  simp
/-! panels keep their rulings -/
theorem panel_keeps {shs : List Shape} {rows : List Row} {p : List (Option Nat)} (hr : RowsOk shs rows) (hp : p ∈ fullPicks rows) (hs : sound shs.length rows p = true) {r : Row} (hm : r ∈ rows) {m : Int} (h : Ans (panelL shs rows p) r.parts r.all m) : m = gI r.won := by
  obtain ⟨n, hn, e⟩ := List.mem_iff_getElem.mp hm
  have hrn : rows[n]? = some r := by rw [List.getElem?_eq_getElem hn, e]
  obtain ⟨hpl, hpe⟩ := mem_fullPicks.mp hp
  obtain ⟨en, hen, hee⟩ := hpe n r hrn
  have hpr := hr.ok r hm
  rw [sound_iff] at hs
  obtain ⟨h1, h2⟩ := h
  have grade : ∀ i c, r.parts[i]? = some (some c) → (isCh r = false ∨ en = some i) → lowB (((panelL shs rows p)[i]?.map (fun (j : Judged) => j.2)).getD []) c = gI r.won := fun i c hc hk => by
    have hi : i < shs.length := by rw [← hpr.len]; exact get_lt hc
    have hg : ((panelL shs rows p)[i]?.map (fun (j : Judged) => j.2)).getD [] = (kn rows p i).map fun (k : Kn) => k.2 := by
      unfold panelL
      rw [List.getElem?_map, List.getElem?_zipIdx, List.getElem?_eq_getElem hi]
      simp
    rw [hg]
    have hkn : ((n, c, r.won) : Kn) ∈ kn rows p i := kn_iff.mpr ⟨r, hrn, getD_get hc, rfl, by rw [getD_get hen]; exact hk⟩
    cases hw : r.won with
    | true =>
      rw [hw] at hkn
      exact lowB_one.mpr ⟨(c, true), List.mem_map.mpr ⟨_, hkn, rfl⟩, rfl, ge_refl⟩
    | false =>
      rw [hw] at hkn
      rcases lowB_01 (b := (kn rows p i).map fun (k : Kn) => k.2) (c := c) with z | z
      · exact z
      · obtain ⟨d, hd, hd1, hd2⟩ := lowB_one.mp z
        obtain ⟨k, hk', rfl⟩ := List.mem_map.mp hd
        have := hs i hi k hk' _ hkn hd1 rfl
        rw [this] at hd2
        cases hd2
  have gm : ∀ i c, r.parts[i]? = some (some c) → lowB (((panelL shs rows p)[i]?.map (fun (j : Judged) => j.2)).getD []) c ∈ gradesOf (panelL shs rows p) r.parts := fun i c hc => by
    unfold gradesOf
    exact List.mem_map.mpr ⟨i, mem_inPlay.mpr ⟨c, hc⟩, by rw [getD_get hc]; rfl⟩
  have gv : ∀ y ∈ gradesOf (panelL shs rows p) r.parts, y = 0 ∨ y = 1 := fun y hy => by
    unfold gradesOf at hy
    obtain ⟨i, _, rfl⟩ := List.mem_map.mp hy
    exact lowB_01
  rcases entries_mem.mp hee with ⟨hc, i, rfl, hi⟩ | ⟨hc, rfl⟩
  · -- a choice row: the picked issue decides
    obtain ⟨c, hc'⟩ := mem_inPlay.mp hi
    have hg := grade i c hc' (.inr rfl)
    have hle := h2 _ (gm i c hc')
    rw [hg] at hle
    have hm01 := gv m h1
    unfold isCh at hc
    cases ha : r.all <;> rw [ha] at hc hle <;> cases hw : r.won <;> rw [hw] at hc hle <;> simp at hc
    · rw [if_neg Bool.false_ne_true] at hle
      rcases hm01 with z | z
      · rw [z] at hle; exact absurd hle (by decide)
      · exact z
    · rw [if_pos rfl] at hle
      rcases hm01 with z | z
      · exact z
      · rw [z] at hle; exact absurd hle (by decide)
  · -- a forced row: all parts have its grade
    unfold gradesOf at h1
    obtain ⟨i, hi, e⟩ := List.mem_map.mp h1
    obtain ⟨c, hc'⟩ := mem_inPlay.mp hi
    rw [← e, getD_get hc']
    exact grade i c hc' (.inl hc)
end Sc
/-! M5: the search finds the sound picks; the least picks; one row replaced. -/
namespace Sc
open PySem L2
/-! completions -/
def opt1 (r : Row) (e : Option Nat) : List (Option Nat) := if isCh r && e.isNone then entries r else [e]
def comp : List Row → List (Option Nat) → List (List (Option Nat))
  | r :: rows, e :: p => (opt1 r e).flatMap fun x => (comp rows p).map (x :: ·)
  | _, _ => [[]]
theorem foldl_ext : ∀ {rows : List Row} {told : List (List (Option Nat))}, rows.foldl fullStep told = told.flatMap fun q => (rows.foldl fullStep [[]]).map (q ++ ·)
  | [], told => by simp
  | r :: rows, told => by
    rw [List.foldl_cons, List.foldl_cons, foldl_ext (rows := rows) (told := fullStep told r), foldl_ext (rows := rows) (told := fullStep [[]] r)]
    unfold fullStep
    rw [List.flatMap_assoc]
    congr 1
    funext q
    simp only [List.flatMap_cons, List.flatMap_nil, List.append_nil, List.flatMap_map, List.map_flatMap, List.map_map, List.nil_append]
    congr 1
    funext e
    apply List.map_congr_left
    intro x _
    simp
theorem fullPicks_cons {r : Row} {rows : List Row} : fullPicks (r :: rows) = (entries r).flatMap fun e => (fullPicks rows).map (e :: ·) := by
  unfold fullPicks
  rw [List.foldl_cons, foldl_ext]
  unfold fullStep
  simp only [List.flatMap_cons, List.flatMap_nil, List.append_nil, List.nil_append, List.flatMap_map]
  congr 1
theorem comp_none : ∀ {rows : List Row}, comp rows (List.replicate rows.length none) = fullPicks rows
  | [] => rfl
  | r :: rows => by
    rw [fullPicks_cons, List.length_cons, List.replicate_succ]
    show (opt1 r none).flatMap _ = _
    rw [comp_none]
    have : opt1 r none = entries r := by
      unfold opt1
      cases q : isCh r with
      | true => rfl
      | false =>
        unfold entries
        rw [q]
        rfl
    rw [this]
theorem comp_mem : ∀ {rows : List Row} {p q : List (Option Nat)}, p.length = rows.length → q ∈ comp rows p → q.length = rows.length ∧ ∀ (n : Nat) i, p[n]? = some (some i) → q[n]? = some (some i)
  | [], p, q, hl, h => by
    have : p = [] := by simpa using hl
    subst this
    have : q = [] := by simpa [comp] using h
    subst this
    exact ⟨rfl, fun n i h => h⟩
  | r :: rows, [], q, hl, h => by simp at hl
  | r :: rows, e :: p, q, hl, h => by
    have h : q ∈ (opt1 r e).flatMap fun x => (comp rows p).map (x :: ·) := h
    obtain ⟨x, hx, hq⟩ := List.mem_flatMap.mp h
    obtain ⟨t, ht, rfl⟩ := List.mem_map.mp hq
    obtain ⟨h1, h2⟩ := comp_mem (by simpa using hl) ht
    refine ⟨by simp [h1], fun n i hn => ?_⟩
    cases n with
    | zero =>
      have : e = some i := by simpa using hn
      subst this
      unfold opt1 at hx
      rw [Option.isNone_some, Bool.and_false, if_neg Bool.false_ne_true, List.mem_singleton] at hx
      rw [hx]
      rfl
    | succ n =>
      have := h2 n i (by simpa using hn)
      simpa using this
/-- quarrels stay -/
theorem sound_mono {n : Nat} {rows : List Row} {p q : List (Option Nat)} (h : ∀ (n : Nat) i, p[n]? = some (some i) → q[n]? = some (some i)) (hq : sound n rows q = true) : sound n rows p = true := by
  rw [sound_iff] at hq ⊢
  have up : ∀ i, ∀ k ∈ kn rows p i, k ∈ kn rows q i := fun i k hk => by
    obtain ⟨r, h1, h2, h3, h4⟩ := kn_iff.mp hk
    refine kn_iff.mpr ⟨r, h1, h2, h3, h4.imp id fun z => ?_⟩
    have hp : p[k.1]? = some (some i) := by
      rw [List.getD_eq_getElem?_getD] at z
      cases w : p[k.1]? with
      | none => rw [w] at z; cases z
      | some x => rw [w] at z; rw [show x = some i from z]
    exact getD_get (h _ _ hp)
  exact fun i hi a ha b hb => hq i hi a (up i a ha) b (up i b hb)
def dueIn (n : Nat) (rows : List Row) (p : List (Option Nat)) : List (List (Option Nat)) := (comp rows p).filter (sound n rows)
theorem dueIn_bad {n : Nat} {rows : List Row} {p : List (Option Nat)} (hl : p.length = rows.length) (h : sound n rows p = false) : dueIn n rows p = [] := by
  unfold dueIn
  rw [List.filter_eq_nil_iff]
  intro q hq hs
  rw [sound_mono (comp_mem hl hq).2 hs] at h
  cases h
/-- open rows -/
theorem openRows_cons {r : Row} {rows : List Row} {e : Option Nat} {p : List (Option Nat)} : openRows (r :: rows) (e :: p) = (if isCh r && e.isNone then [0] else []) ++ (openRows rows p).map (· + 1) := by
  unfold openRows choices
  rw [List.length_cons, List.range_succ_eq_map, List.filter_cons]
  have e1 : ((List.range rows.length).map Nat.succ).filter (fun n => ((r :: rows)[n]?.map isCh).getD false) = ((List.range rows.length).filter fun n => (rows[n]?.map isCh).getD false).map Nat.succ := by
    rw [List.filter_map]
    rfl
  have e2 : (((List.range rows.length).filter fun n => (rows[n]?.map isCh).getD false).map Nat.succ).filter (fun n => ((e :: p).getD n none).isNone) = (((List.range rows.length).filter fun n => (rows[n]?.map isCh).getD false).filter fun n => (p.getD n none).isNone).map (· + 1) := by
    rw [List.filter_map]
    rfl
  rw [e1]
  show List.filter _ (if isCh r = true then _ else _) = _
  cases q : isCh r with
  | true =>
    rw [if_pos rfl, List.filter_cons, e2]
    show (if e.isNone = true then _ else _) = _
    cases w : e.isNone <;> rfl
  | false =>
    rw [if_neg Bool.false_ne_true, e2]
    rfl
theorem comp_done : ∀ {rows : List Row} {p : List (Option Nat)}, p.length = rows.length → openRows rows p = [] → comp rows p = [p]
  | [], p, hl, _ => by
    have : p = [] := by simpa using hl
    subst this
    rfl
  | r :: rows, [], hl, _ => by simp at hl
  | r :: rows, e :: p, hl, h => by
    rw [openRows_cons, List.append_eq_nil_iff, List.map_eq_nil_iff] at h
    have h1 : (isCh r && e.isNone) = false := by
      cases q : isCh r && e.isNone with
      | false => rfl
      | true => rw [q] at h; exact absurd h.1 (by simp)
    show (opt1 r e).flatMap _ = _
    unfold opt1
    rw [h1, if_neg Bool.false_ne_true, comp_done (by simpa using hl) h.2]
    rfl
theorem comp_open : ∀ {rows : List Row} {p : List (Option Nat)} {n : Nat} {l : List Nat} {r : Row}, p.length = rows.length → openRows rows p = n :: l → rows[n]? = some r → comp rows p = (inPlay r.parts).flatMap fun i => comp rows (p.set n (some i))
  | [], p, n, l, r, hl, h, hr => by simp at hr
  | r0 :: rows, [], n, l, r, hl, h, hr => by simp at hl
  | r0 :: rows, e :: p, n, l, r, hl, h, hr => by
    rw [openRows_cons] at h
    cases q : isCh r0 && e.isNone with
    | true =>
      rw [q] at h
      rw [if_pos rfl] at h
      have hn : n = 0 := by
        have := (List.cons.inj h).1
        exact this.symm
      subst hn
      have : r0 = r := by simpa using hr
      subst this
      have hc : isCh r0 = true := (Bool.and_eq_true_iff.mp q).1
      show (opt1 r0 e).flatMap _ = _
      unfold opt1
      rw [q, if_pos rfl]
      unfold entries
      rw [hc, if_pos rfl, List.flatMap_map]
      congr 1
      funext i
      show _ = comp (r0 :: rows) (some i :: p)
      show _ = (opt1 r0 (some i)).flatMap _
      unfold opt1
      rw [Option.isNone_some, Bool.and_false, if_neg Bool.false_ne_true]
      simp
    | false =>
      rw [q, if_neg Bool.false_ne_true, List.nil_append] at h
      cases w : openRows rows p with
      | nil => rw [w] at h; cases h
      | cons m l' =>
        rw [w, List.map_cons] at h
        obtain ⟨h1, h2⟩ := List.cons.inj h
        subst h1
        have ih := comp_open (by simpa using hl) w (by simpa using hr : rows[m]? = some r)
        show (opt1 r0 e).flatMap _ = _
        unfold opt1
        rw [q, if_neg Bool.false_ne_true, ih]
        simp only [List.flatMap_cons, List.flatMap_nil, List.append_nil, List.map_flatMap]
        congr 1
        funext i
        show _ = comp (r0 :: rows) (e :: p.set m (some i))
        show _ = (opt1 r0 e).flatMap _
        unfold opt1
        rw [q, if_neg Bool.false_ne_true]
        simp
theorem dueIn_start {n : Nat} {rows : List Row} : dueIn n rows (List.replicate rows.length none) = dueOf n rows := by
  unfold dueIn dueOf
  rw [comp_none]
theorem dueIn_done {n : Nat} {rows : List Row} {p : List (Option Nat)} (hl : p.length = rows.length) (h : openRows rows p = []) (hs : sound n rows p = true) : dueIn n rows p = [p] := by
  unfold dueIn
  rw [comp_done hl h, List.filter_cons, if_pos hs]
  rfl
theorem dueIn_open {m : Nat} {rows : List Row} {p : List (Option Nat)} {n : Nat} {l : List Nat} {r : Row} (hl : p.length = rows.length) (h : openRows rows p = n :: l) (hr : rows[n]? = some r) : dueIn m rows p = (inPlay r.parts).flatMap fun i => dueIn m rows (p.set n (some i)) := by
  unfold dueIn
  rw [comp_open hl h hr, List.filter_flatMap]
end Sc
/-! M6: the least picks; one row replaced. -/
namespace Sc
open PySem L2
/-- the entries of a choice row that the hidden panel answers as the row does -/
def lpl (wons : List (List (List Int))) (r : Row) : List (Option Nat) := if isCh r then ((inPlay r.parts).filter fun k => hgi wons r.parts k == r.won).map some else [none]
def lp (wons : List (List (List Int))) (rows : List Row) : List (Option Nat) := rows.map fun r => ((lpl wons r).head?).getD none
theorem lpl_ne {shs : List Shape} {wons : List (List (List Int))} {r : Row} (hp : PartsOk shs r.parts) (hd : r.won = decided r.parts r.all wons) : lpl wons r ≠ [] := by
  unfold lpl
  cases hc : isCh r with
  | false => rw [if_neg Bool.false_ne_true]; simp
  | true =>
    rw [if_pos rfl]
    intro h
    rw [List.map_eq_nil_iff, List.filter_eq_nil_iff] at h
    unfold isCh at hc
    unfold decided at hd
    cases ha : r.all with
    | true =>
      rw [ha, if_pos rfl] at hd
      have hw : r.won = false := by rw [ha] at hc; cases q : r.won with | false => rfl | true => rw [q] at hc; exact absurd hc (by decide)
      rw [hw] at hd h
      obtain ⟨k, hk, hg⟩ := List.all_eq_false.mp hd.symm
      refine h k hk ?_
      have : hgi wons r.parts k = false := by simpa using hg
      rw [this]; rfl
    | false =>
      rw [ha, if_neg Bool.false_ne_true] at hd
      have hw : r.won = true := by rw [ha] at hc; cases q : r.won with | true => rfl | false => rw [q] at hc; exact absurd hc (by decide)
      rw [hw] at hd h
      obtain ⟨k, hk, hg⟩ := List.any_eq_true.mp hd.symm
      refine h k hk ?_
      rw [hg]; rfl
theorem lpl_mem {wons : List (List (List Int))} {r : Row} {e : Option Nat} (h : e ∈ lpl wons r) : e ∈ entries r := by
  unfold lpl at h
  unfold entries
  cases hc : isCh r with
  | false => rw [hc, if_neg Bool.false_ne_true] at h; rw [if_neg Bool.false_ne_true]; exact h
  | true =>
    rw [hc, if_pos rfl] at h
    rw [if_pos rfl]
    obtain ⟨k, hk, rfl⟩ := List.mem_map.mp h
    exact List.mem_map.mpr ⟨k, (List.mem_filter.mp hk).1, rfl⟩
theorem lp_get {shs : List Shape} {wons : List (List (List Int))} {rows : List Row} (hr : RowsOk shs rows) (hd : Decided wons rows) {n : Nat} {r : Row} (hn : rows[n]? = some r) : ∃ e, (lp wons rows)[n]? = some e ∧ e ∈ lpl wons r ∧ (lpl wons r)[0]? = some e := by
  have hm := List.mem_of_getElem? hn
  have hne := lpl_ne (hr.ok r hm) (hd r hm)
  cases q : lpl wons r with
  | nil => exact absurd q hne
  | cons e l =>
    refine ⟨e, ?_, by simp, rfl⟩
    unfold lp
    rw [List.getElem?_map, hn]
    show some (((lpl wons r).head?).getD none) = _
    rw [q]
    rfl
theorem lp_full {shs : List Shape} {wons : List (List (List Int))} {rows : List Row} (hr : RowsOk shs rows) (hd : Decided wons rows) : lp wons rows ∈ fullPicks rows :=
  mem_fullPicks.mpr ⟨by simp [lp], fun n r hn => by
    obtain ⟨e, h1, h2, _⟩ := lp_get hr hd hn
    exact ⟨e, h1, lpl_mem h2⟩⟩
/-- what is known is so by the hidden panel -/
theorem lp_known {shs : List Shape} {wons : List (List (List Int))} {rows : List Row} (hr : RowsOk shs rows) (hd : Decided wons rows) {i : Nat} {k : Kn} (hk : k ∈ kn rows (lp wons rows) i) : hg (wons.getD i []) k.2.1 = k.2.2 := by
  obtain ⟨r, h1, h2, h3, h4⟩ := kn_iff.mp hk
  have hm := List.mem_of_getElem? h1
  have hi : r.parts[i]? = some (some k.2.1) := by
    have hl : i < r.parts.length := by
      by_cases q : i < r.parts.length
      · exact q
      · rw [List.getD_eq_getElem?_getD, List.getElem?_eq_none (by omega)] at h2
        cases h2
    rw [getD_of none hl, h2]
  have hgi' : hgi wons r.parts i = hg (wons.getD i []) k.2.1 := by
    unfold hgi
    rw [h2]
    rfl
  rw [← hgi', h3]
  have hpl := mem_inPlay.mpr ⟨_, hi⟩
  rcases h4 with hc | hc
  · have hdr := hd r hm
    unfold decided at hdr
    unfold isCh at hc
    cases ha : r.all with
    | true =>
      rw [ha, if_pos rfl] at hdr
      have hw : r.won = true := by rw [ha] at hc; cases q : r.won with | true => rfl | false => rw [q] at hc; exact absurd hc (by decide)
      rw [hw] at hdr ⊢
      exact List.all_eq_true.mp hdr.symm i hpl
    | false =>
      rw [ha, if_neg Bool.false_ne_true] at hdr
      have hw : r.won = false := by rw [ha] at hc; cases q : r.won with | false => rfl | true => rw [q] at hc; exact absurd hc (by decide)
      rw [hw] at hdr ⊢
      have := List.any_eq_false.mp hdr.symm i hpl
      simpa using this
  · obtain ⟨e, he, hel, _⟩ := lp_get hr hd h1
    rw [getD_get he] at hc
    subst hc
    unfold lpl at hel
    cases q : isCh r with
    | false => rw [q, if_neg Bool.false_ne_true] at hel; simp at hel
    | true =>
      rw [q, if_pos rfl] at hel
      obtain ⟨j, hj, e⟩ := List.mem_map.mp hel
      cases e
      have := (List.mem_filter.mp hj).2
      simpa using this
theorem wons_len {shs : List Shape} {wons : List (List (List Int))} (hw : WonsOk shs wons) {i : Nat} {s : Shape} (hs : shs[i]? = some s) : ∀ w ∈ wons.getD i [], CaseOk (lims s) w := by
  have hi := get_lt hs
  exact (hw.ok i s _ hs (getD_of [] (by rw [hw.len]; exact hi))).2
theorem lp_sound {shs : List Shape} {wons : List (List (List Int))} {rows : List Row} (hr : RowsOk shs rows) (hw : WonsOk shs wons) (hd : Decided wons rows) : sound shs.length rows (lp wons rows) = true := by
  rw [sound_iff]
  intro i hi a ha b hb h1 h2
  cases q : ge b.2.1 a.2.1 with
  | false => rfl
  | true =>
    obtain ⟨s, hs, ca⟩ := kn_case hr ha
    obtain ⟨s', hs', cb⟩ := kn_case hr hb
    rw [hs] at hs'
    cases hs'
    have g1 := lp_known hr hd ha
    have g2 := lp_known hr hd hb
    rw [h1] at g1
    rw [h2] at g2
    have := hg_mono (a := a.2.1) (b := b.2.1) (fun w hm => by rw [(wons_len hw hs w hm).len, ca.len]) (by rw [ca.len, cb.len]) q g1
    rw [this] at g2
    cases g2
theorem lp_due {shs : List Shape} {wons : List (List (List Int))} {rows : List Row} (hr : RowsOk shs rows) (hw : WonsOk shs wons) (hd : Decided wons rows) : lp wons rows ∈ dueOf shs.length rows :=
  List.mem_filter.mpr ⟨lp_full hr hd, lp_sound hr hw hd⟩
theorem lp_below {shs : List Shape} {wons : List (List (List Int))} {rows : List Row} (hr : RowsOk shs rows) (hw : WonsOk shs wons) (hd : Decided wons rows) {i : Nat} {s : Shape} (hs : shs[i]? = some s) {c : List Int} (hc : CaseOk (lims s) c) :
    lowB ((kn rows (lp wons rows) i).map fun (k : Kn) => k.2) c ≤ gI (hg (wons.getD i []) c) := by
  rcases lowB_01 (b := (kn rows (lp wons rows) i).map fun (k : Kn) => k.2) (c := c) with z | z
  · rw [z]
    rcases gI_01 (hg (wons.getD i []) c) with y | y <;> rw [y] <;> decide
  · obtain ⟨d, hd1, hd2, hd3⟩ := lowB_one.mp z
    obtain ⟨k, hk, rfl⟩ := List.mem_map.mp hd1
    obtain ⟨s', hs', ck⟩ := kn_case hr hk
    rw [hs] at hs'
    cases hs'
    have g1 := lp_known hr hd hk
    rw [hd2] at g1
    have := hg_mono (a := k.2.1) (b := c) (fun w hm => by rw [(wons_len hw hs w hm).len, ck.len]) (by rw [ck.len, hc.len]) hd3 g1
    rw [z, this]
    decide
/-! one row replaced -/
def plainRow (r : Row) (i : Nat) : Row := ⟨(List.replicate r.parts.length none).set i (r.parts.getD i none), r.won, r.won⟩
theorem plain_no {r : Row} {i : Nat} : isCh (plainRow r i) = false := by
  unfold isCh plainRow
  cases r.won <;> rfl
theorem plain_part {r : Row} {i j : Nat} (hi : i < r.parts.length) : (plainRow r i).parts.getD j none = if j = i then r.parts.getD i none else none := by
  unfold plainRow
  dsimp only
  rw [List.getD_eq_getElem?_getD]
  by_cases q : j = i
  · subst q
    rw [if_pos rfl, List.getElem?_set_self (by simpa using hi)]
    rfl
  · rw [if_neg q, List.getElem?_set_ne (fun z => q z.symm)]
    rw [List.getElem?_replicate]
    split <;> rfl
theorem fullPicks_app {A B : List Row} {r : Row} : fullPicks (A ++ r :: B) = (fullPicks A).flatMap fun a => (entries r).flatMap fun e => (fullPicks B).map fun b => a ++ e :: b := by
  have : fullPicks (A ++ r :: B) = (r :: B).foldl fullStep (fullPicks A) := by
    unfold fullPicks
    rw [List.foldl_append]
  rw [this, foldl_ext]
  congr 1
  funext a
  rw [show (r :: B).foldl fullStep [[]] = fullPicks (r :: B) from rfl, fullPicks_cons, List.map_flatMap]
  congr 1
  funext e
  rw [List.map_map]
  rfl
theorem flatMap_one {α β : Type} [DecidableEq α] {f : α → List β} {x : α} : ∀ {l : List α}, l.Nodup → x ∈ l → (∀ y ∈ l, y ≠ x → f y = []) → l.flatMap f = f x
  | [], _, h, _ => (nomatch h)
  | y :: l, hn, h, hf => by
    rw [List.flatMap_cons]
    obtain ⟨h1, h2⟩ := List.nodup_cons.mp hn
    by_cases q : y = x
    · subst q
      have : l.flatMap f = [] := by
        rw [List.flatMap_eq_nil_iff]
        exact fun z hz => hf z (by simp [hz]) fun e => h1 (e ▸ hz)
      rw [this, List.append_nil]
    · rw [hf y (by simp) q, List.nil_append]
      exact flatMap_one h2 (by rcases List.mem_cons.mp h with z | z; exact absurd z.symm q; exact z) fun z hz => hf z (by simp [hz])
theorem entries_nodup {r : Row} : (entries r).Nodup := by
  unfold entries
  split
  · have : (inPlay r.parts).Nodup := List.Nodup.sublist List.filter_sublist List.nodup_range
    exact List.Pairwise.map _ (fun a b h z => h (Option.some.inj z)) this
  · simp
theorem apart_due {shs : List Shape} {rows : List Row} {n i : Nat} {r : Row} (hr : RowsOk shs rows) (hn : rows[n]? = some r) (hc : isCh r = true) (hi : i ∈ inPlay r.parts) :
    dueOf shs.length (rows.set n (plainRow r i)) = ((dueOf shs.length rows).filter fun p => p.getD n none == some i).map fun p => p.set n none := by
  have hln := get_lt hn
  have er : rows = rows.take n ++ r :: rows.drop (n + 1) := by
    have : r = rows[n] := by
      rw [List.getElem?_eq_getElem hln] at hn
      exact (Option.some.inj hn).symm
    rw [this, ← List.drop_eq_getElem_cons hln, List.take_append_drop]
  have es : rows.set n (plainRow r i) = rows.take n ++ plainRow r i :: rows.drop (n + 1) := by
    rw [List.set_eq_take_append_cons_drop, if_pos hln]
  have hAl : (rows.take n).length = n := by rw [List.length_take]; omega
  have hir : i < r.parts.length := by
    obtain ⟨c, hc⟩ := mem_inPlay.mp hi
    exact get_lt hc
  -- soundness of the two
  have hs : ∀ a b, a ∈ fullPicks (rows.take n) → sound shs.length (rows.set n (plainRow r i)) (a ++ none :: b) = sound shs.length rows (a ++ some i :: b) := fun a b ha => by
    have hal : a.length = n := by rw [fullPicks_mem ha, hAl]
    have mem : ∀ j k, k ∈ kn (rows.set n (plainRow r i)) (a ++ none :: b) j ↔ k ∈ kn rows (a ++ some i :: b) j := fun j k => by
      rw [kn_iff, kn_iff]
      by_cases q : k.1 = n
      · rw [q, List.getElem?_set_self hln, hn]
        have g1 : (a ++ none :: b).getD n none = (none : Option Nat) := getD_get (by rw [List.getElem?_append_right (by omega), hal, Nat.sub_self]; rfl)
        have g2 : (a ++ some i :: b).getD n none = some i := getD_get (by rw [List.getElem?_append_right (by omega), hal, Nat.sub_self]; rfl)
        rw [g1, g2]
        constructor
        · rintro ⟨x, h1, h2, h3, h4⟩
          cases h1
          rw [plain_part hir] at h2
          by_cases w : j = i
          · rw [if_pos w] at h2
            exact ⟨r, rfl, by rw [w]; exact h2, h3, .inr (by rw [w])⟩
          · rw [if_neg w] at h2; cases h2
        · rintro ⟨x, h1, h2, h3, h4⟩
          cases h1
          rcases h4 with h4 | h4
          · rw [hc] at h4; cases h4
          · have w : i = j := Option.some.inj h4
            subst w
            exact ⟨plainRow r i, rfl, by rw [plain_part hir, if_pos rfl]; exact h2, h3, .inl plain_no⟩
      · rw [List.getElem?_set_ne (fun z => q z.symm)]
        have g : (a ++ none :: b).getD k.1 none = (a ++ some i :: b).getD k.1 none := by
          rw [List.getD_eq_getElem?_getD, List.getD_eq_getElem?_getD]
          by_cases w : k.1 < a.length
          · rw [List.getElem?_append_left w, List.getElem?_append_left w]
          · rw [List.getElem?_append_right (by omega), List.getElem?_append_right (by omega)]
            obtain ⟨m, hm⟩ : ∃ m, k.1 - a.length = m + 1 := ⟨k.1 - a.length - 1, by omega⟩
            rw [hm]
            rfl
        rw [g]
    rw [Bool.eq_iff_iff, sound_iff, sound_iff]
    constructor
    · intro h j hj x hx y hy
      exact h j hj x ((mem j x).mpr hx) y ((mem j y).mpr hy)
    · intro h j hj x hx y hy
      exact h j hj x ((mem j x).mp hx) y ((mem j y).mp hy)
  unfold dueOf
  conv => lhs; arg 2; rw [es]
  conv => rhs; arg 2; arg 2; arg 2; rw [er]
  rw [fullPicks_app, fullPicks_app]
  have e1 : entries (plainRow r i) = [none] := by
    unfold entries
    rw [plain_no, if_neg Bool.false_ne_true]
  rw [e1, List.filter_flatMap, List.filter_filter, List.filter_flatMap, List.map_flatMap]
  have cong : ∀ {α β : Type} {l : List α} {f g : α → List β}, (∀ a ∈ l, f a = g a) → l.flatMap f = l.flatMap g := fun {α β l f g} h => by
    induction l with
    | nil => rfl
    | cons x l ih => rw [List.flatMap_cons, List.flatMap_cons, h x (by simp), ih fun a ha => h a (by simp [ha])]
  refine cong fun a ha => ?_
  have hal : a.length = n := by rw [fullPicks_mem ha, hAl]
  have get : ∀ (e : Option Nat) b, (a ++ e :: b).getD n none = e := fun e b => getD_get (by rw [List.getElem?_append_right (by omega), hal, Nat.sub_self]; rfl)
  rw [List.filter_flatMap, List.filter_flatMap, List.map_flatMap, List.flatMap_cons, List.flatMap_nil, List.append_nil]
  rw [flatMap_one (x := some i) entries_nodup (entries_mem.mpr (.inl ⟨hc, i, rfl, hi⟩)) fun y hy hne => ?_]
  · rw [List.filter_map, List.filter_map, List.map_map]
    have f1 : (fullPicks (rows.drop (n + 1))).filter (sound shs.length (rows.set n (plainRow r i)) ∘ fun b => a ++ none :: b) = (fullPicks (rows.drop (n + 1))).filter ((fun p => p.getD n none == some i && sound shs.length rows p) ∘ fun b => a ++ some i :: b) := by
      apply List.filter_congr
      intro b _
      show sound _ _ _ = ((a ++ some i :: b).getD n none == some i && sound _ _ _)
      rw [get, hs a b ha]
      simp
    rw [f1]
    apply List.map_congr_left
    intro b _
    show a ++ none :: b = (a ++ some i :: b).set n none
    rw [List.set_append_right n none (by omega), hal, Nat.sub_self]
    rfl
  · rw [List.map_eq_nil_iff, List.filter_eq_nil_iff]
    intro p hp hx
    obtain ⟨b, _, rfl⟩ := List.mem_map.mp hp
    rw [get, Bool.and_eq_true, beq_iff_eq] at hx
    exact hne hx.1
end Sc
/-! Rx10: a loop over an instance whose __iter__ gives iter(self.l). -/
namespace Sc
open PySem L2 PySem.Spec PyProof.Rows
/-- iter(l): younger than n -/
def rIterY (K : PySem.W.Frag) (n : Nat) : List V → Hp → VK → Prop := fun xs H Q => ∃ (l : Addr) (zs : List V), xs = [.ref l] ∧ SqL K H l zs ∧ ∀ it, H it = none → n ≤ it → Q (.ref it) (upd H it (ItO l it 0))
theorem call_iterY {X : Cx} : CallR X (.builtin "iter") (rIterY X.K X.s_0.heap.objs.size) := by
  intro pins s σ H xs us Q I r h
  obtain ⟨l, zs, rfl, hq, q⟩ := h
  obtain rfl := Vals.ref1 r
  obtain ⟨its, rv, pl, hz⟩ := I.list hq
  refine GNX.call_iter pl.isList ?_
  exact ⟨.ref s.heap.objs.size, _, I.laid (t' := s.toks) (fun b u e => Heap.get?_push_of_some _ e) (Nat.le_refl _) (itO_ok (Heap.get?_push_size _ rfl)), rfl, q _ (I.hok.fresh (Nat.le_refl _)) I.sz⟩
section
variable {X : Cx} {pins : List (Addr × Obj)} {σ : L2.St} {H : Hp} {s : Shared} {C f : Addr} {fd : FuncData} {st : Stmt} {qual fld : Str} {p a dx : Addr} {fs : List (Str × V)} {xs : List V} {k : Nat}
theorem run_iter (F : Fun X.K "__iter__" qual st f fd) (S : FnScope ["self"] ["self"] (defScope st)) (hr : Room (k + 1) X.A) (I : Inv X pins σ H s)
    (hbd : ∀ (kV doc pm : Value) (an : Option Addr) (cdv ct : Value) (us : List Value), us.length = 1 → bindArgs (PySem.W.fnOf "__iter__" qual (defArgs st) (defBody st) (defScope st) .none kV doc pm an cdv ct) ⟨us, []⟩ = pure ((["self"] : List Str).zip us))
    (hbody : ∀ (cdv : Value), PSs (cxOf CX0 X.prog X.w X.K X.mg X.base ["self"] qual (defScope st) f cdv X.A X.stack s H E0) (defBody st) (tRet (tCB (rIterY X.K s.heap.objs.size) (tCons (tFld X.K (tVar 0) fld) tNil))))
    (hp : H p = some (.ins C dx fs)) (hc : Cls X.K C) (hn : NoAttr X.K C fld) (hl : fs.lookup fld = some (.ref a)) (ha : SqL X.K H a xs) :
    wpAny (model X.prog X.w) X.A (call (.ref f) [.ref p]) (EP X pins σ fun v H' => ∃ it, v = .ref it ∧ H it = none ∧ s.heap.objs.size ≤ it ∧ H' = upd H it (ItO a it 0)) X.xe s := by
  obtain ⟨oc, od, kV, doc, pm, an, cdv, ct, osl, rfl, lk, hcd⟩ := F.ex
  have e0 := I.env0
  have KX : X.K.In s.heap := I.kIn
  have lim : s.heap.NoLimit := I.nolimit
  have hkind : ∀ y ∈ (["self"] : List Str).zip [Value.ref p], (defScope st).names.lookup y.1 = some .local ∨ ((defScope st).names.lookup y.1 = some .cell ∧ ((cellsFrom (s.heap.objs.size + 1) (defScope st).names []).lookup y.1).isSome = true) := fun ⟨n, v⟩ hy => by
    rcases S.par n (List.of_mem_zip hy).1 with q | q
    · exact .inl q
    · exact .inr ⟨q, PySem.W.cellsFrom_some _ _ _ (.inl q)⟩
  refine wpAny_call (codeAny_call_function hr.depth (KX _ _ lk) rfl S.co S.gen rfl (PySem.W.codeRec_of KX hcd) ?_)
  rw [hbd kV doc pm an cdv ct [.ref p] rfl]
  refine wpAny_pure ?_
  refine wpAny_newFunctionEnv_cells S.kind hkind fun env he s1 x => ?_
  subst he
  refine ⟨lim.keeps x.toInCall.keep, codeAny_func ?_⟩
  have I' : Inv (cxOf CX0 X.prog X.w X.K X.mg X.base ["self"] qual (defScope st) f cdv X.A X.stack s H E0) [] (L2.start ["self"] [V.ref p]) H s1 := inv_start S hr.hd e0 rfl (.cons rfl .nil) x
  have hq : tRet (tCB (rIterY X.K s.heap.objs.size) (tCons (tFld X.K (tVar 0) fld) tNil)) { nx := fun _ _ => False, rt := fun v H' => ∃ it, v = .ref it ∧ H it = none ∧ s.heap.objs.size ≤ it ∧ H' = upd H it (ItO a it 0) } (L2.start ["self"] [V.ref p]) H := by
    refine ⟨.ref p, rfl, p, C, dx, fs, .ref a, rfl, hp, hc, hn, hl, ?_⟩
    exact ⟨a, xs, rfl, ha, fun it h1 h2 => ⟨it, rfl, h1, h2, rfl⟩⟩
  refine wpAny_mono ((hbody cdv).run [] s1 _ H _ I' hq) (fun fl s' hs => ?_) fun e s' hs => ?_
  · cases fl with
    | ret u =>
      obtain ⟨v, σ', H', J, rv, q⟩ := hs
      exact I.after ⟨v, H', J.os, J.bare, J.base, J.hok, rv, q⟩
    | next => obtain ⟨_, _, _, q⟩ := hs; exact q.elim
    | brk => obtain ⟨_, _, _, q⟩ := hs; exact q.elim
    | cont => obtain ⟨_, _, _, q⟩ := hs; exact q.elim
  · exact wpAny_mono hs (fun _ _ z => z.elim) fun _ _ z => z.elim
end
structure IterAt (K : PySem.W.Frag) (C : Addr) (qual : Str) (st : Stmt) : Prop where
  ex : ∃ (f : Addr) (fd : FuncData), Fun K "__iter__" qual st f fd ∧ Meth K C "__iter__" f
def iOwnI (K : PySem.W.Frag) (C : Addr) (fld : Str) (te : TE) : TI := fun σ H R => te σ H fun v H1 => ∃ p dx fs a xs, v = .ref p ∧ H1 p = some (.ins C dx fs) ∧ Cls K C ∧ NoAttr K C fld ∧ fs.lookup fld = some (.ref a) ∧ SqL K H1 a xs ∧ R (ItX.ItlF K a 0) H1
theorem pi_ownI {X : Cx} {tg e : Expr} {te : TE} {C : Addr} {qual fld : Str} {st : Stmt} {k : Nat} (F : IterAt X.K C qual st) (S : FnScope ["self"] ["self"] (defScope st)) (hr : Room (k + 1) X.A)
    (hbd : ∀ (kV doc pm : Value) (an : Option Addr) (cdv ct : Value) (us : List Value), us.length = 1 → bindArgs (PySem.W.fnOf "__iter__" qual (defArgs st) (defBody st) (defScope st) .none kV doc pm an cdv ct) ⟨us, []⟩ = pure ((["self"] : List Str).zip us))
    (hbody : ∀ (f : Addr) (s : Shared) (H : Hp) (cdv : Value), PSs (cxOf CX0 X.prog X.w X.K X.mg X.base ["self"] qual (defScope st) f cdv X.A X.stack s H E0) (defBody st) (tRet (tCB (rIterY X.K s.heap.objs.size) (tCons (tFld X.K (tVar 0) fld) tNil))))
    (he : PE X e te) : PI X tg e (iOwnI X.K C fld te) := by
  obtain ⟨f, fd, F, hm⟩ := F.ex
  refine ⟨fun pins s σ H R I h => ?_⟩
  refine thn (he.run pins s σ H _ I h) fun v s1 ⟨x, H1, I1, r1, p, dx, fs, a, xs, ex, hp, hc, hn, hl, ha, q⟩ => ?_
  subst ex
  obtain rfl : v = Value.ref p := r1
  obtain ⟨mA, OO, _⟩ := ins_get I1.hok hp
  obtain ⟨odx, J, _⟩ := OO.look
  obtain ⟨m, hF⟩ := I1.fr
  refine PySem.W.owit_iter hF I1.ok.mod.kin J hm.at_ hm.fn ?_
  refine thn (run_iter F S hr I1 hbd (hbody f s1 H1) hp hc hn hl ha) fun u s2 ⟨v2, H2, I2, r2, it, ev, hit, hsz, eH⟩ => ?_
  subst ev eH
  obtain rfl : u = Value.ref it := r2
  have hi : (upd H1 it (ItO a it 0)) it = some (ItO a it 0) := upd_same
  have eo := itO_get I2 hi
  have st' : s2.heap.IsListIter it a (0 + 0) := ⟨_, eo, rfl, rfl⟩
  unfold PySem.W.OwitIt
  refine wpAny_specialOf (T := "list_iterator") ⟨_, eo, rfl⟩ slot_listiter_next.lookup ?_
  have hi' := hi
  unfold ItO at hi'
  have I3 := ItX.inv_drop I2 hi'
  rw [show ItX.dropH (upd H1 it (ItO a it 0)) it = H1 from ItX.dropH_upd hit] at I3
  refine ⟨it, [it], _, _, H1, rfl, I3, ItX.turn_listF a it 0, st', fun b hb => ?_, q⟩
  have e : b = it := by simpa using hb
  rw [e]
  have := ItX.inv_fp I2 hi (Nat.le_trans I1.sz hsz)
  rw [show ItX.dropH (upd H1 it (ItO a it 0)) it = H1 from ItX.dropH_upd hit] at this
  exact this
section
variable {K : PySem.W.Frag} {G : List SD} {te : TE}
theorem ei_ownI {C : Addr} {fld : Str} {R : List Da → Prop} (h : EvD K te G fun d => ∃ fs l, d = .obj C fs ∧ Cls K C ∧ NoAttr K C fld ∧ fs.lookup fld = some (.lst l) ∧ R l) : EvI K (iOwnI K C fld te) G R := fun O σ H s Q k =>
  h O σ H s _ fun v H1 d ⟨fs, l, ed, hc, hn, hl, r⟩ e1 r1 => by
    subst ed
    simp only [Rep] at r1
    obtain ⟨p, dx, gs, rfl, h2, h3⟩ := r1
    obtain ⟨u, l2, r2⟩ := h3.look hl
    simp only [Rep] at r2
    obtain ⟨a, xs, rfl, h4, h5⟩ := r2
    refine ⟨p, dx, gs, a, xs, rfl, hid_same _ _ _ _ h2, hc, hn, l2, SqL.of (hid_same _ _ _ _ h4), k _ H1 l r e1 fun O2 H2 e hO => ?_⟩
    have h6 : SqL K H2 a xs := SqL.of (hid_same O2 H2 _ _ (e _ _ h4))
    refine ⟨⟨xs, h6, by rw [h5.length]; omega⟩, fun i hi => ⟨⟨xs, xs[i]'(by rw [h5.length]; exact hi), h6, by simp⟩, fun x H' y => ?_⟩⟩
    obtain ⟨rfl, y⟩ := y
    obtain ⟨d, e1, e2⟩ := h5.getV (by have := y xs h6; rwa [Nat.zero_add] at this)
    exact ⟨Same.refl _, d, e1, e2.mono e⟩
end
end Sc
/-! Rx11: generator defs on data: if, the readings, list(g(..)). -/
namespace Sc
open PySem L2 PySem.Spec PyProof.Rows GenW
section
variable {X : Cx} {st : Stmt} {t : TS}
theorem ps_nox (h : PS X.nox st t) : PS X st t :=
  ⟨fun pins s σ H D I hw => wpAny_mono (h.run pins s σ H D (Inv.wish I _) hw) (fun f s' q => SP.unwish q) fun x s' z => z.elim⟩
def tGIf (c : TT) (t u : TGn) : TGn := fun D ys σ H => c σ H fun b H1 => if b = true then t D ys σ H1 else u D ys σ H1
theorem gs_if {test : Expr} {body orelse : List Stmt} {pos : Pos} {tc : TT} {t u : TGn} (hc : PT X test tc) (hb : GSs X body t) (ho : GSs X orelse u) : GS X (.If test body orelse pos) (tGIf tc t u) := by
  refine ⟨fun A S ip R n ys s₀ c fs K J gd lv s σ H D g hn k hI ht => ?_⟩
  show Seg _ _ _ _ n s₀ c (.at pos fun _ => (isTrue test X.env (eval test X.env) >>= fun b => if b then execs body X.env else execs orelse X.env).wrap K J gd lv) fs s
  refine seg_at (seg_bind_wrap ?_)
  rw [g.over]
  obtain ⟨acc, cc, r, I⟩ := hI
  refine wpAny_mono (hc.run _ s σ H _ I ht) (fun b s' q => ?_) fun x s' hx => k.exc n s₀ x s' hx
  obtain ⟨H1, I1, q⟩ := q
  cases b with
  | true =>
    rw [if_pos rfl] at q
    exact hb.run A S ip R n ys s₀ c fs K J gd lv s' σ H1 D g hn k ⟨acc, cc, r, I1⟩ q
  | false =>
    rw [if_neg Bool.false_ne_true] at q
    exact ho.run A S ip R n ys s₀ c fs K J gd lv s' σ H1 D g hn k ⟨acc, cc, r, I1⟩ q
end
/-! ### on data -/
structure PostG where
  nx : List Da → List SD → Prop
  bk : List Da → List SD → Prop := fun _ _ => False
  ct : List Da → List SD → Prop := fun _ _ => False
structure ContG (K : PySem.W.Frag) (B : Hp) (O0 : Addr → Bool) (P : PostG) (D : GEnds) : Prop where
  nx : ∀ O σ H G yd ys, P.nx yd G → StB K B O0 O σ H G → RepL K (hid O H) yd ys → D.nx ys σ H
  bk : ∀ O σ H G yd ys, P.bk yd G → StB K B O0 O σ H G → RepL K (hid O H) yd ys → D.bk ys σ H
  ct : ∀ O σ H G yd ys, P.ct yd G → StB K B O0 O σ H G → RepL K (hid O H) yd ys → D.ct ys σ H
def GoG (K : PySem.W.Frag) (t : TGn) (yd : List Da) (G : List SD) (P : PostG) : Prop :=
  ∀ B O0 O σ H ys D, StB K B O0 O σ H G → RepL K (hid O H) yd ys → ContG K B O0 P D → t D ys σ H
section
variable {K : PySem.W.Frag} {G : List SD} {yd : List Da} {P : PostG} {te : TE} {tt : TT} {t u : TGn}
theorem gg_plain {t : TS} (h : Ho K t G (P.nx yd) (fun _ => False) (P.bk yd) (P.ct yd)) : GoG K (tPlain t) yd G P := fun B O0 O σ H ys D s r c => by
  obtain ⟨eB, s1⟩ := s.up
  exact h (low B O H) O0 O σ H (D.at ys) s1 ⟨fun O' σ' H' G' p s' => c.nx O' σ' H' G' yd ys p (s'.weak eB) (r.mono (StB.keep s.sub s')), fun _ _ _ p => p.elim,
    fun O' σ' H' G' p s' => c.bk O' σ' H' G' yd ys p (s'.weak eB) (r.mono (StB.keep s.sub s')), fun O' σ' H' G' p s' => c.ct O' σ' H' G' yd ys p (s'.weak eB) (r.mono (StB.keep s.sub s'))⟩
theorem gg_nil (h : P.nx yd G) : GoG K tG0 yd G P := fun B O0 O σ H ys D s r c => c.nx O σ H G yd ys h s r
theorem gg_cons (h : GoG K t yd G { nx := fun yd' G' => GoG K u yd' G' P, bk := P.bk, ct := P.ct }) : GoG K (tGThen t u) yd G P := fun B O0 O σ H ys D s r c =>
  h B O0 O σ H ys _ s r ⟨fun O σ H G yd ys p s r => p B O0 O σ H ys D s r c, c.bk, c.ct⟩
theorem gg_if (h : EvT K tt G fun b => (b = true → GoG K t yd G P) ∧ (b = false → GoG K u yd G P)) : GoG K (tGIf tt t u) yd G P := fun B O0 O σ H ys D s r c =>
  h O σ H s.st _ fun b H1 ⟨q1, q2⟩ e => by
    cases b with
    | true => exact q1 rfl B O0 O σ H1 ys D (s.mono e) (r.mono (hid_mono e)) c
    | false => exact q2 rfl B O0 O σ H1 ys D (s.mono e) (r.mono (hid_mono e)) c
theorem gg_yield (hl : yd.length ≤ 100000) (h : EvD K te G fun d => P.nx (yd ++ [d]) G) : GoG K (tGYield te) yd G P := fun B O0 O σ H ys D s r c =>
  ⟨Nat.lt_of_le_of_lt (Nat.le_trans (Nat.le_of_eq r.length) hl) (by decide), h O σ H s.st _ fun v H1 d p e rv => c.nx O σ H1 G _ _ p (s.mono e) ((r.mono (hid_mono e)).append (.one rv))⟩
theorem gg_while {tc : TT} {tb : TGn} (Iv : Nat → List Da → List SD → Prop) (m0 : Nat) (i0 : Iv m0 yd G)
    (step : ∀ m yd G, Iv m yd G → EvT K tc G fun b => (b = true → GoG K tb yd G { nx := fun yd' G' => ∃ m', m' < m ∧ Iv m' yd' G', bk := P.nx, ct := fun yd' G' => ∃ m', m' < m ∧ Iv m' yd' G' }) ∧ (b = false → P.nx yd G)) :
    GoG K (tGWhile tc tb) yd G P := fun B O0 O σ H ys D s r c =>
  ⟨fun m ys σ H => ∃ O G yd, Iv m yd G ∧ StB K B O0 O σ H G ∧ RepL K (hid O H) yd ys, ⟨m0, O, G, yd, i0, s, r⟩, fun m ys σ H ⟨O, G, yd, i, s, r⟩ => step m yd G i O σ H s.st _ fun b H1 ⟨q1, q2⟩ e => by
    cases b with
    | true =>
      rw [if_pos rfl]
      refine ⟨fun ys' σ' H' => ∃ m', m' < m ∧ ∃ O G yd, Iv m' yd G ∧ StB K B O0 O σ' H' G ∧ RepL K (hid O H') yd ys', fun _ _ _ h => h, ?_⟩
      exact q1 rfl B O0 O σ H1 ys _ (s.mono e) (r.mono (hid_mono e)) ⟨fun O σ H G yd ys ⟨m', hm, i⟩ s r => ⟨m', hm, O, G, yd, i, s, r⟩, fun O σ H G yd ys p s r => c.nx O σ H G yd ys p s r, fun O σ H G yd ys ⟨m', hm, i⟩ s r => ⟨m', hm, O, G, yd, i, s, r⟩⟩
    | false =>
      rw [if_neg Bool.false_ne_true]
      exact c.nx O σ H1 G yd ys (q2 rfl) (s.mono e) (r.mono (hid_mono e))⟩
/-- the last item is taken out of an own list -/
theorem hd_pop (i j : Nat) {l : List Da} {d : Da} {Q : Post} (h : G[i]? = some (.own (l ++ [d]))) (q : Q.nx ((G.set i (.own l)).set j (.val d))) : HoD K (tAsg (tBM0 K "list" rPop (tVar i)) (gName j)) G Q := fun B O0 O σ H E s c => by
  obtain ⟨a, xs, h1, h2, h3, h4⟩ := s.st.slot i _ h
  have hl : xs.length = l.length + 1 := by rw [h4.length, List.length_append]; rfl
  obtain ⟨v, hv, rv⟩ := h4.get (i := l.length) (d := d) (by simp)
  have r' : RepL K (hid O H) l xs.dropLast := by
    have := h4.take l.length
    rw [List.take_left] at this
    rw [List.dropLast_eq_take, hl]
    exact this
  refine ⟨.ref a, h1, .inl ⟨rfl, xs, SqL.of h3⟩, a, xs, v, rfl, rfl, h3, by rw [hl]; exact hv, ?_⟩
  refine c.nx O _ _ _ q ((s.write h h1 r').set_val ?_)
  rw [hid_poke h2]
  exact rv
theorem ho_pop {nx bk ct : List SD → Prop} {rt : Da → Prop} (i j : Nat) {l : List Da} {d : Da} (h : G[i]? = some (.own (l ++ [d]))) (q : nx ((G.set i (.own l)).set j (.val d))) : Ho K (tAsg (tBM0 K "list" rPop (tVar i)) (gName j)) G nx rt bk ct := hd_pop i j h q
end
/-! ### promises of generator defs -/
abbrev WPG := List Da → (List Da → Prop) → Prop
def spG (K : PySem.W.Frag) (W : WPG) : SpG := fun vs H Q _ => ∃ (O : Addr → Bool) (ds : List Da) (R : List Da → Prop), (∀ a, O a = true → H a ≠ none) ∧ RepL K (hid O H) ds vs ∧ W ds R ∧
  ∀ ys H' yd, R yd → Same H H' → RepL K (hid O H') yd ys → Q ys H'
structure HasG (P : Program) (w : World) (K : PySem.W.Frag) (mg : Str → Option Value) (base : Heap) (x : Str) (k : Nat) (ps : List Str) (sp : SpG) : Prop where
  ex : ∃ (f : Addr) (fd : FuncData), GFn P w K mg base k f fd ps sp ∧ mg x = some (.ref f) ∧ PySem.W.keepIn K (.ref f) = true ∧ Binds K fd ps []
section
variable {P : Program} {w : World} {K : PySem.W.Frag} {mg : Str → Option Value} {base : Heap}
theorem hasG {x : Str} {st : Stmt} {N ps : List Str} {k : Nat} {W : WPG} (F : FunAt K mg x st) (S : GScope N ps (defScope st)) (hl : ∀ ds R, W ds R → ds.length = ps.length)
    (hbd : ∀ (kV doc pm : Value) (an : Option Addr) (cdv ct : Value) (us : List Value), us.length = ps.length → bindArgs (PySem.W.fnOf x x (defArgs st) (defBody st) (defScope st) .none kV doc pm an cdv ct) ⟨us, []⟩ = pure (ps.zip us))
    (hb : ∀ (f : Addr) (cdv : Value) (A : Around) (outer : List Env) (s : Shared) (H : Hp) (E : XK) (pn : List (Addr × Obj)), Room k (A.deeper (PyProof.Rows.envOfC x (defScope st) s.heap.objs.size f cdv)) →
      ∃ t, GSs (gcxOf P w K mg base N x (defScope st) f cdv A outer s H E pn) (defBody st) t ∧ ∀ ds R, W ds R → GoG K t [] (slots ds N.length) { nx := fun yd _ => R yd }) : HasG P w K mg base x (k + 1) ps (spG K W) := by
  obtain ⟨f, fd, F, hm⟩ := F.ex
  have hbi := F.binds hbd
  have hkp := F.kp
  obtain ⟨oc, od, kV, doc, pm, an, cdv, ct, osl, rfl, lk, hcd⟩ := F.ex
  refine ⟨f, _, gfn_of lk hcd S (fun vs H Q E h => ?_) (fun A outer s H vs Q E pn hr h => ?_), hm, hkp, hbi⟩
  · obtain ⟨O, ds, R, _, r, hw, _⟩ := h
    rw [r.length, hl ds R hw]
  · obtain ⟨O, ds, R, hO, r, hw, hq⟩ := h
    obtain ⟨t, ht, hd⟩ := hb f cdv A outer s H E pn hr
    refine ⟨t, ht, hd ds R hw H O O _ H [] _ ⟨stv_start hO r, Same.refl H, fun _ z => z, fun _ z => .inl z, fun i l a q => ?_, fun i a C fs q => ?_⟩ .nil ⟨fun O' σ H' G yd ys p s rl => ?_, fun _ _ _ _ _ _ p => p.elim, fun _ _ _ _ _ _ p => p.elim⟩⟩
    · cases no_mine q
    · cases no_mine q
    · exact hq ys H' yd p s.base (rl.mono (hid_sub s.sub))
end
section
variable {X : Cx} {k : Nat} {ps : List Str} {sp : SpG} {x : Str} {p p1 pos pos' : Pos} {e : Expr} {es : List Expr} {t : TA}
theorem passG : Passes (CX X.prog X.w) X E0 := fun _ _ _ _ _ _ _ h => by
  obtain ⟨_, _, _, _, _, _, _, _, _, _, _, _, q⟩ := h
  exact q.elim
abbrev tListPicks (sp : SpG) (t : TA) : TE := tListG (tCallG sp [] E0 t)
theorem pe_listPicks (h : HasG X.prog X.w X.K X.mg X.base x k ps sp) (hr : Room (k + 3) X.A) (hml : X.mg "list" = none) (hg : Gl X x) (hgl : Gl X "list") (ha : PA X (e :: es) t) (hdb : (x == ("__debug__" : Str)) = false := by decide)
    (he : starEach (e :: es) X.env = (false, eval e X.env) :: starEach es X.env := by rfl) (hpl : (backTo pos' (starEach es X.env)).any (·.1) = false := by rfl)
    (hc : starEach [.Call (.Name x p) (e :: es) [] pos'] X.env = (false, eval (.Call (.Name x p) (e :: es) [] pos') X.env) :: starEach [] X.env := by rfl) :
    PE X (.Call (.Name "list" p1) [.Call (.Name x p) (e :: es) [] pos'] [] pos) (tListPicks sp t) := by
  obtain ⟨f, fd, F, hm, hk, hb⟩ := h.ex
  refine pe_listG (pgen_call F (hr.mono (by omega)) hg hm hk hb .nil ha hdb he hpl) passG (fun _ _ _ z => z.elim) hr hgl hml ?_ (by decide) (by decide) hc
  decide +kernel
end
theorem en_listPicks {K : PySem.W.Frag} {G : List SD} {t : TA} {W : WPG} {R : List Da → Prop} (h : EvA K t G fun ds => W ds R) : EvN K (tListPicks (spG K W) t) G R := fun O σ H s Q k =>
  h O σ H s _ fun vs H1 ds hw e1 r1 => ⟨O, ds, R, (s.mono e1).there, by simpa using r1, hw, fun ys H2 yd ry e2 r2 p hp => k p _ ys yd ry ((e1.trans e2).free hp) ((e1.trans e2).trans (same_new hp)) upd_same (new_list hp r2)⟩
end Sc
/-! Rx12: a generator up to its first item: for x in g(..): return .. -/
namespace Sc
open PySem L2 PySem.Spec PyProof.Rows GenW
/-! ### the body up to the first yield: the item goes to D.rt -/
def E1 (X : Cx) (D : Ends) (f : Flow) (s : Shared) : Prop := match f with
  | .next => ∃ σ H, Inv X [] σ H s ∧ D.nx σ H
  | .brk => ∃ σ H, Inv X [] σ H s ∧ D.bk σ H
  | .cont => ∃ σ H, Inv X [] σ H s ∧ D.ct σ H
  | .ret _ => False
structure C1 (X : Cx) (A : Around) (c : Code) (fs : List Frame) (gd : Bool → Bool) : Prop where
  over : A.over c fs = X.A
  split : splitAtGen fs = none
  guard : fs.any Frame.guarded = false
  gd : gd false = false
structure K1 (X : Cx) (A : Around) (R : GenEnd) (Y : Protocol) (c : Code) (fs : List Frame) (K : Flow → Sem PySem.Fin) (D : Ends) : Prop where
  ok : ∀ s₀ s f, E1 X D f s → Seg (model X.prog X.w) A R Y 1 s₀ c (K f) fs s
  yl : ∀ s₀ v s kap x σ H, RelV x v → Inv X [] σ H s → D.rt x H → Y 0 s₀ v s kap
structure S1 (X : Cx) (st : Stmt) (t : TS) : Prop where
  run : ∀ (A : Around) (R : GenEnd) (Y : Protocol) (s₀ : Shared) (c : Code) (fs : List Frame) (K : Flow → Sem PySem.Fin) (J : Value → Sem PySem.Fin) (gd : Bool → Bool) (lv : List Value → List Value) (s : Shared) (σ : L2.St) (H : Hp) (D : Ends),
    C1 X A c fs gd → K1 X A R Y c fs K D → Inv X [] σ H s → t D σ H → Seg (model X.prog X.w) A R Y 1 s₀ c ((exec st X.env).wrap K J gd lv) fs s
structure S1s (X : Cx) (st : List Stmt) (t : TS) : Prop where
  run : ∀ (A : Around) (R : GenEnd) (Y : Protocol) (s₀ : Shared) (c : Code) (fs : List Frame) (K : Flow → Sem PySem.Fin) (J : Value → Sem PySem.Fin) (gd : Bool → Bool) (lv : List Value → List Value) (s : Shared) (σ : L2.St) (H : Hp) (D : Ends),
    C1 X A c fs gd → K1 X A R Y c fs K D → Inv X [] σ H s → t D σ H → Seg (model X.prog X.w) A R Y 1 s₀ c ((execs st X.env).wrap K J gd lv) fs s
section
variable {X : Cx} {st : Stmt} {rest : List Stmt} {t u : TS}
def tNoRet (t : TS) : TS := fun D σ H => t { D with rt := fun _ _ => False } σ H
theorem s1_ps (h : PS X.nox st t) : S1 X st (tNoRet t) := by
  refine ⟨fun A R Y s₀ c fs K J gd lv s σ H D g k I ht => seg_wrap ?_⟩
  rw [g.over]
  refine wpAny_mono (h.run [] s σ H _ (Inv.wish I _) ht) (fun f s' q => k.ok s₀ s' f ?_) fun _ _ z => z.elim
  cases f with
  | next => obtain ⟨σ', H', I', q⟩ := q; exact ⟨σ', H', I'.unwish, q⟩
  | brk => obtain ⟨σ', H', I', q⟩ := q; exact ⟨σ', H', I'.unwish, q⟩
  | cont => obtain ⟨σ', H', I', q⟩ := q; exact ⟨σ', H', I'.unwish, q⟩
  | ret u => obtain ⟨_, _, _, _, _, q⟩ := q; exact q
theorem s1s_nil : S1s X [] tNext :=
  ⟨fun A R Y s₀ c fs K J gd lv s σ H D g k I ht => seg_execs_nil (k.ok s₀ s .next ⟨σ, H, I, ht⟩)⟩
theorem s1s_cons (a : S1 X st t) (b : S1s X rest u) : S1s X (st :: rest) (tSeq t u) := by
  refine ⟨fun A R Y s₀ c fs K J gd lv s σ H D g k I ht => seg_execs_cons (a.run A R Y s₀ c fs _ J gd lv s σ H { D with nx := u D } g ⟨fun s₁ s' f q => ?_, k.yl⟩ I ht)⟩
  cases f with
  | next => obtain ⟨σ', H', I', q⟩ := q; exact b.run A R Y s₁ c fs K J gd lv s' σ' H' D g k I' q
  | brk => exact k.ok s₁ s' .brk q
  | cont => exact k.ok s₁ s' .cont q
  | ret u => exact q.elim
theorem s1_if {test : Expr} {body orelse : List Stmt} {pos : Pos} {tc : TT} (hc : PT X.nox test tc) (hb : S1s X body t) (ho : S1s X orelse u) : S1 X (.If test body orelse pos) (tIfS tc t u) := by
  refine ⟨fun A R Y s₀ c fs K J gd lv s σ H D g k I ht => ?_⟩
  show Seg _ _ _ _ 1 s₀ c (.at pos fun _ => (isTrue test X.env (eval test X.env) >>= fun b => if b then execs body X.env else execs orelse X.env).wrap K J gd lv) fs s
  refine seg_at (seg_bind_wrap ?_)
  rw [g.over]
  refine wpAny_mono (hc.run [] s σ H _ (Inv.wish I _) ht) (fun b s' q => ?_) fun _ _ z => z.elim
  obtain ⟨H1, I1, q⟩ := q
  cases b with
  | true => exact hb.run A R Y s₀ c fs K J gd lv s' σ H1 D g k I1.unwish (by rw [if_pos rfl] at q; exact q)
  | false => exact ho.run A R Y s₀ c fs K J gd lv s' σ H1 D g k I1.unwish (by rw [if_neg Bool.false_ne_true] at q; exact q)
theorem s1_yield {e : Expr} {yp pos : Pos} {te : TE} (he : PE X.nox e te) (hco : X.env.scope.isCoroutine = false := by rfl) (hi : interactive X.env = false := by rfl) : S1 X (.Expr (.Yield (some e) yp) pos) (tRet te) := by
  refine ⟨fun A R Y s₀ c fs K J gd lv s σ H D g k I ht => seg_Expr_Yield (n := 0) g.split g.gd g.guard ?_ hco hi⟩
  rw [g.over]
  refine wpAny_mono (he.run [] s σ H _ (Inv.wish I _) ht) (fun v s' q kap _ => ?_) fun _ _ z => z.elim
  obtain ⟨x, H1, I1, rv, q⟩ := q
  exact k.yl s₀ v s' kap x σ H1 rv I1.unwish q
theorem s1_while {test : Expr} {body : List Stmt} {pos : Pos} {tc : TT} {tb : TS} (hc : PT X.nox test tc) (hb : S1s X body tb) : S1 X (.While test body [] pos) (tWhile tc tb) := by
  refine ⟨fun A R Y s₀ c fs K J gd lv s σ H D g k I ht => ?_⟩
  obtain ⟨W, ⟨m0, w0⟩, turn⟩ := ht
  refine seg_While fun p => ?_
  have gl : ∀ kk : Result → Sem PySem.Fin, C1 X A (.whileLoop test body [] X.env) (.ret kk none (gd false) (lv []) c p [] :: fs) id := fun kk => by
    refine ⟨(over_loop rfl rfl).trans g.over, ?_, ?_, rfl⟩
    · show (splitAtGen fs).map _ = none
      rw [g.split]
      rfl
    · show (gd false || fs.any Frame.guarded) = false
      rw [g.gd, g.guard]
      rfl
  have loop : ∀ (m : Nat) (s₁ s : Shared) (σ : L2.St) (H : Hp), W m σ H → Inv X [] σ H s → Seg (model X.prog X.w) A R Y 1 s₁ (.whileLoop test body [] X.env) ((model X.prog X.w).den (.whileLoop test body [] X.env))
      (.ret (fun r => ((match r with | .ok f => (.pure f : Sem Flow) | .error e => .raise e).onRaise (cameBack X.env)).wrap K J gd lv) none (gd false) (lv []) c p [] :: fs) s := by
    intro m
    induction m using Nat.strongRecOn with
    | ind m ih =>
      intro s₁ s σ H w I
      refine seg_whileLoop ?_
      rw [(gl _).over]
      refine wpAny_mono (hc.run [] s σ H _ (Inv.wish I _) (turn m σ H w)) (fun b s' q => ?_) fun _ _ z => z.elim
      obtain ⟨H2, I2, q2⟩ := q
      have I2 := I2.unwish
      cases b with
      | true =>
        rw [if_pos rfl] at q2 ⊢
        obtain ⟨N, hN, q2⟩ := q2
        have back : ∀ {s₂ s3 : Shared} {σ3 : L2.St} {H3 : Hp}, Inv X [] σ3 H3 s3 → N σ3 H3 → Seg (model X.prog X.w) A R Y 1 s₂ (.whileLoop test body [] X.env) (.pure (.again (.whileLoop test body [] X.env))) _ s3 := fun {s₂ s3 σ3 H3} I3 n3 => by
          obtain ⟨m', hm, w3⟩ := hN σ3 H3 n3
          exact seg_again rfl (ih m' hm s₂ s3 σ3 H3 w3 I3)
        refine hb.run A R Y s₁ _ _ _ _ id id s' σ H2 { D with nx := N, ct := N, bk := D.nx } (gl _) ⟨fun s₂ s3 f q => ?_, k.yl⟩ I2 q2
        cases f with
        | next => obtain ⟨σ3, H3, I3, n3⟩ := q; exact back I3 n3
        | cont => obtain ⟨σ3, H3, I3, n3⟩ := q; exact back I3 n3
        | brk => exact seg_leaf (.ok .next) (k.ok s₂ s3 .next q)
        | ret v => exact q.elim
      | false =>
        rw [if_neg Bool.false_ne_true] at q2 ⊢
        exact seg_execs_nil (seg_leaf (.ok .next) (k.ok s₁ s' .next ⟨σ, H2, I2, q2⟩))
  exact loop m0 s₀ s σ H w0 I
end
/-! ### a generator def's promise -/
/-- the arguments, the heap; what is wanted of the first item, of the end without one -/
abbrev Sp1 := List V → Hp → VK → (Hp → Prop) → Prop
structure Left (P : Program) (w : World) (outer : List Env) (H H' : Hp) (s s' : Shared) : Prop where
  os : s'.os = s.os
  bare : AllBare s'.gens
  un : Un (frs outer) [] H H' s.heap s'.heap
  hok : HOk P w H' s'.heap
abbrev R1 (P : Program) (w : World) (outer : List Env) (H : Hp) (s : Shared) (Qe : Hp → Prop) : GenEnd := fun _ _ r s' => ((r = .ok (.ret .none) ∨ r = .ok .next) ∧ ∃ H', Left P w outer H H' s s' ∧ Qe H') ∨ ∃ e : Value, r = .error e ∧ False
abbrev Y1 (P : Program) (w : World) (outer : List Env) (H : Hp) (s : Shared) (Qy : VK) : Protocol := fun _ _ v s' _ => ∃ x H', RelV x v ∧ Left P w outer H H' s s' ∧ Qy x H'
/-- a generator that has not begun, made in s -/
structure Made1 (P : Program) (w : World) (k : Nat) (outer : List Env) (H : Hp) (s : Shared) (Qy : VK) (Qe : Hp → Prop) (a : Addr) (g : Nat) (c : Code) (s' : Shared) : Prop where
  gen : s'.heap.IsGen a g
  st : s'.gens[g]? = some (.fresh c)
  bare : AllBare s'.gens
  lim : s'.heap.NoLimit
  wake : ∀ (A : Around) (s2 : Shared), Room k A → A.frames = some outer → s2.heap = s'.heap → s2.os = s'.os → AllBare s2.gens → Seg (model P w) A (R1 P w outer H s Qe) (Y1 P w outer H s Qy) 1 s2 c ((model P w).den c) [] s2
structure GFn1 (P : Program) (w : World) (K : PySem.W.Frag) (mg : Str → Option Value) (base : Heap) (k : Nat) (f : Addr) (fd : FuncData) (ps : List Str) (sp : Sp1) : Prop where
  len : ∀ vs H Qy Qe, sp vs H Qy Qe → vs.length = ps.length
  run : ∀ (A : Around) (outer : List Env) (s : Shared) (H : Hp) (args : Args) (us : List Value) (vs : List V) (Qy : VK) (Qe : Hp → Prop), Room k A → Env0 P w K mg base A outer s H → BindsTo s fd args (ps.zip us) → Vals vs us → sp vs H Qy Qe →
    codeAny (model P w) A (.call (.ref f) args) (fun r s' => ∃ a g c, r = .ok (.ret (.ref a)) ∧ Made1 P w k outer H s Qy Qe a g c s') s
theorem gfn1_of {P : Program} {w : World} {K : PySem.W.Frag} {mg : Str → Option Value} {base : Heap} {k : Nat} {f : Addr} {name qual : Str} {params : Arguments} {body : List Stmt} {scope : Scope} {dV kV doc pm cdv ct oc : Value} {an od : Option Addr} {osl : Array (Option Value)} {N ps : List Str} {sp : Sp1}
    (lk : K.lookup f = some ⟨oc, od, .func (PySem.W.fnOf name qual params body scope dV kV doc pm an cdv ct), osl⟩) (hcd : PySem.W.codeIn K cdv qual = true) (S : GScope N ps scope) (len : ∀ vs H Qy Qe, sp vs H Qy Qe → vs.length = ps.length)
    (hbody : ∀ (A : Around) (outer : List Env) (s : Shared) (H : Hp) (vs : List V) (Qy : VK) (Qe : Hp → Prop) (pn : List (Addr × Obj)), Room k (A.deeper (envOfC qual scope s.heap.objs.size f cdv)) → sp vs H Qy Qe →
      ∃ t, S1s (gcxOf P w K mg base N qual scope f cdv A outer s H E0 pn) body t ∧ t { nx := fun _ H' => Qe H', rt := Qy } (L2.start N vs) H) :
    GFn1 P w K mg base (k + 1) f (PySem.W.fnOf name qual params body scope dV kV doc pm an cdv ct) ps sp := by
  refine ⟨len, fun A outer s H args us vs Qy Qe hr e0 hb r hsp => ?_⟩
  have hl := len _ _ _ _ hsp
  have inK : K.In s.heap := PySem.W.Frag.In.keeps e0.mod.kin fun b o e => And.left (e0.bs b o e)
  have lim0 : s.heap.NoLimit := Heap.NoLimit.keeps e0.mod.nolimit fun b o e => And.left (e0.bs b o e)
  have kinds : ∀ y ∈ ps.zip us, scope.names.lookup y.1 = some .local ∨ (scope.names.lookup y.1 = some .cell ∧ ((cellsFrom (s.heap.objs.size + 1) scope.names []).lookup y.1).isSome = true) := fun y hy =>
    (S.par y.1 (List.of_mem_zip (show (y.1, y.2) ∈ ps.zip us from hy)).1).imp id fun q => ⟨q, PySem.W.cellsFrom_some _ _ _ (.inl q)⟩
  refine codeAny_call_generator hr.depth (inK _ _ lk) rfl S.co S.gen rfl (PySem.W.codeRec_of inK hcd) (hb _ _ _ _ (wpAny_newFunctionEnv_cells S.kind kinds fun env he s1 x => ?_))
  subst he
  have lim1 : s1.heap.NoLimit := Heap.NoLimit.keeps lim0 x.toInCall.keep
  refine ⟨lim1, ?_⟩
  obtain ⟨h1, tk, es1, hk1⟩ := x.done
  have os1 : s1.os = s.os := by rw [es1]
  have gen1 : s1.gens = s.gens := by rw [es1]
  have main : ∀ (go : Obj) (nm qn : Value) (tk2 : Nat), go.cls = .type "generator" → go.data = .fields #[.int s1.gens.size 0, nm, qn] → go.slots = #[] → (∀ h : Heap, (h.push go).get? h.objs.size = some go) →
      Made1 P w (k + 1) outer H s Qy Qe s1.heap.objs.size s1.gens.size (.func body (envOfC qual scope s.heap.objs.size f cdv)) { s1 with gens := s1.gens.push (.fresh (.func body (envOfC qual scope s.heap.objs.size f cdv))), toks := tk2, heap := s1.heap.push go } := by
    intro go nm qn tk2 q1 q2 q3 hgp
    have kp : ∀ b o, s1.heap.get? b = some o → (s1.heap.push go).get? b = some o := fun b o e => Heap.get?_push_of_some _ e
    refine ⟨⟨go, nm, qn, hgp _, q1, q2, q3⟩, Array.getElem?_push_size .., AllBare.push (by rw [gen1]; exact e0.bare) rfl, Heap.NoLimit.keeps lim1 kp, ?_⟩
    intro Aw s2 hrw hfr eh eo hba
    have eh : s2.heap = s1.heap.push go := eh
    have eo : s2.os = s1.os := eo
    obtain ⟨t, ht, hq⟩ := hbody Aw outer s H vs Qy Qe [(s1.heap.objs.size, go)] (hrw.deeper _) hsp
    have I1 : Inv (gcxOf P w K mg base N qual scope f cdv Aw outer s H E0 []) [] (L2.start N vs) H s1 := inv_startG S hrw.hd ⟨hfr, e0.mod, e0.bs, e0.bsz, e0.funs, e0.frf, e0.hok, e0.bare⟩ hl r x
    have kp2 : ∀ b o, s1.heap.get? b = some o → s2.heap.get? b = some o := by rw [eh]; exact kp
    have I2 := I1.call' (ch := []) (s' := s2) eo (Un.kept kp2) (I1.hok.kept kp2) hba fun b z => by simp at z
    have I3 : Inv (gcxOf P w K mg base N qual scope f cdv Aw outer s H E0 [(s1.heap.objs.size, go)]) [] (L2.start N vs) H s2 := Inv.pinnedG I2 fun p hp => by
      have ep : p = (s1.heap.objs.size, go) := by simpa using hp
      subst ep
      refine ⟨by rw [eh]; exact hgp _, I1.hok.fresh (Nat.le_refl _), Nat.ne_of_gt (x.toInCall.ns.lt), I1.nofs (Nat.le_refl _), fun v z => ?_⟩
      rw [q2] at z
      cases z
    refine seg_func (ht.run Aw _ _ s2 _ [] _ _ id id s2 (L2.start N vs) H _ ⟨over_func, rfl, rfl, rfl⟩ ⟨fun s₁ s' fl q => ?_, fun s₁ v s' kap y σ' H' rv I q => ⟨y, H', rv, ⟨I.os, I.bare, I.base, I.hok⟩, q⟩⟩ I3 hq)
    cases fl with
    | next => obtain ⟨σ', H', I, q⟩ := q; exact seg_end (.ok (.ret .none)) (.inl ⟨.inl rfl, H', ⟨I.os, I.bare, I.base, I.hok⟩, q⟩)
    | brk => obtain ⟨_, _, _, q⟩ := q; exact q.elim
    | cont => obtain ⟨_, _, _, q⟩ := q; exact q.elim
    | ret u => exact q.elim
  exact ⟨_, _, _, rfl, main _ _ _ _ rfl rfl rfl fun h => Heap.get?_push_size _ rfl⟩
/-! ### for x in g(..) -/
structure HasG1 (P : Program) (w : World) (K : PySem.W.Frag) (mg : Str → Option Value) (base : Heap) (x : Str) (k : Nat) (ps : List Str) (sp : Sp1) : Prop where
  ex : ∃ (f : Addr) (fd : FuncData), GFn1 P w K mg base k f fd ps sp ∧ mg x = some (.ref f) ∧ PySem.W.keepIn K (.ref f) = true ∧ Binds K fd ps []
def tForFirst (sp : Sp1) (ta : TA) (g : TG) (tb : TS) : TS := fun D σ H => ta σ H fun vs H1 => sp vs H1 (fun x H2 => g x σ H2 fun σ2 H3 => tb { nx := fun _ _ => False, rt := D.rt, bk := D.nx, ct := fun _ _ => False } σ2 H3) (fun H2 => D.nx σ H2)
section
variable {X : Cx} {k : Nat} {ps : List Str} {sp : Sp1} {x v : Str} {p pv pos pos' : Pos} {e : Expr} {es : List Expr} {ta : TA} {g : TG} {tb : TS} {body : List Stmt}
theorem ps_forFirst (hp : PassesOwn (model X.prog X.w) X.A X.env X.xe) (h : HasG1 X.prog X.w X.K X.mg X.base x k ps sp) (hr : Room (k + 3) X.A) (hg : Gl X x) (ha : PA X (e :: es) ta) (hgt : PG X (.Name v pv) g) (hb : PSs X body tb) (hdb : (x == ("__debug__" : Str)) = false := by decide)
    (he : starEach (e :: es) X.env = (false, eval e X.env) :: starEach es X.env := by rfl) (hpl : (backTo pos' (starEach es X.env)).any (·.1) = false := by rfl)
    (hs : ∀ y, foldedSetIterable (.Call (.Name x p) (e :: es) [] pos') X.env y = pure y := by intro _; rfl) : PS X (.For (.Name v pv) (.Call (.Name x p) (e :: es) [] pos') body [] pos) (tForFirst sp ta g tb) := by
  obtain ⟨f, fd, F, hm, hk, hbd⟩ := h.ex
  refine ⟨fun pins s σ H D I ht => ?_⟩
  refine wpAny_For (wpAny_Call_Name_kw (ld_glob I hg hm ?_ hdb)) hs
  refine PySem.W.callWith_K (h₀ := X.base) I.ok.mod.kin hk (thn (ha.run pos' pins s σ H _ I ht) fun us s1 ⟨vs, H1, I1, r, q⟩ => ⟨I1.kIn, ?_⟩) he hpl
  have hl : us.length = ps.length := by rw [← r.length]; exact F.len _ _ _ _ q
  refine wpAny_call (codeAny_mono (F.run X.A X.stack s1 H1 ⟨us, []⟩ us vs _ _ (hr.mono (by omega)) I1.env0 (by have := hbd s1 us I1.kIn (by rw [List.append_nil]; exact hl); rwa [List.append_nil] at this) r q) fun r s2 hq => ?_)
  obtain ⟨a, gn, c, rfl, M⟩ := hq
  refine wpAny_pyIter_gen M.gen ?_
  refine codeAny_forLoop_any (fun _ s' => s' = s2) ?_ 0 rfl
  rintro n s3 rfl
  have inv : ∀ {H' : Hp} {s4 s5 : Shared}, Left X.prog X.w X.stack H1 H' s1 s4 → s5.os = s4.os → AllBare s5.gens → (∀ b o, s4.heap.get? b = some o → s5.heap.get? b = some o) → Inv X pins σ H' s5 := fun {H' s4 s5} l eo hb hk =>
    I1.call' (ch := []) (s' := s5) (eo.trans l.os) (l.un.trans (Un.kept hk)) (l.hok.kept hk) hb fun b z => by simp at z
  refine wpAny_passesOwn hp (next_genG (A := X.A) (n := 1) (gs := .fresh c) (F := fun _ _ s' => ∃ H', Left X.prog X.w X.stack H1 H' s1 s' ∧ D.nx σ H') (Er := fun _ _ => False) (Y := Y1 X.prog X.w X.stack H1 s1 (fun x H2 => g x σ H2 fun σ2 H3 => tb { nx := fun _ _ => False, rt := D.rt, bk := D.nx, ct := fun _ _ => False } σ2 H3)) hr.hd M.lim (by have := hr.dp; omega) M.gen M.st ⟨rfl, ?_⟩ (fun u s4 gs' hbare hv => ?_) (fun s4 hF h' hk => ?_) fun _ _ z => z.elim)
  · refine M.wake X.A.in1 _ ⟨hr.hd, ?_, ?_⟩ I1.ok.frames rfl rfl (allBare_setGen M.bare rfl)
    · have := hr.dp
      show X.A.depth + 3 * k + 5 < _
      omega
    · have := hr.un
      show X.A.units + 1 + 16 * k + 200 < _
      omega
  · obtain ⟨y, H2, rv, l, q⟩ := hv
    have I4 : Inv X pins σ H2 (s4.setGen gn gs') := inv (s5 := s4.setGen gn gs') l rfl (allBare_setGen l.bare hbare) fun _ _ z => z
    refine wpAny_pure (wpAny_passesOwn hp (thn (hgt.run pins _ σ H2 y u _ I4 rv q) fun _ s5 ⟨σ5, H5, I5, q5⟩ => ?_))
    refine wpAny_passesOwn hp (thn (hb.run pins s5 σ5 H5 _ I5 q5) fun fl s6 q6 => ?_)
    cases fl with
    | next => obtain ⟨_, _, _, z⟩ := q6; exact z.elim
    | cont => obtain ⟨_, _, _, z⟩ := q6; exact z.elim
    | brk => obtain ⟨σ6, H6, I6, z⟩ := q6; exact ⟨σ6, H6, I6, z⟩
    | ret u6 => obtain ⟨y6, σ6, H6, I6, r6, z⟩ := q6; exact ⟨y6, σ6, H6, I6, r6, z⟩
  · obtain ⟨H2, l, q⟩ := hF
    exact wpAny_execs_nil ⟨σ, H2, inv (s5 := { s4.setGen gn .finished with heap := h' }) l rfl (allBare_setGen l.bare rfl) hk, q⟩
end
/-! ### on data -/
section
variable {K : PySem.W.Frag} {G : List SD} {nx bk ct : List SD → Prop} {rt : Da → Prop} {tt : TT} {t : TS}
theorem ho_noRet (h : Ho K t G nx (fun _ => False) bk ct) : Ho K (tNoRet t) G nx rt bk ct := fun B O0 O σ H E s c =>
  h B O0 O σ H _ s ⟨c.nx, fun _ _ _ z => z.elim, c.bk, c.ct⟩
theorem ho_while {tb : TS} (Iv : Nat → List SD → Prop) (m0 : Nat) (i0 : Iv m0 G)
    (step : ∀ m G, Iv m G → EvT K tt G fun b => (b = true → Ho K tb G (fun G' => ∃ m', m' < m ∧ Iv m' G') rt nx (fun G' => ∃ m', m' < m ∧ Iv m' G')) ∧ (b = false → nx G)) : Ho K (tWhile tt tb) G nx rt bk ct := fun B O0 O σ H E s c =>
  ⟨fun m σ H => ∃ O G, Iv m G ∧ StB K B O0 O σ H G, ⟨m0, O, G, i0, s⟩, fun m σ H ⟨O, G, i, s⟩ => step m G i O σ H s.st _ fun b H1 ⟨q1, q2⟩ e => by
    cases b with
    | true =>
      rw [if_pos rfl]
      refine ⟨fun σ' H' => ∃ m', m' < m ∧ ∃ O G, Iv m' G ∧ StB K B O0 O σ' H' G, fun _ _ z => z, ?_⟩
      exact q1 rfl B O0 O σ H1 _ (s.mono e) ⟨fun O σ H G ⟨m', hm, i⟩ s => ⟨m', hm, O, G, i, s⟩, c.rt, fun O σ H G p s => c.nx O σ H G p s, fun O σ H G ⟨m', hm, i⟩ s => ⟨m', hm, O, G, i, s⟩⟩
    | false =>
      rw [if_neg Bool.false_ne_true]
      exact c.nx O σ H1 G (q2 rfl) (s.mono e)⟩
end
/-- the first item, if there is one -/
abbrev WP1 := List Da → (Option Da → Prop) → Prop
def spG1 (K : PySem.W.Frag) (W : WP1) : Sp1 := fun vs H Qy Qe => ∃ (O : Addr → Bool) (ds : List Da) (R : Option Da → Prop), (∀ a, O a = true → H a ≠ none) ∧ RepL K (hid O H) ds vs ∧ W ds R ∧
  (∀ v H' d, R (some d) → Same H H' → Rep K (hid O H') d v → Qy v H') ∧ ∀ H', R none → Same H H' → Qe H'
section
variable {P : Program} {w : World} {K : PySem.W.Frag} {mg : Str → Option Value} {base : Heap}
theorem hasG1 {x : Str} {st : Stmt} {N ps : List Str} {k : Nat} {W : WP1} (F : FunAt K mg x st) (S : GScope N ps (defScope st)) (hl : ∀ ds R, W ds R → ds.length = ps.length)
    (hbd : ∀ (kV doc pm : Value) (an : Option Addr) (cdv ct : Value) (us : List Value), us.length = ps.length → bindArgs (PySem.W.fnOf x x (defArgs st) (defBody st) (defScope st) .none kV doc pm an cdv ct) ⟨us, []⟩ = pure (ps.zip us))
    (hb : ∀ (f : Addr) (cdv : Value) (A : Around) (outer : List Env) (s : Shared) (H : Hp) (pn : List (Addr × Obj)), Room k (A.deeper (PyProof.Rows.envOfC x (defScope st) s.heap.objs.size f cdv)) →
      ∃ t, S1s (gcxOf P w K mg base N x (defScope st) f cdv A outer s H E0 pn) (defBody st) t ∧ ∀ ds R, W ds R → Ho K t (slots ds N.length) (fun _ => R none) (fun d => R (some d)) noG noG) : HasG1 P w K mg base x (k + 1) ps (spG1 K W) := by
  obtain ⟨f, fd, F, hm⟩ := F.ex
  have hbi := F.binds hbd
  have hkp := F.kp
  obtain ⟨oc, od, kV, doc, pm, an, cdv, ct, osl, rfl, lk, hcd⟩ := F.ex
  refine ⟨f, _, gfn1_of lk hcd S (fun vs H Qy Qe h => ?_) (fun A outer s H vs Qy Qe pn hr h => ?_), hm, hkp, hbi⟩
  · obtain ⟨O, ds, R, _, r, hw, _⟩ := h
    rw [r.length, hl ds R hw]
  · obtain ⟨O, ds, R, hO, r, hw, hq, he⟩ := h
    obtain ⟨t, ht, hd⟩ := hb f cdv A outer s H pn hr
    refine ⟨t, ht, hd ds R hw H O O _ H _ ⟨stv_start hO r, Same.refl H, fun _ z => z, fun _ z => .inl z, fun i l a q => ?_, fun i a C fs q => ?_⟩ ⟨fun O' σ H' G p s => he H' p s.base, fun v H' d p e rv => hq v H' d p e rv, fun _ _ _ _ p => p.elim, fun _ _ _ _ p => p.elim⟩⟩
    · cases no_mine q
    · cases no_mine q
end
section
variable {K : PySem.W.Frag} {G : List SD} {nx bk ct : List SD → Prop} {rt : Da → Prop}
theorem ho_forFirst {W : WP1} {ta : TA} {g : TG} {tb : TS} (h : EvA K ta G fun ds => W ds fun o => match o with
    | none => nx G
    | some d => GoD K g d G fun G' => Ho K tb G' (fun _ => False) rt nx (fun _ => False)) : Ho K (tForFirst (spG1 K W) ta g tb) G nx rt bk ct := fun B O0 O σ H E s c =>
  h O σ H s.st _ fun vs H1 ds hw e1 r1 => ⟨O, ds, _, (s.st.mono e1).there, r1, hw, fun v H2 d q e2 rv => q B O0 O σ H2 v (s.mono (e1.trans e2)) rv _ fun O' σ' H' G' p s' => p B O0 O' σ' H' _ s' ⟨fun _ _ _ _ z => z.elim, c.rt, fun O σ H G p s => c.nx O σ H G p s, fun _ _ _ _ z => z.elim⟩,
    fun H2 q e2 => c.nx O σ H2 G q (s.mono (e1.trans e2))⟩
end
end Sc
/-! M7: the search's stack. -/
namespace Sc
open PySem L2
abbrev Pk := List (Option Nat)
structure StkOk (shs : List Shape) (rows : List Row) (done stk : List Pk) : Prop where
  due : done ++ stk.reverse.flatMap (dueIn shs.length rows) = dueOf shs.length rows
  len : ∀ p ∈ stk, p.length = rows.length
def meas (rows : List Row) (stk : List Pk) : Nat := (stk.map fun p => 4 ^ (openRows rows p).length).sum
theorem meas_app {rows : List Row} {a b : List Pk} : meas rows (a ++ b) = meas rows a + meas rows b := by
  unfold meas
  rw [List.map_append, List.sum_append]
theorem meas_one {rows : List Row} {p : Pk} : meas rows [p] = 4 ^ (openRows rows p).length := by
  unfold meas
  simp
theorem meas_len {rows : List Row} : ∀ {stk : List Pk}, stk.length ≤ meas rows stk
  | [] => Nat.zero_le _
  | p :: stk => by
    have h1 := meas_len (rows := rows) (stk := stk)
    have h2 : meas rows (p :: stk) = 4 ^ (openRows rows p).length + meas rows stk := by
      unfold meas
      rw [List.map_cons, List.sum_cons]
    have h3 : 0 < 4 ^ (openRows rows p).length := Nat.pow_pos (by decide)
    rw [h2, List.length_cons]
    omega
theorem openRows_len {rows : List Row} {p : Pk} : (openRows rows p).length ≤ rows.length := by
  unfold openRows choices
  refine Nat.le_trans (List.length_filter_le _ _) (Nat.le_trans (List.length_filter_le _ _) ?_)
  rw [List.length_range]
  exact Nat.le_refl _
theorem openRows_mem {rows : List Row} {p : Pk} {n : Nat} (h : n ∈ openRows rows p) : n < rows.length ∧ ∃ r, rows[n]? = some r ∧ isCh r = true := by
  unfold openRows choices at h
  have h := List.mem_filter.mp (List.mem_filter.mp h).1
  have h1 : n < rows.length := List.mem_range.mp h.1
  refine ⟨h1, rows[n], List.getElem?_eq_getElem h1, ?_⟩
  have h2 := h.2
  rw [List.getElem?_eq_getElem h1] at h2
  exact h2
theorem openRows_set {rows : List Row} {p : Pk} {n i : Nat} {l : List Nat} (hp : p.length = rows.length) (h : openRows rows p = n :: l) : (openRows rows (p.set n (some i))).length ≤ l.length := by
  have hn : n < rows.length := (openRows_mem (by rw [h]; exact List.mem_cons_self)).1
  have e : openRows rows (p.set n (some i)) = (openRows rows p).filter fun m => decide (m ≠ n) := by
    unfold openRows
    rw [List.filter_filter]
    apply List.filter_congr
    intro m _
    rw [List.getD_eq_getElem?_getD, List.getD_eq_getElem?_getD]
    by_cases q : m = n
    · subst q
      rw [List.getElem?_set_self (by omega)]
      simp
    · rw [List.getElem?_set_ne (fun z => q z.symm)]
      simp [q]
  rw [e, h, List.filter_cons, if_neg (by simp)]
  exact List.length_filter_le _ _
section
variable {shs : List Shape} {rows : List Row} {done stk : List Pk} {p : Pk}
theorem StkOk.start : StkOk shs rows [] [List.replicate rows.length none] := by
  refine ⟨?_, fun p h => ?_⟩
  · rw [List.reverse_singleton, List.flatMap_cons, List.flatMap_nil, dueIn_start]
    simp
  · rw [List.mem_singleton.mp h, List.length_replicate]
theorem StkOk.top (h : StkOk shs rows done (stk ++ [p])) : p.length = rows.length ∧ done ++ (dueIn shs.length rows p ++ stk.reverse.flatMap (dueIn shs.length rows)) = dueOf shs.length rows := by
  refine ⟨h.len p (by simp), ?_⟩
  rw [← h.due, List.reverse_append, List.reverse_singleton, List.singleton_append, List.flatMap_cons]
theorem StkOk.drop (h : StkOk shs rows done (stk ++ [p])) : ∀ q ∈ stk, q.length = rows.length := fun q hq => h.len q (List.mem_append_left _ hq)
theorem StkOk.bad (h : StkOk shs rows done (stk ++ [p])) (hs : sound shs.length rows p = false) : StkOk shs rows done stk := by
  obtain ⟨h1, h2⟩ := h.top
  rw [dueIn_bad h1 hs, List.nil_append] at h2
  exact ⟨h2, h.drop⟩
theorem StkOk.item (h : StkOk shs rows done (stk ++ [p])) (hs : sound shs.length rows p = true) (ho : openRows rows p = []) : StkOk shs rows (done ++ [p]) stk := by
  obtain ⟨h1, h2⟩ := h.top
  rw [dueIn_done h1 ho hs] at h2
  exact ⟨by rw [List.append_assoc]; exact h2, h.drop⟩
theorem StkOk.more (h : StkOk shs rows done (stk ++ [p])) {n : Nat} {l : List Nat} {r : Row} (ho : openRows rows p = n :: l) (hr : rows[n]? = some r) : StkOk shs rows done (stk ++ (inPlay r.parts).reverse.map fun i => p.set n (some i)) := by
  obtain ⟨h1, h2⟩ := h.top
  rw [dueIn_open h1 ho hr] at h2
  refine ⟨?_, fun q hq => ?_⟩
  · rw [List.reverse_append, ← List.map_reverse, List.reverse_reverse, List.flatMap_append, List.flatMap_map]
    exact h2
  · rcases List.mem_append.mp hq with hq | hq
    · exact h.drop q hq
    · obtain ⟨i, _, rfl⟩ := List.mem_map.mp hq
      rw [List.length_set, h1]
theorem meas_more (hp : p.length = rows.length) {n : Nat} {l ks : List Nat} (ho : openRows rows p = n :: l) (h3 : ks.length ≤ 3) : meas rows (ks.map fun i => p.set n (some i)) < meas rows [p] := by
  have key : ∀ ks : List Nat, meas rows (ks.map fun i => p.set n (some i)) ≤ ks.length * 4 ^ l.length := fun ks => by
    induction ks with
    | nil => unfold meas; simp
    | cons k ks ih =>
      have h1 : meas rows ((k :: ks).map fun i => p.set n (some i)) = 4 ^ (openRows rows (p.set n (some k))).length + meas rows (ks.map fun i => p.set n (some i)) := by
        unfold meas
        rw [List.map_cons, List.map_cons, List.sum_cons]
      have h2 : 4 ^ (openRows rows (p.set n (some k))).length ≤ 4 ^ l.length := Nat.pow_le_pow_right (by decide) (openRows_set hp ho)
      rw [h1, List.length_cons, Nat.add_mul]
      omega
  have h4 := key ks
  have h5 : ks.length * 4 ^ l.length ≤ 3 * 4 ^ l.length := Nat.mul_le_mul_right _ h3
  have h6 : 0 < 4 ^ l.length := Nat.pow_pos (by decide)
  rw [meas_one, ho, List.length_cons, Nat.pow_succ]
  omega
theorem meas_start (h6 : rows.length ≤ 6) : meas rows [p] ≤ 4096 := by
  rw [meas_one]
  exact Nat.le_trans (Nat.pow_le_pow_right (by decide) (Nat.le_trans openRows_len h6)) (by decide)
theorem dueOf_len (hr : RowsOk shs rows) (h3 : shs.length ≤ 3) : (dueOf shs.length rows).length ≤ 729 := by
  unfold dueOf
  exact Nat.le_trans (List.length_filter_le _ _) (fullPicks_len hr.len fun r h => by rw [(hr.ok r h).len]; exact h3)
theorem StkOk.few (hr : RowsOk shs rows) (h3 : shs.length ≤ 3) (h : StkOk shs rows done stk) : done.length ≤ 729 := by
  have := dueOf_len hr h3
  rw [← h.due, List.length_append] at this
  omega
end
end Sc
/-! D21: the forum's making. -/
namespace Sc
open PySem L2
theorem more_nodup {l : Int} : ∀ {cs : List (List Int)}, cs.Nodup → (more cs l).Nodup
  | [], _ => List.nodup_nil
  | c :: cs, h => by
    obtain ⟨h1, h2⟩ := List.nodup_cons.mp h
    have e : more (c :: cs) l = ((List.range (l + 1).toNat).map fun (k : Nat) => c ++ [(k : Int)]) ++ more cs l := by
      unfold more
      rw [List.flatMap_cons]
    rw [e, List.nodup_append]
    refine ⟨?_, more_nodup h2, fun a ha b hb e => ?_⟩
    · refine List.Pairwise.map _ (fun a b hne z => hne ?_) (List.nodup_range (n := (l + 1).toNat))
      have := List.append_cancel_left z
      simp at this
      omega
    · obtain ⟨k, _, rfl⟩ := List.mem_map.mp ha
      subst e
      unfold more at hb
      obtain ⟨c', hc', hx⟩ := List.mem_flatMap.mp hb
      obtain ⟨k', _, e⟩ := List.mem_map.mp hx
      have := (List.append_inj' e rfl).1
      exact h1 (this ▸ hc')
theorem casesOf_nodup {lim : List Int} : (casesOf lim).Nodup := by
  have : ∀ (lim : List Int) (cs : List (List Int)), cs.Nodup → (lim.foldl more cs).Nodup := by
    intro lim
    induction lim with
    | nil => exact fun cs h => h
    | cons l lim ih => exact fun cs h => ih _ (more_nodup h)
  exact this lim [[]] (by simp)
section
variable {P : Program} {w : World} {K : PySem.W.Frag} {mg : Str → Option Value} {base : Heap} {C : CA}
-- Forum.__init__
abbrev s_Forum__init_ : Stmt := inClass (top 26) 2
abbrev sc_Forum__init__N : List Str := ["self", "pro", "con", "tops", "top", "limits", "place", "level", "number", "case"]
theorem sc_Forum__init_ : FnScope sc_Forum__init__N ["self", "pro", "con", "tops"] (defScope s_Forum__init_) := ⟨rfl, rfl, rfl, by decide +kernel, rfl, by decide +kernel, by decide +kernel⟩
-- uses: g:len g:tuple distinct_letters g:sum g:range all_cases g:enumerate
-- slots: 0=self 1=pro 2=con 3=tops 4=top 5=limits 6=place 7=level 8=number 9=case

theorem has_Forum_init (F : InitAt K mg "Forum" C.cForum "Forum.__init__" s_Forum__init_ ["self", "pro", "con", "tops"]) (T : Tx mg) (O : OFx K C) (h_distinct_letters : Has P w K mg base "distinct_letters" 1 ["text"] (spD K (W_distinct_letters))) (h_all_cases : Has P w K mg base "all_cases" 1 ["limits"] (spD K (W_all_cases))) : HasC P w K mg base "Forum" C.cForum 2 ["self", "pro", "con", "tops"] (spI K C.cForum (W_Forum_init C)) := by
  refine hasC F sc_Forum__init_ (fun fs ds R h => ?_) fun f cdv A outer s H E hr => ⟨_, (pss_cons (ps_for PassesOwn.never rfl (pi_tup (pv 3)) (pg_name (i := 4) sc_Forum__init_.nd rfl (by first | exact .inl rfl | exact .inr rfl)) (pss_one (ps_if (pt_not (pt_chain op_le op_le pe_int (pv 4) (pe_con (pv 0) rfl))) (pss_one ps_never) pss_nil)))
      (pss_cons (ps_set (i := 5) sc_Forum__init_.nd rfl (Or.inr rfl) (pe_op op_catA (pe_op op_repA (pe_tup (pa_cons pe_int pa_nil)) (pe_op op_add (pe_callB call_len_str (by rfl) T.len (by decide +kernel) (pa_cons (pv 1) pa_nil)) (pe_callB call_len_str (by rfl) T.len (by decide +kernel) (pa_cons (pv 2) pa_nil)))) (pe_callTy call_tuple_of (by rfl) T.tuple (by decide +kernel) (pa_cons (pv 3) pa_nil))))
      (pss_cons (ps_if (PW.pt (pw_or (pt_not (pt_val (pe_callH h_distinct_letters (hr.mono (by decide)) rfl (pa_cons (pe_op op_add_str (pv 1) (pv 2)) pa_nil)))) (pw_or1 (pt_not (pt_chain op_le op_le pe_int (pe_callB (cr_sumT rfl) (by rfl) T.sum (by decide +kernel) (pa_cons (pv 5) pa_nil)) (pe_con (pv 0) rfl)))))) (pss_one ps_never) pss_nil)
      (pss_cons (ps_fld (pv 0) (pv 1) rfl)
      (pss_cons (ps_fld (pv 0) (pv 2) rfl)
      (pss_cons (ps_fld (pv 0) (pe_callTy call_tuple_of (by rfl) T.tuple (by decide +kernel) (pa_cons (pv 3) pa_nil)) rfl)
      (pss_cons (ps_fld (pv 0) (pv 5) rfl)
      (pss_cons (ps_fld (pv 0) (pe_callTy call_tuple_of (by rfl) T.tuple (by decide +kernel) (pa_cons (pe_lc2 (own := [("place", 6), ("level", 7)]) (vs1 := [7]) (g := (gName 6)) (tt := tYes) (wi1 := (iRng1 (tCons (tOp (rIxT K) (tVar 5) (tVar 6)) tNil))) (g1 := (gName 7)) (tt1 := tYes) (te := (tTup (tCons (tVar 6) (tCons (tOp (rI0 fun i j => .int (i + j)) (tVar 7) (tC (.int 1))) tNil)))) rfl sc_Forum__init_.nd (pi_range1 rfl T.range (pa_cons (pe_callB call_len_seq (by rfl) T.len (by decide +kernel) (pa_cons (pv 5) pa_nil)) pa_nil)) (blkOk_by (N := sc_Forum__init__N) (sc := defScope s_Forum__init_) (by decide +kernel)) (by decide) (fun _ _ _ _ _ => (pg_name (i := 6) sc_Forum__init_.nd rfl (by first | exact .inl rfl | exact .inr rfl))) (fun _ _ _ _ _ => pts_nil) (fun _ _ _ _ _ => (pi_range1 rfl T.range (pa_cons (pe_ix ix_tup (pv 5) (pv 6) (fun _ _ => rfl)) pa_nil))) (fun _ _ _ _ _ => (pg_name (i := 7) sc_Forum__init_.nd rfl (by first | exact .inl rfl | exact .inr rfl))) (fun _ _ _ _ _ => pts_nil) (fun _ _ _ _ _ => (pe_tup (pa_cons (pv 6) (pa_cons (pe_op op_add (pv 7) pe_int) pa_nil))))) pa_nil)) rfl)
      (pss_cons (ps_fld (pv 0) (pe_callH h_all_cases (hr.mono (by decide)) rfl (pa_cons (pv 5) pa_nil)) rfl)
      (pss_one (ps_fld (pv 0) (pe_dcT (own := [("number", 8), ("case", 9)]) (g := (gTup K 2 (gCons (gName 8) (gCons (gName 9) gNil)))) (tt := tYes) (tk := (tVar 9)) (tv := (tVar 8)) (hu_of hr) rfl sc_Forum__init_.nd (pi_enumK true (by rfl) T.enumerate (pa_cons (pe_fld (pv 0) rfl) pa_nil)) (blkOk_by (N := sc_Forum__init__N) (sc := defScope s_Forum__init_) (by decide +kernel)) (fun _ _ _ _ _ => (pg_tup rfl (pgs_cons (pg_name (i := 8) sc_Forum__init_.nd rfl (by first | exact .inl rfl | exact .inr rfl)) (pgs_cons (pg_name (i := 9) sc_Forum__init_.nd rfl (by first | exact .inl rfl | exact .inr rfl)) pgs_nil)))) (fun _ _ _ _ _ => pts_nil) (fun _ _ _ _ _ => (pv 9)) (fun _ _ _ _ _ => (pv 8))) rfl))))))))))), fun self fs ds R h => ?_⟩
  · obtain ⟨s, rfl, rfl, _⟩ := h
    rfl
  · obtain ⟨s, rfl, rfl, hs, hR⟩ := h
    try dsimp only [cxOf, Cx.nox, Cx.wish]
    have hl := hs.len
    have hlm := hs.lim
    have hl5 := hlm.len
    obtain ⟨uT, hT⟩ := O.f_TOPS
    obtain ⟨uS, hS⟩ := O.f_STEPS
    show Ho K _ [.ino self C.cForum [], .val (.str s.pro), .val (.str s.con), .val (ci s.tops), .un, .un, .un, .un, .un, .un] _ _ _ _
    refine ho_seq (ho_for (ei_tup (ev_var rfl ⟨_, rfl, ?_⟩)))
    refine ⟨fun i G => ∃ s4, G = [.ino self C.cForum [], .val (.str s.pro), .val (.str s.con), .val (ci s.tops), s4, .un, .un, .un, .un, .un], ⟨_, rfl⟩, ?_, ?_⟩
    · rintro i d G e ⟨s4, rfl⟩
      obtain ⟨t, ht, rfl⟩ := map_inv e
      have htt := hs.top t (List.mem_of_getElem? ht)
      refine gn_name trivial (ho_if (et_not (et_test (ev_chain (ev_int (ev_var rfl (rv_le ⟨_, rfl, ?_⟩)))))))
      refine and_t (decide_eq_true (by omega)) ?_
      refine ev_conI (x := .int 3) rfl O.f hT rfl rfl ?_
      refine rv_le ⟨_, rfl, ?_⟩
      refine and_f (by rw [decide_eq_true (by omega)]; rfl) ?_
      refine ho_nil ?_
      exact ⟨_, rfl⟩
    · rintro G ⟨s4, rfl⟩
      refine ho_seq (ho_set (ev_op (ev_op (ev_tup (ea_cons (ev_int (ea_nil (lit1 (ev_op (ev_cb (ea_cons (ev_var rfl (ea_nil (rc_lenC ?_))))))))))))))
      refine ⟨by omega, ?_⟩
      refine ev_cb (ea_cons (ev_var rfl (ea_nil (rc_lenC ?_))))
      refine ⟨by omega, ?_⟩
      refine rv_add ?_
      rw [← Int.natCast_add]
      refine rv_repA (by decide) (by omega) (by decide) ?_
      refine ev_cb (ea_cons (ev_var rfl (ea_nil (rc_tupT (rv_catT ?_)))))
      have hrep : ∀ n, (List.replicate n [Da.int 1]).flatten = (List.replicate n (1 : Int)).map .int := fun n => by
        induction n with
        | zero => rfl
        | succ n ih => rw [List.replicate_succ, List.replicate_succ, List.flatten_cons, ih]; rfl
      rw [hrep]
      refine ⟨by simp; omega, ?_⟩
      rw [← List.map_append]
      rw [show List.replicate (s.pro.length + s.con.length) (1 : Int) ++ s.tops = lims s from rfl]
      refine ho_seq (ho_if (et_or (et_not (et_B (ev_call (ea_cons (ev_op (ev_var rfl (ev_var rfl (rv_addT ?_))))))))))
      refine ⟨by omega, ?_⟩
      refine ea_nil ?_
      have happ : (s.pro ++ s.con).cps.toList = s.pro.cps.toList ++ s.con.cps.toList := by
        show (s.pro.cps ++ s.con.cps).toList = _
        simp
      refine ⟨s.pro ++ s.con, rfl, ?_, by rw [happ]; exact hs.nd, by rw [happ]; exact hs.az, ?_⟩
      · show (s.pro.cps ++ s.con.cps).size ≤ 1000
        rw [Array.size_append]
        have h1 : s.pro.cps.size = s.pro.length := rfl
        have h2 : s.con.cps.size = s.con.length := rfl
        omega
      refine ⟨_, rfl, ?_⟩
      refine and_f rfl ?_
      refine et_not (et_test (ev_chain (ev_int (ev_cb (ea_cons (ev_var rfl (ea_nil ?_)))))))
      refine rc_sumT ?_
      refine rv_le ⟨_, rfl, ?_⟩
      have hlo := hs.lo
      have hhi := hs.hi
      refine and_t (decide_eq_true (by omega)) ?_
      refine ev_conI (x := .int 5) rfl O.f hS rfl rfl ?_
      refine rv_le ⟨_, rfl, ?_⟩
      refine and_f (by rw [decide_eq_true (by omega)]; rfl) ?_
      refine ho_nil (ho_seq ?_)
      refine ho_fld rfl O.f O.f_pro (by decide) ?_
      refine ev_var rfl (ho_seq ?_)
      refine ho_fld rfl O.f O.f_con (show 1 < 1000 by decide) ?_
      refine ev_var rfl (ho_seq ?_)
      refine ho_fld rfl O.f O.f_tops (show 2 < 1000 by decide) ?_
      refine ev_cb (ea_cons (ev_var rfl (ea_nil (rc_tupT (ho_seq ?_)))))
      refine ho_fld rfl O.f O.f_limits (show 3 < 1000 by decide) ?_
      refine ev_var rfl (ho_seq ?_)
      refine ho_fld rfl O.f O.f_steps (show 4 < 1000 by decide) ?_
      refine ev_cb (ea_cons ?_)
      refine ev_new (en_lc2 ?_)
      refine ei_range1 (ea_cons (ev_cb (ea_cons (ev_var rfl (ea_nil (rc_lenT (ea_nil ⟨_, rfl, ?_⟩)))))))
      rw [List.length_map]
      refine ⟨by omega, fun i acc => acc = (((List.range i).flatMap fun (p : Nat) => (List.range ((lims s).getD p 0).toNat).map fun (l : Nat) => [(p : Int), (l : Int) + 1]).map ci), rfl, ?_, ?_⟩
      · rintro i d acc e rfl
        obtain ⟨hi, rfl⟩ := rangeD_inv e
        have hle := hlm.le (getD_mem (d := 0) hi)
        refine gn_name (by decide) (et_yes ?_)
        refine ⟨fun x => (nomatch x), fun _ => ?_⟩
        refine ei_range1 (ea_cons (ev_op (ev_var rfl (ev_var rfl ?_))))
        refine rv_ixT (atI_map (j := i) (by omega) (getD_of 0 hi)) ?_
        refine ea_nil ?_
        refine ⟨((lims s).getD i 0).toNat, by rw [Int.toNat_of_nonneg (by omega)], by omega, ?_⟩
        have hAl : ((List.range i).flatMap fun (p : Nat) => (List.range ((lims s).getD p 0).toNat).map fun (l : Nat) => [(p : Int), (l : Int) + 1]).length ≤ i * 5 := by
          have := fm_len (f := fun (p : Nat) => (List.range ((lims s).getD p 0).toNat).map fun (l : Nat) => [(p : Int), (l : Int) + 1]) (n := 5) (l := List.range i) fun p hp => by
            have := hlm.le (getD_mem (d := 0) (show p < (lims s).length by have := List.mem_range.mp hp; omega))
            rw [List.length_map, List.length_range]
            omega
          rwa [List.length_range] at this
        generalize hA : ((List.range i).flatMap fun (p : Nat) => (List.range ((lims s).getD p 0).toNat).map fun (l : Nat) => [(p : Int), (l : Int) + 1]) = A at hAl ⊢
        refine ⟨fun k acc => acc = (A ++ (List.range k).map fun (l : Nat) => [(i : Int), (l : Int) + 1]).map ci, by simp, ?_, ?_⟩
        · rintro k d acc e rfl
          obtain ⟨hk, rfl⟩ := rangeD_inv e
          show GnD _ _ _ _ _ _
          refine gn_name (by decide) (et_yes (tt_and (ev_tup (ea_cons (ev_var rfl (ea_cons (ev_op (ev_var rfl (ev_int (rv_add (ea_nil (lit2 ?_))))))))))))
          refine ⟨by simp; omega, ?_⟩
          dsimp only
          rw [range_succ']
          simp
        · rintro acc rfl
          rw [rangeD_length, range_succ', List.flatMap_append, hA]
          simp
      · rintro acc rfl
        rw [rangeD_length]
        rw [show ((List.range (lims s).length).flatMap fun (p : Nat) => (List.range ((lims s).getD p 0).toNat).map fun (l : Nat) => [(p : Int), (l : Int) + 1]) = stepsOf (lims s) from rfl]
        refine ea_nil (rc_tupL (ho_seq ?_))
        refine ho_fld rfl O.f O.f_cases (show 5 < 1000 by decide) ?_
        refine ev_call (ea_cons (ev_var rfl (ea_nil ?_)))
        refine ⟨lims s, rfl, hlm, ?_⟩
        refine ho_fld rfl O.f O.f_numbers (show 6 < 1000 by decide) ?_
        refine ev_dcT (ei_enL (ea_cons ?_))
        refine' ev_fldI ?hv O.f O.f_cases ?hl ?_
        case hv => exact rfl
        case hl => exact rfl
        refine ea_nil ⟨_, rfl, ?_⟩
        have hcl := casesOf_len hlm
        have hnd := casesOf_nodup (lim := lims s)
        refine ⟨fun i acc => acc = ((casesOf (lims s)).zipIdx.take i).map fun p => (p.1, (p.2 : Int)), rfl, ?_, ?_⟩
        · rintro i d acc e rfl
          obtain ⟨c, hc, rfl⟩ := enumD_inv e
          have hz : (casesOf (lims s)).zipIdx[i]? = some (c, i) := by rw [List.getElem?_zipIdx, hc]; simp
          refine gn_tup rfl (gns_cons (gn_name (by decide) (gns_cons (gn_name (by decide) (gns_nil (et_yes ?_))))))
          refine ⟨rfl, ?_⟩
          refine ev_var rfl ⟨c, rfl, ?_⟩
          refine ev_var rfl ⟨i, rfl, by simp; omega, fun hm => ?_, ?_⟩
          · obtain ⟨q, hq, e2⟩ := List.mem_map.mp hm
            obtain ⟨⟨c', j⟩, hj, rfl⟩ := List.mem_map.mp hq
            dsimp only at e2
            subst e2
            obtain ⟨j', hj', e3⟩ := List.mem_iff_getElem.mp hj
            rw [List.getElem_take] at e3
            have h1 : (casesOf (lims s)).zipIdx[j']? = some (c', j) := by
              rw [List.getElem?_eq_getElem (by rw [List.length_take] at hj'; omega), e3]
            rw [List.getElem?_zipIdx] at h1
            cases w : (casesOf (lims s))[j']? with
            | none => rw [w] at h1; cases h1
            | some c2 =>
              rw [w] at h1
              simp at h1
              have := (List.getElem?_inj (get_lt w) hnd).mp (w.trans (by rw [h1.1, hc]))
              rw [List.length_take] at hj'
              omega
          · dsimp only
            rw [take_succ hz, List.map_append]
            rfl
        · rintro acc rfl
          rw [enumD_length, List.length_map, List.take_of_length_le (by rw [List.length_zipIdx]; exact Nat.le_refl _)]
          exact ⟨_, rfl, hR⟩
end
end Sc
/-! D22: the same, to a depth. -/
namespace Sc
open PySem L2
section
variable {P : Program} {w : World} {K : PySem.W.Frag} {mg : Str → Option Value} {base : Heap}
def Wsame : Nat → WP
  | 0 => fun _ _ => False
  | n + 1 => W_same (Wsame n)
theorem Has.imp {x : Str} {k : Nat} {ps : List Str} {W W' : WP} (h : Has P w K mg base x k ps (spD K W)) (q : ∀ ds R, W' ds R → W ds R) : Has P w K mg base x k ps (spD K W') := by
  obtain ⟨f, fd, F, h1, h2, h3⟩ := h.ex
  refine ⟨f, fd, F.imp fun vs H Q E s => ?_, h1, h2, h3⟩
  obtain ⟨O, ds, R, a, b, c, d⟩ := s
  exact ⟨O, ds, R, a, b, q ds R c, d⟩
theorem same_zero (F : FunAt K mg "_law_same" s__law_same) : Has P w K mg base "_law_same" 0 ["_law_told", "_law_due"] (spD K (Wsame 0)) := by
  obtain ⟨f, fd, F, hm⟩ := F.ex
  refine ⟨f, fd, ⟨fun vs H Q E h => ?_, fun A outer s H args us vs Q E _ _ _ _ h => ?_⟩, hm, F.kp, F.binds fun _ _ _ _ _ _ us hl => match us, hl with | [_, _], _ => rfl⟩
  · obtain ⟨_, _, _, _, _, z, _⟩ := h
    exact z.elim
  · obtain ⟨_, _, _, _, _, z, _⟩ := h
    exact z.elim
theorem same_n (F : FunAt K mg "_law_same" s__law_same) (T : Tx mg) : ∀ n, Has P w K mg base "_law_same" n ["_law_told", "_law_due"] (spD K (Wsame n))
  | 0 => same_zero F
  | n + 1 => same_step F T (same_n F T n)
theorem plain_same : ∀ (n : Nat) (d : Da), plainD n d → ∀ R : Da → Prop, R (.bl true) → Wsame (n + 2) [d, d] R
  | n, .non, _, R, r => ⟨.non, rfl, .inl rfl, fun e h => (nomatch h), r⟩
  | n, .int i, _, R, r => ⟨.int i, rfl, .inr (.inl ⟨i, rfl⟩), fun e h => (nomatch h), r⟩
  | n + 1, .tup l, h, R, r => ⟨.tup l, rfl, .inr (.inr (.inl ⟨l, rfl, h.1⟩)), fun e he R' r' => plain_same n e (h.2 e he) R' r', r⟩
  | n + 1, .lst l, h, R, r => ⟨.lst l, rfl, .inr (.inr (.inr ⟨l, rfl, h.1⟩)), fun e he R' r' => plain_same n e (h.2 e he) R' r', r⟩
  | 0, .tup _, h, _, _ => h.elim
  | 0, .lst _, h, _, _ => h.elim
  | 0, .bl _, h, _, _ => h.elim
  | 0, .str _, h, _, _ => h.elim
  | 0, .obj _ _, h, _, _ => h.elim
  | 0, .dct _, h, _, _ => h.elim
  | 0, .scr _, h, _, _ => h.elim
  | n + 1, .bl _, h, _, _ => h.elim
  | n + 1, .str _, h, _, _ => h.elim
  | n + 1, .obj _ _, h, _, _ => h.elim
  | n + 1, .dct _, h, _, _ => h.elim
  | n + 1, .scr _, h, _, _ => h.elim
theorem has_law_same (F : FunAt K mg "_law_same" s__law_same) (T : Tx mg) : Has P w K mg base "_law_same" 5 ["_law_told", "_law_due"] (spD K W_law_same) :=
  (same_n F T 5).imp fun ds R ⟨d, e, h, r⟩ => e ▸ plain_same 3 d h R r
end
end Sc
/-! D23: the judge's table. -/
namespace Sc
open PySem L2
abbrev s_Forum_iter : Stmt := inClass (top 26) 3
theorem sc_Forum_iter : FnScope ["self"] ["self"] (defScope s_Forum_iter) := ⟨rfl, rfl, rfl, by decide +kernel, rfl, by decide +kernel, by decide +kernel⟩
section
variable {P : Program} {w : World} {K : PySem.W.Frag} {mg : Str → Option Value} {base : Heap} {C : CA}
theorem iter_body (T : Tx mg) {f : Addr} {cdv : Value} {A : Around} {outer : List Env} {s : Shared} {H : Hp} : PSs (cxOf CX0 P w K mg base ["self"] "Forum.__iter__" (defScope s_Forum_iter) f cdv A outer s H E0) (defBody s_Forum_iter) (tRet (tCB (rIterY K s.heap.objs.size) (tCons (tFld K (tVar 0) "_cases") tNil))) :=
  pss_one (ps_ret (pe_callB call_iterY (by rfl) T.iter (by decide +kernel) (pa_cons (pe_fld (pv 0) rfl) pa_nil)))
-- Judge.table
abbrev s_Judge_table : Stmt := inClass (top 20) 4
abbrev sc_Judge_table_N : List Str := ["self", "case"]
theorem sc_Judge_table : FnScope sc_Judge_table_N ["self"] (defScope s_Judge_table) := ⟨rfl, rfl, rfl, by decide +kernel, rfl, by decide +kernel, by decide +kernel⟩
-- uses: FloorJudge.grade_of g:tuple
-- slots: 0=self 1=case

theorem has_Judge_table (F : MethAt K C.cFloorJudge "table" "Judge.table" s_Judge_table) (T : Tx mg) (O : OFx K C) (h_Forum_iter : IterAt K C.cForum "Forum.__iter__" s_Forum_iter) (h_FloorJudge_grade_of : HasM P w K mg base C.cFloorJudge "grade_of" 3 ["self", "case"] (spD K (W_FloorJudge_grade_of C))) : HasM P w K mg base C.cFloorJudge "table" 4 ["self"] (spD K (W_Judge_table C)) := by
  refine hasM F sc_Judge_table (fun ds R h => ?_) (fun _ _ _ _ _ _ us hl => match us, hl with | [_], _ => rfl) fun f cdv A outer s H E hr => ⟨_, (pss_one (ps_ret (pe_callTy call_tuple_of (by rfl) T.tuple (by decide +kernel) (pa_cons (pe_lc (own := [("case", 1)]) (g := (gName 1)) (tt := tYes) (te := (tMeth C.cFloorJudge "grade_of" (spD K (W_FloorJudge_grade_of C)) [] E0 (tVar 0) (tCons (tVar 1) tNil))) rfl sc_Judge_table.nd (pi_ownI (k := 0) h_Forum_iter sc_Forum_iter (hr.mono (by decide)) (fun _ _ _ _ _ _ us hl => match us, hl with | [_], _ => rfl) (fun _ _ _ _ => iter_body T) (pe_fld (pv 0) rfl)) (blkOk_by (N := sc_Judge_table_N) (sc := defScope s_Judge_table) (by decide +kernel)) (fun _ _ _ _ _ => (pg_name (i := 1) sc_Judge_table.nd rfl (by first | exact .inl rfl | exact .inr rfl))) (fun _ _ _ _ _ => pts_nil) (fun _ _ _ _ _ => (pe_methH h_FloorJudge_grade_of (hr.mono (by decide)) (pv 0) (pa_cons (pv 1) pa_nil)))) pa_nil)))), fun ds R h => ?_⟩
  · obtain ⟨s, b, rfl, _⟩ := h
    rfl
  · obtain ⟨s, b, rfl, hs, hb, hR⟩ := h
    try dsimp only [cxOf, Cx.nox, Cx.wish]
    show Ho K _ [.val (jD C (s, b)), .un] _ _ _ _
    have hcl := casesOf_len hs.lim
    refine ho_ret (ev_cb (ea_cons (ev_lc ?_)))
    refine ei_ownI ?_
    refine ev_fld (ev_var rfl (gFld rfl (OFx.j O) (OFx.j_forum O) rfl ?_))
    refine ⟨_, _, rfl, O.f, O.f_cases, rfl, ?_⟩
    refine lc_list (h := fun c => .int (lowB b c)) (show (casesOf (lims s)).length ≤ 100000 by omega) (fun i c hc => ?_) ?_
    · refine gn_name (by decide) (ev_meth (ev_var rfl ⟨_, rfl, (gLook rfl (ea_cons (ev_var rfl (ea_nil ?_))))⟩))
      refine ⟨s, b, c, rfl, hs, hb, (mem_casesOf fun l hl => by have := hs.lim.nn l hl; omega).mp (List.mem_of_getElem? hc), rfl⟩
    · refine ea_nil (rc_tupL ?_)
      exact hR
end
end Sc
/-! D24: the least picks. -/
namespace Sc
open PySem L2
theorem units65 {k : Nat} {A : Around} (r : Room k A) : A.units + 65 < cLine := by have := r.un; omega
def pickP : Option Nat → PyData
  | none => .none
  | some n => .int (n : Int)
theorem pick_py (e : Option Nat) : toPy (pickD e) = some (pickP e) := by cases e <;> simp [pickD, pickP, toPy]
theorem picks_py : ∀ p : List (Option Nat), toPyL (p.map pickD) = some (p.map pickP)
  | [] => by simp [toPyL]
  | e :: p => by simp [toPyL, pick_py e, picks_py p]
theorem picksD_py (p : List (Option Nat)) : toPy (picksD p) = some (.tuple (p.map pickP)) := by simp [toPy, picks_py p]
theorem due_py : ∀ l : List (List (Option Nat)), toPyL (l.map picksD) = some (l.map fun p => .tuple (p.map pickP))
  | [] => by simp [toPyL]
  | p :: l => by simp only [List.map_cons, toPyL, picksD_py p, due_py l]
theorem pick_lay : ∀ p : List (Option Nat), PyData.canLayAll0 (p.map pickP) = true
  | [] => by simp [PyData.canLayAll0]
  | e :: p => by cases e <;> simp [PyData.canLayAll0, PyData.canLay0, pickP, pick_lay p]
theorem pick_depth : ∀ p : List (Option Nat), PyData.depthAll (p.map pickP) = 0
  | [] => by simp [PyData.depthAll]
  | e :: p => by cases e <;> simp [PyData.depthAll, PyData.depth, pickP, pick_depth p]
theorem due_lay : ∀ l : List (List (Option Nat)), PyData.canLayAll0 (l.map fun p => .tuple (p.map pickP)) = true
  | [] => by simp [PyData.canLayAll0]
  | p :: l => by simp [PyData.canLayAll0, PyData.canLay0, pick_lay p, due_lay l]
theorem due_depth : ∀ l : List (List (Option Nat)), PyData.depthAll (l.map fun p => .tuple (p.map pickP)) ≤ 1
  | [] => by simp [PyData.depthAll]
  | p :: l => by simp [PyData.depthAll, PyData.depth, pick_depth p, due_depth l]
theorem pick_eqv : ∀ p : List (Option Nat), PyData.eqvAll (p.map pickP) (p.map pickP) = true
  | [] => by simp [PyData.eqvAll]
  | e :: p => by cases e <;> simp [PyData.eqvAll, PyData.eqv, pickP, pick_eqv p]
section
variable {P : Program} {w : World} {K : PySem.W.Frag} {mg : Str → Option Value} {base : Heap} {C : CA}
-- _law_least
abbrev s__law_least : Stmt := top 69
abbrev sc__law_least_N : List Str := ["_law_rulings_here", "_law_rows", "_law_told", "_law_shapes_here", "_law_wons_here", "_law_picks", "_law_row", "_law_judges", "_law_n", "_law_entries", "_law_cases_here", "_law_table", "_law_k"]
theorem sc__law_least : FnScope sc__law_least_N ["_law_rulings_here", "_law_rows", "_law_told", "_law_shapes_here", "_law_wons_here"] (defScope s__law_least) := ⟨rfl, rfl, rfl, by decide +kernel, rfl, by decide +kernel, by decide +kernel⟩
-- uses: _law_entries_of _law_is_choice _law_part_grade g:tuple panel_of g:len g:range _law_limits _law_cases Judge.table
-- slots: 0=_law_rulings_here 1=_law_rows 2=_law_told 3=_law_shapes_here 4=_law_wons_here 5=_law_picks 6=_law_row 7=_law_judges 8=_law_n 9=_law_entries 10=_law_cases_here 11=_law_table 12=_law_k

theorem has_law_least (F : FunAt K mg "_law_least" s__law_least) (T : Tx mg) (O : OFx K C) (h_law_entries_of : Has P w K mg base "_law_entries_of" 2 ["_law_row"] (spD K (W_law_entries_of))) (h_law_is_choice : Has P w K mg base "_law_is_choice" 1 ["_law_row"] (spD K (W_law_is_choice))) (h_law_part_grade : Has P w K mg base "_law_part_grade" 2 ["_law_cases_here", "_law_part"] (spD K (W_law_part_grade))) (h_panel_of : Has P w K mg base "panel_of" 7 ["rulings", "picks"] (spD K (W_panel_of C))) (h_law_limits : Has P w K mg base "_law_limits" 1 ["_law_shape"] (spD K (W_law_limits))) (h_law_cases : Has P w K mg base "_law_cases" 1 ["_law_limits_here"] (spD K (W_law_cases))) (h_Judge_table : HasM P w K mg base C.cFloorJudge "table" 4 ["self"] (spD K (W_Judge_table C))) : Has P w K mg base "_law_least" 8 ["_law_rulings_here", "_law_rows", "_law_told", "_law_shapes_here", "_law_wons_here"] (spD K (W_law_least C)) := by
  refine hasD F sc__law_least (fun ds R h => ?_) (fun _ _ _ _ _ _ us hl => match us, hl with | [_, _, _, _, _], _ => rfl) fun f cdv A outer s H E hr => ⟨_, (pss_cons (ps_set (i := 5) sc__law_least.nd rfl (Or.inl rfl) (pe_lst pa_nil))
      (pss_cons (ps_for PassesOwn.never rfl (pi_list (pv 1)) (pg_name (i := 6) sc__law_least.nd rfl (by first | exact .inl rfl | exact .inr rfl)) (pss_cons (ps_set (i := 9) sc__law_least.nd rfl (Or.inl rfl) (pe_callH h_law_entries_of (hr.mono (by decide)) rfl (pa_cons (pv 6) pa_nil)))
      (pss_cons (ps_if (pt_val (pe_callH h_law_is_choice (hr.mono (by decide)) rfl (pa_cons (pv 6) pa_nil))) (pss_one (ps_setLc (i := 9) (own := [("_law_k", 12)]) (g := (gName 12)) (tt := (tTest (tOp rEq (tCall (spD K (W_law_part_grade)) [] E0 (tCons (tOp (rIxL K) (tVar 4) (tVar 12)) (tCons (tOp (rIxT K) (tOp (rIxT K) (tVar 6) (tC (.int 0))) (tVar 12)) tNil))) (tOp (rIxT K) (tVar 6) (tC (.int 2)))))) (te := (tVar 12)) rfl sc__law_least.nd rfl rfl (sw_true rfl rfl rfl (by decide +kernel)) (pi_list (pv 9)) (blkOk_by (N := sc__law_least_N) (sc := defScope s__law_least) (by decide +kernel)) (fun _ _ _ _ _ => (pg_name (i := 12) sc__law_least.nd rfl (by first | exact .inl rfl | exact .inr rfl))) (fun _ _ _ _ _ => (pts_one (pt_cmpR op_eq (pe_callH h_law_part_grade (hr.mono (by decide)) rfl (pa_cons (pe_ix ix_list (pv 4) (pv 12) (fun _ _ => rfl)) (pa_cons (pe_ix ix_tup (pe_ix ix_tup (pv 6) pe_int (fun _ _ => rfl)) (pv 12) (fun _ _ => rfl)) pa_nil))) (pe_ix ix_tup (pv 6) pe_int (fun _ _ => rfl)) (nomark _)))) (fun _ _ _ _ _ => (pv 12)))) pss_nil)
      (pss_one (ps_expr (pe_bm PySem.F.plainAttrs_list PySem.F.slot_list_append PySem.F.type_list_append mt_append (pv 5) (pa_cons (pe_ix ix_list (pv 9) pe_int (fun _ _ => rfl)) pa_nil)))))))
      (pss_cons (ps_if (pt_cmpR (op_notInD (units65 hr)) (pe_callTy call_tuple_of (by rfl) T.tuple (by decide +kernel) (pa_cons (pv 5) pa_nil)) (pv 2) (by first | exact nomark _ | rfl)) (pss_one (ps_ret pe_bl)) pss_nil)
      (pss_cons (ps_set (i := 7) sc__law_least.nd rfl (Or.inl rfl) (pe_fld (pe_callH h_panel_of (hr.mono (by decide)) rfl (pa_cons (pv 0) (pa_cons (pe_callTy call_tuple_of (by rfl) T.tuple (by decide +kernel) (pa_cons (pv 5) pa_nil)) pa_nil))) rfl))
      (pss_cons (ps_for PassesOwn.never rfl (pi_range1 rfl T.range (pa_cons (pe_callB call_len_seq (by rfl) T.len (by decide +kernel) (pa_cons (pv 3) pa_nil)) pa_nil)) (pg_name (i := 8) sc__law_least.nd rfl (by first | exact .inl rfl | exact .inr rfl)) (pss_cons (ps_set (i := 10) sc__law_least.nd rfl (Or.inl rfl) (pe_callH h_law_cases (hr.mono (by decide)) rfl (pa_cons (pe_callH h_law_limits (hr.mono (by decide)) rfl (pa_cons (pe_ix ix_list (pv 3) (pv 8) (fun _ _ => rfl)) pa_nil)) pa_nil)))
      (pss_cons (ps_set (i := 11) sc__law_least.nd rfl (Or.inl rfl) (pe_methH0 h_Judge_table (hr.mono (by decide)) (pe_ix ix_tup (pv 7) (pv 8) (fun _ _ => rfl))))
      (pss_one (ps_for PassesOwn.never rfl (pi_range1 rfl T.range (pa_cons (pe_callB call_len_seq (by rfl) T.len (by decide +kernel) (pa_cons (pv 10) pa_nil)) pa_nil)) (pg_name (i := 12) sc__law_least.nd rfl (by first | exact .inl rfl | exact .inr rfl)) (pss_one (ps_if (pt_cmpR op_gt (pe_ix ix_tup (pv 11) (pv 12) (fun _ _ => rfl)) (pe_callH h_law_part_grade (hr.mono (by decide)) rfl (pa_cons (pe_ix ix_list (pv 4) (pv 8) (fun _ _ => rfl)) (pa_cons (pe_ix ix_list (pv 10) (pv 12) (fun _ _ => rfl)) pa_nil))) (nomark _)) (pss_one (ps_ret pe_bl)) pss_nil)))))))
      (pss_one (ps_ret pe_bl))))))), fun ds R h => ?_⟩
  · obtain ⟨shs, rows, wons, rfl, _⟩ := h
    rfl
  · obtain ⟨shs, rows, wons, rfl, hs, hr, hw, hd, hR⟩ := h
    try dsimp only [cxOf, Cx.nox, Cx.wish]
    have h3 := hs.hi
    have h6 := hr.len
    show Ho K _ [.val (rD C shs rows), .val (rowsD rows), .val (.lst ((dueOf shs.length rows).map picksD)), .val (shapesD shs), .val (wonsD wons), .un, .un, .un, .un, .un, .un, .un, .un] _ _ _ _
    refine ho_seq ?_
    refine ho_own (en_lst ?_)
    refine ea_nil (lit0 (ho_seq (ho_for (ei_list (ev_var rfl ⟨_, rfl, ?_⟩)))))
    refine ⟨fun i G => ∃ s6 s7 s8 s9 s10 s11 s12, G = [.val (rD C shs rows), .val (rowsD rows), .val (.lst ((dueOf shs.length rows).map picksD)), .val (shapesD shs), .val (wonsD wons), .own ((lp wons (rows.take i)).map pickD), s6, s7, s8, s9, s10, s11, s12], ⟨_, _, _, _, _, _, _, rfl⟩, ?_, ?_⟩
    · rintro i d G e ⟨s6, s7, s8, s9, s10, s11, s12, rfl⟩
      obtain ⟨r, hrr, rfl⟩ := map_inv e
      have hrm := List.mem_of_getElem? hrr
      have hp := hr.ok r hrm
      have hpl := hp.len
      obtain ⟨en, h1, h2, h0⟩ := lp_get hr hd hrr
      refine gn_name trivial (ho_seq (ho_set (ev_call (ea_cons (ev_var rfl (ea_nil ?_))))))
      refine ⟨r, rfl, by omega, ?_⟩
      refine ho_seq ?_
      have fin : ∀ s6 s7 s8 s10 s11 s12 (bk ct : List SD → Prop), Ho K (tDrop (tBM K "list" rAppend (tVar 5) (tCons (tOp (rIxL K) (tVar 9) (tC (V.int 0))) tNil)))
          [.val (rD C shs rows), .val (rowsD rows), .val (.lst ((dueOf shs.length rows).map picksD)), .val (shapesD shs), .val (wonsD wons), .own ((lp wons (rows.take i)).map pickD), s6, s7, s8, .val (.lst ((lpl wons r).map pickD)), s10, s11, s12]
          (fun G => ∃ s6 s7 s8 s9 s10 s11 s12, G = [.val (rD C shs rows), .val (rowsD rows), .val (.lst ((dueOf shs.length rows).map picksD)), .val (shapesD shs), .val (wonsD wons), .own ((lp wons (rows.take (i + 1))).map pickD), s6, s7, s8, s9, s10, s11, s12]) R bk ct := fun s6 s7 s8 s10 s11 s12 bk ct => by
        refine ho_app rfl (ev_op (ev_var rfl (ev_int ?_)))
        refine rv_ixL (atI_map (j := 0) rfl h0) ?_
        refine ⟨by rw [List.length_map]; unfold lp; rw [List.length_map, List.length_take]; omega, ?_⟩
        have e9 : lp wons (rows.take (i + 1)) = lp wons (rows.take i) ++ [en] := by
          have hh : (lp wons rows)[i]? = some en := h1
          unfold lp at hh ⊢
          rw [List.map_take, List.map_take, take_succ hh]
        rw [e9, List.map_append]
        exact ⟨_, _, _, _, _, _, _, rfl⟩
      refine ho_if ?_
      refine et_B (ev_call (ea_cons (ev_var rfl (ea_nil ?_))))
      refine ⟨r, rfl, ?_⟩
      refine ⟨_, rfl, ?_⟩
      refine ⟨fun hc => ?_, fun hc => ?_⟩
      · have he : (entries r).map pickD = (inPlay r.parts).map fun (k : Nat) => Da.int (k : Int) := by
          unfold entries
          rw [hc, if_pos rfl, List.map_map]
          rfl
        have hlp : (lpl wons r).map pickD = ((inPlay r.parts).filter fun k => hgi wons r.parts k == r.won).map fun (k : Nat) => Da.int (k : Int) := by
          unfold lpl
          rw [hc, if_pos rfl, List.map_map]
          rfl
        rw [he]
        refine ho_set (ev_lc ?_)
        refine ei_list (ev_var rfl ⟨_, rfl, ?_⟩)
        refine lc_listF (p := fun k => hgi wons r.parts k == r.won) (h := fun (k : Nat) => Da.int (k : Int)) (by have := inPlay_len (ps := r.parts); omega) (fun j k hk => ?_) ?_
        · obtain ⟨c, hcc⟩ := mem_inPlay.mp (List.mem_of_getElem? hk)
          have hkl : k < shs.length := by rw [← hpl]; exact get_lt hcc
          have hsh := List.getElem?_eq_getElem (l := shs) hkl
          have hok := hp.ok k _ c hsh hcc
          have hl5 := (hs.ok _ (List.mem_of_getElem? hsh)).lim.len
          refine gn_name (by decide) (et_test (ev_op (ev_call (ea_cons (ev_op (ev_var rfl (ev_var rfl ?_)))))))
          refine rv_ixL (atI_map (j := k) rfl (getD_of [] (by rw [hw.len]; exact hkl))) ?_
          refine ea_cons (ev_op (ev_op (ev_var rfl (ev_int (rv_ixT rfl (ev_var rfl ?_))))))
          refine rv_ixT (atI_map (j := k) rfl hcc) ?_
          refine ea_nil ?_
          refine ⟨_, c, rfl, fun w hwm => by rw [(wons_len hw hsh w hwm).len, hok.len], by have := hok.len; omega, ?_⟩
          refine ev_op (ev_var rfl (ev_int (rv_ixT rfl (rv_eqI ⟨_, rfl, ?_⟩))))
          refine ⟨?_, fun _ => ?_⟩
          · unfold hgi
            rw [getD_get hcc]
            show decide (gI (hg (wons.getD k []) c) = gI r.won) = (hg (wons.getD k []) c == r.won)
            cases hg (wons.getD k []) c <;> cases r.won <;> decide
          · exact ev_var rfl (rfl)
        · rw [← hlp]
          exact fin _ _ _ _ _ _ _ _
      · refine ho_nil ?_
        have he : entries r = lpl wons r := by
          unfold entries lpl
          rw [hc, if_neg Bool.false_ne_true, if_neg Bool.false_ne_true]
        rw [he]
        exact fin _ _ _ _ _ _ _ _
    · rintro G ⟨s6, s7, s8, s9, s10, s11, s12, rfl⟩
      rw [List.length_map, List.take_length]
      refine ho_frz 5 rfl ?_
      refine ho_seq (ho_if (et_test (ev_op (ev_cb (ea_cons (ev_var rfl (ea_nil (rc_tupL (ev_var rfl ?_)))))))))
      refine rv_notInD (picksD_py (lp wons rows)) (due_py _) ?_ ?_ ?_
      · unfold SeqAt.shaped
        rw [Bool.and_eq_true]
        refine ⟨by simp only [PyData.canLay0]; exact pick_lay _, decide_eq_true ?_⟩
        simp only [PyData.depth, pick_depth]
        decide
      · unfold SeqAt.shaped
        rw [Bool.and_eq_true]
        refine ⟨by simp only [PyData.canLay0]; exact due_lay _, decide_eq_true ?_⟩
        have := due_depth (dueOf shs.length rows)
        simp only [PyData.depth]
        omega
      · refine ⟨_, rfl, ?_⟩
        refine and_f ?_ ?_
        · rw [Bool.not_eq_false', List.any_eq_true]
          exact ⟨_, List.mem_map.mpr ⟨_, lp_due hr hw hd, rfl⟩, by rw [PyData.eqv]; exact pick_eqv _⟩
        refine ho_nil (ho_seq (ho_set (ev_fld (ev_call (ea_cons (ev_var rfl (ea_cons (ev_cb (ea_cons (ev_var rfl (ea_nil (rc_tupL (ea_nil ?_)))))))))))))
        refine ⟨shs, rows, lp wons rows, rfl, hs, hr, by simp [lp], ?_⟩
        refine gFld rfl (OFx.p O) (OFx.p_judges O) rfl (ho_seq (ho_for (ei_range1 (ea_cons (ev_cb (ea_cons (ev_var rfl (ea_nil (rc_lenL (ea_nil ⟨_, rfl, ?_⟩))))))))))
        rw [List.length_map]
        refine ⟨by omega, fun i G => ∃ s6 s8 s9 s10 s11 s12, G = [.val (rD C shs rows), .val (rowsD rows), .val (.lst ((dueOf shs.length rows).map picksD)), .val (shapesD shs), .val (wonsD wons), .val (.lst ((lp wons rows).map pickD)), s6, .val (.tup ((panelL shs rows (lp wons rows)).map (jD C))), s8, s9, s10, s11, s12], ⟨_, _, _, _, _, _, rfl⟩, ?_, ?_⟩
        · rintro i d G e ⟨s6, s8, s9, s10, s11, s12, rfl⟩
          obtain ⟨hi, rfl⟩ := rangeD_inv e
          have hsh := List.getElem?_eq_getElem (l := shs) hi
          have hsok := hs.ok _ (List.mem_of_getElem? hsh)
          have hll := hsok.lim
          have hj : (panelL shs rows (lp wons rows))[i]? = some (shs[i], (kn rows (lp wons rows) i).map fun k => k.2) := by
            unfold panelL
            rw [List.getElem?_map, List.getElem?_zipIdx, hsh]
            simp
          have hcl := casesOf_len hll
          refine gn_name trivial (ho_seq (ho_set (ev_call (ea_cons (ev_call (ea_cons (ev_op (ev_var rfl (ev_var rfl ?_)))))))))
          refine rv_ixL (atI_map (j := i) (by omega) hsh) ?_
          refine ea_nil ?_
          refine ⟨shs[i], rfl, by have := hsok.len; omega, ?_⟩
          refine ea_nil ?_
          refine ⟨lims shs[i], rfl, hll, ?_⟩
          refine ho_seq (ho_set (ev_meth (ev_op (ev_var rfl (ev_var rfl ?_)))))
          refine rv_ixT (atI_map (j := i) (by omega) hj) ?_
          refine ⟨jF C _ _, rfl, rfl, ?_⟩
          refine ea_nil ?_
          refine ⟨shs[i], _, rfl, hsok, fun d hd2 => ?_, ?_⟩
          · obtain ⟨k, hk, rfl⟩ := List.mem_map.mp hd2
            obtain ⟨s', hs', ck⟩ := kn_case hr hk
            rw [hsh] at hs'
            cases hs'
            exact ck
          refine ho_for (ei_range1 (ea_cons (ev_cb (ea_cons (ev_var rfl (ea_nil (rc_lenL (ea_nil ⟨_, rfl, ?_⟩))))))))
          rw [List.length_map]
          refine ⟨by omega, fun k G => ∃ s12, G = [.val (rD C shs rows), .val (rowsD rows), .val (.lst ((dueOf shs.length rows).map picksD)), .val (shapesD shs), .val (wonsD wons), .val (.lst ((lp wons rows).map pickD)), s6, .val (.tup ((panelL shs rows (lp wons rows)).map (jD C))), .val (.int (0 + (i : Int))), s9, .val (casesD (casesOf (lims shs[i]))),
            .val (.tup ((casesOf (lims shs[i])).map fun c => .int (lowB ((kn rows (lp wons rows) i).map fun k => k.2) c))), s12], ⟨_, rfl⟩, ?_, ?_⟩
          · rintro k d G e2 ⟨s12, rfl⟩
            obtain ⟨hk, rfl⟩ := rangeD_inv e2
            have hcc := List.getElem?_eq_getElem (l := casesOf (lims shs[i])) hk
            have hco := (mem_casesOf fun l hl => by have := hll.nn l hl; omega).mp (List.mem_of_getElem? hcc)
            have hb := lp_below hr hw hd hsh hco
            have hl5 := hll.len
            refine gn_name trivial (ho_if (et_test (ev_op (ev_op (ev_var rfl (ev_var rfl ?_))))))
            refine rv_ixT (atI_map (j := k) (by omega) hcc) ?_
            refine ev_call (ea_cons (ev_op (ev_var rfl (ev_var rfl ?_))))
            refine rv_ixL (atI_map (j := i) (by omega) (getD_of [] (by rw [hw.len]; exact hi))) ?_
            refine ea_cons (ev_op (ev_var rfl (ev_var rfl ?_)))
            refine rv_ixL (atI_map (j := k) (by omega) hcc) ?_
            refine ea_nil ?_
            refine ⟨_, _, rfl, fun w hwm => by rw [(wons_len hw hsh w hwm).len, hco.len], by have := hco.len; omega, ?_⟩
            refine rv_gt ⟨_, rfl, ?_⟩
            refine and_f (decide_eq_false (by omega)) ?_
            refine ho_nil ?_
            exact ⟨_, rfl⟩
          · rintro G ⟨s12, rfl⟩
            exact ⟨_, _, _, _, _, _, rfl⟩
        · rintro G ⟨s6, s8, s9, s10, s11, s12, rfl⟩
          refine ho_ret (ev_bl ?_)
          exact hR
end
end Sc
/-! D25: all_picks. -/
namespace Sc
open PySem L2
def W_all_picks (C : CA) : WPG := fun ds R => ∃ shs rows, ds = [rD C shs rows] ∧ ShsOk shs ∧ RowsOk shs rows ∧ R ((dueOf shs.length rows).map picksD)
def W_all_picks1 (C : CA) : WP1 := fun ds R => ∃ shs rows, ds = [rD C shs rows] ∧ ShsOk shs ∧ RowsOk shs rows ∧ R ((dueOf shs.length rows).head?.map picksD)
theorem odds_none {n : Nat} {rows : List Row} {p : Pk} : (!(!((odds (knAll n rows p)).map oddD).isEmpty)) = sound n rows p := by
  unfold sound
  rw [Bool.not_not, List.isEmpty_map]
section
variable {P : Program} {w : World} {K : PySem.W.Frag} {mg : Str → Option Value} {base : Heap} {C : CA}
-- all_picks
abbrev s_all_picks : Stmt := top 42
abbrev sc_all_picks_N : List Str := ["rulings", "waiting", "picks", "rows", "issue"]
theorem sc_all_picks : GScope sc_all_picks_N ["rulings"] (defScope s_all_picks) := ⟨rfl, rfl, rfl, by decide +kernel, rfl, by decide +kernel, by decide +kernel⟩
-- uses: no_picks known_parts known_quarrels open_rows issues_in_play with_pick
-- slots: 0=rulings 1=waiting 2=picks 3=rows 4=issue

theorem has_all_picks (F : FunAt K mg "all_picks" s_all_picks) (T : Tx mg) (O : OFx K C) (h_no_picks : Has P w K mg base "no_picks" 1 ["rulings"] (spD K (W_no_picks C))) (h_known_parts : Has P w K mg base "known_parts" 2 ["rulings", "picks"] (spD K (W_known_parts C))) (h_known_quarrels : Has P w K mg base "known_quarrels" 2 ["known"] (spD K (W_known_quarrels))) (h_open_rows : Has P w K mg base "open_rows" 2 ["rulings", "picks"] (spD K (W_open_rows C))) (h_issues_in_play : Has P w K mg base "issues_in_play" 1 ["parts"] (spD K (W_issues_in_play))) (h_with_pick : Has P w K mg base "with_pick" 1 ["picks", "row", "issue"] (spD K (W_with_pick))) : HasG P w K mg base "all_picks" 8 ["rulings"] (spG K (W_all_picks C)) := by
  refine hasG F sc_all_picks (fun ds R h => ?_) (fun _ _ _ _ _ _ us hl => match us, hl with | [_], _ => rfl) fun f cdv A outer s H E pn hr => ⟨_, (gss_cons (gs_ps (ps_nox (ps_set (i := 1) sc_all_picks.nd rfl (Or.inl rfl) (pe_lst (pa_cons (pe_callH h_no_picks (hr.mono (by decide)) rfl (pa_cons (pv 0) pa_nil)) pa_nil)))))
      (gss_cons (gs_while owns_gcx (PT.nox (pt_truth (pv 1) (by intro _; rfl)))
      (gss_cons (gs_ps (ps_nox (ps_set (i := 2) sc_all_picks.nd rfl (Or.inl rfl) (pe_bm0 PySem.F.plainAttrs_list PySem.F.slot_list_pop PySem.F.type_list_pop mt_pop (pv 1)))))
      (gss_cons (gs_if (PT.nox (pt_not (pt_truth (pe_callH h_known_quarrels (hr.mono (by decide)) rfl (pa_cons (pe_callH h_known_parts (hr.mono (by decide)) rfl (pa_cons (pv 0) (pa_cons (pv 2) pa_nil))) pa_nil)) (by intro _; rfl)))) (gss_cons (gs_ps (ps_nox (ps_set (i := 3) sc_all_picks.nd rfl (Or.inl rfl) (pe_callH h_open_rows (hr.mono (by decide)) rfl (pa_cons (pv 0) (pa_cons (pv 2) pa_nil))))))
      (gss_cons (gs_if (PT.nox (pt_not (pt_truth (pv 3) (by intro _; rfl)))) (gss_cons (gs_yield (PE.nox (pv 2)))
      gss_nil) (gss_cons (gs_ps (ps_nox (ps_for PassesOwn.never rfl (pi_list (pe_revL (pe_callH h_issues_in_play (hr.mono (by decide)) rfl (pa_cons (pe_ix ix_tup (pe_ix ix_tup (pe_fld (pv 0) rfl) (pe_ix ix_list (pv 3) pe_int (fun _ _ => rfl)) (fun _ _ => rfl)) pe_int (fun _ _ => rfl)) pa_nil)))) (pg_name (i := 4) sc_all_picks.nd rfl (by first | exact .inl rfl | exact .inr rfl)) (pss_one (ps_expr (pe_bm PySem.F.plainAttrs_list PySem.F.slot_list_append PySem.F.type_list_append mt_append (pv 1) (pa_cons (pe_callH h_with_pick (hr.mono (by decide)) rfl (pa_cons (pv 2) (pa_cons (pe_ix ix_list (pv 3) pe_int (fun _ _ => rfl)) (pa_cons (pv 4) pa_nil)))) pa_nil)))))))
      gss_nil))
      gss_nil)) gss_nil)
      gss_nil)))
      gss_nil)), fun ds R h => ?_⟩
  · obtain ⟨shs, rows, rfl, _⟩ := h
    rfl
  · obtain ⟨shs, rows, rfl, hs, hrw, hR⟩ := h
    have h3 := hs.hi
    have h6 := hrw.len
    dsimp only [gcxOf, cxOf, Cx.nox, Cx.wish]
    show GoG K _ [] [.val (rD C shs rows), .un, .un, .un, .un] _
    refine gg_cons (gg_plain (ho_own (en_lst ?_)))
    refine ea_cons (ev_call (ea_cons (ev_var rfl (ea_nil ?_))))
    refine ⟨shs, rows, rfl, by omega, ?_⟩
    refine ea_nil (lit1 ?_)
    refine gg_cons (gg_while (fun m yd G => ∃ done stk s2 s3 s4, yd = done.map picksD ∧ StkOk shs rows done stk ∧ m = meas rows stk ∧ m ≤ 4096 ∧ G = [.val (rD C shs rows), .own (stk.map picksD), s2, s3, s4]) _ ⟨[], [List.replicate rows.length none], _, _, _, rfl, StkOk.start, rfl, meas_start h6, rfl⟩ ?_)
    rintro m yd G ⟨done, stk, s2, s3, s4, rfl, hk, rfl, hm, rfl⟩
    refine et_truO 1 rfl ⟨fun hb => ?_, fun hb => ?_⟩
    · obtain ⟨stk', p, rfl⟩ : ∃ stk' p, stk = stk' ++ [p] := by
        rcases List.eq_nil_or_concat stk with q | ⟨l, x, q⟩ <;> (try rw [List.concat_eq_append] at q)
        · rw [q] at hb
          exact absurd hb (by simp)
        · exact ⟨l, x, q⟩
      obtain ⟨hpl, _⟩ := hk.top
      have em : meas rows (stk' ++ [p]) = meas rows stk' + meas rows [p] := meas_app
      have e1 : meas rows [p] = 4 ^ (openRows rows p).length := meas_one
      have epos : 0 < 4 ^ (openRows rows p).length := Nat.pow_pos (by decide)
      refine gg_cons (gg_plain (ho_pop 1 2 (l := stk'.map picksD) (d := picksD p) (by simp) ?_))
      show GoG K _ (done.map picksD) [.val (rD C shs rows), .own (stk'.map picksD), .val (picksD p), s3, s4] _
      refine gg_cons (gg_if ?_)
      refine et_not (et_truth (ev_call (ea_cons (ev_call (ea_cons (ev_var rfl (ea_cons (ev_var rfl (ea_nil ?_)))))))))
      refine ⟨shs, rows, p, rfl, hs, hrw, hpl, ?_⟩
      refine ea_nil ?_
      refine ⟨shs, rows, p, rfl, hs, hrw, hpl, ?_⟩
      refine ⟨_, rfl, ?_⟩
      rw [odds_none]
      refine ⟨fun hso => ?_, fun hso => ?_⟩
      · refine gg_cons (gg_plain (ho_set ?_))
        refine ev_call (ea_cons (ev_var rfl (ea_cons (ev_var rfl (ea_nil ?_)))))
        refine ⟨shs, rows, p, rfl, hpl, by omega, ?_⟩
        show GoG K _ (done.map picksD) [.val (rD C shs rows), .own (stk'.map picksD), .val (picksD p), .val (.lst ((openRows rows p).map fun (i : Nat) => Da.int (i : Int))), s4] _
        refine gg_cons (gg_if ?_)
        cases ho : openRows rows p with
        | nil =>
          refine et_not (et_truth (ev_var rfl ⟨_, rfl, ?_⟩))
          refine ⟨fun _ => ?_, fun z => absurd z (by decide)⟩
          have := hk.few hrw h3
          refine gg_cons (gg_yield (by rw [List.length_map]; omega) ?_)
          refine ev_var rfl ?_
          refine gg_nil (gg_nil (gg_nil ?_))
          exact ⟨_, by omega, done ++ [p], stk', _, _, _, by rw [List.map_append]; rfl, hk.item hso ho, rfl, by omega, rfl⟩
        | cons n l =>
          refine et_not (et_truth (ev_var rfl ⟨_, rfl, ?_⟩))
          refine ⟨fun z => (nomatch z), fun _ => ?_⟩
          obtain ⟨hn, r, hr2, hc⟩ := openRows_mem (rows := rows) (p := p) (n := n) (by rw [ho]; exact List.mem_cons_self)
          have hpr := hrw.ok r (List.mem_of_getElem? hr2)
          have hil : (inPlay r.parts).length ≤ 3 := by have := inPlay_len (ps := r.parts); have := hpr.len; omega
          refine gg_cons (gg_plain ?_)
          refine ho_for (ei_list (ev_revL (ev_call (ea_cons (ev_op (ev_op (ev_fld (ev_var rfl (gFld rfl (OFx.r O) (OFx.r_rows O) rfl (ev_op (ev_var rfl (ev_int ?_))))))))))))
          refine rv_ixL (atI_map (j := 0) rfl rfl) ?_
          refine rv_ixT (atI_map (j := n) rfl hr2) ?_
          refine ev_int (rv_ixT rfl (ea_nil ?_))
          refine ⟨r.parts, rfl, by have := hpr.len; omega, ?_⟩
          refine ⟨_, rfl, ⟨_, rfl, ?_⟩⟩
          rw [← List.map_reverse]
          refine ⟨fun i G => ∃ s4, G = [.val (rD C shs rows), .own ((stk' ++ ((inPlay r.parts).reverse.take i).map fun k => p.set n (some k)).map picksD), .val (picksD p), .val (.lst ((n :: l).map fun (i : Nat) => Da.int (i : Int))), s4], ⟨s4, by rw [List.take_zero, List.map_nil, List.append_nil]⟩, ?_, ?_⟩
          · rintro i d G e ⟨s4, rfl⟩
            obtain ⟨k, hk2, rfl⟩ := map_inv e
            refine gn_name trivial (ho_app rfl (ev_call (ea_cons (ev_var rfl (ea_cons (ev_op (ev_var rfl (ev_int ?_))))))))
            have hsl : (stk' ++ ((inPlay r.parts).reverse.take i).map fun k => p.set n (some k)).length ≤ 5000 := by
              have := meas_len (rows := rows) (stk := stk')
              rw [List.length_append, List.length_map, List.length_take, List.length_reverse]
              omega
            refine rv_ixL (atI_map (j := 0) rfl rfl) ?_
            refine ea_cons (ev_var rfl (ea_nil ?_))
            refine ⟨p, n, some k, rfl, by omega, by omega, ?_⟩
            refine ⟨by rw [List.length_map]; omega, .val (.int (k : Int)), ?_⟩
            have eqs : ∀ ks : List Nat, (stk' ++ (ks ++ [k]).map fun k => p.set n (some k)).map picksD = (stk' ++ ks.map fun k => p.set n (some k)).map picksD ++ [picksD (p.set n (some k))] := fun ks => by simp
            rw [take_succ hk2, eqs]
            rfl
          · rintro G ⟨s4, rfl⟩
            rw [List.length_map, List.take_length]
            have hmm := meas_more (ks := (inPlay r.parts).reverse) hpl ho (by rw [List.length_reverse]; exact hil)
            refine gg_nil (gg_nil (gg_nil ?_))
            refine ⟨_, ?_, done, _, _, _, _, rfl, hk.more ho hr2, rfl, ?_, rfl⟩
            · rw [meas_app]
              omega
            · rw [meas_app]
              omega
      · refine gg_nil (gg_nil ?_)
        refine ⟨_, ?_, done, stk', _, _, _, rfl, hk.bad hso, rfl, by omega, rfl⟩
        omega
    · have : stk = [] := by
        cases stk with
        | nil => rfl
        | cons a l => exact absurd hb (by simp)
      subst this
      have e := hk.due
      rw [List.reverse_nil, List.flatMap_nil, List.append_nil] at e
      refine gg_nil ?_
      show R (done.map picksD)
      rw [e]
      exact hR
end
end Sc
/-! D26: all_picks up to its first item; first_picks. -/
namespace Sc
open PySem L2
section
variable {P : Program} {w : World} {K : PySem.W.Frag} {mg : Str → Option Value} {base : Heap} {C : CA}
theorem has_all_picks1 (F : FunAt K mg "all_picks" s_all_picks) (T : Tx mg) (O : OFx K C) (h_no_picks : Has P w K mg base "no_picks" 1 ["rulings"] (spD K (W_no_picks C))) (h_known_parts : Has P w K mg base "known_parts" 2 ["rulings", "picks"] (spD K (W_known_parts C))) (h_known_quarrels : Has P w K mg base "known_quarrels" 2 ["known"] (spD K (W_known_quarrels))) (h_open_rows : Has P w K mg base "open_rows" 2 ["rulings", "picks"] (spD K (W_open_rows C))) (h_issues_in_play : Has P w K mg base "issues_in_play" 1 ["parts"] (spD K (W_issues_in_play))) (h_with_pick : Has P w K mg base "with_pick" 1 ["picks", "row", "issue"] (spD K (W_with_pick))) : HasG1 P w K mg base "all_picks" 8 ["rulings"] (spG1 K (W_all_picks1 C)) := by
  refine hasG1 F sc_all_picks (fun ds R h => ?_) (fun _ _ _ _ _ _ us hl => match us, hl with | [_], _ => rfl) fun f cdv A outer s H pn hr => ⟨_, (s1s_cons (s1_ps (ps_set (i := 1) sc_all_picks.nd rfl (Or.inl rfl) (pe_lst (pa_cons (pe_callH h_no_picks (hr.mono (by decide)) rfl (pa_cons (pv 0) pa_nil)) pa_nil))))
      (s1s_cons (s1_while (pt_truth (pv 1) (by intro _; rfl))
      (s1s_cons (s1_ps (ps_set (i := 2) sc_all_picks.nd rfl (Or.inl rfl) (pe_bm0 PySem.F.plainAttrs_list PySem.F.slot_list_pop PySem.F.type_list_pop mt_pop (pv 1))))
      (s1s_cons (s1_if (pt_not (pt_truth (pe_callH h_known_quarrels (hr.mono (by decide)) rfl (pa_cons (pe_callH h_known_parts (hr.mono (by decide)) rfl (pa_cons (pv 0) (pa_cons (pv 2) pa_nil))) pa_nil)) (by intro _; rfl))) (s1s_cons (s1_ps (ps_set (i := 3) sc_all_picks.nd rfl (Or.inl rfl) (pe_callH h_open_rows (hr.mono (by decide)) rfl (pa_cons (pv 0) (pa_cons (pv 2) pa_nil)))))
      (s1s_cons (s1_if (pt_not (pt_truth (pv 3) (by intro _; rfl))) (s1s_cons (s1_yield (pv 2))
      s1s_nil) (s1s_cons (s1_ps (ps_for PassesOwn.never rfl (pi_list (pe_revL (pe_callH h_issues_in_play (hr.mono (by decide)) rfl (pa_cons (pe_ix ix_tup (pe_ix ix_tup (pe_fld (pv 0) rfl) (pe_ix ix_list (pv 3) pe_int (fun _ _ => rfl)) (fun _ _ => rfl)) pe_int (fun _ _ => rfl)) pa_nil)))) (pg_name (i := 4) sc_all_picks.nd rfl (by first | exact .inl rfl | exact .inr rfl)) (pss_one (ps_expr (pe_bm PySem.F.plainAttrs_list PySem.F.slot_list_append PySem.F.type_list_append mt_append (pv 1) (pa_cons (pe_callH h_with_pick (hr.mono (by decide)) rfl (pa_cons (pv 2) (pa_cons (pe_ix ix_list (pv 3) pe_int (fun _ _ => rfl)) (pa_cons (pv 4) pa_nil)))) pa_nil))))))
      s1s_nil))
      s1s_nil)) s1s_nil)
      s1s_nil)))
      s1s_nil)), fun ds R h => ?_⟩
  · obtain ⟨shs, rows, rfl, _⟩ := h
    rfl
  · obtain ⟨shs, rows, rfl, hs, hrw, hR⟩ := h
    have h3 := hs.hi
    have h6 := hrw.len
    dsimp only [gcxOf, cxOf, Cx.nox, Cx.wish]
    show Ho K _ [.val (rD C shs rows), .un, .un, .un, .un] _ _ _ _
    refine ho_seq (ho_noRet (ho_own (en_lst ?_)))
    refine ea_cons (ev_call (ea_cons (ev_var rfl (ea_nil ?_))))
    refine ⟨shs, rows, rfl, by omega, ?_⟩
    refine ea_nil (lit1 (ho_seq ?_))
    refine ho_while (fun m G => ∃ stk s2 s3 s4, StkOk shs rows [] stk ∧ m = meas rows stk ∧ m ≤ 4096 ∧ G = [.val (rD C shs rows), .own (stk.map picksD), s2, s3, s4]) _ ⟨[List.replicate rows.length none], _, _, _, StkOk.start, rfl, meas_start h6, rfl⟩ ?_
    rintro m G ⟨stk, s2, s3, s4, hk, rfl, hm, rfl⟩
    refine et_truO 1 rfl ⟨fun hb => ?_, fun hb => ?_⟩
    · obtain ⟨stk', p, rfl⟩ : ∃ stk' p, stk = stk' ++ [p] := by
        rcases List.eq_nil_or_concat stk with q | ⟨l, x, q⟩ <;> (try rw [List.concat_eq_append] at q)
        · rw [q] at hb
          exact absurd hb (by simp)
        · exact ⟨l, x, q⟩
      obtain ⟨hpl, _⟩ := hk.top
      have em : meas rows (stk' ++ [p]) = meas rows stk' + meas rows [p] := meas_app
      have e1 : meas rows [p] = 4 ^ (openRows rows p).length := meas_one
      have epos : 0 < 4 ^ (openRows rows p).length := Nat.pow_pos (by decide)
      refine ho_seq (ho_noRet (ho_pop 1 2 (l := stk'.map picksD) (d := picksD p) (by simp) ?_))
      show Ho K _ [.val (rD C shs rows), .own (stk'.map picksD), .val (picksD p), s3, s4] _ _ _ _
      refine ho_seq (ho_if ?_)
      refine et_not (et_truth (ev_call (ea_cons (ev_call (ea_cons (ev_var rfl (ea_cons (ev_var rfl (ea_nil ?_)))))))))
      refine ⟨shs, rows, p, rfl, hs, hrw, hpl, ?_⟩
      refine ea_nil ?_
      refine ⟨shs, rows, p, rfl, hs, hrw, hpl, ?_⟩
      refine ⟨_, rfl, ?_⟩
      rw [odds_none]
      refine ⟨fun hso => ?_, fun hso => ?_⟩
      · refine ho_seq (ho_noRet (ho_set ?_))
        refine ev_call (ea_cons (ev_var rfl (ea_cons (ev_var rfl (ea_nil ?_)))))
        refine ⟨shs, rows, p, rfl, hpl, by omega, ?_⟩
        show Ho K _ [.val (rD C shs rows), .own (stk'.map picksD), .val (picksD p), .val (.lst ((openRows rows p).map fun (i : Nat) => Da.int (i : Int))), s4] _ _ _ _
        refine ho_seq (ho_if ?_)
        cases ho : openRows rows p with
        | nil =>
          refine et_not (et_truth (ev_var rfl ⟨_, rfl, ?_⟩))
          refine ⟨fun _ => ?_, fun z => absurd z (by decide)⟩
          have e := (hk.item hso ho).due
          rw [← e] at hR
          refine ho_seq (ho_ret (ev_var rfl ?_))
          exact hR
        | cons n l =>
          refine et_not (et_truth (ev_var rfl ⟨_, rfl, ?_⟩))
          refine ⟨fun z => (nomatch z), fun _ => ?_⟩
          obtain ⟨hn, r, hr2, hc⟩ := openRows_mem (rows := rows) (p := p) (n := n) (by rw [ho]; exact List.mem_cons_self)
          have hpr := hrw.ok r (List.mem_of_getElem? hr2)
          have hil : (inPlay r.parts).length ≤ 3 := by have := inPlay_len (ps := r.parts); have := hpr.len; omega
          refine ho_seq (ho_noRet ?_)
          refine ho_for (ei_list (ev_revL (ev_call (ea_cons (ev_op (ev_op (ev_fld (ev_var rfl (gFld rfl (OFx.r O) (OFx.r_rows O) rfl (ev_op (ev_var rfl (ev_int ?_))))))))))))
          refine rv_ixL (atI_map (j := 0) rfl rfl) ?_
          refine rv_ixT (atI_map (j := n) rfl hr2) ?_
          refine ev_int (rv_ixT rfl (ea_nil ?_))
          refine ⟨r.parts, rfl, by have := hpr.len; omega, ?_⟩
          refine ⟨_, rfl, ⟨_, rfl, ?_⟩⟩
          rw [← List.map_reverse]
          refine ⟨fun i G => ∃ s4, G = [.val (rD C shs rows), .own ((stk' ++ ((inPlay r.parts).reverse.take i).map fun k => p.set n (some k)).map picksD), .val (picksD p), .val (.lst ((n :: l).map fun (i : Nat) => Da.int (i : Int))), s4], ⟨s4, by rw [List.take_zero, List.map_nil, List.append_nil]⟩, ?_, ?_⟩
          · rintro i d G e ⟨s4, rfl⟩
            obtain ⟨k, hk2, rfl⟩ := map_inv e
            refine gn_name trivial (ho_app rfl (ev_call (ea_cons (ev_var rfl (ea_cons (ev_op (ev_var rfl (ev_int ?_))))))))
            have hsl : (stk' ++ ((inPlay r.parts).reverse.take i).map fun k => p.set n (some k)).length ≤ 5000 := by
              have := meas_len (rows := rows) (stk := stk')
              rw [List.length_append, List.length_map, List.length_take, List.length_reverse]
              omega
            refine rv_ixL (atI_map (j := 0) rfl rfl) ?_
            refine ea_cons (ev_var rfl (ea_nil ?_))
            refine ⟨p, n, some k, rfl, by omega, by omega, ?_⟩
            refine ⟨by rw [List.length_map]; omega, .val (.int (k : Int)), ?_⟩
            have eqs : ∀ ks : List Nat, (stk' ++ (ks ++ [k]).map fun k => p.set n (some k)).map picksD = (stk' ++ ks.map fun k => p.set n (some k)).map picksD ++ [picksD (p.set n (some k))] := fun ks => by simp
            rw [take_succ hk2, eqs]
            rfl
          · rintro G ⟨s4, rfl⟩
            rw [List.length_map, List.take_length]
            have hmm := meas_more (ks := (inPlay r.parts).reverse) hpl ho (by rw [List.length_reverse]; exact hil)
            refine ho_nil (ho_nil (ho_nil ?_))
            refine ⟨_, ?_, _, _, _, _, hk.more ho hr2, rfl, ?_, rfl⟩
            · rw [meas_app]
              omega
            · rw [meas_app]
              omega
      · refine ho_nil (ho_nil ?_)
        refine ⟨_, ?_, stk', _, _, _, hk.bad hso, rfl, by omega, rfl⟩
        omega
    · have : stk = [] := by
        cases stk with
        | nil => rfl
        | cons a l => exact absurd hb (by simp)
      subst this
      have e := hk.due
      rw [List.reverse_nil, List.flatMap_nil, List.append_nil] at e
      refine ho_nil ?_
      rw [← e] at hR
      exact hR
-- first_picks
abbrev s_first_picks : Stmt := top 43
abbrev sc_first_picks_N : List Str := ["rulings", "picks"]
theorem sc_first_picks : FnScope sc_first_picks_N ["rulings"] (defScope s_first_picks) := ⟨rfl, rfl, rfl, by decide +kernel, rfl, by decide +kernel, by decide +kernel⟩
-- uses: all_picks1
-- slots: 0=rulings 1=picks

theorem has_first_picks (F : FunAt K mg "first_picks" s_first_picks) (T : Tx mg) (O : OFx K C) (h_all_picks1 : HasG1 P w K mg base "all_picks" 8 ["rulings"] (spG1 K (W_all_picks1 C))) : Has P w K mg base "first_picks" 12 ["rulings"] (spD K (W_first_picks C)) := by
  refine hasD F sc_first_picks (fun ds R h => ?_) (fun _ _ _ _ _ _ us hl => match us, hl with | [_], _ => rfl) fun f cdv A outer s H E hr => ⟨_, (pss_cons (ps_forFirst PassesOwn.never h_all_picks1 (hr.mono (by decide)) rfl (pa_cons (pv 0) pa_nil) (pg_name (i := 1) sc_first_picks.nd rfl (by first | exact .inl rfl | exact .inr rfl)) (pss_one (ps_ret (pv 1))))
      (pss_one (ps_ret pe_non))), fun ds R h => ?_⟩
  · obtain ⟨shs, rows, rfl, _⟩ := h
    rfl
  · obtain ⟨shs, rows, rfl, hs, hrw, hR⟩ := h
    try dsimp only [cxOf, Cx.nox, Cx.wish]
    show Ho K _ [.val (rD C shs rows), .un] _ _ _ _
    refine ho_seq (ho_forFirst ?_)
    refine ea_cons (ev_var rfl (ea_nil ?_))
    refine ⟨shs, rows, rfl, hs, hrw, ?_⟩
    cases q : dueOf shs.length rows with
    | nil =>
      rw [q] at hR
      show Ho K _ [.val (rD C shs rows), .un] _ _ _ _
      refine ho_ret (ev_non ?_)
      exact hR
    | cons p l =>
      rw [q] at hR
      refine go_name ?_
      show Ho K _ [.val (rD C shs rows), .val (picksD p)] _ _ _ _
      refine ho_ret (ev_var rfl ?_)
      exact hR
end
end Sc
/-! D27: one row replaced. -/
namespace Sc
open PySem L2
theorem plain_picks {n : Nat} {p : Pk} : plainD (n + 1) (picksD p) ↔ p.length ≤ 1000 := by
  constructor
  · intro h
    have := h.1
    rwa [List.length_map] at this
  · intro h
    refine ⟨by rw [List.length_map]; exact h, fun d hd => ?_⟩
    obtain ⟨e, _, rfl⟩ := List.mem_map.mp hd
    cases e <;> cases n <;> trivial
theorem plain_due {n : Nat} {l : List Pk} (h : l.length ≤ 1000) (h2 : ∀ p ∈ l, p.length ≤ 1000) : plainD (n + 2) (.lst (l.map picksD)) := by
  refine ⟨by rw [List.length_map]; exact h, fun d hd => ?_⟩
  obtain ⟨p, hp, rfl⟩ := List.mem_map.mp hd
  exact plain_picks.mpr (h2 p hp)
theorem due_mem {n : Nat} {rows : List Row} {p : Pk} (h : p ∈ dueOf n rows) : p.length = rows.length := fullPicks_mem (List.mem_filter.mp h).1
theorem due_plain {shs : List Shape} {rows : List Row} (hs : ShsOk shs) (hr : RowsOk shs rows) : plainD 3 (.lst ((dueOf shs.length rows).map picksD)) :=
  plain_due (by have := dueOf_len hr hs.hi; omega) fun p hp => by rw [due_mem hp]; have := hr.len; omega
theorem plain_rows {shs : List Shape} {rows : List Row} {n i : Nat} {r : Row} (hr : RowsOk shs rows) (hn : rows[n]? = some r) (hi : i ∈ inPlay r.parts) : RowsOk shs (rows.set n (plainRow r i)) := by
  have hp := hr.ok r (List.mem_of_getElem? hn)
  obtain ⟨c, hc⟩ := mem_inPlay.mp hi
  have hil := get_lt hc
  refine ⟨by rw [List.length_set]; exact hr.len, fun q hq => ?_⟩
  rcases List.mem_or_eq_of_mem_set hq with h | h
  · exact hr.ok q h
  · subst h
    have eg : (plainRow r i).parts = (List.replicate r.parts.length none).set i (some c) := by
      unfold plainRow
      rw [getD_get hc]
    refine ⟨by rw [eg, List.length_set, List.length_replicate]; exact hp.len, fun j s d hj hd => ?_, i, c, by rw [eg]; exact List.getElem?_set_self (by rw [List.length_replicate]; exact hil)⟩
    rw [eg] at hd
    rcases get_set hd with ⟨e, e2⟩ | ⟨_, e2⟩
    · subst e
      cases e2
      exact hp.ok i s c hj hc
    · rw [List.getElem?_replicate] at e2
      split at e2 <;> cases e2
theorem ixN_at {n j : Nat} (h : j < n) : ixN n (j : Int) = some j := by
  unfold ixN
  simp
  omega
section
variable {P : Program} {w : World} {K : PySem.W.Frag} {mg : Str → Option Value} {base : Heap} {C : CA}
-- _law_apart
abbrev s__law_apart : Stmt := top 70
abbrev sc__law_apart_N : List Str := ["_law_suit", "_law_rows", "_law_due", "_law_row", "_law_parts_here", "_law_issue_here", "_law_single", "_law_plain", "_law_told", "_law_wanted", "_law_picks"]
theorem sc__law_apart : FnScope sc__law_apart_N ["_law_suit", "_law_rows", "_law_due", "_law_row"] (defScope s__law_apart) := ⟨rfl, rfl, rfl, by decide +kernel, rfl, by decide +kernel, by decide +kernel⟩
-- uses: _law_entries_of g:len g:tuple all_picks Rulings.__init__ g:list _law_picks_after _law_same
-- slots: 0=_law_suit 1=_law_rows 2=_law_due 3=_law_row 4=_law_parts_here 5=_law_issue_here 6=_law_single 7=_law_plain 8=_law_told 9=_law_wanted 10=_law_picks

theorem has_law_apart (F : FunAt K mg "_law_apart" s__law_apart) (T : Tx mg) (O : OFx K C) (h_law_entries_of : Has P w K mg base "_law_entries_of" 2 ["_law_row"] (spD K (W_law_entries_of))) (h_all_picks : HasG P w K mg base "all_picks" 8 ["rulings"] (spG K (W_all_picks C))) (h_Rulings_init : HasC P w K mg base "Rulings" C.cRulings 3 ["self", "suit", "rows"] (spI K C.cRulings (W_Rulings_init C))) (h_law_picks_after : Has P w K mg base "_law_picks_after" 1 ["_law_picks", "_law_row", "_law_issue_here"] (spD K (W_law_picks_after))) (h_law_same : Has P w K mg base "_law_same" 5 ["_law_told", "_law_due"] (spD K (W_law_same))) : Has P w K mg base "_law_apart" 12 ["_law_suit", "_law_rows", "_law_due", "_law_row"] (spD K (W_law_apart C)) := by
  refine hasD F sc__law_apart (fun ds R h => ?_) (fun _ _ _ _ _ _ us hl => match us, hl with | [_, _, _, _], _ => rfl) fun f cdv A outer s H E hr => ⟨_, (pss_cons (ps_set (i := 4) sc__law_apart.nd rfl (Or.inl rfl) (pe_ix ix_tup (pe_ix ix_list (pv 1) (pv 3) (fun _ _ => rfl)) pe_int (fun _ _ => rfl)))
      (pss_cons (ps_for PassesOwn.never rfl (pi_list (pe_callH h_law_entries_of (hr.mono (by decide)) rfl (pa_cons (pe_ix ix_list (pv 1) (pv 3) (fun _ _ => rfl)) pa_nil))) (pg_name (i := 5) sc__law_apart.nd rfl (by first | exact .inl rfl | exact .inr rfl)) (pss_cons (ps_set (i := 6) sc__law_apart.nd rfl (Or.inl rfl) (pe_op op_rep (pe_lst (pa_cons pe_non pa_nil)) (pe_callB call_len_seq (by rfl) T.len (by decide +kernel) (pa_cons (pv 4) pa_nil))))
      (pss_cons (ps_asg (pe_ix ix_tup (pv 4) (pv 5) (fun _ _ => rfl)) (pg_sub (pv 6) (pv 5) set_list))
      (pss_cons (ps_set (i := 7) sc__law_apart.nd rfl (Or.inl rfl) (pe_tup (pa_cons (pe_callTy call_tuple_of (by rfl) T.tuple (by decide +kernel) (pa_cons (pv 6) pa_nil)) (pa_cons (pe_ix ix_tup (pe_tup (pa_cons pe_str (pa_cons pe_str pa_nil))) (pe_ix ix_tup (pe_ix ix_list (pv 1) (pv 3) (fun _ _ => rfl)) pe_int (fun _ _ => rfl)) (fun _ _ => rfl)) (pa_cons (pe_ix ix_tup (pe_ix ix_list (pv 1) (pv 3) (fun _ _ => rfl)) pe_int (fun _ _ => rfl)) pa_nil)))))
      (pss_cons (ps_set (i := 8) sc__law_apart.nd rfl (Or.inl rfl) (pe_listPicks h_all_picks (hr.mono (by decide)) T.list rfl rfl (pa_cons (pe_makeH h_Rulings_init (hr.mono (by decide)) rfl (pa_cons (pv 0) (pa_cons (pe_op op_cat (pe_op op_cat (pe_slice sl_list (pv 1) po_none (po_some (pv 3))) (pe_lst (pa_cons (pv 7) pa_nil))) (pe_slice sl_list (pv 1) (po_some (pe_op op_add (pv 3) pe_int)) po_none)) pa_nil))) pa_nil)))
      (pss_cons (ps_setLc (i := 9) (own := [("_law_picks", 10)]) (g := (gName 10)) (tt := (tTest (tOp rEq (tOp (rIxT K) (tVar 10) (tVar 3)) (tVar 5)))) (te := (tCall (spD K (W_law_picks_after)) [] E0 (tCons (tVar 10) (tCons (tVar 3) (tCons (tC .non) tNil))))) rfl sc__law_apart.nd rfl rfl (sw_true rfl rfl rfl (by decide +kernel)) (pi_list (pv 2)) (blkOk_by (N := sc__law_apart_N) (sc := defScope s__law_apart) (by decide +kernel)) (fun _ _ _ _ _ => (pg_name (i := 10) sc__law_apart.nd rfl (by first | exact .inl rfl | exact .inr rfl))) (fun _ _ _ _ _ => (pts_one (pt_cmpR op_eq (pe_ix ix_tup (pv 10) (pv 3) (fun _ _ => rfl)) (pv 5) (nomark _)))) (fun _ _ _ _ _ => (pe_callH h_law_picks_after (hr.mono (by decide)) rfl (pa_cons (pv 10) (pa_cons (pv 3) (pa_cons pe_non pa_nil))))))
      (pss_one (ps_if (pt_not (pt_val (pe_callH h_law_same (hr.mono (by decide)) rfl (pa_cons (pv 8) (pa_cons (pv 9) pa_nil))))) (pss_one (ps_ret pe_bl)) pss_nil))))))))
      (pss_one (ps_ret pe_bl)))), fun ds R h => ?_⟩
  · obtain ⟨shs, rows, n, rfl, _⟩ := h
    rfl
  · obtain ⟨shs, rows, n, rfl, hs, hrw, hn, hR⟩ := h
    have h3 := hs.hi
    have h6 := hrw.len
    obtain ⟨hnl, hnc⟩ : n < rows.length ∧ ∃ r, rows[n]? = some r ∧ isCh r = true := by
      unfold choices at hn
      have h := List.mem_filter.mp hn
      have h1 : n < rows.length := List.mem_range.mp h.1
      refine ⟨h1, rows[n], List.getElem?_eq_getElem h1, ?_⟩
      have h2 := h.2
      rw [List.getElem?_eq_getElem h1] at h2
      exact h2
    obtain ⟨r, hnr, hch⟩ := hnc
    have hp := hrw.ok r (List.mem_of_getElem? hnr)
    have hpl := hp.len
    try dsimp only [cxOf, Cx.nox, Cx.wish]
    show Ho K _ [.val (sD C shs), .val (rowsD rows), .val (.lst ((dueOf shs.length rows).map picksD)), .val (.int (n : Int)), .un, .un, .un, .un, .un, .un, .un] _ _ _ _
    refine ho_seq (ho_set (ev_op (ev_op (ev_var rfl (ev_var rfl ?_)))))
    refine rv_ixL (atI_map (j := n) rfl hnr) ?_
    refine ev_int (rv_ixT rfl (ho_seq (ho_for (ei_list (ev_call (ea_cons (ev_op (ev_var rfl (ev_var rfl ?_)))))))))
    refine rv_ixL (atI_map (j := n) rfl hnr) ?_
    refine ea_nil ?_
    refine ⟨r, rfl, by omega, ?_⟩
    refine ⟨_, rfl, ?_⟩
    have he : (entries r).map pickD = (inPlay r.parts).map fun (k : Nat) => Da.int (k : Int) := by
      unfold entries
      rw [hch, if_pos rfl, List.map_map]
      rfl
    rw [he]
    refine ⟨fun i G => ∃ s5 s6 s7 s8 s9 s10, G = [.val (sD C shs), .val (rowsD rows), .val (.lst ((dueOf shs.length rows).map picksD)), .val (.int (n : Int)), .val (partsD r.parts), s5, s6, s7, s8, s9, s10], ⟨_, _, _, _, _, _, rfl⟩, ?_, ?_⟩
    · rintro j d G e ⟨s5, s6, s7, s8, s9, s10, rfl⟩
      obtain ⟨i, hi0, rfl⟩ := map_inv e
      have hi := List.mem_of_getElem? hi0
      obtain ⟨c, hc⟩ := mem_inPlay.mp hi
      have hil := get_lt hc
      refine gn_name trivial (ho_seq ?_)
      refine ho_own (en_op ?_)
      refine ev_lst (ea_cons (ev_non (ea_nil (lit1 (ev_cb (ea_cons (ev_var rfl (ea_nil (rc_lenT ?_)))))))))
      rw [List.length_map]
      refine rn_rep (by simp; omega) (by omega) ?_
      refine ho_seq ?_
      refine ho_sit rfl ?_
      refine ev_op (ev_var rfl (ev_var rfl ?_))
      refine rv_ixT (atI_map (j := i) rfl hc) ?_
      refine ev_var rfl ?_
      have esn : (List.replicate r.parts.length [Da.non]).flatten.set i (partD (some c)) = (plainRow r i).parts.map partD := by
        unfold plainRow
        dsimp only
        rw [getD_get hc, List.map_set, List.map_replicate, List.flatten_replicate_singleton]
        rfl
      refine ⟨_, i, rfl, ixN_at (by rw [List.flatten_replicate_singleton, List.length_replicate]; exact hil), ?_⟩
      rw [esn]
      refine ho_frz 6 rfl ?_
      refine ho_seq (ho_set (ev_tup (ea_cons (ev_cb (ea_cons (ev_var rfl (ea_nil (rc_tupL (ea_cons (ev_op (ev_tup (ea_cons (ev_str (ea_cons (ev_str (ea_nil (lit2 (ev_op (ev_op (ev_var rfl (ev_var rfl ?_)))))))))))))))))))))
      refine rv_ixL (atI_map (j := n) rfl hnr) ?_
      refine ev_int (rv_ixT rfl ?_)
      refine rv_ixT (d := .str (modeS r.won)) (by cases r.won <;> rfl) ?_
      refine ea_cons (ev_op (ev_op (ev_var rfl (ev_var rfl ?_))))
      refine rv_ixL (atI_map (j := n) rfl hnr) ?_
      refine ev_int (rv_ixT rfl (ea_nil (lit3 (ho_seq (ho_set ?_)))))
      refine ev_new (en_listPicks ?_)
      refine ea_cons (ev_make (ea_cons (ev_var rfl (ea_cons (ev_op (ev_op (ev_slL (ev_var rfl (eo_none (eo_some (ev_var rfl ⟨_, rfl, ⟨_, rfl, (ev_lst (ea_cons (ev_var rfl (ea_nil (lit1 (rv_catL ?_))))))⟩⟩)))))))))))
      rw [cut_to, ← List.map_take]
      have lt : (rows.take n).length ≤ 6 := by rw [List.length_take]; omega
      have ld : (rows.drop (n + 1)).length ≤ 6 := by rw [List.length_drop]; omega
      refine ⟨by rw [List.length_map, List.length_singleton]; omega, ?_⟩
      refine ev_slL (ev_var rfl (eo_some (ev_op (ev_var rfl (ev_int (rv_add ⟨_, rfl, (eo_none ⟨_, rfl, (rv_catL ?_)⟩)⟩))))))
      rw [cut_from, ← List.map_drop]
      refine ⟨by rw [List.length_append, List.length_map, List.length_map, List.length_singleton]; omega, ?_⟩
      have ers : (rows.take n).map rowD ++ [Da.tup [Da.tup ((plainRow r i).parts.map partD), Da.str (modeS r.won), Da.int (gI r.won)]] ++ (rows.drop (n + 1)).map rowD = (rows.set n (plainRow r i)).map rowD := by
        rw [List.set_eq_take_append_cons_drop, if_pos hnl, List.map_append, List.map_cons, List.append_assoc]
        rfl
      rw [ers]
      refine ea_nil ?_
      refine ⟨shs, _, rfl, rfl, hs, plain_rows hrw hnr hi, ?_⟩
      refine ea_nil ?_
      refine ⟨shs, _, rfl, hs, plain_rows hrw hnr hi, ?_⟩
      rw [apart_due hrw hnr hch hi]
      refine ho_seq (ho_set (ev_lc ?_))
      have hdl := dueOf_len hrw h3
      refine ei_list (ev_var rfl ⟨_, rfl, ?_⟩)
      refine lc_listF (p := fun p => p.getD n none == some i) (h := fun p => picksD (p.set n none)) (by omega) (fun k p hp2 => ?_) ?_
      · have hpl2 := due_mem (List.mem_of_getElem? hp2)
        refine gn_name (by decide) (et_test (ev_op (ev_op (ev_var rfl (ev_var rfl ?_)))))
        refine rv_ixT (atI_map (j := n) rfl (getD_of none (by omega))) ?_
        refine ev_var rfl (rv_eqP ⟨_, rfl, ?_⟩)
        refine ⟨rfl, fun _ => ?_⟩
        refine ev_call (ea_cons (ev_var rfl (ea_cons (ev_var rfl (ea_cons (ev_non (ea_nil ?_)))))))
        exact ⟨p, n, none, rfl, by omega, by omega, rfl⟩
      · have e9 : (((dueOf shs.length rows).filter fun p => p.getD n none == some i).map fun p => p.set n none).map picksD = ((dueOf shs.length rows).filter fun p => p.getD n none == some i).map fun p => picksD (p.set n none) := by
          rw [List.map_map]
          rfl
        rw [e9]
        refine ho_if (et_not (et_B (ev_call (ea_cons (ev_var rfl (ea_cons (ev_var rfl (ea_nil ?_))))))))
        refine ⟨_, rfl, ?_, ?_⟩
        · rw [← e9]
          refine plain_due ?_ fun p hp2 => ?_
          · rw [List.length_map]
            exact Nat.le_trans (List.length_filter_le _ _) (by omega)
          · obtain ⟨q, hq, rfl⟩ := List.mem_map.mp hp2
            rw [List.length_set, due_mem (List.mem_filter.mp hq).1]
            omega
        · refine ⟨true, rfl, and_f rfl ?_⟩
          refine ho_nil ?_
          exact ⟨_, _, _, _, _, _, rfl⟩
    · rintro G ⟨s5, s6, s7, s8, s9, s10, rfl⟩
      refine ho_ret (ev_bl ?_)
      exact hR
end
end Sc
/-! D28: the law. -/
namespace Sc
open PySem L2
def firstD (l : List Pk) : Da := match l with
  | [] => .non
  | p :: _ => picksD p
theorem first_of {C : CA} {shs : List Shape} {rows : List Row} {R : Da → Prop} (hs : ShsOk shs) (hr : RowsOk shs rows) (r : R (firstD (dueOf shs.length rows))) : W_first_picks C [rD C shs rows] R := by
  refine ⟨shs, rows, rfl, hs, hr, ?_⟩
  revert r
  cases dueOf shs.length rows <;> exact id
theorem panelL_fst {shs : List Shape} {rows : List Row} {p : Pk} : (panelL shs rows p).map (·.1) = shs := by
  unfold panelL
  rw [List.map_map]
  exact List.zipIdx_map_fst _ _
theorem panelL_ok {shs : List Shape} {rows : List Row} {p : Pk} (hs : ShsOk shs) (hr : RowsOk shs rows) : LOk (panelL shs rows p) := by
  refine ⟨by rw [panelL_fst]; exact hs, fun j hj => ?_⟩
  unfold panelL at hj
  obtain ⟨⟨s, i⟩, hq, rfl⟩ := List.mem_map.mp hj
  have hs1 : shs[i]? = some s := List.mem_zipIdx_iff_getElem?.mp hq
  refine ⟨by show ((kn rows p i).map fun k => k.2).length ≤ 6; rw [List.length_map]; have := kn_len (rows := rows) (p := p) (i := i); have := hr.len; omega, fun d hd => ?_⟩
  obtain ⟨k, hk, rfl⟩ := List.mem_map.mp hd
  obtain ⟨s', h1, h2⟩ := kn_case hr hk
  rw [hs1] at h1
  cases h1
  exact h2
theorem rv_notB {K : PySem.W.Frag} {R : Da → Prop} {a b : Bool} (r : R (.bl (!decide (a = b)))) : RvD K rNotB (.bl a) (.bl b) R := fun O H x y hO h1 h2 Q k =>
  ⟨a, b, rep_bl_inv h1, rep_bl_inv h2, k _ H _ r (Same.refl H) rep_bl⟩
section
variable {P : Program} {w : World} {K : PySem.W.Frag} {mg : Str → Option Value} {base : Heap} {C : CA}
-- law
abbrev s_law : Stmt := top 71
abbrev sc_law_N : List Str := ["_law_script", "_law_drawn", "_law_shapes_here", "_law_rows", "_law_issues", "_law_suit", "_law_rulings_here", "_law_due", "_law_told", "_law_first", "_law_picks", "_law_choices", "_law_row", "_law_n", "_law_shape"]
theorem sc_law : FnScope sc_law_N ["_law_script"] (defScope s_law) := ⟨rfl, rfl, rfl, by decide +kernel, rfl, by decide +kernel, by decide +kernel⟩
-- uses: _law_drawn_suit g:len Forum.__init__ Suit.__init__ Rulings.__init__ _law_full_picks _law_odds all_picks g:list _law_same first_picks panel_of Panel.keeps _law_least g:range _law_is_choice _law_draws g:int _law_apart
-- slots: 0=_law_script 1=_law_drawn 2=_law_shapes_here 3=_law_rows 4=_law_issues 5=_law_suit 6=_law_rulings_here 7=_law_due 8=_law_told 9=_law_first 10=_law_picks 11=_law_choices 12=_law_row 13=_law_n 14=_law_shape

theorem fn_law {f : Addr} {fd : FuncData} (F : Fun K "law" "law" s_law f fd) (T : Tx mg) (h_law_drawn_suit : Has P w K mg base "_law_drawn_suit" 5 ["_law_script"] (spD K (W_law_drawn_suit))) (h_Forum_init : HasC P w K mg base "Forum" C.cForum 2 ["self", "pro", "con", "tops"] (spI K C.cForum (W_Forum_init C))) (h_Suit_init : HasC P w K mg base "Suit" C.cSuit 1 ["self", "forums"] (spI K C.cSuit (W_Suit_init C))) (h_Rulings_init : HasC P w K mg base "Rulings" C.cRulings 3 ["self", "suit", "rows"] (spI K C.cRulings (W_Rulings_init C))) (h_law_full_picks : Has P w K mg base "_law_full_picks" 3 ["_law_rows"] (spD K (W_law_full_picks))) (h_law_odds : Has P w K mg base "_law_odds" 3 ["_law_rows", "_law_picks", "_law_issues"] (spD K (W_law_odds))) (h_all_picks : HasG P w K mg base "all_picks" 8 ["rulings"] (spG K (W_all_picks C))) (h_law_same : Has P w K mg base "_law_same" 5 ["_law_told", "_law_due"] (spD K (W_law_same))) (h_first_picks : Has P w K mg base "first_picks" 12 ["rulings"] (spD K (W_first_picks C))) (h_panel_of : Has P w K mg base "panel_of" 7 ["rulings", "picks"] (spD K (W_panel_of C))) (h_Panel_keeps : HasM P w K mg base C.cPanel "keeps" 6 ["self", "rulings"] (spD K (W_Panel_keeps C))) (h_law_least : Has P w K mg base "_law_least" 8 ["_law_rulings_here", "_law_rows", "_law_told", "_law_shapes_here", "_law_wons_here"] (spD K (W_law_least C))) (h_law_is_choice : Has P w K mg base "_law_is_choice" 1 ["_law_row"] (spD K (W_law_is_choice))) (h_law_draws : Has P w K mg base "_law_draws" 2 ["_law_script", "_law_k", "_law_many"] (spD K (W_law_draws))) (h_law_apart : Has P w K mg base "_law_apart" 12 ["_law_suit", "_law_rows", "_law_due", "_law_row"] (spD K (W_law_apart C))) : FnOk P w K mg base CX0 13 f fd ["_law_script"] (spD K W_law) := by
  refine okD' (.of F) sc_law (fun ds R h => ?_) fun cdv A outer s H E hr => ⟨_, (pss_cons (ps_set (i := 1) sc_law.nd rfl (Or.inl rfl) (pe_callH h_law_drawn_suit (hr.mono (by decide)) rfl (pa_cons (pv 0) pa_nil)))
      (pss_cons (ps_set (i := 2) sc_law.nd rfl (Or.inl rfl) (pe_ix ix_tup (pv 1) pe_int (fun _ _ => rfl)))
      (pss_cons (ps_set (i := 3) sc_law.nd rfl (Or.inr rfl) (pe_ix ix_tup (pv 1) pe_int (fun _ _ => rfl)))
      (pss_cons (ps_set (i := 4) sc_law.nd rfl (Or.inr rfl) (pe_callB call_len_seq (by rfl) T.len (by decide +kernel) (pa_cons (pv 2) pa_nil)))
      (pss_cons (ps_set (i := 5) sc_law.nd rfl (Or.inl rfl) (pe_makeH h_Suit_init (hr.mono (by decide)) rfl (pa_cons (pe_lc (own := [("_law_shape", 14)]) (g := (gName 14)) (tt := tYes) (te := (tMake C.cForum (spI K C.cForum (W_Forum_init C)) [] E0 (tCons (tOp (rIxT K) (tVar 14) (tC (.int 0))) (tCons (tOp (rIxT K) (tVar 14) (tC (.int 1))) (tCons (tOp (rIxT K) (tVar 14) (tC (.int 2))) tNil))))) rfl sc_law.nd (pi_list (pv 2)) (blkOk_by (N := sc_law_N) (sc := defScope s_law) (by decide +kernel)) (fun _ _ _ _ _ => (pg_name (i := 14) sc_law.nd rfl (by first | exact .inl rfl | exact .inr rfl))) (fun _ _ _ _ _ => pts_nil) (fun _ _ _ _ _ => (pe_makeH h_Forum_init (hr.mono (by decide)) rfl (pa_cons (pe_ix ix_tup (pv 14) pe_int (fun _ _ => rfl)) (pa_cons (pe_ix ix_tup (pv 14) pe_int (fun _ _ => rfl)) (pa_cons (pe_ix ix_tup (pv 14) pe_int (fun _ _ => rfl)) pa_nil)))))) pa_nil)))
      (pss_cons (ps_set (i := 6) sc_law.nd rfl (Or.inl rfl) (pe_makeH h_Rulings_init (hr.mono (by decide)) rfl (pa_cons (pv 5) (pa_cons (pv 3) pa_nil))))
      (pss_cons (ps_setLc (i := 7) (own := [("_law_picks", 10)]) (g := (gName 10)) (tt := (tTest (tOp rEq (tCB (LenT K) (tCons (tCall (spD K (W_law_odds)) [] E0 (tCons (tVar 3) (tCons (tVar 10) (tCons (tVar 4) tNil)))) tNil)) (tC (.int 0))))) (te := (tVar 10)) rfl sc_law.nd rfl rfl (sw_true rfl rfl rfl (by decide +kernel)) (pi_list (pe_callH h_law_full_picks (hr.mono (by decide)) rfl (pa_cons (pv 3) pa_nil))) (blkOk_by (N := sc_law_N) (sc := defScope s_law) (by decide +kernel)) (fun _ _ _ _ _ => (pg_name (i := 10) sc_law.nd rfl (by first | exact .inl rfl | exact .inr rfl))) (fun _ _ _ _ _ => (pts_one (pt_cmpR op_eq (pe_callB call_len_seq (by rfl) T.len (by decide +kernel) (pa_cons (pe_callH h_law_odds (hr.mono (by decide)) rfl (pa_cons (pv 3) (pa_cons (pv 10) (pa_cons (pv 4) pa_nil)))) pa_nil)) pe_int (nomark _)))) (fun _ _ _ _ _ => (pv 10)))
      (pss_cons (ps_set (i := 8) sc_law.nd rfl (Or.inl rfl) (pe_listPicks h_all_picks (hr.mono (by decide)) T.list rfl rfl (pa_cons (pv 6) pa_nil)))
      (pss_cons (ps_if (pt_not (pt_val (pe_callH h_law_same (hr.mono (by decide)) rfl (pa_cons (pv 8) (pa_cons (pv 7) pa_nil))))) (pss_one (ps_ret pe_bl)) pss_nil)
      (pss_cons (ps_set (i := 9) sc_law.nd rfl (Or.inl rfl) pe_non)
      (pss_cons (ps_if (pt_cmpR op_gt (pe_callB call_len_seq (by rfl) T.len (by decide +kernel) (pa_cons (pv 7) pa_nil)) pe_int (nomark _)) (pss_one (ps_set (i := 9) sc_law.nd rfl (Or.inl rfl) (pe_ix ix_list (pv 7) pe_int (fun _ _ => rfl)))) pss_nil)
      (pss_cons (ps_if (pt_not (pt_val (pe_callH h_law_same (hr.mono (by decide)) rfl (pa_cons (pe_callH h_first_picks (hr.mono (by decide)) rfl (pa_cons (pv 6) pa_nil)) (pa_cons (pv 9) pa_nil))))) (pss_one (ps_ret pe_bl)) pss_nil)
      (pss_cons (ps_for PassesOwn.never rfl (pi_list (pe_slice sl_list (pv 7) po_none (po_some pe_int))) (pg_name (i := 10) sc_law.nd rfl (by first | exact .inl rfl | exact .inr rfl)) (pss_one (ps_if (pt_cmpR op_notBl (pe_methH h_Panel_keeps (hr.mono (by decide)) (pe_callH h_panel_of (hr.mono (by decide)) rfl (pa_cons (pv 6) (pa_cons (pv 10) pa_nil))) (pa_cons (pv 6) pa_nil)) pe_bl (nomark _)) (pss_one (ps_ret pe_bl)) pss_nil)))
      (pss_cons (ps_if (PW.pt (pw_and (pt_cmpR op_gt (pe_callB call_len_seq (by rfl) T.len (by decide +kernel) (pa_cons (pe_ix ix_tup (pv 1) pe_int (fun _ _ => rfl)) pa_nil)) pe_int (nomark _)) (pw_and1 (pt_not (pt_val (pe_callH h_law_least (hr.mono (by decide)) rfl (pa_cons (pv 6) (pa_cons (pv 3) (pa_cons (pv 8) (pa_cons (pv 2) (pa_cons (pe_ix ix_tup (pv 1) pe_int (fun _ _ => rfl)) pa_nil))))))))))) (pss_one (ps_ret pe_bl)) pss_nil)
      (pss_cons (ps_setLc (i := 11) (own := [("_law_n", 13)]) (g := (gName 13)) (tt := (tB (tCall (spD K (W_law_is_choice)) [] E0 (tCons (tOp (rIxL K) (tVar 3) (tVar 13)) tNil)))) (te := (tVar 13)) rfl sc_law.nd rfl rfl (sw_true rfl rfl rfl (by decide +kernel)) (pi_range1 rfl T.range (pa_cons (pe_callB call_len_seq (by rfl) T.len (by decide +kernel) (pa_cons (pv 3) pa_nil)) pa_nil)) (blkOk_by (N := sc_law_N) (sc := defScope s_law) (by decide +kernel)) (fun _ _ _ _ _ => (pg_name (i := 13) sc_law.nd rfl (by first | exact .inl rfl | exact .inr rfl))) (fun _ _ _ _ _ => (pts_one (pt_val (pe_callH h_law_is_choice (hr.mono (by decide)) rfl (pa_cons (pe_ix ix_list (pv 3) (pv 13) (fun _ _ => rfl)) pa_nil))))) (fun _ _ _ _ _ => (pv 13)))
      (pss_cons (ps_if (pt_cmpR op_gt (pe_callB call_len_seq (by rfl) T.len (by decide +kernel) (pa_cons (pv 11) pa_nil)) pe_int (nomark _)) (pss_cons (ps_set (i := 12) sc_law.nd rfl (Or.inl rfl) (pe_ix ix_list (pv 11) (pe_op op_mod (pe_callTy call_int1 (by rfl) T.int (by decide +kernel) (pa_cons (pe_ix ix_list (pe_callH h_law_draws (hr.mono (by decide)) rfl (pa_cons (pv 0) (pa_cons pe_int (pa_cons pe_int pa_nil)))) pe_int (fun _ _ => rfl)) pa_nil)) (pe_callB call_len_seq (by rfl) T.len (by decide +kernel) (pa_cons (pv 11) pa_nil))) (fun _ _ => rfl)))
      (pss_one (ps_if (pt_not (pt_val (pe_callH h_law_apart (hr.mono (by decide)) rfl (pa_cons (pv 5) (pa_cons (pv 3) (pa_cons (pv 7) (pa_cons (pv 12) pa_nil))))))) (pss_one (ps_ret pe_bl)) pss_nil))) pss_nil)
      (pss_one (ps_ret (pe_callH h_law_same (hr.mono (by decide)) rfl (pa_cons (pe_listPicks h_all_picks (hr.mono (by decide)) T.list rfl rfl (pa_cons (pv 6) pa_nil)) (pa_cons (pv 7) pa_nil))))))))))))))))))))), fun ds R h => ?_⟩
  · obtain ⟨ns, rfl, _⟩ := h
    rfl
  · obtain ⟨ns, rfl, hR⟩ := h
    try dsimp only [cxOf, Cx.nox, Cx.wish]
    show Ho K _ [.val (.scr ns), .un, .un, .un, .un, .un, .un, .un, .un, .un, .un, .un, .un, .un, .un] _ _ _ _
    refine ho_seq (ho_set (ev_call (ea_cons (ev_var rfl (ea_nil ?_)))))
    refine ⟨ns, rfl, fun shs rows wons hs hrw hwd => ?_⟩
    have h3 := hs.hi
    have h6 := hrw.len
    refine ho_seq (ho_set (ev_op (ev_var rfl (ev_int (rv_ixT rfl (ho_seq (ho_set (ev_op (ev_var rfl (ev_int (rv_ixT rfl (ho_seq (ho_set (ev_cb (ea_cons (ev_var rfl (ea_nil (rc_lenL (ho_seq (ho_set (ev_make (ea_cons (ev_lc (ei_list (ev_var rfl ⟨_, rfl, ?_⟩)))))))))))))))))))))))))
    refine lc_list (h := fD C) (by omega) (fun i s hs2 => ?_) ?_
    · refine gn_name (by decide) (ev_make (ea_cons (ev_op (ev_var rfl (ev_int (rv_ixT rfl (ea_cons (ev_op (ev_var rfl (ev_int (rv_ixT rfl (ea_cons (ev_op (ev_var rfl (ev_int (rv_ixT rfl (ea_nil ?_)))))))))))))))))
      exact ⟨s, rfl, rfl, hs.ok s (List.mem_of_getElem? hs2), rfl⟩
    refine ea_nil ?_
    refine ⟨shs, rfl, rfl, hs, ?_⟩
    refine ho_seq (ho_set (ev_make (ea_cons (ev_var rfl (ea_cons (ev_var rfl (ea_nil ?_)))))))
    refine ⟨shs, rows, rfl, rfl, hs, hrw, ?_⟩
    refine ho_seq (ho_set (ev_lc ?_))
    refine ei_list (ev_call (ea_cons (ev_var rfl (ea_nil ?_))))
    refine ⟨rows, rfl, h6, fun r hr2 => by rw [(hrw.ok r hr2).len]; exact h3, ?_⟩
    refine ⟨_, rfl, ?_⟩
    have hfl := fullPicks_len h6 fun r hr2 => by rw [(hrw.ok r hr2).len]; exact h3
    refine lc_listF (p := sound shs.length rows) (h := picksD) (by omega) (fun k p hp => ?_) ?_
    · have hpl := fullPicks_mem (List.mem_of_getElem? hp)
      refine gn_name (by decide) (et_test (ev_op (ev_cb (ea_cons (ev_call (ea_cons (ev_var rfl (ea_cons (ev_var rfl (ea_cons (ev_var rfl (ea_nil ?_))))))))))))
      rw [List.length_map]
      refine ⟨shs, rows, p, rfl, hs, hrw, hpl, ?_⟩
      refine ea_nil (rc_lenL (ev_int (rv_eqI ⟨_, rfl, ?_⟩)))
      refine ⟨?_, fun _ => ?_⟩
      · unfold sound
        rw [List.length_map]
        cases odds (knAll shs.length rows p) <;> simp <;> omega
      · exact ev_var rfl (rfl)
    show Ho K _ [.val (.scr ns), .val (.tup [shapesD shs, rowsD rows, wonsD wons]), .val (shapesD shs), .val (rowsD rows), .val (.int (shs.map shapeD).length), .val (sD C shs), .val (rD C shs rows), .val (.lst ((dueOf shs.length rows).map picksD)), .un, .un, .un, .un, .un, .un, .un] _ _ _ _
    have hdl := dueOf_len hrw h3
    have hpd := due_plain hs hrw
    refine ho_seq (ho_set (ev_new (en_listPicks ?_)))
    refine ea_cons (ev_var rfl (ea_nil ?_))
    refine ⟨shs, rows, rfl, hs, hrw, ?_⟩
    refine ho_seq (ho_if (et_not (et_B (ev_call (ea_cons (ev_var rfl (ea_cons (ev_var rfl (ea_nil ?_)))))))))
    refine ⟨_, rfl, hpd, ?_⟩
    refine ⟨true, rfl, and_f rfl ?_⟩
    refine ho_nil (ho_seq (ho_set (ev_non ?_)))
    refine ho_seq (ho_if ?_)
    refine et_test (ev_op (ev_cb (ea_cons (ev_var rfl (ea_nil (rc_lenL (ev_int (rv_gt ⟨_, rfl, ?_⟩))))))))
    rw [List.length_map]
    refine and_mid (fun G' => G' = [.val (.scr ns), .val (.tup [shapesD shs, rowsD rows, wonsD wons]), .val (shapesD shs), .val (rowsD rows), .val (.int (shs.map shapeD).length), .val (sD C shs), .val (rD C shs rows), .val (.lst ((dueOf shs.length rows).map picksD)), .val (.lst ((dueOf shs.length rows).map picksD)), .val (firstD (dueOf shs.length rows)), .un, .un, .un, .un, .un]) ⟨fun hb => ?_, fun hb => ?_⟩ ?_
    · refine ho_set ?_
      cases q : dueOf shs.length rows with
      | nil =>
        rw [q] at hb
        exact absurd hb (by decide)
      | cons p l =>
        refine ev_op (ev_var rfl (ev_int ?_))
        exact rv_ixL (atI_map (j := 0) rfl rfl) rfl
    · refine ho_nil ?_
      cases q : dueOf shs.length rows with
      | nil => rfl
      | cons p l =>
        rw [q] at hb
        exact absurd (of_decide_eq_false hb) (by rw [List.length_cons]; omega)
    rintro G rfl
    refine ho_seq (ho_if (et_not (et_B (ev_call (ea_cons (ev_call (ea_cons (ev_var rfl (ea_nil ?_)))))))))
    refine first_of hs hrw ?_
    refine ea_cons (ev_var rfl (ea_nil ?_))
    refine ⟨_, rfl, ?_, ?_⟩
    · cases q : dueOf shs.length rows with
      | nil => trivial
      | cons p l =>
        refine plain_picks.mpr ?_
        rw [due_mem (rows := rows) (n := shs.length) (by rw [q]; exact List.mem_cons_self)]
        omega
    refine ⟨true, rfl, and_f rfl ?_⟩
    refine ho_nil (ho_seq (ho_for (ei_list (ev_slL (ev_var rfl (eo_none (eo_some (ev_int ⟨_, rfl, ⟨_, rfl, ⟨_, rfl, ?_⟩⟩⟩))))))))
    rw [cut_to (n := 3) |> fun h => (h : cutD ((dueOf shs.length rows).map picksD) none (some 3) = _), ← List.map_take]
    refine ⟨fun i G => ∃ s10, G = [.val (.scr ns), .val (.tup [shapesD shs, rowsD rows, wonsD wons]), .val (shapesD shs), .val (rowsD rows), .val (.int (shs.map shapeD).length), .val (sD C shs), .val (rD C shs rows), .val (.lst ((dueOf shs.length rows).map picksD)), .val (.lst ((dueOf shs.length rows).map picksD)), .val (firstD (dueOf shs.length rows)), s10, .un, .un, .un, .un], ⟨_, rfl⟩, ?_, ?_⟩
    · rintro i d G e ⟨s10, rfl⟩
      obtain ⟨p, hp, rfl⟩ := map_inv e
      have hpm := List.mem_of_mem_take (List.mem_of_getElem? hp)
      have hpl := due_mem hpm
      obtain ⟨hpf, hps⟩ := List.mem_filter.mp hpm
      refine gn_name trivial (ho_if (et_test (ev_op (ev_meth (ev_call (ea_cons (ev_var rfl (ea_cons (ev_var rfl (ea_nil ?_))))))))))
      refine ⟨shs, rows, p, rfl, hs, hrw, hpl, ?_⟩
      refine ⟨pF C (panelL shs rows p), rfl, rfl, ?_⟩
      refine ea_cons (ev_var rfl (ea_nil ?_))
      refine ⟨panelL shs rows p, rows, by rw [panelL_fst], panelL_ok hs hrw, by rw [panelL_fst]; exact hrw, fun r hm m ha => panel_keeps hrw hpf hps hm ha, ?_⟩
      refine ev_bl ?_
      refine rv_notB ?_
      refine ⟨_, rfl, ?_⟩
      refine and_f (by rw [decide_eq_true rfl]; rfl) (ho_nil ⟨_, rfl⟩)
    rintro G ⟨s10, rfl⟩
    refine ho_seq (ho_if (EvT.imp (R := fun b => b = false) ?_ fun b hb => and_f hb (ho_nil ?_)))
    · refine et_and (et_test (ev_op (ev_cb (ea_cons (ev_op (ev_var rfl (ev_int (rv_ixT rfl (ea_nil (rc_lenL (ev_int (rv_gt ⟨_, rfl, ?_⟩))))))))))))
      refine ⟨fun hb => ?_, fun _ => rfl⟩
      have hne : wons ≠ [] := fun z => by
        rw [z] at hb
        exact absurd hb (by decide)
      obtain ⟨hw, hd⟩ := hwd.resolve_left hne
      refine et_not (et_B (ev_call (ea_cons (ev_var rfl (ea_cons (ev_var rfl (ea_cons (ev_var rfl (ea_cons (ev_var rfl (ea_cons (ev_op (ev_var rfl (ev_int (rv_ixT rfl (ea_nil ?_))))))))))))))))
      refine ⟨shs, rows, wons, rfl, hs, hrw, hw, hd, ?_⟩
      exact ⟨true, rfl, rfl⟩
    refine ho_seq (ho_set (ev_lc ?_))
    refine ei_range1 (ea_cons (ev_cb (ea_cons (ev_var rfl (ea_nil (rc_lenL (ea_nil ⟨_, rfl, ?_⟩)))))))
    rw [List.length_map]
    refine ⟨by omega, ?_⟩
    refine lc_rangeF (p := fun n => (rows[n]?.map isCh).getD false) (h := fun (n : Nat) => Da.int (n : Int)) (by omega) (fun i hi => ?_) ?_
    · have hri := List.getElem?_eq_getElem (l := rows) hi
      refine gn_name (by decide) (et_B (ev_call (ea_cons (ev_op (ev_var rfl (ev_var rfl ?_))))))
      refine rv_ixL (atI_map (j := i) rfl hri) ?_
      refine ea_nil ?_
      refine ⟨rows[i], rfl, ?_⟩
      refine ⟨_, rfl, by rw [hri]; rfl, fun _ => ?_⟩
      exact ev_var rfl (rfl)
    show Ho K _ [.val (.scr ns), .val (.tup [shapesD shs, rowsD rows, wonsD wons]), .val (shapesD shs), .val (rowsD rows), .val (.int (shs.map shapeD).length), .val (sD C shs), .val (rD C shs rows), .val (.lst ((dueOf shs.length rows).map picksD)), .val (.lst ((dueOf shs.length rows).map picksD)), .val (firstD (dueOf shs.length rows)), s10,
      .val (.lst ((choices rows).map fun (n : Nat) => Da.int (n : Int))), .un, .un, .un] _ _ _ _
    refine ho_seq (ho_if ?_)
    refine et_test (ev_op (ev_cb (ea_cons (ev_var rfl (ea_nil (rc_lenL (ev_int (rv_gt ⟨_, rfl, ?_⟩))))))))
    rw [List.length_map]
    refine and_mid (fun G' => ∃ s12, G' = [.val (.scr ns), .val (.tup [shapesD shs, rowsD rows, wonsD wons]), .val (shapesD shs), .val (rowsD rows), .val (.int (shs.map shapeD).length), .val (sD C shs), .val (rD C shs rows), .val (.lst ((dueOf shs.length rows).map picksD)), .val (.lst ((dueOf shs.length rows).map picksD)), .val (firstD (dueOf shs.length rows)), s10,
      .val (.lst ((choices rows).map fun (n : Nat) => Da.int (n : Int))), s12, .un, .un]) ⟨fun hb => ?_, fun hb => ?_⟩ ?_
    · have hcl : 0 < (choices rows).length := by
        have := of_decide_eq_true hb
        omega
      refine ho_seq (ho_set (ev_op (ev_var rfl (ev_op (ev_cb (ea_cons (ev_op (ev_call (ea_cons (ev_var rfl (ea_cons (ev_int (ea_cons (ev_int (ea_nil ?_)))))))))))))))
      refine ⟨ns, 4, 1, rfl, by omega, by omega, fun l hl _ => ?_⟩
      obtain ⟨x, rfl⟩ : ∃ x, l = [x] := by
        cases l with
        | nil => simp at hl
        | cons x l =>
          cases l with
          | nil => exact ⟨x, rfl⟩
          | cons y l => simp at hl
      refine ev_int (rv_ixL rfl (ea_nil (rc_int (ev_cb (ea_cons (ev_var rfl (ea_nil (rc_lenL (rv_modC ?_)))))))))
      rw [List.length_map]
      have hpos : (0 : Int) < ((choices rows).length : Int) := by omega
      refine ⟨hpos, ?_⟩
      have m1 := Int.emod_nonneg x (Int.ne_of_gt hpos)
      have m2 := Int.emod_lt_of_pos x hpos
      have hj : (x % ((choices rows).length : Int)).toNat < (choices rows).length := by omega
      have hcj := List.getElem?_eq_getElem (l := choices rows) hj
      refine rv_ixL (atI_map (j := (x % ((choices rows).length : Int)).toNat) (by omega) hcj) ?_
      refine ho_if (et_not (et_B (ev_call (ea_cons (ev_var rfl (ea_cons (ev_var rfl (ea_cons (ev_var rfl (ea_cons (ev_var rfl (ea_nil ?_))))))))))))
      refine ⟨shs, rows, _, rfl, hs, hrw, List.mem_of_getElem? hcj, ?_⟩
      exact ⟨true, rfl, and_f rfl (ho_nil ⟨_, rfl⟩)⟩
    · exact ho_nil ⟨_, rfl⟩
    rintro G ⟨s12, rfl⟩
    refine ho_ret (ev_call (ea_cons ?_))
    refine ev_new (en_listPicks ?_)
    refine ea_cons (ev_var rfl (ea_nil ?_))
    refine ⟨shs, rows, rfl, hs, hrw, ?_⟩
    refine ea_cons (ev_var rfl (ea_nil ?_))
    exact ⟨_, rfl, hpd, hR⟩
end
end Sc
/-! Jn: the law by what the top has written. -/
namespace Sc
open PySem L2
-- JN-BEGIN
structure Txt (P : Program) (K : PySem.W.Frag) (mg : Str → Option Value) (C : CA) : Prop where
  T : Tx mg
  O : OFx K C
  judge : JudgeAt P K mg C
  iter : IterAt K C.cForum "Forum.__iter__" s_Forum_iter
  f_at_least : FunAt K mg "at_least" s_at_least
  f__law_above : FunAt K mg "_law_above" s__law_above
  f_row_bounds : FunAt K mg "row_bounds" s_row_bounds
  f_issues_in_play : FunAt K mg "issues_in_play" s_issues_in_play
  f_with_pick : FunAt K mg "with_pick" s_with_pick
  f__law_picks_after : FunAt K mg "_law_picks_after" s__law_picks_after
  f__law_limits : FunAt K mg "_law_limits" s__law_limits
  f__law_is_choice : FunAt K mg "_law_is_choice" s__law_is_choice
  f__law_cell : FunAt K mg "_law_cell" s__law_cell
  f__law_case : FunAt K mg "_law_case" s__law_case
  f_all_cases : FunAt K mg "all_cases" s_all_cases
  f__law_cases : FunAt K mg "_law_cases" s__law_cases
  f__law_part_grade : FunAt K mg "_law_part_grade" s__law_part_grade
  f__law_entries_of : FunAt K mg "_law_entries_of" s__law_entries_of
  f__law_draws : FunAt K mg "_law_draws" s__law_draws
  f__law_decided : FunAt K mg "_law_decided" s__law_decided
  f__law_wons : FunAt K mg "_law_wons" s__law_wons
  f__law_parts : FunAt K mg "_law_parts" s__law_parts
  f__law_full_picks : FunAt K mg "_law_full_picks" s__law_full_picks
  f__law_known : FunAt K mg "_law_known" s__law_known
  f_known_quarrels : FunAt K mg "known_quarrels" s_known_quarrels
  f__law_odds : FunAt K mg "_law_odds" s__law_odds
  f__law_shuffled : FunAt K mg "_law_shuffled" s__law_shuffled
  f__law_issue : FunAt K mg "_law_issue" s__law_issue
  f__law_shapes : FunAt K mg "_law_shapes" s__law_shapes
  f__law_rulings : FunAt K mg "_law_rulings" s__law_rulings
  f__law_knot : FunAt K mg "_law_knot" s__law_knot
  f__law_drawn_suit : FunAt K mg "_law_drawn_suit" s__law_drawn_suit
  f_require_yes_no : FunAt K mg "require_yes_no" s_require_yes_no
  f_no_picks : FunAt K mg "no_picks" s_no_picks
  f_open_rows : FunAt K mg "open_rows" s_open_rows
  f_same_suit : FunAt K mg "same_suit" s_same_suit
  f_checked_rows : FunAt K mg "checked_rows" s_checked_rows
  f_known_parts : FunAt K mg "known_parts" s_known_parts
  f_distinct_letters : FunAt K mg "distinct_letters" s_distinct_letters
  f_panel_of : FunAt K mg "panel_of" s_panel_of
  f__law_same : FunAt K mg "_law_same" s__law_same
  f__law_least : FunAt K mg "_law_least" s__law_least
  f_all_picks : FunAt K mg "all_picks" s_all_picks
  f_first_picks : FunAt K mg "first_picks" s_first_picks
  f__law_apart : FunAt K mg "_law_apart" s__law_apart
  m_Rulings_choice_rows : MethAt K C.cRulings "choice_rows" "Rulings.choice_rows" s_Rulings_choice_rows
  m_Forum__contains_ : MethAt K C.cForum "__contains__" "Forum.__contains__" s_Forum__contains_
  m_Suit__contains_ : MethAt K C.cSuit "__contains__" "Suit.__contains__" s_Suit__contains_
  m_FloorJudge_grade_of : MethAt K C.cFloorJudge "grade_of" "FloorJudge.grade_of" s_FloorJudge_grade_of
  m_Panel_first_break : MethAt K C.cPanel "first_break" "Panel.first_break" s_Panel_first_break
  m_Panel_keeps : MethAt K C.cPanel "keeps" "Panel.keeps" s_Panel_keeps
  m_Judge_table : MethAt K C.cFloorJudge "table" "Judge.table" s_Judge_table
  p_Forum_text : PropAt K C.cForum "text" "Forum.text" s_Forum_text
  i_Suit__init_ : InitAt K mg "Suit" C.cSuit "Suit.__init__" s_Suit__init_ ["self", "forums"]
  i_Rulings__init_ : InitAt K mg "Rulings" C.cRulings "Rulings.__init__" s_Rulings__init_ ["self", "suit", "rows"]
  i_Panel__init_ : InitAt K mg "Panel" C.cPanel "Panel.__init__" s_Panel__init_ ["self", "suit", "judges"]
  i_Forum__init_ : InitAt K mg "Forum" C.cForum "Forum.__init__" s_Forum__init_ ["self", "pro", "con", "tops"]
  c_Panel__call_ : CallAt K C.cPanel "__call__" "Panel.__call__" s_Panel__call_
section
variable {P : Program} {w : World} {K : PySem.W.Frag} {mg : Str → Option Value} {base : Heap} {C : CA}
theorem law_ok {f : Addr} {fd : FuncData} (F : Fun K "law" "law" s_law f fd) (A : Txt P K mg C) : FnOk P w K mg base CX0 13 f fd ["_law_script"] (spD K W_law) := by
  have h_at_least := has_at_least (P := P) (w := w) (base := base) A.f_at_least A.T 
  have h_law_above := has_law_above (P := P) (w := w) (base := base) A.f__law_above A.T 
  have h_issues_in_play := has_issues_in_play (P := P) (w := w) (base := base) A.f_issues_in_play A.T 
  have h_with_pick := has_with_pick (P := P) (w := w) (base := base) A.f_with_pick A.T 
  have h_law_picks_after := has_law_picks_after (P := P) (w := w) (base := base) A.f__law_picks_after A.T 
  have h_law_limits := has_law_limits (P := P) (w := w) (base := base) A.f__law_limits A.T 
  have h_law_is_choice := has_law_is_choice (P := P) (w := w) (base := base) A.f__law_is_choice A.T 
  have h_law_cell := has_law_cell (P := P) (w := w) (base := base) A.f__law_cell A.T 
  have h_law_case := has_law_case (P := P) (w := w) (base := base) A.f__law_case A.T 
  have h_all_cases := has_all_cases (P := P) (w := w) (base := base) A.f_all_cases A.T 
  have h_law_cases := has_law_cases (P := P) (w := w) (base := base) A.f__law_cases A.T 
  have h_law_shuffled := has_law_shuffled (P := P) (w := w) (base := base) A.f__law_shuffled A.T 
  have h_law_issue := has_law_issue (P := P) (w := w) (base := base) A.f__law_issue A.T 
  have h_require_yes_no := has_require_yes_no (P := P) (w := w) (base := base) A.f_require_yes_no A.T A.O 
  have h_Rulings_choice_rows := has_Rulings_choice_rows (P := P) (w := w) (base := base) A.m_Rulings_choice_rows A.T A.O 
  have h_Forum_contains := has_Forum_contains (P := P) (w := w) (base := base) A.m_Forum__contains_ A.T A.O 
  have h_Forum_text := has_Forum_text (P := P) (w := w) (base := base) A.p_Forum_text A.T A.O 
  have h_Suit_init := has_Suit_init (P := P) (w := w) (base := base) A.i_Suit__init_ A.T A.O 
  have h_no_picks := has_no_picks (P := P) (w := w) (base := base) A.f_no_picks A.T A.O 
  have h_distinct_letters := has_distinct_letters (P := P) (w := w) (base := base) A.f_distinct_letters A.T 
  have h_law_same := has_law_same (P := P) (w := w) (base := base) A.f__law_same A.T 
  have h_row_bounds := has_row_bounds (P := P) (w := w) (base := base) A.f_row_bounds A.T h_at_least
  have h_law_part_grade := has_law_part_grade (P := P) (w := w) (base := base) A.f__law_part_grade A.T h_law_above
  have h_law_entries_of := has_law_entries_of (P := P) (w := w) (base := base) A.f__law_entries_of A.T h_law_is_choice
  have h_law_draws := has_law_draws (P := P) (w := w) (base := base) A.f__law_draws A.T h_law_cell
  have h_law_wons := has_law_wons (P := P) (w := w) (base := base) A.f__law_wons A.T h_law_limits h_law_case
  have h_law_parts := has_law_parts (P := P) (w := w) (base := base) A.f__law_parts A.T h_law_limits h_law_case
  have h_law_known := has_law_known (P := P) (w := w) (base := base) A.f__law_known A.T h_law_is_choice
  have h_known_quarrels := has_known_quarrels (P := P) (w := w) (base := base) A.f_known_quarrels A.T h_at_least
  have h_law_shapes := has_law_shapes (P := P) (w := w) (base := base) A.f__law_shapes A.T h_law_issue
  have h_law_knot := has_law_knot (P := P) (w := w) (base := base) A.f__law_knot A.T h_law_limits h_law_case
  have h_Suit_contains := has_Suit_contains (P := P) (w := w) (base := base) A.m_Suit__contains_ A.T A.O h_Forum_contains
  have h_open_rows := has_open_rows (P := P) (w := w) (base := base) A.f_open_rows A.T A.O h_Rulings_choice_rows
  have h_same_suit := has_same_suit (P := P) (w := w) (base := base) A.f_same_suit A.T A.O h_Forum_text
  have h_checked_rows := has_checked_rows (P := P) (w := w) (base := base) A.f_checked_rows A.T A.O h_Forum_contains
  have h_Panel_init := has_Panel_init (P := P) (w := w) (base := base) A.i_Panel__init_ A.T A.O h_require_yes_no h_Forum_text
  have h_known_parts := has_known_parts (P := P) (w := w) (base := base) A.f_known_parts A.T A.O h_Rulings_choice_rows h_issues_in_play
  have h_checked_rowsT := has_checked_rowsT (P := P) (w := w) (base := base) A.f_checked_rows A.T A.O h_Forum_contains
  have h_Forum_init := has_Forum_init (P := P) (w := w) (base := base) A.i_Forum__init_ A.T A.O h_distinct_letters h_all_cases
  have h_law_decided := has_law_decided (P := P) (w := w) (base := base) A.f__law_decided A.T h_law_part_grade
  have h_law_full_picks := has_law_full_picks (P := P) (w := w) (base := base) A.f__law_full_picks A.T h_law_entries_of
  have h_law_odds := has_law_odds (P := P) (w := w) (base := base) A.f__law_odds A.T h_law_known h_law_above
  have h_Rulings_init := has_Rulings_init (P := P) (w := w) (base := base) A.i_Rulings__init_ A.T A.O h_Suit_contains
  have h_FloorJudge_grade_of := has_FloorJudge_grade_of (P := P) (w := w) (base := base) A.m_FloorJudge_grade_of A.T A.O h_row_bounds
  have h_FloorJudge_init := has_FloorJudge_init (P := P) (w := w) (base := base) A.judge A.T A.O h_checked_rows h_checked_rowsT
  have h_all_picks := has_all_picks (P := P) (w := w) (base := base) A.f_all_picks A.T A.O h_no_picks h_known_parts h_known_quarrels h_open_rows h_issues_in_play h_with_pick
  have h_all_picks1 := has_all_picks1 (P := P) (w := w) (base := base) A.f_all_picks A.T A.O h_no_picks h_known_parts h_known_quarrels h_open_rows h_issues_in_play h_with_pick
  have h_law_rulings := has_law_rulings (P := P) (w := w) (base := base) A.f__law_rulings A.T h_law_parts h_law_decided
  have h_Panel_call := has_Panel_call (P := P) (w := w) (base := base) A.c_Panel__call_ A.T A.O h_Suit_contains h_FloorJudge_grade_of
  have h_panel_of := has_panel_of (P := P) (w := w) (base := base) A.f_panel_of A.T A.O h_known_parts h_FloorJudge_init h_Panel_init
  have h_Judge_table := has_Judge_table (P := P) (w := w) (base := base) A.m_Judge_table A.T A.O A.iter h_FloorJudge_grade_of
  have h_first_picks := has_first_picks (P := P) (w := w) (base := base) A.f_first_picks A.T A.O h_all_picks1
  have h_law_apart := has_law_apart (P := P) (w := w) (base := base) A.f__law_apart A.T A.O h_law_entries_of h_all_picks h_Rulings_init h_law_picks_after h_law_same
  have h_law_drawn_suit := has_law_drawn_suit (P := P) (w := w) (base := base) A.f__law_drawn_suit A.T h_law_draws h_law_shapes h_law_knot h_law_shuffled h_law_wons h_law_rulings h_law_is_choice
  have h_Panel_first_break := has_Panel_first_break (P := P) (w := w) (base := base) A.m_Panel_first_break A.T A.O h_same_suit h_Panel_call
  have h_law_least := has_law_least (P := P) (w := w) (base := base) A.f__law_least A.T A.O h_law_entries_of h_law_is_choice h_law_part_grade h_panel_of h_law_limits h_law_cases h_Judge_table
  have h_Panel_keeps := has_Panel_keeps (P := P) (w := w) (base := base) A.m_Panel_keeps A.T A.O h_Panel_first_break
  exact fn_law F A.T h_law_drawn_suit h_Forum_init h_Suit_init h_Rulings_init h_law_full_picks h_law_odds h_all_picks h_law_same h_first_picks h_panel_of h_Panel_keeps h_law_least h_law_is_choice h_law_draws h_law_apart
end
/-! what k_is finds, as facts -/
section
variable {K : PySem.W.Frag} {h : Heap} {mg : Str → Option Value}
theorem funAt_mk {x : Str} {st : Stmt} {f : Addr} {oc kV doc pm cdv ct : Value} {od an : Option Addr} {osl : Array (Option Value)} (X : K.In h) (G : h.Ns mainGlobals mg) (a : PySem.W.nsIn K mainGlobals x = some (some (.ref f)))
    (l : K.lookup f = some ⟨oc, od, .func (PySem.W.fnOf x x (defArgs st) (defBody st) (defScope st) .none kV doc pm an cdv ct), osl⟩) (c : PySem.W.codeIn K cdv x = true) (k : PySem.W.keepIn K (.ref f) = true) : FunAt K mg x st :=
  ⟨f, _, fun_mk l c k, PySem.W.mg_of X G a⟩
theorem methAt_mk {C : Addr} {m q : Str} {st : Stmt} {f : Addr} {oc kV doc pm cdv ct : Value} {od an : Option Addr} {osl : Array (Option Value)} (cl : Cls K C) (a : PySem.W.findIn K (.ref C) m = some (some (.ref f))) (i : PySem.W.isFn K (.ref f) = true)
    (l : K.lookup f = some ⟨oc, od, .func (PySem.W.fnOf m q (defArgs st) (defBody st) (defScope st) .none kV doc pm an cdv ct), osl⟩) (c : PySem.W.codeIn K cdv q = true) (k : PySem.W.keepIn K (.ref f) = true) : MethAt K C m q st :=
  ⟨f, _, fun_mk l c k, ⟨a, i, k⟩, cl⟩
theorem iterAt_mk {C : Addr} {q : Str} {st : Stmt} {f : Addr} {oc kV doc pm cdv ct : Value} {od an : Option Addr} {osl : Array (Option Value)} (a : PySem.W.findIn K (.ref C) "__iter__" = some (some (.ref f))) (i : PySem.W.isFn K (.ref f) = true)
    (l : K.lookup f = some ⟨oc, od, .func (PySem.W.fnOf "__iter__" q (defArgs st) (defBody st) (defScope st) .none kV doc pm an cdv ct), osl⟩) (c : PySem.W.codeIn K cdv q = true) (k : PySem.W.keepIn K (.ref f) = true) : IterAt K C q st :=
  ⟨f, _, fun_mk l c k, ⟨a, i, k⟩⟩
theorem callAt_mk {C : Addr} {q : Str} {st : Stmt} {f : Addr} {oc kV doc pm cdv ct : Value} {od an : Option Addr} {osl : Array (Option Value)} (a : PySem.W.findIn K (.ref C) "__call__" = some (some (.ref f))) (i : PySem.W.isFn K (.ref f) = true) (fi : PySem.W.fnIn K f = true)
    (l : K.lookup f = some ⟨oc, od, .func (PySem.W.fnOf "__call__" q (defArgs st) (defBody st) (defScope st) .none kV doc pm an cdv ct), osl⟩) (c : PySem.W.codeIn K cdv q = true) (k : PySem.W.keepIn K (.ref f) = true) : CallAt K C "__call__" q st :=
  ⟨f, _, fun_mk l c k, ⟨a, i, fi⟩⟩
theorem propAt_mk {C p : Addr} {m q : Str} {st : Stmt} {f : Addr} {rest : List Value} {oc kV doc pm cdv ct : Value} {od an : Option Addr} {osl : Array (Option Value)} (cl : Cls K C) (a : PySem.W.findIn K (.ref C) m = some (some (.ref p)))
    (g : PySem.W.specialIn K (.ref p) "__get__" = some (some (.builtin "property.__get__"))) (t : PySem.W.takesIn K (.ref p) = some true) (r : PySem.W.recIn K p "property" = some (.ref f :: rest))
    (l : K.lookup f = some ⟨oc, od, .func (PySem.W.fnOf m q (defArgs st) (defBody st) (defScope st) .none kV doc pm an cdv ct), osl⟩) (c : PySem.W.codeIn K cdv q = true) (k : PySem.W.keepIn K (.ref f) = true) : PropAt K C m q st :=
  ⟨p, f, _, fun_mk l c k, ⟨a, g, t, rest, r⟩, cl⟩
theorem initAt_mk {x : Str} {C : Addr} {q : Str} {st : Stmt} {ps : List Str} {f : Addr} {oc dV kV doc pm cdv ct : Value} {od an : Option Addr} {osl : Array (Option Value)} (hx : mg x = some (.ref C)) (mk : PySem.W.makesIn K C = true) (a : PySem.W.findIn K (.ref C) "__init__" = some (some (.ref f))) (i : PySem.W.isFn K (.ref f) = true) (kp : PySem.W.keepIn K (.ref C) = true)
    (l : K.lookup f = some ⟨oc, od, .func (PySem.W.fnOf "__init__" q (defArgs st) (defBody st) (defScope st) dV kV doc pm an cdv ct), osl⟩) (c : PySem.W.codeIn K cdv q = true)
    (hb : Binds K (PySem.W.fnOf "__init__" q (defArgs st) (defBody st) (defScope st) dV kV doc pm an cdv ct) ps []) : InitAt K mg x C q st ps :=
  ⟨f, _, ⟨oc, od, dV, kV, doc, pm, an, cdv, ct, osl, rfl, l, c⟩, ⟨mk, a, i, kp⟩, hx, hb⟩
theorem judgeAt_mk {P : Program} {C : CA} {f f2 : Addr} {oc oc2 dV2 kV2 doc2 pm2 cdv2 ct2 : Value} {od2 an2 : Option Addr} {osl2 : Array (Option Value)} {ccl cl : Value} {od cdd cld : Option Addr} {kV doc pm : Value} {an : Option Addr} {cda cc : Addr} {ct : Value} {osl ccs csl : Array (Option Value)} {vs : Array Value} {file : Str} {tf : Tok} {cdD : ClassData}
    (X : K.In h) (G : h.Ns mainGlobals mg) (hx : mg "FloorJudge" = some (.ref C.cFloorJudge)) (mk : PySem.W.makesIn K C.cFloorJudge = true) (a : PySem.W.findIn K (.ref C.cFloorJudge) "__init__" = some (some (.ref f))) (i : PySem.W.isFn K (.ref f) = true) (kp : PySem.W.keepIn K (.ref C.cFloorJudge) = true)
    (l : K.lookup f = some ⟨oc, od, .func (PySem.W.ksFn "__init__" "FloorJudge.__init__" (defArgs s_FloorJudge__init_) (defBody s_FloorJudge__init_) (defScope s_FloorJudge__init_) .none kV doc pm an (.ref cda) ct cc), osl⟩) (c : PySem.W.codeIn K (.ref cda) "FloorJudge.__init__" = true)
    (lc : K.lookup cda = some ⟨ccl, cdd, .fields vs, ccs⟩) (v2 : vs[2]? = some (.str file tf)) (pf : ((P.main.file : Str) == file) = true) (lcc : K.lookup cc = some ⟨cl, cld, .cell (some (.ref C.cFloorJudge)), csl⟩) (cD : PySem.W.clsIn K C.cFloorJudge = some cdD)
    (sub : PySem.W.mroIn K C.cFloorJudge (.ref C.cFloorJudge) = some true) (sup : PySem.W.ks_superIn K C.cFloorJudge C.cFloorJudge "__init__" = some (some (.ref f2))) (ty : PySem.W.typeIn K (.ref f2) = some (.type "function")) (fi : PySem.W.fnIn K f2 = true) (st : PySem.W.nsIn K cStatics "thirdparty.any" = some none)
    (ms : PySem.W.nsIn K mainGlobals "super" = some none) (tp : (P.main.scope.names.lookup ("super" : Str)).isSome = false)
    (l2 : K.lookup f2 = some ⟨oc2, od2, .func (PySem.W.fnOf "__init__" "Judge.__init__" (defArgs s_Judge__init_) (defBody s_Judge__init_) (defScope s_Judge__init_) dV2 kV2 doc2 pm2 an2 cdv2 ct2), osl2⟩) (c2 : PySem.W.codeIn K cdv2 "Judge.__init__" = true)
    (b2 : Binds K (PySem.W.fnOf "__init__" "Judge.__init__" (defArgs s_Judge__init_) (defBody s_Judge__init_) (defScope s_Judge__init_) dV2 kV2 doc2 pm2 an2 cdv2 ct2) ["self", "forum", "top"] []) : JudgeAt P K mg C :=
  ⟨f, _, f2, _, ⟨⟨oc, ccl, cl, od, cdd, cld, .none, kV, doc, pm, an, cda, cc, ct, osl, ccs, csl, vs, file, tf, cdD, cdD, rfl, l, c, lc, v2, pf, lcc, cD, cD⟩, sub, sup, ty, fi, st, PySem.W.mg_none_of X G ms, tp⟩,
    Binds.all fun us hl => match us, hl with | [_, _, _, _], _ => rfl, ⟨oc2, od2, dV2, kV2, doc2, pm2, an2, cdv2, ct2, osl2, rfl, l2, c2⟩, b2, ⟨mk, a, i, kp⟩, hx⟩
end
theorem all_mk {l : PySem.W.OpenLaw} {w : World} {K : PySem.W.Frag} {h : Heap} {mg : Str → Option Value} {fa cf cs cr cj cp f0 : Addr} (KX : K.In h) (G : h.Ns mainGlobals mg) (hfa : mg "law" = some (.ref fa))
    {t_MOST_TOP t_MOST_ISSUES t_MOST_RULINGS t_LETTERS u_TOPS u_STEPS : Tok} {oc kV doc pm cdv ct : Value} {od an : Option Addr} {osl : Array (Option Value)}
    (af : PySem.W.nsIn K mainGlobals "Forum" = some (some (.ref cf)))
    (clf : Cls K cf)
    (as : PySem.W.nsIn K mainGlobals "Suit" = some (some (.ref cs)))
    (cls : Cls K cs)
    (ar : PySem.W.nsIn K mainGlobals "Rulings" = some (some (.ref cr)))
    (clr : Cls K cr)
    (aj : PySem.W.nsIn K mainGlobals "FloorJudge" = some (some (.ref cj)))
    (clj : Cls K cj)
    (ap : PySem.W.nsIn K mainGlobals "Panel" = some (some (.ref cp)))
    (clp : Cls K cp)
    (b_range : PySem.W.nsIn K mainGlobals "range" = some none)
    (b_len : PySem.W.nsIn K mainGlobals "len" = some none)
    (b_enumerate : PySem.W.nsIn K mainGlobals "enumerate" = some none)
    (b_zip : PySem.W.nsIn K mainGlobals "zip" = some none)
    (b_int : PySem.W.nsIn K mainGlobals "int" = some none)
    (b_abs : PySem.W.nsIn K mainGlobals "abs" = some none)
    (b_min : PySem.W.nsIn K mainGlobals "min" = some none)
    (b_max : PySem.W.nsIn K mainGlobals "max" = some none)
    (b_sum : PySem.W.nsIn K mainGlobals "sum" = some none)
    (b_tuple : PySem.W.nsIn K mainGlobals "tuple" = some none)
    (b_list : PySem.W.nsIn K mainGlobals "list" = some none)
    (b_any : PySem.W.nsIn K mainGlobals "any" = some none)
    (b_isinstance : PySem.W.nsIn K mainGlobals "isinstance" = some none)
    (b_str : PySem.W.nsIn K mainGlobals "str" = some none)
    (b_bool : PySem.W.nsIn K mainGlobals "bool" = some none)
    (b_iter : PySem.W.nsIn K mainGlobals "iter" = some none)
    (k_MOST_TOP : PySem.W.nsIn K mainGlobals "MOST_TOP" = some (some (.int 4 t_MOST_TOP)))
    (k_MOST_ISSUES : PySem.W.nsIn K mainGlobals "MOST_ISSUES" = some (some (.int 3 t_MOST_ISSUES)))
    (k_MOST_RULINGS : PySem.W.nsIn K mainGlobals "MOST_RULINGS" = some (some (.int 6 t_MOST_RULINGS)))
    (k_LETTERS : PySem.W.nsIn K mainGlobals "LETTERS" = some (some (.str "abcdefghijklmnopqrstuvwxyz" t_LETTERS)))
    (n_f_pro : PySem.W.findIn K (.ref cf) "pro" = some none)
    (n_f_con : PySem.W.findIn K (.ref cf) "con" = some none)
    (n_f_tops : PySem.W.findIn K (.ref cf) "tops" = some none)
    (n_f_limits : PySem.W.findIn K (.ref cf) "limits" = some none)
    (n_f_steps : PySem.W.findIn K (.ref cf) "steps" = some none)
    (n_f_cases : PySem.W.findIn K (.ref cf) "_cases" = some none)
    (n_f_numbers : PySem.W.findIn K (.ref cf) "_numbers" = some none)
    (n_s_forums : PySem.W.findIn K (.ref cs) "forums" = some none)
    (n_r_suit : PySem.W.findIn K (.ref cr) "suit" = some none)
    (n_r_rows : PySem.W.findIn K (.ref cr) "rows" = some none)
    (n_j_rows : PySem.W.findIn K (.ref cj) "rows" = some none)
    (n_j_forum : PySem.W.findIn K (.ref cj) "forum" = some none)
    (n_j_top : PySem.W.findIn K (.ref cj) "top" = some none)
    (n_p_suit : PySem.W.findIn K (.ref cp) "suit" = some none)
    (n_p_judges : PySem.W.findIn K (.ref cp) "judges" = some none)
    (o_TOPS : PySem.W.findIn K (.ref cf) "TOPS" = some (some (.int 3 u_TOPS))) (g_TOPS : PySem.W.specialIn K (.int 3 u_TOPS) "__get__" = some none)
    (o_STEPS : PySem.W.findIn K (.ref cf) "STEPS" = some (some (.int 5 u_STEPS))) (g_STEPS : PySem.W.specialIn K (.int 5 u_STEPS) "__get__" = some none)
    (f_at_least : FunAt K mg "at_least" s_at_least)
    (f__law_above : FunAt K mg "_law_above" s__law_above)
    (f_row_bounds : FunAt K mg "row_bounds" s_row_bounds)
    (f_issues_in_play : FunAt K mg "issues_in_play" s_issues_in_play)
    (f_with_pick : FunAt K mg "with_pick" s_with_pick)
    (f__law_picks_after : FunAt K mg "_law_picks_after" s__law_picks_after)
    (f__law_limits : FunAt K mg "_law_limits" s__law_limits)
    (f__law_is_choice : FunAt K mg "_law_is_choice" s__law_is_choice)
    (f__law_cell : FunAt K mg "_law_cell" s__law_cell)
    (f__law_case : FunAt K mg "_law_case" s__law_case)
    (f_all_cases : FunAt K mg "all_cases" s_all_cases)
    (f__law_cases : FunAt K mg "_law_cases" s__law_cases)
    (f__law_part_grade : FunAt K mg "_law_part_grade" s__law_part_grade)
    (f__law_entries_of : FunAt K mg "_law_entries_of" s__law_entries_of)
    (f__law_draws : FunAt K mg "_law_draws" s__law_draws)
    (f__law_decided : FunAt K mg "_law_decided" s__law_decided)
    (f__law_wons : FunAt K mg "_law_wons" s__law_wons)
    (f__law_parts : FunAt K mg "_law_parts" s__law_parts)
    (f__law_full_picks : FunAt K mg "_law_full_picks" s__law_full_picks)
    (f__law_known : FunAt K mg "_law_known" s__law_known)
    (f_known_quarrels : FunAt K mg "known_quarrels" s_known_quarrels)
    (f__law_odds : FunAt K mg "_law_odds" s__law_odds)
    (f__law_shuffled : FunAt K mg "_law_shuffled" s__law_shuffled)
    (f__law_issue : FunAt K mg "_law_issue" s__law_issue)
    (f__law_shapes : FunAt K mg "_law_shapes" s__law_shapes)
    (f__law_rulings : FunAt K mg "_law_rulings" s__law_rulings)
    (f__law_knot : FunAt K mg "_law_knot" s__law_knot)
    (f__law_drawn_suit : FunAt K mg "_law_drawn_suit" s__law_drawn_suit)
    (f_require_yes_no : FunAt K mg "require_yes_no" s_require_yes_no)
    (f_no_picks : FunAt K mg "no_picks" s_no_picks)
    (f_open_rows : FunAt K mg "open_rows" s_open_rows)
    (f_same_suit : FunAt K mg "same_suit" s_same_suit)
    (f_checked_rows : FunAt K mg "checked_rows" s_checked_rows)
    (f_known_parts : FunAt K mg "known_parts" s_known_parts)
    (f_distinct_letters : FunAt K mg "distinct_letters" s_distinct_letters)
    (f_panel_of : FunAt K mg "panel_of" s_panel_of)
    (f__law_same : FunAt K mg "_law_same" s__law_same)
    (f__law_least : FunAt K mg "_law_least" s__law_least)
    (f_all_picks : FunAt K mg "all_picks" s_all_picks)
    (f_first_picks : FunAt K mg "first_picks" s_first_picks)
    (f__law_apart : FunAt K mg "_law_apart" s__law_apart)
    (m_Rulings_choice_rows : Cls K cr → MethAt K cr "choice_rows" "Rulings.choice_rows" s_Rulings_choice_rows)
    (m_Forum__contains_ : Cls K cf → MethAt K cf "__contains__" "Forum.__contains__" s_Forum__contains_)
    (m_Suit__contains_ : Cls K cs → MethAt K cs "__contains__" "Suit.__contains__" s_Suit__contains_)
    (m_FloorJudge_grade_of : Cls K cj → MethAt K cj "grade_of" "FloorJudge.grade_of" s_FloorJudge_grade_of)
    (m_Panel_first_break : Cls K cp → MethAt K cp "first_break" "Panel.first_break" s_Panel_first_break)
    (m_Panel_keeps : Cls K cp → MethAt K cp "keeps" "Panel.keeps" s_Panel_keeps)
    (m_Judge_table : Cls K cj → MethAt K cj "table" "Judge.table" s_Judge_table)
    (p_Forum_text : Cls K cf → PropAt K cf "text" "Forum.text" s_Forum_text)
    (i_Suit__init_ : mg "Suit" = some (.ref cs) → InitAt K mg "Suit" cs "Suit.__init__" s_Suit__init_ ["self", "forums"])
    (i_Rulings__init_ : mg "Rulings" = some (.ref cr) → InitAt K mg "Rulings" cr "Rulings.__init__" s_Rulings__init_ ["self", "suit", "rows"])
    (i_Panel__init_ : mg "Panel" = some (.ref cp) → InitAt K mg "Panel" cp "Panel.__init__" s_Panel__init_ ["self", "suit", "judges"])
    (i_Forum__init_ : mg "Forum" = some (.ref cf) → InitAt K mg "Forum" cf "Forum.__init__" s_Forum__init_ ["self", "pro", "con", "tops"])
    (c_Panel__call_ : CallAt K cp "__call__" "Panel.__call__" s_Panel__call_)
    (it : IterAt K cf "Forum.__iter__" s_Forum_iter)
    (jd : mg "FloorJudge" = some (.ref cj) → JudgeAt l.prog K mg ⟨cf, cs, cr, cj, cp, 0⟩)
    (a0 : PySem.W.nsIn K mainGlobals "law" = some (some (.ref f0))) (l0 : K.lookup f0 = some ⟨oc, od, .func (PySem.W.fnOf "law" "law" (defArgs s_law) (defBody s_law) (defScope s_law) .none kV doc pm an cdv ct), osl⟩) (c0 : PySem.W.codeIn K cdv "law" = true) (k0 : PySem.W.keepIn K (.ref f0) = true) :
    ∃ fd : FuncData, (∀ (s : Shared) (v : Value), BindsTo s fd ⟨[v], []⟩ [("_law_script", v)]) ∧ ∀ base : Heap, K.In base → base.Ns mainGlobals mg → FnOk l.prog w K mg base CX0 13 fa fd ["_law_script"] (spD K W_law) := by
  have e := hfa.symm.trans (PySem.W.mg_of KX G a0)
  cases e
  have T : Tx mg := ⟨PySem.W.mg_none_of KX G b_range, PySem.W.mg_none_of KX G b_len, PySem.W.mg_none_of KX G b_enumerate, PySem.W.mg_none_of KX G b_zip, PySem.W.mg_none_of KX G b_int, PySem.W.mg_none_of KX G b_abs, PySem.W.mg_none_of KX G b_min, PySem.W.mg_none_of KX G b_max, PySem.W.mg_none_of KX G b_sum, PySem.W.mg_none_of KX G b_tuple, PySem.W.mg_none_of KX G b_list, PySem.W.mg_none_of KX G b_any, PySem.W.mg_none_of KX G b_isinstance, PySem.W.mg_none_of KX G b_str, PySem.W.mg_none_of KX G b_bool, PySem.W.mg_none_of KX G b_iter, ⟨_, PySem.W.mg_of KX G k_MOST_TOP, ⟨_, rfl⟩⟩, ⟨_, PySem.W.mg_of KX G k_MOST_ISSUES, ⟨_, rfl⟩⟩, ⟨_, PySem.W.mg_of KX G k_MOST_RULINGS, ⟨_, rfl⟩⟩, ⟨_, PySem.W.mg_of KX G k_LETTERS, ⟨_, rfl⟩⟩⟩
  have A : Txt l.prog K mg ⟨cf, cs, cr, cj, cp, 0⟩ := { T := T, O := ⟨clf, cls, clr, clj, clp, n_f_pro, n_f_con, n_f_tops, n_f_limits, n_f_steps, n_f_cases, n_f_numbers, n_s_forums, n_r_suit, n_r_rows, n_j_rows, n_j_forum, n_j_top, n_p_suit, n_p_judges, ⟨_, o_TOPS, ⟨_, rfl⟩, g_TOPS, by decide +kernel⟩, ⟨_, o_STEPS, ⟨_, rfl⟩, g_STEPS, by decide +kernel⟩⟩, judge := jd (PySem.W.mg_of KX G aj), iter := it, f_at_least := f_at_least, f__law_above := f__law_above, f_row_bounds := f_row_bounds, f_issues_in_play := f_issues_in_play, f_with_pick := f_with_pick, f__law_picks_after := f__law_picks_after, f__law_limits := f__law_limits, f__law_is_choice := f__law_is_choice, f__law_cell := f__law_cell, f__law_case := f__law_case, f_all_cases := f_all_cases, f__law_cases := f__law_cases, f__law_part_grade := f__law_part_grade, f__law_entries_of := f__law_entries_of, f__law_draws := f__law_draws, f__law_decided := f__law_decided, f__law_wons := f__law_wons, f__law_parts := f__law_parts, f__law_full_picks := f__law_full_picks, f__law_known := f__law_known, f_known_quarrels := f_known_quarrels, f__law_odds := f__law_odds, f__law_shuffled := f__law_shuffled, f__law_issue := f__law_issue, f__law_shapes := f__law_shapes, f__law_rulings := f__law_rulings, f__law_knot := f__law_knot, f__law_drawn_suit := f__law_drawn_suit, f_require_yes_no := f_require_yes_no, f_no_picks := f_no_picks, f_open_rows := f_open_rows, f_same_suit := f_same_suit, f_checked_rows := f_checked_rows, f_known_parts := f_known_parts, f_distinct_letters := f_distinct_letters, f_panel_of := f_panel_of, f__law_same := f__law_same, f__law_least := f__law_least, f_all_picks := f_all_picks, f_first_picks := f_first_picks, f__law_apart := f__law_apart, m_Rulings_choice_rows := m_Rulings_choice_rows clr, m_Forum__contains_ := m_Forum__contains_ clf, m_Suit__contains_ := m_Suit__contains_ cls, m_FloorJudge_grade_of := m_FloorJudge_grade_of clj, m_Panel_first_break := m_Panel_first_break clp, m_Panel_keeps := m_Panel_keeps clp, m_Judge_table := m_Judge_table clj, p_Forum_text := p_Forum_text clf, i_Suit__init_ := i_Suit__init_ (PySem.W.mg_of KX G as), i_Rulings__init_ := i_Rulings__init_ (PySem.W.mg_of KX G ar), i_Panel__init_ := i_Panel__init_ (PySem.W.mg_of KX G ap), i_Forum__init_ := i_Forum__init_ (PySem.W.mg_of KX G af), c_Panel__call_ := c_Panel__call_ }
  exact ⟨_, fun s v => .of_eq rfl, fun base _ _ => law_ok (fun_mk l0 c0 k0) A⟩
theorem walk {l : PySem.W.OpenLaw} {q : Program} {loose : List Str} {XP : (Str → Option Value) → Heap → Prop} {YP : World → Heap → Prop} {d : DefRec} {K : Params → PySem.W.Frag} (hn : l.most = some 63) (hdf : d.params.defaults = [])
    (hY : ∀ (w : World) (h : Heap), YP w h → (K w.params).In h)
    (F : ∀ (w : World) (mg : Str → Option Value) (fa : Addr) (h : Heap), (K w.params).In h → h.Ns mainGlobals mg → mg d.name = some (.ref fa) →
      ∃ fd : FuncData, (∀ (s : Shared) (u : Value), BindsTo s fd ⟨[u], []⟩ [("_law_script", u)]) ∧ ∀ base : Heap, (K w.params).In base → base.Ns mainGlobals mg → FnOk l.prog w (K w.params) mg base CX0 13 fa fd ["_law_script"] (spD (K w.params) W_law)) :
    PySem.W.WalkO q loose XP YP l.row.toRowW d [] (fun f vs => PySem.call f vs) := by
  refine L2.walk_of (n := 63) (k := 13) (x := "_law_script") (CX := fun _ => CX0) (sp := fun w => spD (K w.params) W_law) hn (by decide) hdf ⟨rfl, by decide, by decide⟩ hY F (fun w H a ns _ _ hS => ?_) fun _ _ _ _ _ z => z
  refine ⟨fun _ => false, [.scr ns], fun d => d = .bl true, fun _ z => (nomatch z), .one ?_, ⟨ns, rfl, rfl⟩, fun v H' d e _ r => ?_⟩
  · simp only [Rep]
    have eh : hid (fun _ => false) H = H := by
      funext b
      unfold hid
      rw [if_neg Bool.false_ne_true]
    exact ⟨a, rfl, by rw [eh]; exact hS⟩
  · subst e
    exact rep_bl_inv r
-- JN-END
end Sc
open PySem PySem.W PyProof.Rows
set_option maxRecDepth 100000 in
set_option maxHeartbeats 0 in
theorem PySem.Challenge.cw_settledcases_k49_whole_sound_picks_holds : PySem.Challenge.rw_settledcases_k49_whole_sound_picks.Holds := by
  w_on; o_law; k_head; (case hw => w_witness2)
  k_fill
  refine Sc.walk (l := PySem.Challenge.rw_settledcases_k49_whole_sound_picks) rfl rfl (fun w h Y => PySem.W.kIn_of Y) ?F
  case F =>
    intro w mg fa h KX G hmg
    refine' Sc.all_mk KX G hmg ?af ?clf ?as ?cls ?ar ?clr ?aj ?clj ?ap ?clp ?b_range ?b_len ?b_enumerate ?b_zip ?b_int ?b_abs ?b_min ?b_max ?b_sum ?b_tuple ?b_list ?b_any ?b_isinstance ?b_str ?b_bool ?b_iter ?k_MOST_TOP ?k_MOST_ISSUES ?k_MOST_RULINGS ?k_LETTERS ?n_f_pro ?n_f_con ?n_f_tops ?n_f_limits ?n_f_steps ?n_f_cases ?n_f_numbers ?n_s_forums ?n_r_suit ?n_r_rows ?n_j_rows ?n_j_forum ?n_j_top ?n_p_suit ?n_p_judges ?o_TOPS ?g_TOPS ?o_STEPS ?g_STEPS ?f_at_least ?f__law_above ?f_row_bounds ?f_issues_in_play ?f_with_pick ?f__law_picks_after ?f__law_limits ?f__law_is_choice ?f__law_cell ?f__law_case ?f_all_cases ?f__law_cases ?f__law_part_grade ?f__law_entries_of ?f__law_draws ?f__law_decided ?f__law_wons ?f__law_parts ?f__law_full_picks ?f__law_known ?f_known_quarrels ?f__law_odds ?f__law_shuffled ?f__law_issue ?f__law_shapes ?f__law_rulings ?f__law_knot ?f__law_drawn_suit ?f_require_yes_no ?f_no_picks ?f_open_rows ?f_same_suit ?f_checked_rows ?f_known_parts ?f_distinct_letters ?f_panel_of ?f__law_same ?f__law_least ?f_all_picks ?f_first_picks ?f__law_apart ?m_Rulings_choice_rows ?m_Forum__contains_ ?m_Suit__contains_ ?m_FloorJudge_grade_of ?m_Panel_first_break ?m_Panel_keeps ?m_Judge_table ?p_Forum_text ?i_Suit__init_ ?i_Rulings__init_ ?i_Panel__init_ ?i_Forum__init_ ?c_Panel__call_ ?it ?jd ?a0 ?l0 ?c0 ?k0
    (case af => k_is)
    (case clf => refine' ⟨?pg, ?hd, ?po, ?sa⟩; (case pg => k_is); (case hd => k_is); (case po => k_is); (case sa => k_is))
    (case as => k_is)
    (case cls => refine' ⟨?pg, ?hd, ?po, ?sa⟩; (case pg => k_is); (case hd => k_is); (case po => k_is); (case sa => k_is))
    (case ar => k_is)
    (case clr => refine' ⟨?pg, ?hd, ?po, ?sa⟩; (case pg => k_is); (case hd => k_is); (case po => k_is); (case sa => k_is))
    (case aj => k_is)
    (case clj => refine' ⟨?pg, ?hd, ?po, ?sa⟩; (case pg => k_is); (case hd => k_is); (case po => k_is); (case sa => k_is))
    (case ap => k_is)
    (case clp => refine' ⟨?pg, ?hd, ?po, ?sa⟩; (case pg => k_is); (case hd => k_is); (case po => k_is); (case sa => k_is))
    (case b_range => k_is)
    (case b_len => k_is)
    (case b_enumerate => k_is)
    (case b_zip => k_is)
    (case b_int => k_is)
    (case b_abs => k_is)
    (case b_min => k_is)
    (case b_max => k_is)
    (case b_sum => k_is)
    (case b_tuple => k_is)
    (case b_list => k_is)
    (case b_any => k_is)
    (case b_isinstance => k_is)
    (case b_str => k_is)
    (case b_bool => k_is)
    (case b_iter => k_is)
    (case k_MOST_TOP => k_is)
    (case k_MOST_ISSUES => k_is)
    (case k_MOST_RULINGS => k_is)
    (case k_LETTERS => k_is)
    (case n_f_pro => k_is)
    (case n_f_con => k_is)
    (case n_f_tops => k_is)
    (case n_f_limits => k_is)
    (case n_f_steps => k_is)
    (case n_f_cases => k_is)
    (case n_f_numbers => k_is)
    (case n_s_forums => k_is)
    (case n_r_suit => k_is)
    (case n_r_rows => k_is)
    (case n_j_rows => k_is)
    (case n_j_forum => k_is)
    (case n_j_top => k_is)
    (case n_p_suit => k_is)
    (case n_p_judges => k_is)
    (case o_TOPS => k_is)
    (case g_TOPS => k_is)
    (case o_STEPS => k_is)
    (case g_STEPS => k_is)
    (case f_at_least => refine' Sc.funAt_mk KX G ?a ?l ?c ?k; (case a => k_is); (case l => k_is); (case c => k_is); (case k => k_is))
    (case f__law_above => refine' Sc.funAt_mk KX G ?a ?l ?c ?k; (case a => k_is); (case l => k_is); (case c => k_is); (case k => k_is))
    (case f_row_bounds => refine' Sc.funAt_mk KX G ?a ?l ?c ?k; (case a => k_is); (case l => k_is); (case c => k_is); (case k => k_is))
    (case f_issues_in_play => refine' Sc.funAt_mk KX G ?a ?l ?c ?k; (case a => k_is); (case l => k_is); (case c => k_is); (case k => k_is))
    (case f_with_pick => refine' Sc.funAt_mk KX G ?a ?l ?c ?k; (case a => k_is); (case l => k_is); (case c => k_is); (case k => k_is))
    (case f__law_picks_after => refine' Sc.funAt_mk KX G ?a ?l ?c ?k; (case a => k_is); (case l => k_is); (case c => k_is); (case k => k_is))
    (case f__law_limits => refine' Sc.funAt_mk KX G ?a ?l ?c ?k; (case a => k_is); (case l => k_is); (case c => k_is); (case k => k_is))
    (case f__law_is_choice => refine' Sc.funAt_mk KX G ?a ?l ?c ?k; (case a => k_is); (case l => k_is); (case c => k_is); (case k => k_is))
    (case f__law_cell => refine' Sc.funAt_mk KX G ?a ?l ?c ?k; (case a => k_is); (case l => k_is); (case c => k_is); (case k => k_is))
    (case f__law_case => refine' Sc.funAt_mk KX G ?a ?l ?c ?k; (case a => k_is); (case l => k_is); (case c => k_is); (case k => k_is))
    (case f_all_cases => refine' Sc.funAt_mk KX G ?a ?l ?c ?k; (case a => k_is); (case l => k_is); (case c => k_is); (case k => k_is))
    (case f__law_cases => refine' Sc.funAt_mk KX G ?a ?l ?c ?k; (case a => k_is); (case l => k_is); (case c => k_is); (case k => k_is))
    (case f__law_part_grade => refine' Sc.funAt_mk KX G ?a ?l ?c ?k; (case a => k_is); (case l => k_is); (case c => k_is); (case k => k_is))
    (case f__law_entries_of => refine' Sc.funAt_mk KX G ?a ?l ?c ?k; (case a => k_is); (case l => k_is); (case c => k_is); (case k => k_is))
    (case f__law_draws => refine' Sc.funAt_mk KX G ?a ?l ?c ?k; (case a => k_is); (case l => k_is); (case c => k_is); (case k => k_is))
    (case f__law_decided => refine' Sc.funAt_mk KX G ?a ?l ?c ?k; (case a => k_is); (case l => k_is); (case c => k_is); (case k => k_is))
    (case f__law_wons => refine' Sc.funAt_mk KX G ?a ?l ?c ?k; (case a => k_is); (case l => k_is); (case c => k_is); (case k => k_is))
    (case f__law_parts => refine' Sc.funAt_mk KX G ?a ?l ?c ?k; (case a => k_is); (case l => k_is); (case c => k_is); (case k => k_is))
    (case f__law_full_picks => refine' Sc.funAt_mk KX G ?a ?l ?c ?k; (case a => k_is); (case l => k_is); (case c => k_is); (case k => k_is))
    (case f__law_known => refine' Sc.funAt_mk KX G ?a ?l ?c ?k; (case a => k_is); (case l => k_is); (case c => k_is); (case k => k_is))
    (case f_known_quarrels => refine' Sc.funAt_mk KX G ?a ?l ?c ?k; (case a => k_is); (case l => k_is); (case c => k_is); (case k => k_is))
    (case f__law_odds => refine' Sc.funAt_mk KX G ?a ?l ?c ?k; (case a => k_is); (case l => k_is); (case c => k_is); (case k => k_is))
    (case f__law_shuffled => refine' Sc.funAt_mk KX G ?a ?l ?c ?k; (case a => k_is); (case l => k_is); (case c => k_is); (case k => k_is))
    (case f__law_issue => refine' Sc.funAt_mk KX G ?a ?l ?c ?k; (case a => k_is); (case l => k_is); (case c => k_is); (case k => k_is))
    (case f__law_shapes => refine' Sc.funAt_mk KX G ?a ?l ?c ?k; (case a => k_is); (case l => k_is); (case c => k_is); (case k => k_is))
    (case f__law_rulings => refine' Sc.funAt_mk KX G ?a ?l ?c ?k; (case a => k_is); (case l => k_is); (case c => k_is); (case k => k_is))
    (case f__law_knot => refine' Sc.funAt_mk KX G ?a ?l ?c ?k; (case a => k_is); (case l => k_is); (case c => k_is); (case k => k_is))
    (case f__law_drawn_suit => refine' Sc.funAt_mk KX G ?a ?l ?c ?k; (case a => k_is); (case l => k_is); (case c => k_is); (case k => k_is))
    (case f_require_yes_no => refine' Sc.funAt_mk KX G ?a ?l ?c ?k; (case a => k_is); (case l => k_is); (case c => k_is); (case k => k_is))
    (case f_no_picks => refine' Sc.funAt_mk KX G ?a ?l ?c ?k; (case a => k_is); (case l => k_is); (case c => k_is); (case k => k_is))
    (case f_open_rows => refine' Sc.funAt_mk KX G ?a ?l ?c ?k; (case a => k_is); (case l => k_is); (case c => k_is); (case k => k_is))
    (case f_same_suit => refine' Sc.funAt_mk KX G ?a ?l ?c ?k; (case a => k_is); (case l => k_is); (case c => k_is); (case k => k_is))
    (case f_checked_rows => refine' Sc.funAt_mk KX G ?a ?l ?c ?k; (case a => k_is); (case l => k_is); (case c => k_is); (case k => k_is))
    (case f_known_parts => refine' Sc.funAt_mk KX G ?a ?l ?c ?k; (case a => k_is); (case l => k_is); (case c => k_is); (case k => k_is))
    (case f_distinct_letters => refine' Sc.funAt_mk KX G ?a ?l ?c ?k; (case a => k_is); (case l => k_is); (case c => k_is); (case k => k_is))
    (case f_panel_of => refine' Sc.funAt_mk KX G ?a ?l ?c ?k; (case a => k_is); (case l => k_is); (case c => k_is); (case k => k_is))
    (case f__law_same => refine' Sc.funAt_mk KX G ?a ?l ?c ?k; (case a => k_is); (case l => k_is); (case c => k_is); (case k => k_is))
    (case f__law_least => refine' Sc.funAt_mk KX G ?a ?l ?c ?k; (case a => k_is); (case l => k_is); (case c => k_is); (case k => k_is))
    (case f_all_picks => refine' Sc.funAt_mk KX G ?a ?l ?c ?k; (case a => k_is); (case l => k_is); (case c => k_is); (case k => k_is))
    (case f_first_picks => refine' Sc.funAt_mk KX G ?a ?l ?c ?k; (case a => k_is); (case l => k_is); (case c => k_is); (case k => k_is))
    (case f__law_apart => refine' Sc.funAt_mk KX G ?a ?l ?c ?k; (case a => k_is); (case l => k_is); (case c => k_is); (case k => k_is))
    (case m_Rulings_choice_rows => intro cl; refine' Sc.methAt_mk cl ?a ?i ?l ?c ?k; (case a => k_is); (case i => k_is); (case l => k_is); (case c => k_is); (case k => k_is))
    (case m_Forum__contains_ => intro cl; refine' Sc.methAt_mk cl ?a ?i ?l ?c ?k; (case a => k_is); (case i => k_is); (case l => k_is); (case c => k_is); (case k => k_is))
    (case m_Suit__contains_ => intro cl; refine' Sc.methAt_mk cl ?a ?i ?l ?c ?k; (case a => k_is); (case i => k_is); (case l => k_is); (case c => k_is); (case k => k_is))
    (case m_FloorJudge_grade_of => intro cl; refine' Sc.methAt_mk cl ?a ?i ?l ?c ?k; (case a => k_is); (case i => k_is); (case l => k_is); (case c => k_is); (case k => k_is))
    (case m_Panel_first_break => intro cl; refine' Sc.methAt_mk cl ?a ?i ?l ?c ?k; (case a => k_is); (case i => k_is); (case l => k_is); (case c => k_is); (case k => k_is))
    (case m_Panel_keeps => intro cl; refine' Sc.methAt_mk cl ?a ?i ?l ?c ?k; (case a => k_is); (case i => k_is); (case l => k_is); (case c => k_is); (case k => k_is))
    (case m_Judge_table => intro cl; refine' Sc.methAt_mk cl ?a ?i ?l ?c ?k; (case a => k_is); (case i => k_is); (case l => k_is); (case c => k_is); (case k => k_is))
    (case p_Forum_text => intro cl; refine' Sc.propAt_mk cl ?a ?g ?t ?r ?l ?c ?k; (case a => k_is); (case g => k_is); (case t => k_is); (case r => k_is); (case l => k_is); (case c => k_is); (case k => k_is))
    (case i_Suit__init_ => intro hx; refine' Sc.initAt_mk hx ?m ?a ?i ?kp ?l ?c ?b; (case m => k_is); (case a => k_is); (case i => k_is); (case kp => k_is); (case l => k_is); (case c => k_is); (case b => exact L2.Binds.all fun us hl => match us, hl with | [_, _], _ => rfl))
    (case i_Rulings__init_ => intro hx; refine' Sc.initAt_mk hx ?m ?a ?i ?kp ?l ?c ?b; (case m => k_is); (case a => k_is); (case i => k_is); (case kp => k_is); (case l => k_is); (case c => k_is); (case b => exact fun s us X hl => match us, hl with | [_, _, _], _ => binds_K X rfl (by k_is) rfl rfl rfl))
    (case i_Panel__init_ => intro hx; refine' Sc.initAt_mk hx ?m ?a ?i ?kp ?l ?c ?b; (case m => k_is); (case a => k_is); (case i => k_is); (case kp => k_is); (case l => k_is); (case c => k_is); (case b => exact L2.Binds.all fun us hl => match us, hl with | [_, _, _], _ => rfl))
    (case i_Forum__init_ => intro hx; refine' Sc.initAt_mk hx ?m ?a ?i ?kp ?l ?c ?b; (case m => k_is); (case a => k_is); (case i => k_is); (case kp => k_is); (case l => k_is); (case c => k_is); (case b => exact fun s us X hl => match us, hl with | [_, _, _, _], _ => binds_K X rfl (by k_is) rfl rfl rfl))
    (case c_Panel__call_ => refine' Sc.callAt_mk ?a ?i ?fi ?l ?c ?k; (case a => k_is); (case i => k_is); (case fi => k_is); (case l => k_is); (case c => k_is); (case k => k_is))
    (case it => refine' Sc.iterAt_mk ?a ?i ?l ?c ?k; (case a => k_is); (case i => k_is); (case l => k_is); (case c => k_is); (case k => k_is))
    (case jd => intro hx; refine' Sc.judgeAt_mk KX G hx ?mk ?a ?i ?kp ?l ?c ?lc ?v2 ?pf ?lcc ?cD ?sub ?sup ?ty ?fi ?st ?ms ?tp ?l2 ?c2 ?b2; (case mk => k_is); (case a => k_is); (case i => k_is); (case kp => k_is); (case l => k_is); (case c => k_is); (case lc => k_is); (case v2 => rfl); (case pf => rfl); (case lcc => k_is); (case cD => k_is); (case sub => k_is); (case sup => ks_is); (case ty => k_is); (case fi => k_is); (case st => k_is); (case ms => k_is); (case tp => rfl); (case l2 => k_is); (case c2 => k_is); (case b2 => exact fun s us X hl => match us, hl with | [_, _, _], _ => binds_K X rfl (by k_is) rfl rfl rfl))
    (case a0 => k_is)
    (case l0 => k_is)
    (case c0 => k_is)
    (case k0 => k_is)
#print axioms PySem.Challenge.cw_settledcases_k49_whole_sound_picks_holds
