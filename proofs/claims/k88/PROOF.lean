import PyProof.Rows.All
import Wide.All
import OpenK.AllK
import Wide.FinOn
import HandS.ForMost
import HandS.Walk
import HandS.TupAny
import HandS.TupLe
import HandS.Style
import HandS.Conv
import HandS.NoneIn
import HandS.ForExc
import HandS.Flow
import HandS.IsInst
import HandS.SortInts
import HandS.RaiseMore
import KE.DatumOrd
import HandS.Zip
import KE.DatumIndex
import HandS.ExcOwn
import HandS.ExcInit
import HandS.ExcField
import HandS.HotCalls
import KE.KExcIs
import PyProof.ReprRoads
import PyProof.CallFns
import HandS.SetFor
import HandS.TupSets
import PyProof.EnumMake
import KE.GoesMore
import HandS.WordsExc
import HandS.Head0
import HandS.Head1
import HandS.Head2
import HandS.HeadEnd
import HandS.HeadHook1
import HandS.HeadHook2
import HandS.More
import KE.KRevSl
import PySem.Challenge.RW_rightfulhands_k88_whole_swap_unblocked
section
set_option Elab.async false
set_option linter.all false
set_option maxRecDepth 100000
namespace Eng
open PySem L2

/-! ### plain data; data that is changed in place -/
inductive D where
  | non | bl (b : Bool) | int (i : Int) | str (z : Str)
  | tup (xs : List D) | lst (xs : List D)
  | dct (ks : List Key) (xs : List D)
  | obj (c : Nat) (xs : List D)
  | scr (ns : List Int)
  | exn (a d : Addr) (c : Nat) (xs : List D)

inductive M where
  | im (d : D)
  | ls (xs : List M)
  | dc (ks : List Key) (xs : List M)
  | ob (c : Nat) (xs : List M)

/-- what is fixed of the program: the written part, where the classes stand, their fields -/
structure Gs where
  K : PySem.W.Frag
  cls : Nat → Addr
  fld : Nat → List Str

/-- a tuple that has no dict -/
def SqN (K : PySem.W.Frag) (H : Hp) (a : Addr) (xs : List V) : Prop :=
  (∃ ob, H a = some (.frz ob (.tup xs)) ∧ ob.dict = none) ∨
    ∃ (o : Obj) (its : Array Value) (n : Nat), K.lookup a = some o ∧ o.cls = .type "tuple" ∧ o.data = .seq its n ∧ its.size ≤ sizeLine ∧ Vals xs its.toList ∧ o.dict = none
mutual
def Rv (g : Gs) (G : Hp) : D → V → Prop
  | .non, v => v = .non
  | .bl b, v => v = .bl b
  | .int i, v => v = .int i
  | .str z, v => v = .str z
  | .tup ds, v => ∃ a vs, v = .ref a ∧ SqN g.K G a vs ∧ Rvs g G ds vs
  | .lst ds, v => ∃ a vs, v = .ref a ∧ G a = some (.lst vs) ∧ Rvs g G ds vs
  | .scr ns, v => ∃ a, v = .ref a ∧ SqL g.K G a (ns.map V.int)
  | .dct ks ds, v => ∃ a vs, v = .ref a ∧ G a = some (.dK (ks.zip vs)) ∧ ks.length = vs.length ∧ Rvs g G ds vs
  | .obj c ds, v => ∃ a dx vs, v = .ref a ∧ G a = some (.ins (g.cls c) dx ((g.fld c).zip vs)) ∧ (g.fld c).length = vs.length ∧ Rvs g G ds vs
  | .exn a d c ds, v => v = .ref a ∧ ∃ vs, G d = some (.xd ((g.fld c).zip vs)) ∧ (g.fld c).length = vs.length ∧ Rvs g G ds vs
def Rvs (g : Gs) (G : Hp) : List D → List V → Prop
  | [], vs => vs = []
  | d :: ds, vs => ∃ v r, vs = v :: r ∧ Rv g G d v ∧ Rvs g G ds r
end

mutual
def Rm (g : Gs) (G H : Hp) : M → V → List Addr → Prop
  | .im d, v, F => Rv g G d v ∧ F = []
  | .ls ms, v, F => ∃ a vs F', v = .ref a ∧ G a = none ∧ H a = some (.lst vs) ∧ Rms g G H ms vs F' ∧ F = a :: F'
  | .dc ks ms, v, F => ∃ a vs F', v = .ref a ∧ G a = none ∧ H a = some (.dK (ks.zip vs)) ∧ ks.length = vs.length ∧ Rms g G H ms vs F' ∧ F = a :: F'
  | .ob c ms, v, F => ∃ a dx vs F', v = .ref a ∧ G a = none ∧ H a = some (.ins (g.cls c) dx ((g.fld c).zip vs)) ∧ (g.fld c).length = vs.length ∧ Rms g G H ms vs F' ∧ F = a :: F'
def Rms (g : Gs) (G H : Hp) : List M → List V → List Addr → Prop
  | [], vs, F => vs = [] ∧ F = []
  | m :: ms, vs, F => ∃ v r F1 F2, vs = v :: r ∧ Rm g G H m v F1 ∧ Rms g G H ms r F2 ∧ F = F1 ++ F2
end

mutual
def frz : M → D
  | .im d => d
  | .ls ms => .lst (frzs ms)
  | .dc ks ms => .dct ks (frzs ms)
  | .ob c ms => .obj c (frzs ms)
def frzs : List M → List D
  | [] => []
  | m :: ms => frz m :: frzs ms
end
theorem frzs_eq : ∀ ms, frzs ms = ms.map frz
  | [] => by simp [frzs]
  | m :: ms => by simp [frzs, frzs_eq ms]

/-! ### more is known -/
theorem sqN_same {K : PySem.W.Frag} {H H' : Hp} {a : Addr} {xs : List V} (e : Same H H') (h : SqN K H a xs) : SqN K H' a xs := by
  rcases h with ⟨o, h, d⟩ | h
  · exact .inl ⟨o, e _ _ h, d⟩
  · exact .inr h
theorem SqN.t {K : PySem.W.Frag} {H : Hp} {a : Addr} {xs : List V} (h : SqN K H a xs) : SqT K H a xs := by
  rcases h with ⟨o, h, d⟩ | ⟨o, its, n, h1, h2, h3, h4, h5, _⟩
  · exact .inl (.inr ⟨o, h⟩)
  · exact .inr ⟨o, its, n, h1, h2, h3, h4, h5⟩
theorem sqT_same {K : PySem.W.Frag} {H H' : Hp} {a : Addr} {xs : List V} (e : Same H H') (h : SqN K H a xs) : SqT K H' a xs := (sqN_same e h).t
section
variable {g : Gs} {G G' H H' : Hp}
mutual
theorem Rv.same (e : Same G G') : ∀ {d v}, Rv g G d v → Rv g G' d v
  | .non, _, h => h
  | .bl _, _, h => h
  | .int _, _, h => h
  | .str _, _, h => h
  | .tup ds, _, h => by
    simp only [Rv] at h ⊢
    obtain ⟨a, vs, h1, h2, h3⟩ := h
    exact ⟨a, vs, h1, sqN_same e h2, Rvs.same e h3⟩
  | .lst ds, _, h => by
    simp only [Rv] at h ⊢
    obtain ⟨a, vs, h1, h2, h3⟩ := h
    exact ⟨a, vs, h1, e _ _ h2, Rvs.same e h3⟩
  | .scr ns, _, h => by
    simp only [Rv] at h ⊢
    obtain ⟨a, h1, h2⟩ := h
    exact ⟨a, h1, e.seq h2⟩
  | .dct ks ds, _, h => by
    simp only [Rv] at h ⊢
    obtain ⟨a, vs, h1, h2, h4, h3⟩ := h
    exact ⟨a, vs, h1, e _ _ h2, h4, Rvs.same e h3⟩
  | .obj c ds, _, h => by
    simp only [Rv] at h ⊢
    obtain ⟨a, dx, vs, h1, h2, h4, h3⟩ := h
    exact ⟨a, dx, vs, h1, e _ _ h2, h4, Rvs.same e h3⟩
  | .exn a d c ds, _, h => by
    simp only [Rv] at h ⊢
    obtain ⟨h1, vs, h2, h4, h3⟩ := h
    exact ⟨h1, vs, e _ _ h2, h4, Rvs.same e h3⟩
theorem Rvs.same (e : Same G G') : ∀ {ds vs}, Rvs g G ds vs → Rvs g G' ds vs
  | [], _, h => h
  | d :: ds, _, h => by
    simp only [Rvs] at h ⊢
    obtain ⟨v, r, h1, h2, h3⟩ := h
    exact ⟨v, r, h1, Rv.same e h2, Rvs.same e h3⟩
end

/-- the changed part is as it was, the frozen part may have grown elsewhere -/
structure Kept (G G' H H' : Hp) (F : List Addr) : Prop where
  s : Same G G'
  n : ∀ a ∈ F, G a = none → G' a = none
  h : ∀ a ∈ F, H' a = H a
theorem Kept.sub {F F' : List Addr} (k : Kept G G' H H' F) (s : ∀ a ∈ F', a ∈ F) : Kept G G' H H' F' :=
  ⟨k.s, fun a h => k.n a (s a h), fun a h => k.h a (s a h)⟩
mutual
theorem Rm.kept : ∀ {m v F}, Kept G G' H H' F → Rm g G H m v F → Rm g G' H' m v F
  | .im d, _, _, k, h => by
    simp only [Rm] at h ⊢
    exact ⟨Rv.same k.s h.1, h.2⟩
  | .ls ms, _, _, k, h => by
    simp only [Rm] at h ⊢
    obtain ⟨a, vs, F', h1, h2, h3, h4, rfl⟩ := h
    exact ⟨a, vs, F', h1, k.n a (by simp) h2, (k.h a (by simp)).trans h3, Rms.kept (k.sub fun b hb => by simp [hb]) h4, rfl⟩
  | .dc ks ms, _, _, k, h => by
    simp only [Rm] at h ⊢
    obtain ⟨a, vs, F', h1, h2, h3, h5, h4, rfl⟩ := h
    exact ⟨a, vs, F', h1, k.n a (by simp) h2, (k.h a (by simp)).trans h3, h5, Rms.kept (k.sub fun b hb => by simp [hb]) h4, rfl⟩
  | .ob c ms, _, _, k, h => by
    simp only [Rm] at h ⊢
    obtain ⟨a, dx, vs, F', h1, h2, h3, h5, h4, rfl⟩ := h
    exact ⟨a, dx, vs, F', h1, k.n a (by simp) h2, (k.h a (by simp)).trans h3, h5, Rms.kept (k.sub fun b hb => by simp [hb]) h4, rfl⟩
theorem Rms.kept : ∀ {ms vs F}, Kept G G' H H' F → Rms g G H ms vs F → Rms g G' H' ms vs F
  | [], _, _, _, h => h
  | m :: ms, _, _, k, h => by
    simp only [Rms] at h ⊢
    obtain ⟨v, r, F1, F2, h1, h2, h3, rfl⟩ := h
    exact ⟨v, r, F1, F2, h1, Rm.kept (k.sub fun b hb => by simp [hb]) h2, Rms.kept (k.sub fun b hb => by simp [hb]) h3, rfl⟩
end
mutual
theorem Rm.nn : ∀ {m v F}, Rm g G H m v F → ∀ a ∈ F, G a = none ∧ H a ≠ none
  | .im d, _, _, h => by
    simp only [Rm] at h
    rw [h.2]; simp
  | .ls ms, _, _, h => by
    simp only [Rm] at h
    obtain ⟨a, vs, F', h1, h2, h3, h4, rfl⟩ := h
    intro b hb
    rcases List.mem_cons.mp hb with rfl | hb
    · exact ⟨h2, by rw [h3]; simp⟩
    · exact Rms.nn h4 b hb
  | .dc ks ms, _, _, h => by
    simp only [Rm] at h
    obtain ⟨a, vs, F', h1, h2, h3, h5, h4, rfl⟩ := h
    intro b hb
    rcases List.mem_cons.mp hb with rfl | hb
    · exact ⟨h2, by rw [h3]; simp⟩
    · exact Rms.nn h4 b hb
  | .ob c ms, _, _, h => by
    simp only [Rm] at h
    obtain ⟨a, dx, vs, F', h1, h2, h3, h5, h4, rfl⟩ := h
    intro b hb
    rcases List.mem_cons.mp hb with rfl | hb
    · exact ⟨h2, by rw [h3]; simp⟩
    · exact Rms.nn h4 b hb
theorem Rms.nn : ∀ {ms vs F}, Rms g G H ms vs F → ∀ a ∈ F, G a = none ∧ H a ≠ none
  | [], _, _, h => by
    simp only [Rms] at h
    rw [h.2]; simp
  | m :: ms, _, _, h => by
    simp only [Rms] at h
    obtain ⟨v, r, F1, F2, h1, h2, h3, rfl⟩ := h
    intro b hb
    rcases List.mem_append.mp hb with hb | hb
    · exact Rm.nn h2 b hb
    · exact Rms.nn h3 b hb
end
/-- the objects at F are no longer changed -/
def frzH (G H : Hp) (F : List Addr) : Hp := fun a => if a ∈ F then H a else G a
theorem frzH_same {F : List Addr} (n : ∀ a ∈ F, G a = none) : Same G (frzH G H F) := fun b o h => by
  unfold frzH
  by_cases hb : b ∈ F
  · rw [n b hb] at h; cases h
  · rw [if_neg hb]; exact h
theorem frzH_in {F : List Addr} (s : Same G H) : Same (frzH G H F) H := fun b o h => by
  unfold frzH at h
  by_cases hb : b ∈ F
  · rw [if_pos hb] at h; exact h
  · rw [if_neg hb] at h; exact s b o h
mutual
/-- frozen, at any frozen part that has taken the objects at F -/
theorem Rm.frz : ∀ {m v F}, Rm g G H m v F → Same G G' → (∀ a ∈ F, G' a = H a) → Rv g G' (frz m) v
  | .im d, _, _, h, s, _ => by
    simp only [Rm] at h
    simp only [Eng.frz]
    exact Rv.same s h.1
  | .ls ms, _, _, h, s, k => by
    simp only [Rm] at h
    obtain ⟨a, vs, F', h1, h2, h3, h4, rfl⟩ := h
    simp only [Eng.frz, Rv]
    exact ⟨a, vs, h1, ((k a (by simp)).trans h3), Rms.frz h4 s fun b hb => k b (by simp [hb])⟩
  | .dc ks ms, _, _, h, s, k => by
    simp only [Rm] at h
    obtain ⟨a, vs, F', h1, h2, h3, h5, h4, rfl⟩ := h
    simp only [Eng.frz, Rv]
    exact ⟨a, vs, h1, (k a (by simp)).trans h3, h5, Rms.frz h4 s fun b hb => k b (by simp [hb])⟩
  | .ob c ms, _, _, h, s, k => by
    simp only [Rm] at h
    obtain ⟨a, dx, vs, F', h1, h2, h3, h5, h4, rfl⟩ := h
    simp only [Eng.frz, Rv]
    exact ⟨a, dx, vs, h1, (k a (by simp)).trans h3, h5, Rms.frz h4 s fun b hb => k b (by simp [hb])⟩
theorem Rms.frz : ∀ {ms vs F}, Rms g G H ms vs F → Same G G' → (∀ a ∈ F, G' a = H a) → Rvs g G' (frzs ms) vs
  | [], _, _, h, s, _ => by
    simp only [Rms] at h
    simp only [Eng.frzs, Rvs]
    exact h.1
  | m :: ms, _, _, h, s, k => by
    simp only [Rms] at h
    obtain ⟨v, r, F1, F2, h1, h2, h3, rfl⟩ := h
    simp only [Eng.frzs, Rvs]
    exact ⟨v, r, h1, Rm.frz h2 s fun b hb => k b (by simp [hb]), Rms.frz h3 s fun b hb => k b (by simp [hb])⟩
end
end

/-! ### the slots -/
abbrev Env := List (Option M)
def RmS (g : Gs) (G H : Hp) : Env → St → List Addr → Prop
  | [], σ, F => σ = [] ∧ F = []
  | none :: e, σ, F => ∃ o r, σ = o :: r ∧ RmS g G H e r F
  | some m :: e, σ, F => ∃ v r F1 F2, σ = some v :: r ∧ Rm g G H m v F1 ∧ RmS g G H e r F2 ∧ F = F1 ++ F2
section
variable {g : Gs} {G G' H H' : Hp}
theorem RmS.kept : ∀ {env : Env} {σ F}, Kept G G' H H' F → RmS g G H env σ F → RmS g G' H' env σ F
  | [], _, _, _, h => h
  | none :: e, _, _, k, h => by
    simp only [RmS] at h ⊢
    obtain ⟨o, r, h1, h2⟩ := h
    exact ⟨o, r, h1, RmS.kept k h2⟩
  | some m :: e, _, _, k, h => by
    simp only [RmS] at h ⊢
    obtain ⟨v, r, F1, F2, h1, h2, h3, rfl⟩ := h
    exact ⟨v, r, F1, F2, h1, h2.kept (k.sub fun b hb => by simp [hb]), RmS.kept (k.sub fun b hb => by simp [hb]) h3, rfl⟩
theorem RmS.nn : ∀ {env : Env} {σ F}, RmS g G H env σ F → ∀ a ∈ F, G a = none ∧ H a ≠ none
  | [], _, _, h => by
    simp only [RmS] at h
    rw [h.2]; simp
  | none :: e, _, _, h => by
    simp only [RmS] at h
    obtain ⟨o, r, h1, h2⟩ := h
    exact RmS.nn h2
  | some m :: e, _, _, h => by
    simp only [RmS] at h
    obtain ⟨v, r, F1, F2, h1, h2, h3, rfl⟩ := h
    intro b hb
    rcases List.mem_append.mp hb with hb | hb
    · exact h2.nn b hb
    · exact RmS.nn h3 b hb
theorem RmS.length : ∀ {env : Env} {σ F}, RmS g G H env σ F → σ.length = env.length
  | [], _, _, h => by
    simp only [RmS] at h
    rw [h.1]; rfl
  | none :: e, _, _, h => by
    simp only [RmS] at h
    obtain ⟨o, r, rfl, h2⟩ := h
    simp [RmS.length h2]
  | some m :: e, _, _, h => by
    simp only [RmS] at h
    obtain ⟨v, r, F1, F2, rfl, h2, h3, rfl⟩ := h
    simp [RmS.length h3]
/-- the slot i taken out -/
theorem RmS.at : ∀ {env : Env} {σ F} (i : Nat) {m : M}, RmS g G H env σ F → env[i]? = some (some m) →
    ∃ v Fa F1 Fb, σ[i]? = some (some v) ∧ F = Fa ++ F1 ++ Fb ∧ Rm g G H m v F1 ∧
      (∀ G' H', Kept G G' H H' (Fa ++ Fb) → RmS g G' H' (env.set i none) σ (Fa ++ Fb) ∧ (∀ o, RmS g G' H' (env.set i none) (σ.set i o) (Fa ++ Fb)) ∧
        ∀ m' v' F1', Rm g G' H' m' v' F1' → RmS g G' H' (env.set i (some m')) (σ.set i (some v')) (Fa ++ F1' ++ Fb))
  | [], _, _, i, _, _, e => by simp at e
  | none :: en, _, _, 0, _, _, e => by simp at e
  | none :: en, _, _, i + 1, m, h, e => by
    simp only [RmS] at h
    obtain ⟨o, r, rfl, h2⟩ := h
    obtain ⟨v, Fa, F1, Fb, e1, e2, e3, e4⟩ := RmS.at i h2 (by simpa using e)
    refine ⟨v, Fa, F1, Fb, by simpa using e1, e2, e3, fun G' H' k => ?_⟩
    obtain ⟨q1, q2, q3⟩ := e4 G' H' k
    refine ⟨?_, fun o' => ?_, fun m' v' F1' hm => ?_⟩
    · simp only [List.set_cons_succ, RmS]; exact ⟨o, r, rfl, q1⟩
    · simp only [List.set_cons_succ, RmS]; exact ⟨o, _, rfl, q2 o'⟩
    · simp only [List.set_cons_succ, RmS]; exact ⟨o, _, rfl, q3 m' v' F1' hm⟩
  | some m0 :: en, _, _, 0, m, h, e => by
    simp only [RmS] at h
    obtain ⟨v, r, F1, F2, rfl, h2, h3, rfl⟩ := h
    have e' : m0 = m := by simpa using e
    subst e'
    refine ⟨v, [], F1, F2, by simp, by simp, h2, fun G' H' k => ⟨?_, fun o => ?_, fun m' v' F1' hm => ?_⟩⟩
    · simp only [List.set_cons_zero, RmS]; exact ⟨_, r, rfl, h3.kept (by simpa using k)⟩
    · simp only [List.set_cons_zero, RmS]; exact ⟨o, r, rfl, h3.kept (by simpa using k)⟩
    · simp only [List.set_cons_zero, RmS]; exact ⟨v', r, F1', F2, rfl, hm, h3.kept (by simpa using k), by simp⟩
  | some m0 :: en, _, _, i + 1, m, h, e => by
    simp only [RmS] at h
    obtain ⟨v0, r, F0, F2, rfl, h2, h3, rfl⟩ := h
    obtain ⟨v, Fa, F1, Fb, e1, rfl, e3, e4⟩ := RmS.at i h3 (by simpa using e)
    refine ⟨v, F0 ++ Fa, F1, Fb, by simpa using e1, by simp, e3, fun G' H' k => ?_⟩
    obtain ⟨q1, q2, q3⟩ := e4 G' H' (k.sub fun b hb => by simp at hb ⊢; rcases hb with h | h <;> simp [h])
    have k0 : Kept G G' H H' F0 := k.sub fun b hb => by simp [hb]
    refine ⟨?_, fun o' => ?_, fun m' v' F1' hm => ?_⟩
    · simp only [List.set_cons_succ, RmS]; exact ⟨v0, r, F0, _, rfl, h2.kept k0, q1, by simp⟩
    · simp only [List.set_cons_succ, RmS]; exact ⟨v0, _, F0, _, rfl, h2.kept k0, q2 o', by simp⟩
    · simp only [List.set_cons_succ, RmS]; exact ⟨v0, _, F0, _, rfl, h2.kept k0, q3 m' v' F1' hm, by simp⟩
/-- a slot that holds nothing takes something -/
theorem RmS.put : ∀ {env : Env} {σ F} (i : Nat) {m' : M} {v' : V} {F1' : List Addr}, RmS g G H env σ F → env[i]? = some none → Rm g G H m' v' F1' →
    ∃ Fa Fb, F = Fa ++ Fb ∧ RmS g G H (env.set i (some m')) (σ.set i (some v')) (Fa ++ F1' ++ Fb)
  | [], _, _, i, _, _, _, _, e, _ => by simp at e
  | none :: en, _, _, 0, m', v', F1', h, _, hm => by
    simp only [RmS] at h
    obtain ⟨o, r, rfl, h2⟩ := h
    refine ⟨[], _, rfl, ?_⟩
    simp only [List.set_cons_zero, RmS]
    exact ⟨v', r, F1', _, rfl, hm, h2, by simp⟩
  | none :: en, _, _, i + 1, m', v', F1', h, e, hm => by
    simp only [RmS] at h
    obtain ⟨o, r, rfl, h2⟩ := h
    obtain ⟨Fa, Fb, e1, e2⟩ := RmS.put i h2 (by simpa using e) hm
    refine ⟨Fa, Fb, e1, ?_⟩
    simp only [List.set_cons_succ, RmS]
    exact ⟨o, _, rfl, e2⟩
  | some m0 :: en, _, _, 0, _, _, _, _, e, _ => by simp at e
  | some m0 :: en, _, _, i + 1, m', v', F1', h, e, hm => by
    simp only [RmS] at h
    obtain ⟨v0, r, F0, F2, rfl, h2, h3, rfl⟩ := h
    obtain ⟨Fa, Fb, rfl, e2⟩ := RmS.put i h3 (by simpa using e) hm
    refine ⟨F0 ++ Fa, Fb, by simp, ?_⟩
    simp only [List.set_cons_succ, RmS]
    exact ⟨v0, _, F0, _, rfl, h2, e2, by simp⟩
end
end Eng
end
section
set_option Elab.async false
set_option linter.all false
set_option maxRecDepth 100000
namespace Eng
open PySem L2

/-! ### what an evaluation gives -/
inductive Rs (α : Type) where
  | bad
  | exc (c : Nat) (fs : List D) (env : Env)
  | ok (a : α)
namespace Rs
def bind {α β : Type} : Rs α → (α → Rs β) → Rs β
  | .bad, _ => .bad
  | .exc c fs env, _ => .exc c fs env
  | .ok a, k => k a
instance : Monad Rs where
  pure := .ok
  bind := Rs.bind
@[simp] theorem bind_ok {α β : Type} (a : α) (k : α → Rs β) : ((Rs.ok a) >>= k) = k a := rfl
@[simp] theorem bind_bad {α β : Type} (k : α → Rs β) : ((Rs.bad : Rs α) >>= k) = .bad := rfl
@[simp] theorem bind_exc {α β : Type} (c fs env) (k : α → Rs β) : ((Rs.exc c fs env : Rs α) >>= k) = .exc c fs env := rfl
@[simp] theorem pure_ok {α : Type} (a : α) : (pure a : Rs α) = .ok a := rfl
def of {α : Type} : Option α → Rs α
  | none => .bad
  | some a => .ok a
@[simp] theorem of_some {α : Type} (a : α) : of (some a) = .ok a := rfl
@[simp] theorem of_none {α : Type} : of (none : Option α) = .bad := rfl
def when {α : Type} (c : Prop) [Decidable c] (r : Rs α) : Rs α := if c then r else .bad
end Rs

/-! ### where a run stands. B: what may not change; G0: the frozen part at the entry -/
structure Stt (g : Gs) (B G0 G H : Hp) (σ : St) (env : Env) : Prop where
  s1 : Same G H
  s2 : Same B H
  s3 : ∀ a, B a ≠ none → G a ≠ none → G0 a ≠ none
  s4 : ∃ F, RmS g G H env σ F ∧ F.Nodup ∧ ∀ a ∈ F, B a = none
section
variable {g : Gs} {B G0 G G' H H' : Hp} {σ : St} {env : Env} {p : Addr} {o : HO} {v : V} {m : M} {d : D}
theorem same_new (h : H p = none) : Same H (upd H p o) := fun b u e => by
  rw [upd_ne (ne_of_none e h)]; exact e
theorem same_upd (s : Same G H) (h : G p = none) : Same G (upd H p o) := fun b u e => by
  rw [upd_ne (ne_of_none e h)]; exact s b u e
theorem same_upd2 (s : Same G H) (h : H p = none) : Same (upd G p o) (upd H p o) := fun b u e => by
  by_cases hb : b = p
  · subst hb; rw [upd_same] at e ⊢; exact e
  · rw [upd_ne hb] at e ⊢; exact s b u e
theorem ne_dom {F : List Addr} (k : ∀ a ∈ F, G a = none ∧ H a ≠ none) (h : H p = none) : ∀ a ∈ F, a ≠ p := fun a ha e => by
  subst e; exact (k a ha).2 h
/-- a new object that is never changed -/
theorem Stt.new (S : Stt g B G0 G H σ env) (h : H p = none) : Stt g B G0 (upd G p o) (upd H p o) σ env := by
  obtain ⟨F, r, nd, fb⟩ := S.s4
  have ne := ne_dom r.nn h
  refine ⟨same_upd2 S.s1 h, same_upd S.s2 (S.s2.free h), fun a hb hg => ?_, F, r.kept ⟨same_new (S.s1.free h), fun a ha hn => ?_, fun a ha => ?_⟩, nd, fb⟩
  · by_cases ha : a = p
    · subst ha; exact absurd (S.s2.free h) hb
    · rw [upd_ne ha] at hg; exact S.s3 a hb hg
  · rw [upd_ne (ne a ha)]; exact hn
  · rw [upd_ne (ne a ha)]
theorem Stt.new_same (S : Stt g B G0 G H σ env) (h : H p = none) : Same G (upd G p o) := same_new (S.s1.free h)
/-- another new object -/
theorem Stt.heap (S : Stt g B G0 G H σ env) (h : H p = none) : Stt g B G0 G (upd H p o) σ env := by
  obtain ⟨F, r, nd, fb⟩ := S.s4
  have ne := ne_dom r.nn h
  exact ⟨same_upd S.s1 (S.s1.free h), same_upd S.s2 (S.s2.free h), S.s3, F, r.kept ⟨Same.refl _, fun _ _ h => h, fun a ha => by rw [upd_ne (ne a ha)]⟩, nd, fb⟩
theorem Stt.len (S : Stt g B G0 G H σ env) : σ.length = env.length := let ⟨_, r, _, _⟩ := S.s4; r.length
/-- a value that is never changed, ahead -/
theorem Stt.cons (S : Stt g B G0 G H σ env) (h : Rv g G d v) : Stt g B G0 G H (some v :: σ) (some (.im d) :: env) := by
  obtain ⟨F, r, nd, fb⟩ := S.s4
  refine ⟨S.s1, S.s2, S.s3, F, ?_, nd, fb⟩
  simp only [RmS, Rm]
  exact ⟨v, σ, [], F, rfl, ⟨h, rfl⟩, r, rfl⟩
theorem Stt.head (S : Stt g B G0 G H (some v :: σ) (some m :: env)) : ∃ F1, Rm g G H m v F1 := by
  obtain ⟨F, r, nd, fb⟩ := S.s4
  simp only [RmS] at r
  obtain ⟨v', r', F1, F2, e, h2, h3, rfl⟩ := r
  cases e
  exact ⟨F1, h2⟩
theorem Stt.head_im {σ : St} (S : Stt g B G0 G H (some v :: σ) (some (.im d) :: env)) : Rv g G d v := by
  obtain ⟨F1, h⟩ := S.head
  simp only [Rm] at h
  exact h.1
theorem Stt.tail {o : Option V} {om : Option M} (S : Stt g B G0 G H (o :: σ) (om :: env)) : Stt g B G0 G H σ env := by
  obtain ⟨F, r, nd, fb⟩ := S.s4
  cases om with
  | none =>
    simp only [RmS] at r
    obtain ⟨o', r', e, h⟩ := r
    cases e
    exact ⟨S.s1, S.s2, S.s3, F, h, nd, fb⟩
  | some m =>
    simp only [RmS] at r
    obtain ⟨v', r', F1, F2, e, h2, h3, rfl⟩ := r
    cases e
    exact ⟨S.s1, S.s2, S.s3, F2, h3, (List.nodup_append.mp nd).2.1, fun a ha => fb a (by simp [ha])⟩
/-- the general change of one slot -/
theorem Stt.at (S : Stt g B G0 G H σ env) {i : Nat} (e : env[i]? = some (some m)) :
    ∃ v F1, σ[i]? = some (some v) ∧ Rm g G H m v F1 ∧ F1.Nodup ∧ (∀ a ∈ F1, B a = none) ∧
      ∀ G' H' m' v' F1', Same G G' → Same G' H' → (∀ a, a ∉ F1 → H a ≠ none → H' a = H a) → (∀ a, G' a ≠ none → G a ≠ none ∨ H a = none ∨ a ∈ F1) →
        Rm g G' H' m' v' F1' → F1'.Nodup → (∀ a ∈ F1', a ∈ F1 ∨ H a = none) → Stt g B G0 G' H' (σ.set i (some v')) (env.set i (some m')) := by
  obtain ⟨F, r, nd, fb⟩ := S.s4
  obtain ⟨v, Fa, F1, Fb, e1, rfl, e3, e4⟩ := RmS.at i r e
  have nd1 : F1.Nodup := (List.nodup_append.mp (List.nodup_append.mp nd).1).2.1
  have nr := r.nn
  refine ⟨v, F1, e1, e3, nd1, fun a ha => fb a (by simp [ha]), fun G' H' m' v' F1' k1 k2 k3 k4 k5 k6 k7 => ?_⟩
  have out : ∀ a ∈ Fa ++ Fb, a ∉ F1 := fun a ha h1 => by
    rcases List.mem_append.mp ha with h | h
    · exact (List.nodup_append.mp (List.nodup_append.mp nd).1).2.2 a h a h1 rfl
    · exact (List.nodup_append.mp nd).2.2 a (by simp [h1]) a h rfl
  have inF : ∀ a ∈ Fa ++ Fb, a ∈ Fa ++ F1 ++ Fb := fun a ha => by
    rcases List.mem_append.mp ha with h | h <;> simp [h]
  have kp : Kept G G' H H' (Fa ++ Fb) := ⟨k1, fun a ha hn => by
      cases q : G' a with
      | none => rfl
      | some u =>
        rcases k4 a (by rw [q]; simp) with h | h | h
        · exact absurd hn h
        · exact absurd h (nr a (inF a ha)).2
        · exact absurd h (out a ha), fun a ha => k3 a (out a ha) (nr a (inF a ha)).2⟩
  refine ⟨k2, fun b u hb => ?_, fun a hb hg => ?_, Fa ++ F1' ++ Fb, (e4 G' H' kp).2.2 m' v' F1' k5, ?_, fun a ha => ?_⟩
  · have hb' := S.s2 b u hb
    rw [k3 b (fun h => by rw [fb b (by simp [h])] at hb; cases hb) (by rw [hb']; simp)]; exact hb'
  · rcases k4 a hg with h | h | h
    · exact S.s3 a hb h
    · exact absurd (S.s2.free h) hb
    · exact absurd (fb a (by simp [h])) hb
  · have fresh : ∀ a ∈ F1', a ∉ Fa ++ Fb := fun a ha h => by
      rcases k7 a ha with h1 | h1
      · exact out a h h1
      · exact (nr a (inF a h)).2 h1
    have nda : Fa.Nodup := (List.nodup_append.mp (List.nodup_append.mp nd).1).1
    have ndb : Fb.Nodup := (List.nodup_append.mp nd).2.1
    refine List.nodup_append.mpr ⟨List.nodup_append.mpr ⟨nda, k6, fun a ha b hb e => ?_⟩, ndb, fun a ha b hb e => ?_⟩
    · subst e; exact fresh a hb (by simp [ha])
    · subst e
      rcases List.mem_append.mp ha with h | h
      · exact (List.nodup_append.mp nd).2.2 a (by simp [h]) a hb rfl
      · exact fresh a h (by simp [hb])
  · have ha' : a ∈ Fa ∨ a ∈ F1' ∨ a ∈ Fb := by
      rcases List.mem_append.mp ha with h | h
      · rcases List.mem_append.mp h with h | h
        · exact .inl h
        · exact .inr (.inl h)
      · exact .inr (.inr h)
    rcases ha' with h | h | h
    · exact fb a (by simp [h])
    · rcases k7 a h with h1 | h1
      · exact fb a (by simp [h1])
      · exact S.s2.free h1
    · exact fb a (by simp [h])
theorem set_eq {α : Type} {l : List α} {i : Nat} {x : α} (h : l[i]? = some x) : l.set i x = l := by
  apply List.ext_getElem?
  intro j
  by_cases hj : i = j
  · subst hj
    have : i < l.length := (List.getElem?_eq_some_iff.mp h).1
    rw [List.getElem?_set_self this, h]
  · rw [List.getElem?_set_ne hj]
/-- the slot i is frozen -/
theorem Stt.frzAt (S : Stt g B G0 G H σ env) {i : Nat} (e : env[i]? = some (some m)) :
    ∃ v G', σ[i]? = some (some v) ∧ Same G G' ∧ Rv g G' (frz m) v ∧ Stt g B G0 G' H σ (env.set i (some (.im (frz m)))) := by
  obtain ⟨v, F1, e1, e3, nd1, fb, k⟩ := S.at e
  have nn := e3.nn
  have sm := frzH_same (H := H) fun a ha => (nn a ha).1
  have q : Rv g (frzH G H F1) (frz m) v := e3.frz sm fun a ha => by unfold frzH; rw [if_pos ha]
  refine ⟨v, frzH G H F1, e1, sm, q, ?_⟩
  have := k (frzH G H F1) H (.im (frz m)) v [] sm (frzH_in S.s1) (fun _ _ _ => rfl) (fun a h => ?_) (by simp [Rm, q]) (by simp) (by simp)
  · rw [set_eq e1] at this; exact this
  · unfold frzH at h
    by_cases ha : a ∈ F1
    · exact .inr (.inr ha)
    · rw [if_neg ha] at h; exact .inl h
theorem Stt.frz0 (S : Stt g B G0 G H (some v :: σ) (some m :: env)) : ∃ G', Same G G' ∧ Rv g G' (frz m) v ∧ Stt g B G0 G' H σ env := by
  obtain ⟨v', G', e1, sm, q, k⟩ := S.frzAt (i := 0) (m := m) (by simp)
  simp at e1
  subst e1
  exact ⟨G', sm, q, Stt.tail (by simpa using k)⟩
/-- the slot i is emptied, its value stands ahead -/
theorem Stt.take (S : Stt g B G0 G H σ env) {i : Nat} (e : env[i]? = some (some m)) :
    ∃ v, σ[i]? = some (some v) ∧ Stt g B G0 G H (some v :: σ) (some m :: env.set i none) := by
  obtain ⟨F, r, nd, fb⟩ := S.s4
  obtain ⟨v, Fa, F1, Fb, e1, rfl, e3, e4⟩ := RmS.at i r e
  obtain ⟨q, _, _⟩ := e4 G H ⟨Same.refl _, fun _ _ h => h, fun _ _ => rfl⟩
  refine ⟨v, e1, S.s1, S.s2, S.s3, F1 ++ (Fa ++ Fb), ?_, ?_, fun a ha => fb a (by simp at ha ⊢; rcases ha with h | h | h <;> simp [h])⟩
  · simp only [RmS]; exact ⟨v, σ, F1, _, rfl, e3, q, rfl⟩
  · have hp : (Fa ++ F1 ++ Fb).Perm (F1 ++ (Fa ++ Fb)) := by
      rw [List.append_assoc]
      exact (List.perm_append_comm_assoc Fa F1 Fb)
    exact hp.nodup_iff.mp nd
/-- a slot is forgotten -/
theorem Stt.drop (S : Stt g B G0 G H σ env) (i : Nat) (o : Option V) : Stt g B G0 G H (σ.set i o) (env.set i none) := by
  obtain ⟨F, r, nd, fb⟩ := S.s4
  have hl := r.length
  by_cases hi : i < env.length
  · cases e : env[i]? with
    | none => rw [List.getElem?_eq_none_iff] at e; omega
    | some om =>
      cases om with
      | none =>
        have aux : ∀ {env : Env} {σ : St} {F} (i : Nat), RmS g G H env σ F → env[i]? = some none → RmS g G H (env.set i none) (σ.set i o) F := by
          intro env
          induction env with
          | nil => intro σ F i _ e; simp at e
          | cons x en ih =>
            intro σ F i h e
            cases x with
            | none =>
              simp only [RmS] at h
              obtain ⟨o', r, rfl, h2⟩ := h
              cases i with
              | zero => simp only [List.set_cons_zero, RmS]; exact ⟨o, r, rfl, h2⟩
              | succ i => simp only [List.set_cons_succ, RmS]; exact ⟨o', _, rfl, ih i h2 (by simpa using e)⟩
            | some m0 =>
              simp only [RmS] at h
              obtain ⟨v0, r, F0, F2, rfl, h2, h3, rfl⟩ := h
              cases i with
              | zero => simp at e
              | succ i => simp only [List.set_cons_succ, RmS]; exact ⟨v0, _, F0, F2, rfl, h2, ih i h3 (by simpa using e), rfl⟩
        exact ⟨S.s1, S.s2, S.s3, F, aux i r e, nd, fb⟩
      | some m =>
        obtain ⟨v, Fa, F1, Fb, e1, rfl, e3, e4⟩ := RmS.at i r e
        obtain ⟨_, q, _⟩ := e4 G H ⟨Same.refl _, fun _ _ h => h, fun _ _ => rfl⟩
        refine ⟨S.s1, S.s2, S.s3, Fa ++ Fb, q o, ?_, fun a ha => fb a (by simp at ha ⊢; rcases ha with h | h <;> simp [h])⟩
        rw [List.append_assoc] at nd
        have := List.nodup_append.mp nd
        refine List.nodup_append.mpr ⟨this.1, (List.nodup_append.mp this.2.1).2.1, fun a ha b hb e => this.2.2 a ha b (by simp [hb]) e⟩
  · rw [List.set_eq_of_length_le (by omega), List.set_eq_of_length_le (by omega)]
    exact S
/-- what stands ahead goes into the slot i -/
theorem Stt.put (S : Stt g B G0 G H (some v :: σ) (some m :: env)) (i : Nat) (hi : i < env.length) : Stt g B G0 G H (σ.set i (some v)) (env.set i (some m)) := by
  have S2 : Stt g B G0 G H (some v :: σ.set i none) (some m :: env.set i none) := by simpa using S.drop (i + 1) none
  obtain ⟨F, r, nd, fb⟩ := S2.s4
  simp only [RmS] at r
  obtain ⟨v', r', F1, F2, e, h2, h3, rfl⟩ := r
  cases e
  obtain ⟨Fa, Fb, rfl, q⟩ := RmS.put i h3 (by rw [List.getElem?_set_self hi]) h2
  simp only [List.set_set] at q
  refine ⟨S2.s1, S2.s2, S2.s3, _, q, ?_, fun a ha => fb a (by simp at ha ⊢; rcases ha with h | h | h <;> simp [h])⟩
  have hp : (F1 ++ (Fa ++ Fb)).Perm (Fa ++ F1 ++ Fb) := by
    rw [List.append_assoc]
    exact (List.perm_append_comm_assoc F1 Fa Fb)
  exact hp.nodup_iff.mp nd
/-- two that stand ahead change places -/
theorem Stt.swap {v' : V} {m' : M} (S : Stt g B G0 G H (some v :: some v' :: σ) (some m :: some m' :: env)) : Stt g B G0 G H (some v' :: some v :: σ) (some m' :: some m :: env) := by
  obtain ⟨F, r, nd, fb⟩ := S.s4
  simp only [RmS] at r
  obtain ⟨v1, r', F1, F2, e, h2, ⟨v2, r2, F3, F4, e2, h4, h5, rfl⟩, rfl⟩ := r
  cases e; cases e2
  refine ⟨S.s1, S.s2, S.s3, F3 ++ (F1 ++ F4), ?_, ?_, fun a ha => fb a (by simp at ha ⊢; rcases ha with h | h | h <;> simp [h])⟩
  · simp only [RmS]; exact ⟨_, _, F3, _, rfl, h4, ⟨_, _, F1, F4, rfl, h2, h5, rfl⟩, rfl⟩
  · exact (List.perm_append_comm_assoc F1 F3 F4).nodup_iff.mp nd
end

/-! ### data read where it stands -/
def ims : List M → Option (List D)
  | [] => some []
  | .im d :: ms => (ims ms).map (d :: ·)
  | _ :: _ => none
/-- the value, where nothing in it but itself may change -/
def flat : M → Option D
  | .im d => some d
  | .ls ms => (ims ms).map .lst
  | .dc ks ms => (ims ms).map (.dct ks)
  | .ob c ms => (ims ms).map (.obj c)
theorem ims_rv {g : Gs} {G H : Hp} : ∀ {ms : List M} {ds vs F}, ims ms = some ds → Rms g G H ms vs F → Rvs g G ds vs ∧ F = []
  | [], ds, vs, F, e, h => by
    simp only [ims, Option.some.injEq] at e
    subst e
    simp only [Rms] at h
    simp only [Rvs]
    exact h
  | .im d :: ms, ds, vs, F, e, h => by
    simp only [ims, Option.map_eq_some_iff] at e
    obtain ⟨ds', e1, rfl⟩ := e
    simp only [Rms, Rm] at h
    obtain ⟨v, r, F1, F2, rfl, ⟨h2, rfl⟩, h3, rfl⟩ := h
    obtain ⟨q1, rfl⟩ := ims_rv e1 h3
    simp only [Rvs]
    exact ⟨⟨v, r, rfl, h2, q1⟩, by simp⟩
  | .ls _ :: _, _, _, _, e, _ => by simp [ims] at e
  | .dc _ _ :: _, _, _, _, e, _ => by simp [ims] at e
  | .ob _ _ :: _, _, _, _, e, _ => by simp [ims] at e
/-- a value read where it stands: itself in H, what it holds in G -/
def Vw (g : Gs) (G H : Hp) : D → V → Prop
  | .lst ds, v => ∃ a vs, v = .ref a ∧ H a = some (.lst vs) ∧ Rvs g G ds vs
  | .dct ks ds, v => ∃ a vs, v = .ref a ∧ H a = some (.dK (ks.zip vs)) ∧ ks.length = vs.length ∧ Rvs g G ds vs
  | .obj c ds, v => ∃ a dx vs, v = .ref a ∧ H a = some (.ins (g.cls c) dx ((g.fld c).zip vs)) ∧ (g.fld c).length = vs.length ∧ Rvs g G ds vs
  | d, v => Rv g G d v
theorem Rv.vw {g : Gs} {G H : Hp} (s : Same G H) : ∀ {d : D} {v : V}, Rv g G d v → Vw g G H d v
  | .lst ds, v, h => by
    simp only [Rv] at h
    obtain ⟨a, vs, h1, h2, h3⟩ := h
    exact ⟨a, vs, h1, s _ _ h2, h3⟩
  | .dct ks ds, v, h => by
    simp only [Rv] at h
    obtain ⟨a, vs, h1, h2, h4, h3⟩ := h
    exact ⟨a, vs, h1, s _ _ h2, h4, h3⟩
  | .obj c ds, v, h => by
    simp only [Rv] at h
    obtain ⟨a, dx, vs, h1, h2, h4, h3⟩ := h
    exact ⟨a, dx, vs, h1, s _ _ h2, h4, h3⟩
  | .non, v, h => h
  | .bl _, v, h => h
  | .int _, v, h => h
  | .str _, v, h => h
  | .tup _, v, h => h
  | .scr _, v, h => h
  | .exn _ _ _ _, v, h => h
theorem Rm.view {g : Gs} {G H : Hp} {m : M} {d : D} {v : V} {F : List Addr} (s : Same G H) (e : flat m = some d) (h : Rm g G H m v F) : Vw g G H d v := by
  cases m with
  | im d' =>
    simp only [flat, Option.some.injEq] at e
    subst e
    simp only [Rm] at h
    exact h.1.vw s
  | ls ms =>
    simp only [flat, Option.map_eq_some_iff] at e
    obtain ⟨ds, e1, rfl⟩ := e
    simp only [Rm] at h
    obtain ⟨a, vs, F', h1, h2, h3, h4, rfl⟩ := h
    obtain ⟨q, _⟩ := ims_rv e1 h4
    exact ⟨a, vs, h1, h3, q⟩
  | dc ks ms =>
    simp only [flat, Option.map_eq_some_iff] at e
    obtain ⟨ds, e1, rfl⟩ := e
    simp only [Rm] at h
    obtain ⟨a, vs, F', h1, h2, h3, h5, h4, rfl⟩ := h
    obtain ⟨q, _⟩ := ims_rv e1 h4
    exact ⟨a, vs, h1, h3, h5, q⟩
  | ob c ms =>
    simp only [flat, Option.map_eq_some_iff] at e
    obtain ⟨ds, e1, rfl⟩ := e
    simp only [Rm] at h
    obtain ⟨a, dx, vs, F', h1, h2, h3, h5, h4, rfl⟩ := h
    obtain ⟨q, _⟩ := ims_rv e1 h4
    exact ⟨a, dx, vs, h1, h3, h5, q⟩
end Eng
end
section
set_option Elab.async false
set_option linter.all false
set_option maxRecDepth 100000
namespace Eng
open PySem L2
open PyProof.Rows hiding St

/-! ### new tuples -/
section
variable {X : Cx} {pins : List (Addr × Obj)} {σ : St} {H : Hp} {s : Shared} {Q : VK}
theorem new_tup {us : List Value} {vs : List V} {tk : Nat} (I : Inv X pins σ H s) (r : Vals vs us) (hz : vs.length ≤ sizeLine) (q : ∀ p ob, ob.dict = none → H p = none → Q (.ref p) (upd H p (.frz ob (.tup vs)))) :
    EP X pins σ Q (.ref s.heap.objs.size) { s with heap := s.heap.push { cls := .type "tuple", data := .seq us.toArray }, toks := tk } := by
  refine ⟨.ref s.heap.objs.size, _, I.laid (t' := tk) (o := .frz { cls := .type "tuple", data := .seq us.toArray } (.tup vs)) (fun b ob q => Heap.get?_push_of_some _ q) (Nat.le_refl _) ?_, rfl, q _ _ rfl (I.hok.fresh (Nat.le_refl _))⟩
  exact ⟨Heap.get?_push_size _ rfl, hz, us, r, IsTup.new _ _⟩
/-- t + u -/
def rCatF (K : PySem.W.Frag) : R2 := fun x y H Q => ∃ a b xs ys, x = .ref a ∧ y = .ref b ∧ SqT K H a xs ∧ SqT K H b ys ∧ xs.length + ys.length ≤ sizeLine ∧
  (xs = [] → Q (.ref b) H) ∧ (xs ≠ [] → ys = [] → Q (.ref a) H) ∧ (xs ≠ [] → ys ≠ [] → ∀ p ob, ob.dict = none → H p = none → Q (.ref p) (upd H p (.frz ob (.tup (xs ++ ys)))))
theorem op_catF : OpR X (binaryOp .Add) (rCatF X.K) := by
  intro pins s σ H x y v u Q I rx ry ⟨a, b, xs, ys, ea, eb, ha, hb, hz, q0, q1, q2⟩
  subst ea; subst eb
  by_cases hx : xs = []
  · exact op_catA pins s σ H _ _ v u Q I rx ry ⟨a, b, xs, ys, rfl, rfl, ha, hb, hz, q0, fun z => absurd hx z, fun z => absurd hx z⟩
  · cases rx
    cases ry
    obtain ⟨us, r1, p1, _⟩ := I.tuple ha
    obtain ⟨ws, r2, p2, _⟩ := I.tuple hb
    refine HT.cat_tup p1 p2 (fun z => hx (r1.nil_iff.mp z)) (fun z => ⟨.ref a, H, I, rfl, q1 hx (r2.nil_iff.mp z)⟩) (fun z => ?_) (by rw [← r1.length, ← r2.length]; exact hz)
    exact new_tup I (r1.append r2) (by rw [List.length_append]; exact hz) (q2 hx fun w => z (r2.nil_iff.mpr w))
/-- t[lo:hi] -/
def rSlF (K : PySem.W.Frag) : V → Option Int → Option Int → Hp → VK → Prop := fun x lo hi H Q => ∃ a xs, x = .ref a ∧ SqT K H a xs ∧
  (HT.sIx xs.length 0 lo = 0 ∧ HT.sIx xs.length xs.length hi = xs.length → Q (.ref a) H) ∧ (¬ (HT.sIx xs.length 0 lo = 0 ∧ HT.sIx xs.length xs.length hi = xs.length) → ∀ p ob, ob.dict = none → H p = none → Q (.ref p) (upd H p (.frz ob (.tup (cutV xs lo hi)))))
theorem sl_tupF : SlR X (rSlF X.K) := by
  intro pins s σ H x v vl vu lo hi sl Q I rx hs pl pu ⟨a, xs, ea, hx, q1, q2⟩
  subst ea
  by_cases hw : HT.sIx xs.length 0 lo = 0 ∧ HT.sIx xs.length xs.length hi = xs.length
  · exact sl_tupA pins s σ H _ v vl vu lo hi sl Q I rx hs pl pu ⟨a, xs, rfl, hx, q1, fun z => absurd hw z⟩
  · cases rx
    obtain ⟨us, r, ht, hz⟩ := I.tuple hx
    have el : us.toArray.size = xs.length := by rw [List.size_toArray]; exact r.length.symm
    refine ⟨"tuple", _, PyProof.Rows.slot_tuple_getitem.lookup, IsTup.typeIs ht, HT.getItem_tuple_cut ht hs pl pu (by rw [el]; exact hw) ?_ (by rw [el]; exact hz)⟩
    rw [el]
    exact new_tup I ((r.drop (HT.sIx xs.length 0 lo)).take (HT.sIx xs.length xs.length hi - HT.sIx xs.length 0 lo)) (Nat.le_trans (cutV_length xs lo hi) hz) (q2 hw)
/-- tuple(xs) -/
theorem call_tupleF : CallR X (.type "tuple") (fun xs H Q => ∃ p ys, xs = [.ref p] ∧ ((SqL X.K H p ys ∧ ∀ l ob, ob.dict = none → H l = none → Q (.ref l) (upd H l (.frz ob (.tup ys)))) ∨ (SqT X.K H p ys ∧ Q (.ref p) H))) := by
  intro pins s σ H xs us Q I r ⟨p, ys, ex, h⟩
  subst ex
  rcases h with ⟨hq, q⟩ | ⟨hq, q⟩
  · obtain ⟨u, rfl, rx⟩ := vals1 r
    cases rx
    obtain ⟨ws, r', pl, hz⟩ := I.list hq
    have el := r'.length
    refine call_tuple_list pl.isList (fun h' kp => ?_) (by simp only [List.size_toArray] <;> omega)
    exact new_tup (s := { s with heap := h' }) (tk := s.toks) (I.kept (t' := s.toks) kp) r' hz q
  · exact call_tuple_of pins s σ H _ us Q I r ⟨p, ys, rfl, .inr ⟨hq, q⟩⟩
/-- (e, ..) -/
def tTupF (t : TA) : TE := fun σ H Q => t σ H fun xs H1 => xs.length ≤ sizeLine ∧ ∀ p ob, ob.dict = none → H1 p = none → Q (.ref p) (upd H1 p (.frz ob (.tup xs)))
theorem pe_tupF {es : List Expr} {t : TA} {pos : Pos} {x1} (h : PA X es t) : PE X (.Tuple es x1 pos) (tTupF t) := by
  refine ⟨fun pins s σ H Q I hq => wpAny_Tuple_spliced (thn (h.run pos pins s σ H _ I hq) fun us s1 ⟨xs, H1, I1, r, z, q⟩ => ⟨by rw [← r.length]; exact z, ?_⟩)⟩
  exact new_tup (tk := s1.toks) I1 r z q
/-- tuple(range(..)) -/
def tTupRgF (te : St → Hp → (Int → Int → Hp → Prop) → Prop) : TE := fun σ H Q => te σ H fun a b H1 => RgOk a b ∧ ∀ q ob, ob.dict = none → H1 q = none → Q (.ref q) (upd H1 q (.frz ob (.tup (rgV a b))))
theorem pe_tupRgF {e : Expr} {te : St → Hp → (Int → Int → Hp → Prop) → Prop} {p pos : Pos} (hc : X.calm = true) (hg : Gl X "tuple") (hm : X.mg "tuple" = none) (he : PRg X e te) (na : starEach [e] X.env = (false, eval e X.env) :: starEach [] X.env) : PE X (.Call (.Name "tuple" p) [e] [] pos) (tTupRgF te) := by
  refine ⟨fun pins s σ H Q I h => ?_⟩
  refine Call_ (ld_blt I hg hm boot_tuple (PyProof.Rows.callWith_type1 (PyProof.Rows.args_cons (thn (he pins s σ H _ I h) fun x s1 ⟨r, a, b, t, u, v, H1, ex, hr, I1, ok, q⟩ => PyProof.Rows.args_nil ?_) na) na))
  subst ex
  obtain ⟨b1, b2, b3, b4, b5⟩ := ok
  refine call_tuple_range (n := (b - a).toNat) (I1.ok.hd hc) hr (small_one b1 b2 b3 b4) (rangeSize_nat a b) b5 fun h' tk acc hk hi => ?_
  have z : (rgV a b).length ≤ sizeLine := by rw [rgV_length, sizeLine_eq]; omega
  have n := new_tup (s := { s1 with heap := h', toks := tk }) (tk := tk) (I1.kept hk) (vals_rg hi) z q
  rw [Array.toArray_toList] at n
  exact n
end
/-! ### how a result is taken up -/
def Cont (g : Gs) (B G0 G : Hp) (σ : St) (env : Env) (m : M) (Q : VK) : Prop :=
  ∀ v G' H', Same G G' → Stt g B G0 G' H' (some v :: σ) (some m :: env) → Q v H'
section
variable {g : Gs} {B G0 G H : Hp} {σ : St} {env : Env} {d : D} {v : V} {Q : VK}
theorem Cont.val (k : Cont g B G0 G σ env (.im d) Q) (S : Stt g B G0 G H σ env) (h : Rv g G d v) : Q v H := k v G H (Same.refl _) (S.cons h)
theorem Cont.tup {ds : List D} {vs : List V} (k : Cont g B G0 G σ env (.im (.tup ds)) Q) (S : Stt g B G0 G H σ env) (h : Rvs g G ds vs) : ∀ p ob, ob.dict = none → H p = none → Q (.ref p) (upd H p (.frz ob (.tup vs))) := fun p ob hd hp =>
  k _ _ _ (S.new_same hp) ((S.new hp).cons (by simp only [Rv]; exact ⟨p, vs, rfl, .inl ⟨ob, upd_same, hd⟩, h.same (S.new_same hp)⟩))
theorem rms_im {H : Hp} : ∀ {ds : List D} {vs : List V}, Rvs g G ds vs → Rms g G H (ds.map .im) vs []
  | [], vs, h => by simp only [Rvs] at h; simp only [List.map_nil, Rms]; exact ⟨h, trivial⟩
  | d :: ds, vs, h => by
    simp only [Rvs] at h
    obtain ⟨v, r, rfl, h1, h2⟩ := h
    simp only [List.map_cons, Rms, Rm]
    exact ⟨v, r, [], [], rfl, ⟨h1, rfl⟩, rms_im h2, rfl⟩
/-- a new object that may be changed, ahead -/
theorem Stt.consM {m : M} {p : Addr} {o : HO} (S : Stt g B G0 G H σ env) (hp : H p = none) (h : Rm g G (upd H p o) m (.ref p) [p]) : Stt g B G0 G (upd H p o) (some (.ref p) :: σ) (some m :: env) := by
  have S' := S.heap (o := o) hp
  obtain ⟨F, r, nd, fb⟩ := S'.s4
  obtain ⟨F0, r0, nd0, fb0⟩ := S.s4
  -- the footprint of the slots as it was ahead
  have ne := ne_dom r0.nn hp
  have r1 : RmS g G (upd H p o) env σ F0 := r0.kept ⟨Same.refl _, fun _ _ h => h, fun a ha => by rw [upd_ne (ne a ha)]⟩
  refine ⟨S'.s1, S'.s2, S'.s3, p :: F0, ?_, ?_, fun a ha => ?_⟩
  · simp only [RmS]; exact ⟨_, σ, [p], F0, rfl, h, r1, rfl⟩
  · exact List.nodup_cons.mpr ⟨fun hm => ne p hm rfl, nd0⟩
  · rcases List.mem_cons.mp ha with rfl | ha
    · exact S.s2.free hp
    · exact fb0 a ha
theorem Cont.lst {ds : List D} {vs : List V} (k : Cont g B G0 G σ env (.ls (ds.map .im)) Q) (S : Stt g B G0 G H σ env) (h : Rvs g G ds vs) : ∀ p, H p = none → Q (.ref p) (upd H p (.lst vs)) := fun p hp =>
  k _ _ _ (Same.refl _) (S.consM hp (by simp only [Rm]; exact ⟨p, vs, [], rfl, S.s1.free hp, upd_same, rms_im h, rfl⟩))
end
/-! ### lists of values -/
section
variable {g : Gs} {G : Hp}
theorem Rvs.length : ∀ {ds : List D} {vs : List V}, Rvs g G ds vs → vs.length = ds.length
  | [], _, h => by simp only [Rvs] at h; rw [h]; rfl
  | d :: ds, _, h => by
    simp only [Rvs] at h
    obtain ⟨v, r, rfl, h1, h2⟩ := h
    simp [h2.length]
theorem Rvs.append : ∀ {ds es : List D} {vs ws : List V}, Rvs g G ds vs → Rvs g G es ws → Rvs g G (ds ++ es) (vs ++ ws)
  | [], _, _, _, h, k => by simp only [Rvs] at h; subst h; exact k
  | d :: ds, _, _, _, h, k => by
    simp only [Rvs] at h
    obtain ⟨v, r, rfl, h1, h2⟩ := h
    simp only [List.cons_append, Rvs]
    exact ⟨v, _, rfl, h1, h2.append k⟩
theorem Rvs.drop : ∀ (n : Nat) {ds : List D} {vs : List V}, Rvs g G ds vs → Rvs g G (ds.drop n) (vs.drop n)
  | 0, _, _, h => by simpa using h
  | n + 1, [], _, h => by simp only [Rvs] at h; subst h; simp [Rvs]
  | n + 1, d :: ds, _, h => by
    simp only [Rvs] at h
    obtain ⟨v, r, rfl, h1, h2⟩ := h
    simpa using h2.drop n
theorem Rvs.take : ∀ (n : Nat) {ds : List D} {vs : List V}, Rvs g G ds vs → Rvs g G (ds.take n) (vs.take n)
  | 0, _, _, h => by simp [Rvs]
  | n + 1, [], _, h => by simp only [Rvs] at h; subst h; simp [Rvs]
  | n + 1, d :: ds, _, h => by
    simp only [Rvs] at h
    obtain ⟨v, r, rfl, h1, h2⟩ := h
    simp only [List.take_succ_cons, Rvs]
    exact ⟨v, _, rfl, h1, h2.take n⟩
theorem Rvs.get : ∀ {ds : List D} {vs : List V} {i : Nat} {d : D}, Rvs g G ds vs → ds[i]? = some d → ∃ v, vs[i]? = some v ∧ Rv g G d v
  | [], _, _, _, _, e => by simp at e
  | d :: ds, _, 0, _, h, e => by
    simp only [Rvs] at h
    obtain ⟨v, r, rfl, h1, h2⟩ := h
    simp at e; subst e
    exact ⟨v, by simp, h1⟩
  | d :: ds, _, i + 1, _, h, e => by
    simp only [Rvs] at h
    obtain ⟨v, r, rfl, h1, h2⟩ := h
    obtain ⟨w, e1, e2⟩ := Rvs.get (i := i) h2 (by simpa using e)
    exact ⟨w, by simpa using e1, e2⟩
theorem Rvs.flat : ∀ {ds : List D} {vs : List V} (n : Nat), Rvs g G ds vs → Rvs g G (List.replicate n ds).flatten (List.replicate n vs).flatten
  | _, _, 0, _ => by simp [Rvs]
  | _, _, n + 1, h => by
    simp only [List.replicate_succ, List.flatten_cons]
    exact h.append (h.flat n)
end
def cutD (xs : List D) (lo hi : Option Int) : List D := (xs.drop (HT.sIx xs.length 0 lo)).take (HT.sIx xs.length xs.length hi - HT.sIx xs.length 0 lo)
theorem Rvs.cut {g : Gs} {G : Hp} {ds : List D} {vs : List V} (h : Rvs g G ds vs) (lo hi : Option Int) : Rvs g G (cutD ds lo hi) (cutV vs lo hi) := by
  unfold cutD cutV
  rw [h.length]
  exact (h.drop _).take _
theorem Rvs.at {g : Gs} {G : Hp} {ds : List D} {vs : List V} {i : Int} {d : D} (h : Rvs g G ds vs) (e : atI ds i = some d) : ∃ v, atI vs i = some v ∧ Rv g G d v := by
  unfold atI at e ⊢
  rw [h.length]
  cases q : ixN ds.length i with
  | none => rw [q] at e; cases e
  | some j =>
    rw [q] at e
    exact h.get e

/-! ### two-place operations -/
def OpS (X : Cx) (g : Gs) (f : Value → Value → Sem Value) (op : D → D → Option M) : Prop :=
  ∀ (pins : List (Addr × Obj)) (s : Shared) (σ : St) (H B G0 G : Hp) (env : Env) (dx dy : D) (m : M) (x y : V) (v u : Value) (Q : VK), Inv X pins σ H s → Stt g B G0 G H σ env → RelV x v → RelV y u →
    Vw g G H dx x → Vw g G H dy y → op dx dy = some m → Cont g B G0 G σ env m Q → wpAny (model X.prog X.w) X.A (f v u) (EP X pins σ Q) X.xe s
def ints2 (k : Int → Int → Option M) : D → D → Option M
  | .int i, .int j => k i j
  | _, _ => none
section
variable {X : Cx} {g : Gs}
theorem ops_int {f : Value → Value → Sem Value} {C : Int → Int → Prop} [∀ i j, Decidable (C i j)] {h : Int → Int → D} {hv : Int → Int → V} (hh : ∀ g G i j, Rv g G (h i j) (hv i j)) (o : OpR X f (rI C hv)) :
    OpS X g f (ints2 fun i j => if C i j then some (.im (h i j)) else none) := by
  intro pins s σ H B G0 G env dx dy m x y v u Q I S rx ry vx vy e k
  cases dx with
  | int i =>
    cases dy with
    | int j =>
      simp only [ints2] at e
      split at e
      · rename_i hc
        cases e
        simp only [Vw, Rv] at vx vy
        subst vx; subst vy
        exact o pins s σ H _ _ v u Q I rx ry ⟨i, j, rfl, rfl, hc, k.val S (hh _ _ _ _)⟩
      · cases e
    | _ => simp [ints2] at e
  | _ => simp [ints2] at e
end
def big (i : Int) : Prop := -(2 ^ 64) < i ∧ i < 2 ^ 64
instance (i : Int) : Decidable (big i) := by unfold big; infer_instance
def subD : D → D → Option M := ints2 fun i j => some (.im (.int (i - j)))
def mulD : D → D → Option M
  | .int i, .int j => if big i ∨ big j then some (.im (.int (i * j))) else none
  | .lst xs, .int k => if -(2 ^ 63) ≤ k ∧ k < 2 ^ 63 ∧ xs.length * k.toNat ≤ sizeLine then some (.ls ((List.replicate k.toNat xs).flatten.map .im)) else none
  | _, _ => none
def divD : D → D → Option M := ints2 fun i j => if 0 < j ∧ j < 1073741824 then some (.im (.int (i / j))) else none
def modD : D → D → Option M := ints2 fun i j => if 0 < j then some (.im (.int (i % j))) else none
def addD : D → D → Option M
  | .int i, .int j => some (.im (.int (i + j)))
  | .int i, .bl b => some (.im (.int (i + b2i b)))
  | .str x, .str y => if x.length + y.length ≤ sizeLine then some (.im (.str (x ++ y))) else none
  | .tup xs, .tup ys => if xs.length + ys.length ≤ sizeLine then some (.im (.tup (xs ++ ys))) else none
  | .lst xs, .lst ys => if xs.length + ys.length ≤ sizeLine then some (.ls ((xs ++ ys).map .im)) else none
  | _, _ => none

section
variable {X : Cx} {g : Gs}
theorem ops_sub : OpS X g (binaryOp .Sub) subD := by
  have h := ops_int (X := X) (g := g) (C := fun _ _ => True) (h := fun i j => .int (i - j)) (hv := fun i j => .int (i - j)) (f := binaryOp .Sub) (fun _ _ _ _ => by simp [Rv])
    (fun pins s σ H x y v u Q I rx ry ⟨i, j, e1, e2, _, q⟩ => op_sub pins s σ H x y v u Q I rx ry ⟨i, j, e1, e2, q⟩)
  simpa [subD] using h
theorem ops_div : OpS X g (binaryOp .FloorDiv) divD := ops_int (C := fun _ j => 0 < j ∧ j < 1073741824) (fun _ _ _ _ => by simp [Rv]) op_fdiv
theorem ops_mod : OpS X g (binaryOp .Mod) modD := ops_int (C := fun _ j => 0 < j) (fun _ _ _ _ => by simp [Rv]) op_mod
theorem ops_mul : OpS X g (binaryOp .Mult) mulD := by
  intro pins s σ H B G0 G env dx dy m x y v u Q I S rx ry vx vy e k
  cases dx with
  | int i =>
    cases dy with
    | int j =>
      simp only [mulD] at e
      split at e
      · rename_i hc
        cases e
        simp only [Vw, Rv] at vx vy
        subst vx; subst vy
        exact op_mul pins s σ H _ _ v u Q I rx ry ⟨i, j, rfl, rfl, hc, k.val S (by simp [Rv])⟩
      · cases e
    | _ => simp [mulD] at e
  | lst xs =>
    cases dy with
    | int j =>
      simp only [mulD] at e
      split at e
      · rename_i hc
        cases e
        simp only [Vw, Rv] at vx vy
        subst vy
        obtain ⟨a, vs, rfl, h1, h2⟩ := vx
        exact op_rep pins s σ H _ _ v u Q I rx ry ⟨a, j, vs, rfl, rfl, h1, hc.1, hc.2.1, by rw [h2.length]; exact hc.2.2, k.lst S (h2.flat _)⟩
      · cases e
    | _ => simp [mulD] at e
  | _ => simp [mulD] at e
theorem ops_add (hK : X.K = g.K) : OpS X g (binaryOp .Add) addD := by
  intro pins s σ H B G0 G env dx dy m x y v u Q I S rx ry vx vy e k
  cases dx with
  | int i =>
    cases dy with
    | int j =>
      simp only [addD, Option.some.injEq] at e
      subst e
      simp only [Vw, Rv] at vx vy
      subst vx; subst vy
      exact op_add pins s σ H _ _ v u Q I rx ry ⟨i, j, rfl, rfl, k.val S (by simp [Rv])⟩
    | bl b =>
      simp only [addD, Option.some.injEq] at e
      subst e
      simp only [Vw, Rv] at vx vy
      subst vx; subst vy
      exact op_add_ib pins s σ H _ _ v u Q I rx ry ⟨i, b, rfl, rfl, k.val S (by simp [Rv])⟩
    | _ => simp [addD] at e
  | str a =>
    cases dy with
    | str b =>
      simp only [addD] at e
      split at e
      · rename_i hc
        cases e
        simp only [Vw, Rv] at vx vy
        subst vx; subst vy
        exact op_add_str pins s σ H _ _ v u Q I rx ry ⟨a, b, rfl, rfl, hc, k.val S (by simp [Rv])⟩
      · cases e
    | _ => simp [addD] at e
  | tup xs =>
    cases dy with
    | tup ys =>
      simp only [addD] at e
      split at e
      · rename_i hc
        cases e
        simp only [Vw, Rv] at vx vy
        obtain ⟨a, vs, rfl, h1, h2⟩ := vx
        obtain ⟨b, ws, rfl, h3, h4⟩ := vy
        have t1 : SqT X.K H a vs := by rw [hK]; exact sqT_same S.s1 h1
        have t2 : SqT X.K H b ws := by rw [hK]; exact sqT_same S.s1 h3
        have app := h2.append h4
        refine op_catF pins s σ H _ _ v u Q I rx ry ⟨a, b, vs, ws, rfl, rfl, t1, t2, by rw [h2.length, h4.length]; exact hc, fun z => ?_, fun _ z => ?_, fun _ _ => k.tup S app⟩
        · subst z
          exact k.val S (by simp only [Rv]; exact ⟨b, ws, rfl, h3, by simpa using app⟩)
        · subst z
          exact k.val S (by simp only [Rv]; exact ⟨a, vs, rfl, h1, by simpa using app⟩)
      · cases e
    | _ => simp [addD] at e
  | lst xs =>
    cases dy with
    | lst ys =>
      simp only [addD] at e
      split at e
      · rename_i hc
        cases e
        simp only [Vw] at vx vy
        obtain ⟨a, vs, rfl, h1, h2⟩ := vx
        obtain ⟨b, ws, rfl, h3, h4⟩ := vy
        exact op_cat pins s σ H _ _ v u Q I rx ry ⟨a, b, vs, ws, rfl, rfl, h1, h3, by rw [h2.length, h4.length]; exact hc, k.lst S (h2.append h4)⟩
      · cases e
    | _ => simp [addD] at e
  | _ => simp [addD] at e
end
end Eng
end
section
set_option Elab.async false
set_option linter.all false
set_option maxRecDepth 100000
namespace Eng
open PySem L2
open PyProof.Rows hiding St

/-! ### equality -/
mutual
def pd : D → Option PyData
  | .non => some .none
  | .bl b => some (.bool b)
  | .int i => some (.int i)
  | .str z => some (.str z)
  | .tup xs => (pds xs).map .tuple
  | .lst xs => (pds xs).map .list
  | _ => none
def pds : List D → Option (List PyData)
  | [] => some []
  | x :: xs => (pd x).bind fun p => (pds xs).map (p :: ·)
end
mutual
theorem Rv.dp {g : Gs} {G H : Hp} (s : Same G H) : ∀ {d : D} {p : PyData} {v : V}, pd d = some p → Rv g G d v → Dp g.K H v p
  | .non, p, v, e, h => by
    simp only [pd, Option.some.injEq] at e; subst e
    simp only [Rv] at h; subst h; exact .non
  | .bl b, p, v, e, h => by
    simp only [pd, Option.some.injEq] at e; subst e
    simp only [Rv] at h; subst h; exact .bl b
  | .int b, p, v, e, h => by
    simp only [pd, Option.some.injEq] at e; subst e
    simp only [Rv] at h; subst h; exact .int b
  | .str b, p, v, e, h => by
    simp only [pd, Option.some.injEq] at e; subst e
    simp only [Rv] at h; subst h; exact .str b
  | .tup xs, p, v, e, h => by
    simp only [pd, Option.map_eq_some_iff] at e
    obtain ⟨ps, e1, rfl⟩ := e
    simp only [Rv] at h
    obtain ⟨a, vs, rfl, h1, h2⟩ := h
    exact .tup (sqT_same s h1) (Rvs.dp s e1 h2)
  | .lst xs, p, v, e, h => by
    simp only [pd, Option.map_eq_some_iff] at e
    obtain ⟨ps, e1, rfl⟩ := e
    simp only [Rv] at h
    obtain ⟨a, vs, rfl, h1, h2⟩ := h
    exact .lst (SqL.of (s _ _ h1)) (Rvs.dp s e1 h2)
  | .dct _ _, p, v, e, h => by simp [pd] at e
  | .obj _ _, p, v, e, h => by simp [pd] at e
  | .scr _, p, v, e, h => by simp [pd] at e
theorem Rvs.dp {g : Gs} {G H : Hp} (s : Same G H) : ∀ {ds : List D} {ps : List PyData} {vs : List V}, pds ds = some ps → Rvs g G ds vs → DpAll g.K H vs ps
  | [], ps, vs, e, h => by
    simp only [pds, Option.some.injEq] at e; subst e
    simp only [Rvs] at h; subst h; exact .nil
  | d :: ds, ps, vs, e, h => by
    simp only [pds, Option.bind_eq_some_iff, Option.map_eq_some_iff] at e
    obtain ⟨p, e1, qs, e2, rfl⟩ := e
    simp only [Rvs] at h
    obtain ⟨v, r, rfl, h1, h2⟩ := h
    exact .cons (Rv.dp s e1 h1) (Rvs.dp s e2 h2)
end
theorem Vw.dp {g : Gs} {G H : Hp} (s : Same G H) {d : D} {p : PyData} {v : V} (e : pd d = some p) (h : Vw g G H d v) : Dp g.K H v p := by
  cases d with
  | lst xs =>
    simp only [pd, Option.map_eq_some_iff] at e
    obtain ⟨ps, e1, rfl⟩ := e
    obtain ⟨a, vs, rfl, h1, h2⟩ := h
    exact .lst (SqL.of h1) (Rvs.dp s e1 h2)
  | dct _ _ => simp [pd] at e
  | obj _ _ => simp [pd] at e
  | _ => exact Rv.dp s e h
def eqDeep (x y : D) : Option Bool :=
  (pd x).bind fun p => (pd y).bind fun q => if SeqAt.shaped p = true ∧ SeqAt.shaped q = true then some (PyData.eqv p q) else none
def eqD : D → D → Option Bool
  | .non, .non => some true
  | .non, .int _ => some false | .int _, .non => some false
  | .non, .bl _ => some false | .bl _, .non => some false
  | .non, .str _ => some false | .str _, .non => some false
  | .int i, .int j => some (decide (i = j))
  | .bl i, .bl j => some (decide (i = j))
  | .str i, .str j => some (decide (i = j))
  | .int _, .str _ => some false | .str _, .int _ => some false
  | .bl _, .str _ => some false | .str _, .bl _ => some false
  | x, y => eqDeep x y
section
variable {X : Cx} {g : Gs}
/-- a comparison by what the values stand for -/
def rC (g : Gs) (f : D → D → Option Bool) : R2 := fun x y H Q => ∃ G dx dy b, Same G H ∧ Vw g G H dx x ∧ Vw g G H dy y ∧ f dx dy = some b ∧ Q (.bl b) H
def CmpS (X : Cx) (g : Gs) (op : CmpOp) (f : D → D → Option Bool) : Prop := OpR X (compareOp op) (rC g f)
/-- from a rule that reads the values and gives a bool -/
theorem cmps_of {op : CmpOp} {f : D → D → Option Bool}
    (h : ∀ (pins : List (Addr × Obj)) (s : Shared) (σ : St) (H G : Hp) (dx dy : D) (b : Bool) (x y : V) (v u : Value) (Q : VK), Inv X pins σ H s → Same G H → L2.RelV x v → L2.RelV y u →
      Vw g G H dx x → Vw g G H dy y → f dx dy = some b → Q (.bl b) H → wpAny (model X.prog X.w) X.A (compareOp op v u) (EP X pins σ Q) X.xe s) : CmpS X g op f :=
  fun pins s σ H x y v u Q I rx ry ⟨G, dx, dy, b, S, vx, vy, e, q⟩ => h pins s σ H G dx dy b x y v u Q I S rx ry vx vy e q
theorem eqDeep_ok (hK : X.K = g.K) (hu : X.A.units + 64 < cLine) {pins : List (Addr × Obj)} {s : Shared} {σ : St} {H G : Hp} {dx dy : D} {b : Bool} {x y : V} {v u : Value} {Q : VK} (I : Inv X pins σ H s) (S : Same G H) (rx : RelV x v) (ry : RelV y u)
    (vx : Vw g G H dx x) (vy : Vw g G H dy y) (e : eqDeep dx dy = some b) (q : Q (.bl b) H) : wpAny (model X.prog X.w) X.A (compareOp .Eq v u) (EP X pins σ Q) X.xe s := by
  simp only [eqDeep, Option.bind_eq_some_iff] at e
  obtain ⟨p, e1, q', e2, e3⟩ := e
  split at e3
  · rename_i hs
    cases e3
    exact op_eqD hu pins s σ H x y v u Q I rx ry ⟨p, q', hK ▸ vx.dp S e1, hK ▸ vy.dp S e2, hs.1, hs.2, q⟩
  · cases e3
theorem neDeep_ok (hK : X.K = g.K) (hu : X.A.units + 64 < cLine) {pins : List (Addr × Obj)} {s : Shared} {σ : St} {H G : Hp} {dx dy : D} {b : Bool} {x y : V} {v u : Value} {Q : VK} (I : Inv X pins σ H s) (S : Same G H) (rx : RelV x v) (ry : RelV y u)
    (vx : Vw g G H dx x) (vy : Vw g G H dy y) (e : eqDeep dx dy = some b) (q : Q (.bl (!b)) H) : wpAny (model X.prog X.w) X.A (compareOp .NotEq v u) (EP X pins σ Q) X.xe s := by
  simp only [eqDeep, Option.bind_eq_some_iff] at e
  obtain ⟨p, e1, q', e2, e3⟩ := e
  split at e3
  · rename_i hs
    cases e3
    exact op_neD hu pins s σ H x y v u Q I rx ry ⟨p, q', hK ▸ vx.dp S e1, hK ▸ vy.dp S e2, hs.1, hs.2, q⟩
  · cases e3
theorem eqD_scal {dx dy : D} {b : Bool} {G H : Hp} {x y : V} (vx : Vw g G H dx x) (vy : Vw g G H dy y) (e : eqD dx dy = some b) : (L2.scal x y = true ∧ decide (x = y) = b) ∨ eqDeep dx dy = some b := by
  cases dx <;> cases dy <;> first
    | exact .inr e
    | (left
       simp only [eqD, Option.some.injEq] at e
       subst e
       simp only [Vw, Rv] at vx vy
       subst vx; subst vy
       simp [L2.scal])
theorem cmps_eq (hK : X.K = g.K) (hu : X.A.units + 64 < cLine) : CmpS X g .Eq eqD := cmps_of fun pins s σ H G dx dy b x y v u Q I S rx ry vx vy e q => by
  rcases eqD_scal vx vy e with ⟨h1, h2⟩ | h
  · exact op_eq pins s σ H x y v u Q I rx ry ⟨h1, by rw [h2]; exact q⟩
  · exact eqDeep_ok hK hu I S rx ry vx vy h q
def neD (x y : D) : Option Bool := (eqD x y).map (!·)
theorem cmps_ne (hK : X.K = g.K) (hu : X.A.units + 64 < cLine) : CmpS X g .NotEq neD := cmps_of fun pins s σ H G dx dy b x y v u Q I S rx ry vx vy e q => by
  simp only [neD, Option.map_eq_some_iff] at e
  obtain ⟨b', e, rfl⟩ := e
  rcases eqD_scal vx vy e with ⟨h1, h2⟩ | h
  · exact op_ne pins s σ H x y v u Q I rx ry ⟨h1, by rw [h2]; exact q⟩
  · exact neDeep_ok hK hu I S rx ry vx vy h q
/-! ### order -/
def intsD : List D → Option (List Int)
  | [] => some []
  | .int i :: r => (intsD r).map (i :: ·)
  | _ :: _ => none
theorem Rvs.ints {G : Hp} : ∀ {ds : List D} {ns : List Int} {vs : List V}, intsD ds = some ns → Rvs g G ds vs → vs = ns.map V.int
  | [], ns, vs, e, h => by
    simp only [intsD, Option.some.injEq] at e; subst e
    simp only [Rvs] at h; simpa using h
  | .int i :: r, ns, vs, e, h => by
    simp only [intsD, Option.map_eq_some_iff] at e
    obtain ⟨ms, e1, rfl⟩ := e
    simp only [Rvs, Rv] at h
    obtain ⟨v, r', rfl, rfl, h2⟩ := h
    simp [h2.ints e1]
  | .non :: _, _, _, e, _ => by simp [intsD] at e
  | .bl _ :: _, _, _, e, _ => by simp [intsD] at e
  | .str _ :: _, _, _, e, _ => by simp [intsD] at e
  | .tup _ :: _, _, _, e, _ => by simp [intsD] at e
  | .lst _ :: _, _, _, e, _ => by simp [intsD] at e
  | .dct _ _ :: _, _, _, e, _ => by simp [intsD] at e
  | .obj _ _ :: _, _, _, e, _ => by simp [intsD] at e
  | .scr _ :: _, _, _, e, _ => by simp [intsD] at e
theorem intsD_map (ns : List Int) : intsD (ns.map .int) = some ns := by
  induction ns with
  | nil => rfl
  | cons n r ih => simp [intsD, ih]
def ltD : D → D → Option Bool
  | .int i, .int j => some (decide (i < j))
  | .str x, .str y => some (decide (x.cps.toList < y.cps.toList))
  | .tup xs, .tup ys => (intsD xs).bind fun ns => (intsD ys).map fun ms => HT.lexLt ns ms
  | _, _ => none
def leD : D → D → Option Bool
  | .int i, .int j => some (decide (i ≤ j))
  | _, _ => none
def gtD : D → D → Option Bool
  | .int i, .int j => some (decide (j < i))
  | _, _ => none
def geD : D → D → Option Bool
  | .int i, .int j => some (decide (j ≤ i))
  | _, _ => none
theorem cmps_lt (hK : X.K = g.K) (hu : X.A.units + 64 < cLine) : CmpS X g .Lt ltD := cmps_of fun pins s σ H G dx dy b x y v u Q I S rx ry vx vy e q => by
  cases dx with
  | int i =>
    cases dy <;> simp [ltD] at e
    subst e
    simp only [Vw, Rv] at vx vy
    subst vx; subst vy
    exact op_lt pins s σ H _ _ v u Q I rx ry ⟨_, _, rfl, rfl, q⟩
  | str i =>
    cases dy with
    | str j =>
      simp only [ltD, Option.some.injEq] at e
      subst e
      simp only [Vw, Rv] at vx vy
      subst vx; subst vy
      exact op_lt_str pins s σ H _ _ v u Q I rx ry ⟨_, _, rfl, rfl, q⟩
    | _ => simp [ltD] at e
  | tup xs =>
    cases dy with
    | tup ys =>
      simp only [ltD, Option.bind_eq_some_iff, Option.map_eq_some_iff] at e
      obtain ⟨ns, e1, ms, e2, rfl⟩ := e
      simp only [Vw, Rv] at vx vy
      obtain ⟨a, vs, rfl, h1, h2⟩ := vx
      obtain ⟨c, ws, rfl, h3, h4⟩ := vy
      have t1 : SqT X.K H a vs := by rw [hK]; exact sqT_same S h1
      have t2 : SqT X.K H c ws := by rw [hK]; exact sqT_same S h3
      rw [h2.ints e1] at t1
      rw [h4.ints e2] at t2
      exact op_ltT (by omega) pins s σ H _ _ v u Q I rx ry ⟨a, c, ns, ms, rfl, rfl, t1, t2, q⟩
    | _ => simp [ltD] at e
  | _ => simp [ltD] at e
theorem cmps_le : CmpS X g .LtE leD := cmps_of fun pins s σ H G dx dy b x y v u Q I S rx ry vx vy e q => by
  cases dx <;> cases dy <;> simp [leD] at e
  subst e
  simp only [Vw, Rv] at vx vy
  subst vx; subst vy
  exact op_le pins s σ H _ _ v u Q I rx ry ⟨_, _, rfl, rfl, q⟩
theorem cmps_gt : CmpS X g .Gt gtD := cmps_of fun pins s σ H G dx dy b x y v u Q I S rx ry vx vy e q => by
  cases dx <;> cases dy <;> simp [gtD] at e
  subst e
  simp only [Vw, Rv] at vx vy
  subst vx; subst vy
  exact op_gt pins s σ H _ _ v u Q I rx ry ⟨_, _, rfl, rfl, q⟩
theorem cmps_ge : CmpS X g .GtE geD := cmps_of fun pins s σ H G dx dy b x y v u Q I S rx ry vx vy e q => by
  cases dx <;> cases dy <;> simp [geD] at e
  subst e
  simp only [Vw, Rv] at vx vy
  subst vx; subst vy
  exact op_ge pins s σ H _ _ v u Q I rx ry ⟨_, _, rfl, rfl, q⟩
/-! ### is None, True, False -/
def isD : D → D → Option Bool
  | x, .non => some (match x with | .non => true | _ => false)
  | x, .bl b => some (match x with | .bl c => decide (c = b) | _ => false)
  | _, _ => none
def isntD (x y : D) : Option Bool := (isD x y).map (!·)
theorem isD_v {dx dy : D} {b : Bool} {G H : Hp} {x y : V} (vx : Vw g G H dx x) (vy : Vw g G H dy y) (e : isD dx dy = some b) : (y = .non ∨ ∃ c, y = .bl c) ∧ b = decide (x = y) := by
  cases dy with
  | non =>
    simp only [Vw, Rv] at vy; subst vy
    refine ⟨.inl rfl, ?_⟩
    cases dx <;> simp only [isD, Option.some.injEq] at e <;> subst e <;> simp only [Vw, Rv] at vx <;>
      first
      | (subst vx; simp)
      | (obtain ⟨rfl, _⟩ := vx; simp)
      | (obtain ⟨_, rfl, _⟩ := vx; simp)
      | (obtain ⟨_, _, rfl, _⟩ := vx; simp)
      | (obtain ⟨_, _, _, rfl, _⟩ := vx; simp)
  | bl c =>
    simp only [Vw, Rv] at vy; subst vy
    refine ⟨.inr ⟨c, rfl⟩, ?_⟩
    cases dx <;> simp only [isD, Option.some.injEq] at e <;> subst e <;> simp only [Vw, Rv] at vx <;>
      first
      | (subst vx; simp)
      | (obtain ⟨rfl, _⟩ := vx; simp)
      | (obtain ⟨_, rfl, _⟩ := vx; simp)
      | (obtain ⟨_, _, rfl, _⟩ := vx; simp)
      | (obtain ⟨_, _, _, rfl, _⟩ := vx; simp)
  | _ => simp [isD] at e
theorem plain_rel {x : V} {v : Value} (c : Bool) (r : L2.RelV x v) : plainIs v (.bool c) = true := by
  cases x <;> first
    | (cases r; rfl)
    | (obtain ⟨t, rfl⟩ := r; rfl)
theorem bool_rel {x : V} {c : Bool} (r : L2.RelV x (.bool c)) : x = .bl c := by
  cases x with
  | bl b =>
    have e : Value.bool c = Value.bool b := r
    cases e; rfl
  | non => exact absurd (show Value.bool c = Value.none from r) (by simp)
  | int i => obtain ⟨t, e⟩ := r; cases e
  | str i => obtain ⟨t, e⟩ := r; cases e
  | byt i => obtain ⟨t, e⟩ := r; cases e
  | flt i => obtain ⟨t, e⟩ := r; cases e
  | ref i => exact absurd (show Value.bool c = Value.ref i from r) (by simp)
  | ty i => exact absurd (show Value.bool c = Value.type i from r) (by simp)
theorem cmps_is : CmpS X g .Is isD := cmps_of fun pins s σ H G dx dy b x y v u Q I S rx ry vx vy e q => by
  obtain ⟨hy, rfl⟩ := isD_v vx vy e
  rcases hy with rfl | ⟨c, rfl⟩
  · exact op_isN pins s σ H x .non v u Q I rx ry ⟨rfl, q⟩
  · cases (show u = Value.bool c from ry)
    by_cases h : x = .bl c
    · subst h
      cases (show v = Value.bool c from rx)
      exact wpAny_is_self (plain_rel _ rx) ⟨.bl true, H, I, rfl, by simpa using q⟩
    · refine wpAny_is_other (plain_rel _ rx) (fun z => h ?_) ⟨.bl false, H, I, rfl, by simpa [h] using q⟩
      subst z
      exact bool_rel rx
theorem cmps_isnt : CmpS X g .IsNot isntD := cmps_of fun pins s σ H G dx dy b x y v u Q I S rx ry vx vy e q => by
  simp only [isntD, Option.map_eq_some_iff] at e
  obtain ⟨b', e, rfl⟩ := e
  obtain ⟨hy, rfl⟩ := isD_v vx vy e
  rcases hy with rfl | ⟨c, rfl⟩
  · exact op_notN pins s σ H x .non v u Q I rx ry ⟨rfl, q⟩
  · cases (show u = Value.bool c from ry)
    by_cases h : x = .bl c
    · subst h
      cases (show v = Value.bool c from rx)
      exact wpAny_isNot_self (plain_rel _ rx) ⟨.bl false, H, I, rfl, by simpa using q⟩
    · refine wpAny_isNot_other (plain_rel _ rx) (fun z => h ?_) ⟨.bl true, H, I, rfl, by simpa [h] using q⟩
      subst z
      exact bool_rel rx
end
end Eng
end
section
set_option Elab.async false
set_option linter.all false
set_option maxRecDepth 100000
namespace Eng
open PySem L2
open PyProof.Rows hiding St

/-! ### membership -/
def flD : D → Bool
  | .non => true | .bl _ => true | .int _ => true | .str _ => true
  | _ => false
def eqF : D → D → Bool
  | .non, .non => true
  | .bl a, .bl b => a == b
  | .bl a, .int b => (if a then 1 else 0) == b
  | .int a, .bl b => a == (if b then 1 else 0)
  | .int a, .int b => a == b
  | .str a, .str b => a == b
  | _, _ => false
def keyD : D → Option Key
  | .int i => some (.inl i)
  | .str z => some (.inr z)
  | _ => none
/-- where the key stands -/
def kIx (ks : List Key) (k : Key) : Option Nat := ks.findIdx? fun j => decide (j = k)
def inD : D → D → Option Bool
  | x, .lst ys => if flD x = true ∧ ys.all flD = true then some (ys.any fun y => eqF y x) else none
  | x, .tup ys => if flD x = true ∧ ys.all flD = true then some (ys.any fun y => eqF y x) else none
  | .str w, .str z => match w.cps.toList with
    | [c] => some (decide (c ∈ z.cps.toList))
    | _ => none
  | x, .dct ks _ => (keyD x).map fun k => ks.any fun j => decide (j = k)
  | _, _ => none
def ninD (x y : D) : Option Bool := (inD x y).map (!·)
theorem flD_v {g : Gs} {G : Hp} {d : D} {v : V} (h : Rv g G d v) (e : flD d = true) : L2.flatV v = true := by
  cases d <;> simp [flD] at e <;> simp only [Rv] at h <;> subst h <;> rfl
theorem flD_all {g : Gs} {G : Hp} : ∀ {ds : List D} {vs : List V}, Rvs g G ds vs → ds.all flD = true → vs.all L2.flatV = true
  | [], vs, h, _ => by simp only [Rvs] at h; subst h; rfl
  | d :: ds, vs, h, e => by
    simp only [Rvs] at h
    obtain ⟨v, r, rfl, h1, h2⟩ := h
    simp only [List.all_cons, Bool.and_eq_true] at e ⊢
    exact ⟨flD_v h1 e.1, flD_all h2 e.2⟩
theorem eqF_v {g : Gs} {G : Hp} {d e : D} {v w : V} (h : Rv g G d v) (k : Rv g G e w) (f : flD d = true) (f2 : flD e = true) : L2.eqV v w = eqF d e := by
  cases d <;> simp [flD] at f <;> cases e <;> simp [flD] at f2 <;> simp only [Rv] at h k <;> subst h <;> subst k <;> rfl
theorem eqF_any {g : Gs} {G : Hp} {e : D} {w : V} (k : Rv g G e w) (f2 : flD e = true) : ∀ {ds : List D} {vs : List V}, Rvs g G ds vs → ds.all flD = true → L2.inV w vs = ds.any fun y => eqF y e
  | [], vs, h, _ => by simp only [Rvs] at h; subst h; rfl
  | d :: ds, vs, h, e => by
    simp only [Rvs] at h
    obtain ⟨v, r, rfl, h1, h2⟩ := h
    simp only [List.all_cons, Bool.and_eq_true] at e
    have ih := eqF_any k f2 h2 e.2
    unfold L2.inV at ih ⊢
    simp only [List.any_cons]
    rw [ih, eqF_v h1 k e.1 f2]
theorem Vw.fl {g : Gs} {G H : Hp} {d : D} {v : V} (h : Vw g G H d v) (f : flD d = true) : Rv g G d v := by
  cases d <;> simp [flD] at f <;> exact h
theorem keyD_v {g : Gs} {G H : Hp} {d : D} {v : V} {k : Key} (h : Vw g G H d v) (e : keyD d = some k) : v = kV k := by
  cases d <;> simp [keyD] at e <;> subst e <;> simp only [Vw, Rv] at h <;> subst h <;> rfl
theorem valV_ks (k : Key) : ∀ (ks : List Key) (vs : List V), ks.length = vs.length → (valV (ks.zip vs) k).isSome = ks.any fun j => decide (j = k)
  | [], _, _ => by simp [valV]
  | j :: ks, [], h => by simp at h
  | j :: ks, v :: vs, h => by
    have ih := valV_ks k ks vs (by simpa using h)
    by_cases e : j = k
    · rw [List.zip_cons_cons, valV_pos (p := (j, v)) e]; simp [e]
    · rw [List.zip_cons_cons, valV_neg (p := (j, v)) e, ih]; simp [e]
section
variable {X : Cx} {g : Gs}
theorem inD_ok (hK : X.K = g.K) (hu : X.A.units + 64 < cLine) {pins : List (Addr × Obj)} {s : Shared} {σ : St} {H G : Hp} {dx dy : D} {b : Bool} {x y : V} {v u : Value} {Q : VK} (I : Inv X pins σ H s) (S : Same G H) (rx : L2.RelV x v) (ry : L2.RelV y u)
    (vx : Vw g G H dx x) (vy : Vw g G H dy y) (e : inD dx dy = some b) :
    (Q (.bl b) H → wpAny (model X.prog X.w) X.A (compareOp .In v u) (EP X pins σ Q) X.xe s) ∧ (Q (.bl (!b)) H → wpAny (model X.prog X.w) X.A (compareOp .NotIn v u) (EP X pins σ Q) X.xe s) := by
  have seq : ∀ {ys : List D} {a : Addr} {vs : List V}, Rvs g G ys vs → (SqL X.K H a vs ∨ SqT X.K H a vs) → y = .ref a → flD dx = true → ys.all flD = true →
      (Q (.bl (ys.any fun y => eqF y dx)) H → wpAny (model X.prog X.w) X.A (compareOp .In v u) (EP X pins σ Q) X.xe s) ∧ (Q (.bl (!(ys.any fun y => eqF y dx))) H → wpAny (model X.prog X.w) X.A (compareOp .NotIn v u) (EP X pins σ Q) X.xe s) := by
    intro ys a vs h hq ey f fs
    subst ey
    have k := vx.fl f
    have e1 := eqF_any k f h fs
    refine ⟨fun q => op_in_seq pins s σ H _ _ v u Q I rx ry ⟨a, vs, rfl, hq, flD_v k f, flD_all h fs, ?_⟩, fun q => op_notIn_seq pins s σ H _ _ v u Q I rx ry ⟨a, vs, rfl, hq, flD_v k f, flD_all h fs, ?_⟩⟩
    · rw [if_neg (by simp), e1]; exact q
    · rw [if_pos rfl, e1]; exact q
  cases dy with
  | lst ys =>
    simp only [inD] at e
    split at e
    · rename_i hf
      cases e
      obtain ⟨a, vs, ey, h1, h2⟩ := vy
      exact seq h2 (.inl (SqL.of h1)) ey hf.1 hf.2
    · cases e
  | tup ys =>
    simp only [inD] at e
    split at e
    · rename_i hf
      cases e
      simp only [Vw, Rv] at vy
      obtain ⟨a, vs, ey, h1, h2⟩ := vy
      exact seq h2 (.inr (by rw [hK]; exact sqT_same S h1)) ey hf.1 hf.2
    · cases e
  | dct ks ys =>
    have e' : (keyD dx).map (fun k => ks.any fun j => decide (j = k)) = some b := by
      cases dx <;> simpa [inD] using e
    simp only [Option.map_eq_some_iff] at e'
    obtain ⟨k, e1, rfl⟩ := e'
    obtain ⟨a, vs, rfl, h1, h2, h3⟩ := vy
    have ek := keyD_v vx e1
    subst ek
    cases (show u = Value.ref a from ry)
    have gt := DGet.k (k := k) h1
    have es := valV_ks k ks vs h2
    refine ⟨fun q => d_in (by omega) I gt rx fun s3 I3 => ⟨.bl _, H, I3, rfl, by rw [es]; exact q⟩, fun q => d_notIn (by omega) I gt rx fun s3 I3 => ⟨.bl _, H, I3, rfl, by rw [es]; exact q⟩⟩
  | str z =>
    cases dx with
    | str w =>
      simp only [inD] at e
      split at e
      · rename_i c hw
        cases e
        have ew : w = ⟨#[c]⟩ := by
          cases w with
          | mk cps =>
            have : cps = #[c] := by
              apply Array.ext'
              simpa using hw
            rw [this]
        subst ew
        simp only [Vw, Rv] at vx vy
        subst vx; subst vy
        obtain ⟨t, rfl⟩ := rx
        obtain ⟨t', rfl⟩ := ry
        exact ⟨fun q => PyProof.Rows.in_str (fin_bl I q (PySem.StrLaws.found_one z c).symm), fun q => PyProof.Rows.notIn_str (fin_bl I q (congrArg not (PySem.StrLaws.found_one z c).symm))⟩
      · cases e
    | _ => simp [inD] at e
  | _ => simp [inD] at e
theorem cmps_in (hK : X.K = g.K) (hu : X.A.units + 64 < cLine) : CmpS X g .In inD := cmps_of fun pins s σ H G dx dy b x y v u Q I S rx ry vx vy e q => (inD_ok hK hu I S rx ry vx vy e).1 q
theorem cmps_nin (hK : X.K = g.K) (hu : X.A.units + 64 < cLine) : CmpS X g .NotIn ninD := cmps_of fun pins s σ H G dx dy b x y v u Q I S rx ry vx vy e q => by
  simp only [ninD, Option.map_eq_some_iff] at e
  obtain ⟨b', e, rfl⟩ := e
  exact (inD_ok hK hu I S rx ry vx vy e).2 q

/-! ### subscripts -/
def getKs : List Key → List D → Key → Option D
  | j :: ks, d :: ds, k => if j = k then some d else getKs ks ds k
  | _, _, _ => none
def idxD : D → D → Option D
  | .lst xs, .int i => atI xs i
  | .tup xs, .int i => atI xs i
  | .str z, .int i => if z.length ≤ sizeLine then (atI z.cps.toList i).map fun c => .str ⟨#[c]⟩ else none
  | .dct ks ds, y => (keyD y).bind (getKs ks ds)
  | _, _ => none
theorem getKs_v {G : Hp} : ∀ {ks : List Key} {ds : List D} {vs : List V} {k : Key} {d : D}, Rvs g G ds vs → getKs ks ds k = some d → ∃ v, valV (ks.zip vs) k = some v ∧ Rv g G d v
  | [], _, _, _, _, _, e => by simp [getKs] at e
  | _ :: _, [], _, _, _, _, e => by simp [getKs] at e
  | j :: ks, d0 :: ds, vs, k, d, h, e => by
    simp only [Rvs] at h
    obtain ⟨v, r, rfl, h1, h2⟩ := h
    simp only [getKs] at e
    by_cases hj : j = k
    · rw [if_pos hj] at e
      cases e
      exact ⟨v, by rw [List.zip_cons_cons, valV_pos (p := (j, v)) hj], h1⟩
    · rw [if_neg hj] at e
      obtain ⟨w, e1, e2⟩ := getKs_v h2 e
      exact ⟨w, by rw [List.zip_cons_cons, valV_neg (p := (j, v)) hj, e1], e2⟩
theorem idx_ok (hK : X.K = g.K) (hu : X.A.units + 64 < cLine) {pins : List (Addr × Obj)} {s : Shared} {σ : St} {H G : Hp} {dx dy d : D} {x y : V} {v u : Value} {Q : VK} (value slice : Expr) (I : Inv X pins σ H s) (S : Same G H) (rx : L2.RelV x v) (ry : L2.RelV y u)
    (vx : Vw g G H dx x) (vy : Vw g G H dy y) (e : idxD dx dy = some d) (q : ∀ z, Rv g G d z → Q z H) (hs : subscripted slice false v u = operate [v, u] (getItem v u)) :
    wpAny (model X.prog X.w) X.A (subscriptTail value slice v u) (EP X pins σ Q) X.xe s := by
  cases dx with
  | lst xs =>
    cases dy with
    | int i =>
      simp only [idxD] at e
      simp only [Vw, Rv] at vx vy
      subst vy
      obtain ⟨a, vs, rfl, h1, h2⟩ := vx
      obtain ⟨z, e1, e2⟩ := h2.at e
      exact ix_list value slice pins s σ H _ _ v u Q I rx ry ⟨a, vs, i, z, rfl, rfl, SqL.of h1, e1, q z e2⟩ hs
    | _ => simp [idxD] at e
  | tup xs =>
    cases dy with
    | int i =>
      simp only [idxD] at e
      simp only [Vw, Rv] at vx vy
      subst vy
      obtain ⟨a, vs, rfl, h1, h2⟩ := vx
      obtain ⟨z, e1, e2⟩ := h2.at e
      exact ix_tup value slice pins s σ H _ _ v u Q I rx ry ⟨a, vs, i, z, rfl, rfl, by rw [hK]; exact sqT_same S h1, e1, q z e2⟩ hs
    | _ => simp [idxD] at e
  | str w =>
    cases dy with
    | int i =>
      simp only [idxD] at e
      split at e
      · rename_i hz
        simp only [Option.map_eq_some_iff] at e
        obtain ⟨c, e1, rfl⟩ := e
        simp only [Vw, Rv] at vx vy
        subst vx; subst vy
        exact ix_str value slice pins s σ H _ _ v u Q I rx ry ⟨w, i, c, rfl, rfl, hz, e1, q _ (by simp [Rv])⟩ hs
      · cases e
    | _ => simp [idxD] at e
  | dct ks ds =>
    have e' : (keyD dy).bind (getKs ks ds) = some d := by cases dy <;> simpa [idxD] using e
    simp only [Option.bind_eq_some_iff] at e'
    obtain ⟨k, e1, e2⟩ := e'
    obtain ⟨a, vs, rfl, h1, h2, h3⟩ := vx
    have ek := keyD_v vy e1
    subst ek
    cases (show v = Value.ref a from rx)
    obtain ⟨z, e3, e4⟩ := getKs_v h3 e2
    have gt := DGet.k (k := k) h1
    rw [e3] at gt
    exact tail_any (dict_typeIs I gt) PySem.F.slot_dict_getitem.lookup (d_getItem (by omega) I gt ry fun w' s3 I3 rw' => ⟨z, H, I3, rw', q z e4⟩) hs
  | _ => cases dy <;> simp [idxD] at e
/-! ### slices -/
def slcD : D → Option Int → Option Int → Option M
  | .lst xs, lo, hi => some (.ls ((cutD xs lo hi).map .im))
  | .tup xs, lo, hi => some (.im (.tup (cutD xs lo hi)))
  | .scr ns, lo, hi => some (.ls ((cutD (ns.map .int) lo hi).map .im))
  | _, _, _ => none
theorem rvs_ints {G : Hp} : ∀ ns : List Int, Rvs g G (ns.map .int) (ns.map V.int)
  | [] => by simp [Rvs]
  | n :: r => by simp only [List.map_cons, Rvs, Rv]; exact ⟨_, _, rfl, rfl, rvs_ints r⟩
theorem slc_ok (hK : X.K = g.K) {pins : List (Addr × Obj)} {s : Shared} {σ σ' : St} {H B G0 G : Hp} {env : Env} {dx : D} {m : M} {x : V} {v vl vu : Value} {lo hi : Option Int} {sl : Addr} {Q : VK} (I : Inv X pins σ H s) (S : Stt g B G0 G H σ' env) (rx : L2.RelV x v)
    (hs : s.heap.IsSliceOf sl vl vu .none) (pl : IsPart vl lo) (pu : IsPart vu hi) (vx : Vw g G H dx x) (e : slcD dx lo hi = some m) (k : Cont g B G0 G σ' env m Q) :
    ∃ T id, typeLookup (.type T) "__getitem__" = pure (some (.builtin id)) ∧ s.TypeIs v T ∧ wpAny (model X.prog X.w) X.A (getItem v (.ref sl)) (EP X pins σ Q) X.xe s := by
  cases dx with
  | lst xs =>
    simp only [slcD, Option.some.injEq] at e
    subst e
    obtain ⟨a, vs, rfl, h1, h2⟩ := vx
    exact sl_list pins s σ H _ v vl vu lo hi sl Q I rx hs pl pu ⟨a, vs, rfl, SqL.of h1, k.lst S (h2.cut lo hi)⟩
  | tup xs =>
    simp only [slcD, Option.some.injEq] at e
    subst e
    simp only [Vw, Rv] at vx
    obtain ⟨a, vs, rfl, h1, h2⟩ := vx
    refine sl_tupF pins s σ H _ v vl vu lo hi sl Q I rx hs pl pu ⟨a, vs, rfl, by rw [hK]; exact sqT_same S.s1 h1, fun z => ?_, fun _ => k.tup S (h2.cut lo hi)⟩
    refine k.val S ?_
    have ec : cutD xs lo hi = xs := by
      unfold cutD
      rw [← h2.length, z.1, z.2]
      simp [h2.length]
    rw [ec]
    simp only [Rv]
    exact ⟨a, vs, rfl, h1, h2⟩
  | scr ns =>
    simp only [slcD, Option.some.injEq] at e
    subst e
    simp only [Vw, Rv] at vx
    obtain ⟨a, rfl, h1⟩ := vx
    exact sl_list pins s σ H _ v vl vu lo hi sl Q I rx hs pl pu ⟨a, _, rfl, by rw [hK]; exact S.s1.seq h1, k.lst S ((rvs_ints ns).cut lo hi)⟩
  | _ => simp [slcD] at e
/-! ### truth -/
def truD : D → Option Bool
  | .non => some false
  | .bl b => some b
  | .int i => some (i != 0)
  | .str z => if z.length ≤ sizeLine then some ((z.length : Int) != 0) else none
  | .lst xs => some (!xs.isEmpty)
  | .tup xs => some (!xs.isEmpty)
  | .dct ks _ => some (!ks.isEmpty)
  | _ => none
theorem Rvs.empty {G : Hp} {ds : List D} {vs : List V} (h : Rvs g G ds vs) : vs.isEmpty = ds.isEmpty := by
  have := h.length
  cases ds <;> cases vs <;> simp_all
theorem tru_v (hK : X.K = g.K) {G H : Hp} {d : D} {v : V} {b : Bool} (S : Same G H) (vx : Vw g G H d v) (e : truD d = some b) : TruV X.K v H b := by
  cases d with
  | non => simp only [truD, Option.some.injEq] at e; subst e; simp only [Vw, Rv] at vx; subst vx; exact rfl
  | bl c => simp only [truD, Option.some.injEq] at e; subst e; simp only [Vw, Rv] at vx; subst vx; exact rfl
  | int i => simp only [truD, Option.some.injEq] at e; subst e; simp only [Vw, Rv] at vx; subst vx; exact rfl
  | str z =>
    simp only [truD] at e
    split at e
    · rename_i hz
      cases e
      simp only [Vw, Rv] at vx; subst vx; exact ⟨hz, rfl⟩
    · cases e
  | lst xs =>
    simp only [truD, Option.some.injEq] at e; subst e
    obtain ⟨a, vs, rfl, h1, h2⟩ := vx
    exact .inl ⟨vs, SqL.of h1, by rw [h2.empty]⟩
  | tup xs =>
    simp only [truD, Option.some.injEq] at e; subst e
    simp only [Vw, Rv] at vx
    obtain ⟨a, vs, rfl, h1, h2⟩ := vx
    exact .inr (.inl ⟨vs, by rw [hK]; exact sqT_same S h1, by rw [h2.empty]⟩)
  | dct ks ds =>
    simp only [truD, Option.some.injEq] at e; subst e
    obtain ⟨a, vs, rfl, h1, h2, h3⟩ := vx
    refine .inr (.inr ⟨_, h1, ?_⟩)
    cases ks <;> cases vs <;> simp_all
  | _ => simp [truD] at e
end
end Eng
end
section
set_option Elab.async false
set_option linter.all false
set_option maxRecDepth 100000
namespace Eng
open PySem L2
open PyProof.Rows hiding St

/-! ### what is wanted of a result -/
def Fin {α : Type} (g : Gs) (B G0 : Hp) (W : WX) (σ : St) (G : Hp) (r : Rs (α × Env)) (P : α → Env → Hp → Hp → Prop) : Prop :=
  match r with
  | .bad => False
  | .exc c fs env => ∀ d vs G' H', Same G G' → Stt g B G0 G' H' σ env → G' d = some (.xd ((g.fld c).zip vs)) → (g.fld c).length = vs.length → Rvs g G' fs vs → W (.ref (g.cls c)) (some d) σ H'
  | .ok (a, env) => ∀ G' H', Same G G' → P a env G' H'
section
variable {α β : Type} {g : Gs} {B G0 G G' H : Hp} {W : WX} {σ : St}
theorem Fin.mono {r : Rs (α × Env)} {P P' : α → Env → Hp → Hp → Prop} (h : Fin g B G0 W σ G r P) (k : ∀ a env G' H', Same G G' → P a env G' H' → P' a env G' H') : Fin g B G0 W σ G r P' := by
  cases r with
  | bad => exact h
  | exc c fs env => exact h
  | ok p => exact fun G' H' s => k _ _ _ _ s (h G' H' s)
theorem Fin.more {r : Rs (α × Env)} {P : α → Env → Hp → Hp → Prop} (h : Fin g B G0 W σ G r P) (s : Same G G') : Fin g B G0 W σ G' r P := by
  cases r with
  | bad => exact h
  | exc c fs env => exact fun d vs G1 H1 s1 S e1 e2 e3 => h d vs G1 H1 (s.trans s1) S e1 e2 e3
  | ok p => exact fun G1 H1 s1 => h G1 H1 (s.trans s1)
theorem Fin.bind {r : Rs (α × Env)} {k : α × Env → Rs (β × Env)} {P : β → Env → Hp → Hp → Prop} (h : Fin g B G0 W σ G (r >>= k) P) :
    Fin g B G0 W σ G r (fun a env G' _ => Fin g B G0 W σ G' (k (a, env)) P) := by
  cases r with
  | bad => exact h
  | exc c fs env => exact h
  | ok p => exact fun G' _ s => Fin.more h s
end

/-- an operand: a value, or the slot that holds it -/
inductive Opd where
  | val (d : D)
  | slot (i : Nat)
def RO (g : Gs) (G : Hp) (σ : St) : Opd → V → Prop
  | .val d, v => Rv g G d v
  | .slot i, v => σ[i]? = some (some v)
theorem RO.same {g : Gs} {G G' : Hp} {σ : St} (s : Same G G') {o : Opd} {v : V} (h : RO g G σ o v) : RO g G' σ o v := by
  cases o with
  | val d => exact Rv.same s h
  | slot i => exact h
/-- what the operand holds now -/
def res (env : Env) : Opd → Option D
  | .val d => some d
  | .slot i => (env[i]?.bind id).bind flat
theorem Stt.res {g : Gs} {B G0 G H : Hp} {σ : St} {env : Env} (S : Stt g B G0 G H σ env) {o : Opd} {v : V} {d : D} (h : RO g G σ o v) (e : Eng.res env o = some d) : Vw g G H d v := by
  cases o with
  | val d' =>
    simp only [Eng.res, Option.some.injEq] at e
    subst e
    exact Rv.vw S.s1 h
  | slot i =>
    simp only [Eng.res, Option.bind_eq_some_iff, id] at e
    obtain ⟨m, ⟨om, e1, e2⟩, e3⟩ := e
    subst e2
    obtain ⟨v', F1, e4, r, _⟩ := S.at e1
    have : σ[i]? = some (some v) := h
    rw [this] at e4
    cases e4
    exact r.view S.s1 e3

abbrev FE := Env → Rs (M × Env)
abbrev FO := Env → Rs (Opd × Env)
abbrev FT := Env → Rs (Bool × Env)
abbrev FA := Env → Rs (List Opd × Env)
def tE (g : Gs) (W : WX) (f : FE) : TE := fun σ H Q => ∃ B G0 G env, Stt g B G0 G H σ env ∧ Fin g B G0 W σ G (f env) fun m env G' H' => ∀ v, Stt g B G0 G' H' (some v :: σ) (some m :: env) → Q v H'
def tO (g : Gs) (W : WX) (f : FO) : TE := fun σ H Q => ∃ B G0 G env, Stt g B G0 G H σ env ∧ Fin g B G0 W σ G (f env) fun o env G' H' => ∀ v, Stt g B G0 G' H' σ env → RO g G' σ o v → Q v H'
def tT (g : Gs) (W : WX) (f : FT) : TT := fun σ H Q => ∃ B G0 G env, Stt g B G0 G H σ env ∧ Fin g B G0 W σ G (f env) fun b env G' H' => Stt g B G0 G' H' σ env → Q b H'
def ROs (g : Gs) (G : Hp) (σ : St) : List Opd → List V → Prop
  | [], vs => vs = []
  | o :: os, vs => ∃ v r, vs = v :: r ∧ RO g G σ o v ∧ ROs g G σ os r
theorem ROs.same {g : Gs} {G G' : Hp} {σ : St} (s : Same G G') : ∀ {os : List Opd} {vs : List V}, ROs g G σ os vs → ROs g G' σ os vs
  | [], _, h => h
  | o :: os, _, h => by
    simp only [ROs] at h ⊢
    obtain ⟨v, r, e, h1, h2⟩ := h
    exact ⟨v, r, e, h1.same s, h2.same s⟩
def tA' (g : Gs) (W : WX) (f : FA) : TA := fun σ H Q => ∃ B G0 G env, Stt g B G0 G H σ env ∧ Fin g B G0 W σ G (f env) fun os env G' H' => ∀ vs, Stt g B G0 G' H' σ env → ROs g G' σ os vs → Q vs H'

section
variable {X : Cx} {g : Gs} {W : WX} {a b e : Expr} {es : List Expr} {f fa fb : FE} {fo go ho : FO} {fs : FA} {pos : Pos}
/-! ### names, constants -/
def oVar (i : Nat) : FO := fun env => match env[i]? with
  | some (some _) => .ok (.slot i, env)
  | _ => .bad
def eVar (i : Nat) : FE := fun env => match env[i]? with
  | some (some m) => .ok (.im (frz m), env.set i (some (.im (frz m))))
  | _ => .bad
def oOf (f : FE) : FO := fun env => do
  let (m, env) ← f env
  .ok (.val (frz m), env)
theorem so_var {i : Nat} {x : Str} (hN : X.N[i]? = some x) (hv : Vis X.env.scope x) (hd : (x == ("__debug__" : Str)) = false) (hcd : (x == ("__classdict__" : Str)) = false) : PE X (.Name x pos) (tO g W (oVar i)) := by
  refine ⟨fun pins s σ H Q I h => ?_⟩
  obtain ⟨B, G0, G, env, S, h⟩ := h
  unfold oVar at h
  split at h
  · rename_i m e1
    obtain ⟨v, F1, e4, r, _⟩ := S.at e1
    exact (pe_var hN hv hd hcd).run pins s σ H Q I ⟨v, e4, h G H (Same.refl _) v S e4⟩
  · exact False.elim h
theorem se_var {i : Nat} {x : Str} (hN : X.N[i]? = some x) (hv : Vis X.env.scope x) (hd : (x == ("__debug__" : Str)) = false) (hcd : (x == ("__classdict__" : Str)) = false) : PE X (.Name x pos) (tE g W (eVar i)) := by
  refine ⟨fun pins s σ H Q I h => ?_⟩
  obtain ⟨B, G0, G, env, S, h⟩ := h
  unfold eVar at h
  split at h
  · rename_i m e1
    obtain ⟨v, G', e4, sm, rv, S'⟩ := S.frzAt e1
    exact (pe_var hN hv hd hcd).run pins s σ H Q I ⟨v, e4, h G' H sm v (S'.cons rv)⟩
  · exact False.elim h
theorem so_of (h : PE X e (tE g W f)) : PE X e (tO g W (oOf f)) := by
  refine ⟨fun pins s σ H Q I hq => ?_⟩
  obtain ⟨B, G0, G, env, S, hq⟩ := hq
  refine h.run pins s σ H Q I ⟨B, G0, G, env, S, (Fin.bind hq).mono fun m env1 G1 H1 s1 q v S1 => ?_⟩
  obtain ⟨G2, s2, rv, S2⟩ := S1.frz0
  exact q G2 H1 s2 v S2 rv
def eC (d : D) : FE := fun env => .ok (.im d, env)
theorem se_const {d : D} {v : V} (h : PE X e (tC v)) (hr : ∀ G, Rv g G d v) : PE X e (tE g W (eC d)) := by
  refine ⟨fun pins s σ H Q I hq => ?_⟩
  obtain ⟨B, G0, G, env, S, hq⟩ := hq
  exact h.run pins s σ H Q I (hq G H (Same.refl _) v (S.cons (hr G)))

/-! ### two-place operations, comparisons, subscripts -/
/-- both operands, then k with what they hold -/
def two {α : Type} (fo go : FO) (k : D → D → Env → Rs (α × Env)) : Env → Rs (α × Env) := fun env => do
  let (x, env) ← fo env
  let (y, env) ← go env
  let dx ← Rs.of (res env x)
  let dy ← Rs.of (res env y)
  k dx dy env
theorem Fin.of_bind {α β : Type} {B G0 G : Hp} {σ : St} {o : Option α} {k : α → Rs (β × Env)} {P : β → Env → Hp → Hp → Prop} (h : Fin g B G0 W σ G (Rs.of o >>= k) P) : ∃ a, o = some a ∧ Fin g B G0 W σ G (k a) P := by
  cases o with
  | none => exact False.elim h
  | some a => exact ⟨a, rfl, h⟩
theorem two_run {α : Type} (ha : PE X a (tO g W fo)) (hb : PE X b (tO g W go)) {pins : List (Addr × Obj)} {s : Shared} {σ : St} {H B G0 G : Hp} {env : Env} (I : Inv X pins σ H s) (S : Stt g B G0 G H σ env)
    {k : D → D → Env → Rs (α × Env)} {P : α → Env → Hp → Hp → Prop} (h : Fin g B G0 W σ G (two fo go k env) P) {β : Type} {Q : β → Shared → Prop} {f : Value → Value → Sem β}
    (hf : ∀ v u s2 x y H2 G2 env2 dx dy, Inv X pins σ H2 s2 → L2.RelV x v → L2.RelV y u → Same G G2 → Stt g B G0 G2 H2 σ env2 → Vw g G2 H2 dx x → Vw g G2 H2 dy y → Fin g B G0 W σ G2 (k dx dy env2) P → wpAny (model X.prog X.w) X.A (f v u) Q X.xe s2) :
    wpAny (model X.prog X.w) X.A (eval a X.env) (fun v s₁ => wpAny (model X.prog X.w) X.A (eval b X.env) (fun u s₂ => wpAny (model X.prog X.w) X.A (f v u) Q X.xe s₂) X.xe s₁) X.xe s := by
  unfold two at h
  refine thn (ha.run pins s σ H (fun x H1 => ∃ o env1 G1, Same G G1 ∧ Stt g B G0 G1 H1 σ env1 ∧ RO g G1 σ o x ∧ Fin g B G0 W σ G1 (do
      let (y, env2) ← go env1
      let dx ← Rs.of (res env2 o)
      let dy ← Rs.of (res env2 y)
      k dx dy env2) P) I ⟨B, G0, G, env, S, (Fin.bind h).mono fun o env1 G1 H1 s1 q v S1 r1 => ⟨o, env1, G1, s1, S1, r1, q⟩⟩) fun v s1 ⟨x, H1, I1, rx, o, env1, G1, sm1, S1, ro, h1⟩ => ?_
  refine thn (hb.run pins s1 σ H1 (fun y H2 => ∃ o2 env2 G2, Same G1 G2 ∧ Stt g B G0 G2 H2 σ env2 ∧ RO g G2 σ o2 y ∧ Fin g B G0 W σ G2 (do
      let dx ← Rs.of (res env2 o)
      let dy ← Rs.of (res env2 o2)
      k dx dy env2) P) I1 ⟨B, G0, G1, env1, S1, (Fin.bind h1).mono fun o2 env2 G2 H2 s2 q v S2 r2 => ⟨o2, env2, G2, s2, S2, r2, q⟩⟩) fun u s2 ⟨y, H2, I2, ry, o2, env2, G2, sm2, S2, ro2, h2⟩ => ?_
  obtain ⟨dx, e1, h2⟩ := Fin.of_bind h2
  obtain ⟨dy, e2, h2⟩ := Fin.of_bind h2
  exact hf v u s2 x y H2 G2 env2 dx dy I2 rx ry (sm1.trans sm2) S2 (S2.res (ro.same sm2) e1) (S2.res ro2 e2) h2
def eBin (op : D → D → Option M) (fo go : FO) : FE := two fo go fun dx dy env => do
  let m ← Rs.of (op dx dy)
  .ok (m, env)
theorem se_bin {op : Operator} {od : D → D → Option M} (ho : OpS X g (binaryOp op) od) (ha : PE X a (tO g W fo)) (hb : PE X b (tO g W go)) : PE X (.BinOp a op b pos) (tE g W (eBin od fo go)) := by
  refine ⟨fun pins s σ H Q I h => ?_⟩
  obtain ⟨B, G0, G, env, S, h⟩ := h
  refine wpAny_BinOp (two_run ha hb I S h fun v u s2 x y H2 G2 env2 dx dy I2 rx ry sm S2 v1 v2 h2 => ?_)
  obtain ⟨m, e, h2⟩ := Fin.of_bind h2
  exact ho pins s2 σ H2 B G0 G2 env2 dx dy m x y v u Q I2 S2 rx ry v1 v2 e fun z G' H' s' S' => h2 G' H' s' z S'
def tCmp' (f : D → D → Option Bool) (fo go : FO) : FT := two fo go fun dx dy env => do
  let b ← Rs.of (f dx dy)
  .ok (b, env)
/-- a test's answer as a value -/
def eOfT (t : FT) : FE := fun env => do
  let (b, env) ← t env
  .ok (.im (.bl b), env)
theorem cmp_run {op : CmpOp} {f : D → D → Option Bool} (ho : CmpS X g op f) {pins : List (Addr × Obj)} {s : Shared} {σ : St} {H B G0 G : Hp} {env : Env} {dx dy : D} {x y : V} {v u : Value} (I : Inv X pins σ H s) (S : Stt g B G0 G H σ env)
    (rx : L2.RelV x v) (ry : L2.RelV y u) (vx : Vw g G H dx x) (vy : Vw g G H dy y) {b : Bool} (e : f dx dy = some b) {Q : Value → Shared → Prop} (k : ∀ s' H' G', Inv X pins σ H' s' → Same G G' → Stt g B G0 G' H' σ env → Q (.bool b) s') :
    wpAny (model X.prog X.w) X.A (compareOp op v u) Q X.xe s := by
  refine thn (ho pins s σ H x y v u (fun z H' => z = .bl b ∧ H' = H) I rx ry ⟨G, dx, dy, b, S.s1, vx, vy, e, rfl, rfl⟩) fun r s' ⟨z, H', I', rz, ez, eH⟩ => ?_
  subst ez; subst eH
  cases (show r = Value.bool b from rz)
  exact k s' _ G I' (Same.refl _) S
theorem st_cmp {op : CmpOp} {f : D → D → Option Bool} (ho : CmpS X g op f) (hm : behindInMarks op b = false) (ha : PE X a (tO g W fo)) (hb : PE X b (tO g W go)) : PT X (.Compare a [op] [b] pos) (tT g W (tCmp' f fo go)) := by
  refine ⟨fun pins s σ H Q I h => ?_⟩
  obtain ⟨B, G0, G, env, S, h⟩ := h
  refine wpAny_isTrue_Compare1 (two_run ha hb I S h fun v u s2 x y H2 G2 env2 dx dy I2 rx ry sm S2 v1 v2 h2 => ?_) hm
  obtain ⟨c, e, h2⟩ := Fin.of_bind h2
  refine cmp_run ho I2 S2 rx ry v1 v2 e fun s' H' G' I' sm' S' => ?_
  exact wpAny_truthy_bool ⟨H', I', h2 G' H' sm' S'⟩
theorem se_cmp {op : CmpOp} {f : D → D → Option Bool} (ho : CmpS X g op f) (hm : behindInMarks op b = false) (ha : PE X a (tO g W fo)) (hb : PE X b (tO g W go)) : PE X (.Compare a [op] [b] pos) (tE g W (eOfT (tCmp' f fo go))) := by
  refine ⟨fun pins s σ H Q I h => ?_⟩
  obtain ⟨B, G0, G, env, S, h⟩ := h
  have h := Fin.bind h
  refine wpAny_Compare1 (two_run ha hb I S h fun v u s2 x y H2 G2 env2 dx dy I2 rx ry sm S2 v1 v2 h2 => ?_) hm
  obtain ⟨c, e, h2⟩ := Fin.of_bind h2
  refine cmp_run ho I2 S2 rx ry v1 v2 e fun s' H' G' I' sm' S' => ?_
  have h3 := h2 G' H' sm'
  exact ⟨.bl c, H', I', rfl, h3 G' H' (Same.refl _) (.bl c) (S'.cons (by simp [Rv]))⟩
def eIdx (fo go : FO) : FE := two fo go fun dx dy env => do
  let d ← Rs.of (idxD dx dy)
  .ok (.im d, env)
theorem se_idx (hK : X.K = g.K) (hu : X.A.units + 64 < cLine) (hs : PlainIx b) (ha : PE X a (tO g W fo)) (hb : PE X b (tO g W go)) : PE X (.Subscript a b pos) (tE g W (eIdx fo go)) := by
  refine ⟨fun pins s σ H Q I h => ?_⟩
  obtain ⟨B, G0, G, env, S, h⟩ := h
  refine Subscript_ (two_run ha hb I S h fun v u s2 x y H2 G2 env2 dx dy I2 rx ry sm S2 v1 v2 h2 => ?_)
  obtain ⟨d, e, h2⟩ := Fin.of_bind h2
  exact idx_ok hK hu a b I2 S2.s1 rx ry v1 v2 e (fun z rz => h2 G2 H2 (Same.refl _) z (S2.cons rz)) (hs _ _)
/-! ### truth, not, and, or -/
def tTru' (fo : FO) : FT := fun env => do
  let (x, env) ← fo env
  let dx ← Rs.of (res env x)
  let b ← Rs.of (truD dx)
  .ok (b, env)
theorem st_tru (hK : X.K = g.K) (he : ∀ whole, isTrue a X.env whole = (do let v ← whole; standAt a.pos; holding [v] (truthy v))) (ha : PE X a (tO g W fo)) : PT X a (tT g W (tTru' fo)) := by
  refine ⟨fun pins s σ H Q I h => ?_⟩
  obtain ⟨B, G0, G, env, S, h⟩ := h
  refine (pt_truth ha he).run pins s σ H Q I ⟨B, G0, G, env, S, (Fin.bind h).mono fun o env1 G1 H1 s1 q v S1 r1 => ?_⟩
  obtain ⟨d, e1, q⟩ := Fin.of_bind q
  obtain ⟨c, e2, q⟩ := Fin.of_bind q
  exact ⟨c, tru_v hK S1.s1 (S1.res r1 e1) e2, q G1 H1 (Same.refl _) S1⟩
end
end Eng
end
section
set_option Elab.async false
set_option linter.all false
set_option maxRecDepth 100000
namespace Eng
open PySem L2
open PyProof.Rows hiding St

/-! ### a value kept beside -/
section
variable {g : Gs} {B G0 G G' H H' : Hp} {σ σ' : St} {env env' : Env} {v : V} {m : M}
/-- what stands ahead is put out of reach: from there on the run goes on without it, and it is had back -/
theorem Stt.aside (S : Stt g B G0 G H (some v :: σ) (some m :: env)) :
    ∃ B', Stt g B' G G H σ env ∧ ∀ {G' H' : Hp} {σ' : St} {env' : Env}, Same G G' → Stt g B' G G' H' σ' env' → Stt g B G0 G' H' (some v :: σ') (some m :: env') := by
  obtain ⟨F, r, nd, fb⟩ := S.s4
  simp only [RmS] at r
  obtain ⟨v', r', F1, F2, e, h2, h3, rfl⟩ := r
  cases e
  have n1 := h2.nn
  have b1 : ∀ a ∈ F1, B a = none := fun a ha => fb a (by simp [ha])
  have dj := (List.nodup_append.mp nd).2.2
  refine ⟨fun a => if a ∈ F1 then H a else B a, ⟨S.s1, fun b o h => ?_, fun a _ h => h, F2, h3, (List.nodup_append.mp nd).2.1, fun a ha => ?_⟩, fun {G' H' σ' env'} sm S' => ?_⟩
  · by_cases hb : b ∈ F1
    · simpa [hb] using h
    · exact S.s2 b o (by simpa [hb] using h)
  · have : a ∉ F1 := fun h => dj a h a ha rfl
    simp only [if_neg this]
    exact fb a (by simp [ha])
  · obtain ⟨F', r', nd', fb'⟩ := S'.s4
    refine ⟨S'.s1, fun b o h => ?_, fun a hb hg => ?_, F1 ++ F', ?_, ?_, fun a ha => ?_⟩
    · have hb : b ∉ F1 := fun hm => by rw [b1 b hm] at h; cases h
      exact S'.s2 b o (by simpa [hb] using h)
    · have ha : a ∉ F1 := fun hm => hb (b1 a hm)
      exact S.s3 a hb (S'.s3 a (by simpa [ha] using hb) hg)
    · simp only [RmS]
      refine ⟨v, σ', F1, F', rfl, h2.kept ⟨sm, fun a ha hn => ?_, fun a ha => ?_⟩, r', rfl⟩
      · cases q : G' a with
        | none => rfl
        | some u => exact absurd hn (S'.s3 a (by simpa [ha] using (n1 a ha).2) (by rw [q]; simp))
      · cases q : H a with
        | none => exact absurd q (n1 a ha).2
        | some u => exact (S'.s2 a u (by simp [ha, q]))
    · refine List.nodup_append.mpr ⟨(List.nodup_append.mp nd).1, nd', fun a ha b hb e => ?_⟩
      subst e
      have := fb' a hb
      simp only [if_pos ha] at this
      exact (n1 a ha).2 this
    · rcases List.mem_append.mp ha with h | h
      · exact b1 a h
      · have := fb' a h
        by_cases hm : a ∈ F1
        · exact b1 a hm
        · simpa [hm] using this
end

section
variable {X : Cx} {g : Gs} {W : WX} {a b c e : Expr} {es : List Expr} {f fa fb : FE} {fo go ho : FO} {t u : FT} {pos : Pos}
/-! ### tests -/
def tNotF (t : FT) : FT := fun env => do
  let (b, env) ← t env
  .ok (!b, env)
def tAndF (t u : FT) : FT := fun env => do
  let (b, env) ← t env
  if b = true then u env else .ok (false, env)
def tOrF (t u : FT) : FT := fun env => do
  let (b, env) ← t env
  if b = true then .ok (true, env) else u env
theorem st_not (h : PT X a (tT g W t)) : PT X (.UnaryOp .Not a pos) (tT g W (tNotF t)) := by
  refine ⟨fun pins s σ H Q I hq => ?_⟩
  obtain ⟨B, G0, G, env, S, hq⟩ := hq
  exact (pt_not h).run pins s σ H Q I ⟨B, G0, G, env, S, (Fin.bind hq).mono fun c env1 G1 H1 s1 q S1 => q G1 H1 (Same.refl _) S1⟩
theorem sw_one (h : PT X a (tT g W t)) : PW X (.BoolOp .And [a] pos) (tT g W t) := pw_and1 h
theorem sw_one' (h : PT X a (tT g W t)) : PW X (.BoolOp .Or [a] pos) (tT g W t) := pw_or1 h
theorem sw_and (h : PT X a (tT g W t)) (k : PW X (.BoolOp .And (b :: es) pos) (tT g W u)) : PW X (.BoolOp .And (a :: b :: es) pos) (tT g W (tAndF t u)) := by
  refine ⟨fun wh pins s σ H Q I hq => ?_⟩
  obtain ⟨B, G0, G, env, S, hq⟩ := hq
  refine (pw_and h k).run wh pins s σ H Q I ⟨B, G0, G, env, S, (Fin.bind hq).mono fun c env1 G1 H1 s1 q S1 => ?_⟩
  cases c with
  | true => simp only [if_true] at q ⊢; exact ⟨B, G0, G1, env1, S1, q⟩
  | false => simp only [Bool.false_eq_true, if_false] at q ⊢; exact q G1 H1 (Same.refl _) S1
theorem sw_or (h : PT X a (tT g W t)) (k : PW X (.BoolOp .Or (b :: es) pos) (tT g W u)) : PW X (.BoolOp .Or (a :: b :: es) pos) (tT g W (tOrF t u)) := by
  refine ⟨fun wh pins s σ H Q I hq => ?_⟩
  obtain ⟨B, G0, G, env, S, hq⟩ := hq
  refine (pw_or h k).run wh pins s σ H Q I ⟨B, G0, G, env, S, (Fin.bind hq).mono fun c env1 G1 H1 s1 q S1 => ?_⟩
  cases c with
  | true => simp only [if_true] at q ⊢; exact q G1 H1 (Same.refl _) S1
  | false => simp only [Bool.false_eq_true, if_false] at q ⊢; exact ⟨B, G0, G1, env1, S1, q⟩
/-! ### values by truth -/
def eAndF (f k : FE) : FE := fun env => do
  let (m, env) ← f env
  let b ← Rs.of (truD (frz m))
  if b = true then k env else .ok (.im (frz m), env)
def eOrF (f k : FE) : FE := fun env => do
  let (m, env) ← f env
  let b ← Rs.of (truD (frz m))
  if b = true then .ok (.im (frz m), env) else k env
def eNotF (fo : FO) : FE := fun env => do
  let (x, env) ← fo env
  let dx ← Rs.of (res env x)
  let b ← Rs.of (truD dx)
  .ok (.im (.bl (!b)), env)
theorem se_one {op : BoolOp} (h : PE X a (tE g W f)) : PE X (.BoolOp op [a] pos) (tE g W f) := pe_one h
theorem se_and (hK : X.K = g.K) (h : PE X a (tE g W f)) (k : PE X (.BoolOp .And (b :: es) pos) (tE g W fb)) : PE X (.BoolOp .And (a :: b :: es) pos) (tE g W (eAndF f fb)) := by
  refine ⟨fun pins s σ H Q I hq => ?_⟩
  obtain ⟨B, G0, G, env, S, hq⟩ := hq
  refine (pe_andT h k).run pins s σ H Q I ⟨B, G0, G, env, S, (Fin.bind hq).mono fun m env1 G1 H1 s1 q v S1 => ?_⟩
  obtain ⟨c, e1, q⟩ := Fin.of_bind q
  obtain ⟨G2, s2, rv, S2⟩ := S1.frz0
  refine ⟨c, tru_v hK S2.s1 (rv.vw S2.s1) e1, ?_⟩
  cases c with
  | true => simp only [if_true] at q ⊢; exact ⟨B, G0, G2, env1, S2, q.more s2⟩
  | false => simp only [Bool.false_eq_true, if_false] at q ⊢; exact q G2 H1 s2 v (S2.cons rv)
theorem se_or (hK : X.K = g.K) (h : PE X a (tE g W f)) (k : PE X (.BoolOp .Or (b :: es) pos) (tE g W fb)) : PE X (.BoolOp .Or (a :: b :: es) pos) (tE g W (eOrF f fb)) := by
  refine ⟨fun pins s σ H Q I hq => ?_⟩
  obtain ⟨B, G0, G, env, S, hq⟩ := hq
  refine (pe_orT h k).run pins s σ H Q I ⟨B, G0, G, env, S, (Fin.bind hq).mono fun m env1 G1 H1 s1 q v S1 => ?_⟩
  obtain ⟨c, e1, q⟩ := Fin.of_bind q
  obtain ⟨G2, s2, rv, S2⟩ := S1.frz0
  refine ⟨c, tru_v hK S2.s1 (rv.vw S2.s1) e1, ?_⟩
  cases c with
  | true => simp only [if_true] at q ⊢; exact q G2 H1 s2 v (S2.cons rv)
  | false => simp only [Bool.false_eq_true, if_false] at q ⊢; exact ⟨B, G0, G2, env1, S2, q.more s2⟩
theorem se_not (hK : X.K = g.K) (h : PE X a (tO g W fo)) : PE X (.UnaryOp .Not a pos) (tE g W (eNotF fo)) := by
  refine ⟨fun pins s σ H Q I hq => ?_⟩
  obtain ⟨B, G0, G, env, S, hq⟩ := hq
  refine (pe_notT h).run pins s σ H Q I ⟨B, G0, G, env, S, (Fin.bind hq).mono fun o env1 G1 H1 s1 q v S1 r1 => ?_⟩
  obtain ⟨d, e1, q⟩ := Fin.of_bind q
  obtain ⟨c, e2, q⟩ := Fin.of_bind q
  exact ⟨c, tru_v hK S1.s1 (S1.res r1 e1) e2, q G1 H1 (Same.refl _) _ (S1.cons (by simp [Rv]))⟩
def eNegF (fo : FO) : FE := fun env => do
  let (x, env) ← fo env
  let dx ← Rs.of (res env x)
  match dx with
  | .int i => .ok (.im (.int (-i)), env)
  | _ => .bad
theorem se_neg (h : PE X a (tO g W fo)) : PE X (.UnaryOp .USub a pos) (tE g W (eNegF fo)) := by
  refine ⟨fun pins s σ H Q I hq => ?_⟩
  obtain ⟨B, G0, G, env, S, hq⟩ := hq
  refine (pe_un un_neg h).run pins s σ H Q I ⟨B, G0, G, env, S, (Fin.bind hq).mono fun o env1 G1 H1 s1 q v S1 r1 => ?_⟩
  obtain ⟨d, e1, q⟩ := Fin.of_bind q
  have vw := S1.res r1 e1
  cases d with
  | int i =>
    simp only [Vw, Rv] at vw
    subst vw
    exact ⟨i, rfl, q G1 H1 (Same.refl _) _ (S1.cons (by simp [Rv]))⟩
  | _ => exact False.elim q
def eIteF (t : FT) (f k : FE) : FE := fun env => do
  let (b, env) ← t env
  if b = true then f env else k env
theorem se_ite (hc : PT X c (tT g W t)) (h : PE X a (tE g W f)) (k : PE X b (tE g W fb)) : PE X (.IfExp c a b pos) (tE g W (eIteF t f fb)) := by
  refine ⟨fun pins s σ H Q I hq => ?_⟩
  obtain ⟨B, G0, G, env, S, hq⟩ := hq
  refine (pe_ifExp hc h k).run pins s σ H Q I ⟨B, G0, G, env, S, (Fin.bind hq).mono fun c env1 G1 H1 s1 q S1 => ?_⟩
  cases c with
  | true => simp only [if_true] at q ⊢; exact ⟨B, G0, G1, env1, S1, q⟩
  | false => simp only [Bool.false_eq_true, if_false] at q ⊢; exact ⟨B, G0, G1, env1, S1, q⟩
/-! ### a < b < c -/
def tChF (f1 f2 : D → D → Option Bool) (fo go ho : FO) : FT := fun env => do
  let (x, env) ← fo env
  let (y, env) ← go env
  let dx ← Rs.of (res env x)
  let dy ← Rs.of (res env y)
  let b ← Rs.of (f1 dx dy)
  if b = true then do
    let (z, env) ← ho env
    let dy ← Rs.of (res env y)
    let dz ← Rs.of (res env z)
    let c ← Rs.of (f2 dy dz)
    .ok (c, env)
  else .ok (false, env)
theorem chain_run {op op' : CmpOp} {f1 f2 : D → D → Option Bool} (h1 : CmpS X g op f1) (h2 : CmpS X g op' f2) (ha : PE X a (tO g W fo)) (hb : PE X b (tO g W go)) (hc : PE X c (tO g W ho))
    {B G0 G H : Hp} {σ : St} {env : Env} {P : Bool → Env → Hp → Hp → Prop} {Q : VK} (S : Stt g B G0 G H σ env) (h : Fin g B G0 W σ G (tChF f1 f2 fo go ho env) P) (k : ∀ b env' G' H', Stt g B G0 G' H' σ env' → Same G G' → P b env' G' H' → Q (.bl b) H') :
    tChain (rC g f1) (rC g f2) (tO g W fo) (tO g W go) (tO g W ho) σ H Q := by
  refine ⟨B, G0, G, env, S, (Fin.bind h).mono fun o env1 G1 H1 s1 q x S1 r1 => ?_⟩
  refine ⟨B, G0, G1, env1, S1, (Fin.bind q).mono fun o2 env2 G2 H2 s2 q y S2 r2 => ?_⟩
  obtain ⟨dx, e1, q⟩ := Fin.of_bind q
  obtain ⟨dy, e2, q⟩ := Fin.of_bind q
  obtain ⟨c, e3, q⟩ := Fin.of_bind q
  refine ⟨G2, dx, dy, c, S2.s1, S2.res (r1.same s2) e1, S2.res r2 e2, e3, c, rfl, ?_⟩
  cases c with
  | true =>
    simp only [if_true] at q ⊢
    refine ⟨B, G0, G2, env2, S2, (Fin.bind q).mono fun o3 env3 G3 H3 s3 q z S3 r3 => ?_⟩
    obtain ⟨dy', e4, q⟩ := Fin.of_bind q
    obtain ⟨dz, e5, q⟩ := Fin.of_bind q
    obtain ⟨c', e6, q⟩ := Fin.of_bind q
    exact ⟨G3, dy', dz, c', S3.s1, S3.res (r2.same s3) e4, S3.res r3 e5, e6, k c' env3 G3 H3 S3 ((s1.trans s2).trans s3) (q G3 H3 (Same.refl _))⟩
  | false =>
    simp only [Bool.false_eq_true, if_false] at q ⊢
    exact k false env2 G2 H2 S2 (s1.trans s2) (q G2 H2 (Same.refl _))
theorem st_chain {op op' : CmpOp} {f1 f2 : D → D → Option Bool} (h1 : CmpS X g op f1) (h2 : CmpS X g op' f2) (hm : lastMarks [op, op'] [b, c] = false) (ha : PE X a (tO g W fo)) (hb : PE X b (tO g W go)) (hc : PE X c (tO g W ho)) :
    PT X (.Compare a [op, op'] [b, c] pos) (tT g W (tChF f1 f2 fo go ho)) := by
  refine ⟨fun pins s σ H Q I hq => ?_⟩
  obtain ⟨B, G0, G, env, S, hq⟩ := hq
  exact (pt_chain h1 h2 ha hb hc hm).run pins s σ H Q I (chain_run h1 h2 ha hb hc S hq fun b env' G' H' S' _ p => ⟨b, rfl, p S'⟩)
theorem se_chain {op op' : CmpOp} {f1 f2 : D → D → Option Bool} (h1 : CmpS X g op f1) (h2 : CmpS X g op' f2) (hm : lastMarks [op, op'] [b, c] = false) (ha : PE X a (tO g W fo)) (hb : PE X b (tO g W go)) (hc : PE X c (tO g W ho)) :
    PE X (.Compare a [op, op'] [b, c] pos) (tE g W (eOfT (tChF f1 f2 fo go ho))) := by
  refine ⟨fun pins s σ H Q I hq => ?_⟩
  obtain ⟨B, G0, G, env, S, hq⟩ := hq
  exact (pe_chain h1 h2 ha hb hc hm).run pins s σ H Q I (chain_run h1 h2 ha hb hc S (Fin.bind hq) fun b env' G' H' S' _ p => p G' H' (Same.refl _) _ (S'.cons (by simp [Rv])))

/-! ### displays -/
abbrev FD := Env → Rs (List D × Env)
abbrev FM := Env → Rs (List M × Env)
def tD (g : Gs) (W : WX) (f : FD) : TA := fun σ H Q => ∃ B G0 G env, Stt g B G0 G H σ env ∧ Fin g B G0 W σ G (f env) fun ds env G' H' => ∀ vs, Stt g B G0 G' H' σ env → Rvs g G' ds vs → Q vs H'
def dNil : FD := fun env => .ok ([], env)
def dCons (f : FE) (k : FD) : FD := fun env => do
  let (m, env) ← f env
  let (ds, env) ← k env
  .ok (frz m :: ds, env)
theorem sd_nil : PA X [] (tD g W dNil) := by
  refine ⟨fun p pins s σ H Q I hq => ?_⟩
  obtain ⟨B, G0, G, env, S, hq⟩ := hq
  exact pa_nil.run p pins s σ H Q I (hq G H (Same.refl _) [] S (by simp [Rvs]))
theorem sd_cons (hs : starEach (e :: es) X.env = (false, eval e X.env) :: starEach es X.env) {k : FD} (h : PE X e (tE g W f)) (hk : PA X es (tD g W k)) : PA X (e :: es) (tD g W (dCons f k)) := by
  refine ⟨fun p pins s σ H Q I hq => ?_⟩
  obtain ⟨B, G0, G, env, S, hq⟩ := hq
  refine (pa_cons h hk hs).run p pins s σ H Q I ⟨B, G0, G, env, S, (Fin.bind hq).mono fun m env1 G1 H1 s1 q v S1 => ?_⟩
  obtain ⟨G2, s2, rv, S2⟩ := S1.frz0
  refine ⟨B, G0, G2, env1, S2, (Fin.bind (q.more s2)).mono fun ds env3 G3 H3 s3 q vs S3 r3 => ?_⟩
  exact q G3 H3 (Same.refl _) (v :: vs) S3 (by simp only [Rvs]; exact ⟨v, vs, rfl, rv.same s3, r3⟩)
def eTup (k : FD) : FE := fun env => do
  let (ds, env) ← k env
  if ds.length ≤ sizeLine then .ok (.im (.tup ds), env) else .bad
theorem se_tup {x1 : Nat} {k : FD} (h : PA X es (tD g W k)) : PE X (.Tuple es x1 pos) (tE g W (eTup k)) := by
  refine ⟨fun pins s σ H Q I hq => ?_⟩
  obtain ⟨B, G0, G, env, S, hq⟩ := hq
  refine (pe_tupF h).run pins s σ H Q I ⟨B, G0, G, env, S, (Fin.bind hq).mono fun ds env1 G1 H1 s1 q vs S1 r1 => ?_⟩
  by_cases hl : ds.length ≤ sizeLine
  · simp only [if_pos hl] at q
    exact ⟨by rw [r1.length]; exact hl, Cont.tup (fun v G' H' s' S' => q G' H' s' v S') S1 r1⟩
  · simp only [if_neg hl] at q
    exact False.elim q
/-- several values ahead, each its own -/
def tMs (g : Gs) (W : WX) (f : FM) : TA := fun σ H Q => ∃ B G0 G env, Stt g B G0 G H σ env ∧ Fin g B G0 W σ G (f env) fun ms env G' H' => ∀ vs, vs.length = ms.length → Stt g B G0 G' H' (vs.map some ++ σ) (ms.map some ++ env) → Q vs H'
def mNil : FM := fun env => .ok ([], env)
def mCons (f : FE) (k : FM) : FM := fun env => do
  let (m, env) ← f env
  let (ms, env) ← k env
  .ok (m :: ms, env)
theorem sm_nil : PA X [] (tMs g W mNil) := by
  refine ⟨fun p pins s σ H Q I hq => ?_⟩
  obtain ⟨B, G0, G, env, S, hq⟩ := hq
  exact pa_nil.run p pins s σ H Q I (hq G H (Same.refl _) [] rfl S)
/-- an exception beside a value that is put out of reach -/
theorem Fin.aside {α : Type} {B B' G0 G : Hp} {σ : St} {r : Rs (α × Env)} {P P' : α → Env → Hp → Hp → Prop} (h : Fin g B G0 W σ G r P)
    (back : ∀ {G' H' : Hp} {env' : Env}, Same G G' → Stt g B' G G' H' σ env' → Stt g B G0 G' H' σ env') (k : ∀ a env G' H', Same G G' → P a env G' H' → P' a env G' H') : Fin g B' G W σ G r P' := by
  cases r with
  | bad => exact h
  | exc c fs env => exact fun d vs G' H' s' S' e1 e2 e3 => h d vs G' H' s' (back s' S') e1 e2 e3
  | ok p => exact fun G' H' s' => k _ _ _ _ s' (h G' H' s')
theorem sm_cons (hs : starEach (e :: es) X.env = (false, eval e X.env) :: starEach es X.env) {k : FM} (h : PE X e (tE g W f)) (hk : PA X es (tMs g W k)) : PA X (e :: es) (tMs g W (mCons f k)) := by
  refine ⟨fun p pins s σ H Q I hq => ?_⟩
  obtain ⟨B, G0, G, env, S, hq⟩ := hq
  refine (pa_cons h hk hs).run p pins s σ H Q I ⟨B, G0, G, env, S, (Fin.bind hq).mono fun m env1 G1 H1 s1 q v S1 => ?_⟩
  obtain ⟨B', S2, back⟩ := S1.aside
  refine ⟨B', G1, G1, env1, S2, (Fin.bind q).aside (fun s' S' => (back s' S').tail) fun ms env3 G3 H3 s3 q vs hl S3 => ?_⟩
  exact q G3 H3 (Same.refl _) (v :: vs) (by simp [hl]) (back s3 S3)
theorem RmS.split {G H : Hp} {σ : St} {env : Env} : ∀ {ms : List M} {vs : List V} {F}, vs.length = ms.length → RmS g G H (ms.map some ++ env) (vs.map some ++ σ) F → ∃ F1 F2, F = F1 ++ F2 ∧ Rms g G H ms vs F1 ∧ RmS g G H env σ F2
  | [], [], F, _, h => ⟨[], F, rfl, by simp [Rms], h⟩
  | [], _ :: _, _, hl, _ => by simp at hl
  | _ :: _, [], _, hl, _ => by simp at hl
  | m :: ms, v :: vs, F, hl, h => by
    simp only [List.map_cons, List.cons_append, RmS] at h
    obtain ⟨v', r, F1, F2, e, h1, h2, rfl⟩ := h
    cases e
    obtain ⟨F3, F4, rfl, h3, h4⟩ := RmS.split (by simpa using hl) h2
    exact ⟨F1 ++ F3, F4, by simp, by simp only [Rms]; exact ⟨v, vs, F1, F3, rfl, h1, h3, rfl⟩, h4⟩
theorem RmS.join {G H : Hp} {σ : St} {env : Env} : ∀ {ms : List M} {vs : List V} {F1 F2}, Rms g G H ms vs F1 → RmS g G H env σ F2 → RmS g G H (ms.map some ++ env) (vs.map some ++ σ) (F1 ++ F2)
  | [], vs, F1, F2, h, k => by
    simp only [Rms] at h
    rw [h.1, h.2]; simpa using k
  | m :: ms, vs, F1, F2, h, k => by
    simp only [Rms] at h
    obtain ⟨v, r, F3, F4, rfl, h1, h2, rfl⟩ := h
    simp only [List.map_cons, List.cons_append, RmS]
    exact ⟨v, _, F3, F4 ++ F2, rfl, h1, RmS.join h2 k, by simp⟩
/-- a new list of what stands ahead -/
theorem Stt.list {B G0 G H : Hp} {σ : St} {env : Env} {ms : List M} {vs : List V} (S : Stt g B G0 G H (vs.map some ++ σ) (ms.map some ++ env)) (hl : vs.length = ms.length) {p : Addr} (hp : H p = none) : Stt g B G0 G (upd H p (.lst vs)) (some (.ref p) :: σ) (some (.ls ms) :: env) := by
  have S' := S.heap (o := .lst vs) hp
  obtain ⟨F, r, nd, fb⟩ := S.s4
  have ne := ne_dom r.nn hp
  have r1 := r.kept (G' := G) (H' := upd H p (.lst vs)) ⟨Same.refl _, fun _ _ h => h, fun a ha => by rw [upd_ne (ne a ha)]⟩
  obtain ⟨F1, F2, rfl, h1, h2⟩ := r1.split hl
  refine ⟨S'.s1, S'.s2, S'.s3, (p :: F1) ++ F2, ?_, ?_, fun a ha => ?_⟩
  · simp only [RmS, Rm]; exact ⟨_, σ, p :: F1, F2, rfl, ⟨p, vs, F1, rfl, S.s1.free hp, upd_same, h1, rfl⟩, h2, rfl⟩
  · exact List.nodup_cons.mpr ⟨fun hm => ne p hm rfl, nd⟩
  · rcases List.mem_cons.mp ha with rfl | ha
    · exact S.s2.free hp
    · exact fb a ha
def eLst (k : FM) : FE := fun env => do
  let (ms, env) ← k env
  if ms.length ≤ sizeLine then .ok (.ls ms, env) else .bad
theorem se_lst {k : FM} (h : PA X es (tMs g W k)) : PE X (.List es pos) (tE g W (eLst k)) := by
  refine ⟨fun pins s σ H Q I hq => ?_⟩
  obtain ⟨B, G0, G, env, S, hq⟩ := hq
  refine (pe_lst h).run pins s σ H Q I ⟨B, G0, G, env, S, (Fin.bind hq).mono fun ms env1 G1 H1 s1 q vs hl S1 => ?_⟩
  by_cases hz : ms.length ≤ sizeLine
  · simp only [if_pos hz] at q
    exact ⟨by rw [hl]; exact hz, fun p hp => q G1 _ (Same.refl _) _ (S1.list hl hp)⟩
  · simp only [if_neg hz] at q
    exact False.elim q
/-! ### slices -/
abbrev FI := Env → Rs (Option Int × Env)
def tI' (g : Gs) (W : WX) (f : FI) : TO := fun σ H Q => ∃ B G0 G env, Stt g B G0 G H σ env ∧ Fin g B G0 W σ G (f env) fun o env G' H' => Stt g B G0 G' H' σ env → Q o H'
def iNone : FI := fun env => .ok (none, env)
def iSome (fo : FO) : FI := fun env => do
  let (x, env) ← fo env
  match ← Rs.of (res env x) with
  | .int i => .ok (some i, env)
  | _ => .bad
theorem si_none : PO X none (tI' g W iNone) := by
  refine ⟨fun pins s σ H Q I hq => ?_⟩
  obtain ⟨B, G0, G, env, S, hq⟩ := hq
  exact po_none.run pins s σ H Q I (hq G H (Same.refl _) S)
theorem si_some (h : PE X e (tO g W fo)) : PO X (some e) (tI' g W (iSome fo)) := by
  refine ⟨fun pins s σ H Q I hq => ?_⟩
  obtain ⟨B, G0, G, env, S, hq⟩ := hq
  refine (po_some h).run pins s σ H Q I ⟨B, G0, G, env, S, (Fin.bind hq).mono fun o env1 G1 H1 s1 q v S1 r1 => ?_⟩
  obtain ⟨d, e1, q⟩ := Fin.of_bind q
  have vw := S1.res r1 e1
  cases d with
  | int i =>
    simp only [Vw, Rv] at vw
    subst vw
    exact ⟨i, rfl, q G1 H1 (Same.refl _) S1⟩
  | _ => exact False.elim q
def eSlc (fo : FO) (lo hi : FI) : FE := fun env => do
  let (x, env) ← fo env
  let (l, env) ← lo env
  let (h, env) ← hi env
  let dx ← Rs.of (res env x)
  let m ← Rs.of (slcD dx l h)
  .ok (m, env)
theorem se_slc (hK : X.K = g.K) {lo hi : Option Expr} {fl fh : FI} {p2 : Pos} (h : PE X a (tO g W fo)) (h1 : PO X lo (tI' g W fl)) (h2 : PO X hi (tI' g W fh)) : PE X (.Subscript a (.Slice lo hi none p2) pos) (tE g W (eSlc fo fl fh)) := by
  refine ⟨fun pins s σ H Q I hq => ?_⟩
  obtain ⟨B, G0, G, env, S, hq⟩ := hq
  have sr : SlR X (fun x l u H Q => ∃ B G0 G σ env dx m, Stt g B G0 G H σ env ∧ Vw g G H dx x ∧ slcD dx l u = some m ∧ Cont g B G0 G σ env m Q) := by
    intro pins s σ H x v vl vu lo hi sl Q I rx hs pl pu ⟨B, G0, G, σ', env, dx, m, S, vx, e, k⟩
    exact slc_ok hK I S rx hs pl pu vx e k
  refine (pe_slice sr h h1 h2).run pins s σ H Q I ⟨B, G0, G, env, S, (Fin.bind hq).mono fun o env1 G1 H1 s1 q v S1 r1 => ?_⟩
  refine ⟨B, G0, G1, env1, S1, (Fin.bind q).mono fun l env2 G2 H2 s2 q S2 => ?_⟩
  refine ⟨B, G0, G2, env2, S2, (Fin.bind q).mono fun u env3 G3 H3 s3 q S3 => ?_⟩
  obtain ⟨dx, e1, q⟩ := Fin.of_bind q
  obtain ⟨m, e2, q⟩ := Fin.of_bind q
  exact ⟨B, G0, G3, σ, env3, dx, m, S3, S3.res (r1.same (s2.trans s3)) e1, e2, fun v G' H' s' S' => q G' H' s' v S'⟩
end
end Eng
end
section
set_option Elab.async false
set_option linter.all false
set_option maxRecDepth 100000
namespace Eng
open PySem L2
open PyProof.Rows hiding St

/-! ### arguments; calls of what is built in, by values -/
def resAll (env : Env) : List Opd → Option (List D)
  | [] => some []
  | o :: os => (res env o).bind fun d => (resAll env os).map (d :: ·)
def Vws (g : Gs) (G H : Hp) : List D → List V → Prop
  | [], vs => vs = []
  | d :: ds, vs => ∃ v r, vs = v :: r ∧ Vw g G H d v ∧ Vws g G H ds r
theorem Stt.resAll {g : Gs} {B G0 G H : Hp} {σ : St} {env : Env} (S : Stt g B G0 G H σ env) : ∀ {os : List Opd} {vs : List V} {ds : List D}, ROs g G σ os vs → Eng.resAll env os = some ds → Vws g G H ds vs
  | [], vs, ds, h, e => by
    simp only [Eng.resAll, Option.some.injEq] at e; subst e
    exact h
  | o :: os, vs, ds, h, e => by
    simp only [Eng.resAll, Option.bind_eq_some_iff, Option.map_eq_some_iff] at e
    obtain ⟨d, e1, ds', e2, rfl⟩ := e
    simp only [ROs] at h
    obtain ⟨v, r, rfl, h1, h2⟩ := h
    exact ⟨v, r, rfl, S.res h1 e1, S.resAll h2 e2⟩
def aNil : FA := fun env => .ok ([], env)
def aCons (fo : FO) (k : FA) : FA := fun env => do
  let (o, env) ← fo env
  let (os, env) ← k env
  .ok (o :: os, env)
def rB (g : Gs) (fn : List D → Option M) : List V → Hp → VK → Prop := fun vs H Q => ∃ B G0 G σ env ds m, Stt g B G0 G H σ env ∧ Vws g G H ds vs ∧ fn ds = some m ∧ Cont g B G0 G σ env m Q
def CallS (X : Cx) (g : Gs) (f : Value) (fn : List D → Option M) : Prop := CallR X f (rB g fn)
def eCall (fn : List D → Option M) (k : FA) : FE := fun env => do
  let (os, env) ← k env
  let ds ← Rs.of (resAll env os)
  let m ← Rs.of (fn ds)
  .ok (m, env)
section
variable {X : Cx} {g : Gs} {W : WX} {e : Expr} {es : List Expr} {fo : FO} {k : FA} {pos p : Pos} {x : Str} {fn : List D → Option M}
theorem sa_nil : PA X [] (tA' g W aNil) := by
  refine ⟨fun p pins s σ H Q I hq => ?_⟩
  obtain ⟨B, G0, G, env, S, hq⟩ := hq
  exact pa_nil.run p pins s σ H Q I (hq G H (Same.refl _) [] S rfl)
theorem sa_cons (hs : starEach (e :: es) X.env = (false, eval e X.env) :: starEach es X.env) (h : PE X e (tO g W fo)) (hk : PA X es (tA' g W k)) : PA X (e :: es) (tA' g W (aCons fo k)) := by
  refine ⟨fun p pins s σ H Q I hq => ?_⟩
  obtain ⟨B, G0, G, env, S, hq⟩ := hq
  refine (pa_cons h hk hs).run p pins s σ H Q I ⟨B, G0, G, env, S, (Fin.bind hq).mono fun o env1 G1 H1 s1 q v S1 r1 => ?_⟩
  refine ⟨B, G0, G1, env1, S1, (Fin.bind q).mono fun os env3 G3 H3 s3 q vs S3 r3 => ?_⟩
  exact q G3 H3 (Same.refl _) (v :: vs) S3 ⟨v, vs, rfl, r1.same s3, r3⟩
theorem tCB_run {B G0 G H : Hp} {σ : St} {env : Env} {Q : VK} (S : Stt g B G0 G H σ env) (hq : Fin g B G0 W σ G (eCall fn k env) fun m env G' H' => ∀ v, Stt g B G0 G' H' (some v :: σ) (some m :: env) → Q v H') : tCB (rB g fn) (tA' g W k) σ H Q := by
  refine ⟨B, G0, G, env, S, (Fin.bind hq).mono fun os env1 G1 H1 s1 q vs S1 r1 => ?_⟩
  obtain ⟨ds, e1, q⟩ := Fin.of_bind q
  obtain ⟨m, e2, q⟩ := Fin.of_bind q
  exact ⟨B, G0, G1, σ, env1, ds, m, S1, S1.resAll r1 e1, e2, fun v G' H' s' S' => q G' H' s' v S'⟩
theorem se_callB {id : String} (hc : CallS X g (.builtin id) fn) (hg : Gl X x) (hm : X.mg x = none) (hv : bootBuiltins x = some (.builtin id)) (ha : PA X (e :: es) (tA' g W k)) (hn : x ≠ "__name__") (hdb : (x == ("__debug__" : Str)) = false)
    (he : starEach (e :: es) X.env = (false, eval e X.env) :: starEach es X.env) (hpl : (backTo pos (starEach es X.env)).any (·.1) = false) : PE X (.Call (.Name x p) (e :: es) [] pos) (tE g W (eCall fn k)) := by
  refine ⟨fun pins s σ H Q I hq => ?_⟩
  obtain ⟨B, G0, G, env, S, hq⟩ := hq
  exact (pe_callB hc hg hm hv ha hn hdb he hpl).run pins s σ H Q I (tCB_run S hq)
theorem se_callTy {T : String} (hc : CallS X g (.type T) fn) (hg : Gl X x) (hm : X.mg x = none) (hv : bootBuiltins x = some (.type T)) (ha : PA X (e :: es) (tA' g W k)) (hn : x ≠ "__name__") (hdb : (x == ("__debug__" : Str)) = false)
    (he : starEach (e :: es) X.env = (false, eval e X.env) :: starEach es X.env) (hpl : (backTo pos (starEach es X.env)).any (·.1) = false) : PE X (.Call (.Name x p) (e :: es) [] pos) (tE g W (eCall fn k)) := by
  refine ⟨fun pins s σ H Q I hq => ?_⟩
  obtain ⟨B, G0, G, env, S, hq⟩ := hq
  exact (pe_callTy hc hg hm hv ha hn hdb he hpl).run pins s σ H Q I (tCB_run S hq)

/-! ### the functions -/
def lenF : List D → Option M
  | [.lst xs] => some (.im (.int xs.length))
  | [.tup xs] => some (.im (.int xs.length))
  | [.str z] => if z.length ≤ sizeLine then some (.im (.int z.length)) else none
  | [.dct ks _] => some (.im (.int ks.length))
  | _ => none
def listF : List D → Option M
  | [.lst xs] => some (.ls (xs.map .im))
  | [.tup xs] => some (.ls (xs.map .im))
  | _ => none
def tupF : List D → Option M
  | [.lst xs] => some (.im (.tup xs))
  | [.tup xs] => some (.im (.tup xs))
  | _ => none
def sumF : List D → Option M
  | [.lst xs] => (intsD xs).map fun ns => .im (.int ns.sum)
  | _ => none
def maxF : List D → Option M
  | [.lst xs] => (intsD xs).bind fun ns => ns.max?.map fun m => .im (.int m)
  | [.tup xs] => (intsD xs).bind fun ns => ns.max?.map fun m => .im (.int m)
  | [.int i, .int j] => some (.im (.int (if j > i then j else i)))
  | _ => none
def minF : List D → Option M
  | [.lst xs] => (intsD xs).bind fun ns => ns.min?.map fun m => .im (.int m)
  | [.tup xs] => (intsD xs).bind fun ns => ns.min?.map fun m => .im (.int m)
  | [.int i, .int j] => some (.im (.int (if j < i then j else i)))
  | _ => none
def boolsD : List D → Option (List Bool)
  | [] => some []
  | .bl b :: r => (boolsD r).map (b :: ·)
  | _ :: _ => none
def anyF : List D → Option M
  | [.lst xs] => (boolsD xs).map fun bs => .im (.bl (bs.any id))
  | _ => none
def allF : List D → Option M
  | [.lst xs] => (boolsD xs).map fun bs => .im (.bl (bs.all id))
  | _ => none
def intF : List D → Option M
  | [.int i] => some (.im (.int i))
  | [.bl b] => some (.im (.int (if b then 1 else 0)))
  | _ => none
def absF : List D → Option M
  | [.int i] => some (.im (.int (if i < 0 then -i else i)))
  | _ => none
def strF : List D → Option M
  | [.int i] => if i.natAbs.log2 < 1920 then some (.im (.str (toString i))) else none
  | [.str z] => some (.im (.str z))
  | _ => none
def sortedF : List D → Option M
  | [.lst xs] => (intsD xs).map fun ns => .ls ((ns.mergeSort (fun a b => decide (a ≤ b))).map fun n => .im (.int n))
  | _ => none
theorem vws1 {G H : Hp} {d : D} {vs : List V} (h : Vws g G H [d] vs) : ∃ v, vs = [v] ∧ Vw g G H d v := by
  obtain ⟨v, r, rfl, h1, h2⟩ := h
  have h2' : r = [] := h2
  subst h2'
  exact ⟨v, rfl, h1⟩
theorem vws2 {G H : Hp} {d e : D} {vs : List V} (h : Vws g G H [d, e] vs) : ∃ v w, vs = [v, w] ∧ Vw g G H d v ∧ Vw g G H e w := by
  obtain ⟨v, r, rfl, h1, h2⟩ := h
  obtain ⟨w, rfl, h3⟩ := vws1 h2
  exact ⟨v, w, rfl, h1, h3⟩
theorem Cont.sc {B G0 G H : Hp} {σ : St} {env : Env} {d : D} {v : V} {Q : VK} (k : Cont g B G0 G σ env (.im d) Q) (S : Stt g B G0 G H σ env) (h : ∀ G, Rv g G d v) : Q v H := k.val S (h G)
theorem cs_len (hK : X.K = g.K) : CallS X g (.builtin "len") lenF := by
  intro pins s σ H xs us Q I r ⟨B, G0, G, σ', env, ds, m, S, vw, e, k⟩
  unfold lenF at e
  split at e
  · cases e
    obtain ⟨v, rfl, a, vs, rfl, h1, h2⟩ := vws1 vw
    exact call_len_seq pins s σ H _ us Q I r ⟨a, vs, rfl, .inl (SqL.of h1), by rw [h2.length]; exact k.sc S fun _ => by simp [Rv]⟩
  · cases e
    obtain ⟨v, rfl, h⟩ := vws1 vw
    simp only [Vw, Rv] at h
    obtain ⟨a, vs, rfl, h1, h2⟩ := h
    exact call_len_seq pins s σ H _ us Q I r ⟨a, vs, rfl, .inr (by rw [hK]; exact sqT_same S.s1 h1), by rw [h2.length]; exact k.sc S fun _ => by simp [Rv]⟩
  · split at e
    · rename_i hz
      cases e
      obtain ⟨v, rfl, h⟩ := vws1 vw
      simp only [Vw, Rv] at h
      subst h
      exact call_len_str pins s σ H _ us Q I r ⟨_, rfl, hz, k.sc S fun _ => by simp [Rv]⟩
    · cases e
  · cases e
    obtain ⟨v, rfl, h⟩ := vws1 vw
    obtain ⟨a, vs, rfl, h1, h2, h3⟩ := h
    obtain ⟨u, rfl, hu⟩ := vals1 r
    cases (show u = Value.ref a from hu)
    refine d_len I (.inl h1) fun t s' I' => ⟨.int _, H, I', ⟨t, rfl⟩, ?_⟩
    rw [List.length_zip, ← h2, Nat.min_self]
    exact k.sc S fun _ => by simp [Rv]
  · cases e
theorem cs_list (hK : X.K = g.K) : CallS X g (.type "list") listF := by
  intro pins s σ H xs us Q I r ⟨B, G0, G, σ', env, ds, m, S, vw, e, k⟩
  unfold listF at e
  split at e
  · cases e
    obtain ⟨v, rfl, a, vs, rfl, h1, h2⟩ := vws1 vw
    exact call_list_of pins s σ H _ us Q I r ⟨a, vs, rfl, .inl (SqL.of h1), k.lst S h2⟩
  · cases e
    obtain ⟨v, rfl, h⟩ := vws1 vw
    simp only [Vw, Rv] at h
    obtain ⟨a, vs, rfl, h1, h2⟩ := h
    exact call_list_of pins s σ H _ us Q I r ⟨a, vs, rfl, .inr (by rw [hK]; exact sqT_same S.s1 h1), k.lst S h2⟩
  · cases e
theorem cs_tuple (hK : X.K = g.K) : CallS X g (.type "tuple") tupF := by
  intro pins s σ H xs us Q I r ⟨B, G0, G, σ', env, ds, m, S, vw, e, k⟩
  unfold tupF at e
  split at e
  · cases e
    obtain ⟨v, rfl, a, vs, rfl, h1, h2⟩ := vws1 vw
    exact call_tupleF pins s σ H _ us Q I r ⟨a, vs, rfl, .inl ⟨SqL.of h1, k.tup S h2⟩⟩
  · cases e
    obtain ⟨v, rfl, h⟩ := vws1 vw
    have h' : Rv g G (.tup _) v := h
    simp only [Vw, Rv] at h
    obtain ⟨a, vs, rfl, h1, h2⟩ := h
    exact call_tupleF pins s σ H _ us Q I r ⟨a, vs, rfl, .inr ⟨by rw [hK]; exact sqT_same S.s1 h1, k.val S h'⟩⟩
  · cases e
theorem cs_sum (hc : X.calm = true) : CallS X g (.builtin "sum") sumF := by
  intro pins s σ H xs us Q I r ⟨B, G0, G, σ', env, ds, m, S, vw, e, k⟩
  unfold sumF at e
  split at e
  · simp only [Option.map_eq_some_iff] at e
    obtain ⟨ns, e1, rfl⟩ := e
    obtain ⟨v, rfl, a, vs, rfl, h1, h2⟩ := vws1 vw
    have := h2.ints e1
    subst this
    exact cr_sum hc pins s σ H _ us Q I r ⟨a, ns, rfl, SqL.of h1, k.sc S fun _ => by simp [Rv]⟩
  · cases e
theorem cs_any (hc : X.calm = true) : CallS X g (.builtin "any") anyF := by
  intro pins s σ H xs us Q I r ⟨B, G0, G, σ', env, ds, m, S, vw, e, k⟩
  unfold anyF at e
  split at e
  · simp only [Option.map_eq_some_iff] at e
    obtain ⟨ns, e1, rfl⟩ := e
    obtain ⟨v, rfl, a, vs, rfl, h1, h2⟩ := vws1 vw
    have := bools_v e1 h2
    subst this
    exact cr_any hc pins s σ H _ us Q I r ⟨a, ns, rfl, SqL.of h1, k.sc S fun _ => by simp [Rv]⟩
  · cases e
where bools_v {G : Hp} : ∀ {ds : List D} {ns : List Bool} {vs : List V}, boolsD ds = some ns → Rvs g G ds vs → vs = ns.map V.bl
  | [], ns, vs, e, h => by
    simp only [boolsD, Option.some.injEq] at e; subst e
    simp only [Rvs] at h; simpa using h
  | d :: r, ns, vs, e, h => by
    cases d <;> simp only [boolsD, Option.map_eq_some_iff, reduceCtorEq] at e
    obtain ⟨ms, e1, rfl⟩ := e
    simp only [Rvs, Rv] at h
    obtain ⟨v, r', rfl, rfl, h2⟩ := h
    simp [bools_v e1 h2]
theorem cs_all (hc : X.calm = true) : CallS X g (.builtin "all") allF := by
  intro pins s σ H xs us Q I r ⟨B, G0, G, σ', env, ds, m, S, vw, e, k⟩
  unfold allF at e
  split at e
  · simp only [Option.map_eq_some_iff] at e
    obtain ⟨ns, e1, rfl⟩ := e
    obtain ⟨v, rfl, a, vs, rfl, h1, h2⟩ := vws1 vw
    have := cs_any.bools_v e1 h2
    subst this
    exact cr_all hc pins s σ H _ us Q I r ⟨a, ns, rfl, SqL.of h1, k.sc S fun _ => by simp [Rv]⟩
  · cases e
theorem cs_int : CallS X g (.type "int") intF := by
  intro pins s σ H xs us Q I r ⟨B, G0, G, σ', env, ds, m, S, vw, e, k⟩
  unfold intF at e
  split at e
  · cases e
    obtain ⟨v, rfl, h⟩ := vws1 vw
    simp only [Vw, Rv] at h; subst h
    exact call_int1 pins s σ H _ us Q I r (.inl ⟨_, rfl, k.sc S fun _ => by simp [Rv]⟩)
  · cases e
    obtain ⟨v, rfl, h⟩ := vws1 vw
    simp only [Vw, Rv] at h; subst h
    exact call_int1 pins s σ H _ us Q I r (.inr ⟨_, rfl, k.sc S fun _ => by simp [Rv]⟩)
  · cases e
theorem cs_abs : CallS X g (.builtin "abs") absF := by
  intro pins s σ H xs us Q I r ⟨B, G0, G, σ', env, ds, m, S, vw, e, k⟩
  unfold absF at e
  split at e
  · cases e
    obtain ⟨v, rfl, h⟩ := vws1 vw
    simp only [Vw, Rv] at h; subst h
    exact call_abs pins s σ H _ us Q I r ⟨_, rfl, k.sc S fun _ => by simp [Rv]⟩
  · cases e
theorem cs_str : CallS X g (.type "str") strF := by
  intro pins s σ H xs us Q I r ⟨B, G0, G, σ', env, ds, m, S, vw, e, k⟩
  unfold strF at e
  split at e
  · split at e
    · rename_i hz
      cases e
      obtain ⟨v, rfl, h⟩ := vws1 vw
      simp only [Vw, Rv] at h; subst h
      exact call_str_int pins s σ H _ us Q I r ⟨_, rfl, hz, k.sc S fun _ => by simp [Rv]⟩
    · cases e
  · cases e
    obtain ⟨v, rfl, h⟩ := vws1 vw
    simp only [Vw, Rv] at h; subst h
    exact SkE.call_str_str pins s σ H _ us Q I r ⟨_, rfl, k.sc S fun _ => by simp [Rv]⟩
  · cases e
theorem sorted_ints {ns ms : List Int} (p : ms.Perm ns) (h : ms.Pairwise (· ≤ ·)) : ms = ns.mergeSort (fun a b => decide (a ≤ b)) := by
  have h1 := List.pairwise_mergeSort (le := fun a b : Int => decide (a ≤ b)) (fun a b c h1 h2 => by simp at *; omega) (fun a b => by simp; omega) ns
  have p1 := List.mergeSort_perm ns (fun a b : Int => decide (a ≤ b))
  refine List.Perm.eq_of_pairwise (le := fun a b : Int => a ≤ b) (fun a b _ _ h1 h2 => by omega) h (h1.imp fun h => by simpa using h) (p.trans p1.symm)
theorem cs_sorted (hK : X.K = g.K) : CallS X g (.builtin "sorted") sortedF := by
  intro pins s σ H xs us Q I r ⟨B, G0, G, σ', env, ds, m, S, vw, e, k⟩
  unfold sortedF at e
  split at e
  · simp only [Option.map_eq_some_iff] at e
    obtain ⟨ns, e1, rfl⟩ := e
    obtain ⟨v, rfl, a, vs, rfl, h1, h2⟩ := vws1 vw
    have := h2.ints e1
    subst this
    refine cr_sortedI pins s σ H _ us Q I r ⟨a, ns, rfl, SqL.of h1, fun ms p hp hs hn => ?_⟩
    rw [sorted_ints hp hs]
    have k' : Cont g B G0 G σ' env (.ls (((ns.mergeSort (fun a b => decide (a ≤ b))).map D.int).map .im)) Q := by simpa [Function.comp_def] using k
    exact k'.lst S (rvs_ints _) p hn
  · cases e
theorem dpAll_ints {K : PySem.W.Frag} {H : Hp} : ∀ ns : List Int, DpAll K H (ns.map V.int) (ns.map PyData.int)
  | [] => .nil
  | n :: r => .cons (.int n) (dpAll_ints r)
theorem minOf_is : ∀ (xs : List Int) (x : Int), (x :: xs).min? = some (PySem.W.minOf x xs)
  | [], x => by simp [PySem.W.minOf]
  | y :: ys, x => by
    have ih := minOf_is ys (if y < x then y else x)
    rw [List.min?_eq_some_iff] at ih ⊢
    have e : PySem.W.minOf x (y :: ys) = PySem.W.minOf (if y < x then y else x) ys := by
      simp only [PySem.W.minOf, List.foldl_cons]
      congr 1
      show (if decide (y < x) = true then y else x) = _
      simp
    rw [e]
    refine ⟨?_, fun b hb => ?_⟩
    · rcases List.mem_cons.mp ih.1 with h | h
      · by_cases c : y < x
        · rw [if_pos c] at h ⊢; rw [h]; simp
        · rw [if_neg c] at h ⊢; rw [h]; simp
      · simp [h]
    · have h0 := ih.2 _ (List.mem_cons_self)
      have hs : (if y < x then y else x) ≤ x ∧ (if y < x then y else x) ≤ y := by split <;> omega
      rcases List.mem_cons.mp hb with rfl | hb
      · omega
      · rcases List.mem_cons.mp hb with rfl | hb
        · omega
        · exact ih.2 b (by simp [hb])
theorem maxOf_is : ∀ (xs : List Int) (x : Int), (x :: xs).max? = some (PySem.W.maxOf x xs)
  | [], x => by simp [PySem.W.maxOf]
  | y :: ys, x => by
    have ih := maxOf_is ys (if x < y then y else x)
    rw [List.max?_eq_some_iff] at ih ⊢
    have e : PySem.W.maxOf x (y :: ys) = PySem.W.maxOf (if x < y then y else x) ys := by
      simp only [PySem.W.maxOf, List.foldl_cons]
      congr 1
      show (if decide (x < y) = true then y else x) = _
      simp
    rw [e]
    refine ⟨?_, fun b hb => ?_⟩
    · rcases List.mem_cons.mp ih.1 with h | h
      · by_cases c : x < y
        · rw [if_pos c] at h ⊢; rw [h]; simp
        · rw [if_neg c] at h ⊢; rw [h]; simp
      · simp [h]
    · have h0 := ih.2 _ (List.mem_cons_self)
      have hs : x ≤ (if x < y then y else x) ∧ y ≤ (if x < y then y else x) := by split <;> omega
      rcases List.mem_cons.mp hb with rfl | hb
      · omega
      · rcases List.mem_cons.mp hb with rfl | hb
        · omega
        · exact ih.2 b (by simp [hb])
theorem holds_int {h : Heap} {v : Value} {n : Int} (k : PySem.W.Holds h v n) : ∃ t, v = .int n t := by
  obtain ⟨as, r⟩ := k
  have r' : Reads h v (.int n) as := r
  cases r' with
  | int => exact ⟨_, rfl⟩
/-- min, max of a tuple of ints -/
theorem tup_ints {pins : List (Addr × Obj)} {σ : St} {H : Hp} {s : Shared} {a : Addr} {ns : List Int} (I : Inv X pins σ H s) (h : SqT X.K H a (ns.map V.int)) : ∃ its : List Value, s.heap.IsTuple a its.toArray ∧ PySem.W.HoldAll s.heap its ns := by
  obtain ⟨its, r, p, hz⟩ := I.tuple h
  obtain ⟨as, rs⟩ := Dp.readsAll I (ns.map PyData.int) (ns.map V.int) its (dpAll_ints ns) r
  exact ⟨its, p, as, rs⟩
theorem cs_min (hK : X.K = g.K) (hc : X.calm = true) (hu : X.A.units + 64 < cLine) : CallS X g (.builtin "min") minF := by
  intro pins s σ H xs us Q I r ⟨B, G0, G, σ', env, ds, m, S, vw, e, k⟩
  unfold minF at e
  split at e
  · simp only [Option.bind_eq_some_iff, Option.map_eq_some_iff] at e
    obtain ⟨ns, e1, n, e2, rfl⟩ := e
    obtain ⟨v, rfl, a, vs, rfl, h1, h2⟩ := vws1 vw
    have := h2.ints e1
    subst this
    refine cr_min hc pins s σ H _ us Q I r ⟨a, ns, rfl, SqL.of h1, ?_, fun m hm hl => ?_⟩
    · cases ns with
      | nil => simp at e2
      | cons => simp
    · have e3 : ns.min? = some m := List.min?_eq_some_iff.mpr ⟨hm, hl⟩
      rw [e2] at e3; cases e3
      exact k.sc S fun _ => by simp [Rv]
  · simp only [Option.bind_eq_some_iff, Option.map_eq_some_iff] at e
    obtain ⟨ns, e1, n, e2, rfl⟩ := e
    obtain ⟨v, rfl, h⟩ := vws1 vw
    simp only [Vw, Rv] at h
    obtain ⟨a, vs, rfl, h1, h2⟩ := h
    have := h2.ints e1
    subst this
    obtain ⟨u, rfl, hu'⟩ := vals1 r
    cases (show u = Value.ref a from hu')
    obtain ⟨its, p, ha⟩ := tup_ints I (a := a) (ns := ns) (by rw [hK]; exact sqT_same S.s1 h1)
    cases ns with
    | nil => simp at e2
    | cons x xs =>
      rw [minOf_is] at e2
      cases e2
      refine PySem.W.min_tuple_datum (I.ok.hd hc) p ha (by show X.A.units + 1 + 0 < cLine; omega) fun i w h' tk _ hh hk => ?_
      obtain ⟨t, rfl⟩ := holds_int hh
      exact ⟨.int _, H, I.kept hk, ⟨t, rfl⟩, k.sc S fun _ => by simp [Rv]⟩
  · cases e
    obtain ⟨v, w, rfl, h1, h2⟩ := vws2 vw
    simp only [Vw, Rv] at h1 h2; subst h1; subst h2
    exact call_min2 hc pins s σ H _ us Q I r ⟨_, _, rfl, k.sc S fun _ => by simp [Rv]⟩
  · cases e
theorem cs_max (hK : X.K = g.K) (hc : X.calm = true) (hu : X.A.units + 64 < cLine) : CallS X g (.builtin "max") maxF := by
  intro pins s σ H xs us Q I r ⟨B, G0, G, σ', env, ds, m, S, vw, e, k⟩
  unfold maxF at e
  split at e
  · simp only [Option.bind_eq_some_iff, Option.map_eq_some_iff] at e
    obtain ⟨ns, e1, n, e2, rfl⟩ := e
    obtain ⟨v, rfl, a, vs, rfl, h1, h2⟩ := vws1 vw
    have := h2.ints e1
    subst this
    refine cr_max hc pins s σ H _ us Q I r ⟨a, ns, rfl, SqL.of h1, ?_, fun m hm hl => ?_⟩
    · cases ns with
      | nil => simp at e2
      | cons => simp
    · have e3 : ns.max? = some m := List.max?_eq_some_iff.mpr ⟨hm, hl⟩
      rw [e2] at e3; cases e3
      exact k.sc S fun _ => by simp [Rv]
  · simp only [Option.bind_eq_some_iff, Option.map_eq_some_iff] at e
    obtain ⟨ns, e1, n, e2, rfl⟩ := e
    obtain ⟨v, rfl, h⟩ := vws1 vw
    simp only [Vw, Rv] at h
    obtain ⟨a, vs, rfl, h1, h2⟩ := h
    have := h2.ints e1
    subst this
    obtain ⟨u, rfl, hu'⟩ := vals1 r
    cases (show u = Value.ref a from hu')
    obtain ⟨its, p, ha⟩ := tup_ints I (a := a) (ns := ns) (by rw [hK]; exact sqT_same S.s1 h1)
    cases ns with
    | nil => simp at e2
    | cons x xs =>
      rw [maxOf_is] at e2
      cases e2
      refine PySem.W.max_tuple_datum (I.ok.hd hc) p ha (by show X.A.units + 1 + 0 < cLine; omega) fun i w h' tk _ hh hk => ?_
      obtain ⟨t, rfl⟩ := holds_int hh
      exact ⟨.int _, H, I.kept hk, ⟨t, rfl⟩, k.sc S fun _ => by simp [Rv]⟩
  · cases e
    obtain ⟨v, w, rfl, h1, h2⟩ := vws2 vw
    simp only [Vw, Rv] at h1 h2; subst h1; subst h2
    exact call_max2 hc pins s σ H _ us Q I r ⟨_, _, rfl, k.sc S fun _ => by simp [Rv]⟩
  · cases e
end
end Eng
end
section
set_option Elab.async false
set_option linter.all false
set_option maxRecDepth 100000
namespace Eng
open PySem L2
open PyProof.Rows hiding St

/-! ### statements -/
inductive Fl where
  | nx | bk | ct
  | rt (m : M)
abbrev FS := Env → Rs (Fl × Env)
/-- these slots are never stored to -/
def Kp (mp : List Nat) (σ σ' : St) : Prop := ∀ i ∈ mp, σ'[i]? = σ[i]?
theorem Kp.refl {mp : List Nat} {σ : St} : Kp mp σ σ := fun _ _ => rfl
theorem Kp.trans {mp : List Nat} {σ σ1 σ2 : St} (a : Kp mp σ σ1) (b : Kp mp σ1 σ2) : Kp mp σ σ2 := fun i h => (b i h).trans (a i h)
theorem Kp.set {mp : List Nat} {σ : St} {i : Nat} {o : Option V} (h : i ∉ mp) : Kp mp σ (σ.set i o) := fun j hj => by
  rw [List.getElem?_set_ne]
  intro e; subst e; exact h hj
def Fls (g : Gs) (B G0 : Hp) (D : Ends) (fl : Fl) (σ : St) (env : Env) (G H : Hp) : Prop :=
  match fl with
  | .nx => Stt g B G0 G H σ env → D.nx σ H
  | .bk => Stt g B G0 G H σ env → D.bk σ H
  | .ct => Stt g B G0 G H σ env → D.ct σ H
  | .rt m => ∀ v, Stt g B G0 G H (some v :: σ) (some m :: env) → D.rt v H
def FinS (g : Gs) (B G0 : Hp) (W : WX) (mp : List Nat) (σ : St) (G : Hp) (r : Rs (Fl × Env)) (D : Ends) : Prop :=
  match r with
  | .bad => False
  | .exc c fs env => ∀ d vs σ' G' H', Same G G' → Kp mp σ σ' → Stt g B G0 G' H' σ' env → G' d = some (.xd ((g.fld c).zip vs)) → (g.fld c).length = vs.length → Rvs g G' fs vs → W (.ref (g.cls c)) (some d) σ' H'
  | .ok (fl, env) => ∀ σ' G' H', Same G G' → Kp mp σ σ' → Fls g B G0 D fl σ' env G' H'
def tS (g : Gs) (W : WX) (mp : List Nat) (f : FS) : TS := fun D σ H => ∃ B G0 G env, Stt g B G0 G H σ env ∧ FinS g B G0 W mp σ G (f env) D
section
variable {g : Gs} {B G0 G G' H : Hp} {W : WX} {mp : List Nat} {σ σ' : St} {D D' : Ends}
theorem FinS.more {r : Rs (Fl × Env)} (h : FinS g B G0 W mp σ G r D) (s : Same G G') (k : Kp mp σ σ') : FinS g B G0 W mp σ' G' r D := by
  cases r with
  | bad => exact h
  | exc c fs env => exact fun d vs σ1 G1 H1 s1 k1 S e1 e2 e3 => h d vs σ1 G1 H1 (s.trans s1) (k.trans k1) S e1 e2 e3
  | ok p => exact fun σ1 G1 H1 s1 k1 => h σ1 G1 H1 (s.trans s1) (k.trans k1)
/-- an expression's result, then a statement's -/
theorem FinS.bind {α : Type} {r : Rs (α × Env)} {k : α × Env → Rs (Fl × Env)} (h : FinS g B G0 W mp σ G (r >>= k) D) : Fin g B G0 W σ G r (fun a env G' _ => FinS g B G0 W mp σ G' (k (a, env)) D) := by
  cases r with
  | bad => exact h
  | exc c fs env => exact fun d vs G' H' s' S e1 e2 e3 => h d vs σ G' H' s' Kp.refl S e1 e2 e3
  | ok p => exact fun G' _ s => FinS.more h s Kp.refl
theorem FinS.of_bind {α : Type} {o : Option α} {k : α → Rs (Fl × Env)} (h : FinS g B G0 W mp σ G (Rs.of o >>= k) D) : ∃ a, o = some a ∧ FinS g B G0 W mp σ G (k a) D := by
  cases o with
  | none => exact False.elim h
  | some a => exact ⟨a, rfl, h⟩
theorem FinS.nx {env : Env} (h : FinS g B G0 W mp σ G (.ok (.nx, env)) D) (S : Stt g B G0 G H σ env) : D.nx σ H := h σ G H (Same.refl _) Kp.refl S
end
section
variable {X : Cx} {g : Gs} {W : WX} {mp : List Nat} {e c : Expr} {st : Stmt} {rest a b : List Stmt} {f : FE} {t : FT} {k l : FS} {pos : Pos}
def sSkip : FS := fun env => .ok (.nx, env)
def sSeq (k l : FS) : FS := fun env => match k env with
  | .ok (.nx, env) => l env
  | r => r
theorem ss_nil : PSs X [] (tS g W mp sSkip) := by
  refine ⟨fun pins s σ H D I h => ?_⟩
  obtain ⟨B, G0, G, env, S, h⟩ := h
  exact pss_nil.run pins s σ H D I (FinS.nx h S)
theorem seq_fin {B G0 G H : Hp} {σ : St} {env : Env} {D : Ends} (S : Stt g B G0 G H σ env) (h : FinS g B G0 W mp σ G (sSeq k l env) D) : FinS g B G0 W mp σ G (k env) { D with nx := tS g W mp l D } := by
  unfold sSeq at h
  cases q : k env with
  | bad => rw [q] at h; exact h
  | exc c fs env1 => rw [q] at h; exact h
  | ok p =>
    obtain ⟨fl, env1⟩ := p
    rw [q] at h
    cases fl with
    | nx => exact fun σ1 G1 H1 s1 k1 S1 => ⟨B, G0, G1, env1, S1, FinS.more h s1 k1⟩
    | bk => exact fun σ1 G1 H1 s1 k1 S1 => h σ1 G1 H1 s1 k1 S1
    | ct => exact fun σ1 G1 H1 s1 k1 S1 => h σ1 G1 H1 s1 k1 S1
    | rt m => exact fun σ1 G1 H1 s1 k1 v S1 => h σ1 G1 H1 s1 k1 v S1
theorem ss_cons (h1 : PS X st (tS g W mp k)) (h2 : PSs X rest (tS g W mp l)) : PSs X (st :: rest) (tS g W mp (sSeq k l)) := by
  refine ⟨fun pins s σ H D I h => ?_⟩
  obtain ⟨B, G0, G, env, S, h⟩ := h
  exact (pss_cons h1 h2).run pins s σ H D I ⟨B, G0, G, env, S, seq_fin S h⟩
def sRet (f : FE) : FS := fun env => do
  let (m, env) ← f env
  .ok (.rt m, env)
/-- a slot's own value goes out -/
def eMove (i : Nat) : FE := fun env => match env[i]? with
  | some (some m) => .ok (m, env.set i none)
  | _ => .bad
theorem se_move {i : Nat} {x : Str} (hN : X.N[i]? = some x) (hv : Vis X.env.scope x) (hd : (x == ("__debug__" : Str)) = false) (hcd : (x == ("__classdict__" : Str)) = false) : PE X (.Name x pos) (tE g W (eMove i)) := by
  refine ⟨fun pins s σ H Q I h => ?_⟩
  obtain ⟨B, G0, G, env, S, h⟩ := h
  unfold eMove at h
  split at h
  · rename_i m e1
    obtain ⟨v, e4, S'⟩ := S.take e1
    exact (pe_var hN hv hd hcd).run pins s σ H Q I ⟨v, e4, h G H (Same.refl _) v S'⟩
  · exact False.elim h
theorem ss_ret (he : PE X e (tE g W f)) : PS X (.Return (some e) pos) (tS g W mp (sRet f)) := by
  refine ⟨fun pins s σ H D I h => ?_⟩
  obtain ⟨B, G0, G, env, S, h⟩ := h
  exact (ps_ret he).run pins s σ H D I ⟨B, G0, G, env, S, (FinS.bind h).mono fun m env1 G1 H1 s1 q v S1 => q σ G1 H1 (Same.refl _) Kp.refl v S1⟩
def sRetN : FS := fun env => .ok (.rt (.im .non), env)
theorem ss_retN : PS X (.Return none pos) (tS g W mp sRetN) := by
  refine ⟨fun pins s σ H D I h => ?_⟩
  obtain ⟨B, G0, G, env, S, h⟩ := h
  exact ps_retN.run pins s σ H D I (h σ G H (Same.refl _) Kp.refl .non (S.cons (by simp [Rv])))
def sExpr (f : FE) : FS := fun env => do
  let (_, env) ← f env
  .ok (.nx, env)
theorem ss_expr (he : PE X e (tE g W f)) (hs : swapsWith e none pos.line X.env = pure false) : PS X (.Expr e pos) (tS g W mp (sExpr f)) := by
  refine ⟨fun pins s σ H D I h => ?_⟩
  obtain ⟨B, G0, G, env, S, h⟩ := h
  exact (ps_expr he hs).run pins s σ H D I ⟨B, G0, G, env, S, (FinS.bind h).mono fun m env1 G1 H1 s1 q v S1 => FinS.nx q S1.tail⟩
def sIf (t : FT) (k l : FS) : FS := fun env => do
  let (b, env) ← t env
  if b = true then k env else l env
theorem ss_if (hc : PT X c (tT g W t)) (ha : PSs X a (tS g W mp k)) (hb : PSs X b (tS g W mp l)) : PS X (.If c a b pos) (tS g W mp (sIf t k l)) := by
  refine ⟨fun pins s σ H D I h => ?_⟩
  obtain ⟨B, G0, G, env, S, h⟩ := h
  refine (ps_if hc ha hb).run pins s σ H D I ⟨B, G0, G, env, S, (FinS.bind h).mono fun d env1 G1 H1 s1 q S1 => ?_⟩
  cases d with
  | true => simp only [if_true] at q ⊢; exact ⟨B, G0, G1, env1, S1, q⟩
  | false => simp only [Bool.false_eq_true, if_false] at q ⊢; exact ⟨B, G0, G1, env1, S1, q⟩
def sBreak : FS := fun env => .ok (.bk, env)
def sCont : FS := fun env => .ok (.ct, env)
theorem ss_break : PS X (.Break pos) (tS g W mp sBreak) := by
  refine ⟨fun pins s σ H D I h => ?_⟩
  obtain ⟨B, G0, G, env, S, h⟩ := h
  exact ps_break.run pins s σ H D I (h σ G H (Same.refl _) Kp.refl S)
theorem ss_cont : PS X (.Continue pos) (tS g W mp sCont) := by
  refine ⟨fun pins s σ H D I h => ?_⟩
  obtain ⟨B, G0, G, env, S, h⟩ := h
  exact ps_continue.run pins s σ H D I (h σ G H (Same.refl _) Kp.refl S)
theorem ss_pass : PS X (.Pass pos) (tS g W mp sSkip) := by
  refine ⟨fun pins s σ H D I h => ?_⟩
  obtain ⟨B, G0, G, env, S, h⟩ := h
  exact ps_pass.run pins s σ H D I (FinS.nx h S)
/-! ### stores -/
def sSet (mp : List Nat) (i : Nat) (f : FE) : FS := fun env => do
  let (m, env) ← f env
  if i ∈ mp ∨ env.length ≤ i then .bad else .ok (.nx, env.set i (some m))
theorem ss_set {i : Nat} {x : Str} {pos' : Pos} (hN : X.N.Nodup) (hi : X.N[i]? = some x) (hx : Loc X.env.scope x) (he : PE X e (tE g W f)) (hs : swapsWith e (some (.Name x pos')) pos.line X.env = pure false)
    (hf : X.fn x = true ∨ X.env.scope.names.lookup x = some .local) : PS X (.Assign [.Name x pos'] e pos) (tS g W mp (sSet mp i f)) := by
  refine ⟨fun pins s σ H D I h => ?_⟩
  obtain ⟨B, G0, G, env, S, h⟩ := h
  refine (ps_set hN hi hx he hs hf).run pins s σ H D I ⟨B, G0, G, env, S, (FinS.bind h).mono fun m env1 G1 H1 s1 q v S1 => ?_⟩
  simp only at q
  split at q
  · exact False.elim q
  · rename_i hh
    exact q (σ.set i (some v)) G1 H1 (Same.refl _) (Kp.set fun h => hh (.inl h)) (S1.put i (by omega))
/-! ### targets: vs, the slots that are stored to -/
def Ag (vs : List Nat) (σ σ' : St) : Prop := σ'.length = σ.length ∧ ∀ j, j ∉ vs → σ'[j]? = σ[j]?
theorem Ag.kp {vs mp : List Nat} {σ σ' : St} (h : Ag vs σ σ') (k : ∀ i ∈ vs, i ∉ mp) : Kp mp σ σ' := fun i hi => h.2 i fun hv => k i hv hi
theorem Ag.trans {vs ws : List Nat} {σ σ1 σ2 : St} (a : Ag vs σ σ1) (b : Ag ws σ1 σ2) : Ag (vs ++ ws) σ σ2 := ⟨b.1.trans a.1, fun j h => by
  simp at h
  exact (b.2 j h.2).trans (a.2 j h.1)⟩
theorem Ag.set {σ : St} {i : Nat} {o : Option V} : Ag [i] σ (σ.set i o) := ⟨by simp, fun j h => by
  simp at h
  rw [List.getElem?_set_ne (fun e => h e.symm)]⟩
abbrev FG := D → Env → Option Env
def tG (g : Gs) (vs : List Nat) (f : FG) : TG := fun v σ H Q => ∃ B G0 G env d env', Stt g B G0 G H (some v :: σ) (some (.im d) :: env) ∧ f d env = some env' ∧ ∀ σ', Ag vs σ σ' → Stt g B G0 G H σ' env' → Q σ' H
def gNm (i : Nat) : FG := fun d env => if env.length ≤ i then none else some (env.set i (some (.im d)))
theorem sg_name {i : Nat} {x : Str} (hN : X.N.Nodup) (hi : X.N[i]? = some x) (hx : Loc X.env.scope x) (hf : X.fn x = true ∨ X.env.scope.names.lookup x = some .local) : PG X (.Name x pos) (tG g [i] (gNm i)) := by
  refine ⟨fun pins s σ H v u Q I r h => ?_⟩
  obtain ⟨B, G0, G, env, d, env', S, e, k⟩ := h
  unfold gNm at e
  split at e
  · cases e
  · rename_i hh
    cases e
    exact (pg_name hN hi hx hf).run pins s σ H v u Q I r (k _ Ag.set (S.put i (by omega)))
abbrev FGs := List D → Env → Option Env
def tGs (g : Gs) (vs : List Nat) (f : FGs) : TGs := fun xs σ H Q => ∃ B G0 G env ds env', Stt g B G0 G H σ env ∧ Rvs g G ds xs ∧ f ds env = some env' ∧ ∀ σ', Ag vs σ σ' → Stt g B G0 G H σ' env' → Q σ' H
def gsNil : FGs := fun ds env => match ds with
  | [] => some env
  | _ => none
def gsCons (f : FG) (k : FGs) : FGs := fun ds env => match ds with
  | d :: ds => (f d env).bind (k ds)
  | [] => none
theorem sgs_nil : PGs X [] (tGs g [] gsNil) := by
  refine ⟨fun pins s σ H vs us Q I r h => ?_⟩
  obtain ⟨B, G0, G, env, ds, env', S, rv, e, k⟩ := h
  cases ds with
  | nil =>
    cases e
    simp only [Rvs] at rv
    exact pgs_nil.run pins s σ H vs us Q I r ⟨rv, k σ ⟨rfl, fun _ _ => rfl⟩ S⟩
  | cons => cases e
theorem sgs_cons {es : List Expr} {f : FG} {l : FGs} {vs ws : List Nat} (h1 : PG X e (tG g vs f)) (h2 : PGs X es (tGs g ws l)) (hs : (assignEach (e :: es) X.env).map (·.2) = assign e X.env :: (assignEach es X.env).map (·.2)) : PGs X (e :: es) (tGs g (vs ++ ws) (gsCons f l)) := by
  refine ⟨fun pins s σ H xs us Q I r h => ?_⟩
  obtain ⟨B, G0, G, env, ds, env', S, rv, e, k⟩ := h
  cases ds with
  | nil => cases e
  | cons d ds =>
    simp only [gsCons, Option.bind_eq_some_iff] at e
    obtain ⟨env1, e1, e2⟩ := e
    simp only [Rvs] at rv
    obtain ⟨v, r', rfl, h3, h4⟩ := rv
    exact (pgs_cons h1 h2 hs).run pins s σ H _ us Q I r ⟨v, r', rfl, B, G0, G, env, d, env1, S.cons h3, e1, fun σ1 k1 S1 => ⟨B, G0, G, env1, ds, env', S1, h4, e2, fun σ2 k2 S2 => k σ2 (k1.trans k2) S2⟩⟩
def gTp (n : Nat) (k : FGs) : FG := fun d env => match d with
  | .tup ds => if ds.length = n then k ds env else none
  | _ => none
theorem sg_tup (hK : X.K = g.K) {es : List Expr} {kk n : Nat} {l : FGs} {vs : List Nat} (hc : X.calm = true) (h : PGs X es (tGs g vs l)) (hn : (assignEach es X.env).length = n) (hst : (assignEach es X.env).findIdx? (·.1) = none) : PG X (.Tuple es kk pos) (tG g vs (gTp n l)) := by
  refine ⟨fun pins s σ H v u Q I r hh => ?_⟩
  obtain ⟨B, G0, G, env, d, env', S, e, k⟩ := hh
  cases d with
  | tup ds =>
    simp only [gTp] at e
    split at e
    · rename_i hl
      have hv := S.head_im
      simp only [Rv] at hv
      obtain ⟨a, vs, rfl, h1, h2⟩ := hv
      exact (pg_tup hc h hn hst).run pins s σ H _ u Q I r ⟨a, vs, rfl, by rw [hK]; exact sqT_same S.s1 h1, by rw [h2.length]; exact hl, B, G0, G, env, ds, env', S.tail, h2, e, k⟩
    · cases e
  | _ => simp [gTp] at e
/-- target = e, the value frozen -/
def sAsg (tg : FG) (f : FE) : FS := fun env => do
  let (m, env) ← f env
  let env ← Rs.of (tg (frz m) env)
  .ok (.nx, env)
theorem ss_asg {tg : Expr} {fg : FG} {vs : List Nat} (hv : ∀ i ∈ vs, i ∉ mp) (he : PE X e (tE g W f)) (hg : PG X tg (tG g vs fg)) (hs : swapsWithSole [tg] e pos.line X.env = pure false) (hw : swappedStores [tg] e X.env = pure none)
    (h1 : (assignEach [tg] X.env).map (·.2) = [assign tg X.env]) : PS X (.Assign [tg] e pos) (tS g W mp (sAsg fg f)) := by
  refine ⟨fun pins s σ H D I h => ?_⟩
  obtain ⟨B, G0, G, env, S, h⟩ := h
  refine (ps_asg he hg hs hw h1).run pins s σ H D I ⟨B, G0, G, env, S, (FinS.bind h).mono fun m env1 G1 H1 s1 q v S1 => ?_⟩
  obtain ⟨env2, e2, q⟩ := FinS.of_bind q
  obtain ⟨G2, s2, rv, S2⟩ := S1.frz0
  exact ⟨B, G0, G2, env1, frz m, env2, S2.cons rv, e2, fun σ' k' S' => (q.more s2 (k'.kp hv)).nx S'⟩
/-! ### loops -/
def loopF (tg : FG) (k : FS) : List D → FS
  | [], env => .ok (.nx, env)
  | d :: ds, env => match tg d env with
    | none => .bad
    | some env => match k env with
      | .ok (.nx, env) => loopF tg k ds env
      | .ok (.ct, env) => loopF tg k ds env
      | .ok (.bk, env) => .ok (.nx, env)
      | r => r
/-- what is walked gives these, one after another -/
def WalkD (g : Gs) (G : Hp) (J : It) (ds : List D) : Prop :=
  ∃ Gd Y, Walk J ds.length Gd Y ∧ (∀ H, Same G H → Gd H) ∧ ∀ i H x H', Same G H → i < ds.length → Y i H x H' → ∃ d, ds[i]? = some d ∧
    ((H' = H ∧ Rv g G d x) ∨ ∃ T ob vs es, d = .tup es ∧ x = .ref T ∧ H T = none ∧ H' = upd H T (.frz ob (.tup vs)) ∧ ob.dict = none ∧ Rvs g G es vs)
abbrev FW := Env → Rs (List D × Env)
def tI (g : Gs) (W : WX) (f : FW) : TI := fun σ H R => ∃ B G0 G env, Stt g B G0 G H σ env ∧ Fin g B G0 W σ G (f env) fun ds env G' H' => Stt g B G0 G' H' σ env → ∀ J, WalkD g G' J ds → R J H'
def sFor (tg : FG) (src : FW) (k : FS) : FS := fun env => do
  let (ds, env) ← src env
  loopF tg k ds env
theorem drop_cons {α : Type} {l : List α} {i : Nat} {d : α} (h : l[i]? = some d) : l.drop i = d :: l.drop (i + 1) := by
  obtain ⟨hi, e⟩ := List.getElem?_eq_some_iff.mp h
  rw [List.drop_eq_getElem_cons hi, e]
/-- a value that a walk has given -/
theorem WalkD.take {B G0 G H H' : Hp} {σ : St} {env : Env} {d : D} {x : V} (S : Stt g B G0 G H σ env)
    (h : (H' = H ∧ Rv g G d x) ∨ ∃ T ob vs es, d = .tup es ∧ x = .ref T ∧ H T = none ∧ H' = upd H T (.frz ob (.tup vs)) ∧ ob.dict = none ∧ Rvs g G es vs) : ∃ G', Same G G' ∧ Stt g B G0 G' H' (some x :: σ) (some (.im d) :: env) := by
  rcases h with ⟨rfl, hr⟩ | ⟨T, ob, vs, es, rfl, rfl, hT, rfl, hd, hr⟩
  · exact ⟨G, Same.refl _, S.cons hr⟩
  · exact ⟨upd G T (.frz ob (.tup vs)), S.new_same hT, (S.new hT).cons (by simp only [Rv]; exact ⟨T, vs, rfl, .inl ⟨ob, upd_same, hd⟩, hr.same (S.new_same hT)⟩)⟩
theorem ss_for {tg iter : Expr} {body : List Stmt} {fg : FG} {src : FW} {vs : List Nat} (hv : ∀ i ∈ vs, i ∉ mp) (hp : PassesOwn (model X.prog X.w) X.A X.env X.xe) (hc : X.calm = true) (hi : PI X tg iter (tI g W src)) (hg : PG X tg (tG g vs fg)) (hb : PSs X body (tS g W mp k))
    (hs : ∀ x, foldedSetIterable iter X.env x = pure x) : PS X (.For tg iter body [] pos) (tS g W mp (sFor fg src k)) := by
  refine ⟨fun pins s σ H D I h => ?_⟩
  obtain ⟨B, G0, G, env, S, h⟩ := h
  refine (ps_for hp hc hi hg hb hs).run pins s σ H D I ⟨B, G0, G, env, S, (FinS.bind h).mono fun ds env1 G1 H1 s1 q S1 J hw => ?_⟩
  obtain ⟨Gd, Y, w, hGd, hY⟩ := hw
  refine for_it w (fun i σ' H' => ∃ G' env', Same G1 G' ∧ Kp mp σ σ' ∧ Stt g B G0 G' H' σ' env' ∧ FinS g B G0 W mp σ' G' (loopF fg k (ds.drop i) env') D) ⟨G1, env1, Same.refl _, Kp.refl, S1, q⟩
    (fun i σ' H' _ ⟨G', env', sm, _, S', _⟩ => hGd H' (sm.trans S'.s1)) (fun i x σ' H' H2 hlt ⟨G', env', sm, kp, S', q'⟩ hy => ?_) (fun σ' H' ⟨G', env', sm, kp, S', q'⟩ => ?_)
  · obtain ⟨d, ed, hd⟩ := hY i H' x H2 (sm.trans S'.s1) hlt hy
    have hd' : (H2 = H' ∧ Rv g G' d x) ∨ ∃ T ob vs es, d = .tup es ∧ x = .ref T ∧ H' T = none ∧ H2 = upd H' T (.frz ob (.tup vs)) ∧ ob.dict = none ∧ Rvs g G' es vs := by
      rcases hd with ⟨e1, e2⟩ | ⟨T, ob, vs, es, e1, e2, e3, e4, e5, e6⟩
      · exact .inl ⟨e1, e2.same sm⟩
      · exact .inr ⟨T, ob, vs, es, e1, e2, e3, e4, e5, e6.same sm⟩
    obtain ⟨G2, sm2, S2⟩ := WalkD.take S' hd'
    rw [drop_cons ed] at q'
    simp only [loopF] at q'
    cases ht : fg d env' with
    | none => rw [ht] at q'; exact False.elim q'
    | some env2 =>
      rw [ht] at q'
      simp only at q'
      refine ⟨B, G0, G2, env', d, env2, S2, ht, fun σ3 a3 S3 => ⟨B, G0, G2, env2, S3, ?_⟩⟩
      have k3 := a3.kp hv
      have q2 := q'.more sm2 k3
      cases hk : k env2 with
      | bad => rw [hk] at q2; exact q2
      | exc c fs env3 => rw [hk] at q2; exact q2
      | ok p =>
        obtain ⟨fl, env3⟩ := p
        rw [hk] at q2
        cases fl with
        | nx => exact fun σ4 G4 H4 s4 k4 S4 => ⟨G4, env3, (sm.trans sm2).trans s4, (kp.trans k3).trans k4, S4, FinS.more q2 s4 k4⟩
        | ct => exact fun σ4 G4 H4 s4 k4 S4 => ⟨G4, env3, (sm.trans sm2).trans s4, (kp.trans k3).trans k4, S4, FinS.more q2 s4 k4⟩
        | bk => exact fun σ4 G4 H4 s4 k4 S4 => q2 σ4 G4 H4 s4 k4 S4
        | rt m => exact fun σ4 G4 H4 s4 k4 v S4 => q2 σ4 G4 H4 s4 k4 v S4
  · rw [List.drop_length] at q'
    exact FinS.nx q' S'
def whF (t : FT) (k : FS) : Nat → FS
  | 0, _ => .bad
  | n + 1, env => match t env with
    | .bad => .bad
    | .exc c fs env => .exc c fs env
    | .ok (false, env) => .ok (.nx, env)
    | .ok (true, env) => match k env with
      | .ok (.nx, env) => whF t k n env
      | .ok (.ct, env) => whF t k n env
      | .ok (.bk, env) => .ok (.nx, env)
      | r => r
theorem ss_while {n : Nat} {body : List Stmt} (hp : PassesOwn (model X.prog X.w) X.A X.env X.xe) (hc : PT X c (tT g W t)) (hb : PSs X body (tS g W mp k)) : PS X (.While c body [] pos) (tS g W mp (whF t k n)) := by
  refine ⟨fun pins s σ H D I h => ?_⟩
  obtain ⟨B, G0, G, env, S, h⟩ := h
  refine (ps_while hp hc hb).run pins s σ H D I ⟨fun n σ' H' => ∃ G' env', Stt g B G0 G' H' σ' env' ∧ FinS g B G0 W mp σ' G' (whF t k n env') D, ⟨n, G, env, S, h⟩, fun m σ1 H1 ⟨G1, env1, S1, q⟩ => ?_⟩
  cases m with
  | zero => exact False.elim q
  | succ m =>
    refine ⟨B, G0, G1, env1, S1, ?_⟩
    simp only [whF] at q
    cases ht : t env1 with
    | bad => rw [ht] at q; exact q
    | exc c fs env2 => rw [ht] at q; exact fun d vs G' H' s' S' e1 e2 e3 => q d vs σ1 G' H' s' Kp.refl S' e1 e2 e3
    | ok p =>
      obtain ⟨b, env2⟩ := p
      rw [ht] at q
      intro G2 H2 s2 S2
      cases b with
      | false =>
        simp only [Bool.false_eq_true, if_false]
        exact (FinS.more q s2 Kp.refl).nx S2
      | true =>
        simp only [if_true]
        have q2 := FinS.more q s2 Kp.refl
        simp only at q2
        refine ⟨fun σ3 H3 => ∃ G3 env3, Stt g B G0 G3 H3 σ3 env3 ∧ FinS g B G0 W mp σ3 G3 (whF t k m env3) D, fun σ3 H3 h3 => ⟨m, Nat.lt_succ_self m, h3⟩, B, G0, G2, env2, S2, ?_⟩
        cases hk : k env2 with
        | bad => rw [hk] at q2; exact q2
        | exc c fs env3 => rw [hk] at q2; exact q2
        | ok p =>
          obtain ⟨fl, env3⟩ := p
          rw [hk] at q2
          cases fl with
          | nx => exact fun σ4 G4 H4 s4 k4 S4 => ⟨G4, env3, S4, FinS.more q2 s4 k4⟩
          | ct => exact fun σ4 G4 H4 s4 k4 S4 => ⟨G4, env3, S4, FinS.more q2 s4 k4⟩
          | bk => exact fun σ4 G4 H4 s4 k4 S4 => q2 σ4 G4 H4 s4 k4 S4
          | rt m => exact fun σ4 G4 H4 s4 k4 v S4 => q2 σ4 G4 H4 s4 k4 v S4
end
end Eng
end
section
set_option Elab.async false
set_option linter.all false
set_option maxRecDepth 100000
namespace Eng
open PySem L2
open PyProof.Rows hiding St

/-! ### what a slot that holds nothing stands for does not matter -/
theorem RmS.any {g : Gs} {G H : Hp} : ∀ {env : Env} {σ σ' : St} {F}, RmS g G H env σ F → σ'.length = σ.length → (∀ (j : Nat) m, env[j]? = some (some m) → σ'[j]? = σ[j]?) → RmS g G H env σ' F
  | [], σ, σ', F, h, hl, _ => by
    simp only [RmS] at h ⊢
    rw [h.1] at hl
    exact ⟨List.length_eq_zero_iff.mp hl, h.2⟩
  | none :: e, σ, σ', F, h, hl, k => by
    simp only [RmS] at h ⊢
    obtain ⟨o, r, rfl, h2⟩ := h
    cases σ' with
    | nil => simp at hl
    | cons o' r' => exact ⟨o', r', rfl, h2.any (by simpa using hl) fun j m hj => by simpa using k (j + 1) m (by simpa using hj)⟩
  | some m :: e, σ, σ', F, h, hl, k => by
    simp only [RmS] at h ⊢
    obtain ⟨v, r, F1, F2, rfl, h2, h3, rfl⟩ := h
    cases σ' with
    | nil => simp at hl
    | cons o' r' =>
      have e0 := k 0 m (by simp)
      simp at e0
      subst e0
      exact ⟨v, r', F1, F2, rfl, h2, h3.any (by simpa using hl) fun j m hj => by simpa using k (j + 1) m (by simpa using hj), rfl⟩
theorem Stt.any {g : Gs} {B G0 G H : Hp} {σ σ' : St} {env : Env} (S : Stt g B G0 G H σ env) (hl : σ'.length = σ.length) (k : ∀ (j : Nat) m, env[j]? = some (some m) → σ'[j]? = σ[j]?) : Stt g B G0 G H σ' env := by
  obtain ⟨F, r, nd, fb⟩ := S.s4
  exact ⟨S.s1, S.s2, S.s3, F, r.any hl k, nd, fb⟩
/-- these slots emptied -/
def emp (env : Env) : List Nat → Env
  | [] => env
  | i :: is => (emp env is).set i none
theorem emp_length (env : Env) : ∀ vs, (emp env vs).length = env.length
  | [] => rfl
  | i :: is => by simp [emp, emp_length env is]
theorem emp_some {env : Env} {j : Nat} {m : M} : ∀ {vs : List Nat}, (emp env vs)[j]? = some (some m) → j ∉ vs ∧ env[j]? = some (some m)
  | [], h => ⟨by simp, h⟩
  | i :: is, h => by
    simp only [emp] at h
    by_cases hj : i = j
    · subst hj
      by_cases hl : i < (emp env is).length
      · rw [List.getElem?_set_self hl] at h; cases h
      · rw [List.getElem?_eq_none (by simpa using hl)] at h; cases h
    · rw [List.getElem?_set_ne hj] at h
      obtain ⟨h1, h2⟩ := emp_some h
      exact ⟨by simp only [List.mem_cons, not_or]; exact ⟨fun e => hj e.symm, h1⟩, h2⟩
theorem emp_cons (om : Option M) (env : Env) : ∀ vs : List Nat, emp (om :: env) (vs.map (· + 1)) = om :: emp env vs
  | [] => rfl
  | i :: is => by simp [emp, emp_cons om env is]
theorem wipe_get (σ : St) : ∀ (vs : List Nat) (j : Nat), (wipe σ vs)[j]? = if j ∈ vs ∧ j < σ.length then some none else σ[j]?
  | [], j => by simp [wipe]
  | v :: vs, j => by
    have ih := wipe_get σ vs j
    unfold wipe
    by_cases hj : v = j
    · subst hj
      by_cases hl : v < σ.length
      · rw [List.getElem?_set_self (by rw [wipe_length]; exact hl)]; simp [hl]
      · rw [List.getElem?_eq_none (by rw [List.length_set, wipe_length]; omega)]
        rw [if_neg (by omega), List.getElem?_eq_none (by omega)]
    · rw [List.getElem?_set_ne hj, ih]
      have : (j ∈ v :: vs) ↔ j ∈ vs := by
        simp only [List.mem_cons]
        exact ⟨fun h => h.elim (fun e => absurd e.symm hj) id, .inr⟩
      simp only [this]
theorem wipe_ag {vs : List Nat} {σ σ2 : St} (h : Ag vs (wipe σ vs) σ2) : wipe σ2 vs = wipe σ vs := by
  apply List.ext_getElem?
  intro j
  rw [wipe_get, wipe_get]
  have hl := h.1
  rw [wipe_length] at hl
  by_cases hj : j ∈ vs
  · by_cases hh : j < σ.length
    · rw [if_pos ⟨hj, by omega⟩, if_pos ⟨hj, hh⟩]
    · rw [if_neg (fun h => hh (by omega)), if_neg (fun h => hh h.2), List.getElem?_eq_none (by omega), List.getElem?_eq_none (by omega)]
  · have := h.2 j hj
    rw [wipe_get] at this
    simpa [hj] using this
section
variable {g : Gs} {B G0 G H : Hp} {σ : St} {env : Env}
theorem Stt.emp (S : Stt g B G0 G H σ env) : ∀ (vs : List Nat), Stt g B G0 G H σ (Eng.emp env vs)
  | [] => S
  | i :: is => by
    have := (S.emp is).drop i (σ[i]?.getD none)
    refine this.any (by simp) fun j m hj => ?_
    by_cases e : i = j
    · subst e
      by_cases hl : i < (Eng.emp env is).length
      · rw [List.getElem?_set_self hl] at hj; cases hj
      · rw [List.getElem?_eq_none (by simpa using hl)] at hj; cases hj
    · rw [List.getElem?_set_ne e]
theorem Stt.wiped (S : Stt g B G0 G H σ env) (vs : List Nat) : Stt g B G0 G H (wipe σ vs) (Eng.emp env vs) := (S.emp vs).any (wipe_length σ vs) fun j m hj => by
  rw [wipe_get, if_neg (fun h => (emp_some hj).1 h.1)]
theorem Stt.unwiped {σ2 : St} {vs : List Nat} (S : Stt g B G0 G H σ2 env) (hl : σ2.length = σ.length) (k : ∀ j, j ∉ vs → σ2[j]? = σ[j]?) : Stt g B G0 G H σ (Eng.emp env vs) := (S.emp vs).any hl.symm fun j m hj => (k j (emp_some hj).1).symm
/-- what stands ahead is appended to the list behind it -/
theorem Stt.app {y : V} {m : M} {x : V} {ms : List M} (S : Stt g B G0 G H (some y :: some x :: σ) (some m :: some (.ls ms) :: env)) :
    ∃ a acc, x = .ref a ∧ H a = some (.lst acc) ∧ acc.length = ms.length ∧ Stt g B G0 G (upd H a (.lst (acc ++ [y]))) (some x :: σ) (some (.ls (ms ++ [m])) :: env) := by
  obtain ⟨F, r, nd, fb⟩ := S.s4
  simp only [RmS, Rm] at r
  obtain ⟨y', r', F1, F2, e, h1, ⟨x', r2, F3, F4, e2, ⟨a, acc, F5, ex, gn, hn, hms, rfl⟩, h4, rfl⟩, rfl⟩ := r
  cases e; cases e2; subst ex
  have hl : acc.length = ms.length := by
    clear S nd fb h1 h4 hn gn
    induction ms generalizing acc F5 with
    | nil => simp only [Rms] at hms; simp [hms.1]
    | cons m0 ms ih =>
      simp only [Rms] at hms
      obtain ⟨v, r, F6, F7, rfl, _, h7, _⟩ := hms
      simpa using ih _ _ h7
  refine ⟨a, acc, rfl, hn, hl, ?_⟩
  have nd' : (F1 ++ (a :: (F5 ++ F4))).Nodup := by simpa using nd
  have na : a ∉ F1 ∧ a ∉ F5 ∧ a ∉ F4 := by
    have h1 := List.nodup_append.mp nd'
    have h2 := List.nodup_cons.mp h1.2.1
    refine ⟨fun h => h1.2.2 a h a (by simp) rfl, fun h => h2.1 (by simp [h]), fun h => h2.1 (by simp [h])⟩
  have kp : ∀ {F : List Addr}, a ∉ F → Kept G G H (upd H a (.lst (acc ++ [y]))) F := fun {F} hF => ⟨Same.refl _, fun _ _ h => h, fun b hb => by rw [upd_ne (fun e => by subst e; exact hF hb)]⟩
  have app : ∀ {H' : Hp} {ms : List M} {acc : List V} {F5 F1 : List Addr}, Rms g G H' ms acc F5 → Rm g G H' m y F1 → Rms g G H' (ms ++ [m]) (acc ++ [y]) (F5 ++ F1) := by
    intro H' ms
    induction ms with
    | nil =>
      intro acc F5 F1 h k
      simp only [Rms] at h
      rw [h.1, h.2]
      simp only [List.nil_append, Rms]
      exact ⟨y, [], F1, [], rfl, k, ⟨rfl, rfl⟩, by simp⟩
    | cons m0 ms ih =>
      intro acc F5 F1 h k
      simp only [Rms] at h
      obtain ⟨v, r, F6, F7, rfl, h6, h7, rfl⟩ := h
      simp only [List.cons_append, Rms]
      exact ⟨v, _, F6, F7 ++ F1, rfl, h6, ih h7 k, by simp⟩
  refine ⟨same_upd S.s1 gn, fun b o hb => ?_, S.s3, (a :: (F5 ++ F1)) ++ F4, ?_, ?_, fun b hb => fb b (by simp at hb ⊢; rcases hb with h | h | h | h <;> simp [h])⟩
  · rw [upd_ne (fun e => by subst e; rw [fb b (by simp)] at hb; cases hb)]
    exact S.s2 b o hb
  · simp only [RmS, Rm]
    exact ⟨_, σ, a :: (F5 ++ F1), F4, rfl, ⟨a, _, F5 ++ F1, rfl, gn, upd_same, app (hms.kept (kp na.2.1)) (h1.kept (kp na.1)), rfl⟩, h4.kept (kp na.2.2), rfl⟩
  · have hp : (F1 ++ (a :: (F5 ++ F4))).Perm ((a :: (F5 ++ F1)) ++ F4) := by
      have p1 : (F1 ++ (a :: (F5 ++ F4))).Perm ((a :: (F5 ++ F4)) ++ F1) := List.perm_append_comm
      have p2 : ((a :: (F5 ++ F4)) ++ F1).Perm ((a :: (F5 ++ F1)) ++ F4) := by
        simp only [List.cons_append, List.append_assoc]
        exact (List.Perm.append_left F5 List.perm_append_comm).cons a
      exact p1.trans p2
    exact hp.nodup_iff.mp nd'
end
/-! ### list comprehensions -/
/-- the items that come, appended to ms -/
def cmpF (vs : List Nat) (tg : FG) (t : FT) (f : FE) : List D → List M → Env → Rs (List M × Env)
  | [], ms, env => .ok (ms, env)
  | d :: ds, ms, env => match tg d (emp env vs) with
    | none => .bad
    | some env => match t env with
      | .ok (false, env) => cmpF vs tg t f ds ms (emp env vs)
      | .ok (true, env) => match f env with
        | .ok (m, env) => if ms.length < sizeLine then cmpF vs tg t f ds (ms ++ [m]) (emp env vs) else .bad
        | _ => .bad
      | _ => .bad
def eCmp (vs : List Nat) (src : FW) (tg : FG) (t : FT) (f : FE) : FE := fun env => do
  let (ds, env) ← src env
  let (ms, env) ← cmpF vs tg t f ds [] (emp env vs)
  .ok (.ls ms, env)
abbrev W0 : WX := fun _ _ _ _ => False
theorem tLc_run {g : Gs} {W : WX} {vs : List Nat} {src : FW} {tg : FG} {t : FT} {f : FE} {σ : St} {H B G0 G : Hp} {env : Env} {Q : VK} (S : Stt g B G0 G H σ env)
    (hq : Fin g B G0 W σ G (eCmp vs src tg t f env) fun m env G' H' => ∀ v, Stt g B G0 G' H' (some v :: σ) (some m :: env) → Q v H') : tLc (tI g W src) (tG g vs tg) (tT g W0 t) (tE g W0 f) vs σ H Q := by
  refine ⟨B, G0, G, env, S, (Fin.bind hq).mono fun ds env1 G1 H1 s1 q S1 J hw D hD => ?_⟩
  obtain ⟨Gd, Y, w, hGd, hY⟩ := hw
  refine lc_it w (fun i H' => ∃ G' env' ms, Same G1 G' ∧ Stt g B G0 G' H' (some (.ref D) :: σ) (some (.ls ms) :: env') ∧ Fin g B G0 W σ G' (do
      let (ms, env) ← cmpF vs tg t f (ds.drop i) ms env'
      Rs.ok (M.ls ms, env)) fun m env G' H' => ∀ v, Stt g B G0 G' H' (some v :: σ) (some m :: env) → Q v H')
    ⟨G1, emp env1 vs, [], Same.refl _, Stt.list (ms := []) (vs := []) (by simpa using S1.emp vs) rfl hD, by simpa using q⟩ (fun i H' _ ⟨G', env', ms, sm, S', _⟩ => hGd H' (sm.trans S'.s1)) (fun i x H' H2 hlt ⟨G', env', ms, sm, S', q'⟩ hy => ?_) (fun H' ⟨G', env', ms, sm, S', q'⟩ => ?_)
  · obtain ⟨d, ed, hd⟩ := hY i H' x H2 (sm.trans S'.s1) hlt hy
    have hd' : (H2 = H' ∧ Rv g G' d x) ∨ ∃ T ob vs es, d = .tup es ∧ x = .ref T ∧ H' T = none ∧ H2 = upd H' T (.frz ob (.tup vs)) ∧ ob.dict = none ∧ Rvs g G' es vs := by
      rcases hd with ⟨e1, e2⟩ | ⟨T, ob, vs, es, e1, e2, e3, e4, e5, e6⟩
      · exact .inl ⟨e1, e2.same sm⟩
      · exact .inr ⟨T, ob, vs, es, e1, e2, e3, e4, e5, e6.same sm⟩
    rw [drop_cons ed] at q'
    simp only [cmpF] at q'
    obtain ⟨G2, sm2, S2⟩ := WalkD.take S' hd'
    -- the list is put aside
    obtain ⟨B', S3, back⟩ := (Stt.swap S2).aside
    have S4 : Stt g B' G2 G2 H2 (some x :: wipe σ vs) (some (.im d) :: emp env' vs) := (S3.tail.wiped vs).cons S3.head_im
    cases ht : tg d (emp env' vs) with
    | none => rw [ht] at q'; exact False.elim q'
    | some env2 =>
      rw [ht] at q'
      simp only at q'
      refine ⟨B', G2, G2, emp env' vs, d, env2, S4, ht, fun σ2 ag S5 => ⟨wipe_ag ag, B', G2, G2, env2, S5, ?_⟩⟩
      have agl : σ2.length = σ.length := by rw [ag.1, wipe_length]
      have agk : ∀ j, j ∉ vs → σ2[j]? = σ[j]? := fun j hj => by rw [ag.2 j hj, wipe_get, if_neg (fun h => hj h.1)]
      cases hb : t env2 with
      | bad => rw [hb] at q'; exact False.elim q'
      | exc c fs env3 => rw [hb] at q'; exact False.elim q'
      | ok p =>
        obtain ⟨b, env3⟩ := p
        rw [hb] at q'
        intro G3 H3 s3 S6
        cases b with
        | false =>
          simp only [Bool.false_eq_true, if_false] at q' ⊢
          exact ⟨G3, emp env3 vs, ms, (sm.trans sm2).trans s3, back s3 (S6.unwiped agl agk), q'.more (sm2.trans s3)⟩
        | true =>
          simp only [if_true] at q' ⊢
          refine ⟨B', G2, G3, env3, S6, ?_⟩
          cases hf : f env3 with
          | bad => rw [hf] at q'; exact False.elim q'
          | exc c fs env4 => rw [hf] at q'; exact False.elim q'
          | ok p =>
            obtain ⟨m, env4⟩ := p
            rw [hf] at q'
            intro G4 H4 s4 v S7
            simp only at q'
            split at q'
            · rename_i hz
              have S8 : Stt g B' G2 G4 H4 (some v :: σ) (some m :: emp env4 vs) := by
                have S7' := (S7.emp (vs.map (· + 1)))
                have e1 := emp_cons (some m) env4 vs
                rw [e1] at S7'
                refine S7'.any (by simp [agl]) fun j m' hj => ?_
                cases j with
                | zero => rfl
                | succ j =>
                  simp only [List.getElem?_cons_succ] at hj ⊢
                  exact (agk j (emp_some hj).1).symm
              obtain ⟨a, acc, ea, ha, hl, S9⟩ := Stt.app (Stt.swap (back (s3.trans s4) S8))
              cases ea
              exact ⟨acc, ha, by omega, G4, emp env4 vs, ms ++ [m], ((sm.trans sm2).trans s3).trans s4, S9, q'.more ((sm2.trans s3).trans s4)⟩
            · exact False.elim q'
  · rw [List.drop_length] at q'
    exact q' G' H' (Same.refl _) (.ref D) S'
end Eng
end
section
set_option Elab.async false
set_option linter.all false
set_option maxRecDepth 100000
namespace Eng
open PySem L2
open PyProof.Rows hiding St

section
variable {X : Cx} {g : Gs} {W : WX} {tg e a b : Expr} {f : FE} {fo go : FO} {pos p : Pos}
/-! ### what loops walk -/
theorem walkD_list {G : Hp} {a : Addr} {ds : List D} {vs : List V} (h : G a = some (.lst vs)) (r : Rvs g G ds vs) : WalkD g G (Itl g.K a) ds := by
  have w := walk_list (K := g.K) (a := a) (xs := vs)
  rw [r.length] at w
  refine ⟨_, _, w, fun H s => SqL.of (s _ _ h), fun i H x H' s hi hy => ?_⟩
  obtain ⟨e1, e2⟩ := hy
  subst e1
  have hi' : i < ds.length := hi
  obtain ⟨v, e3, e4⟩ := r.get (List.getElem?_eq_getElem hi')
  rw [e2] at e3; cases e3
  exact ⟨_, List.getElem?_eq_getElem hi', .inl ⟨rfl, e4⟩⟩
theorem walkD_tup {G : Hp} {a : Addr} {ds : List D} {vs : List V} (h : SqN g.K G a vs) (r : Rvs g G ds vs) : WalkD g G (Itt g.K a) ds := by
  have w := walk_tup (K := g.K) (a := a) (xs := vs)
  rw [r.length] at w
  refine ⟨_, _, w, fun H s => sqT_same s h, fun i H x H' s hi hy => ?_⟩
  obtain ⟨e1, e2⟩ := hy
  subst e1
  have hi' : i < ds.length := hi
  obtain ⟨v, e3, e4⟩ := r.get (List.getElem?_eq_getElem hi')
  rw [e2] at e3; cases e3
  exact ⟨_, List.getElem?_eq_getElem hi', .inl ⟨rfl, e4⟩⟩
theorem walkD_str {G : Hp} {z : Str} : WalkD g G (Its z) (z.cps.toList.map fun c => .str ⟨#[c]⟩) := by
  have w := walk_str (z := z)
  have hl : z.cps.size = (z.cps.toList.map fun c => D.str ⟨#[c]⟩).length := by simp
  rw [hl] at w
  refine ⟨_, _, w, fun H s => trivial, fun i H x H' s hi hy => ?_⟩
  obtain ⟨e1, c, e2, e3⟩ := hy
  subst e1; subst e3
  exact ⟨.str ⟨#[c]⟩, by rw [List.getElem?_map, Array.getElem?_toList, e2]; rfl, .inl ⟨rfl, by simp [Rv]⟩⟩
def rngD (lo hi : Int) : List D := (List.range (hi - lo).toNat).map fun i => .int (lo + (i : Nat))
theorem walkD_rng {G : Hp} {lo hi : Int} : WalkD g G (Itr lo (hi - lo).toNat) (rngD lo hi) := by
  have w := walk_range (lo := lo) (n := (hi - lo).toNat)
  have hl : (hi - lo).toNat = (rngD lo hi).length := by simp [rngD]
  rw [hl] at w
  rw [hl]
  refine ⟨_, _, w, fun H s => trivial, fun i H x H' s hi' hy => ?_⟩
  obtain ⟨e1, e2⟩ := hy
  subst e1; subst e2
  rw [rngD, List.length_map, List.length_range] at hi'
  exact ⟨.int (lo + (i : Nat)), by rw [rngD, List.getElem?_map, List.getElem?_range hi']; rfl, .inl ⟨rfl, by simp [Rv]⟩⟩
def wSeq (f : FE) : FW := fun env => do
  let (m, env) ← f env
  match frz m with
  | .lst ds => .ok (ds, env)
  | .tup ds => .ok (ds, env)
  | .str z => .ok (z.cps.toList.map fun c => .str ⟨#[c]⟩, env)
  | _ => .bad
theorem sw_seq (hK : X.K = g.K) (h : PE X e (tE g W f)) : PI X tg e (tI g W (wSeq f)) := by
  refine ⟨fun pins s σ H R I hq => ?_⟩
  obtain ⟨B, G0, G, env, S, hq⟩ := hq
  refine thn (h.run pins s σ H (fun v H1 => ∃ m env1 G1, Stt g B G0 G1 H1 σ env1 ∧ Rv g G1 (frz m) v ∧ Fin g B G0 W σ G1 (match frz m with
      | .lst ds => .ok (ds, env1)
      | .tup ds => .ok (ds, env1)
      | .str z => .ok (z.cps.toList.map fun c => .str ⟨#[c]⟩, env1)
      | _ => .bad) fun ds env G' H' => Stt g B G0 G' H' σ env → ∀ J, WalkD g G' J ds → R J H') I ⟨B, G0, G, env, S, (Fin.bind hq).mono fun m env1 G1 H1 s1 q v S1 => ?_⟩) fun u s1 ⟨x, H1, I1, r1, m, env1, G1, S1, rv, q⟩ => ?_
  · obtain ⟨G2, s2, rv, S2⟩ := S1.frz0
    exact ⟨m, env1, G2, S2, rv, Fin.more q s2⟩
  · generalize frz m = d at rv q
    cases d with
    | lst ds =>
      simp only [Rv] at rv
      obtain ⟨a, vs, rfl, h1, h2⟩ := rv
      cases r1
      obtain ⟨its, rv', p, hz⟩ := I1.list (SqL.of (S1.s1 _ _ h1))
      have qq : R (Itl X.K a) H1 := by rw [hK]; exact q G1 H1 (Same.refl _) S1 _ (walkD_list h1 h2)
      exact wpAny_pyIter_list p.isList (pi_one (tk := s1.toks) I1 _ (turn_list a _) ⟨_, Heap.get?_push_size _ rfl, rfl, rfl⟩ qq)
    | tup ds =>
      simp only [Rv] at rv
      obtain ⟨a, vs, rfl, h1, h2⟩ := rv
      cases r1
      obtain ⟨its, rv', p, hz⟩ := I1.tuple (hK ▸ sqT_same S1.s1 h1)
      have qq : R (Itt X.K a) H1 := by rw [hK]; exact q G1 H1 (Same.refl _) S1 _ (walkD_tup h1 h2)
      exact wpAny_pyIter_tuple (show s1.heap.IsTuple a its.toArray from p) (pi_one (tk := s1.toks) I1 _ (turn_tuple a _) ⟨_, Heap.get?_push_size _ rfl, rfl, rfl⟩ qq)
    | str z =>
      simp only [Rv] at rv
      subst rv
      obtain ⟨t, rfl⟩ := r1
      have qq := q G1 H1 (Same.refl _) S1 _ (walkD_str (z := z))
      cases ha : z.cps.all (· < 128)
      · exact wpAny_pyIter_wide ha (pi_one (tk := s1.toks) I1 _ (turn_str _ z t "str_iterator" (.inr rfl)) ⟨_, Heap.get?_push_size _ rfl, rfl, rfl⟩ qq)
      · exact wpAny_pyIter_ascii ha (pi_one (tk := s1.toks) I1 _ (turn_str _ z t "str_ascii_iterator" (.inl rfl)) ⟨_, Heap.get?_push_size _ rfl, rfl, rfl⟩ qq)
    | _ => exact False.elim q
/-- range(a), range(a, b) -/
def wRng1 (fo : FO) : FW := fun env => do
  let (x, env) ← fo env
  match ← Rs.of (res env x) with
  | .int j => if -(2 ^ 62) ≤ j ∧ j < 2 ^ 62 then .ok (rngD 0 j, env) else .bad
  | _ => .bad
def wRng2 (fo go : FO) : FW := two fo go fun dx dy env => match dx, dy with
  | .int i, .int j => if -(2 ^ 62) ≤ i ∧ i < 2 ^ 62 ∧ -(2 ^ 62) ≤ j ∧ j < 2 ^ 62 then .ok (rngD i j, env) else .bad
  | _, _ => .bad
theorem sw_rng1 (hg : Gl X "range") (hm : X.mg "range" = none) (hs : starEach [a] X.env = (false, eval a X.env) :: starEach [] X.env) (hs2 : starEach [a] X.env = [(false, eval a X.env)]) (ha : PE X a (tO g W fo)) : PI X tg (.Call (.Name "range" p) [a] [] pos) (tI g W (wRng1 fo)) := by
  refine ⟨fun pins s σ H R I hq => ?_⟩
  obtain ⟨B, G0, G, env, S, hq⟩ := hq
  refine (pi_range1 hg hm (pa_cons ha pa_nil hs) hs2).run pins s σ H R I ⟨B, G0, G, env, S, (Fin.bind hq).mono fun o env1 G1 H1 s1 q v S1 r1 => ?_⟩
  obtain ⟨d, e1, q⟩ := Fin.of_bind q
  have vw := S1.res r1 e1
  cases d with
  | int j =>
    simp only [Vw, Rv] at vw
    subst vw
    simp only at q
    split at q
    · rename_i hh
      have := q G1 H1 (Same.refl _) S1 _ (walkD_rng (lo := 0) (hi := j))
      rw [Int.sub_zero] at this
      exact ⟨j, rfl, hh.1, hh.2, this⟩
    · exact False.elim q
  | _ => exact False.elim q
theorem sw_rng2 (hg : Gl X "range") (hm : X.mg "range" = none) (hs : starEach [a, b] X.env = (false, eval a X.env) :: starEach [b] X.env) (hs2 : starEach [b] X.env = (false, eval b X.env) :: starEach [] X.env)
    (hs3 : starEach [a, b] X.env = [(false, eval a X.env), (false, eval b X.env)]) (hs4 : starEach [b] X.env = [(false, eval b X.env)]) (ha : PE X a (tO g W fo)) (hb : PE X b (tO g W go)) : PI X tg (.Call (.Name "range" p) [a, b] [] pos) (tI g W (wRng2 fo go)) := by
  refine ⟨fun pins s σ H R I hq => ?_⟩
  obtain ⟨B, G0, G, env, S, hq⟩ := hq
  unfold wRng2 two at hq
  refine (pi_range2 hg hm (pa_cons ha (pa_cons hb pa_nil hs2) hs) hs3 hs4).run pins s σ H R I ⟨B, G0, G, env, S, (Fin.bind hq).mono fun o env1 G1 H1 s1 q x S1 r1 => ?_⟩
  refine ⟨B, G0, G1, env1, S1, (Fin.bind q).mono fun o2 env2 G2 H2 s2 q y S2 r2 => ?_⟩
  obtain ⟨dx, e1, q⟩ := Fin.of_bind q
  obtain ⟨dy, e2, q⟩ := Fin.of_bind q
  have v1 := S2.res (r1.same s2) e1
  have v2 := S2.res r2 e2
  cases dx with
  | int i =>
    cases dy with
    | int j =>
      simp only [Vw, Rv] at v1 v2
      subst v1; subst v2
      simp only at q
      split at q
      · rename_i hh
        exact ⟨i, j, rfl, hh, q G2 H2 (Same.refl _) S2 _ walkD_rng⟩
      · exact False.elim q
    | _ => exact False.elim q
  | _ => exact False.elim q
/-! ### comprehensions, assembled -/
theorem se_cmp1 {elt tg iter : Expr} {scope : Scope} {own : List (Str × Nat)} {src : FW} {fg : FG} {t : FT} {f : FE} (hc : X.calm = true) (hN : X.N.Nodup) (hi : PI X tg iter (tI g W src)) (ok : BlkOk X.N X.env.scope scope own)
    (hg : ∀ (s : Shared) (H : Hp) (C : Addr) (cl : List (Str × Addr)) (fp : List Addr), PG (X.blk s H scope (compEnvC scope cl C X.env) fp) tg (tG g (own.map (·.2)) fg)) {ifs : List Expr}
    (ht : ∀ (s : Shared) (H : Hp) (C : Addr) (cl : List (Str × Addr)) (fp : List Addr), PTs (X.blk s H scope (compEnvC scope cl C X.env) fp) ifs (tT g W0 t))
    (he : ∀ (s : Shared) (H : Hp) (C : Addr) (cl : List (Str × Addr)) (fp : List Addr), PE (X.blk s H scope (compEnvC scope cl C X.env) fp) elt (tE g W0 f)) (hs : ∀ x, foldedSetIterable iter X.env x = pure x) :
    PE X (.ListComp elt [⟨tg, iter, ifs, 0⟩] scope pos) (tE g W (eCmp (own.map (·.2)) src fg t f)) := by
  refine ⟨fun pins s σ H Q I hq => ?_⟩
  obtain ⟨B, G0, G, env, S, hq⟩ := hq
  exact (pe_lc hc hN hi ok hg ht he hs).run pins s σ H Q I (tLc_run S hq)
theorem ss_setCmp {mp : List Nat} {i : Nat} {y : Str} {py spos : Pos} {elt tg iter : Expr} {scope : Scope} {own : List (Str × Nat)} {src : FW} {fg : FG} {t : FT} {f : FE} (hc : X.calm = true) (hN : X.N.Nodup) (hy : X.N[i]? = some y) (hyl : X.env.scope.names.lookup y = some .local) {ifs : List Expr}
    (hsw : swapsWith (.ListComp elt [⟨tg, iter, ifs, 0⟩] scope pos) (some (.Name y py)) spos.line X.env = pure true) (hi : PI X tg iter (tI g W src)) (ok : BlkOk X.N X.env.scope scope own)
    (hg : ∀ (s : Shared) (H : Hp) (C : Addr) (cl : List (Str × Addr)) (fp : List Addr), PG (X.blk s H scope (compEnvC scope cl C X.env) fp) tg (tG g (own.map (·.2)) fg))
    (ht : ∀ (s : Shared) (H : Hp) (C : Addr) (cl : List (Str × Addr)) (fp : List Addr), PTs (X.blk s H scope (compEnvC scope cl C X.env) fp) ifs (tT g W0 t))
    (he : ∀ (s : Shared) (H : Hp) (C : Addr) (cl : List (Str × Addr)) (fp : List Addr), PE (X.blk s H scope (compEnvC scope cl C X.env) fp) elt (tE g W0 f)) (hs : ∀ x, foldedSetIterable iter X.env x = pure x) :
    PS X (.Assign [.Name y py] (.ListComp elt [⟨tg, iter, ifs, 0⟩] scope pos) spos) (tS g W mp (sSet mp i (eCmp (own.map (·.2)) src fg t f))) := by
  refine ⟨fun pins s σ H D I h => ?_⟩
  obtain ⟨B, G0, G, env, S, h⟩ := h
  refine (ps_setLc hc hN hy hyl hsw hi ok hg ht he hs).run pins s σ H D I (tLc_run S ((FinS.bind h).mono fun m env1 G1 H1 s1 q v S1 => ?_))
  simp only at q
  split at q
  · exact False.elim q
  · rename_i hh
    exact q (σ.set i (some v)) G1 H1 (Same.refl _) (Kp.set fun h => hh (.inl h)) (S1.put i (by omega))
def tYesF : FT := fun env => .ok (true, env)
theorem sts_nil : PTs X [] (tT g W tYesF) := by
  refine ⟨fun pins s σ H Q I hq => ?_⟩
  obtain ⟨B, G0, G, env, S, hq⟩ := hq
  exact pts_nil.run pins s σ H Q I (hq G H (Same.refl _) S)
end
end Eng
end
section
set_option Elab.async false
set_option linter.all false
set_option maxRecDepth 100000
namespace Eng
open PySem L2
open PyProof.Rows hiding St

section
variable {X : Cx} {g : Gs} {W : WX} {o e : Expr} {es : List Expr} {f : FE} {fo go : FO} {k : FA} {pos apos cpos : Pos}
/-! ### methods that only read -/
def rM (g : Gs) (fn : D → List D → Option M) : V → List V → Hp → VK → Prop := fun x xs H Q => ∃ B G0 G σ env d ds m, Stt g B G0 G H σ env ∧ Vw g G H d x ∧ Vws g G H ds xs ∧ fn d ds = some m ∧ Cont g B G0 G σ env m Q
def MethS (X : Cx) (g : Gs) (id : String) (fn : D → List D → Option M) : Prop := MtR X id (rM g fn)
/-- what a receiver must be -/
def isTy : String → D → Bool
  | "str", .str _ => true
  | "list", .lst _ => true
  | "dict", .dct _ _ => true
  | _, _ => false
def eMeth (T : String) (fn : D → List D → Option M) (fo : FO) (k : FA) : FE := fun env => do
  let (x, env) ← fo env
  let dx ← Rs.of (res env x)
  if isTy T dx = true then do
    let (os, env) ← k env
    let dx ← Rs.of (res env x)
    let ds ← Rs.of (resAll env os)
    let m ← Rs.of (fn dx ds)
    .ok (m, env)
  else .bad
theorem isTy_v {G H : Hp} {T : String} {d : D} {v : V} (h : isTy T d = true) (vw : Vw g G H d v) : tyV X.K T v H := by
  cases d with
  | str z =>
    simp only [Vw, Rv] at vw; subst vw
    unfold isTy at h
    split at h <;> first | rfl | (simp_all)
  | lst xs =>
    obtain ⟨a, vs, rfl, h1, h2⟩ := vw
    unfold isTy at h
    split at h <;> first | exact .inl ⟨rfl, vs, SqL.of h1⟩ | (simp_all)
  | dct ks xs =>
    obtain ⟨a, vs, rfl, h1, h2, h3⟩ := vw
    unfold isTy at h
    split at h <;> first | exact .inr (.inr (.inl ⟨rfl, .inl ⟨_, h1⟩⟩)) | (simp_all)
  | _ => unfold isTy at h; split at h <;> simp_all
theorem se_meth {T id : String} {name : Str} {fn : D → List D → Option M} (pa : PlainAttrs T) (slot : Slot T name id) (hty : typeOf (.builtin id) = pure (.type "method_descriptor")) (hm : MethS X g id fn) (ho : PE X o (tO g W fo)) (ha : PA X (e :: es) (tA' g W k))
    (hbase : attributeBase o name X.env (eval o X.env) = eval o X.env)
    (hfew : ((backTo cpos (starEach (e :: es) X.env)).all (fun x => !x.1) && (backToKw cpos (keywordEach [] X.env)).all (fun x => x.1.isSome)
      && decide ((e :: es).length + ([] : List Keyword).length + (if ([] : List Keyword).isEmpty then 0 else 1) < 30)) = true)
    (hline : (apos.endLine == cpos.line) = true) (hs : starEach (e :: es) X.env = (false, eval e X.env) :: starEach es X.env) (hplain : (backTo cpos (starEach es X.env)).any (·.1) = false) :
    PE X (.Call (.Attribute o name apos) (e :: es) [] cpos) (tE g W (eMeth T fn fo k)) := by
  refine ⟨fun pins s σ H Q I hq => ?_⟩
  obtain ⟨B, G0, G, env, S, hq⟩ := hq
  refine (pe_bm pa slot hty hm ho ha hbase hfew hline hs hplain).run pins s σ H Q I ⟨B, G0, G, env, S, (Fin.bind hq).mono fun x env1 G1 H1 s1 q v S1 r1 => ?_⟩
  obtain ⟨d, e1, q⟩ := Fin.of_bind q
  split at q
  · rename_i hT
    refine ⟨isTy_v hT (S1.res r1 e1), B, G0, G1, env1, S1, (Fin.bind q).mono fun os env2 G2 H2 s2 q vs S2 r2 => ?_⟩
    obtain ⟨d2, e2, q⟩ := Fin.of_bind q
    obtain ⟨ds, e3, q⟩ := Fin.of_bind q
    obtain ⟨m, e4, q⟩ := Fin.of_bind q
    exact ⟨B, G0, G2, σ, env2, d2, ds, m, S2, S2.res (r1.same s2) e2, S2.resAll r2 e3, e4, fun z G' H' s' S' => q G' H' s' z S'⟩
  · exact False.elim q
def idxOfF : D → List D → Option M
  | .lst xs, [.int i] => (intsD xs).bind fun ns => if i ∈ ns then some (.im (.int (ns.idxOf i : Nat))) else none
  | .lst xs, [.bl b] => (boolsD xs).bind fun ns => if b ∈ ns then some (.im (.int (ns.idxOf b : Nat))) else none
  | _, _ => none
theorem ms_index (hu : X.A.units + 64 < cLine) : MethS X g "list.index" idxOfF := by
  intro pins s σ H x xs v us Q I rx rxs ⟨B, G0, G, σ', env, d, ds, m, S, vw, vws, e, k⟩
  unfold idxOfF at e
  split at e
  · simp only [Option.bind_eq_some_iff] at e
    obtain ⟨ns, e1, e2⟩ := e
    split at e2
    · rename_i i hm
      cases e2
      obtain ⟨a, vs, rfl, h1, h2⟩ := vw
      have := h2.ints e1
      subst this
      obtain ⟨w, rfl, hw⟩ := vws1 vws
      simp only [Vw, Rv] at hw; subst hw
      obtain ⟨u, rfl, t, rfl⟩ := vals1 rxs
      cases (show v = Value.ref a from rx)
      obtain ⟨its, r, p, hz⟩ := I.list (SqL.of h1)
      obtain ⟨as, rs⟩ := Dp.readsAll I (ns.map PyData.int) (ns.map V.int) its (dpAll_ints ns) r
      refine PySem.W.index_list_datum p.isList ⟨as, rs⟩ ⟨[], .int _ _⟩ (by show X.A.units + 1 + 0 < cLine; omega) (by simpa using hz) hm ⟨.int _, H, I.tok _, ⟨_, rfl⟩, k.sc S fun _ => by simp [Rv]⟩
    · cases e2
  · simp only [Option.bind_eq_some_iff] at e
    obtain ⟨ns, e1, e2⟩ := e
    split at e2
    · rename_i b hm
      cases e2
      obtain ⟨a, vs, rfl, h1, h2⟩ := vw
      have := cs_any.bools_v e1 h2
      subst this
      obtain ⟨w, rfl, hw⟩ := vws1 vws
      simp only [Vw, Rv] at hw; subst hw
      obtain ⟨u, rfl, hu'⟩ := vals1 rxs
      cases (show u = Value.bool b from hu')
      cases (show v = Value.ref a from rx)
      obtain ⟨its, r, p, hz⟩ := I.list (SqL.of h1)
      obtain ⟨as, rs⟩ := Dp.readsAll I (ns.map PyData.bool) (ns.map V.bl) its (dpAll_bl ns) r
      refine PySem.W.index_list_datum p.isList ⟨as, rs⟩ ⟨[], .bool _⟩ (by show X.A.units + 1 + 0 < cLine; omega) (by simpa using hz) hm ⟨.int _, H, I.tok _, ⟨_, rfl⟩, k.sc S fun _ => by simp [Rv]⟩
    · cases e2
  · cases e
where dpAll_bl {K : PySem.W.Frag} {H : Hp} : ∀ ns : List Bool, DpAll K H (ns.map V.bl) (ns.map PyData.bool)
  | [] => .nil
  | n :: r => .cons (.bl n) (dpAll_bl r)
/-! ### methods that change a slot's list -/
/-- xs.append(e) -/
def eApp (i : Nat) (f : FE) : FE := fun env => match env[i]? with
  | some (some (.ls _)) => do
    let (m, env) ← f env
    match env[i]? with
    | some (some (.ls ms)) => if ms.length < sizeLine then .ok (.im .non, env.set i (some (.ls (ms ++ [m])))) else .bad
    | _ => .bad
  | _ => .bad
theorem Rms.len {G H : Hp} : ∀ {ms : List M} {vs : List V} {F}, Rms g G H ms vs F → vs.length = ms.length
  | [], _, _, h => by simp only [Rms] at h; simp [h.1]
  | m :: ms, _, _, h => by
    simp only [Rms] at h
    obtain ⟨v, r, F1, F2, rfl, _, h2, _⟩ := h
    simp [Rms.len h2]
theorem Stt.ls {B G0 G H : Hp} {σ : St} {env : Env} {i : Nat} {ms : List M} (S : Stt g B G0 G H σ env) (h : env[i]? = some (some (.ls ms))) : ∃ a vs, σ[i]? = some (some (.ref a)) ∧ H a = some (.lst vs) ∧ vs.length = ms.length := by
  obtain ⟨v, F1, e4, r, _⟩ := S.at h
  simp only [Rm] at r
  obtain ⟨a, vs, F', rfl, _, h2, h3, _⟩ := r
  exact ⟨a, vs, e4, h2, h3.len⟩
theorem Stt.appAt {B G0 G H : Hp} {σ : St} {env : Env} {i : Nat} {ms : List M} {y : V} {m : M} {a : Addr} (S : Stt g B G0 G H (some y :: σ) (some m :: env)) (h : env[i]? = some (some (.ls ms))) (hs : σ[i]? = some (some (.ref a))) :
    ∃ acc, H a = some (.lst acc) ∧ acc.length = ms.length ∧ Stt g B G0 G (upd H a (.lst (acc ++ [y]))) σ (env.set i (some (.ls (ms ++ [m])))) := by
  obtain ⟨va, e1, S1⟩ := S.take (i := i + 1) (m := .ls ms) (by simpa using h)
  simp only [List.getElem?_cons_succ] at e1
  rw [hs] at e1; cases e1
  simp only [List.set_cons_succ] at S1
  obtain ⟨a', acc, ea, ha, hl, S2⟩ := Stt.app (Stt.swap S1)
  cases ea
  have hi : i < env.length := (List.getElem?_eq_some_iff.mp h).1
  have S3 := S2.put i (by simpa using hi)
  rw [set_eq hs] at S3
  simp only [List.set_set] at S3
  exact ⟨acc, ha, hl, S3⟩
theorem se_app {i : Nat} {x : Str} {p : Pos} (hN : X.N[i]? = some x) (hv : Vis X.env.scope x) (hd : (x == ("__debug__" : Str)) = false) (hcd : (x == ("__classdict__" : Str)) = false) (he : PE X e (tE g W f))
    (hbase : attributeBase (.Name x p) "append" X.env (eval (.Name x p) X.env) = eval (.Name x p) X.env)
    (hfew : ((backTo cpos (starEach [e] X.env)).all (fun x => !x.1) && (backToKw cpos (keywordEach [] X.env)).all (fun x => x.1.isSome)
      && decide ([e].length + ([] : List Keyword).length + (if ([] : List Keyword).isEmpty then 0 else 1) < 30)) = true)
    (hline : (apos.endLine == cpos.line) = true) (hs : starEach [e] X.env = (false, eval e X.env) :: starEach [] X.env) (hplain : (backTo cpos (starEach [] X.env)).any (·.1) = false) :
    PE X (.Call (.Attribute (.Name x p) "append" apos) [e] [] cpos) (tE g W (eApp i f)) := by
  refine ⟨fun pins s σ H Q I hq => ?_⟩
  obtain ⟨B, G0, G, env, S, hq⟩ := hq
  unfold eApp at hq
  split at hq
  · rename_i ms0 e0
    obtain ⟨a, vs, ea, hH, _⟩ := S.ls e0
    refine (pe_bm PySem.F.plainAttrs_list PySem.F.slot_list_append PySem.F.type_list_append mt_append (pe_var hN hv hd hcd) (pa_cons he pa_nil hs) hbase hfew hline hs hplain).run pins s σ H Q I
      ⟨.ref a, ea, .inl ⟨rfl, vs, SqL.of hH⟩, B, G0, G, env, S, (Fin.bind hq).mono fun m env1 G1 H1 s1 q y S1 => ?_⟩
    simp only at q
    split at q
    · rename_i ms e1
      split at q
      · rename_i hz
        obtain ⟨acc, h1, h2, S2⟩ := S1.appAt e1 ea
        exact ⟨a, acc, y, rfl, rfl, h1, by omega, q G1 _ (Same.refl _) .non (S2.cons (by simp [Rv]))⟩
      · exact False.elim q
    · exact False.elim q
  · exact False.elim hq
/-! ### o[i] = e -/
def replK {α : Type} (k : Key) (a : α) : List Key → List α → List α
  | j :: ks, x :: xs => (if j = k then a else x) :: replK k a ks xs
  | _, xs => xs
def putM {α : Type} (ks : List Key) (ms : List α) (k : Key) (m : α) : List Key × List α :=
  if ks.any (fun j => decide (j = k)) = true then (ks, replK k m ks ms) else (ks ++ [k], ms ++ [m])
theorem replK_len {α : Type} (k : Key) (a : α) : ∀ (ks : List Key) (xs : List α), (replK k a ks xs).length = xs.length
  | [], _ => by simp [replK]
  | _ :: _, [] => by simp [replK]
  | j :: ks, x :: xs => by simp [replK, replK_len k a ks xs]
theorem putK_zip (k : Key) (v : V) (ks : List Key) (vs : List V) (h : ks.length = vs.length) : putK (ks.zip vs) k v = (putM ks vs k v).1.zip (putM ks vs k v).2 := by
  have e1 : ((ks.zip vs).any fun kv => decide (kv.1 = k)) = ks.any fun j => decide (j = k) := by
    clear v
    induction ks generalizing vs with
    | nil => simp
    | cons j ks ih =>
      cases vs with
      | nil => simp at h
      | cons x vs => simp [List.zip_cons_cons, ih vs (by simpa using h)]
  unfold putK putM
  rw [e1]
  split
  · have : ∀ (ks : List Key) (vs : List V), ((ks.zip vs).map fun kv => if kv.1 = k then (kv.1, v) else kv) = ks.zip (replK k v ks vs) := by
      intro ks
      induction ks with
      | nil => intro vs; simp
      | cons j ks ih =>
        intro vs
        cases vs with
        | nil => simp [replK]
        | cons x vs =>
          simp only [List.zip_cons_cons, List.map_cons, replK, ih vs]
          by_cases hj : j = k <;> simp [hj]
    exact this ks vs
  · simp only
    rw [List.zip_append h]; rfl
theorem Rms.set {G H : Hp} {d : D} {v : V} (hr : Rv g G d v) : ∀ {ms : List M} {vs : List V} {F} (j : Nat), Rms g G H ms vs F → ∃ F2, Rms g G H (ms.set j (.im d)) (vs.set j v) F2 ∧ F2.Sublist F
  | [], vs, F, j, h => by
    simp only [Rms] at h
    refine ⟨[], ?_, by simp⟩
    simp [h.1, Rms]
  | m :: ms, vs, F, 0, h => by
    simp only [Rms] at h
    obtain ⟨w, r, F1, F2, rfl, _, h2, rfl⟩ := h
    refine ⟨F2, ?_, List.sublist_append_right _ _⟩
    simp only [List.set_cons_zero, Rms, Rm]
    exact ⟨v, r, [], F2, rfl, ⟨hr, rfl⟩, h2, rfl⟩
  | m :: ms, vs, F, j + 1, h => by
    simp only [Rms] at h
    obtain ⟨w, r, F1, F2, rfl, h1, h2, rfl⟩ := h
    obtain ⟨F3, h3, s3⟩ := Rms.set hr j h2
    refine ⟨F1 ++ F3, ?_, List.Sublist.append_left s3 _⟩
    simp only [List.set_cons_succ, Rms]
    exact ⟨w, _, F1, F3, rfl, h1, h3, rfl⟩
theorem Rms.repl {G H : Hp} {d : D} {v : V} {k : Key} (hr : Rv g G d v) : ∀ {ks : List Key} {ms : List M} {vs : List V} {F}, Rms g G H ms vs F → ∃ F2, Rms g G H (replK k (.im d) ks ms) (replK k v ks vs) F2 ∧ F2.Sublist F
  | [], ms, vs, F, h => ⟨F, by simpa [replK] using h, List.Sublist.refl _⟩
  | j :: ks, [], vs, F, h => by
    have h0 := h
    simp only [Rms] at h
    refine ⟨F, ?_, List.Sublist.refl _⟩
    rw [h.1] at h0 ⊢
    simpa [replK] using h0
  | j :: ks, m :: ms, vs, F, h => by
    simp only [Rms] at h
    obtain ⟨w, r, F1, F2, rfl, h1, h2, rfl⟩ := h
    obtain ⟨F3, h3, s3⟩ := Rms.repl (ks := ks) hr h2
    by_cases hj : j = k
    · refine ⟨F3, ?_, s3.trans (List.sublist_append_right _ _)⟩
      simp only [replK, if_pos hj, Rms, Rm]
      exact ⟨v, _, [], F3, rfl, ⟨hr, rfl⟩, h3, rfl⟩
    · refine ⟨F1 ++ F3, ?_, List.Sublist.append_left s3 _⟩
      simp only [replK, if_neg hj, Rms]
      exact ⟨w, _, F1, F3, rfl, h1, h3, rfl⟩
theorem Rms.snoc {G H : Hp} {d : D} {v : V} (hr : Rv g G d v) : ∀ {ms : List M} {vs : List V} {F}, Rms g G H ms vs F → Rms g G H (ms ++ [.im d]) (vs ++ [v]) F
  | [], vs, F, h => by
    simp only [Rms] at h
    rw [h.1, h.2]
    simp only [List.nil_append, Rms, Rm]
    exact ⟨v, [], [], [], rfl, ⟨hr, rfl⟩, ⟨rfl, rfl⟩, rfl⟩
  | m :: ms, vs, F, h => by
    simp only [Rms] at h
    obtain ⟨w, r, F1, F2, rfl, h1, h2, rfl⟩ := h
    simp only [List.cons_append, Rms]
    exact ⟨w, _, F1, F2, rfl, h1, Rms.snoc hr h2, rfl⟩
/-- the object at a slot's root is written; what it holds may only become less -/
theorem Stt.write {B G0 G H : Hp} {σ : St} {env : Env} {i : Nat} {m m' : M} {a : Addr} {F F' : List Addr} {o : HO} (S : Stt g B G0 G H σ env) (h : env[i]? = some (some m)) (hs : σ[i]? = some (some (.ref a)))
    (hm : ∀ F1, Rm g G H m (.ref a) F1 → F1.Nodup → ∃ F2, F1 = a :: F2 ∧ ∃ F3, F3.Sublist F2 ∧ Rm g G (upd H a o) m' (.ref a) (a :: F3)) : Stt g B G0 G (upd H a o) σ (env.set i (some m')) := by
  obtain ⟨v, F1, e4, r, nd, fb, k⟩ := S.at h
  rw [hs] at e4; cases e4
  obtain ⟨F2, rfl, F3, sb, r'⟩ := hm F1 r nd
  have nn := r.nn a (by simp)
  have := k G (upd H a o) m' (.ref a) (a :: F3) (Same.refl _) (same_upd S.s1 nn.1) (fun b hb _ => upd_ne (fun e => hb (by simp [e]))) (fun b hb => .inl hb) r' (List.nodup_cons.mpr ⟨fun hm => (List.nodup_cons.mp nd).1 (sb.subset hm), (List.nodup_cons.mp nd).2.sublist sb⟩)
    (fun b hb => .inl ((List.mem_cons.mp hb).elim (fun e => by simp [e]) fun h => by simp [sb.subset h]))
  rw [set_eq hs] at this
  exact this
def setF (m0 : M) (di d : D) : Option M :=
  match m0 with
  | .ls ms => match di with
    | .int k => (ixN ms.length k).map fun j => .ls (ms.set j (.im d))
    | _ => none
  | .dc ks ms => (keyD di).bind fun k => if ks.length < sizeLine then some (.dc (putM ks ms k (.im d)).1 (putM ks ms k (.im d)).2) else none
  | _ => none
/-- xs[e1] = e, xs a slot's own list or dict -/
def sPut (i : Nat) (go : FO) (f : FE) : FS := fun env => do
  let (m, env) ← f env
  match env[i]? with
  | some (some _) => do
    let (y, env) ← go env
    let di ← Rs.of (res env y)
    match env[i]? with
    | some (some m0) => do
      let m1 ← Rs.of (setF m0 di (frz m))
      .ok (.nx, env.set i (some m1))
    | _ => .bad
  | _ => .bad
theorem set_ok (hu : X.A.units + 64 < cLine) {B G0 G H : Hp} {σ0 σ : St} {env : Env} {i : Nat} {m0 m1 : M} {d di : D} {pins : List (Addr × Obj)} {s : Shared} {x y v : V} {ov iv u : Value} {Q : Hp → Prop} (I : Inv X pins σ0 H s) (S : Stt g B G0 G H σ env)
    (h0 : env[i]? = some (some m0)) (hx : σ[i]? = some (some x)) (rx : L2.RelV x ov) (ry : L2.RelV y iv) (rv : L2.RelV v u) (hi : Vw g G H di y) (hd : Rv g G d v) (e : setF m0 di d = some m1)
    (q : ∀ H', Stt g B G0 G H' σ (env.set i (some m1)) → Q H') : wpAny (model X.prog X.w) X.A (setItem ov iv u) (fun _ s' => ∃ H', Inv X pins σ0 H' s' ∧ Q H') X.xe s := by
  obtain ⟨v', F1, e4, r, nd, _⟩ := S.at h0
  rw [hx] at e4; cases e4
  unfold setF at e
  cases m0 with
  | ls ms =>
    cases di with
    | int k =>
      simp only [Option.map_eq_some_iff] at e
      obtain ⟨j, e1, rfl⟩ := e
      simp only [Rm] at r
      obtain ⟨a, vs, F', rfl, g1, h1, h2, rfl⟩ := r
      simp only [Vw, Rv] at hi; subst hi
      refine set_list pins s σ0 H _ _ _ ov iv u Q I rx ry rv ⟨a, vs, k, j, rfl, rfl, h1, by rw [h2.len]; exact e1, q _ (S.write h0 hx (F := []) (F' := []) fun F1 hr hn => ?_)⟩
      simp only [Rm] at hr
      obtain ⟨a', vs', F2, ea, g2, h3, h4, rfl⟩ := hr
      cases ea
      rw [h1] at h3; cases h3
      obtain ⟨F3, r3, sb⟩ := Rms.set hd j h4
      refine ⟨F2, rfl, F3, sb, ?_⟩
      simp only [Rm]
      exact ⟨a, _, F3, rfl, g1, upd_same, r3.kept ⟨Same.refl _, fun _ _ h => h, fun b hb => upd_ne (fun e => (List.nodup_cons.mp hn).1 (by subst e; exact sb.subset hb))⟩, rfl⟩
    | _ => simp at e
  | dc ks ms =>
    simp only [Option.bind_eq_some_iff] at e
    obtain ⟨k, e1, e2⟩ := e
    split at e2
    · rename_i hz
      cases e2
      simp only [Rm] at r
      obtain ⟨a, vs, F', rfl, g1, h1, hl, h2, rfl⟩ := r
      have ek := keyD_v hi e1
      subst ek
      cases (show ov = Value.ref a from rx)
      have hz' : (ks.zip vs).length < sizeLine := by rw [List.length_zip, ← hl, Nat.min_self]; exact hz
      refine d_setItem (by omega) I (DPut.k (k := k) (v := v) h1 hz') ry rv fun s' I' => ⟨_, I', ?_⟩
      rw [putK_zip k v ks vs hl]
      refine q _ (S.write h0 hx (F := []) (F' := []) fun F1 hr hn => ?_)
      simp only [Rm] at hr
      obtain ⟨a', vs', F2, ea, g2, h3, hl', h4, rfl⟩ := hr
      cases ea
      rw [h1] at h3
      have evs : vs = vs' := by
        have h3' : ks.zip vs = ks.zip vs' := by injection h3 with h3; injection h3
        have e1 := congrArg (List.map Prod.snd) h3'
        rw [List.map_snd_zip (by omega), List.map_snd_zip (by omega)] at e1
        exact e1
      subst evs
      have kp : ∀ {F3 : List Addr}, F3.Sublist F2 → Kept G G H (upd H a (.dK ((putM ks vs k v).1.zip (putM ks vs k v).2))) F3 := fun {F3} sb => ⟨Same.refl _, fun _ _ h => h, fun b hb => upd_ne (fun e => (List.nodup_cons.mp hn).1 (by subst e; exact sb.subset hb))⟩
      by_cases c : ks.any (fun j => decide (j = k)) = true
      · obtain ⟨F3, r3, sb⟩ := Rms.repl (ks := ks) (k := k) hd h4
        refine ⟨F2, rfl, F3, sb, ?_⟩
        simp only [Rm]
        refine ⟨a, replK k v ks vs, F3, rfl, g1, ?_, ?_, ?_, rfl⟩
        · rw [upd_same]; simp [putM, c]
        · simp [putM, c, replK_len, hl]
        · have := r3.kept (kp sb)
          simpa [putM, c] using this
      · refine ⟨F2, rfl, F2, List.Sublist.refl _, ?_⟩
        simp only [Rm]
        refine ⟨a, vs ++ [v], F2, rfl, g1, ?_, ?_, ?_, rfl⟩
        · rw [upd_same]; simp [putM, c]
        · simp [putM, c, hl]
        · have := (h4.snoc hd).kept (kp (List.Sublist.refl _))
          simpa [putM, c] using this
    · cases e2
  | _ => simp at e
theorem ss_put {mp : List Nat} {i : Nat} {x : Str} {p spos : Pos} {ei : Expr} (hu : X.A.units + 64 < cLine) (hN : X.N[i]? = some x) (hv : Vis X.env.scope x) (hd : (x == ("__debug__" : Str)) = false) (hcd : (x == ("__classdict__" : Str)) = false) (hi : PE X ei (tO g W go)) (he : PE X e (tE g W f))
    (ha : ∀ v, assign (.Subscript (.Name x p) ei pos) X.env v = (do
      let ov ← holding [v] (eval (.Name x p) X.env)
      let iv ← holding [v, ov] (eval ei X.env)
      standAt pos
      holding [v, ov, iv] (setItem ov iv v)
      release [v, ov, iv] [])) (hs : swapsWithSole [.Subscript (.Name x p) ei pos] e spos.line X.env = pure false) (hw : swappedStores [.Subscript (.Name x p) ei pos] e X.env = pure none)
    (h1 : (assignEach [.Subscript (.Name x p) ei pos] X.env).map (·.2) = [assign (.Subscript (.Name x p) ei pos) X.env]) : PS X (.Assign [.Subscript (.Name x p) ei pos] e spos) (tS g W mp (sPut i go f)) := by
  have ps : PSet X (fun o iv v H Q => ∃ B G0 G σ env i m0 m1 d di, σ[i]? = some (some o) ∧ Stt g B G0 G H σ env ∧ env[i]? = some (some m0) ∧ Vw g G H di iv ∧ Rv g G d v ∧ setF m0 di d = some m1 ∧ ∀ H', Stt g B G0 G H' σ (env.set i (some m1)) → Q H') := by
    intro pins s σ0 H o i v ov iv u Q I ro ri rv ⟨B, G0, G, σ, env, j, m0, m1, d, di, e1, S, e2, e3, e4, e5, k⟩
    exact set_ok hu I S e2 e1 ro ri rv e3 e4 e5 k
  refine ⟨fun pins s σ H D I h => ?_⟩
  obtain ⟨B, G0, G, env, S, h⟩ := h
  refine (ps_asg he (pg_sub (pe_var hN hv hd hcd) hi ps ha) hs hw h1).run pins s σ H D I ⟨B, G0, G, env, S, (FinS.bind h).mono fun m env1 G1 H1 s1 q v S1 => ?_⟩
  obtain ⟨G2, s2, rv, S2⟩ := S1.frz0
  have q := FinS.more q s2 Kp.refl
  simp only at q
  split at q
  · rename_i mx ex
    obtain ⟨xv, F1, e4, _⟩ := S2.at ex
    refine ⟨xv, e4, B, G0, G2, env1, S2, (FinS.bind q).mono fun y env3 G3 H3 s3 q yv S3 r3 => ?_⟩
    obtain ⟨di, e5, q⟩ := FinS.of_bind q
    split at q
    · rename_i m0 e6
      obtain ⟨m1, e7, q⟩ := FinS.of_bind q
      exact ⟨B, G0, G3, σ, env3, i, m0, m1, frz m, di, e4, S3, e6, S3.res r3 e5, rv.same s3, e7, fun H' S' => FinS.nx q S'⟩
    · exact False.elim q
  · exact False.elim q
end
end Eng
end
section
set_option Elab.async false
set_option linter.all false
set_option maxRecDepth 100000
namespace Eng
open PySem L2
open PyProof.Rows hiding St

/-! ### defs: what they give for what -/
abbrev Mir := List M → Rs (M × List M)
/-- room for k calls, one in another; no repr is under way -/
structure RG (k : Nat) (A : Around) : Prop where
  dp : A.depth + 3 * k + 5 < recursionLimit
  un : A.units + 16 * k + 200 < cLine
  gd : A.guards = some []
theorem RG.mono {j k : Nat} {A : Around} (r : RG k A) (h : j ≤ k) : RG j A := ⟨by have := r.dp; omega, by have := r.un; omega, r.gd⟩
theorem RG.deeper {k : Nat} {A : Around} (r : RG (k + 1) A) (env : PySem.Env) : RG k (A.deeper env) :=
  ⟨by have := r.dp; show A.depth + 1 + 3 * k + 5 < _; omega, by have := r.un; show A.units + 3 + 16 * k + 200 < _; omega, r.gd⟩
/-- what is wanted of a def's end, from its values -/
def PFin (g : Gs) (G H : Hp) (F : List Addr) (ws : List V) (r : Rs (M × List M)) (Q : VK) (E : XK) : Prop :=
  match r with
  | .bad => False
  | .exc c fs _ => ∀ d vs G' H', Same G G' → Same G' H' → (∀ a, a ∉ F → H a ≠ none → H' a = H a) → (∀ a, G' a ≠ none → G a ≠ none ∨ H a = none ∨ a ∈ F) →
      G' d = some (.xd ((g.fld c).zip vs)) → (g.fld c).length = vs.length → Rvs g G' fs vs → E (.ref (g.cls c)) (some d) H'
  | .ok (m, outs) => ∀ v G' H' Fr, Same G G' → Same G' H' → (∀ a, a ∉ F → H a ≠ none → H' a = H a) → (∀ a, G' a ≠ none → G a ≠ none ∨ H a = none ∨ a ∈ F) →
      Rms g G' H' (m :: outs) (v :: ws) Fr → Fr.Nodup → (∀ a ∈ Fr, a ∈ F ∨ H a = none) → Q v H'
/-- the values at these places -/
def pick {α : Type} (l : List α) (mp : List Nat) : List α := mp.filterMap fun i => l[i]?
/-- a def's promise, as the layer has it -/
def spF (g : Gs) (n : Nat) (mp : List Nat) (mir : Mir) : Sp := fun vs H Q E => vs.length = n ∧ ∃ G ms F, Same G H ∧ Rms g G H ms vs F ∧ F.Nodup ∧ PFin g G H F (pick vs mp) (mir ms) Q E
structure Fn (P : Program) (w : World) (mg : Str → Option Value) (base : Heap) (g : Gs) (k : Nat) (f : Addr) (fd : FuncData) (ps : List Str) (mp : List Nat) (mir : Mir) : Prop where
  run : ∀ (A : Around) (outer : List PySem.Env) (s : Shared) (H : Hp) (args : Args) (us : List Value) (vs : List V) (Q : VK) (E : XK), RG k A → A.handled = none → Env0 P w g.K mg base A outer s H → BindsTo s fd args (ps.zip us) → Vals vs us → spF g ps.length mp mir vs H Q E →
    codeAny (model P w) A (.call (.ref f) args) (CR (L2.CX P w) outer P w H s Q E) s
/-- a def's body, run -/
def runF (n : Nat) (mp : List Nat) (body : FS) : Mir := fun ms => match body (ms.map some ++ List.replicate (n - ms.length) none) with
  | .ok (.rt m, env) => (match mp.mapM (fun i => env[i]?.bind id) with
    | some outs => .ok (m, outs)
    | none => .bad)
  | .ok (.nx, env) => (match mp.mapM (fun i => env[i]?.bind id) with
    | some outs => .ok (.im .non, outs)
    | none => .bad)
  | .exc c fs _ => .exc c fs []
  | _ => .bad
section
variable {g : Gs} {B G0 G H : Hp} {σ : St} {env : Env}
theorem rmS_none {G H : Hp} : ∀ (n : Nat), RmS g G H (List.replicate n none) (List.replicate n none) []
  | 0 => by simp [RmS]
  | n + 1 => by simp only [List.replicate_succ, RmS]; exact ⟨none, _, rfl, rmS_none n⟩
theorem Stt.start {ms : List M} {vs : List V} {F : List Addr} {N : List Str} (s : Same G H) (r : Rms g G H ms vs F) (nd : F.Nodup) : Stt g (fun a => if a ∈ F then none else H a) G G H (L2.start N vs) (ms.map some ++ List.replicate (N.length - ms.length) none) := by
  refine ⟨s, fun b o h => ?_, fun a _ h => h, F, ?_, nd, fun a ha => by simp [ha]⟩
  · by_cases hb : b ∈ F
    · simp [hb] at h
    · simpa [hb] using h
  · have := RmS.join r (rmS_none (g := g) (G := G) (H := H) (N.length - ms.length))
    rw [List.append_nil] at this
    unfold L2.start
    rw [r.len]
    exact this
/-- several slots' values taken out, ahead -/
theorem Stt.takeAll : ∀ {mp : List Nat} {outs : List M}, mp.Nodup → Stt g B G0 G H σ env → mp.mapM (fun i => env[i]?.bind id) = some outs →
    ∃ (vs : List V) (env' : Env), vs.length = outs.length ∧ vs.map some = mp.filterMap (fun i => σ[i]?) ∧ (∀ i, i ∉ mp → env'[i]? = env[i]?) ∧ Stt g B G0 G H (vs.map some ++ σ) (outs.map some ++ env')
  | [], outs, _, S, e => by
    simp only [List.mapM_nil, Option.pure_def, Option.some.injEq] at e
    subst e
    exact ⟨[], env, rfl, rfl, fun _ _ => rfl, S⟩
  | i :: mp, outs, nd, S, e => by
    simp only [List.mapM_cons, Option.pure_def, Option.bind_eq_bind, Option.bind_eq_some_iff, id] at e
    obtain ⟨m, ⟨om, e1, e2⟩, outs', e3, e4⟩ := e
    subst e2
    cases e4
    obtain ⟨hi, nd'⟩ := List.nodup_cons.mp nd
    obtain ⟨vs, env', hl, hv, hk, S'⟩ := Stt.takeAll nd' S e3
    have e5 : (outs'.map some ++ env')[outs'.length + i]? = some (some m) := by
      rw [List.getElem?_append_right (by simp)]
      simp [hk i hi, e1]
    obtain ⟨v, e6, S2⟩ := S'.take e5
    rw [List.getElem?_append_right (by simp [hl])] at e6
    simp only [List.length_map, hl, Nat.add_sub_cancel_left] at e6
    have e7 : (outs'.map some ++ env').set (outs'.length + i) none = outs'.map some ++ env'.set i none := by
      rw [List.set_append_right _ _ (by simp)]; simp
    rw [e7] at S2
    refine ⟨v :: vs, env'.set i none, by simp [hl], by simp [e6, hv], fun j hj => ?_, by simpa using S2⟩
    simp only [List.mem_cons, not_or] at hj
    rw [List.getElem?_set_ne (fun e => hj.1 e.symm)]
    exact hk j hj.2
theorem pick_start {vs : List V} {N : List Str} {mp : List Nat} (h : ∀ i ∈ mp, i < vs.length) : mp.filterMap (fun i => (L2.start N vs)[i]?) = (pick vs mp).map some := by
  unfold pick L2.start
  induction mp with
  | nil => rfl
  | cons i mp ih =>
    have hi := h i (by simp)
    have e : (vs.map some ++ List.replicate (N.length - vs.length) none)[i]? = some (some vs[i]) := by
      rw [List.getElem?_append_left (by simpa using hi)]
      simp [hi]
    rw [List.filterMap_cons, List.filterMap_cons, e, List.getElem?_eq_getElem hi, ih fun j hj => h j (by simp [hj])]
    simp
theorem pick_kp {mp : List Nat} {σ σ' : St} {v : V} : Kp mp σ σ' → mp.filterMap ((fun i => (some v :: σ')[i]?) ∘ fun x => x + 1) = mp.filterMap (fun i => σ[i]?) := by
  induction mp with
  | nil => intro _; rfl
  | cons j mp ih =>
    intro kp
    rw [List.filterMap_cons, List.filterMap_cons, ih fun i hi => kp i (by simp [hi])]
    simp [kp j (by simp)]
/-- a def's end -/
theorem end_of {n : Nat} {mp : List Nat} {ms : List M} {vs : List V} {F : List Addr} {N : List Str} {body : FS} {Q : VK} {E : XK} {G H : Hp} (s : Same G H) (r : Rms g G H ms vs F) (nd : F.Nodup) (hmp : mp.Nodup) (hlt : ∀ i ∈ mp, i < vs.length)
    (p : PFin g G H F (pick vs mp) (runF N.length mp body ms) Q E) :
    FinS g (fun a => if a ∈ F then none else H a) G (fun cls d _ H => E cls d H) mp (L2.start N vs) G (body (ms.map some ++ List.replicate (N.length - ms.length) none)) { nx := fun _ H' => Q .non H', rt := Q } := by
  unfold runF at p
  have frame : ∀ {G' H' : Hp} {σ' : St} {env' : Env}, Stt g (fun a => if a ∈ F then none else H a) G G' H' σ' env' → (∀ a, a ∉ F → H a ≠ none → H' a = H a) ∧ (∀ a, G' a ≠ none → G a ≠ none ∨ H a = none ∨ a ∈ F) := fun {G' H' σ' env'} S => by
    refine ⟨fun a ha hn => ?_, fun a ha => ?_⟩
    · cases q : H a with
      | none => exact absurd q hn
      | some o => exact S.s2 a o (by simp [ha, q])
    · by_cases hF : a ∈ F
      · exact .inr (.inr hF)
      · cases q : H a with
        | none => exact .inr (.inl rfl)
        | some o => exact .inl (S.s3 a (by simp [hF, q]) ha)
  have out : ∀ {G' H' : Hp} {σ' : St} {env' : Env} {m : M} {v : V} {outs : List M}, Same G G' → Kp mp (L2.start N vs) σ' → Stt g (fun a => if a ∈ F then none else H a) G G' H' (some v :: σ') (some m :: env') → mp.mapM (fun i => env'[i]?.bind id) = some outs →
      PFin g G H F (pick vs mp) (.ok (m, outs)) Q E → Q v H' := fun {G' H' σ' env' m v outs} sm kp S e p => by
    have e' : (mp.map (· + 1)).mapM (fun i => (some m :: env')[i]?.bind id) = some outs := by
      rw [List.mapM_map]; exact e
    have nd2 : (mp.map (· + 1)).Nodup := by
      refine List.pairwise_map.mpr (List.Pairwise.imp (fun h => ?_) hmp)
      omega
    obtain ⟨ws, env2, hl, hv, hk, S2⟩ := Stt.takeAll nd2 S e'
    have hv' : ws = pick vs mp := by
      rw [List.filterMap_map] at hv
      have : mp.filterMap ((fun i => (some v :: σ')[i]?) ∘ fun x => x + 1) = mp.filterMap (fun i => (L2.start N vs)[i]?) := by
        exact pick_kp kp
      rw [this, pick_start hlt] at hv
      exact (List.map_inj_right (fun _ _ h => Option.some.inj h)).mp hv
    have h0 := hk 0 (by simp)
    simp only [List.getElem?_cons_zero] at h0
    obtain ⟨om, env3, rfl⟩ : ∃ om env3, env2 = om :: env3 := by
      cases env2 with
      | nil => simp at h0
      | cons a b => exact ⟨a, b, rfl⟩
    simp only [List.getElem?_cons_zero, Option.some.injEq] at h0
    subst h0
    obtain ⟨F', r', nd', fb'⟩ := S2.s4
    obtain ⟨F1, F2, rfl, h1, h2⟩ := RmS.split hl r'
    simp only [RmS] at h2
    obtain ⟨v', r2, F3, F4, ev, h3, h4, rfl⟩ := h2
    cases ev
    obtain ⟨f1, f2⟩ := frame S2
    refine p v G' H' (F3 ++ F1) sm S2.s1 f1 f2 (by simp only [Rms]; exact ⟨v, _, F3, F1, rfl, h3, by rw [← hv']; exact h1, rfl⟩) ?_ fun a ha => ?_
    · have hp : (F1 ++ (F3 ++ F4)).Perm (F3 ++ F1 ++ F4) := by
        rw [List.append_assoc]; exact List.perm_append_comm_assoc F1 F3 F4
      exact (List.nodup_append.mp (hp.nodup_iff.mp nd')).1
    · have hb := fb' a (by simp at ha ⊢; rcases ha with h | h <;> simp [h])
      by_cases hF : a ∈ F
      · exact .inl hF
      · exact .inr (by simpa [hF] using hb)
  cases q : body (ms.map some ++ List.replicate (N.length - ms.length) none) with
  | bad => rw [q] at p; exact p
  | exc c fs env =>
    rw [q] at p
    intro d ws σ' G' H' s' k' S' e1 e2 e3
    obtain ⟨f1, f2⟩ := frame S'
    exact p d ws G' H' s' S'.s1 f1 f2 e1 e2 e3
  | ok pr =>
    obtain ⟨fl, env⟩ := pr
    rw [q] at p
    cases fl with
    | nx =>
      intro σ' G' H' s' k' S'
      simp only at p
      split at p
      · rename_i outs eo
        exact out s' k' (S'.cons (d := .non) (v := .non) (by simp [Rv])) eo p
      · exact False.elim p
    | bk => exact False.elim p
    | ct => exact False.elim p
    | rt m =>
      intro σ' G' H' s' k' v S'
      simp only at p
      split at p
      · rename_i outs eo
        exact out s' k' S' eo p
      · exact False.elim p
end
end Eng
end
section
set_option Elab.async false
set_option linter.all false
set_option maxRecDepth 100000
namespace Eng
open PySem L2
open PyProof.Rows hiding St

/-! ### a def by its body -/
section
variable {P : Program} {w : World} {g : Gs} {mg : Str → Option Value} {base : Heap}
/-- the body's context -/
abbrev BX (P : Program) (w : World) (g : Gs) (mg : Str → Option Value) (base : Heap) (N : List Str) (ql : Str) (sc : Scope) (f : Addr) (cd : Value) (A : Around) (ou : List PySem.Env) (s : Shared) (H : Hp) (E : XK) : Cx :=
  L2.cxOf (L2.CX P w) P w g.K mg base N ql sc f cd A ou s H E
theorem fn_rule {k : Nat} {x ql : Str} {st : Stmt} {f : Addr} {fd : FuncData} {N ps : List Str} {mp : List Nat} {body : FS} (F : Fun g.K x ql st f fd) (S : FnScope N ps (defScope st)) (hmp : mp.Nodup) (hlt : ∀ i ∈ mp, i < ps.length)
    (hb : ∀ (cd : Value) (A : Around) (ou : List PySem.Env) (s : Shared) (H : Hp) (E : XK), RG k (A.deeper (envOfC ql (defScope st) s.heap.objs.size f cd)) →
      PSs (BX P w g mg base N ql (defScope st) f cd A ou s H E) (defBody st) (tS g (fun c d _ H' => E c d H') mp body)) :
    Fn P w mg base g (k + 1) f fd ps mp (runF N.length mp body) := by
  obtain ⟨_, _, _, _, _, _, cd, _, _, rfl, lk, hcd⟩ := F.ex
  constructor
  intro A ou s H args us vs Q E hr hh e0 hbt r hsp
  obtain ⟨hl, G, ms, F0, sm, rm, nd, pf⟩ := hsp
  have old : ∀ b o, base.get? b = some o → s.heap.get? b = some o := fun b o e => (e0.bs b o e).1
  have kin : g.K.In s.heap := e0.mod.kin.keeps old
  have hkind : ∀ y ∈ ps.zip us, (defScope st).names.lookup y.1 = some .local ∨ ((defScope st).names.lookup y.1 = some .cell ∧ ((cellsFrom (s.heap.objs.size + 1) (defScope st).names []).lookup y.1).isSome = true) := by
    rintro ⟨n, v⟩ hy
    cases S.par n (List.of_mem_zip hy).1 with
    | inl q => exact .inl q
    | inr q => exact .inr ⟨q, PySem.W.cellsFrom_some _ _ _ (.inl q)⟩
  have dep : A.depth < recursionLimit := by have := hr.dp; omega
  refine codeAny_call_function dep (kin _ _ lk) rfl S.co S.gen rfl (PySem.W.codeRec_of kin hcd) (hbt _ _ _ _ ?_)
  refine wpAny_newFunctionEnv_cells S.kind hkind fun env he s1 x1 => ?_
  subst he
  refine ⟨(e0.mod.nolimit.keeps old).keeps x1.toInCall.keep, codeAny_func ?_⟩
  have I := inv_start (CX := L2.CX P w) (E := E) S hh e0 hl r x1
  have body_run := (hb cd A ou s H E (hr.deeper _)).run [] s1 (L2.start N vs) H { nx := fun _ H' => Q .non H', rt := Q } I
    ⟨_, G, G, _, Stt.start (N := N) sm rm nd, end_of (n := 0) sm rm nd hmp (fun i hi => by rw [hl]; exact hlt i hi) pf⟩
  have fin : ∀ {σ' : St} {H' : Hp} {v : V} {u : Value} {s' : Shared}, Inv (BX P w g mg base N ql (defScope st) f cd A ou s H E) [] σ' H' s' → L2.RelV v u → Q v H' → CE ou P w H s Q u s' :=
    fun {σ' H' v u s'} J rv q => ⟨v, H', J.os, J.bare, J.base, J.hok, rv, q⟩
  refine wpAny_mono body_run (fun fl s' h => ?_) fun e s' h => h
  match fl, h with
  | .ret u, ⟨v, σ', H', J, rv, q⟩ => exact fin J rv q
  | .next, ⟨σ', H', J, q⟩ => exact fin (v := .non) (u := .none) J rfl q
  | .brk, ⟨_, _, _, q⟩ => exact False.elim q
  | .cont, ⟨_, _, _, q⟩ => exact False.elim q
theorem Fn.mono {j k : Nat} {f : Addr} {fd : FuncData} {ps : List Str} {mp : List Nat} {mir : Mir} (F : Fn P w mg base g j f fd ps mp mir) (h : j ≤ k) : Fn P w mg base g k f fd ps mp mir :=
  ⟨fun A ou s H args us vs Q E hr => F.run A ou s H args us vs Q E (hr.mono h)⟩
end

/-! ### calls -/
def takeArgs (mp : List Nat) : Nat → List Opd → Env → Option (List M × Env)
  | _, [], env => some ([], env)
  | j, o :: os, env => (takeArgs mp (j + 1) os env).bind fun p => match o with
    | .val d => some (.im d :: p.1, p.2)
    | .slot i => match p.2[i]? with
      | some (some m) => if j ∈ mp then some (m :: p.1, p.2.set i none) else some (.im (frz m) :: p.1, p.2.set i (some (.im (frz m))))
      | _ => none
def slotsOf (os : List Opd) : List Nat → Option (List Nat)
  | [] => some []
  | j :: mp => match os[j]? with
    | some (.slot i) => (slotsOf os mp).map (i :: ·)
    | _ => none
def putAll : List Nat → List M → Env → Option Env
  | [], [], env => some env
  | i :: sl, m :: ms, env => if i < env.length then putAll sl ms (env.set i (some m)) else none
  | _, _, _ => none
def eCallF (mp : List Nat) (mir : Mir) (k : FA) : FE := fun env => do
  let (os, env) ← k env
  let (ms, env) ← Rs.of (takeArgs mp 0 os env)
  let sl ← Rs.of (slotsOf os mp)
  match mir ms with
  | .bad => .bad
  | .exc c fs _ => .exc c fs env
  | .ok (m, outs) => do
    let env ← Rs.of (putAll sl outs env)
    .ok (m, env)
section
variable {g : Gs} {B G0 G H : Hp} {σ : St} {env : Env}
theorem Stt.takeArgs {mp : List Nat} : ∀ {os : List Opd} {j : Nat} {vs : List V} {env : Env} {ms : List M} {env' : Env} {G : Hp}, Stt g B G0 G H σ env → ROs g G σ os vs → Eng.takeArgs mp j os env = some (ms, env') →
    ∃ G', Same G G' ∧ ms.length = vs.length ∧ Stt g B G0 G' H (vs.map some ++ σ) (ms.map some ++ env')
  | [], _, vs, env, ms, env', G, S, r, e => by
    simp only [Eng.takeArgs, Option.some.injEq, Prod.mk.injEq] at e
    obtain ⟨rfl, rfl⟩ := e
    have e2 : vs = [] := r
    subst e2
    exact ⟨G, Same.refl _, rfl, S⟩
  | o :: os, j, vs, env, ms, env', G, S, r, e => by
    simp only [Eng.takeArgs, Option.bind_eq_some_iff] at e
    obtain ⟨⟨ms1, env1⟩, e1, e2⟩ := e
    obtain ⟨v, vs', rfl, r1, r2⟩ := r
    obtain ⟨G1, s1, hl, S1⟩ := S.takeArgs r2 e1
    cases o with
    | val d =>
      simp only [Option.some.injEq, Prod.mk.injEq] at e2
      obtain ⟨rfl, rfl⟩ := e2
      exact ⟨G1, s1, by simp [hl], by simpa using S1.cons (Rv.same s1 r1)⟩
    | slot i =>
      have hσ : σ[i]? = some (some v) := r1
      simp only at e2
      split at e2
      · rename_i m e3
        have e4 : (ms1.map some ++ env1)[ms1.length + i]? = some (some m) := by
          rw [List.getElem?_append_right (by simp)]; simpa using e3
        have e5 : (vs'.map some ++ σ)[ms1.length + i]? = some (some v) := by
          rw [List.getElem?_append_right (by simp [hl])]; simpa [hl] using hσ
        have e6 : ∀ o, (ms1.map some ++ env1).set (ms1.length + i) o = ms1.map some ++ env1.set i o := fun o => by
          rw [List.set_append_right _ _ (by simp)]; simp
        split at e2
        · cases e2
          obtain ⟨v', e7, S2⟩ := S1.take e4
          rw [e5] at e7; cases e7
          rw [e6] at S2
          exact ⟨G1, s1, by simp [hl], by simpa using S2⟩
        · cases e2
          obtain ⟨v', G2, e7, s2, rv, S2⟩ := S1.frzAt e4
          rw [e5] at e7; cases e7
          rw [e6] at S2
          exact ⟨G2, s1.trans s2, by simp [hl], by simpa using S2.cons rv⟩
      · cases e2
theorem ros_at : ∀ {os : List Opd} {vs : List V} {j i : Nat}, ROs g G σ os vs → os[j]? = some (.slot i) → ∃ v, vs[j]? = some v ∧ σ[i]? = some (some v)
  | [], _, _, _, _, e => by simp at e
  | o :: os, vs, j, i, r, e => by
    obtain ⟨v, vs', rfl, r1, r2⟩ := r
    cases j with
    | zero =>
      simp only [List.getElem?_cons_zero, Option.some.injEq] at e
      subst e
      exact ⟨v, rfl, r1⟩
    | succ j =>
      obtain ⟨u, h1, h2⟩ := ros_at r2 (by simpa using e)
      exact ⟨u, by simpa using h1, h2⟩
theorem slotsOf_pick {os : List Opd} {vs : List V} (r : ROs g G σ os vs) : ∀ {mp sl : List Nat}, slotsOf os mp = some sl → ∃ ws, pick vs mp = ws ∧ ws.map some = sl.filterMap (fun i => σ[i]?) ∧ ws.length = sl.length ∧ ∀ (j : Nat) (i : Nat) (v : V), sl[j]? = some i → ws[j]? = some v → σ[i]? = some (some v)
  | [], sl, e => by
    simp only [slotsOf, Option.some.injEq] at e
    subst e
    exact ⟨[], rfl, rfl, rfl, fun j i v h => by simp at h⟩
  | j :: mp, sl, e => by
    simp only [slotsOf] at e
    split at e
    · rename_i i hi
      simp only [Option.map_eq_some_iff] at e
      obtain ⟨sl', e1, rfl⟩ := e
      obtain ⟨ws, h1, h2, h3, h4⟩ := slotsOf_pick r e1
      obtain ⟨v, hv, hs⟩ := ros_at r hi
      refine ⟨v :: ws, by unfold pick at h1 ⊢; simp [hv, h1], by simp [hs, h2], by simp [h3], fun jj ii vv hj hw => ?_⟩
      cases jj with
      | zero =>
        simp only [List.getElem?_cons_zero, Option.some.injEq] at hj hw
        subst hj; subst hw
        exact hs
      | succ jj => exact h4 jj ii vv (by simpa using hj) (by simpa using hw)
    · cases e
theorem putAll_len : ∀ (sl : List Nat) (outs : List M) (env env' : Env), Eng.putAll sl outs env = some env' → outs.length = sl.length := by
  intro sl
  induction sl with
  | nil =>
    intro outs env env' e
    cases outs with
    | nil => rfl
    | cons => cases e
  | cons i sl ih =>
    intro outs env env' e
    cases outs with
    | nil => cases e
    | cons o outs =>
      simp only [Eng.putAll] at e
      split at e
      · exact congrArg (· + 1) (ih _ _ _ e)
      · cases e
theorem Stt.putAll {v : V} {m : M} (sl : List Nat) : ∀ {outs : List M} {ws : List V} {env env' : Env}, ws.length = sl.length → (∀ (j : Nat) (i : Nat) (v : V), sl[j]? = some i → ws[j]? = some v → σ[i]? = some (some v)) → Eng.putAll sl outs env = some env' →
    Stt g B G0 G H (some v :: (ws.map some ++ σ)) (some m :: (outs.map some ++ env)) → Stt g B G0 G H (some v :: σ) (some m :: env') := by
  induction sl with
  | nil =>
    intro outs ws env env' hl _ e S
    cases ws with
    | cons => cases hl
    | nil =>
      cases outs with
      | cons => cases e
      | nil => cases e; exact S
  | cons i sl ih =>
    intro outs ws env env' hl hw e S
    cases ws with
    | nil => cases hl
    | cons u ws =>
      cases outs with
      | nil => cases e
      | cons o outs =>
        have hlo := putAll_len _ _ _ _ e
        simp only [Eng.putAll] at e
        split at e
        · rename_i hi
          have hlen : ws.length = outs.length := by
            simp only [List.length_cons] at hl hlo
            omega
          have S1 := S.swap
          have S2 := S1.put (outs.length + i + 1) (by simp; omega)
          have h0 : σ[i]? = some (some u) := hw 0 i u rfl rfl
          have e1 : (some v :: (ws.map some ++ σ)).set (outs.length + i + 1) (some u) = some v :: (ws.map some ++ σ) := by
            apply set_eq
            rw [List.getElem?_cons_succ, List.getElem?_append_right (by simp [hlen])]
            simpa [hlen] using h0
          have e2 : (some m :: (outs.map some ++ env)).set (outs.length + i + 1) (some o) = some m :: (outs.map some ++ env.set i (some o)) := by
            rw [List.set_cons_succ, List.set_append_right _ _ (by simp)]
            simp
          have S3 : Stt g B G0 G H (some v :: (ws.map some ++ σ)) (some m :: (outs.map some ++ env.set i (some o))) := by
            rw [← e1, ← e2]; exact S2
          exact ih (Nat.succ.inj hl) (fun j i v h1 h2 => hw (j + 1) i v h1 h2) e S3
        · cases e
end
end Eng
end
section
set_option Elab.async false
set_option linter.all false
set_option maxRecDepth 100000
namespace Eng
open PySem L2
open PyProof.Rows hiding St

section
variable {g : Gs} {B G0 G H : Hp} {σ : St} {env : Env}
theorem Stt.called {vs : List V} {ms : List M} (hl : vs.length = ms.length) (S : Stt g B G0 G H (vs.map some ++ σ) (ms.map some ++ env)) :
    ∃ F, Rms g G H ms vs F ∧ F.Nodup ∧ ∀ G' H', Same G G' → Same G' H' → (∀ a, a ∉ F → H a ≠ none → H' a = H a) → (∀ a, G' a ≠ none → G a ≠ none ∨ H a = none ∨ a ∈ F) →
      Stt g B G0 G' H' σ env ∧ ∀ ms' vs' Fr, vs'.length = ms'.length → Rms g G' H' ms' vs' Fr → Fr.Nodup → (∀ a ∈ Fr, a ∈ F ∨ H a = none) → Stt g B G0 G' H' (vs'.map some ++ σ) (ms'.map some ++ env) := by
  obtain ⟨F, r, nd, fb⟩ := S.s4
  obtain ⟨F1, F2, rfl, h1, h2⟩ := RmS.split hl r
  have nd1 := (List.nodup_append.mp nd).1
  have nd2 := (List.nodup_append.mp nd).2.1
  have nd3 := (List.nodup_append.mp nd).2.2
  refine ⟨F1, h1, nd1, fun G' H' sg sh f1 f2 => ?_⟩
  have n2 := h2.nn
  have kp : Kept G G' H H' F2 := ⟨sg, fun a ha hn => by
    cases q : G' a with
    | none => rfl
    | some u =>
      rcases f2 a (by rw [q]; simp) with h | h | h
      · exact absurd hn h
      · exact absurd h (n2 a ha).2
      · exact absurd rfl (nd3 a h a ha), fun a ha => f1 a (fun h => nd3 a h a ha rfl) (n2 a ha).2⟩
  have r2 := h2.kept kp
  have sB : Same B H' := fun b u hb => by
    have hb' := S.s2 b u hb
    rw [f1 b (fun h => by rw [fb b (by simp [h])] at hb; cases hb) (by rw [hb']; simp)]; exact hb'
  have s3 : ∀ a, B a ≠ none → G' a ≠ none → G0 a ≠ none := fun a hb hg => by
    rcases f2 a hg with h | h | h
    · exact S.s3 a hb h
    · exact absurd (S.s2.free h) hb
    · exact absurd (fb a (by simp [h])) hb
  refine ⟨⟨sh, sB, s3, F2, r2, nd2, fun a ha => fb a (by simp [ha])⟩, fun ms' vs' Fr hl' q1 q2 q3 => ⟨sh, sB, s3, Fr ++ F2, RmS.join q1 r2, List.nodup_append.mpr ⟨q2, nd2, fun a ha b hb e => ?_⟩, fun a ha => ?_⟩⟩
  · subst e
    rcases q3 a ha with h | h
    · exact nd3 a h a hb rfl
    · exact (n2 a hb).2 h
  · rcases List.mem_append.mp ha with h | h
    · rcases q3 a h with h1 | h1
      · exact fb a (by simp [h1])
      · exact S.s2.free h1
    · exact fb a (by simp [h])
end
section
variable {X : Cx} {g : Gs} {W : WX} {k kk : Nat} {f : Addr} {fd : FuncData} {ps : List Str} {mp : List Nat} {mir : Mir} {x : Str} {p pos : Pos} {e : Expr} {es : List Expr} {ka : FA}
theorem call_run {pins : List (Addr × Obj)} {σ : St} {B G0 G H : Hp} {env : Env} {s : Shared} {us : List Value} {vs : List V} {args : Args} {os : List Opd} {Q : VK} (F : Fn X.prog X.w X.mg X.base g k f fd ps mp mir) (hK : X.K = g.K) (hr : RG k X.A) (hh : X.A.handled = none) (tk : Takes X W)
    (I : Inv X pins σ H s) (hb : BindsTo s fd args (ps.zip us)) (r : Vals vs us) (hl : vs.length = ps.length) (S : Stt g B G0 G H σ env) (ro : ROs g G σ os vs)
    (q : Fin g B G0 W σ G (do
      let (ms, env) ← Rs.of (takeArgs mp 0 os env)
      let sl ← Rs.of (slotsOf os mp)
      match mir ms with
      | .bad => .bad
      | .exc c fs _ => .exc c fs env
      | .ok (m, outs) => do
        let env ← Rs.of (putAll sl outs env)
        .ok (m, env)) fun m env G' H' => ∀ v, Stt g B G0 G' H' (some v :: σ) (some m :: env) → Q v H') :
    codeAny (model X.prog X.w) X.A (.call (.ref f) args) (CR (L2.CX X.prog X.w) X.stack X.prog X.w H s Q fun c d H' => W c d σ H') s := by
  obtain ⟨⟨ms, env1⟩, e1, q⟩ := Fin.of_bind q
  obtain ⟨sl, e2, q⟩ := Fin.of_bind q
  obtain ⟨G1, s1, hlm, S1⟩ := S.takeArgs ro e1
  obtain ⟨F1, rm, nd, fr⟩ := S1.called hlm.symm
  obtain ⟨ws, hp, _, hwl, hws⟩ := slotsOf_pick ro e2
  have e0 := I.env0
  rw [hK] at e0
  refine F.run X.A X.stack s H args us vs Q _ hr hh e0 hb r ⟨hl, G1, ms, F1, S1.s1, rm, nd, ?_⟩
  cases hm : mir ms with
  | bad => simp only [hm] at q; exact q
  | exc c fs en =>
    simp only [hm] at q
    intro d xs G' H' a1 a2 a3 a4 a5 a6 a7
    exact q d xs G' H' (s1.trans a1) (fr G' H' a1 a2 a3 a4).1 a5 a6 a7
  | ok pr =>
    obtain ⟨m, outs⟩ := pr
    simp only [hm] at q
    obtain ⟨env2, e3, q⟩ := Fin.of_bind q
    intro v G' H' Fr a1 a2 a3 a4 a5 a6 a7
    rw [hp] at a5
    have hlo := putAll_len _ _ _ _ e3
    have S2 := (fr G' H' a1 a2 a3 a4).2 (m :: outs) (v :: ws) Fr (by simp [hwl, hlo]) a5 a6 a7
    exact q G' H' (s1.trans a1) v (S2.putAll sl hwl hws e3)
theorem ros_len {G : Hp} {σ : St} : ∀ {os : List Opd} {vs : List V}, ROs g G σ os vs → vs.length = os.length
  | [], vs, h => by
    have : vs = [] := h
    subst this; rfl
  | o :: os, vs, h => by
    obtain ⟨v, r, rfl, _, h2⟩ := h
    simp [ros_len h2]
/-- as eCallF, with the count of arguments looked at -/
def eCallN (n : Nat) (mp : List Nat) (mir : Mir) (k : FA) : FE := fun env => do
  let (os, env) ← k env
  if os.length = n then do
    let (ms, env) ← Rs.of (takeArgs mp 0 os env)
    let sl ← Rs.of (slotsOf os mp)
    match mir ms with
    | .bad => .bad
    | .exc c fs _ => .exc c fs env
    | .ok (m, outs) => do
      let env ← Rs.of (putAll sl outs env)
      .ok (m, env)
  else .bad
theorem end_call {pins : List (Addr × Obj)} {σ : St} {H : Hp} {s s' : Shared} {Q : VK} {r : Result} (tk : Takes X W) (I : Inv X pins σ H s) (h : CR (L2.CX X.prog X.w) X.stack X.prog X.w H s Q (fun c d H' => W c d σ H') r s') :
    match r with
    | .ok (.ret u) => EP X pins σ Q u s'
    | .ok _ => False
    | .error e => X.xe e s' := by
  match r, h with
  | .error e, h => exact passAt tk σ pins H s e s' I h
  | .ok (.ret u), h => exact I.after h
  | .ok .next, h => exact h
  | .ok .brk, h => exact h
  | .ok .cont, h => exact h
theorem se_call (F : Fn X.prog X.w X.mg X.base g k f fd ps mp mir) (hK : X.K = g.K) (hr : RG kk X.A) (hle : k ≤ kk) (hc : X.calm = true) (tk : Takes X W) (hg : Gl X x) (hm : X.mg x = some (.ref f)) (hk : PySem.W.keepIn X.K (.ref f) = true) (hb : Binds X.K fd ps [])
    (ha : PA X (e :: es) (tA' g W ka)) (hdb : (x == ("__debug__" : Str)) = false) (he : starEach (e :: es) X.env = (false, eval e X.env) :: starEach es X.env) (hpl : (backTo pos (starEach es X.env)).any (·.1) = false) :
    PE X (.Call (.Name x p) (e :: es) [] pos) (tE g W (eCallN ps.length mp mir ka)) := by
  refine ⟨fun pins s σ H Q I h => ?_⟩
  obtain ⟨B, G0, G, env, S, h⟩ := h
  refine wpAny_Call_Name_kw (ld_glob I hg hm ?_ hdb)
  refine PySem.W.callWith_K (h₀ := X.base) I.ok.mod.kin hk (thn (ha.run pos pins s σ H (fun vs H1 => ∃ G1 env1 os, Stt g B G0 G1 H1 σ env1 ∧ ROs g G1 σ os vs ∧ os.length = ps.length ∧ Fin g B G0 W σ G1 (do
      let (ms, env) ← Rs.of (takeArgs mp 0 os env1)
      let sl ← Rs.of (slotsOf os mp)
      match mir ms with
      | .bad => .bad
      | .exc c fs _ => .exc c fs env
      | .ok (m, outs) => do
        let env ← Rs.of (putAll sl outs env)
        .ok (m, env)) fun m env G' H' => ∀ v, Stt g B G0 G' H' (some v :: σ) (some m :: env) → Q v H') I
      ⟨B, G0, G, env, S, (Fin.bind h).mono fun os env1 G1 H1 s1 q vs S1 r1 => ?_⟩) fun us s1 ⟨vs, H1, I1, r, G1, env1, os, S1, ro, hn, q⟩ => ⟨I1.kIn, ?_⟩) he hpl
  · simp only at q
    split at q
    · rename_i hn
      exact ⟨G1, env1, os, S1, r1, hn, q⟩
    · exact False.elim q
  · have hl : vs.length = ps.length := (ros_len ro).trans hn
    have b := hb s1 us I1.kIn (by rw [List.append_nil, ← r.length]; exact hl)
    rw [List.append_nil] at b
    refine wpAny_call (codeAny_mono (call_run F hK (hr.mono hle) (I1.ok.hd hc) tk I1 b r hl S1 ro q) fun r' s' hq => ?_)
    have := end_call tk I1 hq
    cases r' with
    | error e => exact this
    | ok fl => cases fl <;> exact this
end
end Eng
end
section
set_option Elab.async false
set_option linter.all false
set_option maxRecDepth 100000
namespace Eng
open PySem L2
open PyProof.Rows hiding St

/-! ### own exceptions: how they are made -/
/-- the promise of an __init__ that stores its arguments, one after another -/
def spI (C : Addr) (fls : List Str) : Sp := fun vs H Q _ => ∃ (a : Addr) (ws : List V), vs = .ref a :: ws ∧ ws.length = fls.length ∧ H a = some (exo a C none) ∧
  ∀ dx, H dx = none → dx ≠ a → Q .non (upd (upd H dx (exd dx (fls.zip ws).reverse)) a (exo a C (some dx)))
structure XInit (P : Program) (w : World) (K : PySem.W.Frag) (mg : Str → Option Value) (base : Heap) (C : Addr) (fls : List Str) : Prop where
  ox : OexC K C
  ex : ∃ (fI : Addr) (fd : FuncData) (ps : List Str), PySem.W.findIn K (.ref C) "__init__" = some (some (.ref fI)) ∧ PySem.W.typeIn K (.ref fI) = some (.type "function") ∧ FnOk P w K mg base CX0 1 fI fd ps (spI C fls) ∧ Binds K fd ps []
section
variable {P : Program} {w : World} {K : PySem.W.Frag} {mg : Str → Option Value} {base : Heap}
theorem vis_of {N ps : List Str} {sc : Scope} {x : Str} (S : FnScope N ps sc) (h : x ∈ ps) : Vis sc x := by
  rcases S.par x h with h | h
  · exact .inl h
  · exact .inr (.inl h)
theorem init1 {ql a1 : Str} {st : Stmt} {f C : Addr} {fd : FuncData} {f1 : Str} (F : Fun K "__init__" ql st f fd) (S : FnScope ["self", a1] ["self", a1] (defScope st)) (T : OexC K C) (n1 : PySem.W.findIn K (.ref C) f1 = some none) (d1 : (a1 == ("__debug__" : Str)) = false) (c1 : (a1 == ("__classdict__" : Str)) = false)
    (hb : ∃ q1 q2 q3 q4, defBody st = [.Assign [.Attribute (.Name "self" q1) f1 q2] (.Name a1 q3) q4]) : FnOk P w K mg base CX0 1 f fd ["self", a1] (spI C [f1]) := by
  refine F.ok S (fun vs H Q E h => ?_) fun cd A ou s H vs Q E hr h => ?_
  · obtain ⟨a, ws, rfl, hl, _⟩ := h
    simpa using hl
  · obtain ⟨a, ws, rfl, hl, ha, k⟩ := h
    obtain ⟨q1, q2, q3, q4, hb⟩ := hb
    obtain ⟨y, rfl⟩ : ∃ y, ws = [y] := by
      match ws, hl with
      | [y], _ => exact ⟨y, rfl⟩
    rw [hb]
    refine ⟨_, pss_one (ps_ost (pe_var (i := 0) rfl (vis_of S (by simp)) (by decide) (by decide)) (pe_var (i := 1) rfl (vis_of S (by simp)) d1 c1) rfl), ?_⟩
    exact ⟨y, rfl, _, rfl, a, C, rfl, T, n1, .inl ⟨ha, fun dx h1 h2 => k dx h1 h2⟩⟩
theorem init2 {ql a1 a2 : Str} {st : Stmt} {f C : Addr} {fd : FuncData} {f1 f2 : Str} (F : Fun K "__init__" ql st f fd) (S : FnScope ["self", a1, a2] ["self", a1, a2] (defScope st)) (T : OexC K C) (n1 : PySem.W.findIn K (.ref C) f1 = some none) (n2 : PySem.W.findIn K (.ref C) f2 = some none) (d1 : (a1 == ("__debug__" : Str)) = false) (c1 : (a1 == ("__classdict__" : Str)) = false) (d2 : (a2 == ("__debug__" : Str)) = false) (c2 : (a2 == ("__classdict__" : Str)) = false)
    (hb : ∃ q1 q2 q3 q4 r1 r2 r3 r4, defBody st = [.Assign [.Attribute (.Name "self" q1) f1 q2] (.Name a1 q3) q4, .Assign [.Attribute (.Name "self" r1) f2 r2] (.Name a2 r3) r4]) : FnOk P w K mg base CX0 1 f fd ["self", a1, a2] (spI C [f1, f2]) := by
  refine F.ok S (fun vs H Q E h => ?_) fun cd A ou s H vs Q E hr h => ?_
  · obtain ⟨a, ws, rfl, hl, _⟩ := h
    simpa using hl
  · obtain ⟨a, ws, rfl, hl, ha, k⟩ := h
    obtain ⟨q1, q2, q3, q4, r1, r2, r3, r4, hb⟩ := hb
    obtain ⟨y, z, rfl⟩ : ∃ y z, ws = [y, z] := by
      match ws, hl with
      | [y, z], _ => exact ⟨y, z, rfl⟩
    rw [hb]
    refine ⟨_, pss_cons (ps_ost (pe_var (i := 0) rfl (vis_of S (by simp)) (by decide) (by decide)) (pe_var (i := 1) rfl (vis_of S (by simp)) d1 c1) rfl)
      (pss_one (ps_ost (pe_var (i := 0) rfl (vis_of S (by simp)) (by decide) (by decide)) (pe_var (i := 2) rfl (vis_of S (by simp)) d2 c2) rfl)), ?_⟩
    refine ⟨y, rfl, _, rfl, a, C, rfl, T, n1, .inl ⟨ha, fun dx h1 h2 => ?_⟩⟩
    refine ⟨z, rfl, _, rfl, a, C, rfl, T, n2, .inr ⟨dx, [(f1, y)], upd_same, ?_, (by show 1 ≤ 900; decide), ?_⟩⟩
    · rw [upd_ne h2, upd_same]
    · have e : upd (upd (upd H dx (exd dx [(f1, y)])) a (exo a C (some dx))) dx (exd dx [(f2, z), (f1, y)]) = upd (upd H dx (exd dx [(f2, z), (f1, y)])) a (exo a C (some dx)) := by
        funext b
        by_cases hb : b = dx
        · subst hb; rw [upd_same, upd_ne h2, upd_same]
        · by_cases ha : b = a
          · subst ha; rw [upd_ne hb, upd_same, upd_same]
          · rw [upd_ne hb, upd_ne ha, upd_ne hb, upd_ne ha, upd_ne hb]
      rw [e]
      exact k dx h1 h2
end
/-! ### raise C(..) -/
def sRaise (c n : Nat) (k : FA) : FS := fun env => do
  let (os, env) ← k env
  let (ms, env) ← Rs.of (takeArgs [] 0 os env)
  let ds ← Rs.of (ims ms)
  if ds.length = n then .exc c ds.reverse env else .bad
section
variable {X : Cx} {g : Gs} {W : WX} {mp : List Nat} {x : Str} {p pos pos2 : Pos} {e : Expr} {es : List Expr} {k : FA}
theorem rvs_rev {G : Hp} : ∀ {ds : List D} {vs : List V}, Rvs g G ds vs → Rvs g G ds.reverse vs.reverse
  | [], vs, h => by
    simp only [Rvs] at h
    subst h
    simp [Rvs]
  | d :: ds, vs, h => by
    simp only [Rvs] at h
    obtain ⟨v, r, rfl, h1, h2⟩ := h
    rw [List.reverse_cons, List.reverse_cons]
    exact Rvs.append (rvs_rev h2) (by simp only [Rvs]; exact ⟨v, [], rfl, h1, rfl⟩)
theorem zip_rev : ∀ {fls : List Str} {vs : List V}, vs.length = fls.length → (fls.zip vs).reverse = fls.reverse.zip vs.reverse
  | [], [], _ => rfl
  | [], _ :: _, h => by cases h
  | _ :: _, [], h => by cases h
  | f :: fls, v :: vs, h => by
    have h' : vs.length = fls.length := Nat.succ.inj h
    rw [List.zip_cons_cons, List.reverse_cons, List.reverse_cons, List.reverse_cons, zip_rev h', List.zip_append (by simp [h'])]
    rfl
theorem ss_raise {c : Nat} {fls : List Str} {kk : Nat} (hc : X.calm = true) (hr : RG (kk + 2) X.A) (T : XInit X.prog X.w X.K X.mg X.base (g.cls c) fls) (hf : g.fld c = fls.reverse) (hm : X.mg x = some (.ref (g.cls c))) (hg : Gl X x) (tk : Takes X W) (ha : PA X (e :: es) (tA' g W k))
    (hdb : (x == ("__debug__" : Str)) = false) (he : starEach (e :: es) X.env = (false, eval e X.env) :: starEach es X.env) (hpl : (backTo pos (starEach es X.env)).any (·.1) = false) (hn : fls.length ≤ 1000) :
    PS X (.Raise (some (.Call (.Name x p) (e :: es) [] pos)) none pos2) (tS g W mp (sRaise c fls.length k)) := by
  obtain ⟨fI, fd, ps, iC, tI, F1, hb⟩ := T.ex
  refine ⟨fun pins s σ H D I h => ?_⟩
  have room : Room (1 + 1) X.A := ⟨I.ok.hd hc, by have := hr.dp; omega, by have := hr.un; omega⟩
  obtain ⟨B, G0, G, env, S, h⟩ := h
  refine (ps_raise hc tk (pmk_oex (dvs := []) (ds := []) T.ox iC tI F1 room hb .nil pass0 hg hm ha hdb he hpl)).run pins s σ H D I ?_
  refine ⟨B, G0, G, env, S, (FinS.bind h).mono fun os env1 G1 H1 s1 q vs S1 r1 => ?_⟩
  obtain ⟨⟨ms, env2⟩, e1, q⟩ := FinS.of_bind q
  obtain ⟨ds, e2, q⟩ := FinS.of_bind q
  split at q
  · rename_i hdl
    obtain ⟨G2, s2, hlm, S2⟩ := S1.takeArgs r1 e1
    obtain ⟨F2, rm, nd2, fr⟩ := S2.called hlm.symm
    obtain ⟨rv, rfl⟩ := ims_rv e2 rm
    have hvl : vs.length = fls.length := by have := rv.length; omega
    refine ⟨by omega, fun a ha0 => ?_⟩
    rw [List.append_nil]
    refine ⟨a, vs, rfl, hvl, upd_same, fun dx hdx hne => ⟨rfl, dx, (fls.zip vs).reverse, upd_same, ?_, ?_, ?_⟩⟩
    · rw [upd_ne hne, upd_same]
    · rw [upd_ne hne] at hdx; exact hdx
    · have hd1 : H1 dx = none := by rw [upd_ne hne] at hdx; exact hdx
      have eH : upd (del (upd (upd (upd H1 a (exo a (g.cls c) none)) dx (exd dx (fls.zip vs).reverse)) a (exo a (g.cls c) (some dx))) a) dx (.xd (fls.zip vs).reverse) = upd H1 dx (.xd (fls.zip vs).reverse) := by
        funext b
        by_cases hb : b = dx
        · subst hb; rw [upd_same, upd_same]
        · rw [upd_ne hb, upd_ne hb]
          by_cases ha : b = a
          · subst ha; rw [del_same]; exact ha0.symm
          · rw [del_ne ha, upd_ne ha, upd_ne hb, upd_ne ha]
      rw [eH]
      have S3 := ((fr G2 H1 (Same.refl _) S2.s1 (fun _ _ _ => rfl) fun a h => .inl h).1).new (o := .xd (fls.zip vs).reverse) hd1
      refine q dx vs.reverse σ (upd G2 dx (.xd (fls.zip vs).reverse)) _ (s2.trans (S2.new_same hd1)) Kp.refl S3 ?_ ?_ ((rvs_rev rv).same (S2.new_same hd1))
      · rw [upd_same, zip_rev hvl, hf]
      · rw [hf]; simp [hvl]
  · exact False.elim q
end
end Eng
end
section
set_option Elab.async false
set_option linter.all false
set_option maxRecDepth 100000
namespace Eng
open PySem L2
open PyProof.Rows hiding St

/-! ### isinstance with what is built in -/
inductive Ty where
  | int | bool | str | tup | lst | dct
def Ty.nm : Ty → String
  | .int => "int"
  | .bool => "bool"
  | .str => "str"
  | .tup => "tuple"
  | .lst => "list"
  | .dct => "dict"
def isiF : Ty → D → Option Bool
  | _, .obj _ _ => none
  | _, .exn _ _ _ _ => none
  | .int, .int _ => some true
  | .int, .bl _ => some true
  | .bool, .bl _ => some true
  | .str, .str _ => some true
  | .tup, .tup _ => some true
  | .lst, .lst _ => some true
  | .lst, .scr _ => some true
  | .dct, .dct _ _ => some true
  | _, _ => some false
def isiA : List Ty → D → Option Bool
  | [], d => some false
  | t :: ts, d => (isiF t d).bind fun b => if b then some true else isiA ts d
def tyD : D → Option String
  | .non => some "NoneType"
  | .bl _ => some "bool"
  | .int _ => some "int"
  | .str _ => some "str"
  | .tup _ => some "tuple"
  | .lst _ => some "list"
  | .scr _ => some "list"
  | .dct _ _ => some "dict"
  | _ => none
theorem isi_kit {t : Ty} {d : D} {b : Bool} (e : isiF t d = some b) : ∃ n, tyD d = some n ∧ kitB n t.nm = some b := by
  cases d <;> cases t <;> simp only [isiF, Option.some.injEq, reduceCtorEq] at e <;> subst e <;> refine ⟨_, rfl, ?_⟩ <;> decide +kernel
theorem tyx_of {g : Gs} {G H : Hp} {d : D} {v : V} {n : String} (s : Same G H) (e : tyD d = some n) (h : Vw g G H d v) : TyX g.K H v (.type n) := by
  cases d with
  | non => simp only [tyD, Option.some.injEq] at e; subst e; simp only [Vw, Rv] at h; subst h; exact .base .non
  | bl b => simp only [tyD, Option.some.injEq] at e; subst e; simp only [Vw, Rv] at h; subst h; exact .base (.bl _)
  | int b => simp only [tyD, Option.some.injEq] at e; subst e; simp only [Vw, Rv] at h; subst h; exact .base (.int _)
  | str b => simp only [tyD, Option.some.injEq] at e; subst e; simp only [Vw, Rv] at h; subst h; exact .base (.str _)
  | lst xs =>
    simp only [tyD, Option.some.injEq] at e; subst e
    obtain ⟨a, vs, rfl, h1, _⟩ := h
    exact .base (.lst h1)
  | dct ks xs =>
    simp only [tyD, Option.some.injEq] at e; subst e
    obtain ⟨a, vs, rfl, h1, _⟩ := h
    exact .base (.dK h1)
  | tup xs =>
    simp only [tyD, Option.some.injEq] at e; subst e
    simp only [Vw, Rv] at h
    obtain ⟨a, vs, rfl, h1, _⟩ := h
    rcases sqT_same s h1 with (h2 | ⟨o, h2⟩) | ⟨o, its, n, h2, h3, _⟩
    · exact .base (.tup h2)
    · exact .fTuple h2
    · exact .kTuple h2 h3
  | scr xs =>
    simp only [tyD, Option.some.injEq] at e; subst e
    simp only [Vw, Rv] at h
    obtain ⟨a, rfl, h1⟩ := h
    rcases s.seq h1 with (h2 | ⟨o, h2⟩) | ⟨o, its, n, h2, h3, _⟩
    · exact .base (.lst h2)
    · exact .base (.frz h2)
    · exact .kList h2 h3
  | obj _ _ => cases e
  | exn _ _ _ _ => cases e
def eIsi (ts : List Ty) (fo : FO) : FE := fun env => do
  let (o, env) ← fo env
  let d ← Rs.of (res env o)
  let b ← Rs.of (isiA ts d)
  .ok (.im (.bl b), env)
section
variable {X : Cx} {g : Gs} {W : WX} {a e1 : Expr} {fo : FO} {p pos q qp : Pos} {es : List Expr}
theorem se_isi {t : Ty} {x : Str} (hK : X.K = g.K) (ha : PE X a (tO g W fo)) (hg : Gl X "isinstance") (hm : X.mg "isinstance" = none) (hgt : Gl X x) (hmt : X.mg x = none) (hx : bootBuiltins x = some (.type t.nm)) (hn : x ≠ "__name__") (hd : (x == ("__debug__" : Str)) = false)
    (hs1 : starEach [a, .Name x q] X.env = (false, eval a X.env) :: starEach [.Name x q] X.env) (hs2 : starEach [.Name x q] X.env = (false, eval (.Name x q) X.env) :: starEach [] X.env) (hpl : (backTo pos (starEach [.Name x q] X.env)).any (·.1) = false) :
    PE X (.Call (.Name "isinstance" p) [a, .Name x q] [] pos) (tE g W (eIsi [t] fo)) := by
  have hT : PE X (.Name x q) (tC (.ty t.nm)) := pe_bltn hgt hmt hx rfl hn hd
  refine ⟨fun pins s σ H Q I h => ?_⟩
  obtain ⟨B, G0, G, env, S, h⟩ := h
  refine (pe_callB call_isi hg hm PyProof.Rows.boot_isinstance (pa_cons ha (pa_cons hT pa_nil hs2) hs1) (he := hs1) (hpl := hpl)).run pins s σ H Q I ?_
  refine ⟨B, G0, G, env, S, (Fin.bind h).mono fun o env1 G1 H1 s1 q v S1 r1 => ?_⟩
  obtain ⟨d, e1, q⟩ := Fin.of_bind q
  obtain ⟨b, e2, q⟩ := Fin.of_bind q
  simp only [isiA, Option.bind_eq_some_iff] at e2
  obtain ⟨b', e3, e4⟩ := e2
  have e5 : b' = b := by cases b' <;> simpa using e4
  subst e5
  obtain ⟨n, e6, e7⟩ := isi_kit e3
  refine ⟨v, .ty t.nm, .type n, .type t.nm, b', rfl, .ty _, ?_, kit_ty e7, q G1 H1 (Same.refl _) _ (S1.cons (by simp [Rv]))⟩
  rw [hK]
  exact tyx_of S1.s1 e6 (S1.res r1 e1)
end
end Eng
end
section
set_option Elab.async false
set_option linter.all false
set_option maxRecDepth 100000
namespace Eng
open PySem L2
open PyProof.Rows hiding St

/-! ### the own exceptions' classes -/
structure EC (K : PySem.W.Frag) (C : Addr) : Prop where
  cl : (PySem.W.clsIn K C).isSome = true
  ga : PySem.W.findIn K (.ref C) "__getattribute__" = some (some (.builtin "BaseException.__getattribute__"))
  gt : PySem.W.findIn K (.ref C) "__getattr__" = some none
  sb : PySem.W.subIn K (.ref C) (.type "BaseException") = some true
  hd : PySem.W.hasDictIn K C = true
  ca : PySem.W.findIn K (.ref C) "__class__" = some (some (.builtin "object.__class__"))
  gs : PySem.W.specialIn K (.builtin "object.__class__") "__get__" = some (some (.builtin "getset_descriptor.__get__"))
  tk : PySem.W.takesIn K (.builtin "object.__class__") = some true
  mr : PySem.W.mroIn K C (.type "object") = some true
/-- n classes, sub which is under which -/
structure ECs (g : Gs) (n : Nat) (sub : Nat → Nat → Bool) : Prop where
  ec : ∀ c, c < n → EC g.K (g.cls c)
  sb : ∀ c C, c < n → C < n → PySem.W.kitOne g.K (.ref (g.cls c)) (.ref (g.cls C)) = some (sub c C)
  no : ∀ c, c < n → ∀ f ∈ g.fld c, PySem.W.findIn g.K (.ref (g.cls c)) f = some none
/-- the exception at a stands pinned -/
structure HotE (X : Cx) (g : Gs) (n : Nat) (a d : Addr) (c : Nat) : Prop where
  lt : c < n
  ex : ∃ oe, (a, oe) ∈ X.pn ∧ Zc (.ref (g.cls c)) (some d) oe ∧ ∃ vs, oe.data = .fields vs
def exAt (a d : Addr) (c : Nat) (env : Env) : Option (List D) := match env[0]? with
  | some (some (M.im (D.exn a' d' c' fs))) => if a' = a ∧ d' = d ∧ c' = c then some fs else none
  | _ => none
def eIsE (a d : Addr) (c : Nat) (b : Bool) : FE := fun env => do
  let _ ← Rs.of (exAt a d c env)
  .ok (.im (.bl b), env)
def eFldE (a d : Addr) (c : Nat) (fld : List Str) (f : Str) : FE := fun env => do
  let fs ← Rs.of (exAt a d c env)
  let x ← Rs.of ((fld.zip fs).lookup f)
  .ok (.im x, env)
section
variable {X : Cx} {g : Gs} {W : WX} {n : Nat} {sub : Nat → Nat → Bool} {a d : Addr} {c : Nat} {p pos q q2 : Pos} {x xc : Str}
theorem exAt_run {B G0 G H : Hp} {σ : St} {env : Env} {fs : List D} (S : Stt g B G0 G H σ env) (e : exAt a d c env = some fs) : σ[0]? = some (some (.ref a)) ∧ ∃ vs, G d = some (.xd ((g.fld c).zip vs)) ∧ (g.fld c).length = vs.length ∧ Rvs g G fs vs := by
  unfold exAt at e
  split at e
  · rename_i a' d' c' fs' e1
    split at e
    · rename_i h
      obtain ⟨rfl, rfl, rfl⟩ := h
      cases e
      obtain ⟨v, F1, e2, r, _⟩ := S.at e1
      simp only [Rm, Rv] at r
      obtain ⟨⟨rfl, h⟩, _⟩ := r
      exact ⟨e2, h⟩
    · cases e
  · cases e
theorem hot_inst {pins : List (Addr × Obj)} {s : Shared} {σ : St} {H : Hp} {od : Obj} {oe : Obj} (I : Inv X pins σ H s) (hp : (a, oe) ∈ X.pn) (hz : Zc (.ref (g.cls c)) (some d) oe) (hf : ∃ vs, oe.data = .fields vs) (ho : s.heap.get? d = some od) : PySem.W.InstAt s.heap a oe (g.cls c) (some od) := by
  obtain ⟨vs, hd⟩ := hf
  exact ⟨(I.pin (a, oe) (List.mem_append_left _ hp)).1, hz.1, by unfold PySem.W.notCls; rw [hd] <;> rfl, by rw [hz.2]; exact ho⟩
theorem se_isE {C : Nat} (hK : X.K = g.K) (T : ECs g n sub) (hC : C < n) (hh : HotE X g n a d c) (hN : X.N[0]? = some x) (hv : Vis X.env.scope x) (hd : (x == ("__debug__" : Str)) = false) (hcd : (x == ("__classdict__" : Str)) = false) (hg : Gl X "isinstance") (hm : X.mg "isinstance" = none) (hgc : Gl X xc) (hmc : X.mg xc = some (.ref (g.cls C))) (hdc : (xc == ("__debug__" : Str)) = false)
    (hs1 : starEach [.Name x q, .Name xc q2] X.env = (false, eval (.Name x q) X.env) :: starEach [.Name xc q2] X.env) (hs2 : starEach [.Name xc q2] X.env = (false, eval (.Name xc q2) X.env) :: starEach [] X.env) (hpl : (backTo pos (starEach [.Name xc q2] X.env)).any (·.1) = false) :
    PE X (.Call (.Name "isinstance" p) [.Name x q, .Name xc q2] [] pos) (tE g W (eIsE a d c (sub c C))) := by
  obtain ⟨oe, hp, hz, hf⟩ := hh.ex
  have hT : PE X (.Name xc q2) (tC (.ref (g.cls C))) := pe_glob hgc hmc rfl hdc
  refine ⟨fun pins s σ H Q I h => ?_⟩
  obtain ⟨B, G0, G, env, S, h⟩ := h
  obtain ⟨fs, e1, h⟩ := Fin.of_bind h
  obtain ⟨e2, vs, e3, e4, e5⟩ := exAt_run S e1
  have hcall : CallR X (.builtin "isinstance") (fun xs H' Q => xs = [.ref a, .ref (g.cls C)] ∧ H' d = some (.xd ((g.fld c).zip vs)) ∧ Q (.bl (sub c C)) H') := by
    intro pins s σ H xs us Q I r hq
    obtain ⟨rfl, hd', q⟩ := hq
    obtain ⟨u1, u2, rfl, r1, r2⟩ := vals2 r
    cases (show u1 = Value.ref a from r1)
    cases (show u2 = Value.ref (g.cls C) from r2)
    obtain ⟨mA, hns, _⟩ := (show ObjOk X.prog X.w H s.heap d (.xd _) from I.hok d _ hd')
    obtain ⟨od, ho, _⟩ := lookIn_ns hns
    have ec := T.ec c hh.lt
    rw [← hK] at ec
    have J := hot_inst (g := g) I hp hz hf ho
    exact PySem.W.kia_one (PySem.W.kitx_exc ec.cl ec.ga ec.gt ec.sb ec.ca ec.gs ec.tk ec.mr) I.kIn J (by rw [hK]; exact T.sb c C hh.lt hC) (fun z => nomatch z) fun tk => ⟨.bl (sub c C), H, I.tok tk, rfl, q⟩
  refine (pe_callB hcall hg hm PyProof.Rows.boot_isinstance (pa_cons (pe_var hN hv hd hcd) (pa_cons hT pa_nil hs2) hs1) (he := hs1) (hpl := hpl)).run pins s σ H Q I ?_
  exact ⟨.ref a, e2, rfl, S.s1 _ _ e3, h G H (Same.refl _) _ (S.cons (by simp [Rv]))⟩
theorem rvs_lookup {G : Hp} {f : Str} {x : D} : ∀ {fl : List Str} {fs : List D} {vs : List V}, Rvs g G fs vs → (fl.zip fs).lookup f = some x → ∃ v, (fl.zip vs).lookup f = some v ∧ Rv g G x v
  | [], fs, vs, _, e => by simp at e
  | _ :: _, [], vs, _, e => by simp at e
  | f1 :: fl, d1 :: fs, vs, r, e => by
    simp only [Rvs] at r
    obtain ⟨v, r', rfl, h1, h2⟩ := r
    simp only [List.zip_cons_cons, List.lookup] at e ⊢
    cases hb : f == f1 with
    | true =>
      rw [hb] at e
      simp only [Option.some.injEq] at e
      subst e
      exact ⟨v, rfl, h1⟩
    | false =>
      rw [hb] at e
      exact rvs_lookup h2 e
theorem lookup_mem {f : Str} {v : V} : ∀ {fl : List Str} {vs : List V}, (fl.zip vs).lookup f = some v → f ∈ fl
  | [], vs, e => by simp at e
  | _ :: _, [], e => by simp at e
  | f1 :: fl, v1 :: vs, e => by
    simp only [List.zip_cons_cons, List.lookup] at e
    cases hb : f == f1 with
    | true => simp [eq_of_beq hb]
    | false =>
      rw [hb] at e
      simp [lookup_mem e]
theorem se_fldE {f : Str} (hK : X.K = g.K) (T : ECs g n sub) (hh : HotE X g n a d c) (hN : X.N[0]? = some x) (hv : Vis X.env.scope x) (hd : (x == ("__debug__" : Str)) = false) (hcd : (x == ("__classdict__" : Str)) = false)
    (hb : attributeBase (.Name x q) f X.env (eval (.Name x q) X.env) = eval (.Name x q) X.env) :
    PE X (.Attribute (.Name x q) f pos) (tE g W (eFldE a d c (g.fld c) f)) := by
  obtain ⟨oe, hp, hz, hf⟩ := hh.ex
  refine ⟨fun pins s σ H Q I h => ?_⟩
  obtain ⟨B, G0, G, env, S, h⟩ := h
  obtain ⟨fs, e1, h⟩ := Fin.of_bind h
  obtain ⟨y, e6, h⟩ := Fin.of_bind h
  obtain ⟨e2, vs, e3, e4, e5⟩ := exAt_run S e1
  obtain ⟨v, e7, rv⟩ := rvs_lookup e5 e6
  refine attr_of hb (thn ((pe_var hN hv hd hcd).run pins s σ H (fun z H' => z = .ref a ∧ H' = H) I ⟨_, e2, rfl, rfl⟩) fun u s1 ⟨z, H1, I1, rz, ez, eH⟩ => ?_)
  subst ez; subst eH
  obtain rfl : u = Value.ref a := rz
  obtain ⟨mA, hns, hr⟩ := (show ObjOk X.prog X.w _ s1.heap d (.xd _) from I1.hok d _ (S.s1 _ _ e3))
  obtain ⟨od, ho, hl⟩ := lookIn_ns hns
  obtain ⟨u, hu, ru⟩ := RelO.some_of (v := v) (o := mA f) (by rw [← e7]; exact hr f)
  have J := hot_inst (g := g) I1 hp hz hf ho
  have ec := T.ec c hh.lt
  have no := T.no c hh.lt f (lookup_mem e7)
  rw [← hK] at ec no
  exact HandSPX.exc_get I1.kIn J ec.ga ec.gt ec.sb (PySem.W.findObj_own ec.hd no rfl (by rw [hl, hu])) (handed_of ru) ⟨v, _, I1.tok _, ru, h G _ (Same.refl _) v (S.cons rv)⟩
end

/-! ### a def that is called within an except suite, with the exception -/
structure FnE (P : Program) (w : World) (mg : Str → Option Value) (base : Heap) (g : Gs) (n k : Nat) (f : Addr) (fd : FuncData) (x : Str) (hm : Nat → List D → Option D) : Prop where
  run : ∀ (A : Around) (ou : List PySem.Env) (s : Shared) (H : Hp) (args : Args) (a d : Addr) (c : Nat) (fs : List D) (xs : List V) (oe : Obj) (m : D) (G : Hp) (Q : VK) (E : XK), RG k A → A.handled = some (.ref a) → L2H.PinOk ou H s (a, oe) → Env0 P w g.K mg base A ou s H → BindsTo s fd args [(x, .ref a)] →
    c < n → Zc (.ref (g.cls c)) (some d) oe → (∃ vs, oe.data = .fields vs) → Same G H → G d = some (.xd ((g.fld c).zip xs)) → (g.fld c).length = xs.length → Rvs g G fs xs → hm c fs = some m →
    (∀ v G' H', Same G G' → Same G' H' → (∀ a, H a ≠ none → H' a = H a) → (∀ a, G' a ≠ none → G a ≠ none ∨ H a = none) → Rv g G' m v → Q v H') →
    codeAny (model P w) A (.call (.ref f) args) (CR (L2.CX P w) ou P w H s Q E) s
abbrev BH (P : Program) (w : World) (g : Gs) (mg : Str → Option Value) (base : Heap) (N : List Str) (ql : Str) (sc : Scope) (f : Addr) (cd : Value) (A : Around) (ou : List PySem.Env) (s : Shared) (H : Hp) (E : XK) (p : Addr × Obj) : Cx :=
  L2H.cxH (L2.CX P w) P w g.K mg base N ql sc f cd A ou s H E p
section
variable {P : Program} {w : World} {g : Gs} {mg : Str → Option Value} {base : Heap}
theorem fn_ruleE {n k : Nat} {x ql : Str} {st : Stmt} {f : Addr} {fd : FuncData} {N : List Str} {y : Str} {body : Addr → Addr → Nat → FS} {hm : Nat → List D → Option D} (F : Fun g.K x ql st f fd) (S : FnScope N [y] (defScope st))
    (hmir : ∀ c fs m, hm c fs = some m → ∀ a d, ∃ m' env', body a d c (some (.im (.exn a d c fs)) :: List.replicate (N.length - 1) none) = .ok (.rt m', env') ∧ frz m' = m)
    (hb : ∀ (cd : Value) (A : Around) (ou : List PySem.Env) (s : Shared) (H : Hp) (E : XK) (a d : Addr) (c : Nat) (oe : Obj), RG k (A.deeper (envOfC ql (defScope st) s.heap.objs.size f cd)) → c < n → Zc (.ref (g.cls c)) (some d) oe → (∃ vs, oe.data = .fields vs) →
      PSs (BH P w g mg base N ql (defScope st) f cd A ou s H E (a, oe)) (defBody st) (tS g (fun _ _ _ _ => False) [] (body a d c))) :
    FnE P w mg base g n (k + 1) f fd y hm := by
  obtain ⟨_, _, _, _, _, _, cd, _, _, rfl, lk, hcd⟩ := F.ex
  constructor
  intro A ou s H args a d c fs xs oe m G Q E hr hh hpin e0 hbt hcn hz hf sm hG hlen rv em k2
  have old : ∀ b o, base.get? b = some o → s.heap.get? b = some o := fun b o e => (e0.bs b o e).1
  have kin : g.K.In s.heap := e0.mod.kin.keeps old
  have hkind : ∀ z ∈ ([y] : List Str).zip [Value.ref a], (defScope st).names.lookup z.1 = some .local ∨ ((defScope st).names.lookup z.1 = some .cell ∧ ((cellsFrom (s.heap.objs.size + 1) (defScope st).names []).lookup z.1).isSome = true) := by
    rintro ⟨u, v⟩ hy
    cases S.par u (List.of_mem_zip hy).1 with
    | inl q => exact .inl q
    | inr q => exact .inr ⟨q, PySem.W.cellsFrom_some _ _ _ (.inl q)⟩
  have dep : A.depth < recursionLimit := by have := hr.dp; omega
  refine codeAny_call_function dep (kin _ _ lk) rfl S.co S.gen rfl (PySem.W.codeRec_of kin hcd) (hbt _ _ _ _ ?_)
  refine wpAny_newFunctionEnv_cells S.kind hkind fun env he s1 x1 => ?_
  subst he
  refine ⟨(e0.mod.nolimit.keeps old).keeps x1.toInCall.keep, codeAny_func ?_⟩
  have I := L2H.inv_startH (CX := L2.CX P w) (E := E) (vs := [.ref a]) S hpin e0 rfl (.cons rfl .nil) x1
  obtain ⟨m', env', eb, em'⟩ := hmir c fs m em a d
  have st0 := Stt.start (N := N) (ms := [.im (.exn a d c fs)]) (vs := [.ref a]) (F := []) sm (by
    simp only [Rms, Rm, Rv]
    exact ⟨.ref a, [], [], [], rfl, ⟨⟨rfl, xs, hG, hlen, rv⟩, rfl⟩, ⟨rfl, rfl⟩, rfl⟩) List.nodup_nil
  have body_run := (hb cd A ou s H E a d c oe (hr.deeper _) hcn hz hf).run [] s1 (L2.start N [.ref a]) H { nx := fun _ H' => Q .non H', rt := Q } I
    ⟨_, G, G, _, st0, by
      show FinS g _ G _ [] _ G (body a d c (some (.im (.exn a d c fs)) :: List.replicate (N.length - 1) none)) _
      rw [eb]
      intro σ' G' H' s' k' v S'
      obtain ⟨G2, s2, r2, S2⟩ := S'.frz0
      rw [em'] at r2
      refine k2 v G2 H' (s'.trans s2) S2.s1 (fun b hb => ?_) (fun b hb => ?_) r2
      · cases q : H b with
        | none => exact absurd q hb
        | some o => exact S2.s2 b o (by simp [q])
      · cases q : H b with
        | none => exact .inr rfl
        | some o => exact .inl (S2.s3 b (by simp [q]) hb)⟩
  have fin : ∀ {σ' : St} {H' : Hp} {v : V} {u : Value} {s' : Shared}, Inv (BH P w g mg base N ql (defScope st) f cd A ou s H E (a, oe)) [] σ' H' s' → L2.RelV v u → Q v H' → CE ou P w H s Q u s' :=
    fun {σ' H' v u s'} J rv q => ⟨v, H', J.os, J.bare, J.base, J.hok, rv, q⟩
  refine wpAny_mono body_run (fun fl s' h => ?_) fun e s' h => h
  match fl, h with
  | .ret u, ⟨v, σ', H', J, rv, q⟩ => exact fin J rv q
  | .next, ⟨σ', H', J, q⟩ => exact fin (v := .non) (u := .none) J rfl q
  | .brk, ⟨_, _, _, q⟩ => exact False.elim q
  | .cont, ⟨_, _, _, q⟩ => exact False.elim q
end
end Eng
end
section
set_option Elab.async false
set_option linter.all false
set_option maxRecDepth 100000
namespace Eng
open PySem L2
open PyProof.Rows hiding St

/-! ### try: .., except C as e: return f(e) -/
def sTry (i : Nat) (fb : FS) (n : Nat) (sub : Nat → Nat → Bool) (C0 : Nat) (hm : Nat → List D → Option D) : FS := fun env => match fb env with
  | .exc c fs env' => if c < n ∧ i < env'.length then (if sub c C0 = true then (match hm c fs with
    | some m => .ok (.rt (.im m), env')
    | none => .bad) else .exc c fs env') else .bad
  | r => r
/-- what the suite wants -/
def tsE (g : Gs) (n i : Nat) (hm : Nat → List D → Option D) : Addr → Value → Option Addr → TS := fun a cls d ED σ H => ∃ (c : Nat) (dd : Addr) (fs : List Eng.D) (xs : List V) (B G0 G : Hp) (σ0 : St) (env : Env) (m : Eng.D),
  cls = .ref (g.cls c) ∧ d = some dd ∧ c < n ∧ σ[i]? = some (some (.ref a)) ∧ Stt g B G0 G H σ0 env ∧ G dd = some (.xd ((g.fld c).zip xs)) ∧ (g.fld c).length = xs.length ∧ Rvs g G fs xs ∧ hm c fs = some m ∧
    ∀ v G' H', Same G G' → Stt g B G0 G' H' (some v :: σ0) (some (.im m) :: env) → ED.rt v H'
section
variable {X : Cx} {g : Gs} {W : WX} {mp : List Nat} {n : Nat} {sub : Nat → Nat → Bool} {np cp vp pos pos' rp pc : Pos} {x xC y : Str} {i k kk : Nat} {f : Addr} {fd : FuncData} {hm : Nat → List D → Option D} {body : List Stmt} {fb : FS}
theorem suite_call {a : Addr} {oe : Obj} {cls : Value} {d : Option Addr} {pn : List (Addr × Obj)} {z : Str} (F : FnE X.prog X.w X.mg X.base g n k f fd z hm) (hK : X.K = g.K) (hr : RG kk X.A) (hle : k ≤ kk) (hN : X.N[i]? = some y) (hv : Vis X.env.scope y) (hd : (y == ("__debug__" : Str)) = false) (hcd : (y == ("__classdict__" : Str)) = false)
    (hg : Gl X x) (hmx : X.mg x = some (.ref f)) (hkp : PySem.W.keepIn X.K (.ref f) = true) (hb : Binds X.K fd [z] []) (hdb : (x == ("__debug__" : Str)) = false) (he : starEach [.Name y vp] X.env = (false, eval (.Name y vp) X.env) :: starEach [] X.env) (hpl : (backTo pos (starEach [] X.env)).any (·.1) = false)
    (hz : Zc cls d oe) (hf : ∃ vs, oe.data = .fields vs) : PSs (X.suite a ((a, oe) :: pn)) [.Return (some (.Call (.Name x cp) [.Name y vp] [] pos)) rp] (tsE g n i hm a cls d) := by
  have hcall : PE (X.suite a ((a, oe) :: pn)) (.Call (.Name x cp) [.Name y vp] [] pos) (fun σ H Q => tsE g n i hm a cls d { nx := fun _ _ => True, rt := Q } σ H) := by
    refine ⟨fun pins s σ H Q I h => ?_⟩
    obtain ⟨c, dd, fs, xs, B, G0, G, σ0, env, m, rfl, rfl, hc, hσ, S, e3, e4, e5, e6, h⟩ := h
    refine wpAny_Call_Name_kw (ld_glob I hg hmx ?_ hdb)
    have hv' : PE (X.suite a ((a, oe) :: pn)) (.Name y vp) (tVar i) := pe_var hN hv hd hcd
    refine PySem.W.callWith_K (h₀ := X.base) I.ok.mod.kin hkp (thn ((pa_cons hv' pa_nil he).run pos pins s σ H (fun vs H1 => vs = [.ref a] ∧ H1 = H) I ⟨_, hσ, rfl, rfl⟩) fun us s1 ⟨vs, H1, I1, r, ev, eH⟩ => ⟨I1.kIn, ?_⟩) he hpl
    subst ev; subst eH
    obtain ⟨u, us', rfl, ru, rr⟩ : ∃ u us', us = u :: us' ∧ L2.RelV (.ref a) u ∧ Vals [] us' := by
      cases r with
      | cons r1 r2 => exact ⟨_, _, rfl, r1, r2⟩
    cases rr
    obtain rfl : u = Value.ref a := ru
    have b := hb s1 [.ref a] I1.kIn rfl
    have P1 := I1.pin (a, oe) (List.mem_append_left _ List.mem_cons_self)
    have hpin : L2H.PinOk (X.suite a ((a, oe) :: pn)).stack H1 s1 (a, oe) := ⟨P1.1, P1.2.1, fun hm => (List.mem_cons.mp (I1.stkSub a hm)).elim P1.2.2.1 P1.2.2.2.1, P1.2.2.2.2⟩
    have e0 := I1.env0
    rw [show (X.suite a ((a, oe) :: pn)).K = g.K from hK] at e0
    have hrs : RG k (X.suite a ((a, oe) :: pn)).A := by
      have := hr.mono hle
      exact ⟨this.dp, this.un, this.gd⟩
    refine wpAny_call (codeAny_mono (F.run _ X.stack s1 H1 ⟨[.ref a], []⟩ a dd c fs xs oe m G Q (fun _ _ _ => False) hrs rfl hpin e0 b hc hz hf S.s1 e3 e4 e5 e6 fun v G' H' a1 a2 a3 a4 a5 => ?_) fun r' s' hq => ?_)
    · obtain ⟨F0, rm, nd, fr⟩ := Stt.called (vs := []) (ms := []) rfl S
      have rm' : F0 = [] := by
        have := rm
        simp only [Rms] at this
        exact this.2
      subst rm'
      exact h v G' H' a1 (((fr G' H' a1 a2 (fun a _ h => a3 a h) fun a h => (a4 a h).elim .inl fun z => .inr (.inl z)).1).cons a5)
    · match r', hq with
      | .error e, hq =>
        obtain ⟨_, _, _, _, _, _, _, _, _, _, _, _, hx⟩ := hq
        exact hx.elim
      | .ok (.ret u), hq => exact I1.after hq
      | .ok .next, hq => exact False.elim hq
      | .ok .brk, hq => exact False.elim hq
      | .ok .cont, hq => exact False.elim hq
  refine pss_one ⟨fun pins s σ H D I h => ?_⟩
  exact (ps_ret hcall).run pins s σ H D I h
theorem ss_try {C0 : Nat} {z : Str} (F : FnE X.prog X.w X.mg X.base g n k f fd z hm) (hK : X.K = g.K) (hr : RG kk X.A) (hle : k ≤ kk) (T : ∀ c, c < n → PySem.W.exmOne g.K (.ref (g.cls c)) (.ref (g.cls C0)) = some (sub c C0))
    (hs : X.stack = X.env :: X.outer) (hfr : X.env.frame = some X.env.locals) (hNd : X.N.Nodup) (hN : X.N[i]? = some y) (hln : X.env.kindOf y = some .local) (hv : Vis X.env.scope y) (hd : (y == ("__debug__" : Str)) = false) (hcd : (y == ("__classdict__" : Str)) = false)
    (hgC : Gl X xC) (hdC : (xC == ("__debug__" : Str)) = false) (hmC : X.mg xC = some (.ref (g.cls C0))) (tk : Takes X W)
    (hg : Gl X x) (hmx : X.mg x = some (.ref f)) (hkp : PySem.W.keepIn X.K (.ref f) = true) (hb : Binds X.K fd [z] []) (hdb : (x == ("__debug__" : Str)) = false) (he : starEach [.Name y vp] X.env = (false, eval (.Name y vp) X.env) :: starEach [] X.env) (hpl : (backTo pc (starEach [] X.env)).any (·.1) = false)
    (hbody : ∀ (W' : WX) (pn : List (Addr × Obj)) (xe : Value → Shared → Prop), Takes (X.tr pn xe) W' → PassesOwn (model X.prog X.w) X.A X.env xe → PSs (X.tr pn xe) body (tS g W' mp fb)) :
    PS X (.Try body [.ExceptHandler (some (.Name xC np)) (some y) [.Return (some (.Call (.Name x cp) [.Name y vp] [] pc)) rp] pos'] [] [] pos) (tS g W mp (sTry i fb n sub C0 hm)) := by
  refine ⟨fun pins s σ H D I h => ?_⟩
  obtain ⟨B, G0, G, env, S, h⟩ := h
  refine (ps_try_as (tb := fun W' => tS g W' mp fb) (ts := tsE g n i hm) (Wout := W) hs hfr hNd hN hln (c := .ref (g.cls C0)) ⟨hgC, hdC, .inl hmC⟩ tk hbody
    (fun a oe cls d pn hz hf => suite_call F hK hr hle hN hv hd hcd hg hmx hkp hb hdb he hpl hz hf)).run pins s σ H D I ⟨B, G0, G, env, S, ?_⟩
  unfold sTry at h
  cases hfb : fb env with
  | bad => rw [hfb] at h; exact h
  | ok p => rw [hfb] at h; exact h
  | exc c fs env' =>
    rw [hfb] at h
    simp only at h
    split at h
    · rename_i hc
      intro d vs σ' G' H' s' k' S' e1 e2 e3
      rw [show X.K = g.K from hK]
      refine ⟨sub c C0, T c hc.1, fun hsub a ha => ?_, fun hsub => ?_⟩
      · rw [if_pos hsub] at h
        split at h
        · rename_i m hm'
          have hi : i < σ'.length := by rw [S'.len]; exact hc.2
          refine ⟨c, d, fs, vs, B, G0, G', σ', env', m, rfl, rfl, hc.1, by rw [List.getElem?_set_self hi], S', e1, e2, e3, hm', fun v G2 H2 s2 S2 => ?_⟩
          exact h σ' G2 H2 (s'.trans s2) k' v S2
        · exact False.elim h
      · rw [if_neg (by rw [hsub]; simp)] at h
        exact h d vs σ' G' H' s' k' S' e1 e2 e3
    · exact False.elim h
end
end Eng
end
section
set_option Elab.async false
set_option linter.all false
set_option maxRecDepth 100000
namespace Eng
open PySem L2
open PyProof.Rows hiding St

/-! ### repr -/
mutual
theorem pd_nodict : ∀ {d : D} {p : PyData}, pd d = some p → p.hasDict = false
  | .non, p, e => by simp only [pd, Option.some.injEq] at e; subst e; simp [PyData.hasDict]
  | .bl b, p, e => by simp only [pd, Option.some.injEq] at e; subst e; simp [PyData.hasDict]
  | .int b, p, e => by simp only [pd, Option.some.injEq] at e; subst e; simp [PyData.hasDict]
  | .str b, p, e => by simp only [pd, Option.some.injEq] at e; subst e; simp [PyData.hasDict]
  | .tup xs, p, e => by
    simp only [pd, Option.map_eq_some_iff] at e
    obtain ⟨ps, e1, rfl⟩ := e
    simp only [PyData.hasDict]; exact pds_nodict e1
  | .lst xs, p, e => by
    simp only [pd, Option.map_eq_some_iff] at e
    obtain ⟨ps, e1, rfl⟩ := e
    simp only [PyData.hasDict]; exact pds_nodict e1
  | .dct _ _, p, e => by simp [pd] at e
  | .obj _ _, p, e => by simp [pd] at e
  | .scr _, p, e => by simp [pd] at e
  | .exn _ _ _ _, p, e => by simp [pd] at e
theorem pds_nodict : ∀ {ds : List D} {ps : List PyData}, pds ds = some ps → PyData.hasDictAll ps = false
  | [], ps, e => by simp only [pds, Option.some.injEq] at e; subst e; simp [PyData.hasDictAll]
  | d :: ds, ps, e => by
    simp only [pds, Option.bind_eq_some_iff, Option.map_eq_some_iff] at e
    obtain ⟨p, e1, qs, e2, rfl⟩ := e
    simp [PyData.hasDictAll, pd_nodict e1, pds_nodict e2]
end
section
variable {X : Cx} {g : Gs} {pins : List (Addr × Obj)} {s : Shared} {σ : St} {G H : Hp}
mutual
theorem rv_reads (hK : X.K = g.K) (I : Inv X pins σ H s) (sm : Same G H) : ∀ {d : D} {p : PyData} {v : V} {u : Value}, pd d = some p → Rv g G d v → L2.RelV v u → ∃ as, Reads s.heap u p as
  | .non, p, v, u, e, h, r => by
    simp only [pd, Option.some.injEq] at e; subst e
    simp only [Rv] at h; subst h
    cases r; exact ⟨_, .none⟩
  | .bl b, p, v, u, e, h, r => by
    simp only [pd, Option.some.injEq] at e; subst e
    simp only [Rv] at h; subst h
    cases r; exact ⟨_, .bool b⟩
  | .int b, p, v, u, e, h, r => by
    simp only [pd, Option.some.injEq] at e; subst e
    simp only [Rv] at h; subst h
    obtain ⟨t, rfl⟩ := r; exact ⟨_, .int b t⟩
  | .str b, p, v, u, e, h, r => by
    simp only [pd, Option.some.injEq] at e; subst e
    simp only [Rv] at h; subst h
    obtain ⟨t, rfl⟩ := r; exact ⟨_, .str b t⟩
  | .tup xs, p, v, u, e, h, r => by
    simp only [pd, Option.map_eq_some_iff] at e
    obtain ⟨ps, e1, rfl⟩ := e
    simp only [Rv] at h
    obtain ⟨a, vs, rfl, h1, h2⟩ := h
    cases (show u = Value.ref a from r)
    obtain ⟨its, rv, pl, hz⟩ := I.tuple (by rw [hK]; exact sqT_same sm h1)
    obtain ⟨o, h3, h4, n, h5⟩ := pl
    obtain ⟨as, ra⟩ := rvs_reads hK I sm e1 h2 rv
    exact ⟨_, .tuple h3 h4 h5 ra⟩
  | .lst xs, p, v, u, e, h, r => by
    simp only [pd, Option.map_eq_some_iff] at e
    obtain ⟨ps, e1, rfl⟩ := e
    simp only [Rv] at h
    obtain ⟨a, vs, rfl, h1, h2⟩ := h
    cases (show u = Value.ref a from r)
    obtain ⟨its, rv, pl, hz⟩ := I.list (SqL.of (sm _ _ h1))
    obtain ⟨o, h3, h4, n, h5⟩ := pl.isList
    obtain ⟨as, ra⟩ := rvs_reads hK I sm e1 h2 rv
    exact ⟨_, .list h3 h4 h5 ra⟩
  | .dct _ _, p, v, u, e, _, _ => by simp [pd] at e
  | .obj _ _, p, v, u, e, _, _ => by simp [pd] at e
  | .scr _, p, v, u, e, _, _ => by simp [pd] at e
  | .exn _ _ _ _, p, v, u, e, _, _ => by simp [pd] at e
theorem rvs_reads (hK : X.K = g.K) (I : Inv X pins σ H s) (sm : Same G H) : ∀ {ds : List D} {ps : List PyData} {vs : List V} {us : List Value}, pds ds = some ps → Rvs g G ds vs → Vals vs us → ∃ as, ReadsAll s.heap us ps as
  | [], ps, vs, us, e, h, r => by
    simp only [pds, Option.some.injEq] at e; subst e
    simp only [Rvs] at h; subst h
    cases r; exact ⟨_, .nil⟩
  | d :: ds, ps, vs, us, e, h, r => by
    simp only [pds, Option.bind_eq_some_iff, Option.map_eq_some_iff] at e
    obtain ⟨p, e1, qs, e2, rfl⟩ := e
    simp only [Rvs] at h
    obtain ⟨v, vs', rfl, h1, h2⟩ := h
    cases r with
    | cons r1 r2 =>
      obtain ⟨as, q1⟩ := rv_reads hK I sm e1 h1 r1
      obtain ⟨bs, q2⟩ := rvs_reads hK I sm e2 h2 r2
      exact ⟨_, .cons q1 q2⟩
end
/-- a value read where it stands may be frozen for the reading -/
theorem vw_reads (hK : X.K = g.K) (I : Inv X pins σ H s) (sm : Same G H) {d : D} {p : PyData} {v : V} {u : Value} (e : pd d = some p) (h : Vw g G H d v) (r : L2.RelV v u) : ∃ as, Reads s.heap u p as := by
  cases d with
  | lst xs =>
    simp only [pd, Option.map_eq_some_iff] at e
    obtain ⟨ps, e1, rfl⟩ := e
    obtain ⟨a, vs, rfl, h1, h2⟩ := h
    cases (show u = Value.ref a from r)
    obtain ⟨its, rv, pl, hz⟩ := I.list (SqL.of h1)
    obtain ⟨o, h3, h4, n, h5⟩ := pl.isList
    obtain ⟨as, ra⟩ := rvs_reads hK I sm e1 h2 rv
    exact ⟨_, .list h3 h4 h5 ra⟩
  | dct _ _ => simp [pd] at e
  | obj _ _ => simp [pd] at e
  | _ => exact rv_reads hK I sm e h r
def reprF : List D → Option M
  | [d] => (pd d).bind fun p => if p.showable = true ∧ p.shown.length ≤ sizeLine ∧ p.depth ≤ 50 then some (.im (.str p.shown)) else none
  | _ => none
theorem cs_repr (hK : X.K = g.K) (hg : X.A.guards = some []) (hu : X.A.units + 64 < cLine) : CallS X g (.builtin "repr") reprF := by
  intro pins s σ H xs us Q I r ⟨B, G0, G, σ', env, ds, m, S, vw, e, k⟩
  unfold reprF at e
  split at e
  · rename_i d
    simp only [Option.bind_eq_some_iff] at e
    obtain ⟨p, e1, e2⟩ := e
    split at e2
    · rename_i hh
      cases e2
      obtain ⟨v, rfl, h⟩ := vws1 vw
      obtain ⟨u, us', rfl, r1, r2⟩ : ∃ u us', us = u :: us' ∧ L2.RelV v u ∧ Vals [] us' := by
        cases r with
        | cons r1 r2 => exact ⟨_, _, rfl, r1, r2⟩
      cases r2
      obtain ⟨as, rd⟩ := vw_reads hK I S.s1 e1 h r1
      have fin : ∀ (z : Str) (h' : Heap) (t tk : Nat), z = p.shown → (∀ b o, s.heap.get? b = some o → h'.get? b = some o) → EP X pins σ Q (.str z t) { s with heap := h', toks := tk } := fun z h' t tk ez kk => by
        subst ez
        exact ⟨.str p.shown, H, I.kept (t' := tk) kk, ⟨_, rfl⟩, k.sc S fun _ => by simp [Rv]⟩
      cases rd with
      | none => exact P.repr_of_none (fin _ s.heap _ _ (by simp [PyData.shown]) fun _ _ x => x)
      | bool b => exact P.repr_of_bool (fin _ s.heap _ _ (by cases b <;> simp [PyData.shown]) fun _ _ x => x)
      | int i t => exact P.repr_of_int (by have := hh.1; simpa [PyData.showable] using this) (fin _ s.heap _ _ (by simp [PyData.shown]) fun _ _ x => x)
      | str z t => exact P.repr_of_str (fin _ s.heap _ _ (by simp [PyData.shown]) fun _ _ x => x) (by have := hh.2.1; simpa [PyData.shown] using this)
      | list h1 h2 h3 h4 =>
        exact repr_of_reads' (.list h1 h2 h3 h4) hh.1 (fun z => by rw [pd_nodict e1] at z; cases z) hg (by have := hh.2.2; omega) (fun _ _ x => x) (fun h' u tk kk => fin _ h' _ _ rfl kk) hh.2.1
      | tuple h1 h2 h3 h4 =>
        exact repr_of_reads' (.tuple h1 h2 h3 h4) hh.1 (fun z => by rw [pd_nodict e1] at z; cases z) hg (by have := hh.2.2; omega) (fun _ _ x => x) (fun h' u tk kk => fin _ h' _ _ rfl kk) hh.2.1
      | dict h1 h2 h3 h4 h5 => exact absurd (pd_nodict e1) (by simp [PyData.hasDict])
    · cases e2
  · cases e
end
end Eng
end
section
set_option Elab.async false
set_option linter.all false
set_option maxRecDepth 100000
namespace Eng
open PySem L2
open PyProof.Rows hiding St

/-! ### list(range(..)), tuple(range(..)) -/
theorem rvs_rng {g : Gs} {G : Hp} (a b : Int) : Rvs g G (rngD a b) (rgV a b) := by
  have : ∀ (l : List Nat), Rvs g G (l.map fun i => D.int (a + (i : Nat))) (l.map fun i => V.int (a + (i : Nat))) := by
    intro l
    induction l with
    | nil => simp [Rvs]
    | cons x l ih => simp only [List.map_cons, Rvs, Rv]; exact ⟨_, _, rfl, rfl, ih⟩
  exact this _
def rgB (a b : Int) : Bool := decide (-1000000 ≤ a) && decide (a ≤ 1000000) && decide (-1000000 ≤ b) && decide (b ≤ 1000000)
theorem rgB_ok {a b : Int} (h : rgB a b = true) : RgOk a b := by
  simp only [rgB, Bool.and_eq_true, decide_eq_true_eq] at h
  obtain ⟨⟨⟨h1, h2⟩, h3⟩, h4⟩ := h
  exact ⟨by omega, by omega, by omega, by omega, by omega⟩
/-- the bounds of range(..) -/
abbrev FR := Env → Rs ((Int × Int) × Env)
def rRng1 (fo : FO) : FR := fun env => do
  let (o, env) ← fo env
  let d ← Rs.of (res env o)
  match d with
  | .int n => .ok ((0, n), env)
  | _ => .bad
def rRng2 (fo go : FO) : FR := two fo go fun dx dy env => match dx, dy with
  | .int i, .int j => .ok ((i, j), env)
  | _, _ => .bad
def tR (g : Gs) (W : WX) (f : FR) : St → Hp → (Int → Int → Hp → Prop) → Prop := fun σ H Q => ∃ B G0 G env, Stt g B G0 G H σ env ∧ Fin g B G0 W σ G (f env) fun p env G' H' => Stt g B G0 G' H' σ env → Q p.1 p.2 H'
def eLRg (f : FR) : FE := fun env => do
  let (p, env) ← f env
  if rgB p.1 p.2 = true then .ok (.ls ((rngD p.1 p.2).map .im), env) else .bad
def eTRg (f : FR) : FE := fun env => do
  let (p, env) ← f env
  if rgB p.1 p.2 = true then .ok (.im (.tup (rngD p.1 p.2)), env) else .bad
section
variable {X : Cx} {g : Gs} {W : WX} {a b e : Expr} {fo go : FO} {f : FR} {p pos q : Pos}
theorem sr_1 (hg : Gl X "range") (hm : X.mg "range" = none) (ha : PE X a (tO g W fo)) (na : starEach [a] X.env = (false, eval a X.env) :: starEach [] X.env) : PRg X (.Call (.Name "range" p) [a] [] pos) (tR g W (rRng1 fo)) := by
  intro pins s σ H Q I h
  obtain ⟨B, G0, G, env, S, h⟩ := h
  refine prg_1 hg hm ha na pins s σ H Q I ⟨B, G0, G, env, S, (Fin.bind h).mono fun o env1 G1 H1 s1 q v S1 r1 => ?_⟩
  obtain ⟨d, e1, q⟩ := Fin.of_bind q
  cases d with
  | int n =>
    have hv := S1.res r1 e1
    simp only [Vw, Rv] at hv
    exact ⟨n, hv, q G1 H1 (Same.refl _) S1⟩
  | _ => exact False.elim q
theorem sr_2 (hg : Gl X "range") (hm : X.mg "range" = none) (ha : PE X a (tO g W fo)) (hb : PE X b (tO g W go)) (na : starEach [a, b] X.env = (false, eval a X.env) :: starEach [b] X.env) (nb : starEach [b] X.env = (false, eval b X.env) :: starEach [] X.env) (hp : (backTo pos (starEach [b] X.env)).any (·.1) = false) :
    PRg X (.Call (.Name "range" p) [a, b] [] pos) (tR g W (rRng2 fo go)) := by
  intro pins s σ H Q I h
  obtain ⟨B, G0, G, env, S, h⟩ := h
  unfold rRng2 two at h
  refine prg_2 hg hm ha hb na nb hp pins s σ H Q I ⟨B, G0, G, env, S, (Fin.bind h).mono fun o env1 G1 H1 s1 q v S1 r1 => ?_⟩
  refine ⟨B, G0, G1, env1, S1, (Fin.bind q).mono fun o2 env2 G2 H2 s2 q v2 S2 r2 => ?_⟩
  obtain ⟨dx, e1, q⟩ := Fin.of_bind q
  obtain ⟨dy, e2, q⟩ := Fin.of_bind q
  have h1 := S2.res (r1.same s2) e1
  have h2 := S2.res r2 e2
  cases dx with
  | int i =>
    cases dy with
    | int j =>
      simp only [Vw, Rv] at h1 h2
      exact ⟨i, j, h1, h2, q G2 H2 (Same.refl _) S2⟩
    | _ => exact False.elim q
  | _ => exact False.elim q
theorem se_lrg (hc : X.calm = true) (hg : Gl X "list") (hm : X.mg "list" = none) (he : PRg X e (tR g W f)) (na : starEach [e] X.env = (false, eval e X.env) :: starEach [] X.env) : PE X (.Call (.Name "list" p) [e] [] pos) (tE g W (eLRg f)) := by
  refine ⟨fun pins s σ H Q I h => ?_⟩
  obtain ⟨B, G0, G, env, S, h⟩ := h
  refine (pe_listRg hc hg hm he na).run pins s σ H Q I ⟨B, G0, G, env, S, (Fin.bind h).mono fun p env1 G1 H1 s1 q S1 => ?_⟩
  simp only at q
  split at q
  · rename_i hh
    refine ⟨rgB_ok hh, fun l hl => ?_⟩
    exact Cont.lst (ds := rngD p.1 p.2) (fun v G' H' s' S' => q G' H' s' v S') S1 (rvs_rng _ _) l hl
  · exact False.elim q
theorem se_trg (hc : X.calm = true) (hg : Gl X "tuple") (hm : X.mg "tuple" = none) (he : PRg X e (tR g W f)) (na : starEach [e] X.env = (false, eval e X.env) :: starEach [] X.env) : PE X (.Call (.Name "tuple" p) [e] [] pos) (tE g W (eTRg f)) := by
  refine ⟨fun pins s σ H Q I h => ?_⟩
  obtain ⟨B, G0, G, env, S, h⟩ := h
  refine (pe_tupRgF hc hg hm he na).run pins s σ H Q I ⟨B, G0, G, env, S, (Fin.bind h).mono fun p env1 G1 H1 s1 q S1 => ?_⟩
  simp only at q
  split at q
  · rename_i hh
    refine ⟨rgB_ok hh, fun l hl => ?_⟩
    exact Cont.tup (ds := rngD p.1 p.2) (fun v G' H' s' S' => q G' H' s' v S') S1 (rvs_rng _ _) l hl
  · exact False.elim q
/-! ### {} -/
def eDic : FE := fun env => .ok (.dc [] [], env)
theorem se_dic : PE X (.Dict [] [] pos) (tE g W eDic) := by
  refine ⟨fun pins s σ H Q I h => ?_⟩
  obtain ⟨B, G0, G, env, S, h⟩ := h
  refine pe_dnewK.run pins s σ H Q I fun l hl => ?_
  exact h G _ (Same.refl _) _ (S.consM hl (by simp only [Rm]; exact ⟨l, [], [], rfl, S.s1.free hl, upd_same, rfl, by simp [Rms], rfl⟩))
/-! ### sorted(..) of a dict whose keys are ints, of pairs -/
def keysI : List Key → Option (List Int)
  | [] => some []
  | .inl i :: r => (keysI r).map (i :: ·)
  | _ :: _ => none
theorem keysI_eq : ∀ {ks : List Key} {ns : List Int}, keysI ks = some ns → ks = ns.map Sum.inl
  | [], ns, e => by simp only [keysI, Option.some.injEq] at e; subst e; rfl
  | .inl i :: r, ns, e => by
    simp only [keysI, Option.map_eq_some_iff] at e
    obtain ⟨ns', e1, rfl⟩ := e
    rw [keysI_eq e1]; rfl
  | .inr _ :: _, _, e => by simp [keysI] at e
def sortedDF : List D → Option M
  | [.dct ks _] => (keysI ks).bind fun ns => if ns.length < 64 then some (.ls ((ns.mergeSort (fun a b => decide (a ≤ b))).map fun n => .im (.int n))) else none
  | _ => none
theorem cs_sortedD (hc : X.calm = true) : CallS X g (.builtin "sorted") sortedDF := by
  intro pins s σ H xs us Q I r ⟨B, G0, G, σ', env, ds, m, S, vw, e, k⟩
  unfold sortedDF at e
  split at e
  · rename_i ks _
    simp only [Option.bind_eq_some_iff] at e
    obtain ⟨ns, e1, e2⟩ := e
    split at e2
    · rename_i h64
      cases e2
      obtain ⟨v, rfl, a, vs, rfl, h1, hl, h2⟩ := vws1 vw
      refine call_sortedDI hc pins s σ H _ us Q I r ⟨a, ks.zip vs, ns, rfl, .inl h1, ?_, h64, fun ms p hp hs hn => ?_⟩
      · rw [← keysI_eq e1, List.map_fst_zip (by omega)]
      · rw [sorted_ints hp hs]
        have k' : Cont g B G0 G σ' env (.ls (((ns.mergeSort (fun a b => decide (a ≤ b))).map D.int).map .im)) Q := by simpa [Function.comp_def] using k
        exact k'.lst S (rvs_ints _) p hn
    · cases e2
  · cases e
/-- pairs of small numbers -/
def pairsD : List D → Option (List (Nat × Nat))
  | [] => some []
  | .tup [.int i, .int j] :: r => if 0 ≤ i ∧ i < 64 ∧ 0 ≤ j ∧ j < 64 then (pairsD r).map ((i.toNat, j.toNat) :: ·) else none
  | _ :: _ => none
def pairLe (a b : Nat × Nat) : Bool := decide (a.1 * 64 + a.2 ≤ b.1 * 64 + b.2)
def pairD (a : Nat × Nat) : D := .tup [.int a.1, .int a.2]
def sortedPF : List D → Option M
  | [.lst xs] => (pairsD xs).bind fun ps => if ps.length < 64 then some (.ls ((ps.mergeSort pairLe).map fun p => .im (pairD p))) else none
  | _ => none
theorem pairsD_eq : ∀ {xs : List D} {ps : List (Nat × Nat)}, pairsD xs = some ps → xs = ps.map pairD ∧ ∀ p ∈ ps, p.1 < 64 ∧ p.2 < 64
  | [], ps, e => by simp only [pairsD, Option.some.injEq] at e; subst e; simp
  | .tup [.int i, .int j] :: r, ps, e => by
    simp only [pairsD] at e
    split at e
    · rename_i h
      simp only [Option.map_eq_some_iff] at e
      obtain ⟨ps', e1, rfl⟩ := e
      obtain ⟨h1, h2⟩ := pairsD_eq e1
      obtain ⟨i', rfl⟩ := Int.eq_ofNat_of_zero_le h.1
      obtain ⟨j', rfl⟩ := Int.eq_ofNat_of_zero_le h.2.2.1
      refine ⟨by rw [List.map_cons, ← h1]; simp [pairD], fun p hp => ?_⟩
      rcases List.mem_cons.mp hp with rfl | hp
      · simp; omega
      · exact h2 p hp
    · cases e
  | .non :: _, _, e => by simp [pairsD] at e
  | .bl _ :: _, _, e => by simp [pairsD] at e
  | .int _ :: _, _, e => by simp [pairsD] at e
  | .str _ :: _, _, e => by simp [pairsD] at e
  | .lst _ :: _, _, e => by simp [pairsD] at e
  | .dct _ _ :: _, _, e => by simp [pairsD] at e
  | .obj _ _ :: _, _, e => by simp [pairsD] at e
  | .scr _ :: _, _, e => by simp [pairsD] at e
  | .exn _ _ _ _ :: _, _, e => by simp [pairsD] at e
  | .tup [] :: _, _, e => by simp [pairsD] at e
  | .tup [_] :: _, _, e => by simp [pairsD] at e
  | .tup (_ :: _ :: _ :: _) :: _, _, e => by simp [pairsD] at e
  | .tup [.non, _] :: _, _, e => by simp [pairsD] at e
  | .tup [.bl _, _] :: _, _, e => by simp [pairsD] at e
  | .tup [.str _, _] :: _, _, e => by simp [pairsD] at e
  | .tup [.tup _, _] :: _, _, e => by simp [pairsD] at e
  | .tup [.lst _, _] :: _, _, e => by simp [pairsD] at e
  | .tup [.dct _ _, _] :: _, _, e => by simp [pairsD] at e
  | .tup [.obj _ _, _] :: _, _, e => by simp [pairsD] at e
  | .tup [.scr _, _] :: _, _, e => by simp [pairsD] at e
  | .tup [.exn _ _ _ _, _] :: _, _, e => by simp [pairsD] at e
  | .tup [.int _, .non] :: _, _, e => by simp [pairsD] at e
  | .tup [.int _, .bl _] :: _, _, e => by simp [pairsD] at e
  | .tup [.int _, .str _] :: _, _, e => by simp [pairsD] at e
  | .tup [.int _, .tup _] :: _, _, e => by simp [pairsD] at e
  | .tup [.int _, .lst _] :: _, _, e => by simp [pairsD] at e
  | .tup [.int _, .dct _ _] :: _, _, e => by simp [pairsD] at e
  | .tup [.int _, .obj _ _] :: _, _, e => by simp [pairsD] at e
  | .tup [.int _, .scr _] :: _, _, e => by simp [pairsD] at e
  | .tup [.int _, .exn _ _ _ _] :: _, _, e => by simp [pairsD] at e
theorem rvs_perm {G : Hp} {ys vs : List V} (p : ys.Perm vs) : ∀ {ps : List (Nat × Nat)}, Rvs g G (ps.map pairD) vs → ∃ qs : List (Nat × Nat), qs.Perm ps ∧ Rvs g G (qs.map pairD) ys := by
  induction p with
  | nil => intro ps h; exact ⟨ps, .refl _, h⟩
  | cons x _ ih =>
    intro ps h
    cases ps with
    | nil => simp [Rvs] at h
    | cons q ps =>
      simp only [List.map_cons, Rvs] at h
      obtain ⟨v, r, e, h1, h2⟩ := h
      cases e
      obtain ⟨qs, h3, h4⟩ := ih h2
      exact ⟨q :: qs, h3.cons q, by simp only [List.map_cons, Rvs]; exact ⟨_, _, rfl, h1, h4⟩⟩
  | swap x y l =>
    intro ps h
    cases ps with
    | nil => simp [Rvs] at h
    | cons q ps =>
      cases ps with
      | nil => simp [Rvs] at h
      | cons q' ps =>
        simp only [List.map_cons, Rvs] at h
        obtain ⟨v, r, e, h1, ⟨v', r', e', h2, h3⟩⟩ := h
        cases e; cases e'
        exact ⟨q' :: q :: ps, .swap _ _ _, by simp only [List.map_cons, Rvs]; exact ⟨_, _, rfl, h2, _, _, rfl, h1, h3⟩⟩
  | trans _ _ ih1 ih2 =>
    intro ps h
    obtain ⟨qs, h1, h2⟩ := ih2 h
    obtain ⟨rs, h3, h4⟩ := ih1 h2
    exact ⟨rs, h3.trans h1, h4⟩
def pcode (p : Nat × Nat) : Int := (p.1 : Int) * 64 + p.2
theorem map_inj_pc : ∀ {as bs : List (Nat × Nat)}, (∀ p ∈ as, p.1 < 64 ∧ p.2 < 64) → (∀ p ∈ bs, p.1 < 64 ∧ p.2 < 64) → as.map pcode = bs.map pcode → as = bs
  | [], [], _, _, _ => rfl
  | [], _ :: _, _, _, h => by simp at h
  | _ :: _, [], _, _, h => by simp at h
  | a :: as, b :: bs, h1, h2, h => by
    simp only [List.map_cons, List.cons.injEq] at h
    have ha := h1 a (by simp)
    have hb := h2 b (by simp)
    have e : a = b := by
      have := h.1
      unfold pcode at this
      obtain ⟨a1, a2⟩ := a
      obtain ⟨b1, b2⟩ := b
      simp only at this ha hb
      have h3 : a1 = b1 := by omega
      have h4 : a2 = b2 := by omega
      rw [h3, h4]
    rw [e, map_inj_pc (fun p hp => h1 p (by simp [hp])) (fun p hp => h2 p (by simp [hp])) h.2]
theorem cs_sortedP (hK : X.K = g.K) : CallS X g (.builtin "sorted") sortedPF := by
  intro pins s σ H xs us Q I r ⟨B, G0, G, σ', env, ds, m, S, vw, e, k⟩
  unfold sortedPF at e
  split at e
  · rename_i ds0
    simp only [Option.bind_eq_some_iff] at e
    obtain ⟨ps, e1, e2⟩ := e
    split at e2
    · rename_i h64
      cases e2
      obtain ⟨ed, hb⟩ := pairsD_eq e1
      subst ed
      obtain ⟨v, rfl, a, vs, rfl, h1, h2⟩ := vws1 vw
      have tupI : ∀ {p : Nat × Nat} {x : V}, Rv g G (pairD p) x → TupI X.K H x [(p.1 : Int), (p.2 : Int)] := fun {p x} h => by
        simp only [pairD, Rv, Rvs] at h
        obtain ⟨t, ws, rfl, h3, v1, r1, rfl, rfl, v2, r2, rfl, rfl, rfl⟩ := h
        exact ⟨t, rfl, by rw [hK]; exact sqT_same S.s1 h3⟩
      refine (cr_sortT (d := 2) (B := 64) (by decide)) pins s σ H _ us Q I r ⟨a, vs, rfl, SqL.of h1, by rw [h2.length, List.length_map]; exact h64, fun x hx => ?_, fun ys p hp hs hn => ?_⟩
      · obtain ⟨i, hi⟩ := List.mem_iff_getElem?.mp hx
        have hlt : i < ps.length := by
          have := (List.getElem?_eq_some_iff.mp hi).1
          rw [h2.length, List.length_map] at this; exact this
        obtain ⟨v, e3, e4⟩ := h2.get (d := pairD ps[i]) (i := i) (by rw [List.getElem?_map, List.getElem?_eq_getElem hlt]; rfl)
        rw [hi] at e3; cases e3
        have hp := hb _ (List.getElem_mem hlt)
        refine ⟨_, tupI e4, rfl, fun m hm => ?_⟩
        simp only [List.mem_cons, List.not_mem_nil, or_false] at hm
        rcases hm with rfl | rfl <;> omega
      · obtain ⟨qs, hq, rq⟩ := rvs_perm hp h2
        have hqb : ∀ q ∈ qs, q.1 < 64 ∧ q.2 < 64 := fun q h => hb q (hq.mem_iff.mp h)
        have pw : (qs.map pcode).Pairwise (· ≤ ·) := by
          rw [List.pairwise_map]
          rw [List.pairwise_iff_getElem] at hs ⊢
          intro i j hi hj hij
          have hl := rq.length
          rw [List.length_map] at hl
          obtain ⟨v, e3, e4⟩ := rq.get (d := pairD qs[i]) (i := i) (by rw [List.getElem?_map, List.getElem?_eq_getElem hi]; rfl)
          obtain ⟨w, e5, e6⟩ := rq.get (d := pairD qs[j]) (i := j) (by rw [List.getElem?_map, List.getElem?_eq_getElem hj]; rfl)
          obtain ⟨h3, e7⟩ := List.getElem?_eq_some_iff.mp e3
          obtain ⟨h4, e8⟩ := List.getElem?_eq_some_iff.mp e5
          have := hs i j h3 h4 hij _ _ (by rw [e7]; exact tupI e4) (by rw [e8]; exact tupI e6)
          rw [code_pair, code_pair] at this
          exact this
        have ms : (ps.mergeSort pairLe).Perm ps := List.mergeSort_perm _ _
        have pw2 : ((ps.mergeSort pairLe).map pcode).Pairwise (· ≤ ·) := by
          rw [List.pairwise_map]
          refine (List.pairwise_mergeSort (le := pairLe) (fun a b c h1 h2 => ?_) (fun a b => ?_) ps).imp fun {a b} h => ?_
          · simp only [pairLe, decide_eq_true_eq] at h1 h2 ⊢; omega
          · simp only [pairLe, Bool.or_eq_true, decide_eq_true_eq]; omega
          · simp only [pairLe, decide_eq_true_eq] at h
            unfold pcode; omega
        have e9 : qs = ps.mergeSort pairLe := by
          refine map_inj_pc hqb (fun q h => hb q (ms.mem_iff.mp h)) ?_
          rw [sorted_ints (hq.map pcode) pw, sorted_ints (ms.map pcode) pw2]
        rw [e9] at rq
        have k' : Cont g B G0 G σ' env (.ls (((ps.mergeSort pairLe).map pairD).map .im)) Q := by simpa [Function.comp_def] using k
        exact k'.lst S rq p hn
    · cases e2
  · cases e
end
end Eng
end
section
set_option Elab.async false
set_option linter.all false
set_option maxRecDepth 100000
namespace Eng
open PySem L2
open PySem.AutoSeq1 (wpAny_loadPart')
open PyProof.Rows hiding St

/-! ### enumerate(a tuple) -/
theorem enum_new_tup (q : Addr) (its : Array Value) (m : Nat) (di : Option Addr) (so : Array (Option Value)) :
    Meets (Builtin.«enumerate.__new__» ⟨[.type "enumerate", .ref q], []⟩) (fun _ R z => z.heap.get? q = some { cls := .type "tuple", dict := di, data := .seq its m, slots := so } ∧
      R (.ok (.ret (.ref (z.heap.push { cls := .type "tuple_iterator", data := .fields #[.ref q, .int 0 0] }).objs.size)))
        { z with heap := (z.heap.push { cls := .type "tuple_iterator", data := .fields #[.ref q, .int 0 0] }).push { cls := .type "enumerate", data := .fields #[.none, .bool false, .ref z.heap.objs.size, rawInt 0, .none, .none] } }) :=
  .of_wp fun P w A R z hyp => by
    obtain ⟨hp, g, d, tk, os⟩ := z
    obtain ⟨hq, hyp⟩ := hyp
    have hsub := sub_enumerate
    have hT : Heap.IsTuple (Shared.heap ⟨hp, g, d, tk, os⟩) q its := ⟨_, hq, rfl, m, rfl⟩
    wp_walk using wpAny_loadPart' hq
    refine wpAny_stack_any fun st => wpAny_pure ?_
    split
    · rename_i cc _ _ _ _ _
      cases (cc == Value.type "enumerate")
      · wp_walk using wpAny_loadPart' hq, wpAny_pyIter_tuple hT
        exact ⟨_, rfl, hyp⟩
      · wp_walk using wpAny_loadPart' hq, wpAny_pyIter_tuple hT
        exact ⟨_, rfl, hyp⟩
    · wp_walk using wpAny_loadPart' hq, wpAny_pyIter_tuple hT
      exact ⟨_, rfl, hyp⟩
theorem enum_call_tup {P : Program} {w : World} {A : Around} {E : Value → Shared → Prop} {z : Shared} {q : Addr} {its : Array Value} {Q : Value → Shared → Prop} (hT : z.heap.IsTuple q its)
    (k : ∀ h', IsEnum h' (z.heap.objs.size + 1) z.heap.objs.size 0 .none → h'.IsTupleIter z.heap.objs.size q 0 → (∀ b o, z.heap.get? b = some o → h'.get? b = some o) → Q (.ref (z.heap.objs.size + 1)) { z with heap := h' }) :
    wpAny (model P w) A (call (.type "enumerate") [.ref q]) Q E z := by
  obtain ⟨⟨cc, di, dt, so⟩, hq, hc, m, hd⟩ := hT
  replace hc : cc = .type "tuple" := hc
  replace hd : dt = .seq its m := hd
  subst hc hd
  refine callType_new F.called_enumerate (by decide) (F.typeCall_enumerate_1 _) (F.newCall_enumerate_1 _) (fun ob => F.args_object_init_2 ob _) F.entry_enumerate_new (enum_new_tup q its m di so) ⟨hq, ?_⟩
  have sz : (z.heap.push { cls := .type "tuple_iterator", data := .fields #[.ref q, .int 0 0] }).objs.size = z.heap.objs.size + 1 := Heap.size_push ..
  show _ ∧ _
  rw [sz]
  have en : IsEnum ((z.heap.push { cls := .type "tuple_iterator", data := .fields #[.ref q, .int 0 0] }).push
      { cls := .type "enumerate", data := .fields #[.none, .bool false, .ref z.heap.objs.size, rawInt 0, .none, .none] }) (z.heap.objs.size + 1) z.heap.objs.size 0 .none := by
    have e := Heap.get?_push_size (z.heap.push { cls := .type "tuple_iterator", data := .fields #[.ref q, .int 0 0] })
      (o := { cls := .type "enumerate", data := .fields #[.none, .bool false, .ref z.heap.objs.size, rawInt 0, .none, .none] }) rfl
    rwa [sz] at e
  exact ⟨⟨_, en, rfl⟩, k _ en ⟨_, Heap.get?_push_of_some _ (Heap.get?_push_size _ rfl), rfl, rfl⟩ fun b o x => Heap.get?_push_of_some _ (Heap.get?_push_of_some _ x)⟩
/-- the tuple at a, each item in a new pair with its place -/
def ItE (K : PySem.W.Frag) (a : Addr) : It where
  go := fun i H => ∃ (xs : List V) (x : V), SqT K H a xs ∧ xs[i]? = some x
  yld := fun i H v H' => ∃ T ob x, v = .ref T ∧ H T = none ∧ H' = upd H T (.frz ob (.tup [.int (i : Nat), x])) ∧ ob.dict = none ∧ ∀ xs, SqT K H a xs → xs[i]? = some x
  stop := fun i H => ∃ xs : List V, SqT K H a xs ∧ xs.length = i
theorem turn_enumT {P : Program} {w : World} {K : PySem.W.Frag} {elts : List Expr} {kk : Nat} {tp : Pos} (a e it : Addr) :
    Turn P w K (.Tuple elts kk tp) (ItE K a) [e, it] e (fun i h => (∃ old, IsEnum h e it ((i : Nat) : Int) old) ∧ h.IsTupleIter it a i ∧ e ≠ it ∧ a ≠ it ∧ e ≠ a) where
  mem := by simp
  obj := fun i h st b hb => by
    obtain ⟨⟨old, he⟩, ⟨o, ho, hc, hd⟩, _⟩ := st
    have e' : b = e ∨ b = it := by simpa using hb
    rcases e' with rfl | rfl
    · exact ⟨_, he, fun v q => nomatch q⟩
    · exact ⟨o, ho, fun v q => by rw [hd] at q; cases q⟩
  keep := fun i h h' st k => let ⟨⟨old, he⟩, hi, r⟩ := st; ⟨⟨old, k e (by simp) _ he⟩, hi.at fun o q => k it (by simp) o q, r⟩
  item := by
    intro X hP hw hK hc i pins s σ H E I hf st hg
    subst hP hw hK
    obtain ⟨⟨old, he⟩, hit, hne, hai, hea⟩ := st
    obtain ⟨xs, x, hq, hx⟩ := hg
    obtain ⟨its, rv, p, hz⟩ := I.tuple hq
    obtain ⟨u, hu, ru⟩ := rv.get hx
    have hel : e < s.heap.objs.size := Heap.lt_size he
    have hil : it < s.heap.objs.size := by obtain ⟨_, q, _⟩ := hit; exact Heap.lt_size q
    have hlt : i < its.toArray.size := by rw [List.size_toArray]; exact (List.getElem?_eq_some_iff.mp hu).1
    refine wpAny_pyNext_enum_itemD (Draws.tuple (by show X.A.handled = none; exact I.ok.hd hc) it a hai its.toArray) he ⟨hit, p⟩ hlt hne (by simp [hne, hea]) fun y h' tk hy ho hit' hT hsz hk => ?_
    have ey : y = u := by
      have h1 : its.toArray[i]? = some u := by simpa using hu
      rw [h1] at hy; cases hy; rfl
    subst ey
    refine ⟨_, rfl, wpAny_letOwnedTupleGo_enum (s := { s with heap := h', toks := tk + 1 }) ho fun h'' he' sb => ?_⟩
    have hT2 : h''.get? s.heap.objs.size = some { cls := .type "tuple", data := .seq #[.int i tk, y] } := (sb.2 _ (Nat.ne_of_gt hel)).trans hT
    have nw : ObjOk X.prog X.w (upd H s.heap.objs.size (.frz { cls := .type "tuple", data := .seq #[.int i tk, y] } (.tup [.int (i : Nat), x]))) h'' s.heap.objs.size (.frz { cls := .type "tuple", data := .seq #[.int i tk, y] } (.tup [.int (i : Nat), x])) :=
      ⟨hT2, by show 2 ≤ sizeLine; decide, [.int i tk, y], .cons ⟨_, rfl⟩ (.cons ru .nil), ⟨_, hT2, rfl, _, rfl⟩⟩
    have I1 : Inv X pins σ (upd H s.heap.objs.size (.frz { cls := .type "tuple", data := .seq #[.int i tk, y] } (.tup [.int (i : Nat), x]))) { s with heap := h'', toks := tk + 1 } :=
      I.turnedNew (ch := [e, it]) (fun b ob hb q => (sb.2 b (fun z => hb (by simp [z]))).trans (hk b ob (fun z => hb (by simp [z])) (fun z => hb (by simp [z])) q)) hf (Nat.le_refl _) nw
    refine ⟨.ref s.heap.objs.size, _, I1, rfl, ⟨_, _, x, rfl, I.hok.fresh (Nat.le_refl _), rfl, rfl, fun ys hy => by rw [I.tuple_inj hy hq]; exact hx⟩, ⟨⟨y, ?_⟩, hit'.1.at fun o q => (sb.2 it (Ne.symm hne)).trans q, hne, hai, hea⟩, fun b hb => ?_⟩
    · have e1 : ((i + 1 : Nat) : Int) = (i : Int) + 1 := by omega
      rw [e1]; exact he'
    · have e' : b = e ∨ b = it := by simpa using hb
      have hb' : b < s.heap.objs.size := by rcases e' with rfl | rfl <;> assumption
      rw [upd_ne (Nat.ne_of_lt hb')]
      exact (hf b hb).1
  done := by
    intro X hP hw hK hc i pins s σ H E I hf st hg
    subst hP hw hK
    obtain ⟨⟨old, he⟩, hit, hne, hai, hea⟩ := st
    obtain ⟨xs, hq, hx⟩ := hg
    obtain ⟨its, rv, p, hz⟩ := I.tuple hq
    have hsz : its.toArray.size = i := by rw [List.size_toArray, ← rv.length]; exact hx
    subst hsz
    obtain ⟨f0, f1, f2, f3, f4, f5⟩ := hf it (by simp)
    exact wpAny_pyNext_enum_endD (Draws.tuple (by show X.A.handled = none; exact I.ok.hd hc) it a hai its.toArray) he ⟨hit, p⟩ fun h' eb => ⟨rfl, I.turned (t' := s.toks) (fun b o hb q => eb b o hb q) f0 f1 f3 f4 f5⟩
  self := fun A i s Q E st h => let ⟨⟨_, he⟩, _⟩ := st; wpAny_pyIter_enum he h

theorem walk_enumT {K : PySem.W.Frag} {a : Addr} {xs : List V} : Walk (ItE K a) xs.length (fun H => SqT K H a xs) (fun i H v H' => ∃ T ob x, v = .ref T ∧ H T = none ∧ H' = upd H T (.frz ob (.tup [.int (i : Nat), x])) ∧ ob.dict = none ∧ xs[i]? = some x) where
  goes := fun i H hi h => ⟨xs, xs[i], h, List.getElem?_eq_getElem hi⟩
  stops := fun H h => ⟨xs, h, rfl⟩
  yields := fun i H x H' hi h ⟨T, ob, y, e1, e2, e3, e5, e4⟩ => ⟨T, ob, y, e1, e2, e3, e5, e4 xs h⟩
def enumD (ds : List D) : List D := ds.mapIdx fun i d => .tup [.int (i : Nat), d]
theorem walkD_enumT {g : Gs} {G : Hp} {a : Addr} {ds : List D} {vs : List V} (h : SqN g.K G a vs) (r : Rvs g G ds vs) : WalkD g G (ItE g.K a) (enumD ds) := by
  have w := walk_enumT (K := g.K) (a := a) (xs := vs)
  have hl : vs.length = (enumD ds).length := by simp [enumD, r.length]
  rw [hl] at w
  refine ⟨_, _, w, fun H s => sqT_same s h, fun i H x H' s hi hy => ?_⟩
  obtain ⟨T, ob, y, e1, e2, e3, e0, e4⟩ := hy
  have hi' : i < ds.length := by simpa [enumD] using hi
  obtain ⟨v, e5, e6⟩ := r.get (List.getElem?_eq_getElem hi')
  rw [e4] at e5; cases e5
  refine ⟨.tup [.int (i : Nat), ds[i]], by simp [enumD, hi'], .inr ⟨T, ob, _, _, rfl, e1, e2, e3, e0, ?_⟩⟩
  simp only [Rvs, Rv]
  exact ⟨_, _, rfl, rfl, _, _, rfl, e6, rfl⟩
def wEnum (fo : FO) : FW := fun env => do
  let (o, env) ← fo env
  let d ← Rs.of (res env o)
  match d with
  | .tup ds => .ok (enumD ds, env)
  | _ => .bad
section
variable {X : Cx} {g : Gs} {W : WX} {e : Expr} {fo go : FO} {p pos tp : Pos} {elts : List Expr} {kk : Nat}
theorem sw_enum (hK : X.K = g.K) (hg : Gl X "enumerate") (hm : X.mg "enumerate" = none) (ha : PE X e (tO g W fo)) (hs : starEach [e] X.env = (false, eval e X.env) :: starEach [] X.env) :
    PI X (.Tuple elts kk tp) (.Call (.Name "enumerate" p) [e] [] pos) (tI g W (wEnum fo)) := by
  refine ⟨fun pins s σ H R I h => ?_⟩
  obtain ⟨B, G0, G, env, S, h⟩ := h
  have hsx : starEach [e] X.env = [(false, eval e X.env)] := hs
  refine Call_ (ld_blt I hg hm boot_enumerate (PyProof.Rows.callWith_type1 (thn ((pa_cons ha pa_nil hs).run pos pins s σ H (fun vs H1 => ∃ a xs ds env1 G1, vs = [.ref a] ∧ Same G G1 ∧ Stt g B G0 G1 H1 σ env1 ∧ SqN g.K G1 a xs ∧ Rvs g G1 ds xs ∧ ∀ J, WalkD g G1 J (enumD ds) → R J H1) I
    ⟨B, G0, G, env, S, (Fin.bind h).mono fun o env1 G1 H1 s1 q v S1 r1 => ?_⟩) fun us s1 ⟨vs, H1, I1, r1, a, xs, ds, env1, G1, ev, sm, S1, h1, h2, k⟩ => ?_) hsx rfl))
  · obtain ⟨d, e1, q⟩ := Fin.of_bind q
    cases d with
    | tup ds =>
      have hv := S1.res r1 e1
      simp only [Vw, Rv] at hv
      obtain ⟨a, xs, rfl, h1, h2⟩ := hv
      exact ⟨a, xs, ds, env1, G1, rfl, s1, S1, h1, h2, q G1 H1 (Same.refl _) S1⟩
    | _ => exact False.elim q
  · subst ev
    obtain ⟨u, us', rfl, ru, rr⟩ : ∃ u us', us = u :: us' ∧ L2.RelV (.ref a) u ∧ Vals [] us' := by
      cases r1 with
      | cons r1 r2 => exact ⟨_, _, rfl, r1, r2⟩
    cases rr
    obtain rfl : u = Value.ref a := ru
    obtain ⟨its, rv, p', hz⟩ := I1.tuple (by rw [hK]; exact sqT_same S1.s1 h1)
    have hlt : a < s1.heap.objs.size := by obtain ⟨o, e, _⟩ := p'; exact Heap.lt_size e
    refine enum_call_tup p' fun h' he hit hk => wpAny_pyIter_enum he ?_
    have I2 : Inv X pins σ H1 { s1 with heap := h' } := I1.kept (t' := s1.toks) hk
    refine ⟨s1.heap.objs.size + 1, [s1.heap.objs.size + 1, s1.heap.objs.size], _, _, H1, rfl, I2, turn_enumT a (s1.heap.objs.size + 1) s1.heap.objs.size, ⟨⟨.none, he⟩, hit, Nat.succ_ne_self _, Nat.ne_of_lt hlt, Nat.ne_of_gt (Nat.lt_succ_of_lt hlt)⟩, fun b hb => ?_, by rw [hK]; exact k _ (walkD_enumT h1 h2)⟩
    have e' : b = s1.heap.objs.size + 1 ∨ b = s1.heap.objs.size := by simpa using hb
    have hle : s1.heap.objs.size ≤ b := by rcases e' with z | z <;> rw [z] <;> omega
    exact I1.fpOk hle (I1.hok.fresh hle)
/-! ### zip of two tuples -/
def ItZ (K : PySem.W.Frag) (a b : Addr) : It where
  go := (RZ.ItzT K a b).go
  yld := fun i H v H' => ∃ T ob x y, v = .ref T ∧ H T = none ∧ H' = upd H T (.frz ob (.tup [x, y])) ∧ ob.dict = none ∧ (∀ xs, SqT K H a xs → xs[i]? = some x) ∧ ∀ ys, SqT K H b ys → ys[i]? = some y
  stop := (RZ.ItzT K a b).stop
theorem turn_zipN {P : Program} {w : World} {K : PySem.W.Frag} {elts : List Expr} {kk : Nat} {tp : Pos} {a b z u v i1 i2 : Addr} (D : ZipApart z u v i1 i2 a b) :
    Turn P w K (.Tuple elts kk tp) (ItZ K a b) [z, u, v, i1, i2] z (fun i h => IsZip h z u v .none ∧ IsPair h u (.ref i1) (.ref i2) ∧ (∃ x y, IsPair h v x y) ∧ h.IsTupleIter i1 a i ∧ h.IsTupleIter i2 b i) where
  mem := (RZ.turn_zipT (P := P) (w := w) (K := K) (elts := elts) (kk := kk) (tpos := tp) D).mem
  obj := (RZ.turn_zipT (P := P) (w := w) (K := K) (elts := elts) (kk := kk) (tpos := tp) D).obj
  keep := (RZ.turn_zipT (P := P) (w := w) (K := K) (elts := elts) (kk := kk) (tpos := tp) D).keep
  done := (RZ.turn_zipT (P := P) (w := w) (K := K) (elts := elts) (kk := kk) (tpos := tp) D).done
  self := (RZ.turn_zipT (P := P) (w := w) (K := K) (elts := elts) (kk := kk) (tpos := tp) D).self
  item := by
    intro X hP hw hK hc i pins s σ H E I hf st hg
    subst hP hw hK
    obtain ⟨sz, su, ⟨x0, y0, sv⟩, s1, s2⟩ := st
    obtain ⟨xs, ys, x, y, qx, qy, ex, ey⟩ := hg
    obtain ⟨us, ru, pu, _⟩ := I.tuple qx
    obtain ⟨ws, rw', pw, _⟩ := I.tuple qy
    obtain ⟨p, hp, rp⟩ := ru.get ex
    obtain ⟨q, hq, rq⟩ := rw'.get ey
    have lz : z < s.heap.objs.size := Heap.lt_size sz
    refine RZ.pyNext_zipT_item D sz su sv s1 s2 pu pw (x := p) (y := q) (by simpa using hp) (by simpa using hq) fun h' z' v' j1 j2 nw nsz old => ?_
    refine ⟨_, rfl, wpAny_letOwnedTupleGo_zip (s := { s with heap := h' }) z' fun h2 z2 sb => ?_⟩
    have nw2 : h2.get? s.heap.objs.size = some { cls := .type "tuple", data := .seq #[p, q] } := (sb.2 _ (Nat.ne_of_gt lz)).trans nw
    have ok : ObjOk X.prog X.w (upd H s.heap.objs.size (.frz { cls := .type "tuple", data := .seq #[p, q] } (.tup [x, y]))) h2 s.heap.objs.size (.frz { cls := .type "tuple", data := .seq #[p, q] } (.tup [x, y])) :=
      ⟨nw2, by show 2 ≤ sizeLine; decide, [p, q], .cons rp (.cons rq .nil), ⟨_, nw2, rfl, _, rfl⟩⟩
    have I2 : Inv X pins σ (upd H s.heap.objs.size (.frz { cls := .type "tuple", data := .seq #[p, q] } (.tup [x, y]))) { s with heap := h2 } :=
      I.turnedNew (t' := s.toks) (ch := [z, u, v, i1, i2]) (fun c o hb e => (sb.2 c (fun e' => hb (by simp [e']))).trans (old c o (fun e' => hb (by simp [e'])) (fun e' => hb (by simp [e'])) (fun e' => hb (by simp [e'])) (fun e' => hb (by simp [e'])) e)) hf (Nat.le_refl _) ok
    refine ⟨.ref s.heap.objs.size, _, I2, rfl, ⟨_, _, x, y, rfl, I.hok.fresh (Nat.le_refl _), rfl, rfl, fun l hl => by rw [I.tuple_inj hl qx]; exact ex, fun l hl => by rw [I.tuple_inj hl qy]; exact ey⟩,
      ⟨z2, (sb.2 _ D.TIz).trans (old _ _ D.TIz D.TITO D.TIi1 D.TIi2 su), ⟨p, q, (sb.2 _ D.TOz).trans v'⟩, j1.at fun o e => (sb.2 _ D.i1z).trans e, j2.at fun o e => (sb.2 _ D.i2z).trans e⟩, fun c hcm => ?_⟩
    have lt : c < s.heap.objs.size := by
      have e' : c = z ∨ c = u ∨ c = v ∨ c = i1 ∨ c = i2 := by simpa using hcm
      rcases e' with rfl | rfl | rfl | rfl | rfl
      · exact lz
      · exact Heap.lt_size su
      · exact Heap.lt_size sv
      · obtain ⟨_, e1, _⟩ := s1; exact Heap.lt_size e1
      · obtain ⟨_, e1, _⟩ := s2; exact Heap.lt_size e1
    rw [upd_ne (Nat.ne_of_lt lt)]
    exact (hf c hcm).1
def zipD (as bs : List D) : List D := (as.zip bs).map fun p => .tup [p.1, p.2]
theorem walkD_zipT {G : Hp} {a b : Addr} {as bs : List D} {vs ws : List V} (h1 : SqN g.K G a vs) (r1 : Rvs g G as vs) (h2 : SqN g.K G b ws) (r2 : Rvs g G bs ws) : WalkD g G (ItZ g.K a b) (zipD as bs) := by
  have hl : (zipD as bs).length = min vs.length ws.length := by simp [zipD, r1.length, r2.length]
  have w : Walk (ItZ g.K a b) (zipD as bs).length (fun H => SqT g.K H a vs ∧ SqT g.K H b ws) (fun i H v H' => ∃ T ob x y, v = .ref T ∧ H T = none ∧ H' = upd H T (.frz ob (.tup [x, y])) ∧ ob.dict = none ∧ vs[i]? = some x ∧ ws[i]? = some y) := by
    rw [hl]
    exact { goes := fun i H hi h => ⟨vs, ws, vs[i]'(by omega), ws[i]'(by omega), h.1, h.2, List.getElem?_eq_getElem _, List.getElem?_eq_getElem _⟩
            stops := fun H h => ⟨vs, ws, h.1, h.2, by omega⟩
            yields := fun i H x H' hi h ⟨T, ob, y, z, e1, e2, e3, e0, e4, e5⟩ => ⟨T, ob, y, z, e1, e2, e3, e0, e4 vs h.1, e5 ws h.2⟩ }
  refine ⟨_, _, w, fun H s => ⟨sqT_same s h1, sqT_same s h2⟩, fun i H x H' s hi hy => ?_⟩
  obtain ⟨T, ob, y, z, e1, e2, e3, e0, e4, e5⟩ := hy
  have ha : i < as.length := by simp [zipD] at hi; omega
  have hb : i < bs.length := by simp [zipD] at hi; omega
  obtain ⟨v, e6, e7⟩ := r1.get (List.getElem?_eq_getElem ha)
  rw [e4] at e6; cases e6
  obtain ⟨v, e8, e9⟩ := r2.get (List.getElem?_eq_getElem hb)
  rw [e5] at e8; cases e8
  refine ⟨.tup [as[i], bs[i]], by rw [zipD, List.getElem?_map, List.getElem?_eq_getElem (by simp; omega), List.getElem_zip]; rfl, .inr ⟨T, ob, _, _, rfl, e1, e2, e3, e0, ?_⟩⟩
  simp only [Rvs]
  exact ⟨_, _, rfl, e7, _, _, rfl, e9, rfl⟩
def wZip (k : FA) : FW := fun env => do
  let (os, env) ← k env
  let ds ← Rs.of (resAll env os)
  match ds with
  | [.tup as, .tup bs] => .ok (zipD as bs, env)
  | _ => .bad
theorem sw_zip {e2 : Expr} {k : FA} (hK : X.K = g.K) (hg : Gl X "zip") (hm : X.mg "zip" = none) (ha : PA X [e, e2] (tA' g W k)) (hs : starEach [e, e2] X.env = (false, eval e X.env) :: starEach [e2] X.env) (hpl : (backTo pos (starEach [e2] X.env)).any (·.1) = false) :
    PI X (.Tuple elts kk tp) (.Call (.Name "zip" p) [e, e2] [] pos) (tI g W (wZip k)) := by
  refine ⟨fun pins s σ H R I h => ?_⟩
  obtain ⟨B, G0, G, env, S, h⟩ := h
  refine Call_ (ld_blt I hg hm PyProof.Rows.boot_zip (PyProof.Rows.callWith_type1 (thn (ha.run pos pins s σ H (fun vs H1 => ∃ a b xs ys as bs env1 G1, vs = [.ref a, .ref b] ∧ Stt g B G0 G1 H1 σ env1 ∧ SqN g.K G1 a xs ∧ Rvs g G1 as xs ∧ SqN g.K G1 b ys ∧ Rvs g G1 bs ys ∧ ∀ J, WalkD g G1 J (zipD as bs) → R J H1) I
    ⟨B, G0, G, env, S, (Fin.bind h).mono fun os env1 G1 H1 s1 q vs S1 r1 => ?_⟩) fun us s1 ⟨vs, H1, I1, r1, a, b, xs, ys, as, bs, env1, G1, ev, S1, h1, h2, h3, h4, kk⟩ => ?_) hs hpl))
  · obtain ⟨ds, e1, q⟩ := Fin.of_bind q
    have vw := S1.resAll r1 e1
    split at q
    · obtain ⟨v, w, rfl, h1, h2⟩ := vws2 vw
      simp only [Vw, Rv] at h1 h2
      obtain ⟨a, xs, rfl, h3, h4⟩ := h1
      obtain ⟨b, ys, rfl, h5, h6⟩ := h2
      exact ⟨a, b, xs, ys, _, _, env1, G1, rfl, S1, h3, h4, h5, h6, q G1 H1 (Same.refl _) S1⟩
    · exact False.elim q
  · subst ev
    obtain ⟨u1, u2, rfl, ra, rb⟩ := vals2 r1
    obtain rfl : u1 = Value.ref a := ra
    obtain rfl : u2 = Value.ref b := rb
    obtain ⟨us, ru, pu, _⟩ := I1.tuple (by rw [hK]; exact sqT_same S1.s1 h1)
    obtain ⟨ws, rw', pw, _⟩ := I1.tuple (by rw [hK]; exact sqT_same S1.s1 h3)
    have l1 : a < s1.heap.objs.size := IsTup.lt pu
    have l2 : b < s1.heap.objs.size := IsTup.lt pw
    refine RZ.call_zipT (show s1.heap.IsTuple a us.toArray from pu) (show s1.heap.IsTuple b ws.toArray from pw) fun h' hz hu hv j1 j2 _ old => wpAny_pyIter_zip hz ?_
    have I2 : Inv X pins σ H1 { s1 with heap := h' } := I1.kept (t' := s1.toks) old
    refine ⟨s1.heap.objs.size + 4, [s1.heap.objs.size + 4, s1.heap.objs.size + 2, s1.heap.objs.size + 3, s1.heap.objs.size, s1.heap.objs.size + 1], _, _, H1, rfl, I2, turn_zipN (PySem.W.ktu_apart s1.heap.objs.size a b l1 l2), ⟨hz, hu, ⟨_, _, hv⟩, j1, j2⟩, fun c hcm => ?_, by rw [hK]; exact kk _ (walkD_zipT h1 h2 h3 h4)⟩
    have hle : s1.heap.objs.size ≤ c := by
      simp only [List.mem_cons, List.not_mem_nil, or_false] at hcm
      rcases hcm with e | e | e | e | e <;> rw [e] <;> first | exact Nat.le_add_right _ _ | exact Nat.le_refl _
    exact I1.fpOk hle (I1.hok.fresh hle)
end
end Eng
end
section
set_option Elab.async false
set_option linter.all false
set_option maxRecDepth 100000
namespace Eng
open PySem L2
open PyProof.Rows hiding St

/-! ### len(set(a tuple of ints)) -/
def dd : List Int → List Int
  | [] => []
  | x :: r => if x ∈ r then dd r else x :: dd r
theorem mem_dd : ∀ {ns : List Int} {x : Int}, x ∈ dd ns ↔ x ∈ ns
  | [], x => by simp [dd]
  | y :: r, x => by
    simp only [dd]
    split
    · rename_i h
      rw [mem_dd, List.mem_cons]
      constructor
      · exact .inr
      · rintro (rfl | h')
        · exact h
        · exact h'
    · rw [List.mem_cons, mem_dd, List.mem_cons]
theorem nodup_dd : ∀ {ns : List Int}, (dd ns).Nodup
  | [] => by simp [dd]
  | y :: r => by
    simp only [dd]
    split
    · exact nodup_dd
    · rename_i h
      exact List.nodup_cons.mpr ⟨fun z => h (mem_dd.mp z), nodup_dd⟩
theorem dd_nodup : ∀ {ns : List Int}, ns.Nodup → dd ns = ns
  | [], _ => rfl
  | y :: r, h => by
    simp only [dd]
    rw [if_neg (List.nodup_cons.mp h).1, dd_nodup (List.nodup_cons.mp h).2]
theorem dd_len : ∀ {ns : List Int}, (dd ns).length ≤ ns.length
  | [] => by simp [dd]
  | y :: r => by
    simp only [dd]
    split
    · have := dd_len (ns := r); simp; omega
    · have := dd_len (ns := r); simp; omega
theorem dd_len_eq : ∀ {ns : List Int}, (dd ns).length = ns.length ↔ ns.Nodup
  | [] => by simp [dd]
  | y :: r => by
    simp only [dd]
    split
    · rename_i h
      have := dd_len (ns := r)
      simp only [List.length_cons, List.nodup_cons]
      constructor
      · intro e; omega
      · intro e; exact absurd h e.1
    · rename_i h
      simp only [List.length_cons, List.nodup_cons, h, not_false_eq_true, true_and, Nat.add_right_cancel_iff]
      exact dd_len_eq
def eLenSet (fo : FO) : FE := fun env => do
  let (o, env) ← fo env
  let d ← Rs.of (res env o)
  match d with
  | .tup ds => do
    let ns ← Rs.of (intsD ds)
    if ns.length < 60 then .ok (.im (.int (dd ns).length), env) else .bad
  | _ => .bad
section
variable {X : Cx} {g : Gs} {W : WX} {a e : Expr} {fo : FO} {f : FE} {p p2 q pos apos cpos : Pos}
theorem se_lenSet (hK : X.K = g.K) (hc : X.calm = true) (hg : Gl X "len") (hm : X.mg "len" = none) (hg2 : Gl X "set") (hm2 : X.mg "set" = none) (ha : PE X a (tO g W fo))
    (na : starEach [a] X.env = (false, eval a X.env) :: starEach [] X.env) : PE X (.Call (.Name "len" p) [.Call (.Name "set" p2) [a] [] q] [] pos) (tE g W (eLenSet fo)) := by
  refine ⟨fun pins s σ H Q I h => ?_⟩
  obtain ⟨B, G0, G, env, S, h⟩ := h
  refine Call_ (ld_blt I hg hm PySem.boot_len ?_)
  refine PyProof.Rows.callWith_builtin1 (PyProof.Rows.args_cons ?_ rfl) rfl rfl
  refine Call_ (ld_blt I hg2 hm2 PyProof.Rows.boot_set ?_)
  refine PyProof.Rows.callWith_type1 (PyProof.Rows.args_cons (thn (ha.run pins s σ H (fun x H1 => ∃ l ns env1 G1, x = .ref l ∧ Same G G1 ∧ Stt g B G0 G1 H1 σ env1 ∧ SqN g.K G1 l (ns.map V.int) ∧ ns.length < 60 ∧ ∀ v, Stt g B G0 G1 H1 (some v :: σ) (some (.im (.int (dd ns).length)) :: env1) → Q v H1) I
    ⟨B, G0, G, env, S, (Fin.bind h).mono fun o env1 G1 H1 s1 q v S1 r1 => ?_⟩) fun v s1 ⟨x, H1, I1, r1, l, ns, env1, G1, ex, sm, S1, hq, h60, k⟩ => PyProof.Rows.args_nil ?_) na) na rfl
  · obtain ⟨d, e1, q⟩ := Fin.of_bind q
    cases d with
    | tup ds =>
      obtain ⟨ns, e2, q⟩ := Fin.of_bind q
      have hv := S1.res r1 e1
      simp only [Vw, Rv] at hv
      obtain ⟨l, vs, rfl, h1, h2⟩ := hv
      have := h2.ints e2
      subst this
      split at q
      · rename_i h60
        exact ⟨l, ns, env1, G1, rfl, s1, S1, h1, h60, fun v S' => q G1 H1 (Same.refl _) v S'⟩
      · exact False.elim q
    | _ => exact False.elim q
  · subst ex
    cases r1
    obtain ⟨its, r, pl, hz⟩ := I1.tuple (by rw [hK]; exact sqT_same S1.s1 hq)
    refine call_set_tupI ns (I1.ok.hd hc) pl (by simpa using r.ints) (by unfold scanBound; omega) fun h' tk c R1 hcn k' => ?_
    refine PyProof.Rows.args_nil ?_
    obtain ⟨o, es, ep, t, ho, hex, hd, _, hnd, hS, _, hf, hn, _⟩ := R1
    have I2 : Inv X pins σ H1 { s1 with heap := h', toks := tk } := I1.kept k'
    have hlen : es.size = (dd ns).length := by
      have pm : (es.toList.map keyOf).Perm (dd ns) := by
        rw [List.perm_ext_iff_of_nodup hnd nodup_dd]
        intro x
        rw [← hS x, mem_dd]
        simp
      have := pm.length_eq
      simpa using this
    refine call_len_set ho hex hd hf (by rw [hn] <;> omega) ⟨.int (dd ns).length, H1, I2.tok _, ⟨_, by rw [hlen]⟩, k _ (S1.cons (by simp [Rv]))⟩
/-! ### xs.pop(i), xs.pop() of a slot's list of values -/
def ePop (i : Nat) (f : FE) : FE := fun env => match env[i]? with
  | some (some (.ls _)) => do
    let (m, env) ← f env
    match frz m, env[i]? with
    | .int j, some (some (.ls ms)) => match ims ms, ixN ms.length j with
      | some ds, some n => match ds[n]? with
        | some d => if ms.length ≤ 1000000 then .ok (.im d, env.set i (some (.ls ((ds.eraseIdx n).map .im)))) else .bad
        | none => .bad
      | _, _ => .bad
    | _, _ => .bad
  | _ => .bad
theorem rvs_erase {G : Hp} : ∀ {ds : List D} {vs : List V} (n : Nat), Rvs g G ds vs → Rvs g G (ds.eraseIdx n) (vs.eraseIdx n)
  | [], vs, n, h => by simp only [Rvs] at h; subst h; simp [Rvs]
  | d :: ds, vs, n, h => by
    simp only [Rvs] at h
    obtain ⟨v, r, rfl, h1, h2⟩ := h
    cases n with
    | zero => simpa using h2
    | succ n =>
      simp only [List.eraseIdx_cons_succ, Rvs]
      exact ⟨v, _, rfl, h1, rvs_erase n h2⟩
end
end Eng
end
section
set_option Elab.async false
set_option linter.all false
set_option maxRecDepth 100000
namespace Eng
open PySem L2
open PyProof.Rows hiding St

/-! ### t[::-1] of a tuple -/
section
variable {P : Program} {w : World} {A : Around} {E : Value → Shared → Prop} {z : Shared}
theorem back_bounds (n : Nat) : Builtin.Slice.sliceAdjust none none (-1) (n : Int) = ((n : Int) - 1, -1) := by
  unfold Builtin.Slice.sliceAdjust
  simp
theorem back_places (n : Nat) : Builtin.Slice.slicePlaces ((n : Int) - 1) (-1) (-1) = n := by
  unfold Builtin.Slice.slicePlaces
  simp only [show ¬ ((-1 : Int) > 0) by omega, if_false]
  split <;> simp <;> omega
theorem back_pick (xs : Array Value) : ((List.range xs.size).filterMap fun (m : Nat) => xs[((xs.size : Int) - 1 + (m : Int) * (-1)).toNat]?).toArray = xs.toList.reverse.toArray := by
  congr 1
  apply List.ext_getElem?
  intro i
  have h : (List.range xs.size).filterMap (fun (m : Nat) => xs[((xs.size : Int) - 1 + (m : Int) * (-1)).toNat]?) = (List.range xs.size).filterMap (fun m => xs.toList.reverse[m]?) := by
    have : ∀ l : List Nat, (∀ m ∈ l, m < xs.size) → l.filterMap (fun (m : Nat) => xs[((xs.size : Int) - 1 + (m : Int) * (-1)).toNat]?) = l.filterMap (fun m => xs.toList.reverse[m]?) := by
      intro l
      induction l with
      | nil => intro _; rfl
      | cons m l ih =>
        intro hm
        have h1 := hm m (by simp)
        have e : ((xs.size : Int) - 1 + (m : Int) * (-1)).toNat = xs.size - 1 - m := by omega
        rw [List.filterMap_cons, List.filterMap_cons, ih (fun k hk => hm k (by simp [hk])), e]
        have e2 : xs.toList.reverse[m]? = xs[xs.size - 1 - m]? := by
          rw [List.getElem?_reverse (by simpa using h1), Array.getElem?_toList]
          simp
        rw [e2]
    exact this _ (fun m hm => List.mem_range.mp hm)
  have h2 : ∀ (l : List Value), (List.range l.length).filterMap (fun m => l[m]?) = l := by
    intro l
    induction l with
    | nil => rfl
    | cons a l ih =>
      rw [List.length_cons, List.range_succ_eq_map, List.filterMap_cons]
      simp only [List.getElem?_cons_zero]
      rw [List.filterMap_map]
      have : (fun m => (a :: l)[m]?) ∘ Nat.succ = fun m => l[m]? := by funext m; simp
      rw [this, ih]
  have h3 := h2 xs.toList.reverse
  rw [List.length_reverse, Array.length_toList] at h3
  rw [h, h3]
theorem item_tup_back {t sl : Addr} {its : Array Value} {vl vu vs : Value} {Q : Value → Shared → Prop} (ht : IsTup z.heap t its) (hs : z.heap.IsSliceOf sl vl vu vs) (pl : IsPart vl none) (pu : IsPart vu none) (ps : IsPart vs (some (-1)))
    (k : Q (.ref z.heap.objs.size) { z with heap := z.heap.push { cls := .type "tuple", data := .seq its.toList.reverse.toArray } }) (hz : its.size ≤ sizeLine) : wpAny (model P w) A (getItem (.ref t) (.ref sl)) Q E z := by
  have fits : sizeOk (.seq its.toList.reverse.toArray) := by
    show its.toList.reverse.toArray.size ≤ sizeLine
    simpa using hz
  obtain ⟨so, hso, hcs, hds⟩ := id hs
  have hT : z.TypeIs (.ref sl) "slice" := ⟨so, hso, hcs⟩
  unfold getItem
  try with_reducible refine wpAny_holding ?_
  first | refine wpAny_bind (wpAny_pure ?_) | skip
  refine wpAny_bind (wpAny_sequenceKey ht.typeIs (by decide) ?_)
  refine wpAny_bind (wpAny_callSpecial?_slot (name := Str.ofString "__getitem__") ht.typeIs PyProof.Rows.slot_tuple_getitem (wpAny_call_entry PyProof.Rows.slot_tuple_getitem ht.typeIs PyProof.Rows.entry_tuple_getitem ?_ (PyProof.Rows.args_tuple_getitem _ _)))
  show wpAny _ _ (Builtin.Tuple.tupleItemsOf (.ref t) >>= _) _ _ z
  refine wpAny_bind (tupleItemsOf_ ht ?_)
  refine wpAny_bind (wpAny_typeOf hT ?_)
  rw [if_pos (by decide)]
  have app : ∀ {A2 : Around} {E2 : Value → Shared → Prop} {Q2 : Int × Int × Nat → Shared → Prop}, Q2 ((its.size : Int) - 1, -1, its.size) z → wpAny (model P w) A2 (Builtin.Slice.sliceApplied (.ref sl) (pure (its.size : Int))) Q2 E2 z := by
    intro A2 E2 Q2 q2
    unfold Builtin.Slice.sliceApplied Builtin.Slice.sliceFields
    refine wpAny_bind (wpAny_bind (wpAny_field hso hds (x := vl) rfl (wpAny_bind (wpAny_field hso hds (x := vu) rfl (wpAny_bind (wpAny_field hso hds (x := vs) rfl (wpAny_pure ?_)))))))
    refine wpAny_bind (HT.slicePart_ ps ?_)
    show wpAny _ _ (if ((-1 : Int) == 0) = true then _ else _) _ _ z
    rw [if_neg (by decide)]
    refine wpAny_bind (HT.slicePart_ pl (wpAny_bind (HT.slicePart_ pu (wpAny_bind (wpAny_pure ?_)))))
    show wpAny _ _ (match Builtin.Slice.sliceAdjust none none (-1) (its.size : Int) with | (lo, hi) => pure (lo, (-1 : Int), Builtin.Slice.slicePlaces lo hi (-1))) _ _ z
    rw [back_bounds]
    show wpAny _ _ (pure ((its.size : Int) - 1, (-1 : Int), Builtin.Slice.slicePlaces ((its.size : Int) - 1) (-1) (-1))) _ _ z
    rw [back_places]
    exact wpAny_pure q2
  refine wpAny_bind (app ?_)
  show wpAny _ _ (if (((its.size : Int) - 1) == 0 && (-1 : Int) == 1 && its.size == its.size) = true then _ else _) _ _ z
  rw [if_neg (by simp), back_pick]
  first
    | exact wpAny_bind (m := Builtin.Tuple.tupleExact _) (wpAny_newObj_type (wpAny_pure ⟨_, rfl, wpAny_pure k⟩) fits)
    | exact wpAny_bind (m := Builtin.Tuple.tupleExact _) (wpAny_newObj_type (wpAny_bind (wpAny_pure (wpAny_pure ⟨_, rfl, wpAny_pure k⟩))) fits)
    | exact wpAny_bind (wpAny_bind (m := Builtin.Tuple.tupleExact _) (wpAny_newObj_type (wpAny_pure (wpAny_pure ⟨_, rfl, wpAny_pure k⟩)) fits))
    | exact wpAny_bind (wpAny_bind (m := Builtin.Tuple.tupleExact _) (wpAny_newObj_type (wpAny_pure ⟨_, rfl, wpAny_pure k⟩) fits))
end

def eRev (fo : FO) : FE := fun env => do
  let (o, env) ← fo env
  let d ← Rs.of (res env o)
  match d with
  | .tup ds => .ok (.im (.tup ds.reverse), env)
  | _ => .bad
section
variable {X : Cx} {g : Gs} {W : WX} {e : Expr} {fo : FO} {f : FE} {p p1 p2 p3 pos apos cpos : Pos} {k : Nat}
theorem se_rev (hK : X.K = g.K) (ha : PE X e (tO g W fo)) : PE X (.Subscript e (.Slice none none (some (.UnaryOp .USub (.Constant (.int 1) k p1) p2)) p3) pos) (tE g W (eRev fo)) := by
  refine ⟨fun pins s σ H Q I h => ?_⟩
  obtain ⟨B, G0, G, env, S, h⟩ := h
  refine Subscript_ (thn (ha.run pins s σ H (fun x H1 => ∃ t xs ds env1 G1, x = .ref t ∧ Same G G1 ∧ Stt g B G0 G1 H1 σ env1 ∧ SqN g.K G1 t xs ∧ Rvs g G1 ds xs ∧ Cont g B G0 G1 σ env1 (.im (.tup ds.reverse)) Q) I
    ⟨B, G0, G, env, S, (Fin.bind h).mono fun o env1 G1 H1 s1 q v S1 r1 => ?_⟩) fun v s1 ⟨x, H1, I1, r1, t, xs, ds, env1, G1, ex, sm, S1, hq, hr, kk⟩ => ?_)
  · obtain ⟨d, e1, q⟩ := Fin.of_bind q
    cases d with
    | tup ds =>
      have hv := S1.res r1 e1
      simp only [Vw, Rv] at hv
      obtain ⟨t, xs, rfl, h1, h2⟩ := hv
      exact ⟨t, xs, ds, env1, G1, rfl, s1, S1, h1, h2, fun v G' H' s' S' => q G' H' s' v S'⟩
    | _ => exact False.elim q
  · subst ex
    cases r1
    have hst : PO X (some (.UnaryOp .USub (.Constant (.int 1) k p1) p2)) (tPart (tUn (rU fun i => .int (-i)) (tC (.int 1)))) := po_some (pe_un un_neg pe_int)
    refine wpAny_Slice (thn (po_none.run pins s1 σ H1 (fun o H2 => o = none ∧ H2 = H1) I1 ⟨rfl, rfl⟩) fun vl s2 ⟨l, H2, I2, pl, el, e2⟩ => ?_)
    subst el e2
    refine thn (po_none.run pins s2 σ _ (fun o H3 => o = none ∧ H3 = _) I2 ⟨rfl, rfl⟩) fun vu s3 ⟨u, H3, I3, pu, eu, e3⟩ => ?_
    subst eu e3
    refine thn (hst.run pins s3 σ _ (fun o H4 => o = some (-1) ∧ H4 = _) I3 ⟨1, rfl, -1, rfl, rfl, rfl⟩) fun vs s4 ⟨o, H4, I4, ps, eo, e4⟩ => ?_
    subst eo e4
    have I5 : Inv X pins σ _ { s4 with heap := s4.heap.push { cls := .type "slice", data := .fields #[vl, vu, vs] } } := I4.kept (t' := s4.toks) fun b ob q => Heap.get?_push_of_some _ q
    obtain ⟨its, r, ht, hz⟩ := I5.tuple (by rw [hK]; exact sqT_same S1.s1 hq)
    have hlen := r.length
    show wpAny (model X.prog X.w) X.A (subscriptTail e (.Slice none none (some (.UnaryOp .USub (.Constant (.int 1) k p1) p2)) p3) (.ref t) (.ref s4.heap.objs.size)) (EP X pins σ Q) X.xe { s4 with heap := s4.heap.push { cls := .type "slice", data := .fields #[vl, vu, vs] } }
    refine tail_any (ops := [.ref t, .ref s4.heap.objs.size]) (IsTup.typeIs ht) (PyProof.Rows.slot_tuple_getitem.lookup) ?_ (by with_unfolding_all rfl)
    refine item_tup_back ht (Heap.IsSliceOf.new _ vl vu vs) pl pu ps ?_ (by rw [List.size_toArray]; omega)
    exact new_tup (s := { s4 with heap := s4.heap.push { cls := .type "slice", data := .fields #[vl, vu, vs] } }) (tk := s4.toks) I5 r.reverse (by rw [List.length_reverse]; exact hz) (kk.tup S1 (rvs_rev hr))
/-! ### pop -/
theorem se_pop {i : Nat} {x : Str} (hN : X.N[i]? = some x) (hv : Vis X.env.scope x) (hd : (x == ("__debug__" : Str)) = false) (hcd : (x == ("__classdict__" : Str)) = false) (he : PE X e (tE g W f))
    (hbase : attributeBase (.Name x p) "pop" X.env (eval (.Name x p) X.env) = eval (.Name x p) X.env)
    (hfew : ((backTo cpos (starEach [e] X.env)).all (fun x => !x.1) && (backToKw cpos (keywordEach [] X.env)).all (fun x => x.1.isSome)
      && decide ([e].length + ([] : List Keyword).length + (if ([] : List Keyword).isEmpty then 0 else 1) < 30)) = true)
    (hline : (apos.endLine == cpos.line) = true) (hs : starEach [e] X.env = (false, eval e X.env) :: starEach [] X.env) (hplain : (backTo cpos (starEach [] X.env)).any (·.1) = false) :
    PE X (.Call (.Attribute (.Name x p) "pop" apos) [e] [] cpos) (tE g W (ePop i f)) := by
  refine ⟨fun pins s σ H Q I hq => ?_⟩
  obtain ⟨B, G0, G, env, S, hq⟩ := hq
  unfold ePop at hq
  split at hq
  · rename_i ms0 e0
    obtain ⟨a, vs, ea, hH, _⟩ := S.ls e0
    refine (pe_bm PySem.F.plainAttrs_list PySem.F.slot_list_pop PySem.F.type_list_pop mt_popAt (pe_var hN hv hd hcd) (pa_cons he pa_nil hs) hbase hfew hline hs hplain).run pins s σ H Q I
      ⟨.ref a, ea, .inl ⟨rfl, vs, SqL.of hH⟩, B, G0, G, env, S, (Fin.bind hq).mono fun m env1 G1 H1 s1 q y S1 => ?_⟩
    obtain ⟨G2, s2, rv, S2⟩ := S1.frz0
    have q := Fin.more q s2
    simp only at q
    split at q
    · rename_i j ms ej e1
      rw [ej] at rv
      simp only [Rv] at rv
      subst rv
      split at q
      · rename_i ds n e2 e3
        split at q
        · rename_i d e4
          obtain ⟨a', acc, h1, h2, h3⟩ := S2.ls e1
          rw [ea] at h1; cases h1
          obtain ⟨h4, h5, h6, h7⟩ := ixN_seq e3
          obtain ⟨v1, F1, e5, rm, _⟩ := S2.at e1
          rw [ea] at e5; cases e5
          simp only [Rm] at rm
          obtain ⟨a'', acc', F', e6, g1, h8, rms, _⟩ := rm
          cases e6
          rw [h2] at h8; cases h8
          obtain ⟨rvs, _⟩ := ims_rv e2 rms
          obtain ⟨y, e7, ry⟩ := rvs.get e4
          split at q
          rotate_left
          · exact False.elim q
          rename_i hlen
          refine ⟨a, acc, j, n, y, rfl, rfl, h2, by omega, by omega, by rw [h3]; exact h4, e7, ?_⟩
          have S3 := S2.write (F := []) (F' := []) (o := .lst (acc.eraseIdx n)) (m' := .ls ((ds.eraseIdx n).map .im)) e1 ea fun F1 r nd => by
            simp only [Rm] at r
            obtain ⟨b, ws, F2, eb, gb, hb, rb, rfl⟩ := r
            cases eb
            rw [h2] at hb; cases hb
            refine ⟨F2, rfl, [], by simp, ?_⟩
            simp only [Rm]
            exact ⟨a, _, [], rfl, gb, upd_same, rms_im (rvs_erase n rvs), rfl⟩
          exact q G2 _ (Same.refl _) y (S3.cons ry)
        · exact False.elim q
      · exact False.elim q
    · exact False.elim q
  · exact False.elim hq
end
end Eng
end
section
set_option Elab.async false
set_option linter.all false
set_option maxRecDepth 100000
namespace Eng
open PySem L2
open PyProof.Rows hiding St

/-! ### list comprehensions over two walks -/
section
variable {g : Gs} {B G0 G H : Hp} {σ σ2 : St} {env : Env}
theorem Stt.front_back {v : V} {m : M} {vs : List Nat} (S : Stt g B G0 G H (some v :: σ2) (some m :: env)) (hl : σ2.length = σ.length) (k : ∀ j, j ∉ vs → σ2[j]? = σ[j]?) : Stt g B G0 G H (some v :: σ) (some m :: Eng.emp env vs) := by
  have S7 := S.emp (vs.map (· + 1))
  rw [emp_cons] at S7
  refine S7.any (σ' := some v :: σ) (by simp [hl]) fun j m' hj => ?_
  cases j with
  | zero => rfl
  | succ j =>
    simp only [List.getElem?_cons_succ] at hj ⊢
    exact (k j (emp_some hj).1).symm
theorem cmp_loop {J : It} {es : List D} {vs : List Nat} {tg : FG} {t : FT} {f : FE} {D : Addr} {ms0 : List M} {Nx : Hp → Prop} (hw : WalkD g G J es) (S : Stt g B G0 G H (some (.ref D) :: σ) (some (.ls ms0) :: env))
    (q : Fin g B G0 W0 σ G (cmpF vs tg t f es ms0 env) fun ms env' G' H' => Stt g B G0 G' H' (some (.ref D) :: σ) (some (.ls ms) :: env') → Nx H') :
    ∃ Wd : Nat → Nat → Hp → Prop, (∃ m, Wd 0 m H) ∧ ∀ j k H, Wd j k H → (J.stop j H ∧ Nx H) ∨ (J.go j H ∧ ∃ N1 : Hp → Prop, (∀ H', N1 H' → ∃ k', k' < k ∧ Wd (j + 1) k' H') ∧ ∀ x H', J.yld j H x H' →
      tG g vs tg x (wipe σ vs) H' fun σ3 H5 => wipe σ3 vs = wipe σ vs ∧ tT g W0 t σ3 H5 fun b H6 => if b = true then tE g W0 f σ3 H6 fun y H7 => ∃ acc, H7 D = some (.lst acc) ∧ acc.length < sizeLine ∧ N1 (upd H7 D (.lst (acc ++ [y]))) else N1 H6) := by
  obtain ⟨Gd, Y, w, hGd, hY⟩ := hw
  let Pv : Nat → Hp → Prop := fun i H' => ∃ G' env' ms, Same G G' ∧ Stt g B G0 G' H' (some (.ref D) :: σ) (some (.ls ms) :: env') ∧ Fin g B G0 W0 σ G' (cmpF vs tg t f (es.drop i) ms env') fun ms env' G' H' => Stt g B G0 G' H' (some (.ref D) :: σ) (some (.ls ms) :: env') → Nx H'
  refine ⟨fun i m H' => m = es.length - i ∧ i ≤ es.length ∧ Pv i H', ⟨es.length, by simp, Nat.zero_le _, G, env, ms0, Same.refl _, S, by simpa using q⟩, ?_⟩
  rintro i m H' ⟨rfl, hi, p⟩
  obtain ⟨G', env', ms, sm, S', q'⟩ := id p
  have hg := hGd H' (sm.trans S'.s1)
  by_cases hlt : i < es.length
  · refine .inr ⟨w.goes i H' hlt hg, Pv (i + 1), fun H2 p' => ⟨es.length - (i + 1), by omega, rfl, hlt, p'⟩, fun x H2 hy => ?_⟩
    obtain ⟨d, ed, hd⟩ := hY i H' x H2 (sm.trans S'.s1) hlt (w.yields i H' x H2 hlt hg hy)
    have hd' : (H2 = H' ∧ Rv g G' d x) ∨ ∃ T ob vs es, d = .tup es ∧ x = .ref T ∧ H' T = none ∧ H2 = upd H' T (.frz ob (.tup vs)) ∧ ob.dict = none ∧ Rvs g G' es vs := by
      rcases hd with ⟨e1, e2⟩ | ⟨T, ob, vs, es, e1, e2, e3, e4, e5, e6⟩
      · exact .inl ⟨e1, e2.same sm⟩
      · exact .inr ⟨T, ob, vs, es, e1, e2, e3, e4, e5, e6.same sm⟩
    rw [drop_cons ed] at q'
    simp only [cmpF] at q'
    obtain ⟨G2, sm2, S2⟩ := WalkD.take S' hd'
    obtain ⟨B', S3, back⟩ := (Stt.swap S2).aside
    have S4 : Stt g B' G2 G2 H2 (some x :: wipe σ vs) (some (.im d) :: emp env' vs) := (S3.tail.wiped vs).cons S3.head_im
    cases ht : tg d (emp env' vs) with
    | none => rw [ht] at q'; exact False.elim q'
    | some env2 =>
      rw [ht] at q'
      simp only at q'
      refine ⟨B', G2, G2, emp env' vs, d, env2, S4, ht, fun σ2 ag S5 => ⟨wipe_ag ag, B', G2, G2, env2, S5, ?_⟩⟩
      have agl : σ2.length = σ.length := by rw [ag.1, wipe_length]
      have agk : ∀ j, j ∉ vs → σ2[j]? = σ[j]? := fun j hj => by rw [ag.2 j hj, wipe_get, if_neg (fun h => hj h.1)]
      cases hb : t env2 with
      | bad => rw [hb] at q'; exact False.elim q'
      | exc c fs env3 => rw [hb] at q'; exact False.elim q'
      | ok pr =>
        obtain ⟨b, env3⟩ := pr
        rw [hb] at q'
        intro G3 H3 s3 S6
        cases b with
        | false =>
          simp only [Bool.false_eq_true, if_false] at q' ⊢
          exact ⟨G3, emp env3 vs, ms, (sm.trans sm2).trans s3, back s3 (S6.unwiped agl agk), q'.more (sm2.trans s3)⟩
        | true =>
          simp only [if_true] at q' ⊢
          refine ⟨B', G2, G3, env3, S6, ?_⟩
          cases hf : f env3 with
          | bad => rw [hf] at q'; exact False.elim q'
          | exc c fs env4 => rw [hf] at q'; exact False.elim q'
          | ok pr =>
            obtain ⟨m, env4⟩ := pr
            rw [hf] at q'
            intro G4 H4 s4 v S7
            simp only at q'
            split at q'
            · rename_i hz
              obtain ⟨a, acc, ea, ha, hl, S9⟩ := Stt.app (Stt.swap (back (s3.trans s4) (S7.front_back (vs := vs) agl agk)))
              cases ea
              exact ⟨acc, ha, by omega, G4, emp env4 vs, ms ++ [m], ((sm.trans sm2).trans s3).trans s4, S9, q'.more ((sm2.trans s3).trans s4)⟩
            · exact False.elim q'
  · have e : i = es.length := by omega
    subst e
    rw [List.drop_length] at q'
    exact .inl ⟨w.stops H' hg, q' G' H' (Same.refl _) S'⟩
def cmp2F (vs : List Nat) (tg : FG) (t : FT) (src1 : FW) (vs1 : List Nat) (tg1 : FG) (t1 : FT) (f : FE) : List D → List M → Env → Rs (List M × Env)
  | [], ms, env => .ok (ms, env)
  | d :: ds, ms, env => match tg d (emp env vs) with
    | none => .bad
    | some env => match t env with
      | .ok (false, env) => cmp2F vs tg t src1 vs1 tg1 t1 f ds ms (emp env vs)
      | .ok (true, env) => match src1 env with
        | .ok (es, env) => match cmpF vs1 tg1 t1 f es ms env with
          | .ok (ms, env) => cmp2F vs tg t src1 vs1 tg1 t1 f ds ms (emp env vs)
          | _ => .bad
        | _ => .bad
      | _ => .bad
def eCmp2 (vs : List Nat) (src : FW) (tg : FG) (t : FT) (src1 : FW) (vs1 : List Nat) (tg1 : FG) (t1 : FT) (f : FE) : FE := fun env => do
  let (ds, env) ← src env
  let (ms, env) ← cmp2F vs tg t src1 vs1 tg1 t1 f ds [] (emp env vs)
  .ok (.ls ms, env)
theorem tLc2_run {W : WX} {vs vs1 : List Nat} {src src1 : FW} {tg tg1 : FG} {t t1 : FT} {f : FE} {Q : VK} (S : Stt g B G0 G H σ env)
    (hq : Fin g B G0 W σ G (eCmp2 vs src tg t src1 vs1 tg1 t1 f env) fun m env G' H' => ∀ v, Stt g B G0 G' H' (some v :: σ) (some m :: env) → Q v H') :
    tLc2 (tI g W src) (tG g vs tg) (tT g W0 t) (tI g W0 src1) (tG g vs1 tg1) (tT g W0 t1) (tE g W0 f) vs vs1 σ H Q := by
  refine ⟨B, G0, G, env, S, (Fin.bind hq).mono fun ds env1 G1 H1 s1 q S1 J hw D hD => ?_⟩
  obtain ⟨Gd, Y, w, hGd, hY⟩ := hw
  let Pv : Nat → Hp → Prop := fun i H' => ∃ G' env' ms, Same G1 G' ∧ Stt g B G0 G' H' (some (.ref D) :: σ) (some (.ls ms) :: env') ∧ Fin g B G0 W σ G' (do
      let (ms, env) ← cmp2F vs tg t src1 vs1 tg1 t1 f (ds.drop i) ms env'
      Rs.ok (M.ls ms, env)) fun m env G' H' => ∀ v, Stt g B G0 G' H' (some v :: σ) (some m :: env) → Q v H'
  refine ⟨fun i m H' => m = ds.length - i ∧ i ≤ ds.length ∧ Pv i H', ⟨ds.length, by simp, Nat.zero_le _, G1, emp env1 vs, [], Same.refl _, Stt.list (ms := []) (vs := []) (by simpa using S1.emp vs) rfl hD, by simpa using q⟩, ?_⟩
  rintro i m H' ⟨rfl, hi, p⟩
  obtain ⟨G', env', ms, sm, S', q'⟩ := id p
  have hg := hGd H' (sm.trans S'.s1)
  by_cases hlt : i < ds.length
  · refine .inr ⟨w.goes i H' hlt hg, Pv (i + 1), fun H2 p' => ⟨ds.length - (i + 1), by omega, rfl, hlt, p'⟩, fun x H2 hy => ?_⟩
    obtain ⟨d, ed, hd⟩ := hY i H' x H2 (sm.trans S'.s1) hlt (w.yields i H' x H2 hlt hg hy)
    have hd' : (H2 = H' ∧ Rv g G' d x) ∨ ∃ T ob vs es, d = .tup es ∧ x = .ref T ∧ H' T = none ∧ H2 = upd H' T (.frz ob (.tup vs)) ∧ ob.dict = none ∧ Rvs g G' es vs := by
      rcases hd with ⟨e1, e2⟩ | ⟨T, ob, vs, es, e1, e2, e3, e4, e5, e6⟩
      · exact .inl ⟨e1, e2.same sm⟩
      · exact .inr ⟨T, ob, vs, es, e1, e2, e3, e4, e5, e6.same sm⟩
    rw [drop_cons ed] at q'
    simp only [cmp2F] at q'
    obtain ⟨G2, sm2, S2⟩ := WalkD.take S' hd'
    obtain ⟨B', S3, back⟩ := (Stt.swap S2).aside
    have S4 : Stt g B' G2 G2 H2 (some x :: wipe σ vs) (some (.im d) :: emp env' vs) := (S3.tail.wiped vs).cons S3.head_im
    cases ht : tg d (emp env' vs) with
    | none => rw [ht] at q'; exact False.elim q'
    | some env2 =>
      rw [ht] at q'
      simp only at q'
      refine ⟨B', G2, G2, emp env' vs, d, env2, S4, ht, fun σ2 ag S5 => ⟨wipe_ag ag, B', G2, G2, env2, S5, ?_⟩⟩
      have agl : σ2.length = σ.length := by rw [ag.1, wipe_length]
      have agk : ∀ j, j ∉ vs → σ2[j]? = σ[j]? := fun j hj => by rw [ag.2 j hj, wipe_get, if_neg (fun h => hj h.1)]
      cases hb : t env2 with
      | bad => rw [hb] at q'; exact False.elim q'
      | exc c fs env3 => rw [hb] at q'; exact False.elim q'
      | ok pr =>
        obtain ⟨b, env3⟩ := pr
        rw [hb] at q'
        intro G3 H3 s3 S6
        cases b with
        | false =>
          simp only [Bool.false_eq_true, if_false] at q' ⊢
          exact ⟨G3, emp env3 vs, ms, (sm.trans sm2).trans s3, back s3 (S6.unwiped agl agk), q'.more (sm2.trans s3)⟩
        | true =>
          simp only [if_true] at q' ⊢
          refine ⟨B', G2, G3, env3, S6, ?_⟩
          cases hf : src1 env3 with
          | bad => rw [hf] at q'; exact False.elim q'
          | exc c fs env4 => rw [hf] at q'; exact False.elim q'
          | ok pr =>
            obtain ⟨es, env4⟩ := pr
            rw [hf] at q'
            intro G4 H4 s4 S7 J1 hw1
            have S8 := back (s3.trans s4) S7
            refine cmp_loop hw1 S8 ?_
            simp only at q'
            cases hc : cmpF vs1 tg1 t1 f es ms env4 with
            | bad => rw [hc] at q'; exact False.elim q'
            | exc c fs env5 => rw [hc] at q'; exact False.elim q'
            | ok pr =>
              obtain ⟨ms2, env5⟩ := pr
              rw [hc] at q'
              intro G5 H5 s5 S9
              exact ⟨G5, emp env5 vs, ms2, (((sm.trans sm2).trans s3).trans s4).trans s5, S9.front_back agl agk, q'.more (((sm2.trans s3).trans s4).trans s5)⟩
  · have e : i = ds.length := by omega
    subst e
    rw [List.drop_length] at q'
    exact .inl ⟨w.stops H' hg, q' G' H' (Same.refl _) (.ref D) S'⟩
end
section
variable {X : Cx} {g : Gs} {W : WX} {pos : Pos}
theorem se_cmp2 {elt tg iter tg1 iter1 : Expr} {ifs ifs1 : List Expr} {scope : Scope} {own : List (Str × Nat)} {vs1 : List Nat} {src src1 : FW} {fg fg1 : FG} {t t1 : FT} {f : FE} (hc : X.calm = true) (hN : X.N.Nodup) (hi : PI X tg iter (tI g W src)) (ok : BlkOk X.N X.env.scope scope own) (hv : ∀ i ∈ vs1, i ∈ own.map (·.2))
    (hg : ∀ (s : Shared) (H : Hp) (C : Addr) (cl : List (Str × Addr)) (fp : List Addr), PG (X.blk s H scope (compEnvC scope cl C X.env) fp) tg (tG g (own.map (·.2)) fg))
    (ht : ∀ (s : Shared) (H : Hp) (C : Addr) (cl : List (Str × Addr)) (fp : List Addr), PTs (X.blk s H scope (compEnvC scope cl C X.env) fp) ifs (tT g W0 t))
    (hi1 : ∀ (s : Shared) (H : Hp) (C : Addr) (cl : List (Str × Addr)) (fp : List Addr), PI (X.blk s H scope (compEnvC scope cl C X.env) fp) tg1 iter1 (tI g W0 src1))
    (hg1 : ∀ (s : Shared) (H : Hp) (C : Addr) (cl : List (Str × Addr)) (fp : List Addr), PG (X.blk s H scope (compEnvC scope cl C X.env) fp) tg1 (tG g vs1 fg1))
    (ht1 : ∀ (s : Shared) (H : Hp) (C : Addr) (cl : List (Str × Addr)) (fp : List Addr), PTs (X.blk s H scope (compEnvC scope cl C X.env) fp) ifs1 (tT g W0 t1))
    (he : ∀ (s : Shared) (H : Hp) (C : Addr) (cl : List (Str × Addr)) (fp : List Addr), PE (X.blk s H scope (compEnvC scope cl C X.env) fp) elt (tE g W0 f)) (hs : ∀ x, foldedSetIterable iter X.env x = pure x) (hs1 : ∀ env x, foldedSetIterable iter1 env x = pure x) :
    PE X (.ListComp elt [⟨tg, iter, ifs, 0⟩, ⟨tg1, iter1, ifs1, 0⟩] scope pos) (tE g W (eCmp2 (own.map (·.2)) src fg t src1 vs1 fg1 t1 f)) := by
  refine ⟨fun pins s σ H Q I hq => ?_⟩
  obtain ⟨B, G0, G, env, S, hq⟩ := hq
  exact (pe_lc2 hc hN hi ok hv hg ht hi1 hg1 ht1 he hs hs1).run pins s σ H Q I (tLc2_run S hq)
theorem ss_setCmp2 {mp : List Nat} {i : Nat} {y : Str} {py spos : Pos} {elt tg iter tg1 iter1 : Expr} {ifs ifs1 : List Expr} {scope : Scope} {own : List (Str × Nat)} {vs1 : List Nat} {src src1 : FW} {fg fg1 : FG} {t t1 : FT} {f : FE} (hc : X.calm = true) (hN : X.N.Nodup) (hy : X.N[i]? = some y) (hyl : X.env.scope.names.lookup y = some .local)
    (hsw : swapsWith (.ListComp elt [⟨tg, iter, ifs, 0⟩, ⟨tg1, iter1, ifs1, 0⟩] scope pos) (some (.Name y py)) spos.line X.env = pure true) (hi : PI X tg iter (tI g W src)) (ok : BlkOk X.N X.env.scope scope own) (hv : ∀ i ∈ vs1, i ∈ own.map (·.2))
    (hg : ∀ (s : Shared) (H : Hp) (C : Addr) (cl : List (Str × Addr)) (fp : List Addr), PG (X.blk s H scope (compEnvC scope cl C X.env) fp) tg (tG g (own.map (·.2)) fg))
    (ht : ∀ (s : Shared) (H : Hp) (C : Addr) (cl : List (Str × Addr)) (fp : List Addr), PTs (X.blk s H scope (compEnvC scope cl C X.env) fp) ifs (tT g W0 t))
    (hi1 : ∀ (s : Shared) (H : Hp) (C : Addr) (cl : List (Str × Addr)) (fp : List Addr), PI (X.blk s H scope (compEnvC scope cl C X.env) fp) tg1 iter1 (tI g W0 src1))
    (hg1 : ∀ (s : Shared) (H : Hp) (C : Addr) (cl : List (Str × Addr)) (fp : List Addr), PG (X.blk s H scope (compEnvC scope cl C X.env) fp) tg1 (tG g vs1 fg1))
    (ht1 : ∀ (s : Shared) (H : Hp) (C : Addr) (cl : List (Str × Addr)) (fp : List Addr), PTs (X.blk s H scope (compEnvC scope cl C X.env) fp) ifs1 (tT g W0 t1))
    (he : ∀ (s : Shared) (H : Hp) (C : Addr) (cl : List (Str × Addr)) (fp : List Addr), PE (X.blk s H scope (compEnvC scope cl C X.env) fp) elt (tE g W0 f)) (hs : ∀ x, foldedSetIterable iter X.env x = pure x) (hs1 : ∀ env x, foldedSetIterable iter1 env x = pure x) :
    PS X (.Assign [.Name y py] (.ListComp elt [⟨tg, iter, ifs, 0⟩, ⟨tg1, iter1, ifs1, 0⟩] scope pos) spos) (tS g W mp (sSet mp i (eCmp2 (own.map (·.2)) src fg t src1 vs1 fg1 t1 f))) := by
  refine ⟨fun pins s σ H D I h => ?_⟩
  obtain ⟨B, G0, G, env, S, h⟩ := h
  refine (ps_setLc2 hc hN hy hyl hsw hi ok hv hg ht hi1 hg1 ht1 he hs hs1).run pins s σ H D I (tLc2_run S ((FinS.bind h).mono fun m env1 G1 H1 s1 q v S1 => ?_))
  simp only at q
  split at q
  · exact False.elim q
  · rename_i hh
    exact q (σ.set i (some v)) G1 H1 (Same.refl _) (Kp.set fun h => hh (.inl h)) (S1.put i (by omega))
end
end Eng
end
section
set_option Elab.async false
set_option linter.all false
set_option maxRecDepth 100000
namespace Eng
open PySem L2
open PyProof.Rows hiding St

/-! ### a list within a slot's list -/
section
variable {g : Gs} {B G0 G H : Hp} {σ : St} {env : Env}
theorem Rms.nest {ks : List M} {ds : List D} : ∀ {ms : List M} {vs : List V} {F : List Addr} {c : Nat}, Rms g G H ms vs F → ms[c]? = some (.ls ks) → ims ks = some ds → F.Nodup →
    ∃ b ws, vs[c]? = some (.ref b) ∧ b ∈ F ∧ G b = none ∧ H b = some (.lst ws) ∧ Rvs g G ds ws ∧ ∀ ds' ws', Rvs g G ds' ws' → Rms g G (upd H b (.lst ws')) (ms.set c (.ls (ds'.map .im))) vs F
  | [], vs, F, c, _, e, _, _ => by simp at e
  | m :: ms, vs, F, 0, h, e, ei, nd => by
    simp only [List.getElem?_cons_zero, Option.some.injEq] at e
    subst e
    simp only [Rms] at h
    obtain ⟨v, r, F1, F2, rfl, h1, h2, rfl⟩ := h
    simp only [Rm] at h1
    obtain ⟨b, ws, F3, rfl, h3, h4, h5, rfl⟩ := h1
    obtain ⟨h6, rfl⟩ := ims_rv ei h5
    refine ⟨b, ws, rfl, by simp, h3, h4, h6, fun ds' ws' hr => ?_⟩
    simp only [List.set_cons_zero, Rms, Rm]
    refine ⟨_, r, [b], F2, rfl, ⟨b, ws', [], rfl, h3, upd_same, rms_im hr, rfl⟩, h2.kept ⟨Same.refl _, fun _ _ h => h, fun a ha => upd_ne fun e => ?_⟩, rfl⟩
    subst e
    exact (List.nodup_cons.mp nd).1 (by simpa using ha)
  | m :: ms, vs, F, c + 1, h, e, ei, nd => by
    simp only [Rms] at h
    obtain ⟨v, r, F1, F2, rfl, h1, h2, rfl⟩ := h
    obtain ⟨b, ws, q1, q2, q3, q4, q5, q6⟩ := h2.nest (c := c) (by simpa using e) ei (List.nodup_append.mp nd).2.1
    refine ⟨b, ws, by simpa using q1, by simp [q2], q3, q4, q5, fun ds' ws' hr => ?_⟩
    simp only [List.set_cons_succ, Rms]
    refine ⟨v, r, F1, F2, rfl, h1.kept ⟨Same.refl _, fun _ _ h => h, fun a ha => upd_ne fun e => ?_⟩, q6 ds' ws' hr, rfl⟩
    subst e
    exact (List.nodup_append.mp nd).2.2 a ha a q2 rfl
def nestD (i c : Nat) (env : Env) : Option (List M × List D) := match env[i]? with
  | some (some (M.ls ms)) => match ms[c]? with
    | some (M.ls ks) => (ims ks).map (ms, ·)
    | _ => none
  | _ => none
def nestP (i c : Nat) (ms : List M) (ds : List D) (env : Env) : Env := env.set i (some (.ls (ms.set c (.ls (ds.map .im)))))
theorem Stt.nest {i c : Nat} {ms : List M} {ds : List D} (S : Stt g B G0 G H σ env) (e : nestD i c env = some (ms, ds)) :
    ∃ a vs b ws, σ[i]? = some (some (.ref a)) ∧ H a = some (.lst vs) ∧ vs[c]? = some (.ref b) ∧ H b = some (.lst ws) ∧ Rvs g G ds ws ∧ vs.length = ms.length ∧
      ∀ ds' ws', Rvs g G ds' ws' → Stt g B G0 G (upd H b (.lst ws')) σ (nestP i c ms ds' env) := by
  unfold nestD at e
  split at e
  · rename_i ms0 e1
    split at e
    · rename_i ks e2
      simp only [Option.map_eq_some_iff, Prod.mk.injEq] at e
      obtain ⟨ds0, e3, rfl, rfl⟩ := e
      obtain ⟨v, F1, e4, r, nd, _, k⟩ := S.at e1
      simp only [Rm] at r
      obtain ⟨a, vs, F', rfl, g1, h1, h2, rfl⟩ := r
      obtain ⟨ha, nd'⟩ := List.nodup_cons.mp nd
      obtain ⟨b, ws, q1, q2, q3, q4, q5, q6⟩ := h2.nest e2 e3 nd'
      refine ⟨a, vs, b, ws, e4, h1, q1, q4, q5, h2.len, fun ds' ws' hr => ?_⟩
      have nab : a ≠ b := fun z => ha (by rw [z]; exact q2)
      have := k G (upd H b (.lst ws')) (.ls (ms0.set c (.ls (ds'.map .im)))) (.ref a) (a :: F') (Same.refl _) (same_upd S.s1 q3) (fun x hx _ => upd_ne fun z => hx (by rw [z]; simp [q2])) (fun x hx => .inl hx)
        (by simp only [Rm]; exact ⟨a, vs, F', rfl, g1, by rw [upd_ne nab]; exact h1, q6 ds' ws' hr, rfl⟩) nd (fun x hx => .inl hx)
      rw [set_eq e4] at this
      exact this
    · cases e
  · cases e
end
section
variable {X : Cx} {g : Gs} {W : WX} {e ei : Expr} {fo go : FO} {f : FE} {p p1 p2 p3 pos apos cpos spos : Pos} {x : Str} {i c kx : Nat}
theorem ixN_nat {n j : Nat} (h : j < n) : ixN n (j : Int) = some j := by
  unfold ixN
  rw [if_pos (by omega), if_pos (by omega)]
  simp
/-- xs[c], c a number as it is written -/
def tSub (i c : Nat) : TE := fun σ H Q => ∃ a vs v, σ[i]? = some (some (.ref a)) ∧ H a = some (.lst vs) ∧ vs[c]? = some v ∧ Q v H
theorem pe_sub (hN : X.N[i]? = some x) (hv : Vis X.env.scope x) (hd : (x == ("__debug__" : Str)) = false) (hcd : (x == ("__classdict__" : Str)) = false) (hs : PlainIx (.Constant (.int c) kx p1)) :
    PE X (.Subscript (.Name x p) (.Constant (.int c) kx p1) p2) (tSub i c) := by
  refine ⟨fun pins s σ H Q I h => ?_⟩
  obtain ⟨a, vs, v, h1, h2, h3, q⟩ := h
  refine (pe_ix ix_list (pe_var hN hv hd hcd) pe_int hs).run pins s σ H Q I ⟨.ref a, h1, a, vs, (c : Int), v, rfl, rfl, SqL.of h2, ?_, q⟩
  have hlt := (List.getElem?_eq_some_iff.mp h3).1
  show (ixN vs.length (c : Int)).bind _ = some v
  rw [ixN_nat hlt]
  exact h3
theorem rvs_set {G : Hp} {d : D} {v : V} : ∀ {ds : List D} {vs : List V} (j : Nat), Rvs g G ds vs → Rv g G d v → Rvs g G (ds.set j d) (vs.set j v)
  | [], vs, j, h, _ => by simp only [Rvs] at h; subst h; simp [Rvs]
  | _ :: ds, vs, 0, h, hd => by
    simp only [Rvs] at h
    obtain ⟨u, r, rfl, h1, h2⟩ := h
    simp only [List.set_cons_zero, Rvs]
    exact ⟨v, r, rfl, hd, h2⟩
  | _ :: ds, vs, j + 1, h, hd => by
    simp only [Rvs] at h
    obtain ⟨u, r, rfl, h1, h2⟩ := h
    simp only [List.set_cons_succ, Rvs]
    exact ⟨u, _, rfl, h1, rvs_set j h2 hd⟩
/-- xs[c], a value that is never changed -/
def eAt (i c : Nat) : FE := fun env => match env[i]? with
  | some (some (M.ls ms)) => match ms[c]? with
    | some (M.im d) => .ok (.im d, env)
    | _ => .bad
  | _ => .bad
theorem Rms.getIm {G H : Hp} {d : D} : ∀ {ms : List M} {vs : List V} {F : List Addr} {c : Nat}, Rms g G H ms vs F → ms[c]? = some (.im d) → ∃ v, vs[c]? = some v ∧ Rv g G d v
  | [], _, _, _, _, e => by simp at e
  | m :: ms, vs, F, 0, h, e => by
    simp only [List.getElem?_cons_zero, Option.some.injEq] at e
    subst e
    simp only [Rms, Rm] at h
    obtain ⟨v, r, F1, F2, rfl, h1, h2, rfl⟩ := h
    exact ⟨v, rfl, h1.1⟩
  | m :: ms, vs, F, c + 1, h, e => by
    simp only [Rms] at h
    obtain ⟨v, r, F1, F2, rfl, h1, h2, rfl⟩ := h
    obtain ⟨u, h3, h4⟩ := h2.getIm (c := c) (by simpa using e)
    exact ⟨u, by simpa using h3, h4⟩
theorem se_at (hN : X.N[i]? = some x) (hv : Vis X.env.scope x) (hd : (x == ("__debug__" : Str)) = false) (hcd : (x == ("__classdict__" : Str)) = false) (hs : PlainIx (.Constant (.int c) kx p1)) :
    PE X (.Subscript (.Name x p) (.Constant (.int c) kx p1) p2) (tE g W (eAt i c)) := by
  refine ⟨fun pins s σ H Q I h => ?_⟩
  obtain ⟨B, G0, G, env, S, h⟩ := h
  unfold eAt at h
  split at h
  · rename_i ms e1
    split at h
    · rename_i d e2
      obtain ⟨v, F1, e4, r, nd, _⟩ := S.at e1
      simp only [Rm] at r
      obtain ⟨a, vs, F', rfl, g1, h1, h2, rfl⟩ := r
      obtain ⟨u, e3, rv⟩ := h2.getIm e2
      exact (pe_sub hN hv hd hcd hs).run pins s σ H Q I ⟨a, vs, u, e4, h1, e3, h G H (Same.refl _) u (S.cons rv)⟩
    · exact False.elim h
  · exact False.elim h
/-- the truth of xs[c], a list -/
def tTruN (i c : Nat) : FT := fun env => do
  let p ← Rs.of (nestD i c env)
  let b ← Rs.of (truD (.lst p.2))
  .ok (b, env)
theorem st_truN (hK : X.K = g.K) (hN : X.N[i]? = some x) (hv : Vis X.env.scope x) (hd : (x == ("__debug__" : Str)) = false) (hcd : (x == ("__classdict__" : Str)) = false) (hs : PlainIx (.Constant (.int c) kx p1))
    (he : ∀ whole, isTrue (.Subscript (.Name x p) (.Constant (.int c) kx p1) p2) X.env whole = (do let v ← whole; standAt (Expr.Subscript (.Name x p) (.Constant (.int c) kx p1) p2).pos; holding [v] (truthy v))) :
    PT X (.Subscript (.Name x p) (.Constant (.int c) kx p1) p2) (tT g W (tTruN i c)) := by
  refine ⟨fun pins s σ H Q I h => ?_⟩
  obtain ⟨B, G0, G, env, S, h⟩ := h
  obtain ⟨⟨ms, ds⟩, e1, h⟩ := Fin.of_bind h
  obtain ⟨a, vs, b, ws, q1, q2, q3, q4, q5, _, _⟩ := S.nest e1
  refine (pt_truth (pe_sub hN hv hd hcd hs) he).run pins s σ H Q I ⟨a, vs, .ref b, q1, q2, q3, ?_⟩
  obtain ⟨t, e2, h⟩ := Fin.of_bind h
  exact ⟨t, tru_v hK S.s1 (show Vw g G H (.lst ds) (.ref b) from ⟨b, ws, rfl, q4, q5⟩) e2, h G H (Same.refl _) S⟩
/-- xs[c][j] -/
def eAt2 (i c j : Nat) : FE := fun env => do
  let p ← Rs.of (nestD i c env)
  let d ← Rs.of p.2[j]?
  .ok (.im d, env)
theorem se_at2 {j ky : Nat} (hN : X.N[i]? = some x) (hv : Vis X.env.scope x) (hd : (x == ("__debug__" : Str)) = false) (hcd : (x == ("__classdict__" : Str)) = false) (hs : PlainIx (.Constant (.int c) kx p1)) (hs2 : PlainIx (.Constant (.int j) ky p3)) :
    PE X (.Subscript (.Subscript (.Name x p) (.Constant (.int c) kx p1) p2) (.Constant (.int j) ky p3) pos) (tE g W (eAt2 i c j)) := by
  refine ⟨fun pins s σ H Q I h => ?_⟩
  obtain ⟨B, G0, G, env, S, h⟩ := h
  obtain ⟨⟨ms, ds⟩, e1, h⟩ := Fin.of_bind h
  obtain ⟨d, e2, h⟩ := Fin.of_bind h
  obtain ⟨a, vs, b, ws, q1, q2, q3, q4, q5, _, _⟩ := S.nest e1
  obtain ⟨y, e3, ry⟩ := q5.get e2
  refine (pe_ix ix_list (pe_sub hN hv hd hcd hs) pe_int hs2).run pins s σ H Q I ⟨a, vs, .ref b, q1, q2, q3, b, ws, (j : Int), y, rfl, rfl, SqL.of q4, ?_, h G H (Same.refl _) y (S.cons ry)⟩
  have hlt := (List.getElem?_eq_some_iff.mp e3).1
  show (ixN ws.length (j : Int)).bind _ = some y
  rw [ixN_nat hlt]
  exact e3
/-- xs[c].append(y), y a name -/
def eAppN (i c j : Nat) : FE := fun env => do
  let p ← Rs.of (nestD i c env)
  match env[j]? with
  | some (some (M.im d)) => if p.2.length < 1000000 then .ok (.im .non, nestP i c p.1 (p.2 ++ [d]) env) else .bad
  | _ => .bad
theorem sizeLine_big : 1000000 < sizeLine := by rw [sizeLine_eq]; decide
theorem se_appN {j : Nat} {y : Str} {py : Pos} (hN : X.N[i]? = some x) (hv : Vis X.env.scope x) (hd : (x == ("__debug__" : Str)) = false) (hcd : (x == ("__classdict__" : Str)) = false) (hix : PlainIx (.Constant (.int c) kx p1)) (hNy : X.N[j]? = some y) (hvy : Vis X.env.scope y) (hdy : (y == ("__debug__" : Str)) = false) (hcdy : (y == ("__classdict__" : Str)) = false)
    (hbase : attributeBase (.Subscript (.Name x p) (.Constant (.int c) kx p1) p2) "append" X.env (eval (.Subscript (.Name x p) (.Constant (.int c) kx p1) p2) X.env) = eval (.Subscript (.Name x p) (.Constant (.int c) kx p1) p2) X.env)
    (hfew : ((backTo cpos (starEach [.Name y py] X.env)).all (fun x => !x.1) && (backToKw cpos (keywordEach [] X.env)).all (fun x => x.1.isSome)
      && decide ([Expr.Name y py].length + ([] : List Keyword).length + (if ([] : List Keyword).isEmpty then 0 else 1) < 30)) = true)
    (hline : (apos.endLine == cpos.line) = true) (hs : starEach [.Name y py] X.env = (false, eval (.Name y py) X.env) :: starEach [] X.env) (hplain : (backTo cpos (starEach [] X.env)).any (·.1) = false) :
    PE X (.Call (.Attribute (.Subscript (.Name x p) (.Constant (.int c) kx p1) p2) "append" apos) [.Name y py] [] cpos) (tE g W (eAppN i c j)) := by
  refine ⟨fun pins s σ H Q I hq => ?_⟩
  obtain ⟨B, G0, G, env, S, hq⟩ := hq
  obtain ⟨⟨ms, ds⟩, e0, hq⟩ := Fin.of_bind hq
  obtain ⟨a, vs, b, ws, q1, q2, q3, q4, q5, _, q6⟩ := S.nest e0
  simp only at hq
  split at hq
  · rename_i d e1
    split at hq
    · rename_i hz
      obtain ⟨v, F1, e2, r, _⟩ := S.at e1
      simp only [Rm] at r
      have hl : ws.length < sizeLine := by rw [q5.length]; exact Nat.lt_trans hz sizeLine_big
      have S2 := q6 (ds ++ [d]) (ws ++ [v]) (Rvs.append q5 (by simp only [Rvs]; exact ⟨v, [], rfl, r.1, rfl⟩))
      exact (pe_bm PySem.F.plainAttrs_list PySem.F.slot_list_append PySem.F.type_list_append mt_append (pe_sub hN hv hd hcd hix) (pa_cons (pe_var hNy hvy hdy hcdy) pa_nil hs) hbase hfew hline hs hplain).run pins s σ H Q I
        ⟨a, vs, .ref b, q1, q2, q3, .inl ⟨rfl, ws, SqL.of q4⟩, v, e2, b, ws, v, rfl, rfl, q4, hl, hq G _ (Same.refl _) .non (S2.cons (by simp [Rv]))⟩
    · exact False.elim hq
  · exact False.elim hq
/-- xs[c].pop(0) -/
def ePopN (i c : Nat) : FE := fun env => do
  let p ← Rs.of (nestD i c env)
  match p.2 with
  | d :: ds => if p.2.length < 1000000 then .ok (.im d, nestP i c p.1 ds env) else .bad
  | [] => .bad
theorem se_popN {kz : Nat} {pz : Pos} (hN : X.N[i]? = some x) (hv : Vis X.env.scope x) (hd : (x == ("__debug__" : Str)) = false) (hcd : (x == ("__classdict__" : Str)) = false) (hix : PlainIx (.Constant (.int c) kx p1))
    (hbase : attributeBase (.Subscript (.Name x p) (.Constant (.int c) kx p1) p2) "pop" X.env (eval (.Subscript (.Name x p) (.Constant (.int c) kx p1) p2) X.env) = eval (.Subscript (.Name x p) (.Constant (.int c) kx p1) p2) X.env)
    (hfew : ((backTo cpos (starEach [.Constant (.int 0) kz pz] X.env)).all (fun x => !x.1) && (backToKw cpos (keywordEach [] X.env)).all (fun x => x.1.isSome)
      && decide ([Expr.Constant (.int 0) kz pz].length + ([] : List Keyword).length + (if ([] : List Keyword).isEmpty then 0 else 1) < 30)) = true)
    (hline : (apos.endLine == cpos.line) = true) (hs : starEach [.Constant (.int 0) kz pz] X.env = (false, eval (.Constant (.int 0) kz pz) X.env) :: starEach [] X.env) (hplain : (backTo cpos (starEach [] X.env)).any (·.1) = false) :
    PE X (.Call (.Attribute (.Subscript (.Name x p) (.Constant (.int c) kx p1) p2) "pop" apos) [.Constant (.int 0) kz pz] [] cpos) (tE g W (ePopN i c)) := by
  refine ⟨fun pins s σ H Q I hq => ?_⟩
  obtain ⟨B, G0, G, env, S, hq⟩ := hq
  obtain ⟨⟨ms, ds⟩, e0, hq⟩ := Fin.of_bind hq
  obtain ⟨a, vs, b, ws, q1, q2, q3, q4, q5, _, q6⟩ := S.nest e0
  simp only at hq
  split at hq
  · rename_i _ d ds'
    split at hq
    · rename_i hz
      simp only [Rvs] at q5
      obtain ⟨v, r, rfl, h1, h2⟩ := q5
      have S2 := q6 ds' r h2
      exact (pe_bm PySem.F.plainAttrs_list PySem.F.slot_list_pop PySem.F.type_list_pop mt_popAt (pe_sub hN hv hd hcd hix) (pa_cons pe_int pa_nil hs) hbase hfew hline hs hplain).run pins s σ H Q I
        ⟨a, vs, .ref b, q1, q2, q3, .inl ⟨rfl, _, SqL.of q4⟩, b, v :: r, 0, 0, v, rfl, rfl, q4, by decide, by decide, by simp [seqIndex?], rfl, hq G _ (Same.refl _) v (S2.cons h1)⟩
    · exact False.elim hq
  · exact False.elim hq
/-- xs[c][j] = e -/
def sPutN (i c j : Nat) (f : FE) : FS := fun env => do
  let (m, env) ← f env
  let p ← Rs.of (nestD i c env)
  if j < p.2.length then .ok (.nx, nestP i c p.1 (p.2.set j (frz m)) env) else .bad
theorem ss_putN {j ky : Nat} {mp : List Nat} (hN : X.N[i]? = some x) (hv : Vis X.env.scope x) (hd : (x == ("__debug__" : Str)) = false) (hcd : (x == ("__classdict__" : Str)) = false) (hix : PlainIx (.Constant (.int c) kx p1)) (he : PE X e (tE g W f))
    (ha : ∀ v, assign (.Subscript (.Subscript (.Name x p) (.Constant (.int c) kx p1) p2) (.Constant (.int j) ky p3) pos) X.env v = (do
      let ov ← holding [v] (eval (.Subscript (.Name x p) (.Constant (.int c) kx p1) p2) X.env)
      let iv ← holding [v, ov] (eval (.Constant (.int j) ky p3) X.env)
      standAt pos
      holding [v, ov, iv] (setItem ov iv v)
      release [v, ov, iv] []))
    (hs : swapsWithSole [.Subscript (.Subscript (.Name x p) (.Constant (.int c) kx p1) p2) (.Constant (.int j) ky p3) pos] e spos.line X.env = pure false) (hw : swappedStores [.Subscript (.Subscript (.Name x p) (.Constant (.int c) kx p1) p2) (.Constant (.int j) ky p3) pos] e X.env = pure none)
    (h1 : (assignEach [.Subscript (.Subscript (.Name x p) (.Constant (.int c) kx p1) p2) (.Constant (.int j) ky p3) pos] X.env).map (·.2) = [assign (.Subscript (.Subscript (.Name x p) (.Constant (.int c) kx p1) p2) (.Constant (.int j) ky p3) pos) X.env]) :
    PS X (.Assign [.Subscript (.Subscript (.Name x p) (.Constant (.int c) kx p1) p2) (.Constant (.int j) ky p3) pos] e spos) (tS g W mp (sPutN i c j f)) := by
  refine ⟨fun pins s σ H D I h => ?_⟩
  obtain ⟨B, G0, G, env, S, h⟩ := h
  refine (ps_asg he (pg_sub (pe_sub hN hv hd hcd hix) pe_int set_list ha) hs hw h1).run pins s σ H D I ⟨B, G0, G, env, S, (FinS.bind h).mono fun m env1 G1 H1 s1 q v S1 => ?_⟩
  obtain ⟨G2, s2, rv, S2⟩ := S1.frz0
  have q := FinS.more q s2 Kp.refl
  obtain ⟨⟨ms, ds⟩, e0, q⟩ := FinS.of_bind q
  obtain ⟨a, vs, b, ws, q1, q2, q3, q4, q5, _, q6⟩ := S2.nest e0
  simp only at q
  split at q
  · rename_i hj
    have S3 := q6 (ds.set j (frz m)) (ws.set j v) (rvs_set j q5 rv)
    exact ⟨a, vs, .ref b, q1, q2, q3, b, ws, (j : Int), j, rfl, rfl, q4, ixN_nat (by rw [q5.length]; exact hj), q.nx S3⟩
  · exact False.elim q
end
end Eng
end
section
set_option Elab.async false
set_option linter.all false
set_option maxRecDepth 100000
namespace Eng
open PySem L2
open PyProof.Rows hiding St

/-! ### f(y=e), the one parameter by its name -/
section
variable {X : Cx} {g : Gs} {W : WX} {k kk : Nat} {f : Addr} {fd : FuncData} {mp : List Nat} {mir : Mir} {x y : Str} {p pos kpos : Pos} {e : Expr} {ka : FA} {fo : FO}
theorem se_callKw (F : Fn X.prog X.w X.mg X.base g k f fd [y] mp mir) (hK : X.K = g.K) (hr : RG kk X.A) (hle : k ≤ kk) (hc : X.calm = true) (tk : Takes X W) (hg : Gl X x) (hm : X.mg x = some (.ref f)) (hk : PySem.W.keepIn X.K (.ref f) = true)
    (hb : ∀ (s : Shared) (u : Value), BindsTo s fd ⟨[], [(y, u)]⟩ [(y, u)]) (he : PE X e (tO g W fo)) (hdb : (x == ("__debug__" : Str)) = false)
    (hall : (backToKw pos (keywordEach [⟨some y, e, kpos⟩] X.env)).all (·.1.isSome) = true) (hks : (backToKw pos (keywordEach [⟨some y, e, kpos⟩] X.env)).filterMap (·.1) = [y])
    (hpl : ((backTo pos (starEach [] X.env)).any (·.1) || (backToKw pos (keywordEach [⟨some y, e, kpos⟩] X.env)).any (·.1.isNone)) = false) :
    PE X (.Call (.Name x p) [] [⟨some y, e, kpos⟩] pos) (tE g W (eCallN 1 mp mir (aCons fo aNil))) := by
  refine ⟨fun pins s σ H Q I h => ?_⟩
  obtain ⟨B, G0, G, env, S, h⟩ := h
  refine wpAny_Call_Name_kw (ld_glob I hg hm ?_ hdb)
  refine PySem.W.callWith_KW0 (h₀ := X.base) I.ok.mod.kin hk hall (thn ((pk_cons he pk_nil).run pos pins s σ H (fun vs H1 => ∃ G1 env1 os, Stt g B G0 G1 H1 σ env1 ∧ ROs g G1 σ os vs ∧ os.length = 1 ∧ Fin g B G0 W σ G1 (do
      let (ms, env) ← Rs.of (takeArgs mp 0 os env1)
      let sl ← Rs.of (slotsOf os mp)
      match mir ms with
      | .bad => .bad
      | .exc c fs _ => .exc c fs env
      | .ok (m, outs) => do
        let env ← Rs.of (putAll sl outs env)
        .ok (m, env)) fun m env G' H' => ∀ v, Stt g B G0 G' H' (some v :: σ) (some m :: env) → Q v H') I
      ⟨B, G0, G, env, S, ?_⟩) fun us s1 ⟨vs, H1, I1, r, G1, env1, os, S1, ro, hn, q⟩ => ⟨I1.kIn, ?_⟩) hpl
  · have h2 : Fin g B G0 W σ G (fo env >>= fun p => eCallN 1 mp mir (fun env => .ok ([p.1], env)) p.2) fun m env G' H' => ∀ v, Stt g B G0 G' H' (some v :: σ) (some m :: env) → Q v H' := by
      have e : (fo env >>= fun p => eCallN 1 mp mir (fun env => .ok ([p.1], env)) p.2) = eCallN 1 mp mir (aCons fo aNil) env := by
        unfold eCallN aCons aNil
        cases fo env <;> rfl
      rw [e]; exact h
    refine (Fin.bind h2).mono fun o env1 G1 H1 s1 q v S1 r1 => ?_
    have q2 := Fin.bind q G1 H1 (Same.refl _)
    simp only [List.length_cons, List.length_nil, if_pos] at q2
    exact ⟨G1, env1, [o], S1, ⟨v, [], rfl, r1, rfl⟩, rfl, q2⟩
  · have hl : vs.length = 1 := (ros_len ro).trans hn
    obtain ⟨v, rfl⟩ : ∃ v, vs = [v] := by
      match vs, hl with
      | [v], _ => exact ⟨v, rfl⟩
    obtain ⟨u, rfl, ru⟩ : ∃ u, us = [u] ∧ L2.RelV v u := by
      cases r with
      | cons r1 r2 => cases r2; exact ⟨_, rfl, r1⟩
    rw [hks]
    refine wpAny_call (codeAny_mono (call_run (us := [u]) F hK (hr.mono hle) (I1.ok.hd hc) tk I1 (hb s1 u) (.cons ru .nil) rfl S1 ro q) fun r' s' hq => ?_)
    have := end_call tk I1 hq
    cases r' with
    | error e => exact this
    | ok fl => cases fl <;> exact this
end

/-! ### the law -/
theorem law_run {P : Program} {w : World} {g : Gs} {mg mb : Str → Option Value} {k : Nat} {fa a : Addr} {fd : FuncData} {x : Str} {mir : Mir} {z : Shared} {us : List Value} {ns : List Int}
    (kin : g.K.In z.heap) (hns : z.heap.Ns mainGlobals mg) (hbn : z.heap.Ns builtinsNs mb) (hbb : ∀ x : Str, x ≠ "__name__" → mb x = bootBuiltins x) (hlim : z.heap.NoLimit) (hgn : z.gens = #[])
    (ha : z.heap.get? a = some { cls := .type "list", data := .seq us.toArray }) (hi : IntsAre us ns) (hl : ns.length ≤ sizeLine) (hr : RG k callerA)
    (F : ∀ base : Heap, g.K.In base → base.Ns mainGlobals mg → Fn P w mg base g k fa fd [x] [] mir) (hb : ∀ (s : Shared) (u : Value), BindsTo s fd ⟨[u], []⟩ [(x, u)])
    (hm : mir [.im (.scr ns)] = .ok (.im (.bl true), [])) :
    codeAny (model P w) callerA (.call (.ref fa) ⟨[.ref a], []⟩) (fun r s' => r = .ok (.ret (.bool true)) ∧ OldK z.heap s'.heap ∧ s'.os = z.os ∧ AllBare s'.gens) z := by
  have rv := vals_ints hi
  have go : ∀ T : Hp, Only T → SqL g.K T a (ns.map V.int) → HOk P w T z.heap → (∀ b, T b ≠ none → b = a) → (T a ≠ none → g.K.lookup a = none) →
      codeAny (model P w) callerA (.call (.ref fa) ⟨[.ref a], []⟩) (fun r s' => r = .ok (.ret (.bool true)) ∧ OldK z.heap s'.heap ∧ s'.os = z.os ∧ AllBare s'.gens) z := by
    intro T hO hS hok one out
    have keepB : ∀ {b : Addr} {o : Obj}, z.heap.get? b = some o → T b = none → (hidT z.heap T).get? b = some o := fun {b o} e n => hidT_get e n
    have notT : ∀ {b : Addr} {o : Obj} {es : Array DictEntry} {ep : Nat}, z.heap.get? b = some o → o.data = .dict es ep → T b = none := by
      intro b o es ep e d
      by_cases q : T b = none
      · exact q
      · have e' := one b q
        subst e'
        rw [ha] at e
        cases e
        exact nomatch (show Data.seq us.toArray _ = Data.dict es ep from d)
    have nsB : ∀ {b : Addr} {m : Str → Option Value}, z.heap.Ns b m → (hidT z.heap T).Ns b m := fun {b m} h => by
      obtain ⟨o, es, ep, e, d, r⟩ := h
      exact ⟨o, es, ep, keepB e (notT e d), d, r⟩
    have kinB : g.K.In (hidT z.heap T) := fun b o e => keepB (kin b o e) (by
      by_cases q : T b = none
      · exact q
      · have e' := one b q
        subst e'
        rw [out q] at e
        cases e)
    have md : Mod g.K mg (hidT z.heap T) := ⟨kinB, nsB hns, ⟨mb, nsB hbn, hbb⟩, by
      obtain ⟨mc, h1, h2⟩ := hlim
      exact ⟨mc, nsB h1, h2⟩⟩
    have e0 : Env0 P w g.K mg (hidT z.heap T) callerA [] z T := ⟨rfl, md, fun b o e => of_hidT e, Nat.le_of_eq (hidT_size _ _), trivial, fun b hb => absurd (show b ∈ ([] : List Addr) from hb) (by simp), hok, .of_eq hgn⟩
    have sp : spF g 1 [] mir [.ref a] T (fun v _ => v = .bl true) fun _ _ _ => False := by
      refine ⟨rfl, T, [.im (.scr ns)], [], Same.refl _, ?_, List.nodup_nil, ?_⟩
      · simp only [Rms, Rm, Rv]
        exact ⟨_, [], [], [], rfl, ⟨⟨a, rfl, hS⟩, rfl⟩, ⟨rfl, rfl⟩, rfl⟩
      · rw [hm]
        intro v G' H' Fr _ _ _ _ r _ _
        simp only [Rms, Rm, Rv] at r
        obtain ⟨v', r', F1, F2, e1, ⟨e2, _⟩, _⟩ := r
        cases e1
        exact e2
    refine codeAny_mono ((F _ kinB (nsB hns)).run callerA [] z T ⟨[.ref a], []⟩ [.ref a] [.ref a] _ _ hr rfl e0 (hb z (.ref a)) (.cons rfl .nil) sp) fun r s' h => ?_
    match r, h with
    | .error e, h =>
      obtain ⟨_, _, _, _, _, _, _, _, _, _, _, _, hx⟩ := h
      exact hx.elim
    | .ok .next, h => exact False.elim h
    | .ok .brk, h => exact False.elim h
    | .ok .cont, h => exact False.elim h
    | .ok (.ret u), ⟨v, H', os, bare, un, hok', r', q⟩ =>
      have q' : v = .bl true := q
      subst q'
      obtain rfl : u = Value.bool true := r'
      refine ⟨rfl, OldK.of_keep fun b o e => ?_, os, bare⟩
      cases q : T b with
      | none => exact un.keep b o e q (fun y => absurd (show b ∈ ([] : List Addr) from y) (by simp)) (by simp)
      | some u =>
        rcases hO b with y | ⟨ob, xs, y⟩
        · rw [q] at y; cases y
        · obtain ⟨e1, _⟩ := hok b _ y
          obtain ⟨e2, _⟩ := hok' b _ (un.frzs b ob _ y)
          rw [e] at e1; cases e1
          exact e2
  have sz := hi.length
  cases hk : g.K.lookup a with
  | some o =>
    have e := kin a o hk
    rw [ha] at e
    cases e
    exact go (fun _ => none) (fun _ => .inl rfl) (.inr ⟨_, us.toArray, _, hk, rfl, rfl, rfl, by rw [List.size_toArray, sz]; exact hl, by simpa using rv⟩) (fun b u y => nomatch (show (none : Option HO) = some u from y)) (fun b y => absurd rfl y) fun y => absurd rfl y
  | none =>
    refine go (fun b => if b = a then some (.frz { cls := .type "list", data := .seq us.toArray } (.lst (ns.map V.int))) else none) (fun b => ?_) (.inl (.inr ⟨_, if_pos rfl⟩)) (fun b u y => ?_) (fun b y => ?_) fun _ => hk
    · by_cases hb : b = a
      · exact .inr ⟨_, _, if_pos hb⟩
      · exact .inl (if_neg hb)
    · by_cases hb : b = a
      · subst hb
        have y' := (if_pos rfl).symm.trans y
        cases y'
        exact ⟨ha, by rw [List.length_map]; exact hl, us, _, rv, ha⟩
      · exact nomatch (if_neg hb).symm.trans y
    · by_cases hb : b = a
      · exact hb
      · exact absurd (if_neg hb) y
/-- the goal behind k_head, from the law's mirror -/
theorem law_walk {l : PySem.W.OpenLaw} {n k : Nat} {q : Program} {loose : List Str} {XP : (Str → Option Value) → Heap → Prop} {YP : World → Heap → Prop} {d : DefRec} {K : Params → PySem.W.Frag} {x : Str} {mir : Mir}
    (hn : l.most = some n) (hn2 : n ≤ sizeLine) (hdf : d.params.defaults = []) (hr : RG k callerA) (hY : ∀ (w : World) (h : Heap), YP w h → (K w.params).In h)
    (F : ∀ (w : World) (mg : Str → Option Value) (fa : Addr) (h : Heap), (K w.params).In h → h.Ns mainGlobals mg → mg d.name = some (.ref fa) →
      ∃ (g : Gs) (fd : FuncData), g.K = K w.params ∧ (∀ (s : Shared) (u : Value), BindsTo s fd ⟨[u], []⟩ [(x, u)]) ∧ ∀ base : Heap, (K w.params).In base → base.Ns mainGlobals mg → Fn l.prog w mg base g k fa fd [x] [] mir)
    (hm : ∀ ns : List Int, ns.length ≤ n → mir [.im (.scr ns)] = .ok (.im (.bl true), [])) :
    PySem.W.WalkO q loose XP YP l.row.toRowW d [] (fun f vs => PySem.call f vs) := by
  refine Att.attach_call hn hdf fun w s₀ s₁ mg mb fa o pm cd doc a vs ns G Y ho hd hcd hmg hobj hints hlen hg => ?_
  have KX := hY w _ Y
  obtain ⟨g, fd, eK, hb, hF⟩ := F w mg fa _ KX G.T.g hmg
  rw [← eK] at KX hF
  exact law_run KX G.T.g G.T.b G.T.builtins G.T.nolimit hg hobj hints (Nat.le_trans hlen hn2) hr hF hb (hm ns hlen)
end Eng
end
section
set_option Elab.async false
set_option linter.all false
set_option maxRecDepth 100000
namespace Eng
open PySem L2
open PyProof.Rows hiding St

/-! ### t.index(i) -/
def eTIdx (fo : FO) (k : FA) : FE := fun env => do
  let (o, env) ← fo env
  let d ← Rs.of (res env o)
  match d with
  | .tup ds => do
    let (os, env) ← k env
    let es ← Rs.of (resAll env os)
    match es with
    | [.int i] => do
      let ns ← Rs.of (intsD ds)
      if i ∈ ns then .ok (.im (.int (ns.idxOf i : Nat)), env) else .bad
    | _ => .bad
  | _ => .bad
section
variable {X : Cx} {g : Gs} {W : WX} {o e : Expr} {fo : FO} {k : FA} {apos cpos : Pos}
theorem se_tidx (hK : X.K = g.K) (hu : X.A.units + 64 < cLine) (ho : PE X o (tO g W fo)) (ha : PA X [e] (tA' g W k))
    (hbase : attributeBase o "index" X.env (eval o X.env) = eval o X.env)
    (hfew : ((backTo cpos (starEach [e] X.env)).all (fun x => !x.1) && (backToKw cpos (keywordEach [] X.env)).all (fun x => x.1.isSome)
      && decide ([e].length + ([] : List Keyword).length + (if ([] : List Keyword).isEmpty then 0 else 1) < 30)) = true)
    (hline : (apos.endLine == cpos.line) = true) (hs : starEach [e] X.env = (false, eval e X.env) :: starEach [] X.env) (hplain : (backTo cpos (starEach [] X.env)).any (·.1) = false) :
    PE X (.Call (.Attribute o "index" apos) [e] [] cpos) (tE g W (eTIdx fo k)) := by
  refine ⟨fun pins s σ H Q I h => ?_⟩
  obtain ⟨B, G0, G, env, S, h⟩ := h
  refine wpAny_Call_method_late hbase hfew hline rfl (thn (ho.run pins s σ H (fun x H1 => ∃ t ds vs env1 G1, x = .ref t ∧ Same G G1 ∧ Stt g B G0 G1 H1 σ env1 ∧ SqN g.K G1 t vs ∧ Rvs g G1 ds vs ∧ Fin g B G0 W σ G1 (do
      let (os, env) ← k env1
      let es ← Rs.of (resAll env os)
      match es with
      | [.int i] => do
        let ns ← Rs.of (intsD ds)
        if i ∈ ns then .ok (.im (.int (ns.idxOf i : Nat)), env) else .bad
      | _ => .bad) fun m env G' H' => ∀ v, Stt g B G0 G' H' (some v :: σ) (some m :: env) → Q v H') I
    ⟨B, G0, G, env, S, (Fin.bind h).mono fun o env1 G1 H1 s1 q v S1 r1 => ?_⟩) fun v s1 ⟨x, H1, I1, r1, t, ds, vs, env1, G1, ex, sm, S1, hq, hr, q⟩ => ?_)
  · obtain ⟨d, e1, q⟩ := Fin.of_bind q
    cases d with
    | tup ds =>
      have hv := S1.res r1 e1
      simp only [Vw, Rv] at hv
      obtain ⟨t, vs, rfl, h1, h2⟩ := hv
      exact ⟨t, ds, vs, env1, G1, rfl, s1, S1, h1, h2, q⟩
    | _ => exact False.elim q
  · subst ex
    cases r1
    obtain ⟨its0, rv0, pl0, hz0⟩ := I1.tuple (by rw [hK]; exact sqT_same S1.s1 hq)
    have nod : ∃ ob, s1.heap.get? t = some ob ∧ ob.dict = none := by
      rcases sqN_same S1.s1 hq with ⟨ob, h1, h2⟩ | ⟨ob, its, n, h1, _, _, _, _, h2⟩
      · exact ⟨ob, (I1.hok t _ h1).1, h2⟩
      · exact ⟨ob, I1.kIn t ob (by rw [hK]; exact h1), h2⟩
    refine ⟨"tuple", "tuple.index", PySem.F.plainAttrs_tuple, PySem.F.slot_tuple_index, PySem.F.type_tuple_index, pl0.typeIs, fun a e => by cases e; exact nod, ?_⟩
    have hA := ha.run cpos pins s1 σ H1 (fun ys H2 => ∃ i env2 G2 ns, ys = [.int i] ∧ Same G1 G2 ∧ Stt g B G0 G2 H2 σ env2 ∧ intsD ds = some ns ∧ i ∈ ns ∧ ∀ v, Stt g B G0 G2 H2 (some v :: σ) (some (.im (.int (ns.idxOf i : Nat))) :: env2) → Q v H2) I1
      ⟨B, G0, G1, env1, S1, (Fin.bind q).mono fun os env2 G2 H2 s2 q ys S2 r2 => by
        obtain ⟨es, e1, q⟩ := Fin.of_bind q
        have vw := S2.resAll r2 e1
        split at q
        · obtain ⟨ns, e2, q⟩ := Fin.of_bind q
          split at q
          · rename_i hm
            obtain ⟨y, rfl, hy⟩ := vws1 vw
            simp only [Vw, Rv] at hy
            subst hy
            exact ⟨_, env2, G2, ns, rfl, s2, S2, e2, hm, fun v S' => q G2 H2 (Same.refl _) v S'⟩
          · exact False.elim q
        · exact False.elim q⟩
    rw [hs] at hA ⊢
    refine Calls.callWith_builtin (by show (false || (backTo cpos (starEach [] X.env)).any (·.1)) = false; rw [hplain] <;> rfl) (Calls.evalArgs_plain ?_)
    refine thn hA fun us s2 ⟨ys, H2, I2, r2, i, env2, G2, ns, ey, s3, S2, e2, hm, kk⟩ => ?_
    subst ey
    obtain ⟨u, rfl, tk, rfl⟩ := vals1 r2
    have := hr.ints e2
    subst this
    obtain ⟨its, rv, pl, hz⟩ := I2.tuple (by rw [hK]; exact sqT_same S2.s1 (sqN_same s3 hq))
    obtain ⟨as, rs⟩ := Dp.readsAll I2 (ns.map PyData.int) (ns.map V.int) its (dpAll_ints ns) rv
    exact PySem.W.index_tuple_datum pl ⟨as, rs⟩ ⟨[], .int _ _⟩ (by show X.A.units + 1 + 0 < cLine; omega) hm ⟨.int _, H2, I2.tok _, ⟨_, rfl⟩, kk _ (S2.cons (by simp [Rv]))⟩
end
end Eng
end
section
set_option Elab.async false
set_option linter.all false
set_option maxRecDepth 100000
namespace Eng
open PySem L2
open PyProof.Rows hiding St

/-! ### short words -/
structure XO (X : Cx) (g : Gs) (kk : Nat) : Prop where
  K : X.K = g.K
  r : RG kk X.A
theorem XO.u {X : Cx} {g : Gs} {kk : Nat} (o : XO X g kk) : X.A.units + 64 < cLine := by have := o.r.un; omega
section
variable {X : Cx} {g : Gs} {W : WX} {kk : Nat} {a b c e : Expr} {es : List Expr} {f fb : FE} {fo go ho : FO} {t u : FT} {pos p p1 p2 p3 cpos apos : Pos} {k : FA}
theorem vO (i : Nat) {x : Str} (hN : X.N[i]? = some x := by rfl) (hv : Vis X.env.scope x := by first | exact Or.inl rfl | exact Or.inr (Or.inl rfl) | exact Or.inr (Or.inr rfl)) (hd : (x == ("__debug__" : Str)) = false := by rfl) (hcd : (x == ("__classdict__" : Str)) = false := by rfl) : PE X (.Name x pos) (tO g W (oVar i)) := so_var hN hv hd hcd
theorem vE (i : Nat) {x : Str} (hN : X.N[i]? = some x := by rfl) (hv : Vis X.env.scope x := by first | exact Or.inl rfl | exact Or.inr (Or.inl rfl) | exact Or.inr (Or.inr rfl)) (hd : (x == ("__debug__" : Str)) = false := by rfl) (hcd : (x == ("__classdict__" : Str)) = false := by rfl) : PE X (.Name x pos) (tE g W (eVar i)) := se_var hN hv hd hcd
theorem vM (i : Nat) {x : Str} (hN : X.N[i]? = some x := by rfl) (hv : Vis X.env.scope x := by first | exact Or.inl rfl | exact Or.inr (Or.inl rfl) | exact Or.inr (Or.inr rfl)) (hd : (x == ("__debug__" : Str)) = false := by rfl) (hcd : (x == ("__classdict__" : Str)) = false := by rfl) : PE X (.Name x pos) (tE g W (eMove i)) := se_move hN hv hd hcd
theorem cI (i : Int) {j : Nat} : PE X (.Constant (.int i) j pos) (tE g W (eC (.int i))) := se_const pe_int fun _ => by simp [Rv]
theorem cS (z : Str) {j : Nat} : PE X (.Constant (.str z) j pos) (tE g W (eC (.str z))) := se_const pe_str fun _ => by simp [Rv]
theorem cB (z : Bool) {j : Nat} : PE X (.Constant (.bool z) j pos) (tE g W (eC (.bl z))) := se_const pe_bl fun _ => by simp [Rv]
theorem cN {j : Nat} : PE X (.Constant .none j pos) (tE g W (eC .non)) := se_const pe_non fun _ => by simp [Rv]
theorem cGI {x : Str} (i : Int) (hm : ∃ t, X.mg x = some (.int i t)) (hg : Gl X x := by rfl) (hd : (x == ("__debug__" : Str)) = false := by rfl) : PE X (.Name x pos) (tE g W (eC (.int i))) := by
  obtain ⟨t, hm⟩ := hm
  exact se_const (v := .int i) (pe_glob (v := .int i) hg hm ⟨t, rfl⟩ hd) fun _ => by simp [Rv]
theorem cGS {x : Str} (z : Str) (hm : ∃ t, X.mg x = some (.str z t)) (hg : Gl X x := by rfl) (hd : (x == ("__debug__" : Str)) = false := by rfl) : PE X (.Name x pos) (tE g W (eC (.str z))) := by
  obtain ⟨t, hm⟩ := hm
  exact se_const (v := .str z) (pe_glob (v := .str z) hg hm ⟨t, rfl⟩ hd) fun _ => by simp [Rv]
theorem O (h : PE X a (tE g W f)) : PE X a (tO g W (oOf f)) := so_of h
-- two-place
theorem bAdd (o : XO X g kk) (ha : PE X a (tO g W fo)) (hb : PE X b (tO g W go)) : PE X (.BinOp a .Add b pos) (tE g W (eBin addD fo go)) := se_bin (ops_add o.K) ha hb
theorem bSub (o : XO X g kk) (ha : PE X a (tO g W fo)) (hb : PE X b (tO g W go)) : PE X (.BinOp a .Sub b pos) (tE g W (eBin subD fo go)) := se_bin ops_sub ha hb
theorem bMul (o : XO X g kk) (ha : PE X a (tO g W fo)) (hb : PE X b (tO g W go)) : PE X (.BinOp a .Mult b pos) (tE g W (eBin mulD fo go)) := se_bin ops_mul ha hb
theorem bDiv (o : XO X g kk) (ha : PE X a (tO g W fo)) (hb : PE X b (tO g W go)) : PE X (.BinOp a .FloorDiv b pos) (tE g W (eBin divD fo go)) := se_bin ops_div ha hb
theorem bMod (o : XO X g kk) (ha : PE X a (tO g W fo)) (hb : PE X b (tO g W go)) : PE X (.BinOp a .Mod b pos) (tE g W (eBin modD fo go)) := se_bin ops_mod ha hb
theorem kLt (o : XO X g kk) : CmpS X g .Lt ltD := cmps_lt o.K o.u
theorem kLe (o : XO X g kk) : CmpS X g .LtE leD := cmps_le
theorem kGt (o : XO X g kk) : CmpS X g .Gt gtD := cmps_gt
theorem kGe (o : XO X g kk) : CmpS X g .GtE geD := cmps_ge
theorem kEq (o : XO X g kk) : CmpS X g .Eq eqD := cmps_eq o.K o.u
theorem kNe (o : XO X g kk) : CmpS X g .NotEq neD := cmps_ne o.K o.u
theorem kIs (o : XO X g kk) : CmpS X g .Is isD := cmps_is
theorem kIsnt (o : XO X g kk) : CmpS X g .IsNot isntD := cmps_isnt
theorem kIn (o : XO X g kk) : CmpS X g .In inD := cmps_in o.K o.u
theorem kNin (o : XO X g kk) : CmpS X g .NotIn ninD := cmps_nin o.K o.u
theorem tC1 {op : CmpOp} {h : D → D → Option Bool} (ho : CmpS X g op h) (ha : PE X a (tO g W fo)) (hb : PE X b (tO g W go)) (hm : behindInMarks op b = false := by rfl) : PT X (.Compare a [op] [b] pos) (tT g W (tCmp' h fo go)) := st_cmp ho hm ha hb
theorem eC1 {op : CmpOp} {h : D → D → Option Bool} (ho : CmpS X g op h) (ha : PE X a (tO g W fo)) (hb : PE X b (tO g W go)) (hm : behindInMarks op b = false := by rfl) : PE X (.Compare a [op] [b] pos) (tE g W (eOfT (tCmp' h fo go))) := se_cmp ho hm ha hb
theorem tC2 {op op' : CmpOp} {f1 f2 : D → D → Option Bool} (h1 : CmpS X g op f1) (h2 : CmpS X g op' f2) (ha : PE X a (tO g W fo)) (hb : PE X b (tO g W go)) (hc : PE X c (tO g W ho)) (hm : lastMarks [op, op'] [b, c] = false := by rfl) : PT X (.Compare a [op, op'] [b, c] pos) (tT g W (tChF f1 f2 fo go ho)) := st_chain h1 h2 hm ha hb hc
theorem eC2 {op op' : CmpOp} {f1 f2 : D → D → Option Bool} (h1 : CmpS X g op f1) (h2 : CmpS X g op' f2) (ha : PE X a (tO g W fo)) (hb : PE X b (tO g W go)) (hc : PE X c (tO g W ho)) (hm : lastMarks [op, op'] [b, c] = false := by rfl) : PE X (.Compare a [op, op'] [b, c] pos) (tE g W (eOfT (tChF f1 f2 fo go ho))) := se_chain h1 h2 hm ha hb hc
theorem tTru (o : XO X g kk) (ha : PE X a (tO g W fo)) (he : ∀ whole, isTrue a X.env whole = (do let v ← whole; standAt a.pos; holding [v] (truthy v)) := by intro _; rfl) : PT X a (tT g W (tTru' fo)) := st_tru o.K he ha
theorem tNot (h : PT X a (tT g W t)) : PT X (.UnaryOp .Not a pos) (tT g W (tNotF t)) := st_not h
theorem eNot (o : XO X g kk) (h : PE X a (tO g W fo)) : PE X (.UnaryOp .Not a pos) (tE g W (eNotF fo)) := se_not o.K h
theorem eNeg (h : PE X a (tO g W fo)) : PE X (.UnaryOp .USub a pos) (tE g W (eNegF fo)) := se_neg h
theorem eAnd (o : XO X g kk) (h : PE X a (tE g W f)) (k : PE X (.BoolOp .And (b :: es) pos) (tE g W fb)) : PE X (.BoolOp .And (a :: b :: es) pos) (tE g W (eAndF f fb)) := se_and o.K h k
theorem eOr (o : XO X g kk) (h : PE X a (tE g W f)) (k : PE X (.BoolOp .Or (b :: es) pos) (tE g W fb)) : PE X (.BoolOp .Or (a :: b :: es) pos) (tE g W (eOrF f fb)) := se_or o.K h k
theorem eIdx' (o : XO X g kk) (ha : PE X a (tO g W fo)) (hb : PE X b (tO g W go)) (hs : PlainIx b := by intro _ _; rfl) : PE X (.Subscript a b pos) (tE g W (eIdx fo go)) := se_idx o.K o.u hs ha hb
theorem eSlc' (o : XO X g kk) {lo hi : Option Expr} {fl fh : FI} (h : PE X a (tO g W fo)) (h1 : PO X lo (tI' g W fl)) (h2 : PO X hi (tI' g W fh)) : PE X (.Subscript a (.Slice lo hi none p2) pos) (tE g W (eSlc fo fl fh)) := se_slc o.K h h1 h2
theorem eRev' (o : XO X g kk) {j : Nat} (ha : PE X e (tO g W fo)) : PE X (.Subscript e (.Slice none none (some (.UnaryOp .USub (.Constant (.int 1) j p1) p2)) p3) pos) (tE g W (eRev fo)) := se_rev o.K ha
theorem dC {h : FD} (hh : PE X e (tE g W f)) (hk : PA X es (tD g W h)) (hs : starEach (e :: es) X.env = (false, eval e X.env) :: starEach es X.env := by rfl) : PA X (e :: es) (tD g W (dCons f h)) := sd_cons hs hh hk
theorem mC {h : FM} (hh : PE X e (tE g W f)) (hk : PA X es (tMs g W h)) (hs : starEach (e :: es) X.env = (false, eval e X.env) :: starEach es X.env := by rfl) : PA X (e :: es) (tMs g W (mCons f h)) := sm_cons hs hh hk
theorem aC (hh : PE X e (tO g W fo)) (hk : PA X es (tA' g W k)) (hs : starEach (e :: es) X.env = (false, eval e X.env) :: starEach es X.env := by rfl) : PA X (e :: es) (tA' g W (aCons fo k)) := sa_cons hs hh hk
theorem cB' {x : Str} {id : String} {fn : List D → Option M} (hc : CallS X g (.builtin id) fn) (hm : X.mg x = none) (hv : bootBuiltins x = some (.builtin id)) (ha : PA X (e :: es) (tA' g W k)) (hn : x ≠ "__name__" := by decide) (hdb : (x == ("__debug__" : Str)) = false := by rfl) (hg : Gl X x := by rfl)
    (he : starEach (e :: es) X.env = (false, eval e X.env) :: starEach es X.env := by rfl) (hpl : (backTo pos (starEach es X.env)).any (·.1) = false := by rfl) : PE X (.Call (.Name x p) (e :: es) [] pos) (tE g W (eCall fn k)) := se_callB hc hg hm hv ha hn hdb he hpl
theorem cT' {x : Str} {T : String} {fn : List D → Option M} (hc : CallS X g (.type T) fn) (hm : X.mg x = none) (hv : bootBuiltins x = some (.type T)) (ha : PA X (e :: es) (tA' g W k)) (hn : x ≠ "__name__" := by decide) (hdb : (x == ("__debug__" : Str)) = false := by rfl) (hg : Gl X x := by rfl)
    (he : starEach (e :: es) X.env = (false, eval e X.env) :: starEach es X.env := by rfl) (hpl : (backTo pos (starEach es X.env)).any (·.1) = false := by rfl) : PE X (.Call (.Name x p) (e :: es) [] pos) (tE g W (eCall fn k)) := se_callTy hc hg hm hv ha hn hdb he hpl
theorem cF {P : Program} {kf : Nat} {f' : Addr} {fd : FuncData} {ps : List Str} {mp : List Nat} {mir : Mir} {x : Str} (F : Fn X.prog X.w X.mg X.base g kf f' fd ps mp mir) (tk : Takes X W) (o : XO X g kk) (hc : X.calm = true) (hm : X.mg x = some (.ref f')) (hk : PySem.W.keepIn X.K (.ref f') = true) (hb : Binds X.K fd ps [])
    (ha : PA X (e :: es) (tA' g W k)) (hle : kf ≤ kk := by decide) (hg : Gl X x := by rfl) (hdb : (x == ("__debug__" : Str)) = false := by rfl) (he : starEach (e :: es) X.env = (false, eval e X.env) :: starEach es X.env := by rfl) (hpl : (backTo pos (starEach es X.env)).any (·.1) = false := by rfl) :
    PE X (.Call (.Name x p) (e :: es) [] pos) (tE g W (eCallN ps.length mp mir k)) := se_call F o.K o.r hle hc tk hg hm hk hb ha hdb he hpl
theorem cKw {kf : Nat} {f' : Addr} {fd : FuncData} {y : Str} {mp : List Nat} {mir : Mir} {x : Str} {kpos : Pos} (F : Fn X.prog X.w X.mg X.base g kf f' fd [y] mp mir) (tk : Takes X W) (o : XO X g kk) (hc : X.calm = true) (hm : X.mg x = some (.ref f')) (hk : PySem.W.keepIn X.K (.ref f') = true)
    (hb : ∀ (s : Shared) (u : Value), BindsTo s fd ⟨[], [(y, u)]⟩ [(y, u)]) (he : PE X e (tO g W fo)) (hle : kf ≤ kk := by decide) (hg : Gl X x := by rfl) (hdb : (x == ("__debug__" : Str)) = false := by rfl)
    (hall : (backToKw pos (keywordEach [⟨some y, e, kpos⟩] X.env)).all (·.1.isSome) = true := by rfl) (hks : (backToKw pos (keywordEach [⟨some y, e, kpos⟩] X.env)).filterMap (·.1) = [y] := by rfl)
    (hpl : ((backTo pos (starEach [] X.env)).any (·.1) || (backToKw pos (keywordEach [⟨some y, e, kpos⟩] X.env)).any (·.1.isNone)) = false := by rfl) :
    PE X (.Call (.Name x p) [] [⟨some y, e, kpos⟩] pos) (tE g W (eCallN 1 mp mir (aCons fo aNil))) := se_callKw F o.K o.r hle hc tk hg hm hk hb he hdb hall hks hpl
theorem isi (ty : Ty) {x : Str} {q : Pos} (o : XO X g kk) (ha : PE X a (tO g W fo)) (hm : X.mg "isinstance" = none) (hmt : X.mg x = none) (hx : bootBuiltins x = some (.type ty.nm)) (hg : Gl X "isinstance" := by rfl) (hgt : Gl X x := by rfl) (hn : x ≠ "__name__" := by decide) (hd : (x == ("__debug__" : Str)) = false := by rfl)
    (hs1 : starEach [a, .Name x q] X.env = (false, eval a X.env) :: starEach [.Name x q] X.env := by rfl) (hs2 : starEach [.Name x q] X.env = (false, eval (.Name x q) X.env) :: starEach [] X.env := by rfl) (hpl : (backTo pos (starEach [.Name x q] X.env)).any (·.1) = false := by rfl) :
    PE X (.Call (.Name "isinstance" p) [a, .Name x q] [] pos) (tE g W (eIsi [ty] fo)) := se_isi o.K ha hg hm hgt hmt hx hn hd hs1 hs2 hpl
theorem tIdx' (o : XO X g kk) (ho : PE X a (tO g W fo)) (ha : PA X [e] (tA' g W k)) (hbase : attributeBase a "index" X.env (eval a X.env) = eval a X.env := by rfl)
    (hfew : ((backTo cpos (starEach [e] X.env)).all (fun x => !x.1) && (backToKw cpos (keywordEach [] X.env)).all (fun x => x.1.isSome)
      && decide ([e].length + ([] : List Keyword).length + (if ([] : List Keyword).isEmpty then 0 else 1) < 30)) = true := by rfl)
    (hline : (apos.endLine == cpos.line) = true := by rfl) (hs : starEach [e] X.env = (false, eval e X.env) :: starEach [] X.env := by rfl) (hplain : (backTo cpos (starEach [] X.env)).any (·.1) = false := by rfl) :
    PE X (.Call (.Attribute a "index" apos) [e] [] cpos) (tE g W (eTIdx fo k)) := se_tidx o.K o.u ho ha hbase hfew hline hs hplain
theorem lIdx' (o : XO X g kk) (ho : PE X a (tO g W fo)) (ha : PA X [e] (tA' g W k)) (hbase : attributeBase a "index" X.env (eval a X.env) = eval a X.env := by rfl)
    (hfew : ((backTo cpos (starEach [e] X.env)).all (fun x => !x.1) && (backToKw cpos (keywordEach [] X.env)).all (fun x => x.1.isSome)
      && decide ([e].length + ([] : List Keyword).length + (if ([] : List Keyword).isEmpty then 0 else 1) < 30)) = true := by rfl)
    (hline : (apos.endLine == cpos.line) = true := by rfl) (hs : starEach [e] X.env = (false, eval e X.env) :: starEach [] X.env := by rfl) (hplain : (backTo cpos (starEach [] X.env)).any (·.1) = false := by rfl) :
    PE X (.Call (.Attribute a "index" apos) [e] [] cpos) (tE g W (eMeth "list" idxOfF fo k)) := se_meth PySem.F.plainAttrs_list PySem.F.slot_list_index PySem.F.type_list_index (ms_index o.u) ho ha hbase hfew hline hs hplain
theorem app (i : Nat) {x : Str} (he : PE X e (tE g W f)) (hN : X.N[i]? = some x := by rfl) (hv : Vis X.env.scope x := by first | exact Or.inl rfl | exact Or.inr (Or.inl rfl) | exact Or.inr (Or.inr rfl)) (hd : (x == ("__debug__" : Str)) = false := by rfl) (hcd : (x == ("__classdict__" : Str)) = false := by rfl)
    (hbase : attributeBase (.Name x p) "append" X.env (eval (.Name x p) X.env) = eval (.Name x p) X.env := by rfl)
    (hfew : ((backTo cpos (starEach [e] X.env)).all (fun x => !x.1) && (backToKw cpos (keywordEach [] X.env)).all (fun x => x.1.isSome)
      && decide ([e].length + ([] : List Keyword).length + (if ([] : List Keyword).isEmpty then 0 else 1) < 30)) = true := by rfl)
    (hline : (apos.endLine == cpos.line) = true := by rfl) (hs : starEach [e] X.env = (false, eval e X.env) :: starEach [] X.env := by rfl) (hplain : (backTo cpos (starEach [] X.env)).any (·.1) = false := by rfl) :
    PE X (.Call (.Attribute (.Name x p) "append" apos) [e] [] cpos) (tE g W (eApp i f)) := se_app hN hv hd hcd he hbase hfew hline hs hplain
theorem pop (i : Nat) {x : Str} (he : PE X e (tE g W f)) (hN : X.N[i]? = some x := by rfl) (hv : Vis X.env.scope x := by first | exact Or.inl rfl | exact Or.inr (Or.inl rfl) | exact Or.inr (Or.inr rfl)) (hd : (x == ("__debug__" : Str)) = false := by rfl) (hcd : (x == ("__classdict__" : Str)) = false := by rfl)
    (hbase : attributeBase (.Name x p) "pop" X.env (eval (.Name x p) X.env) = eval (.Name x p) X.env := by rfl)
    (hfew : ((backTo cpos (starEach [e] X.env)).all (fun x => !x.1) && (backToKw cpos (keywordEach [] X.env)).all (fun x => x.1.isSome)
      && decide ([e].length + ([] : List Keyword).length + (if ([] : List Keyword).isEmpty then 0 else 1) < 30)) = true := by rfl)
    (hline : (apos.endLine == cpos.line) = true := by rfl) (hs : starEach [e] X.env = (false, eval e X.env) :: starEach [] X.env := by rfl) (hplain : (backTo cpos (starEach [] X.env)).any (·.1) = false := by rfl) :
    PE X (.Call (.Attribute (.Name x p) "pop" apos) [e] [] cpos) (tE g W (ePop i f)) := se_pop hN hv hd hcd he hbase hfew hline hs hplain
theorem lenSet (o : XO X g kk) (hc : X.calm = true) (hm : X.mg "len" = none) (hm2 : X.mg "set" = none) (ha : PE X a (tO g W fo)) {q : Pos} (hg : Gl X "len" := by rfl) (hg2 : Gl X "set" := by rfl) (na : starEach [a] X.env = (false, eval a X.env) :: starEach [] X.env := by rfl) :
    PE X (.Call (.Name "len" p) [.Call (.Name "set" p2) [a] [] q] [] pos) (tE g W (eLenSet fo)) := se_lenSet o.K hc hg hm hg2 hm2 ha na
theorem rg1 (hm : X.mg "range" = none) (ha : PE X a (tO g W fo)) (hg : Gl X "range" := by rfl) (na : starEach [a] X.env = (false, eval a X.env) :: starEach [] X.env := by rfl) : PRg X (.Call (.Name "range" p) [a] [] pos) (tR g W (rRng1 fo)) := sr_1 hg hm ha na
theorem rg2 (hm : X.mg "range" = none) (ha : PE X a (tO g W fo)) (hb : PE X b (tO g W go)) (hg : Gl X "range" := by rfl) (na : starEach [a, b] X.env = (false, eval a X.env) :: starEach [b] X.env := by rfl) (nb : starEach [b] X.env = (false, eval b X.env) :: starEach [] X.env := by rfl) (hp : (backTo pos (starEach [b] X.env)).any (·.1) = false := by rfl) :
    PRg X (.Call (.Name "range" p) [a, b] [] pos) (tR g W (rRng2 fo go)) := sr_2 hg hm ha hb na nb hp
theorem lRg {fr : FR} (hc : X.calm = true) (hm : X.mg "list" = none) (he : PRg X e (tR g W fr)) (hg : Gl X "list" := by rfl) (na : starEach [e] X.env = (false, eval e X.env) :: starEach [] X.env := by rfl) : PE X (.Call (.Name "list" p) [e] [] pos) (tE g W (eLRg fr)) := se_lrg hc hg hm he na
theorem tRg {fr : FR} (hc : X.calm = true) (hm : X.mg "tuple" = none) (he : PRg X e (tR g W fr)) (hg : Gl X "tuple" := by rfl) (na : starEach [e] X.env = (false, eval e X.env) :: starEach [] X.env := by rfl) : PE X (.Call (.Name "tuple" p) [e] [] pos) (tE g W (eTRg fr)) := se_trg hc hg hm he na
end
end Eng
end
section
set_option Elab.async false
set_option linter.all false
set_option maxRecDepth 100000
namespace Eng
open PySem L2
open PyProof.Rows hiding St

/-- a look at a comprehension's names -/
def blkC (N : List Str) (sc scope : Scope) (own : List (Str × Nat)) : Bool :=
  decide (scope.kind = .function) && scope.names.all (fun y => decide (scope.names.lookup y.1 = some y.2)) && own.all (fun p => decide (N[p.2]? = some p.1)) &&
    scope.names.all (fun y => !decide (y.2 = .free) || decide (sc.names.lookup y.1 = some .cell) || decide (sc.names.lookup y.1 = some .free)) &&
    scope.names.all (fun y => !(decide (y.2 = .local) || decide (y.2 = .cell)) || own.any (fun p => decide (p.1 = y.1)) || !N.any (fun x => decide (x = y.1)))
theorem blk_by {N : List Str} {sc scope : Scope} {own : List (Str × Nat)} (h : blkC N sc scope own = true) : BlkOk N sc scope own := by
  simp only [blkC, Bool.and_eq_true, List.all_eq_true, decide_eq_true_eq, Bool.or_eq_true, Bool.not_eq_true', decide_eq_false_iff_not, List.any_eq_true, Bool.or_eq_false_iff, List.any_eq_false] at h
  obtain ⟨⟨⟨⟨h1, h2⟩, h3⟩, h4⟩, h5⟩ := h
  refine ⟨h1, fun y hy => h2 y hy, fun p hp => h3 p hp, fun y hy e => ?_, fun y hy e => ?_⟩
  · rcases h4 y hy with (h | h) | h
    · exact absurd e h
    · exact .inl h
    · exact .inr h
  · rcases h5 y hy with (⟨h, h'⟩ | ⟨p, hp, h⟩) | h
    · exact (e.elim h h').elim
    · exact .inl (List.mem_map.mpr ⟨p, hp, h⟩)
    · exact .inr fun hm => h _ hm rfl
section
variable {X : Cx} {g : Gs} {W : WX} {kk : Nat} {a b c e : Expr} {es : List Expr} {f fb : FE} {fo go ho : FO} {t u : FT} {pos p p1 p2 p3 cpos apos spos : Pos} {k : FA} {mp : List Nat} {sk sl : FS}
theorem sets (i : Nat) {x : Str} {pos' : Pos} (hN : X.N.Nodup) (he : PE X e (tE g W f)) (hi : X.N[i]? = some x := by rfl) (hx : Loc X.env.scope x := by first | exact Or.inl rfl | exact Or.inr rfl) (hs : swapsWith e (some (.Name x pos')) pos.line X.env = pure false := by rfl)
    (hf : X.fn x = true ∨ X.env.scope.names.lookup x = some .local := by first | exact Or.inl rfl | exact Or.inr rfl) : PS X (.Assign [.Name x pos'] e pos) (tS g W mp (sSet mp i f)) := ss_set hN hi hx he hs hf
theorem exps (he : PE X e (tE g W f)) (hs : swapsWith e none pos.line X.env = pure false := by rfl) : PS X (.Expr e pos) (tS g W mp (sExpr f)) := ss_expr he hs
theorem puts (i : Nat) {x : Str} {ei : Expr} (o : XO X g kk) (hi : PE X ei (tO g W go)) (he : PE X e (tE g W f)) (hN : X.N[i]? = some x := by rfl) (hv : Vis X.env.scope x := by first | exact Or.inl rfl | exact Or.inr (Or.inl rfl) | exact Or.inr (Or.inr rfl)) (hd : (x == ("__debug__" : Str)) = false := by rfl) (hcd : (x == ("__classdict__" : Str)) = false := by rfl)
    (ha : ∀ v, assign (.Subscript (.Name x p) ei pos) X.env v = (do
      let ov ← holding [v] (eval (.Name x p) X.env)
      let iv ← holding [v, ov] (eval ei X.env)
      standAt pos
      holding [v, ov, iv] (setItem ov iv v)
      release [v, ov, iv] []) := by intro _; rfl) (hs : swapsWithSole [.Subscript (.Name x p) ei pos] e spos.line X.env = pure false := by rfl) (hw : swappedStores [.Subscript (.Name x p) ei pos] e X.env = pure none := by rfl)
    (h1 : (assignEach [.Subscript (.Name x p) ei pos] X.env).map (·.2) = [assign (.Subscript (.Name x p) ei pos) X.env] := by rfl) : PS X (.Assign [.Subscript (.Name x p) ei pos] e spos) (tS g W mp (sPut i go f)) := ss_put o.u hN hv hd hcd hi he ha hs hw h1
theorem gN (i : Nat) {x : Str} (hN : X.N.Nodup) (hi : X.N[i]? = some x := by rfl) (hx : Loc X.env.scope x := by first | exact Or.inl rfl | exact Or.inr rfl) (hf : X.fn x = true ∨ X.env.scope.names.lookup x = some .local := by first | exact Or.inl rfl | exact Or.inr rfl) : PG X (.Name x pos) (tG g [i] (gNm i)) := sg_name hN hi hx hf
theorem gC {fg : FG} {l : FGs} {vs ws : List Nat} (h1 : PG X e (tG g vs fg)) (h2 : PGs X es (tGs g ws l)) (hs : (assignEach (e :: es) X.env).map (·.2) = assign e X.env :: (assignEach es X.env).map (·.2) := by rfl) : PGs X (e :: es) (tGs g (vs ++ ws) (gsCons fg l)) := sgs_cons h1 h2 hs
theorem gT {j n : Nat} {l : FGs} {vs : List Nat} (o : XO X g kk) (hc : X.calm = true) (h : PGs X es (tGs g vs l)) (hn : (assignEach es X.env).length = n := by rfl) (hst : (assignEach es X.env).findIdx? (·.1) = none := by rfl) : PG X (.Tuple es j pos) (tG g vs (gTp n l)) := sg_tup o.K hc h hn hst
theorem asgs {tg : Expr} {fg : FG} {vs : List Nat} (he : PE X e (tE g W f)) (hg : PG X tg (tG g vs fg)) (hv : ∀ i ∈ vs, i ∉ mp := by decide) (hs : swapsWithSole [tg] e pos.line X.env = pure false := by rfl) (hw : swappedStores [tg] e X.env = pure none := by rfl)
    (h1 : (assignEach [tg] X.env).map (·.2) = [assign tg X.env] := by rfl) : PS X (.Assign [tg] e pos) (tS g W mp (sAsg fg f)) := ss_asg hv he hg hs hw h1
theorem fors {tg iter : Expr} {body : List Stmt} {fg : FG} {src : FW} {vs : List Nat} (hp : PassesOwn (model X.prog X.w) X.A X.env X.xe) (hc : X.calm = true) (hi : PI X tg iter (tI g W src)) (hg : PG X tg (tG g vs fg)) (hb : PSs X body (tS g W mp sk)) (hv : ∀ i ∈ vs, i ∉ mp := by decide)
    (hs : ∀ x, foldedSetIterable iter X.env x = pure x := by intro _; rfl) : PS X (.For tg iter body [] pos) (tS g W mp (sFor fg src sk)) := ss_for hv hp hc hi hg hb hs
theorem wS {tg : Expr} (o : XO X g kk) (h : PE X e (tE g W f)) : PI X tg e (tI g W (wSeq f)) := sw_seq o.K h
theorem wR1 {tg : Expr} (hm : X.mg "range" = none) (ha : PE X a (tO g W fo)) (hg : Gl X "range" := by rfl) (hs : starEach [a] X.env = (false, eval a X.env) :: starEach [] X.env := by rfl) (hs2 : starEach [a] X.env = [(false, eval a X.env)] := by rfl) : PI X tg (.Call (.Name "range" p) [a] [] pos) (tI g W (wRng1 fo)) := sw_rng1 hg hm hs hs2 ha
theorem wR2 {tg : Expr} (hm : X.mg "range" = none) (ha : PE X a (tO g W fo)) (hb : PE X b (tO g W go)) (hg : Gl X "range" := by rfl) (hs : starEach [a, b] X.env = (false, eval a X.env) :: starEach [b] X.env := by rfl) (hs2 : starEach [b] X.env = (false, eval b X.env) :: starEach [] X.env := by rfl)
    (hs3 : starEach [a, b] X.env = [(false, eval a X.env), (false, eval b X.env)] := by rfl) (hs4 : starEach [b] X.env = [(false, eval b X.env)] := by rfl) : PI X tg (.Call (.Name "range" p) [a, b] [] pos) (tI g W (wRng2 fo go)) := sw_rng2 hg hm hs hs2 hs3 hs4 ha hb
theorem wE {elts : List Expr} {j : Nat} {tp : Pos} (o : XO X g kk) (hm : X.mg "enumerate" = none) (ha : PE X e (tO g W fo)) (hg : Gl X "enumerate" := by rfl) (hs : starEach [e] X.env = (false, eval e X.env) :: starEach [] X.env := by rfl) : PI X (.Tuple elts j tp) (.Call (.Name "enumerate" p) [e] [] pos) (tI g W (wEnum fo)) := sw_enum o.K hg hm ha hs
theorem wZ {elts : List Expr} {j : Nat} {tp : Pos} (o : XO X g kk) (hm : X.mg "zip" = none) (ha : PA X [a, b] (tA' g W k)) (hg : Gl X "zip" := by rfl) (hs : starEach [a, b] X.env = (false, eval a X.env) :: starEach [b] X.env := by rfl) (hpl : (backTo pos (starEach [b] X.env)).any (·.1) = false := by rfl) : PI X (.Tuple elts j tp) (.Call (.Name "zip" p) [a, b] [] pos) (tI g W (wZip k)) := sw_zip o.K hg hm ha hs hpl
theorem cmp1 {elt tg iter : Expr} {scope : Scope} (own : List (Str × Nat)) {src : FW} {fg : FG} {ifs : List Expr} (hc : X.calm = true) (hN : X.N.Nodup) (hi : PI X tg iter (tI g W src))
    (hg : ∀ (s : Shared) (H : Hp) (C : Addr) (cl : List (Str × Addr)) (fp : List Addr), PG (X.blk s H scope (compEnvC scope cl C X.env) fp) tg (tG g (own.map (·.2)) fg))
    (ht : ∀ (s : Shared) (H : Hp) (C : Addr) (cl : List (Str × Addr)) (fp : List Addr), PTs (X.blk s H scope (compEnvC scope cl C X.env) fp) ifs (tT g W0 t))
    (he : ∀ (s : Shared) (H : Hp) (C : Addr) (cl : List (Str × Addr)) (fp : List Addr), PE (X.blk s H scope (compEnvC scope cl C X.env) fp) elt (tE g W0 f)) (ok : blkC X.N X.env.scope scope own = true := by kernel_rfl) (hs : ∀ x, foldedSetIterable iter X.env x = pure x := by intro _; rfl) :
    PE X (.ListComp elt [⟨tg, iter, ifs, 0⟩] scope pos) (tE g W (eCmp (own.map (·.2)) src fg t f)) := se_cmp1 hc hN hi (blk_by ok) hg ht he hs
theorem setCmp (i : Nat) {y : Str} {py : Pos} {elt tg iter : Expr} {scope : Scope} (own : List (Str × Nat)) {src : FW} {fg : FG} {ifs : List Expr} (hc : X.calm = true) (hN : X.N.Nodup) (hi : PI X tg iter (tI g W src))
    (hg : ∀ (s : Shared) (H : Hp) (C : Addr) (cl : List (Str × Addr)) (fp : List Addr), PG (X.blk s H scope (compEnvC scope cl C X.env) fp) tg (tG g (own.map (·.2)) fg))
    (ht : ∀ (s : Shared) (H : Hp) (C : Addr) (cl : List (Str × Addr)) (fp : List Addr), PTs (X.blk s H scope (compEnvC scope cl C X.env) fp) ifs (tT g W0 t))
    (he : ∀ (s : Shared) (H : Hp) (C : Addr) (cl : List (Str × Addr)) (fp : List Addr), PE (X.blk s H scope (compEnvC scope cl C X.env) fp) elt (tE g W0 f)) (hsw : swapsWith (.ListComp elt [⟨tg, iter, ifs, 0⟩] scope pos) (some (.Name y py)) spos.line X.env = pure true := by rfl) (hy : X.N[i]? = some y := by rfl) (hyl : X.env.scope.names.lookup y = some .local := by rfl)
    (ok : blkC X.N X.env.scope scope own = true := by kernel_rfl) (hs : ∀ x, foldedSetIterable iter X.env x = pure x := by intro _; rfl) :
    PS X (.Assign [.Name y py] (.ListComp elt [⟨tg, iter, ifs, 0⟩] scope pos) spos) (tS g W mp (sSet mp i (eCmp (own.map (·.2)) src fg t f))) := ss_setCmp hc hN hy hyl hsw hi (blk_by ok) hg ht he hs
theorem cmp2 {elt tg iter tg1 iter1 : Expr} {ifs ifs1 : List Expr} {scope : Scope} (own : List (Str × Nat)) (vs1 : List Nat) {src src1 : FW} {fg fg1 : FG} {t1 : FT} (hc : X.calm = true) (hN : X.N.Nodup) (hi : PI X tg iter (tI g W src))
    (hg : ∀ (s : Shared) (H : Hp) (C : Addr) (cl : List (Str × Addr)) (fp : List Addr), PG (X.blk s H scope (compEnvC scope cl C X.env) fp) tg (tG g (own.map (·.2)) fg))
    (ht : ∀ (s : Shared) (H : Hp) (C : Addr) (cl : List (Str × Addr)) (fp : List Addr), PTs (X.blk s H scope (compEnvC scope cl C X.env) fp) ifs (tT g W0 t))
    (hi1 : ∀ (s : Shared) (H : Hp) (C : Addr) (cl : List (Str × Addr)) (fp : List Addr), PI (X.blk s H scope (compEnvC scope cl C X.env) fp) tg1 iter1 (tI g W0 src1))
    (hg1 : ∀ (s : Shared) (H : Hp) (C : Addr) (cl : List (Str × Addr)) (fp : List Addr), PG (X.blk s H scope (compEnvC scope cl C X.env) fp) tg1 (tG g vs1 fg1))
    (ht1 : ∀ (s : Shared) (H : Hp) (C : Addr) (cl : List (Str × Addr)) (fp : List Addr), PTs (X.blk s H scope (compEnvC scope cl C X.env) fp) ifs1 (tT g W0 t1))
    (he : ∀ (s : Shared) (H : Hp) (C : Addr) (cl : List (Str × Addr)) (fp : List Addr), PE (X.blk s H scope (compEnvC scope cl C X.env) fp) elt (tE g W0 f)) (hv : ∀ i ∈ vs1, i ∈ own.map (·.2) := by decide) (ok : blkC X.N X.env.scope scope own = true := by kernel_rfl) (hs : ∀ x, foldedSetIterable iter X.env x = pure x := by intro _; rfl) (hs1 : ∀ env x, foldedSetIterable iter1 env x = pure x := by intro _ _; rfl) :
    PE X (.ListComp elt [⟨tg, iter, ifs, 0⟩, ⟨tg1, iter1, ifs1, 0⟩] scope pos) (tE g W (eCmp2 (own.map (·.2)) src fg t src1 vs1 fg1 t1 f)) := se_cmp2 hc hN hi (blk_by ok) hv hg ht hi1 hg1 ht1 he hs hs1
theorem setCmp2 (i : Nat) {y : Str} {py : Pos} {elt tg iter tg1 iter1 : Expr} {ifs ifs1 : List Expr} {scope : Scope} (own : List (Str × Nat)) (vs1 : List Nat) {src src1 : FW} {fg fg1 : FG} {t1 : FT} (hc : X.calm = true) (hN : X.N.Nodup) (hi : PI X tg iter (tI g W src))
    (hg : ∀ (s : Shared) (H : Hp) (C : Addr) (cl : List (Str × Addr)) (fp : List Addr), PG (X.blk s H scope (compEnvC scope cl C X.env) fp) tg (tG g (own.map (·.2)) fg))
    (ht : ∀ (s : Shared) (H : Hp) (C : Addr) (cl : List (Str × Addr)) (fp : List Addr), PTs (X.blk s H scope (compEnvC scope cl C X.env) fp) ifs (tT g W0 t))
    (hi1 : ∀ (s : Shared) (H : Hp) (C : Addr) (cl : List (Str × Addr)) (fp : List Addr), PI (X.blk s H scope (compEnvC scope cl C X.env) fp) tg1 iter1 (tI g W0 src1))
    (hg1 : ∀ (s : Shared) (H : Hp) (C : Addr) (cl : List (Str × Addr)) (fp : List Addr), PG (X.blk s H scope (compEnvC scope cl C X.env) fp) tg1 (tG g vs1 fg1))
    (ht1 : ∀ (s : Shared) (H : Hp) (C : Addr) (cl : List (Str × Addr)) (fp : List Addr), PTs (X.blk s H scope (compEnvC scope cl C X.env) fp) ifs1 (tT g W0 t1))
    (he : ∀ (s : Shared) (H : Hp) (C : Addr) (cl : List (Str × Addr)) (fp : List Addr), PE (X.blk s H scope (compEnvC scope cl C X.env) fp) elt (tE g W0 f)) (hv : ∀ i ∈ vs1, i ∈ own.map (·.2) := by decide) (hsw : swapsWith (.ListComp elt [⟨tg, iter, ifs, 0⟩, ⟨tg1, iter1, ifs1, 0⟩] scope pos) (some (.Name y py)) spos.line X.env = pure true := by rfl) (hy : X.N[i]? = some y := by rfl) (hyl : X.env.scope.names.lookup y = some .local := by rfl)
    (ok : blkC X.N X.env.scope scope own = true := by kernel_rfl) (hs : ∀ x, foldedSetIterable iter X.env x = pure x := by intro _; rfl) (hs1 : ∀ env x, foldedSetIterable iter1 env x = pure x := by intro _ _; rfl) :
    PS X (.Assign [.Name y py] (.ListComp elt [⟨tg, iter, ifs, 0⟩, ⟨tg1, iter1, ifs1, 0⟩] scope pos) spos) (tS g W mp (sSet mp i (eCmp2 (own.map (·.2)) src fg t src1 vs1 fg1 t1 f))) := ss_setCmp2 hc hN hy hyl hsw hi (blk_by ok) hv hg ht hi1 hg1 ht1 he hs hs1
theorem gM {tg : Expr} {fg : FG} {vs ws : List Nat} (h : PG X tg (tG g vs fg)) (hv : ∀ i ∈ vs, i ∈ ws) : PG X tg (tG g ws fg) := by
  refine ⟨fun pins s σ H v u Q I r hq => ?_⟩
  obtain ⟨B, G0, G, env, d, env', S, e, k⟩ := hq
  exact h.run pins s σ H v u Q I r ⟨B, G0, G, env, d, env', S, e, fun σ' ag S' => k σ' ⟨ag.1, fun j hj => ag.2 j fun z => hj (hv j z)⟩ S'⟩
end
end Eng
end
section
set_option Elab.async false
set_option linter.all false
set_option maxRecDepth 100000
namespace Eng
open PySem L2
open PyProof.Rows hiding St

section
variable {P : Program} {w : World} {g : Gs} {mg : Str → Option Value} {base : Heap}
theorem fnX {k : Nat} {x ql : Str} {st : Stmt} {f : Addr} {fd : FuncData} {N ps : List Str} {mp : List Nat} {body : FS} (F : Fun g.K x ql st f fd) (S : FnScope N ps (defScope st))
    (hb : ∀ (cd : Value) (A : Around) (ou : List PySem.Env) (s : Shared) (H : Hp) (E : XK), XO (BX P w g mg base N ql (defScope st) f cd A ou s H E) g k → (BX P w g mg base N ql (defScope st) f cd A ou s H E).calm = true → (BX P w g mg base N ql (defScope st) f cd A ou s H E).N.Nodup →
      Takes (BX P w g mg base N ql (defScope st) f cd A ou s H E) (fun c d _ H' => E c d H') →
      PassesOwn (model P w) (BX P w g mg base N ql (defScope st) f cd A ou s H E).A (BX P w g mg base N ql (defScope st) f cd A ou s H E).env (BX P w g mg base N ql (defScope st) f cd A ou s H E).xe →
      PSs (BX P w g mg base N ql (defScope st) f cd A ou s H E) (defBody st) (tS g (fun c d _ H' => E c d H') mp body)) (hmp : mp.Nodup := by decide) (hlt : ∀ i ∈ mp, i < ps.length := by decide) :
    Fn P w mg base g (k + 1) f fd ps mp (runF N.length mp body) :=
  fn_rule F S hmp hlt fun cd A ou s H E hr => hb cd A ou s H E ⟨rfl, hr⟩ rfl S.nd (takes_of rfl rfl rfl rfl) (passes_of rfl)
theorem fnXE {n k : Nat} {x ql : Str} {st : Stmt} {f : Addr} {fd : FuncData} {N : List Str} {y : Str} {body : Addr → Addr → Nat → FS} {hm : Nat → List D → Option D} (F : Fun g.K x ql st f fd) (S : FnScope N [y] (defScope st))
    (hmir : ∀ c fs m, hm c fs = some m → ∀ a d, ∃ m' env', body a d c (some (.im (.exn a d c fs)) :: List.replicate (N.length - 1) none) = .ok (.rt m', env') ∧ frz m' = m)
    (hb : ∀ (cd : Value) (A : Around) (ou : List PySem.Env) (s : Shared) (H : Hp) (E : XK) (a d : Addr) (c : Nat) (oe : Obj), XO (BH P w g mg base N ql (defScope st) f cd A ou s H E (a, oe)) g k → (BH P w g mg base N ql (defScope st) f cd A ou s H E (a, oe)).N.Nodup → HotE (BH P w g mg base N ql (defScope st) f cd A ou s H E (a, oe)) g n a d c →
      PSs (BH P w g mg base N ql (defScope st) f cd A ou s H E (a, oe)) (defBody st) (tS g (fun _ _ _ _ => False) [] (body a d c))) :
    FnE P w mg base g n (k + 1) f fd y hm :=
  fn_ruleE F S hmir fun cd A ou s H E a d c oe hr hc hz hf => hb cd A ou s H E a d c oe ⟨rfl, hr⟩ S.nd ⟨hc, oe, List.mem_cons_self, hz, hf⟩
/-- a def that is never run -/
theorem Fn.bad {k : Nat} {f : Addr} {fd : FuncData} {ps : List Str} {mp : List Nat} : Fn P w mg base g k f fd ps mp (fun _ => .bad) :=
  ⟨fun A ou s H args us vs Q E hr hh e0 hb r h => by
    obtain ⟨_, G, ms, F, _, _, _, p⟩ := h
    exact False.elim p⟩
end
section
variable {X : Cx} {g : Gs} {W : WX} {kk : Nat} {a b c e : Expr} {es : List Expr} {f fb : FE} {fo go ho : FO} {pos p p1 p2 p3 cpos apos spos : Pos} {k : FA} {mp : List Nat} {sk sl : FS} {x : Str}
theorem atN (i c : Nat) {kx : Nat} (hN : X.N[i]? = some x := by rfl) (hv : Vis X.env.scope x := by first | exact Or.inl rfl | exact Or.inr (Or.inl rfl) | exact Or.inr (Or.inr rfl)) (hd : (x == ("__debug__" : Str)) = false := by rfl) (hcd : (x == ("__classdict__" : Str)) = false := by rfl) (hs : PlainIx (.Constant (.int c) kx p1) := by intro _ _; rfl) :
    PE X (.Subscript (.Name x p) (.Constant (.int c) kx p1) p2) (tE g W (eAt i c)) := se_at hN hv hd hcd hs
theorem truN (o : XO X g kk) (i c : Nat) {kx : Nat} (hN : X.N[i]? = some x := by rfl) (hv : Vis X.env.scope x := by first | exact Or.inl rfl | exact Or.inr (Or.inl rfl) | exact Or.inr (Or.inr rfl)) (hd : (x == ("__debug__" : Str)) = false := by rfl) (hcd : (x == ("__classdict__" : Str)) = false := by rfl) (hs : PlainIx (.Constant (.int c) kx p1) := by intro _ _; rfl)
    (he : ∀ whole, isTrue (.Subscript (.Name x p) (.Constant (.int c) kx p1) p2) X.env whole = (do let v ← whole; standAt (Expr.Subscript (.Name x p) (.Constant (.int c) kx p1) p2).pos; holding [v] (truthy v)) := by intro _; rfl) :
    PT X (.Subscript (.Name x p) (.Constant (.int c) kx p1) p2) (tT g W (tTruN i c)) := st_truN o.K hN hv hd hcd hs he
theorem at2 (i c j : Nat) {kx ky : Nat} (hN : X.N[i]? = some x := by rfl) (hv : Vis X.env.scope x := by first | exact Or.inl rfl | exact Or.inr (Or.inl rfl) | exact Or.inr (Or.inr rfl)) (hd : (x == ("__debug__" : Str)) = false := by rfl) (hcd : (x == ("__classdict__" : Str)) = false := by rfl) (hs : PlainIx (.Constant (.int c) kx p1) := by intro _ _; rfl) (hs2 : PlainIx (.Constant (.int j) ky p3) := by intro _ _; rfl) :
    PE X (.Subscript (.Subscript (.Name x p) (.Constant (.int c) kx p1) p2) (.Constant (.int j) ky p3) pos) (tE g W (eAt2 i c j)) := se_at2 hN hv hd hcd hs hs2
theorem appN (i c j : Nat) {y : Str} {py : Pos} {kx : Nat} (hN : X.N[i]? = some x := by rfl) (hv : Vis X.env.scope x := by first | exact Or.inl rfl | exact Or.inr (Or.inl rfl) | exact Or.inr (Or.inr rfl)) (hd : (x == ("__debug__" : Str)) = false := by rfl) (hcd : (x == ("__classdict__" : Str)) = false := by rfl) (hix : PlainIx (.Constant (.int c) kx p1) := by intro _ _; rfl)
    (hNy : X.N[j]? = some y := by rfl) (hvy : Vis X.env.scope y := by first | exact Or.inl rfl | exact Or.inr (Or.inl rfl) | exact Or.inr (Or.inr rfl)) (hdy : (y == ("__debug__" : Str)) = false := by rfl) (hcdy : (y == ("__classdict__" : Str)) = false := by rfl)
    (hbase : attributeBase (.Subscript (.Name x p) (.Constant (.int c) kx p1) p2) "append" X.env (eval (.Subscript (.Name x p) (.Constant (.int c) kx p1) p2) X.env) = eval (.Subscript (.Name x p) (.Constant (.int c) kx p1) p2) X.env := by rfl)
    (hfew : ((backTo cpos (starEach [.Name y py] X.env)).all (fun x => !x.1) && (backToKw cpos (keywordEach [] X.env)).all (fun x => x.1.isSome)
      && decide ([Expr.Name y py].length + ([] : List Keyword).length + (if ([] : List Keyword).isEmpty then 0 else 1) < 30)) = true := by rfl)
    (hline : (apos.endLine == cpos.line) = true := by rfl) (hs : starEach [.Name y py] X.env = (false, eval (.Name y py) X.env) :: starEach [] X.env := by rfl) (hplain : (backTo cpos (starEach [] X.env)).any (·.1) = false := by rfl) :
    PE X (.Call (.Attribute (.Subscript (.Name x p) (.Constant (.int c) kx p1) p2) "append" apos) [.Name y py] [] cpos) (tE g W (eAppN i c j)) := se_appN hN hv hd hcd hix hNy hvy hdy hcdy hbase hfew hline hs hplain
theorem popN (i c : Nat) {kx kz : Nat} {pz : Pos} (hN : X.N[i]? = some x := by rfl) (hv : Vis X.env.scope x := by first | exact Or.inl rfl | exact Or.inr (Or.inl rfl) | exact Or.inr (Or.inr rfl)) (hd : (x == ("__debug__" : Str)) = false := by rfl) (hcd : (x == ("__classdict__" : Str)) = false := by rfl) (hix : PlainIx (.Constant (.int c) kx p1) := by intro _ _; rfl)
    (hbase : attributeBase (.Subscript (.Name x p) (.Constant (.int c) kx p1) p2) "pop" X.env (eval (.Subscript (.Name x p) (.Constant (.int c) kx p1) p2) X.env) = eval (.Subscript (.Name x p) (.Constant (.int c) kx p1) p2) X.env := by rfl)
    (hfew : ((backTo cpos (starEach [.Constant (.int 0) kz pz] X.env)).all (fun x => !x.1) && (backToKw cpos (keywordEach [] X.env)).all (fun x => x.1.isSome)
      && decide ([Expr.Constant (.int 0) kz pz].length + ([] : List Keyword).length + (if ([] : List Keyword).isEmpty then 0 else 1) < 30)) = true := by rfl)
    (hline : (apos.endLine == cpos.line) = true := by rfl) (hs : starEach [.Constant (.int 0) kz pz] X.env = (false, eval (.Constant (.int 0) kz pz) X.env) :: starEach [] X.env := by rfl) (hplain : (backTo cpos (starEach [] X.env)).any (·.1) = false := by rfl) :
    PE X (.Call (.Attribute (.Subscript (.Name x p) (.Constant (.int c) kx p1) p2) "pop" apos) [.Constant (.int 0) kz pz] [] cpos) (tE g W (ePopN i c)) := se_popN hN hv hd hcd hix hbase hfew hline hs hplain
theorem putN (i c j : Nat) {kx ky : Nat} (he : PE X e (tE g W f)) (hN : X.N[i]? = some x := by rfl) (hv : Vis X.env.scope x := by first | exact Or.inl rfl | exact Or.inr (Or.inl rfl) | exact Or.inr (Or.inr rfl)) (hd : (x == ("__debug__" : Str)) = false := by rfl) (hcd : (x == ("__classdict__" : Str)) = false := by rfl) (hix : PlainIx (.Constant (.int c) kx p1) := by intro _ _; rfl)
    (ha : ∀ v, assign (.Subscript (.Subscript (.Name x p) (.Constant (.int c) kx p1) p2) (.Constant (.int j) ky p3) pos) X.env v = (do
      let ov ← holding [v] (eval (.Subscript (.Name x p) (.Constant (.int c) kx p1) p2) X.env)
      let iv ← holding [v, ov] (eval (.Constant (.int j) ky p3) X.env)
      standAt pos
      holding [v, ov, iv] (setItem ov iv v)
      release [v, ov, iv] []) := by intro _; rfl)
    (hs : swapsWithSole [.Subscript (.Subscript (.Name x p) (.Constant (.int c) kx p1) p2) (.Constant (.int j) ky p3) pos] e spos.line X.env = pure false := by rfl) (hw : swappedStores [.Subscript (.Subscript (.Name x p) (.Constant (.int c) kx p1) p2) (.Constant (.int j) ky p3) pos] e X.env = pure none := by rfl)
    (h1 : (assignEach [.Subscript (.Subscript (.Name x p) (.Constant (.int c) kx p1) p2) (.Constant (.int j) ky p3) pos] X.env).map (·.2) = [assign (.Subscript (.Subscript (.Name x p) (.Constant (.int c) kx p1) p2) (.Constant (.int j) ky p3) pos) X.env] := by rfl) :
    PS X (.Assign [.Subscript (.Subscript (.Name x p) (.Constant (.int c) kx p1) p2) (.Constant (.int j) ky p3) pos] e spos) (tS g W mp (sPutN i c j f)) := ss_putN hN hv hd hcd hix he ha hs hw h1
theorem raises {n : Nat} {fls : List Str} (tk : Takes X W) (o : XO X g (n + 2)) (cl : Nat) (hc : X.calm = true) (T : XInit X.prog X.w X.K X.mg X.base (g.cls cl) fls) (hm : X.mg x = some (.ref (g.cls cl))) (ha : PA X (e :: es) (tA' g W k)) (hf : g.fld cl = fls.reverse := by rfl) (hg : Gl X x := by rfl)
    (hdb : (x == ("__debug__" : Str)) = false := by rfl) (he : starEach (e :: es) X.env = (false, eval e X.env) :: starEach es X.env := by rfl) (hpl : (backTo pos (starEach es X.env)).any (·.1) = false := by rfl) (hn : fls.length ≤ 1000 := by decide) :
    PS X (.Raise (some (.Call (.Name x p) (e :: es) [] pos)) none p2) (tS g W mp (sRaise cl fls.length k)) := ss_raise hc o.r T hf hm hg tk ha hdb he hpl hn
theorem isE {n : Nat} {sub : Nat → Nat → Bool} {ad d : Addr} {cc : Nat} {xc : Str} {q q2 : Pos} (C : Nat) (o : XO X g kk) (T : ECs g n sub) (hh : HotE X g n ad d cc) (hm : X.mg "isinstance" = none) (hmc : X.mg xc = some (.ref (g.cls C))) (hC : C < n := by decide) (hN : X.N[0]? = some x := by rfl) (hv : Vis X.env.scope x := by first | exact Or.inl rfl | exact Or.inr (Or.inl rfl) | exact Or.inr (Or.inr rfl)) (hd : (x == ("__debug__" : Str)) = false := by rfl) (hcd : (x == ("__classdict__" : Str)) = false := by rfl) (hg : Gl X "isinstance" := by rfl) (hgc : Gl X xc := by rfl) (hdc : (xc == ("__debug__" : Str)) = false := by rfl)
    (hs1 : starEach [.Name x q, .Name xc q2] X.env = (false, eval (.Name x q) X.env) :: starEach [.Name xc q2] X.env := by rfl) (hs2 : starEach [.Name xc q2] X.env = (false, eval (.Name xc q2) X.env) :: starEach [] X.env := by rfl) (hpl : (backTo pos (starEach [.Name xc q2] X.env)).any (·.1) = false := by rfl) :
    PE X (.Call (.Name "isinstance" p) [.Name x q, .Name xc q2] [] pos) (tE g W (eIsE ad d cc (sub cc C))) := se_isE o.K T hC hh hN hv hd hcd hg hm hgc hmc hdc hs1 hs2 hpl
theorem fldE {n : Nat} {sub : Nat → Nat → Bool} {ad d : Addr} {cc : Nat} {fl : Str} {q : Pos} (o : XO X g kk) (T : ECs g n sub) (hh : HotE X g n ad d cc) (hN : X.N[0]? = some x := by rfl) (hv : Vis X.env.scope x := by first | exact Or.inl rfl | exact Or.inr (Or.inl rfl) | exact Or.inr (Or.inr rfl)) (hd : (x == ("__debug__" : Str)) = false := by rfl) (hcd : (x == ("__classdict__" : Str)) = false := by rfl)
    (hb : attributeBase (.Name x q) fl X.env (eval (.Name x q) X.env) = eval (.Name x q) X.env := by rfl) : PE X (.Attribute (.Name x q) fl pos) (tE g W (eFldE ad d cc (g.fld cc) fl)) := se_fldE o.K T hh hN hv hd hcd hb
theorem tryE {n : Nat} {sub : Nat → Nat → Bool} {kf : Nat} {f' : Addr} {fd : FuncData} {hm : Nat → List D → Option D} {z y xC : Str} {np cp vp pos' rp pc : Pos} {body : List Stmt} (C0 i : Nat) (o : XO X g kk) (F : FnE X.prog X.w X.mg X.base g n kf f' fd z hm) (T : ∀ c, c < n → PySem.W.exmOne g.K (.ref (g.cls c)) (.ref (g.cls C0)) = some (sub c C0)) (hNd : X.N.Nodup)
    (hmC : X.mg xC = some (.ref (g.cls C0))) (tk : Takes X W) (hmx : X.mg x = some (.ref f')) (hkp : PySem.W.keepIn X.K (.ref f') = true) (hb : Binds X.K fd [z] [])
    (hbody : ∀ (W' : WX) (pn : List (Addr × Obj)) (xe : Value → Shared → Prop), Takes (X.tr pn xe) W' → PassesOwn (model X.prog X.w) X.A X.env xe → PSs (X.tr pn xe) body (tS g W' mp sk))
    (hle : kf ≤ kk := by decide) (hs : X.stack = X.env :: X.outer := by rfl) (hfr : X.env.frame = some X.env.locals := by rfl) (hN : X.N[i]? = some y := by rfl) (hln : X.env.kindOf y = some .local := by rfl) (hv : Vis X.env.scope y := by first | exact Or.inl rfl | exact Or.inr (Or.inl rfl) | exact Or.inr (Or.inr rfl)) (hd : (y == ("__debug__" : Str)) = false := by rfl) (hcd : (y == ("__classdict__" : Str)) = false := by rfl)
    (hgC : Gl X xC := by rfl) (hdC : (xC == ("__debug__" : Str)) = false := by rfl) (hg : Gl X x := by rfl) (hdb : (x == ("__debug__" : Str)) = false := by rfl) (he : starEach [.Name y vp] X.env = (false, eval (.Name y vp) X.env) :: starEach [] X.env := by rfl) (hpl : (backTo pc (starEach [] X.env)).any (·.1) = false := by rfl) :
    PS X (.Try body [.ExceptHandler (some (.Name xC np)) (some y) [.Return (some (.Call (.Name x cp) [.Name y vp] [] pc)) rp] pos'] [] [] pos) (tS g W mp (sTry i sk n sub C0 hm)) :=
  ss_try F o.K o.r hle T hs hfr hNd hN hln hv hd hcd hgC hdC hmC tk hg hmx hkp hb hdb he hpl hbody
end
end Eng
end
section
set_option Elab.async false
set_option linter.all false
set_option maxRecDepth 100000
namespace Eng
open PySem L2
open PyProof.Rows hiding St
section
variable {X : Cx} {g : Gs} {W : WX} {a : Expr} {es : List Expr} {t u : FT}
theorem XO.b {kk : Nat} (o : XO X g kk) {s : Shared} {H : Hp} {sc : Scope} {ce : PySem.Env} {fp : List Addr} : XO (X.blk s H sc ce fp) g kk := ⟨o.K, o.r⟩
theorem XO.tt {kk : Nat} (o : XO X g kk) {pn : List (Addr × Obj)} {xe : Value → Shared → Prop} : XO (X.tr pn xe) g kk := ⟨o.K, o.r⟩
theorem sts_one (h : PT X a (tT g W t)) : PTs X [a] (tT g W t) := pts_one h
end
end Eng
end
section
set_option Elab.async false
set_option linter.all false
set_option maxRecDepth 100000
namespace Eng
open PySem L2
open PyProof.Rows hiding St

/-! ### what the head tells -/
/-- an own class over ValueError with an __init__ of its own, as it is written -/
def ownE (K : PySem.W.Frag) (C : Addr) : Bool := match K.lookup C with
  | some ⟨.type "type", _, .cls u, sl⟩ => (match u.mro, sl.toList with
    | .ref C' :: bm, [_, _, _, _, some (.builtin m), _] => decide (C' = C) && (decide (m = "ValueError.__new__") && (!u.hasDel && (u.hasDict && PySem.HandSPX.refsVE bm)))
    | _, _ => false)
  | _ => false
def oexB (K : PySem.W.Frag) (C : Addr) : Bool := ownE K C && (decide (PySem.W.findIn K (.ref C) "__setattr__" = some (some (.builtin "object.__setattr__"))) && (decide (PySem.W.subIn K (.ref C) (.type "BaseException") = some true) && (decide (PySem.W.typeIn K (.ref C) = some (.type "type")) && PySem.W.keepIn K (.ref C))))
theorem an2 {a b : Bool} (h : (a && b) = true) : a = true ∧ b = true := Bool.and_eq_true_iff.mp h
theorem oex_of {K : PySem.W.Frag} {C : Addr} (h : oexB K C = true) : OexC K C := by
  obtain ⟨h1, h2⟩ := an2 h
  obtain ⟨h2, h3⟩ := an2 h2
  obtain ⟨h3, h4⟩ := an2 h3
  obtain ⟨h4, h5⟩ := an2 h4
  refine ⟨?_, of_decide_eq_true h2, of_decide_eq_true h3, of_decide_eq_true h4, h5⟩
  unfold ownE at h1
  split at h1
  · rename_i dd u sl ho
    split at h1
    · rename_i C' bm s0 s1 s2 s3 m s5 hm hs
      obtain ⟨b1, r1⟩ := an2 h1
      obtain ⟨b2, r2⟩ := an2 r1
      obtain ⟨b3, r3⟩ := an2 r2
      obtain ⟨b4, a5⟩ := an2 r3
      have e1 := of_decide_eq_true b1
      have e2 := of_decide_eq_true b2
      subst e1 e2
      obtain ⟨nm, bs, mro, ns, qn, hd, sn, sub, ab, col, del⟩ := u
      have e3 : del = false := by simpa using b3
      have e4 : hd = true := b4
      dsimp only at hm
      subst hm e3 e4
      obtain ⟨l⟩ := sl
      simp only at hs
      subst hs
      exact ⟨nm, qn, ns, bs, bm, sn, sub, ab, col, dd, s0, s1, s2, s3, s5, ho, a5⟩
    · cases h1
  · cases h1
/-- what isinstance and e.f want of such a class -/
def ecB (K : PySem.W.Frag) (C : Addr) : Bool := (PySem.W.clsIn K C).isSome && (decide (PySem.W.findIn K (.ref C) "__getattribute__" = some (some (.builtin "BaseException.__getattribute__"))) && (decide (PySem.W.findIn K (.ref C) "__getattr__" = some none) && (decide (PySem.W.subIn K (.ref C) (.type "BaseException") = some true) && (PySem.W.hasDictIn K C &&
  (decide (PySem.W.findIn K (.ref C) "__class__" = some (some (.builtin "object.__class__"))) && (decide (PySem.W.specialIn K (.builtin "object.__class__") "__get__" = some (some (.builtin "getset_descriptor.__get__"))) && (decide (PySem.W.takesIn K (.builtin "object.__class__") = some true) && decide (PySem.W.mroIn K C (.type "object") = some true))))))))
theorem ec_of {K : PySem.W.Frag} {C : Addr} (h : ecB K C = true) : EC K C := by
  obtain ⟨h1, h⟩ := an2 h
  obtain ⟨h2, h⟩ := an2 h
  obtain ⟨h3, h⟩ := an2 h
  obtain ⟨h4, h⟩ := an2 h
  obtain ⟨h5, h⟩ := an2 h
  obtain ⟨h6, h⟩ := an2 h
  obtain ⟨h7, h⟩ := an2 h
  obtain ⟨h8, h9⟩ := an2 h
  exact ⟨h1, of_decide_eq_true h2, of_decide_eq_true h3, of_decide_eq_true h4, h5, of_decide_eq_true h6, of_decide_eq_true h7, of_decide_eq_true h8, of_decide_eq_true h9⟩
/-- the classes' table -/
def ecsB (K : PySem.W.Frag) (cls : List Addr) (fld : Nat → List Str) (sub : Nat → Nat → Bool) : Bool :=
  cls.all (ecB K) && ((List.range cls.length).all (fun i => (List.range cls.length).all fun j => decide (PySem.W.kitOne K (.ref (cls.getD i 0)) (.ref (cls.getD j 0)) = some (sub i j))) &&
    (List.range cls.length).all fun i => (fld i).all fun f => decide (PySem.W.findIn K (.ref (cls.getD i 0)) f = some none))
theorem ecs_of {K : PySem.W.Frag} {cls : List Addr} {fld : Nat → List Str} {sub : Nat → Nat → Bool} (h : ecsB K cls fld sub = true) : ECs ⟨K, fun i => cls.getD i 0, fld⟩ cls.length sub := by
  obtain ⟨h1, h⟩ := an2 h
  obtain ⟨h2, h3⟩ := an2 h
  refine ⟨fun c hc => ?_, fun c C hc hC => ?_, fun c hc f hf => ?_⟩
  · have e : cls.getD c 0 = cls[c] := by simp [hc]
    show EC K (cls.getD c 0)
    rw [e]
    exact ec_of (List.all_eq_true.mp h1 _ (List.getElem_mem hc))
  · exact of_decide_eq_true (List.all_eq_true.mp (List.all_eq_true.mp h2 c (List.mem_range.mpr hc)) C (List.mem_range.mpr hC))
  · exact of_decide_eq_true (List.all_eq_true.mp (List.all_eq_true.mp h3 c (List.mem_range.mpr hc)) f hf)
def exmB (K : PySem.W.Frag) (cls : List Addr) (sub : Nat → Nat → Bool) (C : Nat) : Bool := (List.range cls.length).all fun i => decide (PySem.W.exmOne K (.ref (cls.getD i 0)) (.ref (cls.getD C 0)) = some (sub i C))
theorem exm_of {K : PySem.W.Frag} {cls : List Addr} {sub : Nat → Nat → Bool} {C : Nat} (h : exmB K cls sub C = true) : ∀ c, c < cls.length → PySem.W.exmOne K (.ref (cls.getD c 0)) (.ref (cls.getD C 0)) = some (sub c C) := fun c hc =>
  of_decide_eq_true (List.all_eq_true.mp h c (List.mem_range.mpr hc))
/-- the class's own __init__ -/
def iniB (K : PySem.W.Frag) (C f : Addr) : Bool := decide (PySem.W.findIn K (.ref C) "__init__" = some (some (.ref f))) && decide (PySem.W.typeIn K (.ref f) = some (.type "function"))
theorem fun_of {K : PySem.W.Frag} {x ql : Str} {st : Stmt} {f : Addr} {fd : FuncData} (F : FunD K x ql (defArgs st) (defBody st) (defScope st) [] [] f fd) : Fun K x ql st f fd := by
  obtain ⟨oc, od, dV, kV, doc, pm, an, cd, ct, sl, e, lk, hc, hD, hK⟩ := F.ex
  rcases hD with ⟨_, rfl⟩ | ⟨h, _⟩
  · exact ⟨⟨oc, od, kV, doc, pm, an, cd, ct, sl, e, lk, hc⟩, F.kp⟩
  · exact absurd rfl h
/-- the facts, read once -/
def hookE (n : Nat) (fa : List He.Fa) (fn : List He.DefD) (ex : PySem.W.Frag → Bool) : PySem.W.Hook where
  α := He.AlD × Bool
  obs := fun s => (fun K => (He.obsD fa fn K, ex K)) (He.frG s.heap.get? (He.asD s.heap.get? n))
  val := fun _ => (He.valD fn, true)
  says := fun _ h => ∃ K : PySem.W.Frag, K.In h ∧ He.SaysD fa fn K ∧ ex K = true
  of := fun _ _ e => ⟨_, He.frG_in, congrArg Prod.fst e, congrArg Prod.snd e⟩
  keeps := fun _ _ _ ⟨K, hK, c⟩ k => ⟨K, PySem.W.Frag.In.keeps hK k, c⟩
def obE (n : Nat) (fa : List He.Fa) (fn : List He.DefD) (ex : PySem.W.Frag → Bool) (s : PySem.W.SharedT) : He.AlD × Bool := (fun K => (He.obsD fa fn K, ex K)) (He.frG (HandSHeadRun.getT s) (He.asD (HandSHeadRun.getT s) n))
theorem obE_eq {n : Nat} {fa : List He.Fa} {fn : List He.DefD} {ex : PySem.W.Frag → Bool} (s : PySem.W.SharedT) : obE n fa fn ex s = (hookE n fa fn ex).obs s.abs := by
  have e : HandSHeadRun.getT s = s.abs.heap.get? := funext (HandSHeadRun.getT_eq s)
  unfold obE
  rw [e] <;> rfl
theorem law_walkE {l : PySem.W.OpenLaw} {n k : Nat} {q : Program} {loose : List Str} {XP : (Str → Option Value) → Heap → Prop} {YP : World → Heap → Prop} {d : DefRec} {x : Str} {mir : Mir}
    (hn : l.most = some n) (hn2 : n ≤ sizeLine) (hdf : d.params.defaults = []) (hr : RG k callerA)
    (F : ∀ (w : World) (mg : Str → Option Value) (fa : Addr) (h : Heap), YP w h → h.Ns mainGlobals mg → mg d.name = some (.ref fa) →
      ∃ (g : Gs) (fd : FuncData), g.K.In h ∧ (∀ (s : Shared) (u : Value), BindsTo s fd ⟨[u], []⟩ [(x, u)]) ∧ ∀ base : Heap, g.K.In base → base.Ns mainGlobals mg → Fn l.prog w mg base g k fa fd [x] [] mir)
    (hm : ∀ ns : List Int, ns.length ≤ n → mir [.im (.scr ns)] = .ok (.im (.bl true), [])) :
    PySem.W.WalkO q loose XP YP l.row.toRowW d [] (fun f vs => PySem.call f vs) := by
  refine Att.attach_call hn hdf fun w s₀ s₁ mg mb fa o pm cd doc a vs ns G Y ho hd hcd hmg hobj hints hlen hg => ?_
  obtain ⟨g, fd, KX, hb, hF⟩ := F w mg fa _ Y G.T.g hmg
  exact law_run KX G.T.g G.T.b G.T.builtins G.T.nolimit hg hobj hints (Nat.le_trans hlen hn2) hr hF hb (hm ns hlen)
theorem kw_of {K : PySem.W.Frag} {x ql : Str} {st : Stmt} {f : Addr} {fd : FuncData} {y : Str} (F : Fun K x ql st f fd)
    (h : ∀ (kV doc pm : Value) (an : Option Addr) (cd ct : Value) (u : Value), bindArgs (PySem.W.fnOf x ql (defArgs st) (defBody st) (defScope st) .none kV doc pm an cd ct) ⟨[], [(y, u)]⟩ = pure [(y, u)]) : ∀ (s : Shared) (u : Value), BindsTo s fd ⟨[], [(y, u)]⟩ [(y, u)] := fun s u => by
  obtain ⟨oc, od, kV, doc, pm, an, cd, ct, sl, rfl, _, _⟩ := F.ex
  exact .of_eq (h kV doc pm an cd ct u)
theorem b_one {K : PySem.W.Frag} {x ql : Str} {st : Stmt} {f : Addr} {fd : FuncData} {y : Str} (F : Fun K x ql st f fd)
    (h : ∀ (kV doc pm : Value) (an : Option Addr) (cd ct : Value) (u : Value), bindArgs (PySem.W.fnOf x ql (defArgs st) (defBody st) (defScope st) .none kV doc pm an cd ct) ⟨[u], []⟩ = pure [(y, u)]) : ∀ (s : Shared) (u : Value), BindsTo s fd ⟨[u], []⟩ [(y, u)] := fun s u => by
  obtain ⟨oc, od, kV, doc, pm, an, cd, ct, sl, rfl, _, _⟩ := F.ex
  exact .of_eq (h kV doc pm an cd ct u)
end Eng
end
section
set_option Elab.async false
set_option linter.all false
set_option maxRecDepth 100000
namespace Eng
open PySem L2
open PyProof.Rows hiding St

/-! ### sorted(t), t a tuple -/
section
variable {prog : Program} {w : World} {A : Around} {E : Value → Shared → Prop} {s : Shared}
/-- the heap behind the collecting -/
abbrev colH (h : Heap) (us : List Value) : Heap := (h.push (seqObj "list" #[] 0)).update h.objs.size (Obj.mapSeq (· ++ us.toArray))
theorem collectT {t : Addr} {us : List Value} {R : List Value → Shared → Prop} (ht : IsTup s.heap t us.toArray) (k : R us { s with heap := colH s.heap us }) (z : us.length ≤ sizeLine) :
    wpAny (model prog w) A (collect (.ref t)) R E s := by
  obtain ⟨o, g, c, n, d⟩ := ht
  have g' : (s.heap.push (seqObj "list" #[] 0)).get? t = some o := Heap.get?_push_of_some _ g
  unfold collect
  refine wpAny_bind (wpAny_runValue (codeAny_builtin entry_proto_collect' ?_))
  refine wpAny_bind (m := newList []) (wpAny_newList (wpAny_pure ⟨Code.quiet_builtin _ (by decide +kernel), codeAny_builtin entry_list_iadd' ?_⟩))
  show wpAny _ _ (Builtin.List.listExtendWith (.ref s.heap.objs.size) (.ref t) (.ref s.heap.objs.size)) _ _ { s with heap := s.heap.push _ }
  unfold Builtin.List.listExtendWith
  refine wpAny_bind (wpAny_typeOf (T := "tuple") ⟨o, g', c⟩ ?_)
  have e : (Value.type "tuple" == Value.type "tuple") = true := rfl
  rw [if_pos (by rw [e]; simp)]
  refine wpAny_bind (listItems_at g' d (wpAny_bind (listItems_at (xs := #[]) (n := 0) (Heap.get?_push_size _ rfl) rfl ?_)))
  rw [if_neg (by simp)]
  refine wpAny_bind (listUpdate_at (xs := #[]) (n := 0) (Heap.get?_push_size _ rfl) rfl (wpAny_pure ?_) (Nat.zero_le _) (by show (#[] ++ us.toArray).size ≤ sizeLine + 1; rw [Array.size_append, List.size_toArray]; show 0 + us.length ≤ _; omega))
  show wpAny (model prog w) A (do
      let ob ← load s.heap.objs.size
      match ob.data with
      | .seq ys _ => pure ys.toList
      | _ => unsupported "internal:collect") R E { s with heap := colH s.heap us }
  refine wpAny_bind (wpAny_load (get?_update_seq (Heap.get?_push_size _ rfl) _) ?_)
  show wpAny _ _ (pure ((#[] : Array Value) ++ us.toArray).toList) R E _
  have e2 : ((#[] : Array Value) ++ us.toArray).toList = us := by simp
  rw [e2]; exact wpAny_pure k
theorem col_old {h : Heap} {us : List Value} {b : Addr} {o : Obj} (q : h.get? b = some o) : b ≠ h.objs.size + 1 ∧ ((colH h us).push (seqObj "list" us.toArray 0)).get? b = some o := by
  have lt := Heap.lt_size q
  refine ⟨Nat.ne_of_lt (Nat.lt_succ_of_lt lt), Heap.get?_push_of_some _ ?_⟩
  rw [Heap.get?_update_ne _ _ _ _ (Nat.ne_of_lt lt)]; exact Heap.get?_push_of_some _ q
theorem col_new (h : Heap) (us : List Value) : ((colH h us).push (seqObj "list" us.toArray 0)).get? (h.objs.size + 1) = some (seqObj "list" us.toArray 0) := by
  have e : (colH h us).objs.size = h.objs.size + 1 := by rw [Heap.size_update]; exact size_push' _ _
  rw [← e]; exact Heap.get?_push_size _ rfl
/-- sorted(t), by an order -/
theorem sortedT_ord {t : Addr} {us : List Value} {lt : Value → Value → Bool} {Q : Value → Shared → Prop} (O : SrtO.Swo lt) (ht : IsTup s.heap t us.toArray) (z : us.length ≤ sizeLine)
    (hS : 2 ≤ us.length → ∀ h1 : Heap, SrtO.SortableO prog w A.in1.in1 { s with heap := h1 } (s.heap.objs.size + 1) us lt)
    (k : ∀ out : List Value, SrtO.Srtd lt out → SrtO.Stb lt out us → Q (.ref (s.heap.objs.size + 1)) { s with heap := sortedAll s.heap us out.toArray }) : wpAny (model prog w) A (call (.builtin "sorted") [.ref t]) Q E s := by
  refine Calls.call_function_entry kind_sorted plain_sorted entry_sorted (args_sorted1 _) ?_
  unfold Builtin.«sorted»
  refine wpAny_bind (m := checkCount "sorted" 1 1 _) (wpAny_pure (wpAny_bind (collectT ht (wpAny_bind (wpAny_newList ?_ z)) z)))
  have e : (colH s.heap us).objs.size = s.heap.objs.size + 1 := by rw [Heap.size_update]; exact size_push' _ _
  show wpAny _ _ _ _ _ { s with heap := (colH s.heap us).push (seqObj "list" us.toArray 0) }
  rw [e]
  have g := col_new s.heap us
  refine wpAny_bind (wpAny_holding (wpAny_call_entry slot_list_sort ⟨_, g, rfl⟩ entry_list_sort (SrtO.list_sort_ord O g z (fun h2 => hS h2 _) fun out a b => ⟨_, rfl, wpAny_pure ⟨_, rfl, k out a b⟩⟩) (args_list_sort _)))
/-- sorted(t), tuples of numbers -/
theorem sortedT_tups {t : Addr} {us : List Value} {d : Nat} {B : Int} {Q : Value → Shared → Prop} (ht : IsTup s.heap t us.toArray) (h64 : us.length < 64) (hd : 1 ≤ d) (x : TS.TupsOk s.heap d B us)
    (k : ∀ out : Array Value, out.toList.Perm us → out.toList.Pairwise (fun a b => TS.code B (TS.intsOf s.heap a) ≤ TS.code B (TS.intsOf s.heap b)) → Q (.ref (s.heap.objs.size + 1)) { s with heap := sortedAll s.heap us out }) : wpAny (model prog w) A (call (.builtin "sorted") [.ref t]) Q E s := by
  refine Calls.call_function_entry kind_sorted plain_sorted entry_sorted (args_sorted1 _) ?_
  have z : us.length ≤ sizeLine := by rw [sizeLine_eq]; omega
  unfold Builtin.«sorted»
  refine wpAny_bind (m := checkCount "sorted" 1 1 _) (wpAny_pure (wpAny_bind (collectT ht (wpAny_bind (wpAny_newList ?_ z)) z)))
  have e : (colH s.heap us).objs.size = s.heap.objs.size + 1 := by rw [Heap.size_update]; exact size_push' _ _
  show wpAny _ _ _ _ _ { s with heap := (colH s.heap us).push (seqObj "list" us.toArray 0) }
  rw [e]
  have g := col_new s.heap us
  have kp : ∀ b o, s.heap.get? b = some o → o.cls = .type "tuple" → ((colH s.heap us).push (seqObj "list" us.toArray 0)).get? b = some o := fun b o q _ => (col_old q).2
  refine wpAny_bind (wpAny_holding (wpAny_call_entry slot_list_sort ⟨_, g, rfl⟩ entry_list_sort (TS.sort_tups g h64 hd (x.keeps kp) (fun v => TS.code B (TS.intsOf s.heap v)) (fun v hv ns tt => ?_) fun out a b => ⟨_, rfl, wpAny_pure ⟨_, rfl, k out a b⟩⟩) (args_list_sort _)))
  obtain ⟨ms, t0, _⟩ := x v hv
  rw [tt.ints.symm.trans (t0.keeps kp).ints]
  show TS.code B (TS.intsOf s.heap v) = TS.code B ms
  rw [t0.ints]
end
section
variable {X : Cx} {g : Gs}
def sortedFT : List D → Option M
  | [.tup xs] => (intsD xs).map fun ns => .ls ((ns.mergeSort (fun a b => decide (a ≤ b))).map fun n => .im (.int n))
  | _ => none
def sortedPFT : List D → Option M
  | [.tup xs] => (pairsD xs).bind fun ps => if ps.length < 64 then some (.ls ((ps.mergeSort pairLe).map fun p => .im (pairD p))) else none
  | _ => none
theorem cs_sortedT (hK : X.K = g.K) : CallS X g (.builtin "sorted") sortedFT := by
  intro pins s σ H xs us Q I r ⟨B, G0, G, σ', env, ds, m, S, vw, e, k⟩
  unfold sortedFT at e
  split at e
  · simp only [Option.map_eq_some_iff] at e
    obtain ⟨ns, e1, rfl⟩ := e
    obtain ⟨v, rfl, vw1⟩ := vws1 vw
    simp only [Vw, Rv] at vw1
    obtain ⟨a, vs, rfl, h1, h2⟩ := vw1
    cases h2.ints e1
    obtain ⟨its, rv, hl, hz⟩ := I.tuple (by rw [hK]; exact sqT_same S.s1 h1)
    rw [Vals.ref1 r]
    have hi := rv.ints
    refine sortedT_ord SrtO.swo_int hl (by rw [← rv.length]; exact hz) (fun h2 h₁ => SrtO.ints_sortable hi h2) fun out a1 a2 => ?_
    obtain ⟨k1, k2, k3⟩ := SrtO.ints_out hi a1 a2
    obtain ⟨ep, he'⟩ := PyProof.Rows.sortedAll_at s.heap its out.toArray
    have hlen : ((out.map SrtO.iv).map V.int).length ≤ sizeLine := by
      rw [List.length_map, k2.length_eq]; simpa using hz
    refine ⟨.ref _, upd H (s.heap.objs.size + 1) (.lst ((out.map SrtO.iv).map V.int)), I.laid (t' := s.toks) (fun _ _ => PyProof.Rows.sortedAll_old) (Nat.le_succ _) ⟨hlen, out, ep, vals_of_ints k1, he'⟩, rfl, ?_⟩
    rw [sorted_ints k2 k3]
    have k' : Cont g B G0 G σ' env (.ls (((ns.mergeSort (fun a b => decide (a ≤ b))).map D.int).map .im)) Q := by simpa [Function.comp_def] using k
    exact k'.lst S (rvs_ints _) _ (I.hok.fresh (Nat.le_succ _))
  · cases e
theorem cs_sortedPT (hK : X.K = g.K) : CallS X g (.builtin "sorted") sortedPFT := by
  intro pins s σ H xs us Q I r ⟨B, G0, G, σ', env, ds, m, S, vw, e, k⟩
  unfold sortedPFT at e
  split at e
  · simp only [Option.bind_eq_some_iff] at e
    obtain ⟨ps, e1, e2⟩ := e
    split at e2
    · rename_i h64
      cases e2
      obtain ⟨ed, hb⟩ := pairsD_eq e1
      subst ed
      obtain ⟨v, rfl, vw1⟩ := vws1 vw
      simp only [Vw, Rv] at vw1
      obtain ⟨a, ws, rfl, h1, h2⟩ := vw1
      have isT : ∀ {p : Nat × Nat} {x : V}, Rv g G (pairD p) x → TupI X.K H x [(p.1 : Int), (p.2 : Int)] := fun {p x} h => by
        simp only [pairD, Rv, Rvs] at h
        obtain ⟨t, zs, rfl, h3, v1, r1, rfl, rfl, v2, r2, rfl, rfl, rfl⟩ := h
        exact ⟨t, rfl, by rw [hK]; exact sqT_same S.s1 h3⟩
      have each : ∀ x ∈ ws, ∃ p : Nat × Nat, (p.1 < 64 ∧ p.2 < 64) ∧ TupI X.K H x [(p.1 : Int), (p.2 : Int)] := fun x hx => by
        obtain ⟨i, hi⟩ := List.mem_iff_getElem?.mp hx
        have hlt : i < ps.length := by
          have := (List.getElem?_eq_some_iff.mp hi).1
          simpa [h2.length] using this
        obtain ⟨y, e3, e4⟩ := h2.get (d := pairD ps[i]) (i := i) (by simp [hlt])
        cases hi.symm.trans e3
        exact ⟨ps[i], hb _ (List.getElem_mem hlt), isT e4⟩
      obtain ⟨its, rv, hl, hz⟩ := I.tuple (by rw [hK]; exact sqT_same S.s1 h1)
      rw [Vals.ref1 r]
      obtain ⟨w1, w2⟩ := bkV_refs rv fun x mx => by
        obtain ⟨p, _, t, et, _⟩ := each x mx
        exact ⟨t, et⟩
      have l64 : its.length < 64 := by rw [← rv.length, h2.length]; simpa using h64
      refine sortedT_tups (d := 2) (B := 64) hl l64 (by decide) (fun u hu => ?_) fun out a1 a2 => ?_
      · obtain ⟨t, rfl⟩ := w2 u hu
        have mt : V.ref t ∈ ws := by rw [w1]; exact List.mem_map.mpr ⟨_, hu, rfl⟩
        obtain ⟨p, hp, t', et, ht⟩ := each _ mt
        cases et
        refine ⟨_, tupI_raw I ht, rfl, fun n hn => ?_⟩
        simp only [List.mem_cons, List.not_mem_nil, or_false] at hn
        rcases hn with rfl | rfl <;> omega
      · obtain ⟨ep, he'⟩ := PyProof.Rows.sortedAll_at s.heap its out
        have w3 : ∀ u ∈ out.toList, ∃ a, u = Value.ref a := fun u hu => w2 u (a1.mem_iff.mp hu)
        have pm : (out.toList.map bkV).Perm ws := by rw [w1]; exact a1.map bkV
        have hlen : (out.toList.map bkV).length ≤ sizeLine := by rw [pm.length_eq]; exact hz
        refine ⟨.ref _, upd H (s.heap.objs.size + 1) (.lst (out.toList.map bkV)), I.laid (t' := s.toks) (fun _ _ => PyProof.Rows.sortedAll_old) (Nat.le_succ _) ⟨hlen, out.toList, ep, bkV_vals w3, he'⟩, rfl, ?_⟩
        obtain ⟨qs, hq, rq⟩ := rvs_perm pm h2
        have hqb : ∀ q ∈ qs, q.1 < 64 ∧ q.2 < 64 := fun q h => hb q (hq.mem_iff.mp h)
        have pw : (qs.map pcode).Pairwise (· ≤ ·) := by
          rw [List.pairwise_map, List.pairwise_iff_getElem]
          intro i j hi hj hij
          have lq : out.toList.length = qs.length := by simpa using rq.length
          obtain ⟨x, e3, e4⟩ := rq.get (d := pairD qs[i]) (i := i) (by simp [hi])
          obtain ⟨y, e5, e6⟩ := rq.get (d := pairD qs[j]) (i := j) (by simp [hj])
          rw [List.pairwise_iff_getElem] at a2
          have a3 := a2 i j (by rw [lq]; exact hi) (by rw [lq]; exact hj) hij
          rw [List.getElem?_map, List.getElem?_eq_getElem (by rw [lq]; exact hi)] at e3
          rw [List.getElem?_map, List.getElem?_eq_getElem (by rw [lq]; exact hj)] at e5
          injection e3 with e3
          injection e5 with e5
          obtain ⟨t, et, ht⟩ := isT e4
          obtain ⟨t', et', ht'⟩ := isT e6
          rw [bkV_ref (e3.trans et), bkV_ref (e5.trans et'), (tupI_raw I ht).ints, (tupI_raw I ht').ints, code_pair, code_pair] at a3
          exact a3
        have ms : (ps.mergeSort pairLe).Perm ps := List.mergeSort_perm _ _
        have pw2 : ((ps.mergeSort pairLe).map pcode).Pairwise (· ≤ ·) := by
          rw [List.pairwise_map]
          refine (List.pairwise_mergeSort (le := pairLe) (fun a b c h1 h2 => ?_) (fun a b => ?_) ps).imp fun {a b} h => ?_
          · simp only [pairLe, decide_eq_true_eq] at h1 h2 ⊢; omega
          · simp only [pairLe, Bool.or_eq_true, decide_eq_true_eq]; omega
          · simp only [pairLe, decide_eq_true_eq] at h
            unfold pcode; omega
        have e9 : qs = ps.mergeSort pairLe := map_inj_pc hqb (fun q h => hb q (ms.mem_iff.mp h)) (by rw [sorted_ints (hq.map pcode) pw, sorted_ints (ms.map pcode) pw2])
        rw [e9] at rq
        have k' : Cont g B G0 G σ' env (.ls (((ps.mergeSort pairLe).map pairD).map .im)) Q := by simpa [Function.comp_def] using k
        exact k'.lst S rq _ (I.hok.fresh (Nat.le_succ _))
    · cases e2
  · cases e
/-- one or the other -/
theorem CallS.or {f : Value} {fn fn' : List D → Option M} (h : CallS X g f fn) (h' : CallS X g f fn') : CallS X g f (fun ds => (fn ds).or (fn' ds)) := by
  intro pins s σ H xs us Q I r ⟨B, G0, G, σ', env, ds, m, S, vw, e, k⟩
  simp only at e
  cases q : fn ds with
  | some m' =>
    have em : m' = m := by simpa [q] using e
    exact h pins s σ H xs us Q I r ⟨B, G0, G, σ', env, ds, m, S, vw, by rw [q, em], k⟩
  | none =>
    rw [q] at e
    exact h' pins s σ H xs us Q I r ⟨B, G0, G, σ', env, ds, m, S, vw, by simpa using e, k⟩
/-- sorted(xs): ints or pairs of small numbers, a list or a tuple -/
def sortedAF : List D → Option M := fun ds => (sortedF ds).or ((sortedFT ds).or ((sortedPF ds).or (sortedPFT ds)))
theorem cs_sortedA (hK : X.K = g.K) : CallS X g (.builtin "sorted") sortedAF := (cs_sorted hK).or ((cs_sortedT hK).or ((cs_sortedP hK).or (cs_sortedPT hK)))
end
/-! ### xs.insert(e1, e2) of a slot's list -/
def eIns (i : Nat) (fo : FO) (f : FE) : FE := fun env => match env[i]? with
  | some (some (.ls _)) => do
    let (o, env) ← fo env
    let d ← Rs.of (res env o)
    let (m, env) ← f env
    match d with
    | .int j => match env[i]? with
      | some (some (.ls ms)) => match ims ms with
        | some ds => if ms.length < sizeLine ∧ 0 ≤ j ∧ j < 9223372036854775808 then .ok (.im .non, env.set i (some (.ls ((ds.take j.toNat ++ [frz m] ++ ds.drop j.toNat).map .im)))) else .bad
        | _ => .bad
      | _ => .bad
    | _ => .bad
  | _ => .bad
section
variable {X : Cx} {g : Gs} {W : WX} {e1 e2 : Expr} {fo : FO} {f : FE} {p pos apos cpos : Pos}
theorem se_ins {i : Nat} {x : Str} (hN : X.N[i]? = some x) (hv : Vis X.env.scope x) (hd : (x == ("__debug__" : Str)) = false) (hcd : (x == ("__classdict__" : Str)) = false) (h1 : PE X e1 (tO g W fo)) (h2 : PE X e2 (tE g W f))
    (hbase : attributeBase (.Name x p) "insert" X.env (eval (.Name x p) X.env) = eval (.Name x p) X.env)
    (hfew : ((backTo cpos (starEach [e1, e2] X.env)).all (fun x => !x.1) && (backToKw cpos (keywordEach [] X.env)).all (fun x => x.1.isSome)
      && decide ([e1, e2].length + ([] : List Keyword).length + (if ([] : List Keyword).isEmpty then 0 else 1) < 30)) = true)
    (hline : (apos.endLine == cpos.line) = true) (hs : starEach [e1, e2] X.env = (false, eval e1 X.env) :: starEach [e2] X.env) (hs2 : starEach [e2] X.env = (false, eval e2 X.env) :: starEach [] X.env) (hplain : (backTo cpos (starEach [e2] X.env)).any (·.1) = false) :
    PE X (.Call (.Attribute (.Name x p) "insert" apos) [e1, e2] [] cpos) (tE g W (eIns i fo f)) := by
  refine ⟨fun pins s σ H Q I hq => ?_⟩
  obtain ⟨B, G0, G, env, S, hq⟩ := hq
  unfold eIns at hq
  split at hq
  · rename_i ms0 e0
    obtain ⟨a, vs, ea, hH, _⟩ := S.ls e0
    refine (pe_bm PySem.F.plainAttrs_list PySem.F.slot_list_insert PySem.F.type_list_insert mt_insert (pe_var hN hv hd hcd) (pa_cons h1 (pa_cons h2 pa_nil hs2) hs) hbase hfew hline hs hplain).run pins s σ H Q I
      ⟨.ref a, ea, .inl ⟨rfl, vs, SqL.of hH⟩, B, G0, G, env, S, (Fin.bind hq).mono fun o env1 G1 H1 s1 q v1 S1 r1 => ?_⟩
    obtain ⟨d, e3, q⟩ := Fin.of_bind q
    have vw := S1.res r1 e3
    refine ⟨B, G0, G1, env1, S1, (Fin.bind q).mono fun m env2 G2 H2 s2 q y S2 => ?_⟩
    obtain ⟨G3, s3, rv, S3⟩ := S2.frz0
    have q := Fin.more q s3
    simp only at q
    cases d with
    | int j =>
      simp only at q
      split at q
      · rename_i ms e4
        simp only [Vw, Rv] at vw
        subst vw
        split at q
        · rename_i ds e5
          obtain ⟨a', acc, h1, h2, h3⟩ := S3.ls e4
          rw [ea] at h1; cases h1
          obtain ⟨v2, F1, e6, rm, _⟩ := S3.at e4
          rw [ea] at e6; cases e6
          simp only [Rm] at rm
          obtain ⟨a'', acc', F', e7, g1, h8, rms, _⟩ := rm
          cases e7
          rw [h2] at h8; cases h8
          obtain ⟨rvs, _⟩ := ims_rv e5 rms
          split at q
          rotate_left
          · exact False.elim q
          rename_i hc
          refine ⟨a, acc, j, y, rfl, rfl, h2, by rw [h3]; exact hc.1, hc.2.1, hc.2.2, ?_⟩
          have rv2 : Rvs g G3 (ds.take j.toNat ++ [frz m] ++ ds.drop j.toNat) (acc.take j.toNat ++ [y] ++ acc.drop j.toNat) := ((rvs.take _).append (by simp only [Rvs]; exact ⟨y, _, rfl, rv, rfl⟩)).append (rvs.drop _)
          have S4 := S3.write (F := []) (F' := []) (o := .lst (acc.take j.toNat ++ [y] ++ acc.drop j.toNat)) (m' := .ls ((ds.take j.toNat ++ [frz m] ++ ds.drop j.toNat).map .im)) e4 ea fun F1 r nd => by
            simp only [Rm] at r
            obtain ⟨b, ws, F2, eb, gb, hb, rb, rfl⟩ := r
            cases eb
            rw [h2] at hb; cases hb
            refine ⟨F2, rfl, [], by simp, ?_⟩
            simp only [Rm]
            exact ⟨a, _, [], rfl, gb, upd_same, rms_im rv2, rfl⟩
          exact q G3 _ (Same.refl _) .non (S4.cons (by simp [Rv]))
        · exact False.elim q
      · exact False.elim q
    | _ => exact False.elim q
  · exact False.elim hq
theorem ins (i : Nat) {x : Str} (h1 : PE X e1 (tO g W fo)) (h2 : PE X e2 (tE g W f)) (hN : X.N[i]? = some x := by rfl) (hv : Vis X.env.scope x := by first | exact Or.inl rfl | exact Or.inr (Or.inl rfl) | exact Or.inr (Or.inr rfl)) (hd : (x == ("__debug__" : Str)) = false := by rfl) (hcd : (x == ("__classdict__" : Str)) = false := by rfl)
    (hbase : attributeBase (.Name x p) "insert" X.env (eval (.Name x p) X.env) = eval (.Name x p) X.env := by rfl)
    (hfew : ((backTo cpos (starEach [e1, e2] X.env)).all (fun x => !x.1) && (backToKw cpos (keywordEach [] X.env)).all (fun x => x.1.isSome)
      && decide ([e1, e2].length + ([] : List Keyword).length + (if ([] : List Keyword).isEmpty then 0 else 1) < 30)) = true := by rfl)
    (hline : (apos.endLine == cpos.line) = true := by rfl) (hs : starEach [e1, e2] X.env = (false, eval e1 X.env) :: starEach [e2] X.env := by rfl) (hs2 : starEach [e2] X.env = (false, eval e2 X.env) :: starEach [] X.env := by rfl) (hplain : (backTo cpos (starEach [e2] X.env)).any (·.1) = false := by rfl) :
    PE X (.Call (.Attribute (.Name x p) "insert" apos) [e1, e2] [] cpos) (tE g W (eIns i fo f)) := se_ins hN hv hd hcd h1 h2 hbase hfew hline hs hs2 hplain
end
end Eng
end
section
set_option Elab.async false
set_option linter.all false
set_option maxRecDepth 100000
namespace Eng
open PySem L2
open PyProof.Rows hiding St
/-! ### xs[::-1] of a list -/
def eRevL (fo : FO) : FE := fun env => do
  let (o, env) ← fo env
  let d ← Rs.of (res env o)
  match d with
  | .lst ds => .ok (.ls (ds.reverse.map .im), env)
  | _ => .bad
section
variable {X : Cx} {g : Gs} {W : WX} {e : Expr} {fo : FO} {f : FE} {p p1 p2 p3 pos apos cpos : Pos} {k kk : Nat}
theorem se_revL (hK : X.K = g.K) (ha : PE X e (tO g W fo)) : PE X (.Subscript e (.Slice none none (some (.UnaryOp .USub (.Constant (.int 1) k p1) p2)) p3) pos) (tE g W (eRevL fo)) := by
  refine ⟨fun pins s σ H Q I h => ?_⟩
  obtain ⟨B, G0, G, env, S, h⟩ := h
  refine Subscript_ (thn (ha.run pins s σ H (fun x H1 => ∃ t xs ds env1 G1, x = .ref t ∧ Same G G1 ∧ Stt g B G0 G1 H1 σ env1 ∧ H1 t = some (.lst xs) ∧ Rvs g G1 ds xs ∧ Cont g B G0 G1 σ env1 (.ls (ds.reverse.map .im)) Q) I
    ⟨B, G0, G, env, S, (Fin.bind h).mono fun o env1 G1 H1 s1 q v S1 r1 => ?_⟩) fun v s1 ⟨x, H1, I1, r1, t, xs, ds, env1, G1, ex, sm, S1, hq, hr, kk⟩ => ?_)
  · obtain ⟨d, e1, q⟩ := Fin.of_bind q
    cases d with
    | lst ds =>
      have hv := S1.res r1 e1
      simp only [Vw] at hv
      obtain ⟨t, xs, rfl, h1, h2⟩ := hv
      exact ⟨t, xs, ds, env1, G1, rfl, s1, S1, h1, h2, fun v G' H' s' S' => q G' H' s' v S'⟩
    | _ => exact False.elim q
  · subst ex
    cases r1
    have hst : PO X (some (.UnaryOp .USub (.Constant (.int 1) k p1) p2)) (tPart (tUn (rU fun i => .int (-i)) (tC (.int 1)))) := po_some (pe_un un_neg pe_int)
    refine wpAny_Slice (thn (po_none.run pins s1 σ H1 (fun o H2 => o = none ∧ H2 = H1) I1 ⟨rfl, rfl⟩) fun vl s2 ⟨l, H2, I2, pl, el, e2⟩ => ?_)
    subst el e2
    refine thn (po_none.run pins s2 σ _ (fun o H3 => o = none ∧ H3 = _) I2 ⟨rfl, rfl⟩) fun vu s3 ⟨u, H3, I3, pu, eu, e3⟩ => ?_
    subst eu e3
    refine thn (hst.run pins s3 σ _ (fun o H4 => o = some (-1) ∧ H4 = _) I3 ⟨1, rfl, -1, rfl, rfl, rfl⟩) fun vs s4 ⟨o, H4, I4, ps, eo, e4⟩ => ?_
    subst eo e4
    have I5 : Inv X pins σ _ { s4 with heap := s4.heap.push { cls := .type "slice", data := .fields #[vl, vu, vs] } } := I4.kept (t' := s4.toks) fun b ob q => Heap.get?_push_of_some _ q
    obtain ⟨its, r, ht, hz⟩ := I5.list (SqL.of hq)
    show wpAny (model X.prog X.w) X.A (subscriptTail e (.Slice none none (some (.UnaryOp .USub (.Constant (.int 1) k p1) p2)) p3) (.ref t) (.ref s4.heap.objs.size)) (EP X pins σ Q) X.xe { s4 with heap := s4.heap.push { cls := .type "slice", data := .fields #[vl, vu, vs] } }
    refine tail_any (ops := [.ref t, .ref s4.heap.objs.size]) ht.isList.typeIs list_getitem_lookup ?_ (by with_unfolding_all rfl)
    have hl := r.length
    refine wpAny_getItem_list_slice ht.isList (Heap.IsSliceOf.new _ vl vu vs) pl pu ps (by decide) ?_ (by rw [List.size_toArray]; omega)
    rw [PySem.W.krv_pick]
    refine ⟨.ref _, _, I5.laid (t' := s4.toks) (o := .lst xs.reverse) (fun b ob q => Heap.get?_push_of_some _ q) (Nat.le_refl _) ⟨by rw [List.length_reverse]; exact hz, _, 0, r.reverse, Heap.get?_push_size _ rfl⟩, rfl, ?_⟩
    exact kk.lst S1 (rvs_rev hr) _ (I5.hok.fresh (Nat.le_refl _))
end
/-! ### f(e1, .., y=e): the last parameter by its name -/
def aApp (k : FA) (fo : FO) : FA := fun env => do
  let (os, env) ← k env
  let (o, env) ← fo env
  .ok (os ++ [o], env)
section
variable {X : Cx} {g : Gs} {W : WX} {k kk : Nat} {f : Addr} {fd : FuncData} {mp : List Nat} {mir : Mir} {x y : Str} {ps : List Str} {p pos kpos : Pos} {e e2 : Expr} {es : List Expr} {ka : FA} {fo : FO}
theorem ROs.snoc {G : Hp} {σ : St} : ∀ {os : List Opd} {vs : List V} {o : Opd} {v : V}, ROs g G σ os vs → RO g G σ o v → ROs g G σ (os ++ [o]) (vs ++ [v])
  | [], vs, o, v, h, h2 => by
    have : vs = [] := h
    subst this
    exact ⟨v, [], rfl, h2, rfl⟩
  | o' :: os, vs, o, v, h, h2 => by
    obtain ⟨v', r, rfl, h3, h4⟩ := h
    exact ⟨v', r ++ [v], rfl, h3, h4.snoc h2⟩
theorem ROs.more {G G' : Hp} {σ : St} (s : Same G G') : ∀ {os : List Opd} {vs : List V}, ROs g G σ os vs → ROs g G' σ os vs
  | [], vs, h => h
  | o' :: os, vs, h => by
    obtain ⟨v', r, rfl, h3, h4⟩ := h
    exact ⟨v', r, rfl, h3.same s, h4.more s⟩
theorem se_callKw2 (F : Fn X.prog X.w X.mg X.base g k f fd ps mp mir) (hK : X.K = g.K) (hr : RG kk X.A) (hle : k ≤ kk) (hc : X.calm = true) (tk : Takes X W) (hg : Gl X x) (hm : X.mg x = some (.ref f)) (hk : PySem.W.keepIn X.K (.ref f) = true)
    (hb : ∀ (s : Shared) (us : List Value) (u : Value), us.length + 1 = ps.length → BindsTo s fd ⟨us, [(y, u)]⟩ (ps.zip (us ++ [u]))) (ha : PA X (e :: es) (tA' g W ka)) (he : PE X e2 (tO g W fo)) (hdb : (x == ("__debug__" : Str)) = false)
    (hall : (backToKw pos (keywordEach [⟨some y, e2, kpos⟩] X.env)).all (·.1.isSome) = true) (hks : (backToKw pos (keywordEach [⟨some y, e2, kpos⟩] X.env)).filterMap (·.1) = [y])
    (hpl : ((backTo pos (starEach (e :: es) X.env)).any (·.1) || (backToKw pos (keywordEach [⟨some y, e2, kpos⟩] X.env)).any (·.1.isNone)) = false) (hs : starEach (e :: es) X.env = (false, eval e X.env) :: starEach es X.env) :
    PE X (.Call (.Name x p) (e :: es) [⟨some y, e2, kpos⟩] pos) (tE g W (eCallN ps.length mp mir (aApp ka fo))) := by
  refine ⟨fun pins s σ H Q I h => ?_⟩
  obtain ⟨B, G0, G, env, S, h⟩ := h
  let K2 : List Opd → Env → Rs (M × Env) := fun os env1 => if os.length = ps.length then do
      let (ms, env) ← Rs.of (takeArgs mp 0 os env1)
      let sl ← Rs.of (slotsOf os mp)
      match mir ms with
      | .bad => .bad
      | .exc c fs _ => .exc c fs env
      | .ok (m, outs) => do
        let env ← Rs.of (putAll sl outs env)
        .ok (m, env)
    else .bad
  have h2 : Fin g B G0 W σ G (ka env >>= fun p => fo p.2 >>= fun q => K2 (p.1 ++ [q.1]) q.2) fun m env G' H' => ∀ v, Stt g B G0 G' H' (some v :: σ) (some m :: env) → Q v H' := by
    have e : (ka env >>= fun p => fo p.2 >>= fun q => K2 (p.1 ++ [q.1]) q.2) = eCallN ps.length mp mir (aApp ka fo) env := by
      unfold eCallN aApp
      cases ka env with
      | ok p => simp only [Rs.bind_ok]; cases fo p.2 <;> rfl
      | _ => rfl
    rw [e]; exact h
  refine wpAny_Call_Name_kw (ld_glob I hg hm ?_ hdb)
  refine PySem.W.callWith_KW (h₀ := X.base) I.ok.mod.kin hk hall (thn (ha.run pos pins s σ H (fun vs H1 => ∃ G1 env1 os, Stt g B G0 G1 H1 σ env1 ∧ ROs g G1 σ os vs ∧ Fin g B G0 W σ G1 (fo env1 >>= fun q => K2 (os ++ [q.1]) q.2) fun m env G' H' => ∀ v, Stt g B G0 G' H' (some v :: σ) (some m :: env) → Q v H') I
      ⟨B, G0, G, env, S, (Fin.bind h2).mono fun os env1 G1 H1 s1 q vs S1 r1 => ⟨G1, env1, os, S1, r1, q⟩⟩) fun us s1 ⟨vs, H1, I1, r, G1, env1, os, S1, ro, q⟩ => ?_) hpl hs
  refine thn ((pk_cons he pk_nil).run pos pins s1 σ H1 (fun ws H2 => ∃ G2 env2 os, Stt g B G0 G2 H2 σ env2 ∧ ROs g G2 σ os (vs ++ ws) ∧ os.length = ps.length ∧ ws.length = 1 ∧ Fin g B G0 W σ G2 (do
      let (ms, env) ← Rs.of (takeArgs mp 0 os env2)
      let sl ← Rs.of (slotsOf os mp)
      match mir ms with
      | .bad => .bad
      | .exc c fs _ => .exc c fs env
      | .ok (m, outs) => do
        let env ← Rs.of (putAll sl outs env)
        .ok (m, env)) fun m env G' H' => ∀ v, Stt g B G0 G' H' (some v :: σ) (some m :: env) → Q v H') I1
      ⟨B, G0, G1, env1, S1, (Fin.bind q).mono fun o env2 G2 H2 s2 q v S2 r2 => ?_⟩) fun ks s2 ⟨ws, H2, I2, r2, G2, env2, os2, S2, ro2, hn, hw, q2⟩ => ⟨I2.kIn, ?_⟩
  · simp only [K2] at q
    split at q
    · rename_i hn
      exact ⟨G2, env2, os ++ [o], S2, (ro.more s2).snoc r2, hn, rfl, q⟩
    · exact False.elim q
  · obtain ⟨v, rfl⟩ : ∃ v, ws = [v] := by
      match ws, hw with
      | [v], _ => exact ⟨v, rfl⟩
    obtain ⟨u, rfl, ru⟩ : ∃ u, ks = [u] ∧ L2.RelV v u := by
      cases r2 with
      | cons r1 r2 => cases r2; exact ⟨_, rfl, r1⟩
    rw [hks]
    have hl : (vs ++ [v]).length = ps.length := (ros_len ro2).trans hn
    have hul : us.length = vs.length := r.length.symm
    have b := hb s2 us u (by rw [← hl]; simp [hul])
    refine wpAny_call (codeAny_mono (call_run (us := us ++ [u]) F hK (hr.mono hle) (I2.ok.hd hc) tk I2 b (r.append (.cons ru .nil)) hl S2 ro2 q2) fun r' s' hq => ?_)
    have := end_call tk I2 hq
    cases r' with
    | error e => exact this
    | ok fl => cases fl <;> exact this
end
end Eng
end
section
set_option Elab.async false
set_option linter.all false
set_option maxRecDepth 100000
namespace Eng
open PySem L2
open PyProof.Rows hiding St
section
variable {X : Cx} {g : Gs} {W : WX} {kk : Nat} {e e2 : Expr} {es : List Expr} {k : FA} {fo : FO} {p p1 p2 p3 pos : Pos}
theorem eRevL' (o : XO X g kk) {j : Nat} (ha : PE X e (tO g W fo)) : PE X (.Subscript e (.Slice none none (some (.UnaryOp .USub (.Constant (.int 1) j p1) p2)) p3) pos) (tE g W (eRevL fo)) := se_revL o.K ha
theorem cKw2 {kf : Nat} {f' : Addr} {fd : FuncData} {y : Str} {ps : List Str} {mp : List Nat} {mir : Mir} {x : Str} {kpos : Pos} (F : Fn X.prog X.w X.mg X.base g kf f' fd ps mp mir) (tk : Takes X W) (o : XO X g kk) (hc : X.calm = true) (hm : X.mg x = some (.ref f')) (hk : PySem.W.keepIn X.K (.ref f') = true)
    (hb : ∀ (s : Shared) (us : List Value) (u : Value), us.length + 1 = ps.length → BindsTo s fd ⟨us, [(y, u)]⟩ (ps.zip (us ++ [u]))) (ha : PA X (e :: es) (tA' g W k)) (he : PE X e2 (tO g W fo)) (hle : kf ≤ kk := by decide) (hg : Gl X x := by rfl) (hdb : (x == ("__debug__" : Str)) = false := by rfl)
    (hall : (backToKw pos (keywordEach [⟨some y, e2, kpos⟩] X.env)).all (·.1.isSome) = true := by rfl) (hks : (backToKw pos (keywordEach [⟨some y, e2, kpos⟩] X.env)).filterMap (·.1) = [y] := by rfl)
    (hpl : ((backTo pos (starEach (e :: es) X.env)).any (·.1) || (backToKw pos (keywordEach [⟨some y, e2, kpos⟩] X.env)).any (·.1.isNone)) = false := by rfl) (hs : starEach (e :: es) X.env = (false, eval e X.env) :: starEach es X.env := by rfl) :
    PE X (.Call (.Name x p) (e :: es) [⟨some y, e2, kpos⟩] pos) (tE g W (eCallN ps.length mp mir (aApp k fo))) := se_callKw2 F o.K o.r hle hc tk hg hm hk hb ha he hdb hall hks hpl hs
end
theorem kw2_of {K : PySem.W.Frag} {x ql : Str} {st : Stmt} {f : Addr} {fd : FuncData} {y : Str} {ps : List Str} (F : Fun K x ql st f fd)
    (h : ∀ (kV doc pm : Value) (an : Option Addr) (cd ct : Value) (us : List Value) (u : Value), us.length + 1 = ps.length → bindArgs (PySem.W.fnOf x ql (defArgs st) (defBody st) (defScope st) .none kV doc pm an cd ct) ⟨us, [(y, u)]⟩ = pure (ps.zip (us ++ [u]))) :
    ∀ (s : Shared) (us : List Value) (u : Value), us.length + 1 = ps.length → BindsTo s fd ⟨us, [(y, u)]⟩ (ps.zip (us ++ [u])) := fun s us u hl => by
  obtain ⟨oc, od, kV, doc, pm, an, cd, ct, sl, rfl, _, _⟩ := F.ex
  exact .of_eq (h kV doc pm an cd ct us u hl)
end Eng
end
section
set_option Elab.async false
set_option linter.all false
set_option maxRecDepth 100000
namespace Eng
open PySem L2
open PyProof.Rows hiding St
section
variable {X : Cx} {g : Gs} {W : WX} {e : Expr}
/-- a value that will not be changed any more -/
def eFrz (f : FE) : FE := fun env => do
  let (m, env) ← f env
  .ok (.im (frz m), env)
theorem se_frz {f : FE} (h : PE X e (tE g W f)) : PE X e (tE g W (eFrz f)) := by
  refine ⟨fun pins s σ H Q I hq => ?_⟩
  obtain ⟨B, G0, G, env, S, hq⟩ := hq
  refine h.run pins s σ H Q I ⟨B, G0, G, env, S, (Fin.bind hq).mono fun m env1 G1 H1 s1 q v S1 => ?_⟩
  obtain ⟨G2, s2, rv, S2⟩ := S1.frz0
  exact q G2 H1 s2 v (S2.cons rv)
end
end Eng
end
section
set_option Elab.async false
set_option linter.all false
set_option maxRecDepth 100000
namespace Eng
open PySem L2

/-! ### what is wanted of a result -/
class CQ (α : Type) where
  q : α → Env → Prop
class CX where
  x : Nat → List D → Env → Prop
class CM where
  q : M → List M → Prop
class CY where
  x : Nat → List D → Prop
class CO (α : Type) where
  q : α → Prop
class CP where
  p : Prop
class CN (σ : Type) where
  s : σ → Env
  p : σ → Prop
/-- between two turns -/
def NX {σ : Type} (e : Env) [C : CN σ] : Prop := ∃ s, e = C.s s ∧ C.p s
@[irreducible] def Ev {α : Type} (r : Rs (α × Env)) [Q : CQ α] [X : CX] : Prop := match r with
  | .ok p => Q.q p.1 p.2
  | .exc c fs e => X.x c fs e
  | .bad => False
@[irreducible] def Mv (r : Rs (M × List M)) [Q : CM] [X : CY] : Prop := match r with
  | .ok p => Q.q p.1 p.2
  | .exc c fs _ => X.x c fs
  | .bad => False
@[irreducible] def Of {α : Type} (o : Option α) [Q : CO α] : Prop := match o with
  | some a => Q.q a
  | none => False
@[irreducible] def Br (b : Bool) [P1 : CP] [P2 : CP] : Prop := match b with
  | true => P1.p
  | false => P2.p
end Eng
open Eng
local macro_rules
  | `(Ev $r $q $x) => `(@Ev _ $r (CQ.mk $q) (CX.mk $x))
  | `(Mv $r $q $x) => `(@Mv $r (CM.mk $q) (CY.mk $x))
  | `(Of $r $q) => `(@Of _ $r (CO.mk $q))
  | `(Br $r $p $q) => `(@Br $r (CP.mk $p) (CP.mk $q))
  | `(NX $s $p $e) => `(@NX _ $e (CN.mk $s $p))
namespace Eng
open PySem L2
section
variable {α β : Type} {Q : α → Env → Prop} {X : Nat → List D → Env → Prop} {env : Env}
@[simp, simp ↓] theorem Ev_ok (p : α × Env) : Ev (.ok p) Q X ↔ Q p.1 p.2 := by with_unfolding_all exact Iff.rfl
@[simp, simp ↓] theorem Ev_exc (c : Nat) (fs : List D) (e : Env) : Ev (.exc c fs e) Q X ↔ X c fs e := by with_unfolding_all exact Iff.rfl
@[simp, simp ↓] theorem Ev_bad : Ev (.bad : Rs (α × Env)) Q X ↔ False := by with_unfolding_all exact Iff.rfl
@[simp, simp ↓] theorem Mv_ok (p : M × List M) {Q X} : Mv (.ok p) Q X ↔ Q p.1 p.2 := by with_unfolding_all exact Iff.rfl
@[simp, simp ↓] theorem Mv_exc (c : Nat) (fs : List D) (e : Env) {Q X} : Mv (.exc c fs e) Q X ↔ X c fs := by with_unfolding_all exact Iff.rfl
@[simp, simp ↓] theorem Mv_bad {Q X} : Mv .bad Q X ↔ False := by with_unfolding_all exact Iff.rfl
@[simp, simp ↓] theorem Of_some (a : α) {Q} : Of (some a) Q ↔ Q a := by with_unfolding_all exact Iff.rfl
@[simp, simp ↓] theorem Of_none {Q : α → Prop} : Of none Q ↔ False := by with_unfolding_all exact Iff.rfl
@[simp, simp ↓] theorem Of_map (f : β → α) (o : Option β) {Q : α → Prop} : Of (o.map f) Q ↔ Of o fun b => Q (f b) := by cases o <;> with_unfolding_all exact Iff.rfl
@[simp, simp ↓] theorem Of_bind (f : β → Option α) (o : Option β) {Q : α → Prop} : Of (o.bind f) Q ↔ Of o fun b => Of (f b) Q := by cases o <;> with_unfolding_all exact Iff.rfl
@[simp, simp ↓] theorem Of_ite (c : Prop) [Decidable c] (o : Option α) {Q : α → Prop} : Of (if c then o else none) Q ↔ c ∧ Of o Q := by
  by_cases h : c <;> simp [h]
@[simp, simp ↓] theorem Br_true {P1 P2 : Prop} : Br true P1 P2 ↔ P1 := by with_unfolding_all exact Iff.rfl
@[simp, simp ↓] theorem Br_false {P1 P2 : Prop} : Br false P1 P2 ↔ P2 := by with_unfolding_all exact Iff.rfl
@[simp, simp ↓] theorem Br_not {P1 P2 : Prop} (b : Bool) : Br (!b) P1 P2 ↔ Br b P2 P1 := by cases b <;> with_unfolding_all exact Iff.rfl
theorem Br.intro {P1 P2 : Prop} {c : Prop} [Decidable c] (h1 : c → P1) (h2 : ¬ c → P2) : Br (decide c) P1 P2 := by
  by_cases h : c
  · rw [decide_eq_true h]; with_unfolding_all exact h1 h
  · rw [decide_eq_false h]; with_unfolding_all exact h2 h
theorem Br.introB {P1 P2 : Prop} {b : Bool} (h1 : b = true → P1) (h2 : b = false → P2) : Br b P1 P2 := by
  cases b
  · with_unfolding_all exact h2 rfl
  · with_unfolding_all exact h1 rfl
theorem Br.pos {P1 P2 : Prop} {c : Prop} [Decidable c] (h : c) (h1 : P1) : Br (decide c) P1 P2 := by rw [decide_eq_true h]; with_unfolding_all exact h1
theorem Br.neg {P1 P2 : Prop} {c : Prop} [Decidable c] (h : ¬ c) (h1 : P2) : Br (decide c) P1 P2 := by rw [decide_eq_false h]; with_unfolding_all exact h1
theorem Ev_bind (r : Rs (β × Env)) (k : β × Env → Rs (α × Env)) : Ev (r >>= k) Q X ↔ Ev r (fun a e => Ev (k (a, e)) Q X) X := by
  cases r <;> with_unfolding_all exact Iff.rfl
theorem Ev_of (o : Option β) (k : β → Rs (α × Env)) : Ev (Rs.of o >>= k) Q X ↔ Of o fun a => Ev (k a) Q X := by
  cases o <;> with_unfolding_all exact Iff.rfl
theorem Ev_ite (b : Bool) (r r' : Rs (α × Env)) : Ev (if b = true then r else r') Q X ↔ Br b (Ev r Q X) (Ev r' Q X) := by
  cases b <;> with_unfolding_all exact Iff.rfl
theorem Ev_when (c : Prop) [Decidable c] (r : Rs (α × Env)) : Ev (if c then r else .bad) Q X ↔ c ∧ Ev r Q X := by
  by_cases h : c <;> simp [h]
theorem Ev_unless (c : Prop) [Decidable c] (r : Rs (α × Env)) : Ev (if c then .bad else r) Q X ↔ ¬ c ∧ Ev r Q X := by
  by_cases h : c <;> simp [h]
theorem Ev.mono {r : Rs (α × Env)} {Q' : α → Env → Prop} {X' : Nat → List D → Env → Prop} (h : Ev r Q X) (hq : ∀ a e, Q a e → Q' a e) (hx : ∀ c fs e, X c fs e → X' c fs e) : Ev r Q' X' := by
  cases r with
  | ok p => with_unfolding_all exact hq _ _ h
  | exc c fs e => with_unfolding_all exact hx _ _ _ h
  | bad => with_unfolding_all exact h
theorem Mv.mono {r : Rs (M × List M)} {Q Q' : M → List M → Prop} {X X' : Nat → List D → Prop} (h : Mv r Q X) (hq : ∀ a e, Q a e → Q' a e) (hx : ∀ c fs, X c fs → X' c fs) : Mv r Q' X' := by
  cases r with
  | ok p => with_unfolding_all exact hq _ _ h
  | exc c fs e => with_unfolding_all exact hx _ _ h
  | bad => with_unfolding_all exact h
theorem Of.mono {o : Option α} {Q Q' : α → Prop} (h : Of o Q) (hq : ∀ a, Q a → Q' a) : Of o Q' := by
  cases o with
  | some a => with_unfolding_all exact hq _ h
  | none => with_unfolding_all exact h
end

theorem iff_ev {α : Type} {r : Rs (α × Env)} {Q Q' : α → Env → Prop} {X : Nat → List D → Env → Prop} (h : ∀ a e, Q a e ↔ Q' a e) : Ev r Q X ↔ Ev r Q' X := by
  cases r with
  | ok p => with_unfolding_all exact h _ _
  | exc c fs e => with_unfolding_all exact Iff.rfl
  | bad => with_unfolding_all exact Iff.rfl
theorem iff_of {α : Type} {r : Option α} {Q Q' : α → Prop} (h : ∀ a, Q a ↔ Q' a) : Of r Q ↔ Of r Q' := by
  cases r with
  | some a => with_unfolding_all exact h a
  | none => with_unfolding_all exact Iff.rfl
theorem iff_br {b : Bool} {P1 P2 P1' P2' : Prop} (h1 : P1 ↔ P1') (h2 : P2 ↔ P2') : Br b P1 P2 ↔ Br b P1' P2' := by
  cases b
  · with_unfolding_all exact h2
  · with_unfolding_all exact h1
/-! ### operands, values -/
section
variable {X : Nat → List D → Env → Prop} {env : Env}
@[simp] theorem res_val (d : D) : res env (.val d) = some d := rfl
@[simp] theorem res_slot (n : Nat) : res env (.slot n) = (env[n]?.bind id).bind flat := rfl
@[simp] theorem resAll_nil : resAll env [] = some [] := rfl
@[simp] theorem resAll_cons (o : Opd) (os : List Opd) : resAll env (o :: os) = (res env o).bind fun d => (resAll env os).map (d :: ·) := rfl
@[simp] theorem frz_im (x : D) : frz (.im x) = x := rfl
@[simp] theorem frz_ls (ms : List M) : frz (.ls ms) = .lst (ms.map frz) := by simp only [frz, frzs_eq]
@[simp] theorem frz_dc (ks : List Key) (ms : List M) : frz (.dc ks ms) = .dct ks (ms.map frz) := by simp only [frz, frzs_eq]
@[simp] theorem frz_fim : frz ∘ M.im = id := rfl
@[simp] theorem frz_comp {α : Type} (f : α → D) : frz ∘ (M.im ∘ f) = f := rfl
@[simp] theorem flat_im (x : D) : flat (.im x) = some x := rfl
@[simp] theorem flat_ls (ms : List M) : flat (.ls ms) = (ims ms).map .lst := rfl
@[simp] theorem flat_dc (ks : List Key) (ms : List M) : flat (.dc ks ms) = (ims ms).map (.dct ks) := rfl
@[simp] theorem ims_nil : ims [] = some [] := rfl
@[simp] theorem ims_cons (d : D) (ms : List M) : ims (.im d :: ms) = (ims ms).map (d :: ·) := rfl
@[simp] theorem ims_map (ds : List D) : ims (ds.map .im) = some ds := by induction ds with
  | nil => rfl
  | cons d ds ih => simp [ims, ih]
@[simp] theorem ims_comp {α : Type} (f : α → D) (cs : List α) : ims (cs.map (M.im ∘ f)) = some (cs.map f) := by
  rw [← List.map_map]; with_unfolding_all exact ims_map _
theorem ims_app {ms ns : List M} {ds es : List D} (h : ims ms = some ds) (k : ims ns = some es) : ims (ms ++ ns) = some (ds ++ es) := by
  induction ms generalizing ds with
  | nil => simp [ims] at h; subst h; simpa using k
  | cons m ms ih =>
    cases m <;> simp [ims] at h
    obtain ⟨es', h1, rfl⟩ := h
    simp [ih h1]
@[simp] theorem ims_app1 (ds : List D) (d : D) : ims (ds.map .im ++ [.im d]) = some (ds ++ [d]) := ims_app (ims_map ds) rfl
@[simp] theorem ims_app2 {α : Type} (f : α → D) (cs : List α) (d : D) : ims (cs.map (M.im ∘ f) ++ [.im d]) = some (cs.map f ++ [d]) := ims_app (ims_comp f cs) rfl
end
section
variable {Q : M → Env → Prop} {QO : Opd → Env → Prop} {QT : Bool → Env → Prop} {QA : List Opd → Env → Prop} {QD : List D → Env → Prop} {QM : List M → Env → Prop} {QI : Option Int → Env → Prop} {QS : Fl → Env → Prop} {QR : Int × Int → Env → Prop} {X : Nat → List D → Env → Prop} {env : Env}
@[simp ↓] theorem ev_oVar (i : Nat) : Ev (oVar i env) QO X ↔ Of env[i]? fun o => Of o fun _ => QO (.slot i) env := by
  unfold oVar
  cases env[i]? with
  | none => with_unfolding_all exact Iff.rfl
  | some o => cases o <;> with_unfolding_all exact Iff.rfl
@[simp ↓] theorem ev_eVar (i : Nat) : Ev (eVar i env) Q X ↔ Of env[i]? fun o => Of o fun m => Q (.im (frz m)) (env.set i (some (.im (frz m)))) := by
  unfold eVar
  cases env[i]? with
  | none => with_unfolding_all exact Iff.rfl
  | some o => cases o <;> with_unfolding_all exact Iff.rfl
@[simp ↓] theorem ev_eMove (i : Nat) : Ev (eMove i env) Q X ↔ Of env[i]? fun o => Of o fun m => Q m (env.set i none) := by
  unfold eMove
  cases env[i]? with
  | none => with_unfolding_all exact Iff.rfl
  | some o => cases o <;> with_unfolding_all exact Iff.rfl
@[simp ↓] theorem ev_oOf (f : FE) : Ev (oOf f env) QO X ↔ Ev (f env) (fun m e => QO (.val (frz m)) e) X := by
  unfold oOf; (repeat' first | with_unfolding_all exact Iff.rfl | (rewrite [Ev_bind]; refine iff_ev fun _ _ => ?_) | (rewrite [Ev_of]; refine iff_of fun _ => ?_) | (rewrite [Ev_when]; refine and_congr_right fun _ => ?_) | (rewrite [Ev_unless]; refine and_congr_right fun _ => ?_) | (rewrite [Ev_ite]; refine iff_br ?_ ?_) | (dsimp only))
@[simp ↓] theorem ev_eC (d : D) : Ev (eC d env) Q X ↔ Q (.im d) env := by with_unfolding_all exact Iff.rfl
theorem ev_two {α : Type} {Q : α → Env → Prop} (fo go : FO) (k : D → D → Env → Rs (α × Env)) : Ev (two fo go k env) Q X ↔ Ev (fo env) (fun x e1 => Ev (go e1) (fun y e2 => Of (res e2 x) fun dx => Of (res e2 y) fun dy => Ev (k dx dy e2) Q X) X) X := by
  unfold two; (repeat' first | with_unfolding_all exact Iff.rfl | (rewrite [Ev_bind]; refine iff_ev fun _ _ => ?_) | (rewrite [Ev_of]; refine iff_of fun _ => ?_) | (rewrite [Ev_when]; refine and_congr_right fun _ => ?_) | (rewrite [Ev_unless]; refine and_congr_right fun _ => ?_) | (rewrite [Ev_ite]; refine iff_br ?_ ?_) | (dsimp only))
@[simp ↓] theorem ev_eBin (op : D → D → Option M) (fo go : FO) : Ev (eBin op fo go env) Q X ↔ Ev (fo env) (fun x e1 => Ev (go e1) (fun y e2 => Of (res e2 x) fun dx => Of (res e2 y) fun dy => Of (op dx dy) fun m => Q m e2) X) X := by
  unfold eBin; rw [ev_two]; refine iff_ev fun _ _ => iff_ev fun _ _ => iff_of fun _ => iff_of fun _ => ?_; (repeat' first | with_unfolding_all exact Iff.rfl | (rewrite [Ev_bind]; refine iff_ev fun _ _ => ?_) | (rewrite [Ev_of]; refine iff_of fun _ => ?_) | (rewrite [Ev_when]; refine and_congr_right fun _ => ?_) | (rewrite [Ev_unless]; refine and_congr_right fun _ => ?_) | (rewrite [Ev_ite]; refine iff_br ?_ ?_) | (dsimp only))
@[simp ↓] theorem ev_tCmp (f : D → D → Option Bool) (fo go : FO) : Ev (tCmp' f fo go env) QT X ↔ Ev (fo env) (fun x e1 => Ev (go e1) (fun y e2 => Of (res e2 x) fun dx => Of (res e2 y) fun dy => Of (f dx dy) fun m => QT m e2) X) X := by
  unfold tCmp'; rw [ev_two]; refine iff_ev fun _ _ => iff_ev fun _ _ => iff_of fun _ => iff_of fun _ => ?_; (repeat' first | with_unfolding_all exact Iff.rfl | (rewrite [Ev_bind]; refine iff_ev fun _ _ => ?_) | (rewrite [Ev_of]; refine iff_of fun _ => ?_) | (rewrite [Ev_when]; refine and_congr_right fun _ => ?_) | (rewrite [Ev_unless]; refine and_congr_right fun _ => ?_) | (rewrite [Ev_ite]; refine iff_br ?_ ?_) | (dsimp only))
@[simp ↓] theorem ev_eIdx (fo go : FO) : Ev (eIdx fo go env) Q X ↔ Ev (fo env) (fun x e1 => Ev (go e1) (fun y e2 => Of (res e2 x) fun dx => Of (res e2 y) fun dy => Of (idxD dx dy) fun d => Q (.im d) e2) X) X := by
  unfold eIdx; rw [ev_two]; refine iff_ev fun _ _ => iff_ev fun _ _ => iff_of fun _ => iff_of fun _ => ?_; (repeat' first | with_unfolding_all exact Iff.rfl | (rewrite [Ev_bind]; refine iff_ev fun _ _ => ?_) | (rewrite [Ev_of]; refine iff_of fun _ => ?_) | (rewrite [Ev_when]; refine and_congr_right fun _ => ?_) | (rewrite [Ev_unless]; refine and_congr_right fun _ => ?_) | (rewrite [Ev_ite]; refine iff_br ?_ ?_) | (dsimp only))
@[simp ↓] theorem ev_eOfT (t : FT) : Ev (eOfT t env) Q X ↔ Ev (t env) (fun b e => Q (.im (.bl b)) e) X := by
  unfold eOfT; (repeat' first | with_unfolding_all exact Iff.rfl | (rewrite [Ev_bind]; refine iff_ev fun _ _ => ?_) | (rewrite [Ev_of]; refine iff_of fun _ => ?_) | (rewrite [Ev_when]; refine and_congr_right fun _ => ?_) | (rewrite [Ev_unless]; refine and_congr_right fun _ => ?_) | (rewrite [Ev_ite]; refine iff_br ?_ ?_) | (dsimp only))
@[simp ↓] theorem ev_tTru (fo : FO) : Ev (tTru' fo env) QT X ↔ Ev (fo env) (fun x e => Of (res e x) fun d => Of (truD d) fun b => QT b e) X := by
  unfold tTru'; (repeat' first | with_unfolding_all exact Iff.rfl | (rewrite [Ev_bind]; refine iff_ev fun _ _ => ?_) | (rewrite [Ev_of]; refine iff_of fun _ => ?_) | (rewrite [Ev_when]; refine and_congr_right fun _ => ?_) | (rewrite [Ev_unless]; refine and_congr_right fun _ => ?_) | (rewrite [Ev_ite]; refine iff_br ?_ ?_) | (dsimp only))
@[simp ↓] theorem ev_tNot (t : FT) : Ev (tNotF t env) QT X ↔ Ev (t env) (fun b e => QT (!b) e) X := by
  unfold tNotF; (repeat' first | with_unfolding_all exact Iff.rfl | (rewrite [Ev_bind]; refine iff_ev fun _ _ => ?_) | (rewrite [Ev_of]; refine iff_of fun _ => ?_) | (rewrite [Ev_when]; refine and_congr_right fun _ => ?_) | (rewrite [Ev_unless]; refine and_congr_right fun _ => ?_) | (rewrite [Ev_ite]; refine iff_br ?_ ?_) | (dsimp only))
@[simp ↓] theorem ev_tAnd (t u : FT) : Ev (tAndF t u env) QT X ↔ Ev (t env) (fun b e => Br b (Ev (u e) QT X) (QT false e)) X := by
  unfold tAndF; (repeat' first | with_unfolding_all exact Iff.rfl | (rewrite [Ev_bind]; refine iff_ev fun _ _ => ?_) | (rewrite [Ev_of]; refine iff_of fun _ => ?_) | (rewrite [Ev_when]; refine and_congr_right fun _ => ?_) | (rewrite [Ev_unless]; refine and_congr_right fun _ => ?_) | (rewrite [Ev_ite]; refine iff_br ?_ ?_) | (dsimp only))
@[simp ↓] theorem ev_tOr (t u : FT) : Ev (tOrF t u env) QT X ↔ Ev (t env) (fun b e => Br b (QT true e) (Ev (u e) QT X)) X := by
  unfold tOrF; (repeat' first | with_unfolding_all exact Iff.rfl | (rewrite [Ev_bind]; refine iff_ev fun _ _ => ?_) | (rewrite [Ev_of]; refine iff_of fun _ => ?_) | (rewrite [Ev_when]; refine and_congr_right fun _ => ?_) | (rewrite [Ev_unless]; refine and_congr_right fun _ => ?_) | (rewrite [Ev_ite]; refine iff_br ?_ ?_) | (dsimp only))
@[simp ↓] theorem ev_eAnd (f k : FE) : Ev (eAndF f k env) Q X ↔ Ev (f env) (fun m e => Of (truD (frz m)) fun b => Br b (Ev (k e) Q X) (Q (.im (frz m)) e)) X := by
  unfold eAndF; (repeat' first | with_unfolding_all exact Iff.rfl | (rewrite [Ev_bind]; refine iff_ev fun _ _ => ?_) | (rewrite [Ev_of]; refine iff_of fun _ => ?_) | (rewrite [Ev_when]; refine and_congr_right fun _ => ?_) | (rewrite [Ev_unless]; refine and_congr_right fun _ => ?_) | (rewrite [Ev_ite]; refine iff_br ?_ ?_) | (dsimp only))
@[simp ↓] theorem ev_eOr (f k : FE) : Ev (eOrF f k env) Q X ↔ Ev (f env) (fun m e => Of (truD (frz m)) fun b => Br b (Q (.im (frz m)) e) (Ev (k e) Q X)) X := by
  unfold eOrF; (repeat' first | with_unfolding_all exact Iff.rfl | (rewrite [Ev_bind]; refine iff_ev fun _ _ => ?_) | (rewrite [Ev_of]; refine iff_of fun _ => ?_) | (rewrite [Ev_when]; refine and_congr_right fun _ => ?_) | (rewrite [Ev_unless]; refine and_congr_right fun _ => ?_) | (rewrite [Ev_ite]; refine iff_br ?_ ?_) | (dsimp only))
@[simp ↓] theorem ev_eNot (fo : FO) : Ev (eNotF fo env) Q X ↔ Ev (fo env) (fun x e => Of (res e x) fun d => Of (truD d) fun b => Q (.im (.bl (!b))) e) X := by
  unfold eNotF; (repeat' first | with_unfolding_all exact Iff.rfl | (rewrite [Ev_bind]; refine iff_ev fun _ _ => ?_) | (rewrite [Ev_of]; refine iff_of fun _ => ?_) | (rewrite [Ev_when]; refine and_congr_right fun _ => ?_) | (rewrite [Ev_unless]; refine and_congr_right fun _ => ?_) | (rewrite [Ev_ite]; refine iff_br ?_ ?_) | (dsimp only))
def intD : D → Option Int
  | .int i => some i
  | _ => none
@[simp] theorem intD_int (i : Int) : intD (.int i) = some i := rfl
@[simp ↓] theorem ev_eNeg (fo : FO) : Ev (eNegF fo env) Q X ↔ Ev (fo env) (fun x e => Of (res e x) fun d => Of (intD d) fun i => Q (.im (.int (-i))) e) X := by
  unfold eNegF; rw [Ev_bind]; refine iff_ev fun x e => ?_; dsimp only; rw [Ev_of]; refine iff_of fun d => ?_
  cases d <;> with_unfolding_all exact Iff.rfl
@[simp ↓] theorem ev_eIte (t : FT) (f k : FE) : Ev (eIteF t f k env) Q X ↔ Ev (t env) (fun b e => Br b (Ev (f e) Q X) (Ev (k e) Q X)) X := by
  unfold eIteF; (repeat' first | with_unfolding_all exact Iff.rfl | (rewrite [Ev_bind]; refine iff_ev fun _ _ => ?_) | (rewrite [Ev_of]; refine iff_of fun _ => ?_) | (rewrite [Ev_when]; refine and_congr_right fun _ => ?_) | (rewrite [Ev_unless]; refine and_congr_right fun _ => ?_) | (rewrite [Ev_ite]; refine iff_br ?_ ?_) | (dsimp only))
@[simp ↓] theorem ev_tCh (f1 f2 : D → D → Option Bool) (fo go ho : FO) : Ev (tChF f1 f2 fo go ho env) QT X ↔ Ev (fo env) (fun x e1 => Ev (go e1) (fun y e2 => Of (res e2 x) fun dx => Of (res e2 y) fun dy => Of (f1 dx dy) fun b =>
    Br b (Ev (ho e2) (fun z e3 => Of (res e3 y) fun dy => Of (res e3 z) fun dz => Of (f2 dy dz) fun c => QT c e3) X) (QT false e2)) X) X := by
  unfold tChF; (repeat' first | with_unfolding_all exact Iff.rfl | (rewrite [Ev_bind]; refine iff_ev fun _ _ => ?_) | (rewrite [Ev_of]; refine iff_of fun _ => ?_) | (rewrite [Ev_when]; refine and_congr_right fun _ => ?_) | (rewrite [Ev_unless]; refine and_congr_right fun _ => ?_) | (rewrite [Ev_ite]; refine iff_br ?_ ?_) | (dsimp only))
@[simp ↓] theorem ev_dNil : Ev (dNil env) QD X ↔ QD [] env := by with_unfolding_all exact Iff.rfl
@[simp ↓] theorem ev_dCons (f : FE) (k : FD) : Ev (dCons f k env) QD X ↔ Ev (f env) (fun m e => Ev (k e) (fun ds e => QD (frz m :: ds) e) X) X := by
  unfold dCons; (repeat' first | with_unfolding_all exact Iff.rfl | (rewrite [Ev_bind]; refine iff_ev fun _ _ => ?_) | (rewrite [Ev_of]; refine iff_of fun _ => ?_) | (rewrite [Ev_when]; refine and_congr_right fun _ => ?_) | (rewrite [Ev_unless]; refine and_congr_right fun _ => ?_) | (rewrite [Ev_ite]; refine iff_br ?_ ?_) | (dsimp only))
@[simp ↓] theorem ev_eTup (k : FD) : Ev (eTup k env) Q X ↔ Ev (k env) (fun ds e => ds.length ≤ sizeLine ∧ Q (.im (.tup ds)) e) X := by
  unfold eTup; (repeat' first | with_unfolding_all exact Iff.rfl | (rewrite [Ev_bind]; refine iff_ev fun _ _ => ?_) | (rewrite [Ev_of]; refine iff_of fun _ => ?_) | (rewrite [Ev_when]; refine and_congr_right fun _ => ?_) | (rewrite [Ev_unless]; refine and_congr_right fun _ => ?_) | (rewrite [Ev_ite]; refine iff_br ?_ ?_) | (dsimp only))
@[simp ↓] theorem ev_mNil : Ev (mNil env) QM X ↔ QM [] env := by with_unfolding_all exact Iff.rfl
@[simp ↓] theorem ev_mCons (f : FE) (k : FM) : Ev (mCons f k env) QM X ↔ Ev (f env) (fun m e => Ev (k e) (fun ds e => QM (m :: ds) e) X) X := by
  unfold mCons; (repeat' first | with_unfolding_all exact Iff.rfl | (rewrite [Ev_bind]; refine iff_ev fun _ _ => ?_) | (rewrite [Ev_of]; refine iff_of fun _ => ?_) | (rewrite [Ev_when]; refine and_congr_right fun _ => ?_) | (rewrite [Ev_unless]; refine and_congr_right fun _ => ?_) | (rewrite [Ev_ite]; refine iff_br ?_ ?_) | (dsimp only))
@[simp ↓] theorem ev_eLst (k : FM) : Ev (eLst k env) Q X ↔ Ev (k env) (fun ds e => ds.length ≤ sizeLine ∧ Q (.ls ds) e) X := by
  unfold eLst; (repeat' first | with_unfolding_all exact Iff.rfl | (rewrite [Ev_bind]; refine iff_ev fun _ _ => ?_) | (rewrite [Ev_of]; refine iff_of fun _ => ?_) | (rewrite [Ev_when]; refine and_congr_right fun _ => ?_) | (rewrite [Ev_unless]; refine and_congr_right fun _ => ?_) | (rewrite [Ev_ite]; refine iff_br ?_ ?_) | (dsimp only))
@[simp ↓] theorem ev_iNone : Ev (iNone env) QI X ↔ QI none env := by with_unfolding_all exact Iff.rfl
@[simp ↓] theorem ev_iSome (fo : FO) : Ev (iSome fo env) QI X ↔ Ev (fo env) (fun x e => Of (res e x) fun d => Of (intD d) fun i => QI (some i) e) X := by
  unfold iSome; rw [Ev_bind]; refine iff_ev fun x e => ?_; dsimp only; rw [Ev_of]; refine iff_of fun d => ?_
  cases d <;> with_unfolding_all exact Iff.rfl
@[simp ↓] theorem ev_eSlc (fo : FO) (lo hi : FI) : Ev (eSlc fo lo hi env) Q X ↔ Ev (fo env) (fun x e => Ev (lo e) (fun l e => Ev (hi e) (fun h e => Of (res e x) fun d => Of (slcD d l h) fun m => Q m e) X) X) X := by
  unfold eSlc; (repeat' first | with_unfolding_all exact Iff.rfl | (rewrite [Ev_bind]; refine iff_ev fun _ _ => ?_) | (rewrite [Ev_of]; refine iff_of fun _ => ?_) | (rewrite [Ev_when]; refine and_congr_right fun _ => ?_) | (rewrite [Ev_unless]; refine and_congr_right fun _ => ?_) | (rewrite [Ev_ite]; refine iff_br ?_ ?_) | (dsimp only))
@[simp ↓] theorem ev_aNil : Ev (aNil env) QA X ↔ QA [] env := by with_unfolding_all exact Iff.rfl
@[simp ↓] theorem ev_aCons (fo : FO) (k : FA) : Ev (aCons fo k env) QA X ↔ Ev (fo env) (fun o e => Ev (k e) (fun os e => QA (o :: os) e) X) X := by
  unfold aCons; (repeat' first | with_unfolding_all exact Iff.rfl | (rewrite [Ev_bind]; refine iff_ev fun _ _ => ?_) | (rewrite [Ev_of]; refine iff_of fun _ => ?_) | (rewrite [Ev_when]; refine and_congr_right fun _ => ?_) | (rewrite [Ev_unless]; refine and_congr_right fun _ => ?_) | (rewrite [Ev_ite]; refine iff_br ?_ ?_) | (dsimp only))
@[simp ↓] theorem ev_eCall (fn : List D → Option M) (k : FA) : Ev (eCall fn k env) Q X ↔ Ev (k env) (fun os e => Of (resAll e os) fun ds => Of (fn ds) fun m => Q m e) X := by
  unfold eCall; (repeat' first | with_unfolding_all exact Iff.rfl | (rewrite [Ev_bind]; refine iff_ev fun _ _ => ?_) | (rewrite [Ev_of]; refine iff_of fun _ => ?_) | (rewrite [Ev_when]; refine and_congr_right fun _ => ?_) | (rewrite [Ev_unless]; refine and_congr_right fun _ => ?_) | (rewrite [Ev_ite]; refine iff_br ?_ ?_) | (dsimp only))
@[simp ↓] theorem ev_eMeth (T : String) (fn : D → List D → Option M) (fo : FO) (k : FA) : Ev (eMeth T fn fo k env) Q X ↔ Ev (fo env) (fun x e => Of (res e x) fun dx => isTy T dx = true ∧ Ev (k e) (fun os e => Of (res e x) fun dx => Of (resAll e os) fun ds => Of (fn dx ds) fun m => Q m e) X) X := by
  unfold eMeth; (repeat' first | with_unfolding_all exact Iff.rfl | (rewrite [Ev_bind]; refine iff_ev fun _ _ => ?_) | (rewrite [Ev_of]; refine iff_of fun _ => ?_) | (rewrite [Ev_when]; refine and_congr_right fun _ => ?_) | (rewrite [Ev_unless]; refine and_congr_right fun _ => ?_) | (rewrite [Ev_ite]; refine iff_br ?_ ?_) | (dsimp only))
@[simp ↓] theorem ev_eIsi (ts : List Ty) (fo : FO) : Ev (eIsi ts fo env) Q X ↔ Ev (fo env) (fun x e => Of (res e x) fun d => Of (isiA ts d) fun b => Q (.im (.bl b)) e) X := by
  unfold eIsi; (repeat' first | with_unfolding_all exact Iff.rfl | (rewrite [Ev_bind]; refine iff_ev fun _ _ => ?_) | (rewrite [Ev_of]; refine iff_of fun _ => ?_) | (rewrite [Ev_when]; refine and_congr_right fun _ => ?_) | (rewrite [Ev_unless]; refine and_congr_right fun _ => ?_) | (rewrite [Ev_ite]; refine iff_br ?_ ?_) | (dsimp only))
end
end Eng
end
section
set_option Elab.async false
set_option linter.all false
set_option maxRecDepth 100000
open Eng
local macro_rules
  | `(Ev $r $q $x) => `(@Ev _ $r (CQ.mk $q) (CX.mk $x))
  | `(Mv $r $q $x) => `(@Mv $r (CM.mk $q) (CY.mk $x))
  | `(Of $r $q) => `(@Of _ $r (CO.mk $q))
  | `(Br $r $p $q) => `(@Br $r (CP.mk $p) (CP.mk $q))
  | `(NX $s $p $e) => `(@NX _ $e (CN.mk $s $p))
namespace Eng
open PySem L2
/-! ### shapes of results -/
def lsM : M → Option (List M)
  | .ls ms => some ms
  | _ => none
def imM : M → Option D
  | .im d => some d
  | _ => none
def tupD : D → Option (List D)
  | .tup ds => some ds
  | _ => none
@[simp] theorem lsM_ls (ms : List M) : lsM (.ls ms) = some ms := rfl
@[simp] theorem imM_im (d : D) : imM (.im d) = some d := rfl
@[simp] theorem tupD_tup (ds : List D) : tupD (.tup ds) = some ds := rfl
/-- how a statement's end is taken up -/
def SQ (fl : Fl) (l : FS) (e : Env) (Q : Fl → Env → Prop) (X : Nat → List D → Env → Prop) : Prop := match fl with
  | .nx => Ev (l e) Q X
  | fl => Q fl e
section
variable {Q : M → Env → Prop} {QO : Opd → Env → Prop} {QT : Bool → Env → Prop} {QA : List Opd → Env → Prop} {QD : List D → Env → Prop} {QM : List M → Env → Prop} {QI : Option Int → Env → Prop} {QS : Fl → Env → Prop} {QR : Int × Int → Env → Prop} {X : Nat → List D → Env → Prop} {env : Env}
@[simp, simp ↓] theorem SQ_nx (l : FS) (e : Env) : SQ .nx l e QS X ↔ Ev (l e) QS X := by with_unfolding_all exact Iff.rfl
@[simp, simp ↓] theorem SQ_bk (l : FS) (e : Env) : SQ .bk l e QS X ↔ QS .bk e := by with_unfolding_all exact Iff.rfl
@[simp, simp ↓] theorem SQ_ct (l : FS) (e : Env) : SQ .ct l e QS X ↔ QS .ct e := by with_unfolding_all exact Iff.rfl
@[simp, simp ↓] theorem SQ_rt (l : FS) (e : Env) (m : M) : SQ (.rt m) l e QS X ↔ QS (.rt m) e := by with_unfolding_all exact Iff.rfl
@[simp ↓] theorem ev_sSkip : Ev (sSkip env) QS X ↔ QS .nx env := by with_unfolding_all exact Iff.rfl
@[simp ↓] theorem ev_sSeq (k l : FS) : Ev (sSeq k l env) QS X ↔ Ev (k env) (fun fl e => SQ fl l e QS X) X := by
  unfold sSeq
  cases h : k env with
  | ok p => obtain ⟨fl, e⟩ := p; cases fl <;> with_unfolding_all exact Iff.rfl
  | exc c fs e => with_unfolding_all exact Iff.rfl
  | bad => with_unfolding_all exact Iff.rfl
@[simp ↓] theorem ev_sRet (f : FE) : Ev (sRet f env) QS X ↔ Ev (f env) (fun m e => QS (.rt m) e) X := by
  unfold sRet; (repeat' first | with_unfolding_all exact Iff.rfl | (rewrite [Ev_bind]; refine iff_ev fun _ _ => ?_) | (rewrite [Ev_of]; refine iff_of fun _ => ?_) | (rewrite [Ev_when]; refine and_congr_right fun _ => ?_) | (rewrite [Ev_unless]; refine and_congr_right fun _ => ?_) | (rewrite [Ev_ite]; refine iff_br ?_ ?_) | (dsimp only))
@[simp ↓] theorem ev_sRetN : Ev (sRetN env) QS X ↔ QS (.rt (.im .non)) env := by with_unfolding_all exact Iff.rfl
@[simp ↓] theorem ev_sExpr (f : FE) : Ev (sExpr f env) QS X ↔ Ev (f env) (fun m e => QS .nx e) X := by
  unfold sExpr; (repeat' first | with_unfolding_all exact Iff.rfl | (rewrite [Ev_bind]; refine iff_ev fun _ _ => ?_) | (rewrite [Ev_of]; refine iff_of fun _ => ?_) | (rewrite [Ev_when]; refine and_congr_right fun _ => ?_) | (rewrite [Ev_unless]; refine and_congr_right fun _ => ?_) | (rewrite [Ev_ite]; refine iff_br ?_ ?_) | (dsimp only))
@[simp ↓] theorem ev_sIf (t : FT) (k l : FS) : Ev (sIf t k l env) QS X ↔ Ev (t env) (fun b e => Br b (Ev (k e) QS X) (Ev (l e) QS X)) X := by
  unfold sIf; (repeat' first | with_unfolding_all exact Iff.rfl | (rewrite [Ev_bind]; refine iff_ev fun _ _ => ?_) | (rewrite [Ev_of]; refine iff_of fun _ => ?_) | (rewrite [Ev_when]; refine and_congr_right fun _ => ?_) | (rewrite [Ev_unless]; refine and_congr_right fun _ => ?_) | (rewrite [Ev_ite]; refine iff_br ?_ ?_) | (dsimp only))
@[simp ↓] theorem ev_sBreak : Ev (sBreak env) QS X ↔ QS .bk env := by with_unfolding_all exact Iff.rfl
@[simp ↓] theorem ev_sCont : Ev (sCont env) QS X ↔ QS .ct env := by with_unfolding_all exact Iff.rfl
@[simp ↓] theorem ev_sSet (mp : List Nat) (i : Nat) (f : FE) : Ev (sSet mp i f env) QS X ↔ Ev (f env) (fun m e => ¬ (i ∈ mp ∨ e.length ≤ i) ∧ QS .nx (e.set i (some m))) X := by
  unfold sSet; (repeat' first | with_unfolding_all exact Iff.rfl | (rewrite [Ev_bind]; refine iff_ev fun _ _ => ?_) | (rewrite [Ev_of]; refine iff_of fun _ => ?_) | (rewrite [Ev_when]; refine and_congr_right fun _ => ?_) | (rewrite [Ev_unless]; refine and_congr_right fun _ => ?_) | (rewrite [Ev_ite]; refine iff_br ?_ ?_) | (dsimp only))
@[simp ↓] theorem ev_sAsg (tg : FG) (f : FE) : Ev (sAsg tg f env) QS X ↔ Ev (f env) (fun m e => Of (tg (frz m) e) fun e => QS .nx e) X := by
  unfold sAsg; (repeat' first | with_unfolding_all exact Iff.rfl | (rewrite [Ev_bind]; refine iff_ev fun _ _ => ?_) | (rewrite [Ev_of]; refine iff_of fun _ => ?_) | (rewrite [Ev_when]; refine and_congr_right fun _ => ?_) | (rewrite [Ev_unless]; refine and_congr_right fun _ => ?_) | (rewrite [Ev_ite]; refine iff_br ?_ ?_) | (dsimp only))
@[simp ↓] theorem ev_sFor (tg : FG) (src : FW) (k : FS) : Ev (sFor tg src k env) QS X ↔ Ev (src env) (fun ds e => Ev (loopF tg k ds e) QS X) X := by
  unfold sFor; (repeat' first | with_unfolding_all exact Iff.rfl | (rewrite [Ev_bind]; refine iff_ev fun _ _ => ?_) | (rewrite [Ev_of]; refine iff_of fun _ => ?_) | (rewrite [Ev_when]; refine and_congr_right fun _ => ?_) | (rewrite [Ev_unless]; refine and_congr_right fun _ => ?_) | (rewrite [Ev_ite]; refine iff_br ?_ ?_) | (dsimp only))
@[simp ↓] theorem ev_eApp (i : Nat) (f : FE) : Ev (eApp i f env) Q X ↔ Of env[i]? fun o => Of o fun m => Of (lsM m) fun _ => Ev (f env) (fun m e => Of e[i]? fun o => Of o fun l => Of (lsM l) fun ms => ms.length < sizeLine ∧ Q (.im .non) (e.set i (some (.ls (ms ++ [m]))))) X := by
  unfold eApp
  cases env[i]? with
  | none => with_unfolding_all exact Iff.rfl
  | some o => 
    cases o with
    | none => with_unfolding_all exact Iff.rfl
    | some m =>
      cases m with
      | ls ms =>
        simp only [Ev_bind, Of_some, lsM]
        refine iff_ev fun x e => ?_
        dsimp only
        cases e[i]? with
        | none => with_unfolding_all exact Iff.rfl
        | some o =>
          cases o with
          | none => with_unfolding_all exact Iff.rfl
          | some m =>
            cases m with
            | ls ms => 
              simp only [Of_some, lsM]
              with_unfolding_all exact Ev_when _ _
            | _ => with_unfolding_all exact Iff.rfl
      | _ => with_unfolding_all exact Iff.rfl
@[simp ↓] theorem ev_sPut (i : Nat) (go : FO) (f : FE) : Ev (sPut i go f env) QS X ↔ Ev (f env) (fun m e => Of e[i]? fun o => Of o fun _ => Ev (go e) (fun y e => Of (res e y) fun di => Of e[i]? fun o => Of o fun m0 => Of (setF m0 di (frz m)) fun m1 => QS .nx (e.set i (some m1))) X) X := by
  unfold sPut
  rw [Ev_bind]
  refine iff_ev fun x e => ?_
  dsimp only
  cases h : e[i]? with
  | none => with_unfolding_all exact Iff.rfl
  | some o =>
    cases o with
    | none => with_unfolding_all exact Iff.rfl
    | some m =>
      simp only [Ev_bind, Of_some, Ev_of]
      refine iff_ev fun x e => ?_
      dsimp only
      rewrite [Ev_of]; refine iff_of fun d => ?_
      cases h : e[i]? with
      | none => with_unfolding_all exact Iff.rfl
      | some o =>
        cases o with
        | none => with_unfolding_all exact Iff.rfl
        | some m => simp only [Ev_of, Of_some]; with_unfolding_all exact Iff.rfl
@[simp ↓] theorem ev_eLRg (f : FR) : Ev (eLRg f env) Q X ↔ Ev (f env) (fun p e => rgB p.1 p.2 = true ∧ Q (.ls ((rngD p.1 p.2).map .im)) e) X := by
  unfold eLRg; (repeat' first | with_unfolding_all exact Iff.rfl | (rewrite [Ev_bind]; refine iff_ev fun _ _ => ?_) | (rewrite [Ev_of]; refine iff_of fun _ => ?_) | (rewrite [Ev_when]; refine and_congr_right fun _ => ?_) | (rewrite [Ev_unless]; refine and_congr_right fun _ => ?_) | (rewrite [Ev_ite]; refine iff_br ?_ ?_) | (dsimp only))
@[simp ↓] theorem ev_eTRg (f : FR) : Ev (eTRg f env) Q X ↔ Ev (f env) (fun p e => rgB p.1 p.2 = true ∧ Q (.im (.tup (rngD p.1 p.2))) e) X := by
  unfold eTRg; (repeat' first | with_unfolding_all exact Iff.rfl | (rewrite [Ev_bind]; refine iff_ev fun _ _ => ?_) | (rewrite [Ev_of]; refine iff_of fun _ => ?_) | (rewrite [Ev_when]; refine and_congr_right fun _ => ?_) | (rewrite [Ev_unless]; refine and_congr_right fun _ => ?_) | (rewrite [Ev_ite]; refine iff_br ?_ ?_) | (dsimp only))
@[simp ↓] theorem ev_rRng1 (fo : FO) : Ev (rRng1 fo env) QR X ↔ Ev (fo env) (fun x e => Of (res e x) fun d => Of (intD d) fun n => QR (0, n) e) X := by
  unfold rRng1; rw [Ev_bind]; refine iff_ev fun x e => ?_; dsimp only; rw [Ev_of]; refine iff_of fun d => ?_
  cases d <;> with_unfolding_all exact Iff.rfl
@[simp ↓] theorem ev_rRng2 (fo go : FO) : Ev (rRng2 fo go env) QR X ↔ Ev (fo env) (fun x e1 => Ev (go e1) (fun y e2 => Of (res e2 x) fun dx => Of (res e2 y) fun dy => Of (intD dx) fun i => Of (intD dy) fun j => QR (i, j) e2) X) X := by
  unfold rRng2; rw [ev_two]
  refine iff_ev fun x e => iff_ev fun y e => iff_of fun d => iff_of fun d' => ?_
  cases d <;> cases d' <;> with_unfolding_all exact Iff.rfl
@[simp ↓] theorem ev_eDic : Ev (eDic env) Q X ↔ Q (.dc [] []) env := by with_unfolding_all exact Iff.rfl
def walkOf : D → Option (List D)
  | .lst ds => some ds
  | .tup ds => some ds
  | .str z => some (z.cps.toList.map fun c => .str ⟨#[c]⟩)
  | _ => none
@[simp] theorem walkOf_lst (ds : List D) : walkOf (.lst ds) = some ds := rfl
@[simp] theorem walkOf_tup (ds : List D) : walkOf (.tup ds) = some ds := rfl
@[simp ↓] theorem ev_wSeq (f : FE) : Ev (wSeq f env) QD X ↔ Ev (f env) (fun m e => Of (walkOf (frz m)) fun ds => QD ds e) X := by
  unfold wSeq; rw [Ev_bind]
  refine iff_ev fun m e => ?_
  dsimp only
  cases frz m <;> with_unfolding_all exact Iff.rfl
def smI (j : Int) : Prop := -4611686018427387904 ≤ j ∧ j < 4611686018427387904
@[simp ↓] theorem ev_wRng1 (fo : FO) : Ev (wRng1 fo env) QD X ↔ Ev (fo env) (fun x e => Of (res e x) fun d => Of (intD d) fun n => smI n ∧ QD (rngD 0 n) e) X := by
  unfold wRng1; rw [Ev_bind]; refine iff_ev fun m e => ?_; dsimp only; rw [Ev_of]; refine iff_of fun d => ?_
  cases d with
  | int i => with_unfolding_all exact Ev_when _ _
  | _ => with_unfolding_all exact Iff.rfl
@[simp ↓] theorem ev_wRng2 (fo go : FO) : Ev (wRng2 fo go env) QD X ↔ Ev (fo env) (fun x e1 => Ev (go e1) (fun y e2 => Of (res e2 x) fun dx => Of (res e2 y) fun dy => Of (intD dx) fun i => Of (intD dy) fun j => smI i ∧ smI j ∧ QD (rngD i j) e2) X) X := by
  unfold wRng2; rw [ev_two]
  refine iff_ev fun x e => iff_ev fun y e => iff_of fun d => iff_of fun d' => ?_
  cases d <;> cases d' <;> try with_unfolding_all exact Iff.rfl
  simp only [Of_some, intD_int]
  rw [Ev_when]
  unfold smI
  constructor
  · rintro ⟨⟨h1, h2, h3, h4⟩, h⟩; with_unfolding_all exact ⟨⟨h1, h2⟩, ⟨h3, h4⟩, h⟩
  · rintro ⟨⟨h1, h2⟩, ⟨h3, h4⟩, h⟩; with_unfolding_all exact ⟨⟨h1, h2, h3, h4⟩, h⟩
@[simp ↓] theorem ev_wEnum (fo : FO) : Ev (wEnum fo env) QD X ↔ Ev (fo env) (fun x e => Of (res e x) fun d => Of (tupD d) fun ds => QD (enumD ds) e) X := by
  unfold wEnum; rw [Ev_bind]; refine iff_ev fun m e => ?_; dsimp only; rw [Ev_of]; refine iff_of fun d => ?_
  cases d <;> with_unfolding_all exact Iff.rfl
@[simp ↓] theorem ev_wZip (fo go : FO) : Ev (wZip (aCons fo (aCons go aNil)) env) QD X ↔ Ev (fo env) (fun x e => Ev (go e) (fun y e => Of (res e x) fun dx => Of (res e y) fun dy => Of (tupD dx) fun as => Of (tupD dy) fun bs => QD (zipD as bs) e) X) X := by
  unfold wZip; rw [Ev_bind, ev_aCons]
  refine iff_ev fun x e => ?_
  rw [ev_aCons]
  refine iff_ev fun y e => ?_
  rw [ev_aNil]
  dsimp only
  rw [Ev_of, resAll_cons, Of_bind]
  refine iff_of fun d => ?_
  rw [resAll_cons, Of_map, Of_bind]
  refine iff_of fun d' => ?_
  rw [resAll_nil, Of_map, Of_some]
  cases d <;> cases d' <;> with_unfolding_all exact Iff.rfl
@[simp ↓] theorem ev_eLenSet (fo : FO) : Ev (eLenSet fo env) Q X ↔ Ev (fo env) (fun x e => Of (res e x) fun d => Of (tupD d) fun ds => Of (intsD ds) fun ns => ns.length < 60 ∧ Q (.im (.int (dd ns).length)) e) X := by
  unfold eLenSet; rw [Ev_bind]; refine iff_ev fun m e => ?_; dsimp only; rw [Ev_of]; refine iff_of fun d => ?_
  cases d with
  | tup ds => 
    simp only [Ev_of, tupD_tup, Of_some]
    with_unfolding_all exact iff_of fun ns => Ev_when _ _
  | _ => with_unfolding_all exact Iff.rfl
@[simp ↓] theorem ev_eRev (fo : FO) : Ev (eRev fo env) Q X ↔ Ev (fo env) (fun x e => Of (res e x) fun d => Of (tupD d) fun ds => Q (.im (.tup ds.reverse)) e) X := by
  unfold eRev; rw [Ev_bind]; refine iff_ev fun m e => ?_; dsimp only; rw [Ev_of]; refine iff_of fun d => ?_
  cases d <;> with_unfolding_all exact Iff.rfl
def gtO {α : Type} (xs : List α) (k : Nat) : Option α := xs[k]?
/-- a place in a list, from the end below 0 -/
@[simp ↓] theorem ev_ePop (i : Nat) (f : FE) : Ev (ePop i f env) Q X ↔ Of env[i]? fun o => Of o fun m => Of (lsM m) fun _ => Ev (f env) (fun m e => Of (intD (frz m)) fun j => Of e[i]? fun o => Of o fun l => Of (lsM l) fun ms => Of (ims ms) fun ds => Of (ixN ms.length j) fun n => Of (gtO ds n) fun d => ms.length ≤ 1000000 ∧ Q (.im d) (e.set i (some (.ls ((ds.eraseIdx n).map .im))))) X := by
  unfold ePop
  cases env[i]? with
  | none => with_unfolding_all exact Iff.rfl
  | some o => 
    cases o with
    | none => with_unfolding_all exact Iff.rfl
    | some m =>
      cases m with
      | ls ms0 =>
        simp only [Ev_bind, Of_some, lsM]
        refine iff_ev fun x e => ?_
        dsimp only
        cases frz x with
        | int j =>
          simp only [Of_some, intD]
          cases e[i]? with
          | none => with_unfolding_all exact Iff.rfl
          | some o =>
            cases o with
            | none => with_unfolding_all exact Iff.rfl
            | some m =>
              cases m with
              | ls ms => 
                simp only [Of_some, lsM]
                cases ims ms with
                | none => with_unfolding_all exact Iff.rfl
                | some ds =>
                  simp only [Of_some]
                  cases ixN ms.length j with
                  | none => with_unfolding_all exact Iff.rfl
                  | some n =>
                    simp only [Of_some]
                    show Ev (match ds[n]? with
                      | some d => if ms.length ≤ 1000000 then .ok (M.im d, e.set i (some (.ls ((ds.eraseIdx n).map .im)))) else .bad
                      | none => .bad) _ _ ↔ Of ds[n]? _
                    cases ds[n]? with
                    | none => with_unfolding_all exact Iff.rfl
                    | some d => with_unfolding_all exact Ev_when _ _
              | _ => with_unfolding_all exact Iff.rfl
        | _ => with_unfolding_all exact Iff.rfl
      | _ => with_unfolding_all exact Iff.rfl
@[simp ↓] theorem ev_eAt (i c : Nat) : Ev (eAt i c env) Q X ↔ Of env[i]? fun o => Of o fun m => Of (lsM m) fun ms => Of ms[c]? fun m => Of (imM m) fun d => Q (.im d) env := by
  unfold eAt
  cases env[i]? with
  | none => with_unfolding_all exact Iff.rfl
  | some o => 
    cases o with
    | none => with_unfolding_all exact Iff.rfl
    | some m =>
      cases m with
      | ls ms =>
        simp only [Of_some, lsM]
        cases ms[c]? with
        | none => with_unfolding_all exact Iff.rfl
        | some m => cases m <;> with_unfolding_all exact Iff.rfl
      | _ => with_unfolding_all exact Iff.rfl
@[simp ↓] theorem ev_tTruN (i c : Nat) : Ev (tTruN i c env) QT X ↔ Of (nestD i c env) fun p => QT (!p.2.isEmpty) env := by
  unfold tTruN
  rw [Ev_of]
  with_unfolding_all exact Iff.rfl
@[simp ↓] theorem ev_eAt2 (i c j : Nat) : Ev (eAt2 i c j env) Q X ↔ Of (nestD i c env) fun p => Of (gtO p.2 j) fun d => Q (.im d) env := by
  unfold eAt2
  rewrite [Ev_of]; refine iff_of fun p => ?_
  rewrite [Ev_of]; with_unfolding_all exact Iff.rfl
@[simp ↓] theorem ev_eAppN (i c j : Nat) : Ev (eAppN i c j env) Q X ↔ Of (nestD i c env) fun p => Of env[j]? fun o => Of o fun m => Of (imM m) fun d => p.2.length < 1000000 ∧ Q (.im .non) (nestP i c p.1 (p.2 ++ [d]) env) := by
  unfold eAppN
  simp only [Ev_of]
  refine iff_of fun p => ?_
  cases env[j]? with
  | none => with_unfolding_all exact Iff.rfl
  | some o => 
    cases o with
    | none => with_unfolding_all exact Iff.rfl
    | some m =>
      cases m with
      | im d => with_unfolding_all exact Ev_when _ _
      | _ => with_unfolding_all exact Iff.rfl
@[simp ↓] theorem ev_ePopN (i c : Nat) : Ev (ePopN i c env) Q X ↔ Of (nestD i c env) fun p => Of p.2.head? fun d => p.2.length < 1000000 ∧ Q (.im d) (nestP i c p.1 p.2.tail env) := by
  unfold ePopN
  simp only [Ev_of]
  refine iff_of fun p => ?_
  obtain ⟨ms, ds⟩ := p
  cases ds with
  | nil => with_unfolding_all exact Iff.rfl
  | cons d ds => with_unfolding_all exact Ev_when _ _
@[simp ↓] theorem ev_sPutN (i c j : Nat) (f : FE) : Ev (sPutN i c j f env) QS X ↔ Ev (f env) (fun m e => Of (nestD i c e) fun p => j < p.2.length ∧ QS .nx (nestP i c p.1 (p.2.set j (frz m)) e)) X := by
  unfold sPutN
  (repeat' first | with_unfolding_all exact Iff.rfl | (rewrite [Ev_bind]; refine iff_ev fun _ _ => ?_) | (rewrite [Ev_of]; refine iff_of fun _ => ?_) | (rewrite [Ev_when]; refine and_congr_right fun _ => ?_) | (rewrite [Ev_unless]; refine and_congr_right fun _ => ?_) | (rewrite [Ev_ite]; refine iff_br ?_ ?_) | (dsimp only))
@[simp ↓] theorem ev_eTIdx (fo : FO) (k : FA) : Ev (eTIdx fo k env) Q X ↔ Ev (fo env) (fun x e => Of (res e x) fun d => Of (tupD d) fun ds => Ev (k e) (fun os e => Of (resAll e os) fun es => Of es.head? fun d => Of (intD d) fun i => es.length = 1 ∧ Of (intsD ds) fun ns => i ∈ ns ∧ Q (.im (.int (ns.idxOf i : Nat))) e) X) X := by
  unfold eTIdx; rw [Ev_bind]; refine iff_ev fun m e => ?_; dsimp only; rw [Ev_of]; refine iff_of fun d => ?_
  cases d with
  | tup ds => 
    simp only [Ev_bind, Ev_of, tupD_tup, Of_some]
    refine iff_ev fun os e => ?_
    dsimp only
    rewrite [Ev_of]; refine iff_of fun es => ?_
    cases es with
    | nil => with_unfolding_all exact Iff.rfl
    | cons d es =>
      cases es with
      | nil =>
        cases d with
        | int i => 
          simp only [Ev_of, List.head?_cons, Of_some, intD_int, List.length_cons, List.length_nil, Nat.zero_add, true_and]
          with_unfolding_all exact iff_of fun ns => Ev_when _ _
        | _ => with_unfolding_all exact Iff.rfl
      | cons d' es =>
        cases d with
        | int i =>
          show Ev Rs.bad _ _ ↔ _
          simp only [Ev_bad, List.head?_cons, Of_some, intD_int, List.length_cons]
          constructor
          · intro h; exact h.elim
          · rintro ⟨h, _⟩; omega
        | _ => with_unfolding_all exact Iff.rfl
  | _ => with_unfolding_all exact Iff.rfl
@[simp ↓] theorem ev_sRaise (c n : Nat) (k : FA) : Ev (sRaise c n k env) QS X ↔ Ev (k env) (fun os e => Of (takeArgs [] 0 os e) fun p => Of (ims p.1) fun ds => ds.length = n ∧ X c ds.reverse p.2) X := by
  unfold sRaise; (repeat' first | with_unfolding_all exact Iff.rfl | (rewrite [Ev_bind]; refine iff_ev fun _ _ => ?_) | (rewrite [Ev_of]; refine iff_of fun _ => ?_) | (rewrite [Ev_when]; refine and_congr_right fun _ => ?_) | (rewrite [Ev_unless]; refine and_congr_right fun _ => ?_) | (rewrite [Ev_ite]; refine iff_br ?_ ?_) | (dsimp only))
@[simp ↓] theorem ev_tYes : Ev (tYesF env) QT X ↔ QT true env := by with_unfolding_all exact Iff.rfl
@[simp ↓] theorem ev_eCmp (vs : List Nat) (src : FW) (tg : FG) (t : FT) (f : FE) : Ev (eCmp vs src tg t f env) Q X ↔ Ev (src env) (fun ds e => Ev (cmpF vs tg t f ds [] (emp e vs)) (fun ms e => Q (.ls ms) e) X) X := by
  unfold eCmp; (repeat' first | with_unfolding_all exact Iff.rfl | (rewrite [Ev_bind]; refine iff_ev fun _ _ => ?_) | (rewrite [Ev_of]; refine iff_of fun _ => ?_) | (rewrite [Ev_when]; refine and_congr_right fun _ => ?_) | (rewrite [Ev_unless]; refine and_congr_right fun _ => ?_) | (rewrite [Ev_ite]; refine iff_br ?_ ?_) | (dsimp only))
@[simp ↓] theorem ev_eCmp2 (vs : List Nat) (src : FW) (tg : FG) (t : FT) (src1 : FW) (vs1 : List Nat) (tg1 : FG) (t1 : FT) (f : FE) : Ev (eCmp2 vs src tg t src1 vs1 tg1 t1 f env) Q X ↔ Ev (src env) (fun ds e => Ev (cmp2F vs tg t src1 vs1 tg1 t1 f ds [] (emp e vs)) (fun ms e => Q (.ls ms) e) X) X := by
  unfold eCmp2; (repeat' first | with_unfolding_all exact Iff.rfl | (rewrite [Ev_bind]; refine iff_ev fun _ _ => ?_) | (rewrite [Ev_of]; refine iff_of fun _ => ?_) | (rewrite [Ev_when]; refine and_congr_right fun _ => ?_) | (rewrite [Ev_unless]; refine and_congr_right fun _ => ?_) | (rewrite [Ev_ite]; refine iff_br ?_ ?_) | (dsimp only))
@[simp] theorem emp_nil (e : Env) : emp e [] = e := rfl
@[simp] theorem emp_consV (e : Env) (i : Nat) (is : List Nat) : emp e (i :: is) = (emp e is).set i none := rfl
/-! ### calls -/
@[simp] theorem takeArgs_nil (mp : List Nat) (j : Nat) : takeArgs mp j [] env = some ([], env) := rfl
@[simp] theorem takeArgs_val (mp : List Nat) (j : Nat) (d : D) (os : List Opd) : takeArgs mp j (.val d :: os) env = (takeArgs mp (j + 1) os env).map fun p => (.im d :: p.1, p.2) := by
  rw [takeArgs]
  cases takeArgs mp (j + 1) os env <;> rfl
@[simp] theorem takeArgs_slot (mp : List Nat) (j i : Nat) (os : List Opd) : takeArgs mp j (.slot i :: os) env = (takeArgs mp (j + 1) os env).bind fun p => p.2[i]?.bind fun o => o.bind fun m => if j ∈ mp then some (m :: p.1, p.2.set i none) else some (.im (frz m) :: p.1, p.2.set i (some (.im (frz m)))) := by
  rw [takeArgs]
  cases takeArgs mp (j + 1) os env with
  | none => rfl
  | some p =>
    simp only [Option.bind_some]
    cases p.2[i]? with
    | none => rfl
    | some o => cases o <;> rfl
@[simp] theorem slotsOf_nil (os : List Opd) : slotsOf os [] = some [] := rfl
def sltO : Opd → Option Nat
  | .slot i => some i
  | _ => none
@[simp] theorem sltO_slot (i : Nat) : sltO (.slot i) = some i := rfl
@[simp] theorem slotsOf_cons (os : List Opd) (j : Nat) (mp : List Nat) : slotsOf os (j :: mp) = os[j]?.bind fun o => (sltO o).bind fun i => (slotsOf os mp).map (i :: ·) := by
  rw [slotsOf]
  cases os[j]? with
  | none => rfl
  | some o => cases o <;> rfl
@[simp] theorem putAll_nil : putAll [] [] env = some env := rfl
@[simp] theorem putAll_cons (i : Nat) (sl : List Nat) (m : M) (ms : List M) : putAll (i :: sl) (m :: ms) env = if i < env.length then putAll sl ms (env.set i (some m)) else none := rfl
theorem Mv_call {mp : List Nat} {mir : Mir} {ms : List M} {sl : List Nat} {e : Env} : Ev (match mir ms with
    | .bad => .bad
    | .exc c fs _ => .exc c fs e
    | .ok (m, outs) => do
      let env ← Rs.of (putAll sl outs e)
      .ok (m, env)) Q X ↔ Mv (mir ms) (fun m outs => Of (putAll sl outs e) fun e => Q m e) (fun c fs => X c fs e) := by
  cases mir ms with
  | bad => with_unfolding_all exact Iff.rfl
  | exc => with_unfolding_all exact Iff.rfl
  | ok p => obtain ⟨m, outs⟩ := p; rw [Mv_ok]; (repeat' first | with_unfolding_all exact Iff.rfl | (rewrite [Ev_bind]; refine iff_ev fun _ _ => ?_) | (rewrite [Ev_of]; refine iff_of fun _ => ?_) | (rewrite [Ev_when]; refine and_congr_right fun _ => ?_) | (rewrite [Ev_unless]; refine and_congr_right fun _ => ?_) | (rewrite [Ev_ite]; refine iff_br ?_ ?_) | (dsimp only))
@[simp ↓] theorem ev_eCallF (mp : List Nat) (mir : Mir) (k : FA) : Ev (eCallF mp mir k env) Q X ↔ Ev (k env) (fun os e => Of (takeArgs mp 0 os e) fun p => Of (slotsOf os mp) fun sl => Mv (mir p.1) (fun m outs => Of (putAll sl outs p.2) fun e => Q m e) (fun c fs => X c fs p.2)) X := by
  unfold eCallF
  rewrite [Ev_bind]; refine iff_ev fun os e => ?_
  dsimp only
  rewrite [Ev_of]; refine iff_of fun p => ?_
  rewrite [Ev_of]; refine iff_of fun sl => ?_
  exact Mv_call (mp := mp)
@[simp ↓] theorem ev_eCallN (n : Nat) (mp : List Nat) (mir : Mir) (k : FA) : Ev (eCallN n mp mir k env) Q X ↔ Ev (k env) (fun os e => os.length = n ∧ Of (takeArgs mp 0 os e) fun p => Of (slotsOf os mp) fun sl => Mv (mir p.1) (fun m outs => Of (putAll sl outs p.2) fun e => Q m e) (fun c fs => X c fs p.2)) X := by
  unfold eCallN
  rewrite [Ev_bind]; refine iff_ev fun os e => ?_
  dsimp only
  rewrite [Ev_when]; refine and_congr_right fun _ => ?_
  rewrite [Ev_of]; refine iff_of fun p => ?_
  rewrite [Ev_of]; refine iff_of fun sl => ?_
  exact Mv_call (mp := mp)
def outsOf (e : Env) : List Nat → Option (List M)
  | [] => some []
  | i :: is => e[i]?.bind fun o => o.bind fun m => (outsOf e is).map (m :: ·)
@[simp] theorem outsOf_nil (e : Env) : outsOf e [] = some [] := rfl
@[simp] theorem outsOf_cons (e : Env) (i : Nat) (is : List Nat) : outsOf e (i :: is) = e[i]?.bind fun o => o.bind fun m => (outsOf e is).map (m :: ·) := rfl
theorem outsOf_eq (e : Env) : ∀ mp : List Nat, mp.mapM (fun i => e[i]?.bind id) = outsOf e mp
  | [] => rfl
  | i :: mp => by
    rw [List.mapM_cons, outsOf_eq e mp, outsOf]
    cases e[i]? with
    | none => rfl
    | some o =>
      cases o with
      | none => rfl
      | some m => simp only [Option.bind_some, id]; cases outsOf e mp <;> rfl
def RQ (mp : List Nat) (fl : Fl) (e : Env) (Q : M → List M → Prop) : Prop := match fl with
  | .rt m => Of (outsOf e mp) fun outs => Q m outs
  | .nx => Of (outsOf e mp) fun outs => Q (.im .non) outs
  | _ => False
@[simp, simp ↓] theorem RQ_rt (mp : List Nat) (m : M) (e : Env) (Q : M → List M → Prop) : RQ mp (.rt m) e Q ↔ Of (outsOf e mp) fun outs => Q m outs := by with_unfolding_all exact Iff.rfl
@[simp, simp ↓] theorem RQ_nx (mp : List Nat) (e : Env) (Q : M → List M → Prop) : RQ mp .nx e Q ↔ Of (outsOf e mp) fun outs => Q (.im .non) outs := by with_unfolding_all exact Iff.rfl
theorem mv_runF (n : Nat) (mp : List Nat) (body : FS) (ms : List M) (Q : M → List M → Prop) (X : Nat → List D → Prop) : Mv (runF n mp body ms) Q X ↔ Ev (body (ms.map some ++ List.replicate (n - ms.length) none)) (fun fl e => RQ mp fl e Q) (fun c fs _ => X c fs) := by
  unfold runF
  cases body (ms.map some ++ List.replicate (n - ms.length) none) with
  | bad => with_unfolding_all exact Iff.rfl
  | exc => with_unfolding_all exact Iff.rfl
  | ok p =>
    obtain ⟨fl, e⟩ := p
    cases fl with
    | nx => simp only [outsOf_eq]; rw [Ev_ok]; show _ ↔ Of (outsOf e mp) _; cases outsOf e mp <;> with_unfolding_all exact Iff.rfl
    | rt m => simp only [outsOf_eq]; rw [Ev_ok]; show _ ↔ Of (outsOf e mp) _; cases outsOf e mp <;> with_unfolding_all exact Iff.rfl
    | _ => with_unfolding_all exact Iff.rfl
@[simp ↓] theorem ev_sTry (i : Nat) (fb : FS) (n : Nat) (sub : Nat → Nat → Bool) (C0 : Nat) (hm : Nat → List D → Option D) : Ev (sTry i fb n sub C0 hm env) QS X ↔ Ev (fb env) QS (fun c fs e => (c < n ∧ i < e.length) ∧ Br (sub c C0) (Of (hm c fs) fun m => QS (.rt (.im m)) e) (X c fs e)) := by
  unfold sTry
  cases fb env with
  | bad => with_unfolding_all exact Iff.rfl
  | ok p => with_unfolding_all exact Iff.rfl
  | exc c fs e =>
    show Ev (if _ then _ else .bad) _ _ ↔ _
    rw [Ev_when, Ev_exc]
    refine and_congr_right fun _ => ?_
    cases sub c C0 with
    | false => rw [Br_false, if_neg (by decide)]; with_unfolding_all exact Iff.rfl
    | true =>
      rw [Br_true, if_pos rfl]
      show Ev (match hm c fs with
        | some m => .ok (Fl.rt (.im m), e)
        | none => .bad) QS X ↔ Of (hm c fs) _
      cases hm c fs <;> with_unfolding_all exact Iff.rfl
end
/-! ### targets -/
@[simp] theorem gNm_v (i : Nat) (d : D) (env : Env) : gNm i d env = if env.length ≤ i then none else some (env.set i (some (.im d))) := rfl
@[simp] theorem gTp_v (n : Nat) (k : FGs) (ds : List D) (env : Env) : gTp n k (.tup ds) env = if ds.length = n then k ds env else none := rfl
@[simp] theorem gsCons_v (f : FG) (k : FGs) (d : D) (ds : List D) (env : Env) : gsCons f k (d :: ds) env = (f d env).bind (k ds) := rfl
@[simp] theorem gsNil_v (env : Env) : gsNil [] env = some env := rfl
@[simp] theorem Of_unless {α : Type} (c : Prop) [Decidable c] (o : Option α) {Q : α → Prop} : Of (if c then none else o) Q ↔ ¬ c ∧ Of o Q := by
  by_cases h : c <;> simp [h]
/-! ### one behind another -/
theorem ev_seq {Q : Fl → Env → Prop} {X : Nat → List D → Env → Prop} {k l : FS} {env : Env} (P : Env → Prop) (h1 : Ev (k env) (fun fl e => fl = .nx ∧ P e) X) (h2 : ∀ e, P e → Ev (l e) Q X) : Ev (sSeq k l env) Q X := by
  rw [ev_sSeq]
  refine h1.mono (fun fl e h => ?_) (fun _ _ _ h => h)
  obtain ⟨rfl, h⟩ := h
  exact h2 e h
/-! ### loops -/
/-- how a turn's end is taken up: N behind a whole turn, Q behind the loop -/
def LQ (fl : Fl) (e : Env) (N : Env → Prop) (Q : Fl → Env → Prop) : Prop := match fl with
  | .nx => N e
  | .ct => N e
  | .bk => Q .nx e
  | .rt m => Q (.rt m) e
section
variable {Q : Fl → Env → Prop} {X : Nat → List D → Env → Prop}
@[simp, simp ↓] theorem LQ_nx (e : Env) (N : Env → Prop) : LQ .nx e N Q ↔ N e := by with_unfolding_all exact Iff.rfl
@[simp, simp ↓] theorem LQ_ct (e : Env) (N : Env → Prop) : LQ .ct e N Q ↔ N e := by with_unfolding_all exact Iff.rfl
@[simp, simp ↓] theorem LQ_bk (e : Env) (N : Env → Prop) : LQ .bk e N Q ↔ Q .nx e := by with_unfolding_all exact Iff.rfl
@[simp, simp ↓] theorem LQ_rt (e : Env) (N : Env → Prop) (m : M) : LQ (.rt m) e N Q ↔ Q (.rt m) e := by with_unfolding_all exact Iff.rfl
theorem loop_cons {tg : FG} {k : FS} {d : D} {ds : List D} {env : Env} : Ev (loopF tg k (d :: ds) env) Q X ↔ Of (tg d env) fun e => Ev (k e) (fun fl e => LQ fl e (fun e => Ev (loopF tg k ds e) Q X) Q) X := by
  rw [loopF]
  cases tg d env with
  | none => with_unfolding_all exact Iff.rfl
  | some e =>
    simp only [Of_some]
    cases h : k e with
    | bad => with_unfolding_all exact Iff.rfl
    | exc => with_unfolding_all exact Iff.rfl
    | ok p => obtain ⟨fl, e⟩ := p; cases fl <;> with_unfolding_all exact Iff.rfl
theorem loop_nil {tg : FG} {k : FS} {env : Env} : Ev (loopF tg k [] env) Q X ↔ Q .nx env := by with_unfolding_all exact Iff.rfl
theorem NX.mk {σ : Type} {S : σ → Env} {P : σ → Prop} {e : Env} (s : σ) (he : e = S s) (hp : P s) : NX S P e := ⟨s, he, hp⟩
/-- a loop by what holds between the turns; `pre` is done, `post` is left -/
theorem ev_loop {α σ : Type} {tg : FG} {k : FS} (f : α → D) (S : σ → Env) (P : List α → List α → σ → Prop) {xs : List α} {ds : List D} {env : Env} (s0 : σ) (hd : ds = xs.map f) (he : env = S s0) (h0 : P [] xs s0)
    (step : ∀ pre x post s, xs = pre ++ x :: post → P pre (x :: post) s → Of (tg (f x) (S s)) fun e => Ev (k e) (fun fl e => LQ fl e (fun e => NX S (P (pre ++ [x]) post) e) Q) X)
    (hend : ∀ s, P xs [] s → Q .nx (S s)) : Ev (loopF tg k ds env) Q X := by
  subst hd; subst he
  suffices h : ∀ (post pre : List α) s, xs = pre ++ post → P pre post s → Ev (loopF tg k (post.map f) (S s)) Q X from h xs [] s0 rfl h0
  intro post
  induction post with
  | nil =>
    intro pre s e h
    rw [List.map_nil, loop_nil]
    rw [List.append_nil] at e
    subst e
    exact hend s h
  | cons x post ih =>
    intro pre s e h
    rw [List.map_cons, loop_cons]
    refine (step pre x post s e h).mono fun e1 h1 => h1.mono (fun fl e2 h2 => ?_) (fun _ _ _ h => h)
    cases fl with
    | nx => obtain ⟨s', rfl, h3⟩ := h2; exact ih (pre ++ [x]) s' (by simp [e]) h3
    | ct => obtain ⟨s', rfl, h3⟩ := h2; exact ih (pre ++ [x]) s' (by simp [e]) h3
    | bk => exact h2
    | rt m => exact h2
theorem wh_succ {t : FT} {k : FS} {n : Nat} {env : Env} : Ev (whF t k (n + 1) env) Q X ↔ Ev (t env) (fun b e => Br b (Ev (k e) (fun fl e => LQ fl e (fun e => Ev (whF t k n e) Q X) Q) X) (Q .nx e)) X := by
  rw [whF]
  cases t env with
  | bad => with_unfolding_all exact Iff.rfl
  | exc => with_unfolding_all exact Iff.rfl
  | ok p =>
    obtain ⟨b, e⟩ := p
    cases b with
    | false => with_unfolding_all exact Iff.rfl
    | true =>
      rw [Ev_ok]
      simp only [Br_true]
      cases k e with
      | bad => with_unfolding_all exact Iff.rfl
      | exc => with_unfolding_all exact Iff.rfl
      | ok p => obtain ⟨fl, e⟩ := p; cases fl <;> with_unfolding_all exact Iff.rfl
/-- a while by what holds between the turns, and a number that falls -/
theorem ev_while {σ : Type} {t : FT} {k : FS} {n : Nat} (S : σ → Env) (P : σ → Prop) (μ : σ → Nat) {env : Env} (s0 : σ) (he : env = S s0) (h0 : P s0) (hn : μ s0 < n)
    (step : ∀ s, P s → Ev (t (S s)) (fun b e => Br b (Ev (k e) (fun fl e => LQ fl e (fun e => NX S (fun s' => P s' ∧ μ s' < μ s) e) Q) X) (Q .nx e)) X) : Ev (whF t k n env) Q X := by
  subst he
  suffices h : ∀ (n : Nat) s, P s → μ s < n → Ev (whF t k n (S s)) Q X from h n s0 h0 hn
  intro n
  induction n with
  | zero => intro s _ h; omega
  | succ n ih =>
    intro s h hm
    rw [wh_succ]
    refine (step s h).mono (fun b e h1 => ?_) (fun _ _ _ h => h)
    cases b with
    | false => rw [Br_false] at h1 ⊢; exact h1
    | true =>
      rw [Br_true] at h1 ⊢
      refine Ev.mono h1 (fun fl e2 h2 => ?_) (fun _ _ _ h => h)
      cases fl with
      | nx => obtain ⟨s', rfl, h3, h4⟩ := h2; exact ih s' h3 (by omega)
      | ct => obtain ⟨s', rfl, h3, h4⟩ := h2; exact ih s' h3 (by omega)
      | bk => exact h2
      | rt m => exact h2
end
/-! ### comprehensions -/
section
variable {Q : List M → Env → Prop} {X : Nat → List D → Env → Prop}
theorem cmp_nil {vs : List Nat} {tg : FG} {t : FT} {f : FE} {ms : List M} {env : Env} : Ev (cmpF vs tg t f [] ms env) Q X ↔ Q ms env := by with_unfolding_all exact Iff.rfl
theorem cmp_cons {vs : List Nat} {tg : FG} {t : FT} {f : FE} {d : D} {ds : List D} {ms : List M} {env : Env} : Ev (cmpF vs tg t f (d :: ds) ms env) Q (fun _ _ _ => False) ↔
    Of (tg d (emp env vs)) fun e => Ev (t e) (fun b e => Br b (Ev (f e) (fun m e => ms.length < sizeLine ∧ Ev (cmpF vs tg t f ds (ms ++ [m]) (emp e vs)) Q (fun _ _ _ => False)) (fun _ _ _ => False)) (Ev (cmpF vs tg t f ds ms (emp e vs)) Q (fun _ _ _ => False))) (fun _ _ _ => False) := by
  rw [cmpF]
  cases tg d (emp env vs) with
  | none => with_unfolding_all exact Iff.rfl
  | some e1 =>
    simp only [Of_some]
    cases h2 : t e1 with
    | bad => with_unfolding_all exact Iff.rfl
    | exc c fs e => with_unfolding_all exact Iff.rfl
    | ok q =>
      obtain ⟨b, e2⟩ := q
      cases b with
      | false => with_unfolding_all exact Iff.rfl
      | true =>
        rw [Ev_ok]
        simp only [Br_true]
        cases f e2 with
        | bad => with_unfolding_all exact Iff.rfl
        | exc c fs e => with_unfolding_all exact Iff.rfl
        | ok q => 
          rw [Ev_ok]
          exact Ev_when _ _
theorem ev_exf {α : Type} {r : Rs (α × Env)} {Q : α → Env → Prop} {X : Nat → List D → Env → Prop} (h : Ev r Q (fun _ _ _ => False)) : Ev r Q X := h.mono (fun _ _ h => h) fun _ _ _ h => h.elim
/-- a comprehension without effect, behind ms -/
theorem ev_cmpA {α : Type} {vs : List Nat} {tg : FG} {t : FT} {f : FE} (enc : α → D) (p : α → Bool) (g : α → M) {xs : List α} {ds : List D} {ms0 : List M} {env : Env} (hd : ds = xs.map enc) (hz : ms0.length + xs.length ≤ 16777216)
    (h : ∀ x ∈ xs, Of (tg (enc x) (emp env vs)) fun e => Ev (t e) (fun b e => b = p x ∧ Br b (Ev (f e) (fun m e => m = g x ∧ emp e vs = env) fun _ _ _ => False) (emp e vs = env)) fun _ _ _ => False)
    (hq : Q (ms0 ++ (xs.filter p).map g) env) : Ev (cmpF vs tg t f ds ms0 env) Q X := by
  subst hd
  refine ev_exf ?_
  suffices hh : ∀ (ys : List α) (ms : List M), (∀ x ∈ ys, x ∈ xs) → ms.length + ys.length ≤ 16777216 → (Q (ms ++ (ys.filter p).map g) env) → Ev (cmpF vs tg t f (ys.map enc) ms env) Q (fun _ _ _ => False) from hh xs ms0 (fun _ h => h) hz hq
  intro ys
  induction ys with
  | nil => intro ms _ _ hq; rw [List.map_nil, cmp_nil]; simpa using hq
  | cons x ys ih =>
    intro ms hin hl hq
    simp only [List.length_cons] at hl
    rw [List.map_cons, cmp_cons]
    refine (h x (hin x (by simp))).mono fun e1 h1 => Ev.mono h1 (fun b e2 h2 => ?_) (fun _ _ _ h => h)
    obtain ⟨rfl, h2⟩ := h2
    cases hp : p x with
    | false =>
      rw [hp] at h2
      rw [Br_false] at h2 ⊢
      rw [h2]
      simp only [List.filter_cons, hp, Bool.false_eq_true, if_false] at hq
      exact ih ms (fun y hy => hin y (by simp [hy])) (by omega) hq
    | true =>
      rw [hp] at h2
      rw [Br_true] at h2 ⊢
      simp only [List.filter_cons, hp, if_true, List.map_cons] at hq
      refine Ev.mono h2 (fun m e3 h3 => ?_) (fun _ _ _ h => h)
      obtain ⟨rfl, h3⟩ := h3
      refine ⟨by rw [sizeLine_eq]; omega, ?_⟩
      rw [h3]
      exact ih (ms ++ [g x]) (fun y hy => hin y (by simp [hy])) (by simp; omega) (by simpa using hq)
/-- a comprehension without effect, one item after another -/
theorem ev_cmp {α : Type} {vs : List Nat} {tg : FG} {t : FT} {f : FE} (enc : α → D) (p : α → Bool) (g : α → M) {xs : List α} {ds : List D} {env : Env} (hd : ds = xs.map enc) (hz : xs.length ≤ 16777216)
    (h : ∀ x ∈ xs, Of (tg (enc x) (emp env vs)) fun e => Ev (t e) (fun b e => b = p x ∧ Br b (Ev (f e) (fun m e => m = g x ∧ emp e vs = env) fun _ _ _ => False) (emp e vs = env)) fun _ _ _ => False)
    (hq : Q ((xs.filter p).map g) env) : Ev (cmpF vs tg t f ds [] env) Q X := ev_cmpA enc p g hd (by simpa using hz) h (by simpa using hq)
end
end Eng
end
section
set_option Elab.async false
set_option linter.all false
set_option maxRecDepth 100000
open Eng
local macro_rules
  | `(Ev $r $q $x) => `(@Ev _ $r (CQ.mk $q) (CX.mk $x))
  | `(Mv $r $q $x) => `(@Mv $r (CM.mk $q) (CY.mk $x))
  | `(Of $r $q) => `(@Of _ $r (CO.mk $q))
  | `(Br $r $p $q) => `(@Br $r (CP.mk $p) (CP.mk $q))
  | `(NX $s $p $e) => `(@NX _ $e (CN.mk $s $p))
namespace Eng
open PySem L2
@[simp] theorem sizeLine_v : sizeLine = 16777216 := sizeLine_eq
instance : Inhabited D := ⟨.non⟩
instance : Inhabited M := ⟨.im .non⟩
/-! ### a list's place -/
def nth {α : Type} [Inhabited α] (xs : List α) (k : Nat) : α := xs[k]?.getD default
section
variable {α β : Type} [Inhabited α]
theorem nth_eq {xs : List α} {k : Nat} (h : k < xs.length) : nth xs k = xs[k] := by simp [nth, h]
theorem get_nth {xs : List α} {k : Nat} (h : k < xs.length) : xs[k]? = some (nth xs k) := by simp [nth, h]
theorem nth_mem {xs : List α} {k : Nat} (h : k < xs.length) : nth xs k ∈ xs := by rw [nth_eq h]; exact List.getElem_mem _
theorem Of_get (xs : List α) (k : Nat) {Q : α → Prop} : Of xs[k]? Q ↔ k < xs.length ∧ Q (nth xs k) := by
  by_cases h : k < xs.length
  · rw [get_nth h]; simp [h]
  · rw [List.getElem?_eq_none (by omega)]; simp [h]
@[simp] theorem gt_map {γ : Type} (f : α → γ) (xs : List α) (k : Nat) : gtO (xs.map f) k = (gtO xs k).map f := by simp [gtO]
@[simp low] theorem Of_gtO (xs : List α) (k : Nat) {Q : α → Prop} : Of (gtO xs k) Q ↔ k < xs.length ∧ Q (nth xs k) := Of_get xs k
@[simp] theorem gt_cons_0 (a : α) (xs : List α) : gtO (a :: xs) 0 = some a := rfl
@[simp] theorem gt_cons_s (a : α) (xs : List α) (k : Nat) : gtO (a :: xs) (k + 1) = gtO xs k := rfl
@[simp] theorem Of_head (xs : List α) {Q : α → Prop} : Of xs.head? Q ↔ 0 < xs.length ∧ Q (nth xs 0) := by
  cases xs <;> simp [nth]
@[simp] theorem Of_last (xs : List α) {Q : α → Prop} : Of xs.getLast? Q ↔ 0 < xs.length ∧ Q (nth xs (xs.length - 1)) := by
  rw [List.getLast?_eq_getElem?, Of_get]
  constructor
  · rintro ⟨h, k⟩; exact ⟨by omega, k⟩
  · rintro ⟨h, k⟩; exact ⟨by omega, k⟩
theorem mem_nth {xs : List α} {a : α} (h : a ∈ xs) : ∃ k, k < xs.length ∧ nth xs k = a := by
  obtain ⟨k, hk, e⟩ := List.mem_iff_getElem.mp h
  exact ⟨k, hk, by rw [nth_eq hk, e]⟩
theorem nth_map {γ : Type} [Inhabited γ] (f : α → γ) {xs : List α} {k : Nat} (h : k < xs.length) : nth (xs.map f) k = f (nth xs k) := by simp [nth, h]
theorem ext_nth {xs ys : List α} (hl : xs.length = ys.length) (h : ∀ k, k < xs.length → nth xs k = nth ys k) : xs = ys := by
  apply List.ext_getElem hl
  intro k h1 h2
  have := h k h1
  rwa [nth_eq h1, nth_eq h2] at this
@[simp] theorem nth_range {n k : Nat} (h : k < n) : nth (List.range n) k = k := by simp [nth, h]
theorem nth_app_l {xs ys : List α} {k : Nat} (h : k < xs.length) : nth (xs ++ ys) k = nth xs k := by simp [nth, List.getElem?_append_left h]
theorem nth_app_r {xs ys : List α} {k : Nat} (h : xs.length ≤ k) : nth (xs ++ ys) k = nth ys (k - xs.length) := by simp [nth, List.getElem?_append_right h]
@[simp] theorem nth_concat {xs : List α} {a : α} : nth (xs ++ [a]) xs.length = a := by simp [nth]
theorem nth_set_eq {xs : List α} {k : Nat} {a : α} (h : k < xs.length) : nth (xs.set k a) k = a := by simp [nth, h]
theorem nth_set_ne {xs : List α} {k j : Nat} {a : α} (h : k ≠ j) : nth (xs.set k a) j = nth xs j := by simp [nth, h]
theorem nth_take {xs : List α} {k n : Nat} (h : k < n) : nth (xs.take n) k = nth xs k := by simp [nth, h]
theorem nth_drop {xs : List α} {k n : Nat} : nth (xs.drop n) k = nth xs (n + k) := by simp [nth]
@[simp] theorem nth_cons_zero {a : α} {xs : List α} : nth (a :: xs) 0 = a := rfl
@[simp] theorem nth_cons_succ {a : α} {xs : List α} {k : Nat} : nth (a :: xs) (k + 1) = nth xs k := rfl
end
/-! ### numbers, rows -/
def nD (n : Nat) : D := .int (n : Int)
@[simp] theorem nD_v (n : Nat) : nD n = .int (n : Int) := rfl
def rowD (r : List Nat) : D := .tup (r.map nD)
@[simp] theorem rowD_v (r : List Nat) : rowD r = .tup (r.map nD) := rfl
def rowsD (rs : List (List Nat)) : D := .tup (rs.map rowD)
@[simp] theorem rowsD_v (rs : List (List Nat)) : rowsD rs = .tup (rs.map rowD) := rfl
@[simp] theorem smI_nat (n : Nat) : smI (n : Int) ↔ n < 4611686018427387904 := by unfold smI; omega
@[simp] theorem smI_lit (n : Nat) : smI (no_index (OfNat.ofNat n) : Int) ↔ (OfNat.ofNat n : Nat) < 4611686018427387904 := smI_nat n
@[simp] theorem rngD_nat (n : Nat) : rngD 0 (n : Int) = (List.range n).map nD := by simp [rngD, nD]
@[simp] theorem rngD_lit (n : Nat) : rngD 0 (no_index (OfNat.ofNat n) : Int) = (List.range (OfNat.ofNat n)).map nD := rngD_nat n
@[simp] theorem rgB_nat (n : Nat) : rgB 0 (n : Int) = true ↔ n ≤ 1000000 := by unfold rgB; simp; omega
@[simp] theorem atI_nat (xs : List α) (k : Nat) : atI xs (k : Int) = gtO xs k := by
  unfold atI ixN gtO
  by_cases h : k < xs.length
  · simp [h]
  · rw [List.getElem?_eq_none (by omega)]; simp [h]
@[simp] theorem atI_m1 (xs : List α) : atI xs (-1) = xs.getLast? := by
  unfold atI ixN
  rw [if_neg (by omega)]
  cases xs with
  | nil => rfl
  | cons x xs =>
    rw [if_pos (by simp; omega), List.getLast?_eq_getElem?, Option.bind_some]
    congr 1
    simp; omega
@[simp] theorem atI_0 (xs : List α) : atI xs 0 = gtO xs 0 := atI_nat xs 0
@[simp] theorem atI_1 (xs : List α) : atI xs 1 = gtO xs 1 := atI_nat xs 1
@[simp] theorem atI_2 (xs : List α) : atI xs 2 = gtO xs 2 := atI_nat xs 2
@[simp] theorem atI_3 (xs : List α) : atI xs 3 = gtO xs 3 := atI_nat xs 3
@[simp] theorem Of_ixN {n k : Nat} {Q : Nat → Prop} : Of (ixN n (k : Int)) Q ↔ k < n ∧ Q k := by
  unfold ixN
  by_cases h : k < n <;> simp [h]
@[simp] theorem Of_ixN0 {n : Nat} {Q : Nat → Prop} : Of (ixN n 0) Q ↔ 0 < n ∧ Q 0 := Of_ixN (k := 0)
/-! ### the small functions, at values -/
section
variable {i j : Int} {x y : D} {xs ys : List D} {a b : Bool} {z w : Str}
@[simp] theorem addD_ii : addD (.int i) (.int j) = some (.im (.int (i + j))) := rfl
@[simp] theorem subD_ii : subD (.int i) (.int j) = some (.im (.int (i - j))) := rfl
@[simp] theorem mulD_ii : mulD (.int i) (.int j) = if big i ∨ big j then some (.im (.int (i * j))) else none := rfl
@[simp] theorem divD_ii : divD (.int i) (.int j) = if 0 < j ∧ j < 1073741824 then some (.im (.int (i / j))) else none := rfl
@[simp] theorem modD_ii : modD (.int i) (.int j) = if 0 < j then some (.im (.int (i % j))) else none := rfl
@[simp] theorem addD_tt : addD (.tup xs) (.tup ys) = if xs.length + ys.length ≤ sizeLine then some (.im (.tup (xs ++ ys))) else none := rfl
@[simp] theorem addD_ll : addD (.lst xs) (.lst ys) = if xs.length + ys.length ≤ sizeLine then some (.ls ((xs ++ ys).map .im)) else none := rfl
@[simp] theorem addD_ss : addD (.str z) (.str w) = if z.length + w.length ≤ sizeLine then some (.im (.str (z ++ w))) else none := rfl
@[simp] theorem intF_i : intF [.int i] = some (.im (.int i)) := rfl
@[simp] theorem intF_b : intF [.bl a] = some (.im (.int (if a then 1 else 0))) := rfl
@[simp] theorem absF_i : absF [.int i] = some (.im (.int (if i < 0 then -i else i))) := rfl
@[simp] theorem lenF_t : lenF [.tup xs] = some (.im (.int xs.length)) := rfl
@[simp] theorem lenF_l : lenF [.lst xs] = some (.im (.int xs.length)) := rfl
@[simp] theorem lenF_d (ks : List Key) : lenF [.dct ks xs] = some (.im (.int ks.length)) := rfl
@[simp] theorem lenF_s : lenF [.str z] = if z.length ≤ sizeLine then some (.im (.int z.length)) else none := rfl
@[simp] theorem listF_l : listF [.lst xs] = some (.ls (xs.map .im)) := rfl
@[simp] theorem listF_t : listF [.tup xs] = some (.ls (xs.map .im)) := rfl
@[simp] theorem tupF_l : tupF [.lst xs] = some (.im (.tup xs)) := rfl
@[simp] theorem tupF_t : tupF [.tup xs] = some (.im (.tup xs)) := rfl
@[simp] theorem sumF_l : sumF [.lst xs] = (intsD xs).map fun ns => .im (.int ns.sum) := rfl
@[simp low] theorem maxF_l : maxF [.lst xs] = (intsD xs).bind fun ns => ns.max?.map fun m => .im (.int m) := rfl
@[simp low] theorem maxF_t : maxF [.tup xs] = (intsD xs).bind fun ns => ns.max?.map fun m => .im (.int m) := rfl
@[simp] theorem maxF_2 : maxF [.int i, .int j] = some (.im (.int (if j > i then j else i))) := rfl
@[simp low] theorem minF_l : minF [.lst xs] = (intsD xs).bind fun ns => ns.min?.map fun m => .im (.int m) := rfl
@[simp low] theorem minF_t : minF [.tup xs] = (intsD xs).bind fun ns => ns.min?.map fun m => .im (.int m) := rfl
@[simp] theorem minF_2 : minF [.int i, .int j] = some (.im (.int (if j < i then j else i))) := rfl
@[simp] theorem allF_l : allF [.lst xs] = (boolsD xs).map fun bs => .im (.bl (bs.all id)) := rfl
@[simp] theorem anyF_l : anyF [.lst xs] = (boolsD xs).map fun bs => .im (.bl (bs.any id)) := rfl
@[simp] theorem truD_bl : truD (.bl a) = some a := rfl
@[simp] theorem truD_non : truD .non = some false := rfl
@[simp] theorem truD_i : truD (.int i) = some (i != 0) := rfl
@[simp] theorem truD_l : truD (.lst xs) = some (!xs.isEmpty) := rfl
@[simp] theorem truD_t : truD (.tup xs) = some (!xs.isEmpty) := rfl
@[simp] theorem truD_d (ks : List Key) : truD (.dct ks xs) = some (!ks.isEmpty) := rfl
@[simp] theorem eqD_ii : eqD (.int i) (.int j) = some (decide (i = j)) := rfl
@[simp] theorem eqD_ss : eqD (.str z) (.str w) = some (decide (z = w)) := rfl
@[simp] theorem eqD_bb : eqD (.bl a) (.bl b) = some (decide (a = b)) := rfl
@[simp] theorem neD_v : neD x y = (eqD x y).map (!·) := rfl
@[simp] theorem geD_ii : geD (.int i) (.int j) = some (decide (j ≤ i)) := rfl
@[simp] theorem gtD_ii : gtD (.int i) (.int j) = some (decide (j < i)) := rfl
@[simp] theorem ltD_ii : ltD (.int i) (.int j) = some (decide (i < j)) := rfl
@[simp] theorem leD_ii : leD (.int i) (.int j) = some (decide (i ≤ j)) := rfl
@[simp] theorem isntD_v : isntD x y = (isD x y).map (!·) := rfl
@[simp] theorem ninD_v : ninD x y = (inD x y).map (!·) := rfl
@[simp] theorem isD_n : isD .non .non = some true := rfl
@[simp] theorem isD_in : isD (.int i) .non = some false := rfl
@[simp] theorem isD_tn : isD (.tup xs) .non = some false := rfl
@[simp] theorem isD_sn : isD (.str z) .non = some false := rfl
@[simp] theorem isD_bn : isD (.bl a) .non = some false := rfl
@[simp] theorem isD_nb : isD .non (.bl b) = some false := rfl
@[simp] theorem isD_ib : isD (.int i) (.bl b) = some false := rfl
@[simp] theorem isD_tb : isD (.tup xs) (.bl b) = some false := rfl
@[simp] theorem isD_sb : isD (.str z) (.bl b) = some false := rfl
@[simp] theorem isD_bb : isD (.bl a) (.bl b) = some (decide (a = b)) := rfl
@[simp] theorem idxD_l : idxD (.lst xs) (.int i) = atI xs i := rfl
@[simp] theorem idxD_t : idxD (.tup xs) (.int i) = atI xs i := rfl
@[simp] theorem idxD_d (ks : List Key) : idxD (.dct ks xs) y = (keyD y).bind (getKs ks xs) := rfl
@[simp] theorem keyD_i : keyD (.int i) = some (.inl i) := rfl
@[simp] theorem keyD_s : keyD (.str z) = some (.inr z) := rfl
@[simp] theorem slcD_l (lo hi : Option Int) : slcD (.lst xs) lo hi = some (.ls ((cutD xs lo hi).map .im)) := rfl
@[simp] theorem slcD_t (lo hi : Option Int) : slcD (.tup xs) lo hi = some (.im (.tup (cutD xs lo hi))) := rfl
@[simp] theorem slcD_c (ns : List Int) (lo hi : Option Int) : slcD (.scr ns) lo hi = some (.ls ((cutD (ns.map .int) lo hi).map .im)) := rfl
@[simp low] theorem inD_l : inD x (.lst ys) = if flD x = true ∧ ys.all flD = true then some (ys.any fun y => eqF y x) else none := by
  cases x <;> rfl
@[simp low] theorem inD_t : inD x (.tup ys) = if flD x = true ∧ ys.all flD = true then some (ys.any fun y => eqF y x) else none := by
  cases x <;> rfl
@[simp] theorem flD_i : flD (.int i) = true := rfl
@[simp] theorem flD_b : flD (.bl a) = true := rfl
@[simp] theorem flD_n : flD .non = true := rfl
@[simp] theorem flD_s : flD (.str z) = true := rfl
@[simp] theorem eqF_ii : eqF (.int i) (.int j) = (i == j) := rfl
@[simp] theorem flD_allN (r : List Nat) : (r.map nD).all flD = true := by simp
theorem eqF_anyN (r : List Nat) (k : Nat) : ((r.map nD).any fun y => eqF y (.int (k : Int))) = decide (k ∈ r) := by
  induction r with
  | nil => rfl
  | cons x r ih =>
    rw [List.map_cons, List.any_cons, ih]
    simp only [nD_v, eqF_ii, List.mem_cons]
    by_cases h : x = k
    · subst h; simp
    · have h1 : ¬ (k = x) := fun e => h e.symm
      have h2 : ¬ ((x : Int) = (k : Int)) := by omega
      simp [h1, h2]
@[simp] theorem inD_tN (r : List Nat) (k : Nat) : inD (.int (k : Int)) (.tup (r.map nD)) = some (decide (k ∈ r)) := by
  rw [inD_t, if_pos ⟨rfl, by simp⟩, eqF_anyN]
@[simp] theorem inD_lN (r : List Nat) (k : Nat) : inD (.int (k : Int)) (.lst (r.map nD)) = some (decide (k ∈ r)) := by
  rw [inD_l, if_pos ⟨rfl, by simp⟩, eqF_anyN]
@[simp] theorem isiA_nil : isiA [] x = some false := rfl
@[simp] theorem isiA_cons (t : Ty) (ts : List Ty) : isiA (t :: ts) x = (isiF t x).bind fun b => if b then some true else isiA ts x := rfl
@[simp] theorem setF_ls (ms : List M) : setF (.ls ms) (.int i) x = (ixN ms.length i).map fun j => .ls (ms.set j (.im x)) := rfl
@[simp] theorem setF_dc (ks : List Key) (ms : List M) : setF (.dc ks ms) y x = (keyD y).bind fun k => if ks.length < sizeLine then some (.dc (putM ks ms k (.im x)).1 (putM ks ms k (.im x)).2) else none := rfl
@[simp low] theorem idxOfF_l : idxOfF (.lst xs) [.int i] = (intsD xs).bind fun ns => if i ∈ ns then some (.im (.int (ns.idxOf i : Nat))) else none := rfl
@[simp] theorem isTy_l : isTy "list" (.lst xs) = true := rfl
@[simp] theorem isTy_s : isTy "str" (.str z) = true := rfl
@[simp] theorem strF_i : strF [.int i] = if i.natAbs.log2 < 1920 then some (.im (.str (toString i))) else none := rfl
@[simp] theorem strF_s : strF [.str z] = some (.im (.str z)) := rfl
@[simp] theorem isiF_int (i : Int) : isiF .int (.int i) = some true := rfl
@[simp] theorem isiF_int_b : isiF .int (.bl a) = some true := rfl
@[simp] theorem isiF_int_s : isiF .int (.str z) = some false := rfl
@[simp] theorem isiF_int_t : isiF .int (.tup xs) = some false := rfl
@[simp] theorem isiF_int_l : isiF .int (.lst xs) = some false := rfl
@[simp] theorem isiF_int_n : isiF .int .non = some false := rfl
@[simp] theorem isiF_bool (i : Int) : isiF .bool (.int i) = some false := rfl
@[simp] theorem isiF_bool_b : isiF .bool (.bl a) = some true := rfl
@[simp] theorem isiF_tup (xs : List D) : isiF .tup (.tup xs) = some true := rfl
@[simp] theorem isiF_tup_i : isiF .tup (.int i) = some false := rfl
@[simp] theorem isiF_tup_b : isiF .tup (.bl a) = some false := rfl
@[simp] theorem isiF_tup_n : isiF .tup .non = some false := rfl
@[simp] theorem isiF_tup_s : isiF .tup (.str z) = some false := rfl
@[simp] theorem isiF_tup_l : isiF .tup (.lst xs) = some false := rfl
@[simp] theorem isiF_str : isiF .str (.str z) = some true := rfl
@[simp] theorem isiF_str_i : isiF .str (.int i) = some false := rfl
@[simp] theorem isiF_str_t : isiF .str (.tup xs) = some false := rfl
end
@[simp] theorem intsD_mapI (ns : List Int) : intsD (ns.map .int) = some ns := by
  induction ns with
  | nil => rfl
  | cons n ns ih => simp [intsD, ih]
@[simp] theorem intsD_nat (ns : List Nat) : intsD (ns.map nD) = some (ns.map fun (n : Nat) => (n : Int)) := by
  induction ns with
  | nil => rfl
  | cons n ns ih => simp [intsD, ih]
@[simp] theorem intsD_comp {α : Type} (f : α → Int) (ns : List α) : intsD (ns.map (D.int ∘ f)) = some (ns.map f) := by
  rw [← List.map_map]; exact intsD_mapI _
@[simp] theorem ims_take {α : Type} (f : α → D) (xs : List α) (k : Nat) : ims ((xs.map (M.im ∘ f)).take k) = some ((xs.map f).take k) := by
  rw [← List.map_take, ims_comp, List.map_take]
@[simp] theorem ims_drop {α : Type} (f : α → D) (xs : List α) (k : Nat) : ims ((xs.map (M.im ∘ f)).drop k) = some ((xs.map f).drop k) := by
  rw [← List.map_drop, ims_comp, List.map_drop]
@[simp] theorem boolsD_map (bs : List Bool) : boolsD (bs.map .bl) = some bs := by
  induction bs with
  | nil => rfl
  | cons n ns ih => simp [boolsD, ih]
@[simp] theorem boolsD_comp {α : Type} (f : α → Bool) (bs : List α) : boolsD (bs.map (D.bl ∘ f)) = some (bs.map f) := by
  rw [← List.map_map]; exact boolsD_map _
@[simp] theorem mem_cast {ns : List Nat} {k : Nat} : (k : Int) ∈ ns.map (fun (n : Nat) => (n : Int)) ↔ k ∈ ns := by
  simp only [List.mem_map]
  constructor
  · rintro ⟨a, h, e⟩
    have : a = k := by omega
    exact this ▸ h
  · intro h; exact ⟨k, h, rfl⟩
@[simp] theorem idxOf_cast (ns : List Nat) (k : Nat) : (ns.map fun (n : Nat) => (n : Int)).idxOf (k : Int) = ns.idxOf k := by
  induction ns with
  | nil => rfl
  | cons n ns ih =>
    rw [List.map_cons, List.idxOf_cons, List.idxOf_cons, ih]
    by_cases h : n = k
    · subst h; simp
    · have h2 : ((n : Int) == (k : Int)) = false := by simp; omega
      have h3 : (n == k) = false := by simp [h]
      rw [h2, h3]
/-! ### slices -/
@[simp] theorem cut_to (xs : List D) (k : Nat) : cutD xs none (some (k : Int)) = xs.take k := by
  unfold cutD
  rw [HT.sIx_nat, HT.sIx_none, List.drop_zero, Nat.sub_zero, List.take_eq_take_iff]
  omega
@[simp] theorem cut_from (xs : List D) (k : Nat) : cutD xs (some (k : Int)) none = xs.drop k := by
  unfold cutD
  rw [HT.sIx_nat, HT.sIx_none]
  by_cases h : k ≤ xs.length
  · rw [Nat.min_eq_left h, List.take_of_length_le (by simp)]
  · rw [Nat.min_eq_right (by omega), List.drop_of_length_le (Nat.le_refl _), List.drop_of_length_le (by omega)]
    simp
@[simp] theorem cut_to_lit (xs : List D) (k : Nat) : cutD xs none (some (no_index (OfNat.ofNat k) : Int)) = xs.take (OfNat.ofNat k) := cut_to xs k
@[simp] theorem cut_from_lit (xs : List D) (k : Nat) : cutD xs (some (no_index (OfNat.ofNat k) : Int)) none = xs.drop (OfNat.ofNat k) := cut_from xs k
theorem cut_to_map {α : Type} (f : α → D) (xs : List α) (k : Nat) : cutD (xs.map f) none (some (k : Int)) = (xs.take k).map f := by rw [cut_to, List.map_take]
theorem cut_from_map {α : Type} (f : α → D) (xs : List α) (k : Nat) : cutD (xs.map f) (some (k : Int)) none = (xs.drop k).map f := by rw [cut_from, List.map_drop]
theorem cut_to_i (xs : List D) {i : Int} (h : 0 ≤ i) : cutD xs none (some i) = xs.take i.toNat := by
  have := cut_to xs i.toNat
  rwa [Int.toNat_of_nonneg h] at this
theorem cut_from_i (xs : List D) {i : Int} (h : 0 ≤ i) : cutD xs (some i) none = xs.drop i.toNat := by
  have := cut_from xs i.toNat
  rwa [Int.toNat_of_nonneg h] at this
@[simp] theorem cut_to_1 (xs : List D) (k : Nat) : cutD xs none (some ((k : Int) + 1)) = xs.take (k + 1) := cut_to xs (k + 1)
@[simp] theorem cut_from_1 (xs : List D) (k : Nat) : cutD xs (some ((k : Int) + 1)) none = xs.drop (k + 1) := cut_from xs (k + 1)
end Eng
end
section
set_option Elab.async false
set_option linter.all false
set_option maxRecDepth 100000
open Eng
local macro_rules
  | `(Ev $r $q $x) => `(@Ev _ $r (CQ.mk $q) (CX.mk $x))
  | `(Mv $r $q $x) => `(@Mv $r (CM.mk $q) (CY.mk $x))
  | `(Of $r $q) => `(@Of _ $r (CO.mk $q))
  | `(Br $r $p $q) => `(@Br $r (CP.mk $p) (CP.mk $q))
  | `(NX $s $p $e) => `(@NX _ $e (CN.mk $s $p))
namespace Eng
open PySem L2
/-! ### a result from what is wanted -/
theorem eq_of_mv {r : Rs (M × List M)} {a : M} {b : List M} (h : Mv r (fun m o => m = a ∧ o = b) fun _ _ => False) : r = .ok (a, b) := by
  cases r with
  | ok p => rw [Mv_ok] at h; obtain ⟨m, o⟩ := p; obtain ⟨rfl, rfl⟩ := h; rfl
  | exc => rw [Mv_exc] at h; exact h.elim
  | bad => rw [Mv_bad] at h; exact h.elim
theorem mv_of_eq {r : Rs (M × List M)} {a : M} {b : List M} {Q : M → List M → Prop} {X : Nat → List D → Prop} (h : r = .ok (a, b)) (hq : Q a b) : Mv r Q X := by
  rw [h, Mv_ok]; exact hq
/-- an exception is raised -/
def exr (r : Rs (M × List M)) (c : Nat) (fs : List D) : Prop := ∃ e, r = .exc c fs e
theorem exr_of_mv {r : Rs (M × List M)} {c : Nat} {fs : List D} (h : Mv r (fun _ _ => False) fun c' fs' => c' = c ∧ fs' = fs) : exr r c fs := by
  cases r with
  | ok p => rw [Mv_ok] at h; exact h.elim
  | exc c' fs' e => rw [Mv_exc] at h; obtain ⟨rfl, rfl⟩ := h; exact ⟨e, rfl⟩
  | bad => rw [Mv_bad] at h; exact h.elim
theorem mv_of_exr {r : Rs (M × List M)} {c : Nat} {fs : List D} {Q : M → List M → Prop} {X : Nat → List D → Prop} (h : exr r c fs) (hx : X c fs) : Mv r Q X := by
  obtain ⟨e, rfl⟩ := h; rw [Mv_exc]; exact hx
/-! ### the pot -/
def potM (x : Int) (cs : List Int) : M := .ls [.im (.int x), .ls (cs.map (M.im ∘ D.int))]
def stir1 (x c t : Int) : Int := let m := (x + c * 2 + t + 1) % 1000000000000000003; (m * m + 1442695040888963407) % 1000000000000000003
def stirN (x c : Int) : Int := stir1 (stir1 x c 0) c 1
theorem big_mod (m : Int) : big (m % 1000000000000000003) := by
  unfold Eng.big
  have h1 := Int.emod_nonneg m (b := 1000000000000000003) (by decide)
  have h2 := Int.emod_lt_of_pos m (b := 1000000000000000003) (by decide)
  omega
theorem big2 : big 2 := by decide
def bStir : FS := (sSeq (sFor (gNm 2) (wRng1 (oOf (eC (.int 2)))) (sSeq (sSet [0] 3 (eBin modD (oOf (eCall intF (aCons (oOf (eBin addD (oOf (eBin addD (oOf (eBin addD (oOf (eAt 0 0)) (oOf (eBin mulD (oVar 1) (oOf (eC (.int 2))))))) (oVar 2))) (oOf (eC (.int 1))))) aNil))) (oOf (eC (.int 1000000000000000003))))) (sSeq (sPut 0 (oOf (eC (.int 0))) (eBin modD (oOf (eCall intF (aCons (oOf (eBin addD (oOf (eBin mulD (oVar 3) (oVar 3))) (oOf (eC (.int 1442695040888963407))))) aNil))) (oOf (eC (.int 1000000000000000003))))) sSkip))) sSkip)
def mStir : Mir := runF 4 [0] bStir
theorem rng2 : rngD 0 2 = [.int 0, .int 1] := rfl
theorem stir_eq (x c : Int) (cs : List Int) : mStir [potM x cs, .im (.int c)] = .ok (.im .non, [potM (stirN x c) cs]) := by
  apply eq_of_mv
  unfold mStir bStir
  simp [mv_runF, rng2, -rngD_lit, loop_cons, loop_nil, potM, big2, big_mod, stirN, stir1]
def bPot : FS := (sSeq (sSet [] 1 (eLst (mCons (eC (.int 314159265358979323)) (mCons (eLst mNil) mNil)))) (sSeq (sFor (gNm 2) (wSeq (eSlc (oVar 0) iNone (iSome (oOf (eC (.int 63)))))) (sSeq (sExpr (eCallN 2 [0] mStir (aCons (oVar 1) (aCons (oVar 2) aNil)))) (sSeq (sIf (tCmp' geD (oVar 2) (oOf (eC (.int 1000000000000000000)))) (sSeq (sExpr (eAppN 1 1 2)) sSkip) sSkip) sSkip))) (sSeq (sRet (eMove 1)) sSkip)))
def mPot : Mir := runF 3 [] bPot
structure Pot where
  x : Int
  cs : List Int
  pos : ∀ c ∈ cs, 0 < c
  few : cs.length ≤ 63
def Pot.m (p : Pot) : M := potM p.x p.cs
theorem nest_pot (x : Int) (cs : List Int) (r : List (Option M)) : nestD 0 1 (some (potM x cs) :: r) = some ([.im (.int x), .ls (cs.map (M.im ∘ D.int))], cs.map D.int) := by
  simp [nestD, potM]
theorem nestP_pot (x : Int) (cs cs' : List Int) (o : Option M) (r : List (Option M)) : nestP 0 1 [.im (.int x), .ls (cs.map (M.im ∘ D.int))] (cs'.map D.int) (o :: r) = some (potM x cs') :: r := by
  simp [nestP, potM]
theorem pot_w {ns : List Int} {Q : M → List M → Prop} {X : Nat → List D → Prop} (hq : ∀ p : Pot, Q p.m []) : Mv (mPot [.im (.scr ns)]) Q X := by
  unfold mPot bPot
  simp [mv_runF]
  refine ev_loop (xs := ns.take 63) D.int (fun s : Int × List Int × Option M => [some (.im (.scr ns)), some (potM s.1 s.2.1), s.2.2]) (fun pre post s => (∀ c ∈ s.2.1, 0 < c) ∧ s.2.1.length + post.length ≤ 63) (314159265358979323, [], none) (by simp) (by simp [potM]) ⟨by simp, by simp; omega⟩ ?_ ?_
  · rintro pre c post ⟨x, cs, o⟩ hx ⟨h1, h2⟩
    simp [stir_eq]
    simp at h2
    refine Br.intro (c := 1000000000000000000 ≤ c) (fun hc => ?_) fun hc => ?_
    · simp [nestD, potM]
      refine ⟨by omega, NX.mk (_, cs ++ [c], _) (by simp [nestP, potM]; exact ⟨rfl, rfl⟩) ⟨?_, ?_⟩⟩
      · intro d hd; simp at hd; rcases hd with hd | rfl
        · exact h1 d hd
        · omega
      · simp; omega
    · simp
      exact NX.mk (_, cs, _) rfl ⟨h1, by simp; omega⟩
  · rintro ⟨x, cs, o⟩ ⟨h1, h2⟩
    simp; exact hq ⟨x, cs, h1, by simpa using h2⟩
def bDraw : FS := (sSeq (sIf (tTruN 0 1) (sSeq (sSet [0] 2 (eAt2 0 1 0)) (sSeq (sPutN 0 1 0 (eBin divD (oVar 2) (oVar 1))) (sSeq (sIf (tCmp' eqD (oOf (eAt2 0 1 0)) (oOf (eC (.int 0)))) (sSeq (sExpr (ePopN 0 1)) sSkip) sSkip) (sSeq (sRet (eBin modD (oOf (eCall intF (aCons (oVar 2) aNil))) (oVar 1))) sSkip)))) sSkip) (sSeq (sExpr (eCallN 2 [0] mStir (aCons (oVar 0) (aCons (oVar 1) aNil)))) (sSeq (sRet (eBin modD (oOf (eCall intF (aCons (oOf (eBin divD (oOf (eAt 0 0)) (oOf (eC (.int 1009))))) aNil))) (oVar 1))) sSkip)))
def mDraw : Mir := runF 3 [0] bDraw
theorem draw_w {p : Pot} {c : Int} {Q : M → List M → Prop} {X : Nat → List D → Prop} (h1 : 0 < c) (h2 : c < 1073741824) (hq : ∀ (r : Nat) (q : Pot), (r : Int) < c → Q (.im (.int (r : Int))) [q.m]) : Mv (mDraw [p.m, .im (.int c)]) Q X := by
  obtain ⟨x, cs, hp, hf⟩ := p
  have hr : ∀ y : Int, ∃ r : Nat, (r : Int) < c ∧ y % c = r := fun y => by
    have a := Int.emod_nonneg y (b := c) (by omega)
    have b := Int.emod_lt_of_pos y (b := c) (by omega)
    exact ⟨(y % c).toNat, by omega, by omega⟩
  unfold mDraw bDraw
  simp [mv_runF, Pot.m, nest_pot]
  cases cs with
  | nil =>
    simp [stir_eq]
    simp [potM, h1]
    obtain ⟨r, r1, r2⟩ := hr (stirN x c / 1009)
    rw [r2]
    exact hq r ⟨stirN x c, [], by simp, by simp⟩ r1
  | cons d cs =>
    obtain ⟨r, r1, r2⟩ := hr d
    have d0 : 0 < d := hp d (by simp)
    have q0 : 0 ≤ d / c := Int.ediv_nonneg (by omega) (by omega)
    simp at hf
    simp [h1, h2, nest_pot]
    have e := nestP_pot x (d :: cs) (d / c :: cs) (some (potM x (d :: cs))) [some (M.im (D.int c)), some (M.im (D.int d))]
    simp only [List.map_cons] at e
    have e' := nestP_pot x (d / c :: cs) cs (some (potM x (d / c :: cs))) [some (M.im (D.int c)), some (M.im (D.int d))]
    simp only [List.map_cons] at e'
    simp at e e'
    rw [e]
    simp [nest_pot]
    refine Br.intro (c := d / c = 0) (fun hc => ?_) fun hc => ?_
    · simp [e, e', nest_pot, h1, r2]
      exact ⟨by omega, hq r ⟨x, cs, fun q h => hp q (by simp [h]), by omega⟩ r1⟩
    · simp [e, h1, r2]
      refine hq r ⟨x, (d / c) :: cs, fun q h => ?_, by simpa using hf⟩ r1
      simp at h
      rcases h with rfl | h
      · omega
      · exact hp q (by simp [h])
end Eng
end
section
set_option Elab.async false
set_option linter.all false
set_option maxRecDepth 100000
open Eng
local macro_rules
  | `(Ev $r $q $x) => `(@Ev _ $r (CQ.mk $q) (CX.mk $x))
  | `(Mv $r $q $x) => `(@Mv $r (CM.mk $q) (CY.mk $x))
  | `(Of $r $q) => `(@Of _ $r (CO.mk $q))
  | `(Br $r $p $q) => `(@Br $r (CP.mk $p) (CP.mk $q))
  | `(NX $s $p $e) => `(@NX _ $e (CN.mk $s $p))
namespace Eng
open PySem L2
/-! ### dicts with numbers as keys -/
section
variable {β : Type}
def kvPut (kv : List (Nat × β)) (k : Nat) (v : β) : List (Nat × β) := if k ∈ kv.map (·.1) then kv.map (fun p => if p.1 = k then (p.1, v) else p) else kv ++ [(k, v)]
def kvGet (kv : List (Nat × β)) (k : Nat) : Option β := (kv.find? fun p => decide (p.1 = k)).map (·.2)
theorem kvGet_nil (k : Nat) : kvGet ([] : List (Nat × β)) k = none := rfl
theorem kvGet_cons (p : Nat × β) (kv : List (Nat × β)) (k : Nat) : kvGet (p :: kv) k = if p.1 = k then some p.2 else kvGet kv k := by
  unfold kvGet
  rw [List.find?_cons]
  by_cases h : p.1 = k <;> simp [h]
theorem kvGet_app (kv kv' : List (Nat × β)) (k : Nat) : kvGet (kv ++ kv') k = (kvGet kv k).or (kvGet kv' k) := by
  induction kv with
  | nil => simp [kvGet_nil]
  | cons p kv ih =>
    rw [List.cons_append, kvGet_cons, kvGet_cons, ih]
    by_cases h : p.1 = k <;> simp [h]
theorem kvGet_none {kv : List (Nat × β)} {k : Nat} (h : k ∉ kv.map (·.1)) : kvGet kv k = none := by
  induction kv with
  | nil => rfl
  | cons p kv ih =>
    simp only [List.map_cons, List.mem_cons, not_or] at h
    rw [kvGet_cons, if_neg (fun e => h.1 e.symm), ih h.2]
theorem kvGet_repl {kv : List (Nat × β)} {k j : Nat} {v : β} : kvGet (kv.map (fun p => if p.1 = k then (p.1, v) else p)) j = if j = k ∧ j ∈ kv.map (·.1) then some v else kvGet kv j := by
  induction kv with
  | nil => simp [kvGet_nil]
  | cons p kv ih =>
    rw [List.map_cons, kvGet_cons, kvGet_cons, ih]
    by_cases h : p.1 = k
    · by_cases h2 : p.1 = j
      · have : j = k := by omega
        subst this; simp [h]
      · have h3 : ¬ (j = k) := by omega
        have h4 : ¬ (k = j) := fun e => h3 e.symm
        simp [h, h2, h3, h4]
    · by_cases h2 : p.1 = j
      · have h3 : ¬ (j = k) := by omega
        simp [h, h2, h3]
      · by_cases h3 : j = k
        · have h4 : ¬ (k = p.1) := fun e => h e.symm
          subst h3
          simp only [h, h2, if_false, List.map_cons, List.mem_cons, h4, false_or]
        · simp [h, h2, h3]
theorem kvGet_put (kv : List (Nat × β)) (k j : Nat) (v : β) : kvGet (kvPut kv k v) j = if j = k then some v else kvGet kv j := by
  unfold kvPut
  by_cases h : k ∈ kv.map (·.1)
  · rw [if_pos h, kvGet_repl]
    by_cases hj : j = k
    · subst hj; simp only [h, and_self, if_true]
    · simp [hj]
  · rw [if_neg h, kvGet_app, kvGet_cons, kvGet_nil]
    by_cases hj : j = k
    · subst hj; rw [kvGet_none h]; simp
    · have hj' : ¬ (k = j) := fun e => hj e.symm
      simp [hj, hj']
theorem kvPut_keys (kv : List (Nat × β)) (k : Nat) (v : β) : (kvPut kv k v).map (·.1) = if k ∈ kv.map (·.1) then kv.map (·.1) else kv.map (·.1) ++ [k] := by
  unfold kvPut
  by_cases h : k ∈ kv.map (·.1)
  · rw [if_pos h, if_pos h, List.map_map]
    apply List.map_congr_left
    intro p _
    simp only [Function.comp]
    by_cases hp : p.1 = k <;> simp [hp]
  · rw [if_neg h, if_neg h]; simp
theorem kvPut_len (kv : List (Nat × β)) (k : Nat) (v : β) : (kvPut kv k v).length ≤ kv.length + 1 := by
  unfold kvPut; split <;> simp
/-- the dict that holds these -/
def dcN (ev : β → D) (kv : List (Nat × β)) : M := .dc (kv.map fun p => .inl (p.1 : Int)) (kv.map fun p => .im (ev p.2))
def dctN (ev : β → D) (kv : List (Nat × β)) : D := .dct (kv.map fun p => .inl (p.1 : Int)) (kv.map fun p => ev p.2)
theorem dcN_nil (ev : β → D) : M.dc [] [] = dcN ev [] := rfl
@[simp] theorem frz_dcN (ev : β → D) (kv : List (Nat × β)) : frz (dcN ev kv) = dctN ev kv := by simp [dcN, dctN, Function.comp_def]
theorem ims_fun {α : Type} (f : α → D) (xs : List α) : ims (xs.map fun x => M.im (f x)) = some (xs.map f) := ims_comp f xs
@[simp] theorem flat_dcN (ev : β → D) (kv : List (Nat × β)) : flat (dcN ev kv) = some (dctN ev kv) := by
  unfold dcN dctN
  rw [flat_dc, ims_fun (fun p : Nat × β => ev p.2)]
  rfl
theorem getKs_kv (ev : β → D) (kv : List (Nat × β)) (k : Nat) : getKs (kv.map fun p => .inl (p.1 : Int)) (kv.map fun p => ev p.2) (.inl (k : Int)) = (kvGet kv k).map ev := by
  induction kv with
  | nil => rfl
  | cons p kv ih =>
    rw [List.map_cons, List.map_cons, getKs, ih, kvGet_cons]
    by_cases h : p.1 = k
    · simp [h]
    · have : ¬ ((Sum.inl (p.1 : Int) : Key) = Sum.inl (k : Int)) := by intro e; injection e with e; omega
      simp [h, this]
@[simp] theorem idxD_dctN (ev : β → D) (kv : List (Nat × β)) (k : Nat) : idxD (dctN ev kv) (.int (k : Int)) = (kvGet kv k).map ev := by
  unfold dctN
  rw [idxD_d, keyD_i, Option.bind_some, getKs_kv]
theorem any_key (kv : List (Nat × β)) (k : Nat) : ((kv.map fun p => (Sum.inl (p.1 : Int) : Key)).any fun j => decide (j = Sum.inl (k : Int))) = decide (k ∈ kv.map (·.1)) := by
  induction kv with
  | nil => rfl
  | cons p kv ih =>
    rw [List.map_cons, List.any_cons, ih, List.map_cons]
    by_cases h : p.1 = k
    · simp [h]
    · have h1 : ¬ ((Sum.inl (p.1 : Int) : Key) = Sum.inl (k : Int)) := by intro e; injection e with e; omega
      have h2 : ¬ (k = p.1) := fun e => h e.symm
      simp only [h1, decide_false, Bool.false_or, List.mem_cons, h2, false_or]
theorem replK_kv {γ : Type} (f : β → γ) (kv : List (Nat × β)) (k : Nat) (v : β) : replK (Sum.inl (k : Int)) (f v) (kv.map fun p => (Sum.inl (p.1 : Int) : Key)) (kv.map fun p => f p.2) = (kv.map (fun p => if p.1 = k then (p.1, v) else p)).map fun p => f p.2 := by
  induction kv with
  | nil => rfl
  | cons p kv ih =>
    rw [List.map_cons, List.map_cons, replK, ih]
    by_cases h : p.1 = k
    · simp [h]
    · have h1 : ¬ ((Sum.inl (p.1 : Int) : Key) = Sum.inl (k : Int)) := by intro e; injection e with e; omega
      simp [h, h1]
theorem putM_kv (ev : β → D) (kv : List (Nat × β)) (k : Nat) (v : β) : putM (kv.map fun p => (Sum.inl (p.1 : Int) : Key)) (kv.map fun p => M.im (ev p.2)) (.inl (k : Int)) (.im (ev v)) = ((kvPut kv k v).map (fun p => .inl (p.1 : Int)), (kvPut kv k v).map fun p => .im (ev p.2)) := by
  unfold putM kvPut
  rw [any_key]
  by_cases h : k ∈ kv.map (·.1)
  · simp only [h, decide_true, if_true]
    rw [replK_kv (fun x => M.im (ev x))]
    congr 1
    rw [List.map_map]
    apply List.map_congr_left
    intro p _
    simp only [Function.comp]
    by_cases hp : p.1 = k <;> simp [hp]
  · simp only [h, decide_false, if_false, Bool.false_eq_true]
    simp
theorem setF_dcN (ev : β → D) (kv : List (Nat × β)) (k : Nat) (v : β) : setF (dcN ev kv) (.int (k : Int)) (ev v) = if kv.length < 16777216 then some (dcN ev (kvPut kv k v)) else none := by
  unfold dcN
  rw [setF_dc, keyD_i, Option.bind_some, putM_kv, List.length_map, sizeLine_v]
@[simp] theorem setF_dcN_nD (kv : List (Nat × Nat)) (k v : Nat) : setF (dcN nD kv) (.int (k : Int)) (.int (v : Int)) = if kv.length < 16777216 then some (dcN nD (kvPut kv k v)) else none := setF_dcN nD kv k v
theorem keysI_kv (kv : List (Nat × β)) : keysI (kv.map fun p => .inl (p.1 : Int)) = some (kv.map fun p => (p.1 : Int)) := by
  induction kv with
  | nil => rfl
  | cons p kv ih => simp [keysI, ih]
end
@[simp] theorem filter_yes {α : Type} (xs : List α) : xs.filter (fun _ => true) = xs := by simp
/-! ### sorting -/
def leI (a b : Int) : Bool := decide (a ≤ b)
def leN (a b : Nat) : Bool := decide (a ≤ b)
theorem msort_cast (ns : List Nat) : (ns.map fun (n : Nat) => (n : Int)).mergeSort (fun a b => decide (a ≤ b)) = (ns.mergeSort fun a b => decide (a ≤ b)).map fun (n : Nat) => (n : Int) := by
  have := List.map_mergeSort (r := fun a b : Nat => decide (a ≤ b)) (s := fun a b : Int => decide (a ≤ b)) (f := fun (n : Nat) => (n : Int)) (l := ns) (by intro a _ b _; simp)
  rw [this]
theorem msort_sorted {ns : List Nat} (h : ns.Pairwise (· ≤ ·)) : ns.mergeSort (fun a b => decide (a ≤ b)) = ns := by
  apply List.mergeSort_of_pairwise
  exact h.imp (by intro a b; simp)
theorem sortedDF_kv {β : Type} (ev : β → D) (kv : List (Nat × β)) : sortedDF [dctN ev kv] = if kv.length < 64 then some (.ls (((kv.map (·.1)).mergeSort fun a b => decide (a ≤ b)).map (M.im ∘ nD))) else none := by
  unfold dctN sortedDF
  simp only [keysI_kv, Option.bind_some, List.length_map]
  have := msort_cast (kv.map (·.1))
  rw [List.map_map] at this
  have e : (kv.map fun p => (p.1 : Int)) = kv.map ((fun (n : Nat) => (n : Int)) ∘ fun x => x.1) := rfl
  rw [e, this, List.map_map]
  rfl
@[simp] theorem sortedF_nat (ns : List Nat) : sortedF [.lst (ns.map nD)] = some (.ls ((ns.mergeSort fun a b => decide (a ≤ b)).map (M.im ∘ nD))) := by
  unfold sortedF
  simp only [intsD_nat, Option.map_some, msort_cast, List.map_map]
  rfl
/-! ### least, greatest -/
theorem min_cast (ns : List Nat) : (ns.map fun (n : Nat) => (n : Int)).min? = ns.min?.map fun (n : Nat) => (n : Int) := by
  cases ns with
  | nil => rfl
  | cons n ns =>
    simp only [List.map_cons, List.min?_cons', Option.map_some]
    congr 1
    induction ns generalizing n with
    | nil => rfl
    | cons m ns ih =>
      simp only [List.map_cons, List.foldl_cons]
      rw [← ih]
      congr 1
      omega
theorem max_cast (ns : List Nat) : (ns.map fun (n : Nat) => (n : Int)).max? = ns.max?.map fun (n : Nat) => (n : Int) := by
  cases ns with
  | nil => rfl
  | cons n ns =>
    simp only [List.map_cons, List.max?_cons', Option.map_some]
    congr 1
    induction ns generalizing n with
    | nil => rfl
    | cons m ns ih =>
      simp only [List.map_cons, List.foldl_cons]
      rw [← ih]
      congr 1
      omega
@[simp] theorem minF_tN (ns : List Nat) : minF [.tup (ns.map nD)] = ns.min?.map fun n => .im (nD n) := by
  rw [minF_t, intsD_nat, Option.bind_some, min_cast, Option.map_map]; rfl
@[simp] theorem minF_lN (ns : List Nat) : minF [.lst (ns.map nD)] = ns.min?.map fun n => .im (nD n) := by
  rw [minF_l, intsD_nat, Option.bind_some, min_cast, Option.map_map]; rfl
@[simp] theorem maxF_tN (ns : List Nat) : maxF [.tup (ns.map nD)] = ns.max?.map fun n => .im (nD n) := by
  rw [maxF_t, intsD_nat, Option.bind_some, max_cast, Option.map_map]; rfl
@[simp] theorem maxF_lN (ns : List Nat) : maxF [.lst (ns.map nD)] = ns.max?.map fun n => .im (nD n) := by
  rw [maxF_l, intsD_nat, Option.bind_some, max_cast, Option.map_map]; rfl
/-! ### sets of numbers -/
theorem dd_le : ∀ ns : List Int, (dd ns).length ≤ ns.length
  | [] => by simp [dd]
  | x :: r => by
    have := dd_le r
    unfold dd
    split <;> simp <;> omega
theorem dd_lenI : ∀ ns : List Int, (dd ns).length = ns.length ↔ ns.Nodup
  | [] => by simp [dd]
  | x :: r => by
    have h := dd_lenI r
    have h2 := dd_le r
    unfold dd
    by_cases hx : x ∈ r
    · rw [if_pos hx]
      constructor
      · intro e; simp at e; omega
      · intro e; exact absurd hx (List.nodup_cons.mp e).1
    · rw [if_neg hx]
      simp [hx, h]
theorem nodup_cast {ns : List Nat} : (ns.map fun (n : Nat) => (n : Int)).Nodup ↔ ns.Nodup := by
  constructor
  · intro h
    induction ns with
    | nil => simp
    | cons n ns ih =>
      rw [List.map_cons, List.nodup_cons] at h
      rw [List.nodup_cons]
      exact ⟨fun e => h.1 (mem_cast.mpr e), ih h.2⟩
  · intro h
    induction ns with
    | nil => simp
    | cons n ns ih =>
      rw [List.nodup_cons] at h
      rw [List.map_cons, List.nodup_cons]
      exact ⟨fun e => h.1 (mem_cast.mp e), ih h.2⟩
end Eng
end
section
set_option Elab.async false
set_option linter.all false
set_option maxRecDepth 100000
open Eng
local macro_rules
  | `(Ev $r $q $x) => `(@Ev _ $r (CQ.mk $q) (CX.mk $x))
  | `(Mv $r $q $x) => `(@Mv $r (CM.mk $q) (CY.mk $x))
  | `(Of $r $q) => `(@Of _ $r (CO.mk $q))
  | `(Br $r $p $q) => `(@Br $r (CP.mk $p) (CP.mk $q))
  | `(NX $s $p $e) => `(@NX _ $e (CN.mk $s $p))
namespace Eng
open PySem L2
section
variable {Q : List M → Env → Prop} {X : Nat → List D → Env → Prop}
theorem cmp2_nil {vs : List Nat} {tg : FG} {t : FT} {src1 : FW} {vs1 : List Nat} {tg1 : FG} {t1 : FT} {f : FE} {ms : List M} {env : Env} : Ev (cmp2F vs tg t src1 vs1 tg1 t1 f [] ms env) Q X ↔ Q ms env := by with_unfolding_all exact Iff.rfl
theorem cmp2_cons {vs : List Nat} {tg : FG} {t : FT} {src1 : FW} {vs1 : List Nat} {tg1 : FG} {t1 : FT} {f : FE} {d : D} {ds : List D} {ms : List M} {env : Env} : Ev (cmp2F vs tg t src1 vs1 tg1 t1 f (d :: ds) ms env) Q (fun _ _ _ => False) ↔
    Of (tg d (emp env vs)) fun e => Ev (t e) (fun b e => Br b (Ev (src1 e) (fun es e => Ev (cmpF vs1 tg1 t1 f es ms e) (fun ms e => Ev (cmp2F vs tg t src1 vs1 tg1 t1 f ds ms (emp e vs)) Q (fun _ _ _ => False)) (fun _ _ _ => False)) (fun _ _ _ => False)) (Ev (cmp2F vs tg t src1 vs1 tg1 t1 f ds ms (emp e vs)) Q (fun _ _ _ => False))) (fun _ _ _ => False) := by
  rw [cmp2F]
  cases tg d (emp env vs) with
  | none => with_unfolding_all exact Iff.rfl
  | some e1 =>
    simp only [Of_some]
    cases h2 : t e1 with
    | bad => with_unfolding_all exact Iff.rfl
    | exc c fs e => with_unfolding_all exact Iff.rfl
    | ok q =>
      obtain ⟨b, e2⟩ := q
      cases b with
      | false => with_unfolding_all exact Iff.rfl
      | true =>
        rw [Ev_ok]
        simp only [Br_true]
        cases src1 e2 with
        | bad => with_unfolding_all exact Iff.rfl
        | exc c fs e => with_unfolding_all exact Iff.rfl
        | ok q =>
          obtain ⟨es, e3⟩ := q
          rw [Ev_ok]
          simp only
          cases cmpF vs1 tg1 t1 f es ms e3 with
          | bad => with_unfolding_all exact Iff.rfl
          | exc c fs e => with_unfolding_all exact Iff.rfl
          | ok q => with_unfolding_all exact Iff.rfl
/-- two fors in a comprehension without effect -/
theorem ev_cmp2 {α β : Type} {vs : List Nat} {tg : FG} {t : FT} {src1 : FW} {vs1 : List Nat} {tg1 : FG} {t1 : FT} {f : FE} (enc : α → D) (p : α → Bool) (inn : α → List β) (encB : β → D) (q : α → β → Bool) (g : α → β → M) (B : Nat)
    {xs : List α} {ds : List D} {env : Env} (hd : ds = xs.map enc) (hz : xs.length * B ≤ 16777216) (hB : ∀ x ∈ xs, (inn x).length ≤ B)
    (h : ∀ x ∈ xs, Of (tg (enc x) (emp env vs)) fun e => Ev (t e) (fun b e => b = p x ∧ Br b (Ev (src1 e) (fun es e => es = (inn x).map encB ∧ emp e vs = env ∧ ∀ y ∈ inn x, Of (tg1 (encB y) (emp e vs1)) fun e' => Ev (t1 e') (fun b e' => b = q x y ∧ Br b (Ev (f e') (fun m e' => m = g x y ∧ emp e' vs1 = e) fun _ _ _ => False) (emp e' vs1 = e)) fun _ _ _ => False) fun _ _ _ => False) (emp e vs = env)) fun _ _ _ => False)
    (hq : Q ((xs.filter p).flatMap fun x => ((inn x).filter (q x)).map (g x)) env) : Ev (cmp2F vs tg t src1 vs1 tg1 t1 f ds [] env) Q X := by
  subst hd
  refine ev_exf ?_
  suffices hh : ∀ (ys : List α) (ms : List M), (∀ x ∈ ys, x ∈ xs) → ms.length + ys.length * B ≤ 16777216 → (Q (ms ++ (ys.filter p).flatMap fun x => ((inn x).filter (q x)).map (g x)) env) → Ev (cmp2F vs tg t src1 vs1 tg1 t1 f (ys.map enc) ms env) Q (fun _ _ _ => False) from hh xs [] (fun _ h => h) (by simpa using hz) (by simpa using hq)
  intro ys
  induction ys with
  | nil => intro ms _ _ hq; rw [List.map_nil, cmp2_nil]; simpa using hq
  | cons x ys ih =>
    intro ms hin hl hq
    have hx := hin x (by simp)
    have hb := hB x hx
    simp only [List.length_cons, Nat.succ_mul] at hl
    rw [List.map_cons, cmp2_cons]
    refine (h x hx).mono fun e1 h1 => Ev.mono h1 (fun b e2 h2 => ?_) (fun _ _ _ h => h)
    obtain ⟨rfl, h2⟩ := h2
    cases hp : p x with
    | false =>
      rw [hp] at h2
      rw [Br_false] at h2 ⊢
      rw [h2]
      simp only [List.filter_cons, hp, Bool.false_eq_true, if_false] at hq
      exact ih ms (fun y hy => hin y (by simp [hy])) (by omega) hq
    | true =>
      rw [hp] at h2
      rw [Br_true] at h2 ⊢
      simp only [List.filter_cons, hp, if_true, List.flatMap_cons] at hq
      refine Ev.mono h2 (fun es e3 h3 => ?_) (fun _ _ _ h => h)
      obtain ⟨rfl, h3, h4⟩ := h3
      have hfl := List.length_filter_le (q x) (inn x)
      refine ev_cmpA encB (q x) (g x) rfl (by omega) h4 ?_
      rw [h3]
      exact ih (ms ++ ((inn x).filter (q x)).map (g x)) (fun y hy => hin y (by simp [hy])) (by simp; omega) (by simpa using hq)
end
end Eng
end
section
set_option Elab.async false
set_option linter.all false
set_option maxRecDepth 100000
open Eng
local macro_rules
  | `(Ev $r $q $x) => `(@Ev _ $r (CQ.mk $q) (CX.mk $x))
  | `(Mv $r $q $x) => `(@Mv $r (CM.mk $q) (CY.mk $x))
  | `(Of $r $q) => `(@Of _ $r (CO.mk $q))
  | `(Br $r $p $q) => `(@Br $r (CP.mk $p) (CP.mk $q))
  | `(NX $s $p $e) => `(@NX _ $e (CN.mk $s $p))
namespace Eng
open PySem L2
/-! ### what repr can show -/
def Shw (k B : Nat) (d : D) : Prop := ∃ p, pd d = some p ∧ p.showable = true ∧ p.shown.length ≤ B ∧ p.depth ≤ k
theorem Shw.mono {k B k' B' : Nat} {d : D} (h : Shw k B d) (hk : k ≤ k') (hB : B ≤ B') : Shw k' B' d := by
  obtain ⟨p, h1, h2, h3, h4⟩ := h
  exact ⟨p, h1, h2, by omega, by omega⟩
theorem Shw.non {k B : Nat} (h : 4 ≤ B) : Shw k B .non := ⟨.none, rfl, rfl, h, by simp [PyData.depth]⟩
theorem Shw.bl {k B : Nat} {b : Bool} (h : 5 ≤ B) : Shw k B (.bl b) := ⟨.bool b, rfl, rfl, by
  cases b
  · exact h
  · exact Nat.le_trans (show 4 ≤ 5 by decide) h, by simp [PyData.depth]⟩
theorem Shw.int {k B : Nat} {i : Int} (h : i.natAbs < 2 ^ 64) (hB : 66 ≤ B) : Shw k B (.int i) := by
  have hl : i.natAbs.log2 < 65 := by
    by_cases h0 : i.natAbs = 0
    · rw [h0]; decide
    · have := (Nat.log2_lt h0).mpr h
      omega
  refine ⟨.int i, rfl, ?_, ?_, by simp [PyData.depth]⟩
  · show decide (i.natAbs.log2 < 1920) = true
    exact decide_eq_true (by omega)
  · have := int_text_length_le (a := i) (k := 65) (by decide) hl
    exact Nat.le_trans (by
      show (Str.ofString (toString i)).length ≤ 66
      rw [ofString_length]; exact this) hB
theorem Shw.nat {k B : Nat} {i : Nat} (h : i < 2 ^ 64) (hB : 66 ≤ B) : Shw k B (.int (i : Int)) := Shw.int (by simpa using h) hB
theorem Shw.str {k B : Nat} {z : Str} (h : (reprText z).length ≤ B) : Shw k B (.str z) := ⟨.str z, rfl, rfl, h, by simp [PyData.depth]⟩
theorem pds_of {k B : Nat} : ∀ {ds : List D}, (∀ d ∈ ds, Shw k B d) → ∃ ps, pds ds = some ps ∧ PyData.showableAll ps = true ∧ (∀ t ∈ PyData.shownAll ps, t.length ≤ B) ∧ (PyData.shownAll ps).length = ds.length ∧ PyData.depthAll ps ≤ k
  | [], _ => ⟨[], rfl, rfl, by simp [PyData.shownAll], rfl, by simp [PyData.depthAll]⟩
  | d :: ds, h => by
    obtain ⟨p, h1, h2, h3, h4⟩ := h d (by simp)
    obtain ⟨ps, g1, g2, g3, g4, g5⟩ := pds_of (ds := ds) fun e he => h e (by simp [he])
    refine ⟨p :: ps, by simp [pds, h1, g1], by simp [PyData.showableAll, h2, g2], ?_, by simp [PyData.shownAll, g4], by simp [PyData.depthAll]; omega⟩
    intro t ht
    simp only [PyData.shownAll, List.mem_cons] at ht
    rcases ht with rfl | ht
    · exact h3
    · exact g3 t ht
theorem piled_le {ts : List Str} {B : Nat} (h : ∀ t ∈ ts, t.length ≤ B) : piled ts ≤ ts.length * (B + 2) := by
  unfold piled
  induction ts with
  | nil => simp
  | cons t ts ih =>
    have := ih fun u hu => h u (by simp [hu])
    have := h t (by simp)
    simp only [List.map_cons, List.sum_cons, List.length_cons, Nat.succ_mul]
    omega
theorem textFrom_le : ∀ (ts : List Str) (k : Nat) (acc : Str), (textFrom k acc ts).length ≤ acc.length + piled ts
  | [], k, acc => by show acc.length ≤ _; omega
  | t :: r, k, acc => by
    have h := textFrom_le r (k + 1) (acc ++ (if k > 0 then ", " else "" : String) ++ t)
    have e : (acc ++ (if k > 0 then ", " else "" : String) ++ t).length = acc.length + (if k > 0 then 2 else 0) + t.length := by
      rw [strLen_append, strLen_append]
      split <;> rfl
    rw [e] at h
    have d1 : (if k > 0 then 2 else 0 : Nat) ≤ 2 := by split <;> omega
    show (textFrom (k + 1) _ r).length ≤ _
    unfold piled at h ⊢
    simp only [List.map_cons, List.sum_cons]
    omega
theorem Shw.tup {k B n : Nat} {ds : List D} (h : ∀ d ∈ ds, Shw k B d) (hn : ds.length ≤ n) {k' B' : Nat} (hk : k + 1 ≤ k') (hB : n * (B + 2) + 5 ≤ B') : Shw k' B' (.tup ds) := by
  obtain ⟨ps, g1, g2, g3, g4, g5⟩ := pds_of h
  refine ⟨.tuple ps, by simp [pd, g1], by simpa [PyData.showable] using g2, ?_, by simp [PyData.depth]; omega⟩
  have hp := piled_le g3
  rw [g4] at hp
  have hm : ds.length * (B + 2) ≤ n * (B + 2) := Nat.mul_le_mul_right _ hn
  show (tupleText (PyData.shownAll ps)).length ≤ B'
  unfold tupleText
  rw [strLen_append, strLen_append]
  have l1 : (("(" : Str)).length = 1 := rfl
  have l2 : ((if (PyData.shownAll ps).length == 1 then ",)" else ")" : String) : Str).length ≤ 2 := by
    split
    · exact Nat.le_refl _
    · show 1 ≤ 2; decide
  have l3 : (Str.join ", " (PyData.shownAll ps)).length ≤ piled (PyData.shownAll ps) := by
    by_cases e : PyData.shownAll ps = []
    · rw [e]; show 0 ≤ _; omega
    · have := join_length_add _ e; omega
  omega
theorem Shw.lst {k B n : Nat} {ds : List D} (h : ∀ d ∈ ds, Shw k B d) (hn : ds.length ≤ n) {k' B' : Nat} (hk : k + 1 ≤ k') (hB : n * (B + 2) + 5 ≤ B') : Shw k' B' (.lst ds) := by
  obtain ⟨ps, g1, g2, g3, g4, g5⟩ := pds_of h
  refine ⟨.list ps, by simp [pd, g1], by simpa [PyData.showable] using g2, ?_, by simp [PyData.depth]; omega⟩
  have hp := piled_le g3
  rw [g4] at hp
  have hm : ds.length * (B + 2) ≤ n * (B + 2) := Nat.mul_le_mul_right _ hn
  show (listText (PyData.shownAll ps)).length ≤ B'
  unfold listText
  rw [strLen_append]
  have l1 := textFrom_le (PyData.shownAll ps) 0 "["
  have l2 : (("[" : Str)).length = 1 := rfl
  have l3 : (("]" : Str)).length = 1 := rfl
  omega
theorem Shw.repr {k B : Nat} {d : D} (h : Shw k B d) (hk : k ≤ 50) (hB : B ≤ 16777216) : ∃ z, reprF [d] = some (.im (.str z)) := by
  obtain ⟨p, h1, h2, h3, h4⟩ := h
  refine ⟨p.shown, ?_⟩
  show (pd d).bind _ = _
  rw [h1]
  simp only [Option.bind_some]
  rw [if_pos ⟨h2, by rw [sizeLine_eq]; omega, by omega⟩]
end Eng
end
section
set_option Elab.async false
set_option linter.all false
set_option maxRecDepth 100000
open Eng
local macro_rules
  | `(Ev $r $q $x) => `(@Ev _ $r (CQ.mk $q) (CX.mk $x))
  | `(Mv $r $q $x) => `(@Mv $r (CM.mk $q) (CY.mk $x))
  | `(Of $r $q) => `(@Of _ $r (CO.mk $q))
  | `(Br $r $p $q) => `(@Br $r (CP.mk $p) (CP.mk $q))
  | `(NX $s $p $e) => `(@NX _ $e (CN.mk $s $p))
namespace Eng
open PySem L2
section
variable {Q : M → Env → Prop} {QA : List Opd → Env → Prop} {X : Nat → List D → Env → Prop} {env : Env}
theorem Ev_whenW {α : Type} {Q : α → Env → Prop} (c : Prop) [Decidable c] (p : α × Env) : Ev (if c then .ok p else .bad) Q X ↔ c ∧ Q p.1 p.2 := by rw [Ev_when, Ev_ok]
@[simp ↓] theorem ev_aApp (k : FA) (fo : FO) : Ev (aApp k fo env) QA X ↔ Ev (k env) (fun os e => Ev (fo e) (fun o e => QA (os ++ [o]) e) X) X := by
  unfold aApp
  rewrite [Ev_bind]; refine iff_ev fun os e => ?_
  dsimp only
  rewrite [Ev_bind]; refine iff_ev fun o e => ?_
  exact Ev_ok _
def lstD : D → Option (List D)
  | .lst ds => some ds
  | _ => none
@[simp] theorem lstD_lst (ds : List D) : lstD (.lst ds) = some ds := rfl
@[simp ↓] theorem ev_eRevL (fo : FO) : Ev (eRevL fo env) Q X ↔ Ev (fo env) (fun x e => Of (res e x) fun d => Of (lstD d) fun ds => Q (.ls (ds.reverse.map .im)) e) X := by
  unfold eRevL
  rewrite [Ev_bind]; refine iff_ev fun x e => ?_
  dsimp only
  rewrite [Ev_of]; refine iff_of fun d => ?_
  cases d with
  | lst ds => rw [Ev_ok, lstD_lst, Of_some]
  | _ => rw [Ev_bad]; exact Of_none.symm
@[simp ↓] theorem ev_eIns (i : Nat) (fo : FO) (f : FE) : Ev (eIns i fo f env) Q X ↔ Of env[i]? fun o => Of o fun m => Of (lsM m) fun _ => Ev (fo env) (fun o e => Of (res e o) fun d => Ev (f e) (fun m e => Of (intD d) fun j => Of e[i]? fun o => Of o fun l => Of (lsM l) fun ms => Of (ims ms) fun ds => (ms.length < sizeLine ∧ 0 ≤ j ∧ j < 9223372036854775808) ∧ Q (.im .non) (e.set i (some (.ls ((ds.take j.toNat ++ [frz m] ++ ds.drop j.toNat).map .im))))) X) X := by
  unfold eIns
  cases env[i]? with
  | none => rw [Ev_bad]; exact Of_none.symm
  | some o =>
    cases o with
    | none => rw [Ev_bad, Of_some]; exact Of_none.symm
    | some m =>
      cases m with
      | ls ms0 =>
        rw [Of_some, Of_some, lsM_ls, Of_some]
        rewrite [Ev_bind]; refine iff_ev fun x e => ?_
        dsimp only
        rewrite [Ev_of]; refine iff_of fun d => ?_
        rewrite [Ev_bind]; refine iff_ev fun m e => ?_
        dsimp only
        cases d with
        | int j =>
          rw [intD_int, Of_some]
          dsimp only
          cases e[i]? with
          | none => rw [Ev_bad]; exact Of_none.symm
          | some o =>
            cases o with
            | none => rw [Ev_bad, Of_some]; exact Of_none.symm
            | some l =>
              cases l with
              | ls ms =>
                rw [Of_some, Of_some, lsM_ls, Of_some]
                dsimp only
                cases ims ms with
                | none => rw [Ev_bad]; exact Of_none.symm
                | some ds => rw [Of_some]; exact Ev_whenW _ _
              | _ => rw [Ev_bad, Of_some, Of_some]; exact Of_none.symm
        | _ => rw [Ev_bad]; exact Of_none.symm
      | _ => rw [Ev_bad, Of_some, Of_some]; exact Of_none.symm
end
theorem ims_revG : ∀ ms : List M, ∀ ds, ims ms = some ds → ims ms.reverse = some ds.reverse
  | [], ds, h => by simp at h; subst h; rfl
  | .im d :: ms, ds, h => by
    simp at h
    obtain ⟨es, h1, rfl⟩ := h
    rw [List.reverse_cons, List.reverse_cons]
    exact ims_app (ims_revG ms es h1) rfl
  | .ls _ :: _, _, h => by simp [ims] at h
  | .dc _ _ :: _, _, h => by simp [ims] at h
  | .ob _ _ :: _, _, h => by simp [ims] at h
@[simp] theorem ims_rev {α : Type} (f : α → D) (xs : List α) : ims (xs.map (M.im ∘ f)).reverse = some (xs.map f).reverse := ims_revG _ _ (ims_comp f xs)
/-! ### sorted -/
@[simp] theorem sortedAF_lN (ns : List Nat) : sortedAF [.lst (ns.map nD)] = some (.ls ((ns.mergeSort fun a b => decide (a ≤ b)).map (M.im ∘ nD))) := by
  unfold sortedAF
  rw [sortedF_nat]; rfl
theorem sortedFT_nat (ns : List Nat) : sortedFT [.tup (ns.map nD)] = some (.ls ((ns.mergeSort fun a b => decide (a ≤ b)).map (M.im ∘ nD))) := by
  unfold sortedFT
  simp only [intsD_nat, Option.map_some, msort_cast, List.map_map]
  rfl
@[simp] theorem sortedAF_tN (ns : List Nat) : sortedAF [.tup (ns.map nD)] = some (.ls ((ns.mergeSort fun a b => decide (a ≤ b)).map (M.im ∘ nD))) := by
  unfold sortedAF
  rw [sortedFT_nat]; rfl
theorem pairsD_psN {ps : List (Nat × Nat)} (h : ∀ p ∈ ps, p.1 < 64 ∧ p.2 < 64) : pairsD (ps.map pairD) = some ps := by
  induction ps with
  | nil => rfl
  | cons p ps ih =>
    obtain ⟨h1, h2⟩ := h p (by simp)
    rw [List.map_cons]
    show pairsD (.tup [.int p.1, .int p.2] :: _) = _
    rw [pairsD, if_pos ⟨by omega, by omega, by omega, by omega⟩, ih fun q hq => h q (by simp [hq])]
    simp
theorem sortedAF_lP {ps : List (Nat × Nat)} (h0 : ps ≠ []) (h : ∀ p ∈ ps, p.1 < 64 ∧ p.2 < 64) (hl : ps.length < 64) : sortedAF [.lst (ps.map pairD)] = some (.ls ((ps.mergeSort pairLe).map (M.im ∘ pairD))) := by
  have e1 : sortedF [.lst (ps.map pairD)] = none := by
    cases ps with
    | nil => exact absurd rfl h0
    | cons p ps => rfl
  have e2 : sortedFT [.lst (ps.map pairD)] = none := rfl
  have e3 : sortedPF [.lst (ps.map pairD)] = some (.ls ((ps.mergeSort pairLe).map (M.im ∘ pairD))) := by
    show (pairsD (ps.map pairD)).bind _ = _
    rw [pairsD_psN h]
    simp [hl, Function.comp_def]
  unfold sortedAF
  rw [e1, e2, e3]; rfl
theorem sortedAF_tP {ps : List (Nat × Nat)} (h0 : ps ≠ []) (h : ∀ p ∈ ps, p.1 < 64 ∧ p.2 < 64) (hl : ps.length < 64) : sortedAF [.tup (ps.map pairD)] = some (.ls ((ps.mergeSort pairLe).map (M.im ∘ pairD))) := by
  have e1 : sortedF [.tup (ps.map pairD)] = none := rfl
  have e2 : sortedFT [.tup (ps.map pairD)] = none := by
    cases ps with
    | nil => exact absurd rfl h0
    | cons p ps => rfl
  have e4 : sortedPF [.tup (ps.map pairD)] = none := rfl
  have e3 : sortedPFT [.tup (ps.map pairD)] = some (.ls ((ps.mergeSort pairLe).map (M.im ∘ pairD))) := by
    show (pairsD (ps.map pairD)).bind _ = _
    rw [pairsD_psN h]
    simp [hl, Function.comp_def]
  unfold sortedAF
  rw [e1, e2, e4, e3]; rfl
/-! ### == of rows of numbers -/
theorem pds_nat (a : List Nat) : pds (a.map nD) = some (a.map fun (n : Nat) => PyData.int (n : Int)) := by
  induction a with
  | nil => rfl
  | cons x a ih => simp [pds, pd, ih]
theorem lay_nat (a : List Nat) : PyData.canLayAll0 (a.map fun (n : Nat) => PyData.int (n : Int)) = true := by
  induction a with
  | nil => rfl
  | cons x a ih => simp [PyData.canLayAll0, PyData.canLay0, ih]
theorem dep_nat (a : List Nat) : PyData.depthAll (a.map fun (n : Nat) => PyData.int (n : Int)) = 0 := by
  induction a with
  | nil => rfl
  | cons x a ih => simp [PyData.depthAll, PyData.depth, ih]
theorem eqv_nat : ∀ a b : List Nat, PyData.eqvAll (a.map fun (n : Nat) => PyData.int (n : Int)) (b.map fun (n : Nat) => PyData.int (n : Int)) = decide (a = b)
  | [], [] => rfl
  | [], _ :: _ => rfl
  | _ :: _, [] => rfl
  | x :: a, y :: b => by
    simp only [List.map_cons, PyData.eqvAll, PyData.eqv, eqv_nat a b, List.cons.injEq]
    by_cases h : x = y
    · subst h; simp
    · have h2 : ¬ ((x : Int) = (y : Int)) := by omega
      simp [h, h2]
@[simp] theorem eqD_lst_nat (a b : List Nat) : eqD (.lst (a.map nD)) (.lst (b.map nD)) = some (decide (a = b)) := by
  show eqDeep (.lst (a.map nD)) (.lst (b.map nD)) = _
  unfold eqDeep
  simp only [pd, pds_nat, Option.map_some, Option.bind_some]
  rw [if_pos ⟨by simp [SeqAt.shaped, PyData.canLay0, lay_nat, PyData.depth, dep_nat], by simp [SeqAt.shaped, PyData.canLay0, lay_nat, PyData.depth, dep_nat]⟩]
  simp only [PyData.eqv, eqv_nat]
@[simp] theorem eqD_tup_nat (a b : List Nat) : eqD (.tup (a.map nD)) (.tup (b.map nD)) = some (decide (a = b)) := by
  show eqDeep (.tup (a.map nD)) (.tup (b.map nD)) = _
  unfold eqDeep
  simp only [pd, pds_nat, Option.map_some, Option.bind_some]
  rw [if_pos ⟨by simp [SeqAt.shaped, PyData.canLay0, lay_nat, PyData.depth, dep_nat], by simp [SeqAt.shaped, PyData.canLay0, lay_nat, PyData.depth, dep_nat]⟩]
  simp only [PyData.eqv, eqv_nat]
end Eng
end
section
set_option Elab.async false
set_option linter.all false
set_option maxRecDepth 100000
open Eng
local macro_rules
  | `(Ev $r $q $x) => `(@Ev _ $r (CQ.mk $q) (CX.mk $x))
  | `(Mv $r $q $x) => `(@Mv $r (CM.mk $q) (CY.mk $x))
  | `(Of $r $q) => `(@Of _ $r (CO.mk $q))
  | `(Br $r $p $q) => `(@Br $r (CP.mk $p) (CP.mk $q))
  | `(NX $s $p $e) => `(@NX _ $e (CN.mk $s $p))
namespace Eng
open PySem L2
section
variable {Q : M → Env → Prop} {X : Nat → List D → Env → Prop} {env : Env}
@[simp ↓] theorem ev_eFrz (f : FE) : Ev (eFrz f env) Q X ↔ Ev (f env) (fun m e => Q (.im (frz m)) e) X := by
  unfold eFrz; (repeat' first | with_unfolding_all exact Iff.rfl | (rewrite [Ev_bind]; refine iff_ev fun _ _ => ?_) | (dsimp only))
end
end Eng
end
section
set_option Elab.async false
set_option linter.all false
set_option maxRecDepth 100000
set_option maxHeartbeats 4000000
namespace K88
open PySem Eng
open L2 (FnScope Fun defScope Binds takes0)
abbrev Env := Eng.Env
abbrev D := Eng.D
abbrev M := Eng.M
def top (i : Nat) : Stmt := PySem.Challenge.pw_rightfulhands_k88_whole_swap_unblocked.main.body.getD i (.Pass ⟨0, 0, 0, 0⟩)
def fldT : Nat → List Str
  | 0 => []
  | 1 => ["value"]
  | 2 => ["value"]
  | 3 => ["value"]
  | 4 => ["what"]
  | _ => []
def subT : Nat → Nat → Bool
  | 0, 0 => true
  | 1, 0 => true
  | 1, 1 => true
  | 2, 0 => true
  | 2, 2 => true
  | 3, 0 => true
  | 3, 3 => true
  | 4, 0 => true
  | 4, 4 => true
  | _, _ => false
/-- what the top has written -/
structure Txt (K : PySem.W.Frag) (mg : Str → Option Value) where
  cls : Nat → Addr
  n_all : mg "all" = none
  n_any : mg "any" = none
  n_bool : mg "bool" = none
  n_int : mg "int" = none
  n_isinstance : mg "isinstance" = none
  n_len : mg "len" = none
  n_list : mg "list" = none
  n_max : mg "max" = none
  n_min : mg "min" = none
  n_range : mg "range" = none
  n_repr : mg "repr" = none
  n_set : mg "set" = none
  n_sorted : mg "sorted" = none
  n_str : mg "str" = none
  n_tuple : mg "tuple" = none
  n_zip : mg "zip" = none
  c_MOST_PERSONS : ∃ t, mg "MOST_PERSONS" = some (.int (10) t)
  g_HandError : mg "HandError" = some (.ref (cls 0))
  g_InvalidNumber : mg "InvalidNumber" = some (.ref (cls 1))
  g_InvalidLot : mg "InvalidLot" = some (.ref (cls 2))
  g_InvalidTable : mg "InvalidTable" = some (.ref (cls 3))
  g_TooMany : mg "TooMany" = some (.ref (cls 4))
  ecs : ECs ⟨K, cls, fldT⟩ 5 subT
  exm_HandError : ∀ c, c < 5 → PySem.W.exmOne K (.ref (cls c)) (.ref (cls 0)) = some (subT c 0)
  x_InvalidLot : ∀ (P : Program) (w : World) (base : Heap), XInit P w K mg base (cls 2) ["value"]
  x_InvalidTable : ∀ (P : Program) (w : World) (base : Heap), XInit P w K mg base (cls 3) ["value"]
  a_is_integer : Addr
  d_is_integer : FuncData
  F_is_integer : Fun K "is_integer" "is_integer" (top 7) a_is_integer d_is_integer
  g_is_integer : mg "is_integer" = some (.ref a_is_integer)
  k_is_integer : PySem.W.keepIn K (.ref a_is_integer) = true
  b_is_integer : Binds K d_is_integer ["value"] []
  a_is_from_to : Addr
  d_is_from_to : FuncData
  F_is_from_to : Fun K "is_from_to" "is_from_to" (top 8) a_is_from_to d_is_from_to
  g_is_from_to : mg "is_from_to" = some (.ref a_is_from_to)
  k_is_from_to : PySem.W.keepIn K (.ref a_is_from_to) = true
  b_is_from_to : Binds K d_is_from_to ["value", "least", "most"] []
  a_rises : Addr
  d_rises : FuncData
  F_rises : Fun K "rises" "rises" (top 9) a_rises d_rises
  g_rises : mg "rises" = some (.ref a_rises)
  k_rises : PySem.W.keepIn K (.ref a_rises) = true
  b_rises : Binds K d_rises ["value", "bound"] []
  a_is_rising : Addr
  d_is_rising : FuncData
  F_is_rising : Fun K "is_rising" "is_rising" (top 10) a_is_rising d_is_rising
  g_is_rising : mg "is_rising" = some (.ref a_is_rising)
  k_is_rising : PySem.W.keepIn K (.ref a_is_rising) = true
  b_is_rising : Binds K d_is_rising ["value", "bound"] []
  a_is_pair : Addr
  d_is_pair : FuncData
  F_is_pair : Fun K "is_pair" "is_pair" (top 12) a_is_pair d_is_pair
  g_is_pair : mg "is_pair" = some (.ref a_is_pair)
  k_is_pair : PySem.W.keepIn K (.ref a_is_pair) = true
  b_is_pair : Binds K d_is_pair ["value"] []
  a_are_things : Addr
  d_are_things : FuncData
  F_are_things : Fun K "are_things" "are_things" (top 15) a_are_things d_are_things
  g_are_things : mg "are_things" = some (.ref a_are_things)
  k_are_things : PySem.W.keepIn K (.ref a_are_things) = true
  b_are_things : Binds K d_are_things ["value", "many"] []
  a_is_wishes : Addr
  d_is_wishes : FuncData
  F_is_wishes : Fun K "is_wishes" "is_wishes" (top 16) a_is_wishes d_is_wishes
  g_is_wishes : mg "is_wishes" = some (.ref a_is_wishes)
  k_is_wishes : PySem.W.keepIn K (.ref a_is_wishes) = true
  b_is_wishes : Binds K d_is_wishes ["value"] []
  a_check_wishes : Addr
  d_check_wishes : FuncData
  F_check_wishes : Fun K "check_wishes" "check_wishes" (top 17) a_check_wishes d_check_wishes
  g_check_wishes : mg "check_wishes" = some (.ref a_check_wishes)
  k_check_wishes : PySem.W.keepIn K (.ref a_check_wishes) = true
  b_check_wishes : Binds K d_check_wishes ["wishes"] []
  a_is_outcome : Addr
  d_is_outcome : FuncData
  F_is_outcome : Fun K "is_outcome" "is_outcome" (top 18) a_is_outcome d_is_outcome
  g_is_outcome : mg "is_outcome" = some (.ref a_is_outcome)
  k_is_outcome : PySem.W.keepIn K (.ref a_is_outcome) = true
  b_is_outcome : Binds K d_is_outcome ["wishes", "value"] []
  a_check_outcome : Addr
  d_check_outcome : FuncData
  F_check_outcome : Fun K "check_outcome" "check_outcome" (top 19) a_check_outcome d_check_outcome
  g_check_outcome : mg "check_outcome" = some (.ref a_check_outcome)
  k_check_outcome : PySem.W.keepIn K (.ref a_check_outcome) = true
  b_check_outcome : Binds K d_check_outcome ["wishes", "outcome"] []
  a_liked : Addr
  d_liked : FuncData
  F_liked : Fun K "liked" "liked" (top 20) a_liked d_liked
  g_liked : mg "liked" = some (.ref a_liked)
  k_liked : PySem.W.keepIn K (.ref a_liked) = true
  b_liked : Binds K d_liked ["wishes", "person"] []
  a_place_for : Addr
  d_place_for : FuncData
  F_place_for : Fun K "place_for" "place_for" (top 21) a_place_for d_place_for
  g_place_for : mg "place_for" = some (.ref a_place_for)
  k_place_for : PySem.W.keepIn K (.ref a_place_for) = true
  b_place_for : Binds K d_place_for ["wishes", "person", "thing"] []
  a_likes_better : Addr
  d_likes_better : FuncData
  F_likes_better : Fun K "likes_better" "likes_better" (top 22) a_likes_better d_likes_better
  g_likes_better : mg "likes_better" = some (.ref a_likes_better)
  k_likes_better : PySem.W.keepIn K (.ref a_likes_better) = true
  b_likes_better : Binds K d_likes_better ["wishes", "person", "thing", "other"] []
  a_pointed : Addr
  d_pointed : FuncData
  F_pointed : Fun K "pointed" "pointed" (top 23) a_pointed d_pointed
  g_pointed : mg "pointed" = some (.ref a_pointed)
  k_pointed : PySem.W.keepIn K (.ref a_pointed) = true
  b_pointed : Binds K d_pointed ["wishes", "there"] []
  a_ring_from : Addr
  d_ring_from : FuncData
  F_ring_from : Fun K "ring_from" "ring_from" (top 24) a_ring_from d_ring_from
  g_ring_from : mg "ring_from" = some (.ref a_ring_from)
  k_ring_from : PySem.W.keepIn K (.ref a_ring_from) = true
  b_ring_from : Binds K d_ring_from ["pointing", "start"] []
  a_rings_of : Addr
  d_rings_of : FuncData
  F_rings_of : Fun K "rings_of" "rings_of" (top 25) a_rings_of d_rings_of
  g_rings_of : mg "rings_of" = some (.ref a_rings_of)
  k_rings_of : PySem.W.keepIn K (.ref a_rings_of) = true
  b_rings_of : Binds K d_rings_of ["pointing"] []
  a_all_rounds : Addr
  d_all_rounds : FuncData
  F_all_rounds : Fun K "all_rounds" "all_rounds" (top 26) a_all_rounds d_all_rounds
  g_all_rounds : mg "all_rounds" = some (.ref a_all_rounds)
  k_all_rounds : PySem.W.keepIn K (.ref a_all_rounds) = true
  b_all_rounds : Binds K d_all_rounds ["wishes"] []
  a_shared_in : Addr
  d_shared_in : FuncData
  F_shared_in : Fun K "shared_in" "shared_in" (top 27) a_shared_in d_shared_in
  g_shared_in : mg "shared_in" = some (.ref a_shared_in)
  k_shared_in : PySem.W.keepIn K (.ref a_shared_in) = true
  b_shared_in : Binds K d_shared_in ["ring"] []
  a_swapped : Addr
  d_swapped : FuncData
  F_swapped : Fun K "swapped" "swapped" (top 28) a_swapped d_swapped
  g_swapped : mg "swapped" = some (.ref a_swapped)
  k_swapped : PySem.W.keepIn K (.ref a_swapped) = true
  b_swapped : Binds K d_swapped ["wishes"] []
  a_swap : Addr
  d_swap : FuncData
  F_swap : Fun K "swap" "swap" (top 29) a_swap d_swap
  g_swap : mg "swap" = some (.ref a_swap)
  k_swap : PySem.W.keepIn K (.ref a_swap) = true
  b_swap : Binds K d_swap ["wishes"] []
  a_is_sharing : Addr
  d_is_sharing : FuncData
  F_is_sharing : Fun K "is_sharing" "is_sharing" (top 30) a_is_sharing d_is_sharing
  g_is_sharing : mg "is_sharing" = some (.ref a_is_sharing)
  k_is_sharing : PySem.W.keepIn K (.ref a_is_sharing) = true
  b_is_sharing : Binds K d_is_sharing ["lot", "shared"] []
  a_blocks : Addr
  d_blocks : FuncData
  F_blocks : Fun K "blocks" "blocks" (top 31) a_blocks d_blocks
  g_blocks : mg "blocks" = some (.ref a_blocks)
  k_blocks : PySem.W.keepIn K (.ref a_blocks) = true
  b_blocks : Binds K d_blocks ["wishes", "outcome", "lot", "shared"] []
  kv_blocks : ∀ (s : Shared) (us : List Value) (u : Value), us.length + 1 = (["wishes", "outcome", "lot", "shared"] : List Str).length → BindsTo s d_blocks ⟨us, [("shared", u)]⟩ ((["wishes", "outcome", "lot", "shared"] : List Str).zip (us ++ [u]))
  a_blocking_lot : Addr
  d_blocking_lot : FuncData
  F_blocking_lot : Fun K "blocking_lot" "blocking_lot" (top 32) a_blocking_lot d_blocking_lot
  g_blocking_lot : mg "blocking_lot" = some (.ref a_blocking_lot)
  k_blocking_lot : PySem.W.keepIn K (.ref a_blocking_lot) = true
  b_blocking_lot : Binds K d_blocking_lot ["wishes", "outcome"] []
  kv_blocking_lot : ∀ (s : Shared) (us : List Value) (u : Value), us.length + 1 = (["wishes", "outcome"] : List Str).length → BindsTo s d_blocking_lot ⟨us, [("outcome", u)]⟩ ((["wishes", "outcome"] : List Str).zip (us ++ [u]))
  a__law_stir : Addr
  d__law_stir : FuncData
  F__law_stir : Fun K "_law_stir" "_law_stir" (top 34) a__law_stir d__law_stir
  g__law_stir : mg "_law_stir" = some (.ref a__law_stir)
  k__law_stir : PySem.W.keepIn K (.ref a__law_stir) = true
  b__law_stir : Binds K d__law_stir ["pot", "cell"] []
  a__law_pot : Addr
  d__law_pot : FuncData
  F__law_pot : Fun K "_law_pot" "_law_pot" (top 35) a__law_pot d__law_pot
  g__law_pot : mg "_law_pot" = some (.ref a__law_pot)
  k__law_pot : PySem.W.keepIn K (.ref a__law_pot) = true
  b__law_pot : Binds K d__law_pot ["script"] []
  a__law_draw : Addr
  d__law_draw : FuncData
  F__law_draw : Fun K "_law_draw" "_law_draw" (top 36) a__law_draw d__law_draw
  g__law_draw : mg "_law_draw" = some (.ref a__law_draw)
  k__law_draw : PySem.W.keepIn K (.ref a__law_draw) = true
  b__law_draw : Binds K d__law_draw ["pot", "many"] []
  a__law_alike : Addr
  d__law_alike : FuncData
  F__law_alike : Fun K "_law_alike" "_law_alike" (top 37) a__law_alike d__law_alike
  g__law_alike : mg "_law_alike" = some (.ref a__law_alike)
  k__law_alike : PySem.W.keepIn K (.ref a__law_alike) = true
  b__law_alike : Binds K d__law_alike ["answer", "due"] []
  a__law_error : Addr
  d__law_error : FuncData
  F__law_error : Fun K "_law_error" "_law_error" (top 38) a__law_error d__law_error
  g__law_error : mg "_law_error" = some (.ref a__law_error)
  k__law_error : PySem.W.keepIn K (.ref a__law_error) = true
  b__law_error : Binds K d__law_error ["e"] []
  a__law_shuffled : Addr
  d__law_shuffled : FuncData
  F__law_shuffled : Fun K "_law_shuffled" "_law_shuffled" (top 39) a__law_shuffled d__law_shuffled
  g__law_shuffled : mg "_law_shuffled" = some (.ref a__law_shuffled)
  k__law_shuffled : PySem.W.keepIn K (.ref a__law_shuffled) = true
  b__law_shuffled : Binds K d__law_shuffled ["pot", "many"] []
  a__law_rows : Addr
  d__law_rows : FuncData
  F__law_rows : Fun K "_law_rows" "_law_rows" (top 40) a__law_rows d__law_rows
  g__law_rows : mg "_law_rows" = some (.ref a__law_rows)
  k__law_rows : PySem.W.keepIn K (.ref a__law_rows) = true
  b__law_rows : Binds K d__law_rows ["pot", "many"] []
  a__law_rounds : Addr
  d__law_rounds : FuncData
  F__law_rounds : Fun K "_law_rounds" "_law_rounds" (top 41) a__law_rounds d__law_rounds
  g__law_rounds : mg "_law_rounds" = some (.ref a__law_rounds)
  k__law_rounds : PySem.W.keepIn K (.ref a__law_rounds) = true
  b__law_rounds : Binds K d__law_rounds ["rows"] []
  a__law_outcome : Addr
  d__law_outcome : FuncData
  F__law_outcome : Fun K "_law_outcome" "_law_outcome" (top 42) a__law_outcome d__law_outcome
  g__law_outcome : mg "_law_outcome" = some (.ref a__law_outcome)
  k__law_outcome : PySem.W.keepIn K (.ref a__law_outcome) = true
  b__law_outcome : Binds K d__law_outcome ["rows"] []
  a__law_rank : Addr
  d__law_rank : FuncData
  F__law_rank : Fun K "_law_rank" "_law_rank" (top 43) a__law_rank d__law_rank
  g__law_rank : mg "_law_rank" = some (.ref a__law_rank)
  k__law_rank : PySem.W.keepIn K (.ref a__law_rank) = true
  b__law_rank : Binds K d__law_rank ["rows", "person", "thing"] []
  a__law_ask : Addr
  d__law_ask : FuncData
  F__law_ask : Fun K "_law_ask" "_law_ask" (top 44) a__law_ask d__law_ask
  g__law_ask : mg "_law_ask" = some (.ref a__law_ask)
  k__law_ask : PySem.W.keepIn K (.ref a__law_ask) = true
  b__law_ask : Binds K d__law_ask ["which", "rows", "got", "lot", "thing"] []
  a__law_is_number : Addr
  d__law_is_number : FuncData
  F__law_is_number : Fun K "_law_is_number" "_law_is_number" (top 45) a__law_is_number d__law_is_number
  g__law_is_number : mg "_law_is_number" = some (.ref a__law_is_number)
  k__law_is_number : PySem.W.keepIn K (.ref a__law_is_number) = true
  b__law_is_number : Binds K d__law_is_number ["thing"] []
  a__law_is_lot : Addr
  d__law_is_lot : FuncData
  F__law_is_lot : Fun K "_law_is_lot" "_law_is_lot" (top 46) a__law_is_lot d__law_is_lot
  g__law_is_lot : mg "_law_is_lot" = some (.ref a__law_is_lot)
  k__law_is_lot : PySem.W.keepIn K (.ref a__law_is_lot) = true
  b__law_is_lot : Binds K d__law_is_lot ["thing", "count"] []
  a__law_blocks : Addr
  d__law_blocks : FuncData
  F__law_blocks : Fun K "_law_blocks" "_law_blocks" (top 47) a__law_blocks d__law_blocks
  g__law_blocks : mg "_law_blocks" = some (.ref a__law_blocks)
  k__law_blocks : PySem.W.keepIn K (.ref a__law_blocks) = true
  b__law_blocks : Binds K d__law_blocks ["ranks", "got", "lot", "thing"] []
  a__law_back : Addr
  d__law_back : FuncData
  F__law_back : Fun K "_law_back" "_law_back" (top 48) a__law_back d__law_back
  g__law_back : mg "_law_back" = some (.ref a__law_back)
  k__law_back : PySem.W.keepIn K (.ref a__law_back) = true
  b__law_back : Binds K d__law_back ["ranks", "got", "start", "goal"] []
  a__law_ring : Addr
  d__law_ring : FuncData
  F__law_ring : Fun K "_law_ring" "_law_ring" (top 49) a__law_ring d__law_ring
  g__law_ring : mg "_law_ring" = some (.ref a__law_ring)
  k__law_ring : PySem.W.keepIn K (.ref a__law_ring) = true
  b__law_ring : Binds K d__law_ring ["ranks", "got"] []
  a__law_pairs_of : Addr
  d__law_pairs_of : FuncData
  F__law_pairs_of : Fun K "_law_pairs_of" "_law_pairs_of" (top 50) a__law_pairs_of d__law_pairs_of
  g__law_pairs_of : mg "_law_pairs_of" = some (.ref a__law_pairs_of)
  k__law_pairs_of : PySem.W.keepIn K (.ref a__law_pairs_of) = true
  b__law_pairs_of : Binds K d__law_pairs_of ["road"] []
  a__law_orders : Addr
  d__law_orders : FuncData
  F__law_orders : Fun K "_law_orders" "_law_orders" (top 51) a__law_orders d__law_orders
  g__law_orders : mg "_law_orders" = some (.ref a__law_orders)
  k__law_orders : PySem.W.keepIn K (.ref a__law_orders) = true
  b__law_orders : Binds K d__law_orders ["lot"] []
  a__law_sharings : Addr
  d__law_sharings : FuncData
  F__law_sharings : Fun K "_law_sharings" "_law_sharings" (top 52) a__law_sharings d__law_sharings
  g__law_sharings : mg "_law_sharings" = some (.ref a__law_sharings)
  k__law_sharings : PySem.W.keepIn K (.ref a__law_sharings) = true
  b__law_sharings : Binds K d__law_sharings ["many"] []
  a__law_spoilt : Addr
  d__law_spoilt : FuncData
  F__law_spoilt : Fun K "_law_spoilt" "_law_spoilt" (top 53) a__law_spoilt d__law_spoilt
  g__law_spoilt : mg "_law_spoilt" = some (.ref a__law_spoilt)
  k__law_spoilt : PySem.W.keepIn K (.ref a__law_spoilt) = true
  b__law_spoilt : Binds K d__law_spoilt ["pot", "lot", "thing", "many"] []
  a__law_judged : Addr
  d__law_judged : FuncData
  F__law_judged : Fun K "_law_judged" "_law_judged" (top 54) a__law_judged d__law_judged
  g__law_judged : mg "_law_judged" = some (.ref a__law_judged)
  k__law_judged : PySem.W.keepIn K (.ref a__law_judged) = true
  b__law_judged : Binds K d__law_judged ["pot", "rows", "ranks", "got", "road"] []
  a__law_wrongs : Addr
  d__law_wrongs : FuncData
  F__law_wrongs : Fun K "_law_wrongs" "_law_wrongs" (top 55) a__law_wrongs d__law_wrongs
  g__law_wrongs : mg "_law_wrongs" = some (.ref a__law_wrongs)
  k__law_wrongs : PySem.W.keepIn K (.ref a__law_wrongs) = true
  b__law_wrongs : Binds K d__law_wrongs ["pot", "rows", "got", "lot"] []
  a__law_outcomes : Addr
  d__law_outcomes : FuncData
  F__law_outcomes : Fun K "_law_outcomes" "_law_outcomes" (top 56) a__law_outcomes d__law_outcomes
  g__law_outcomes : mg "_law_outcomes" = some (.ref a__law_outcomes)
  k__law_outcomes : PySem.W.keepIn K (.ref a__law_outcomes) = true
  b__law_outcomes : Binds K d__law_outcomes ["pot", "rows", "best"] []
  a__law_tried : Addr
  d__law_tried : FuncData
  F__law_tried : Fun K "_law_tried" "_law_tried" (top 57) a__law_tried d__law_tried
  g__law_tried : mg "_law_tried" = some (.ref a__law_tried)
  k__law_tried : PySem.W.keepIn K (.ref a__law_tried) = true
  b__law_tried : Binds K d__law_tried ["ranks", "got", "shares"] []
  a_law : Addr
  d_law : FuncData
  F_law : Fun K "law" "law" (top 58) a_law d_law
  g_law : mg "law" = some (.ref a_law)
  k_law : PySem.W.keepIn K (.ref a_law) = true
  b_law : Binds K d_law ["script"] []
abbrev Txt.G {K : PySem.W.Frag} {mg : Str → Option Value} (T : Txt K mg) : Gs := ⟨K, T.cls, fldT⟩
theorem boot_all' : bootBuiltins "all" = some (.builtin "all") := by kernel_rfl
theorem boot_any' : bootBuiltins "any" = some (.builtin "any") := by kernel_rfl
theorem boot_bool' : bootBuiltins "bool" = some (.type "bool") := by kernel_rfl
theorem boot_int' : bootBuiltins "int" = some (.type "int") := by kernel_rfl
theorem boot_isinstance' : bootBuiltins "isinstance" = some (.builtin "isinstance") := by kernel_rfl
theorem boot_len' : bootBuiltins "len" = some (.builtin "len") := by kernel_rfl
theorem boot_list' : bootBuiltins "list" = some (.type "list") := by kernel_rfl
theorem boot_max' : bootBuiltins "max" = some (.builtin "max") := by kernel_rfl
theorem boot_min' : bootBuiltins "min" = some (.builtin "min") := by kernel_rfl
theorem boot_range' : bootBuiltins "range" = some (.type "range") := by kernel_rfl
theorem boot_repr' : bootBuiltins "repr" = some (.builtin "repr") := by kernel_rfl
theorem boot_set' : bootBuiltins "set" = some (.type "set") := by kernel_rfl
theorem boot_sorted' : bootBuiltins "sorted" = some (.builtin "sorted") := by kernel_rfl
theorem boot_str' : bootBuiltins "str" = some (.type "str") := by kernel_rfl
theorem boot_tuple' : bootBuiltins "tuple" = some (.type "tuple") := by kernel_rfl
theorem boot_zip' : bootBuiltins "zip" = some (.type "zip") := by kernel_rfl
section
variable {P : Program} {w : World} {K : PySem.W.Frag} {mg : Str → Option Value} {base : Heap}
/-! ### is_integer -/
theorem S_is_integer : FnScope ["value"] ["value"] (defScope (top 7)) := ⟨rfl, rfl, rfl, by decide +kernel, rfl, by decide +kernel, by decide +kernel⟩
def b_is_integer : FS := (sSeq (sRet (eAndF (eIsi [.int] (oVar 0)) (eNotF (oOf (eIsi [.bool] (oVar 0)))))) sSkip)
def m_is_integer : Mir := runF 1 [] b_is_integer
theorem ok_is_integer (T : Txt K mg) : Fn P w mg base T.G 1 T.a_is_integer T.d_is_integer ["value"] [] m_is_integer :=
  fnX (k := 0) T.F_is_integer S_is_integer fun cdv A ou s H E o hc nd tk po => (ss_cons (ss_ret (eAnd o (isi .int o (vO 0) T.n_isinstance T.n_int boot_int') (se_one (eNot o (O (isi .bool o (vO 0) T.n_isinstance T.n_bool boot_bool')))))) ss_nil)
/-! ### is_from_to -/
theorem S_is_from_to : FnScope ["value", "least", "most"] ["value", "least", "most"] (defScope (top 8)) := ⟨rfl, rfl, rfl, by decide +kernel, rfl, by decide +kernel, by decide +kernel⟩
def b_is_from_to : FS := (sSeq (sRet (eAndF (eCallN 1 [] m_is_integer (aCons (oVar 0) aNil)) (eOfT (tChF leD leD (oVar 1) (oVar 0) (oVar 2))))) sSkip)
def m_is_from_to : Mir := runF 3 [] b_is_from_to
theorem ok_is_from_to (T : Txt K mg) (h_is_integer : Fn P w mg base T.G 1 T.a_is_integer T.d_is_integer ["value"] [] m_is_integer) : Fn P w mg base T.G 2 T.a_is_from_to T.d_is_from_to ["value", "least", "most"] [] m_is_from_to :=
  fnX (k := 1) T.F_is_from_to S_is_from_to fun cdv A ou s H E o hc nd tk po => (ss_cons (ss_ret (eAnd o (cF (P := P) h_is_integer tk o hc T.g_is_integer T.k_is_integer T.b_is_integer (aC (vO 0) sa_nil)) (se_one (eC2 (kLe o) (kLe o) (vO 1) (vO 0) (vO 2))))) ss_nil)
/-! ### rises -/
theorem S_rises : FnScope ["value", "bound", "least", "one"] ["value", "bound"] (defScope (top 9)) := ⟨rfl, rfl, rfl, by decide +kernel, rfl, by decide +kernel, by decide +kernel⟩
def b_rises : FS := (sSeq (sSet [] 2 (eC (.int 0))) (sSeq (sFor (gNm 3) (wSeq (eVar 0)) (sSeq (sIf (tNotF (tTru' (oOf (eCallN 3 [] m_is_from_to (aCons (oVar 3) (aCons (oVar 2) (aCons (oOf (eBin subD (oVar 1) (oOf (eC (.int 1))))) aNil))))))) (sSeq (sRet (eC (.bl false))) sSkip) sSkip) (sSeq (sSet [] 2 (eBin addD (oVar 3) (oOf (eC (.int 1))))) sSkip))) (sSeq (sRet (eC (.bl true))) sSkip)))
def m_rises : Mir := runF 4 [] b_rises
theorem ok_rises (T : Txt K mg) (h_is_from_to : Fn P w mg base T.G 2 T.a_is_from_to T.d_is_from_to ["value", "least", "most"] [] m_is_from_to) : Fn P w mg base T.G 3 T.a_rises T.d_rises ["value", "bound"] [] m_rises :=
  fnX (k := 2) T.F_rises S_rises fun cdv A ou s H E o hc nd tk po => (ss_cons (sets 2 nd (cI 0)) (ss_cons (fors po hc (wS o (vE 0)) (gN 3 nd) (ss_cons (ss_if (tNot (tTru o (O (cF (P := P) h_is_from_to tk o hc T.g_is_from_to T.k_is_from_to T.b_is_from_to (aC (vO 3) (aC (vO 2) (aC (O (bSub o (vO 1) (O (cI 1)))) sa_nil))))))) (ss_cons (ss_ret (cB false)) ss_nil) ss_nil) (ss_cons (sets 2 nd (bAdd o (vO 3) (O (cI 1)))) ss_nil))) (ss_cons (ss_ret (cB true)) ss_nil)))
/-! ### is_rising -/
theorem S_is_rising : FnScope ["value", "bound"] ["value", "bound"] (defScope (top 10)) := ⟨rfl, rfl, rfl, by decide +kernel, rfl, by decide +kernel, by decide +kernel⟩
def b_is_rising : FS := (sSeq (sRet (eAndF (eIsi [.tup] (oVar 0)) (eCallN 2 [] m_rises (aCons (oVar 0) (aCons (oVar 1) aNil))))) sSkip)
def m_is_rising : Mir := runF 2 [] b_is_rising
theorem ok_is_rising (T : Txt K mg) (h_rises : Fn P w mg base T.G 3 T.a_rises T.d_rises ["value", "bound"] [] m_rises) : Fn P w mg base T.G 4 T.a_is_rising T.d_is_rising ["value", "bound"] [] m_is_rising :=
  fnX (k := 3) T.F_is_rising S_is_rising fun cdv A ou s H E o hc nd tk po => (ss_cons (ss_ret (eAnd o (isi .tup o (vO 0) T.n_isinstance T.n_tuple boot_tuple') (se_one (cF (P := P) h_rises tk o hc T.g_rises T.k_rises T.b_rises (aC (vO 0) (aC (vO 1) sa_nil)))))) ss_nil)
/-! ### is_pair -/
theorem S_is_pair : FnScope ["value"] ["value"] (defScope (top 12)) := ⟨rfl, rfl, rfl, by decide +kernel, rfl, by decide +kernel, by decide +kernel⟩
def b_is_pair : FS := (sSeq (sRet (eAndF (eIsi [.tup] (oVar 0)) (eOfT (tCmp' eqD (oOf (eCall lenF (aCons (oVar 0) aNil))) (oOf (eC (.int 2))))))) sSkip)
def m_is_pair : Mir := runF 1 [] b_is_pair
theorem ok_is_pair (T : Txt K mg) : Fn P w mg base T.G 1 T.a_is_pair T.d_is_pair ["value"] [] m_is_pair :=
  fnX (k := 0) T.F_is_pair S_is_pair fun cdv A ou s H E o hc nd tk po => (ss_cons (ss_ret (eAnd o (isi .tup o (vO 0) T.n_isinstance T.n_tuple boot_tuple') (se_one (eC1 (kEq o) (O (cB' (cs_len o.K) T.n_len boot_len' (aC (vO 0) sa_nil))) (O (cI 2)))))) ss_nil)
/-! ### are_things -/
theorem S_are_things : FnScope ["value", "many", "thing"] ["value", "many"] (defScope (top 15)) := ⟨rfl, rfl, rfl, by decide +kernel, rfl, by decide +kernel, by decide +kernel⟩
def b_are_things : FS := (sSeq (sIf (tOrF (tNotF (tTru' (oOf (eIsi [.tup] (oVar 0))))) (tNotF (tTru' (oOf (eCall allF (aCons (oOf (eCmp [2] (wSeq (eVar 0)) (gNm 2) tYesF (eCallN 3 [] m_is_from_to (aCons (oVar 2) (aCons (oOf (eC (.int 0))) (aCons (oOf (eBin subD (oVar 1) (oOf (eC (.int 1))))) aNil)))))) aNil)))))) (sSeq (sRet (eC (.bl false))) sSkip) sSkip) (sSeq (sRet (eOfT (tCmp' eqD (oOf (eLenSet (oVar 0))) (oOf (eCall lenF (aCons (oVar 0) aNil)))))) sSkip))
def m_are_things : Mir := runF 3 [] b_are_things
theorem ok_are_things (T : Txt K mg) (h_is_from_to : Fn P w mg base T.G 2 T.a_is_from_to T.d_is_from_to ["value", "least", "most"] [] m_is_from_to) : Fn P w mg base T.G 3 T.a_are_things T.d_are_things ["value", "many"] [] m_are_things :=
  fnX (k := 2) T.F_are_things S_are_things fun cdv A ou s H E o hc nd tk po => (ss_cons (ss_if (L2.PW.pt (sw_or (tNot (tTru o (O (isi .tup o (vO 0) T.n_isinstance T.n_tuple boot_tuple')))) (sw_one' (tNot (tTru o (O (cB' (cs_all hc) T.n_all boot_all' (aC (O (cmp1 [("thing", 2)] hc nd (wS o (vE 0)) (fun _ _ _ _ _ => (gM (vs := [2]) (gN 2 nd) (by decide))) (fun _ _ _ _ _ => sts_nil) (fun _ _ _ _ _ => (cF (P := P) h_is_from_to takes0 (XO.b o) hc T.g_is_from_to T.k_is_from_to T.b_is_from_to (aC (vO 2) (aC (O (cI 0)) (aC (O (bSub (XO.b o) (vO 1) (O (cI 1)))) sa_nil))))))) sa_nil)))))))) (ss_cons (ss_ret (cB false)) ss_nil) ss_nil) (ss_cons (ss_ret (eC1 (kEq o) (O (lenSet o hc T.n_len T.n_set (vO 0))) (O (cB' (cs_len o.K) T.n_len boot_len' (aC (vO 0) sa_nil))))) ss_nil))
/-! ### is_wishes -/
theorem S_is_wishes : FnScope ["value", "row"] ["value"] (defScope (top 16)) := ⟨rfl, rfl, rfl, by decide +kernel, rfl, by decide +kernel, by decide +kernel⟩
def b_is_wishes : FS := (sSeq (sIf (tOrF (tNotF (tTru' (oOf (eIsi [.tup] (oVar 0))))) (tNotF (tChF leD leD (oOf (eC (.int 1))) (oOf (eCall lenF (aCons (oVar 0) aNil))) (oOf (eC (.int 10)))))) (sSeq (sRet (eC (.bl false))) sSkip) sSkip) (sSeq (sRet (eCall allF (aCons (oOf (eCmp [1] (wSeq (eVar 0)) (gNm 1) tYesF (eCallN 2 [] m_are_things (aCons (oVar 1) (aCons (oOf (eCall lenF (aCons (oVar 0) aNil))) aNil))))) aNil))) sSkip))
def m_is_wishes : Mir := runF 2 [] b_is_wishes
theorem ok_is_wishes (T : Txt K mg) (h_are_things : Fn P w mg base T.G 3 T.a_are_things T.d_are_things ["value", "many"] [] m_are_things) : Fn P w mg base T.G 4 T.a_is_wishes T.d_is_wishes ["value"] [] m_is_wishes :=
  fnX (k := 3) T.F_is_wishes S_is_wishes fun cdv A ou s H E o hc nd tk po => (ss_cons (ss_if (L2.PW.pt (sw_or (tNot (tTru o (O (isi .tup o (vO 0) T.n_isinstance T.n_tuple boot_tuple')))) (sw_one' (tNot (tC2 (kLe o) (kLe o) (O (cI 1)) (O (cB' (cs_len o.K) T.n_len boot_len' (aC (vO 0) sa_nil))) (O (cGI 10 T.c_MOST_PERSONS))))))) (ss_cons (ss_ret (cB false)) ss_nil) ss_nil) (ss_cons (ss_ret (cB' (cs_all hc) T.n_all boot_all' (aC (O (cmp1 [("row", 1)] hc nd (wS o (vE 0)) (fun _ _ _ _ _ => (gM (vs := [1]) (gN 1 nd) (by decide))) (fun _ _ _ _ _ => sts_nil) (fun _ _ _ _ _ => (cF (P := P) h_are_things takes0 (XO.b o) hc T.g_are_things T.k_are_things T.b_are_things (aC (vO 1) (aC (O (cB' (cs_len (XO.b o).K) T.n_len boot_len' (aC (vO 0) sa_nil))) sa_nil)))))) sa_nil))) ss_nil))
/-! ### check_wishes -/
theorem S_check_wishes : FnScope ["wishes"] ["wishes"] (defScope (top 17)) := ⟨rfl, rfl, rfl, by decide +kernel, rfl, by decide +kernel, by decide +kernel⟩
def b_check_wishes : FS := (sSeq (sIf (tNotF (tTru' (oOf (eCallN 1 [] m_is_wishes (aCons (oVar 0) aNil))))) (sSeq (sRaise 3 1 (aCons (oVar 0) aNil)) sSkip) sSkip) sSkip)
def m_check_wishes : Mir := runF 1 [] b_check_wishes
theorem ok_check_wishes (T : Txt K mg) (h_is_wishes : Fn P w mg base T.G 4 T.a_is_wishes T.d_is_wishes ["value"] [] m_is_wishes) : Fn P w mg base T.G 5 T.a_check_wishes T.d_check_wishes ["wishes"] [] m_check_wishes :=
  fnX (k := 4) T.F_check_wishes S_check_wishes fun cdv A ou s H E o hc nd tk po => (ss_cons (ss_if (tNot (tTru o (O (cF (P := P) h_is_wishes tk o hc T.g_is_wishes T.k_is_wishes T.b_is_wishes (aC (vO 0) sa_nil))))) (ss_cons (raises tk o 3 hc (T.x_InvalidTable _ _ _) T.g_InvalidTable (aC (vO 0) sa_nil)) ss_nil) ss_nil) ss_nil)
/-! ### is_outcome -/
theorem S_is_outcome : FnScope ["wishes", "value"] ["wishes", "value"] (defScope (top 18)) := ⟨rfl, rfl, rfl, by decide +kernel, rfl, by decide +kernel, by decide +kernel⟩
def b_is_outcome : FS := (sSeq (sRet (eAndF (eCallN 2 [] m_are_things (aCons (oVar 1) (aCons (oOf (eCall lenF (aCons (oVar 0) aNil))) aNil))) (eOfT (tCmp' eqD (oOf (eCall lenF (aCons (oVar 1) aNil))) (oOf (eCall lenF (aCons (oVar 0) aNil))))))) sSkip)
def m_is_outcome : Mir := runF 2 [] b_is_outcome
theorem ok_is_outcome (T : Txt K mg) (h_are_things : Fn P w mg base T.G 3 T.a_are_things T.d_are_things ["value", "many"] [] m_are_things) : Fn P w mg base T.G 4 T.a_is_outcome T.d_is_outcome ["wishes", "value"] [] m_is_outcome :=
  fnX (k := 3) T.F_is_outcome S_is_outcome fun cdv A ou s H E o hc nd tk po => (ss_cons (ss_ret (eAnd o (cF (P := P) h_are_things tk o hc T.g_are_things T.k_are_things T.b_are_things (aC (vO 1) (aC (O (cB' (cs_len o.K) T.n_len boot_len' (aC (vO 0) sa_nil))) sa_nil))) (se_one (eC1 (kEq o) (O (cB' (cs_len o.K) T.n_len boot_len' (aC (vO 1) sa_nil))) (O (cB' (cs_len o.K) T.n_len boot_len' (aC (vO 0) sa_nil))))))) ss_nil)
/-! ### check_outcome -/
theorem S_check_outcome : FnScope ["wishes", "outcome"] ["wishes", "outcome"] (defScope (top 19)) := ⟨rfl, rfl, rfl, by decide +kernel, rfl, by decide +kernel, by decide +kernel⟩
def b_check_outcome : FS := (sSeq (sExpr (eCallN 1 [] m_check_wishes (aCons (oVar 0) aNil))) (sSeq (sIf (tNotF (tTru' (oOf (eCallN 2 [] m_is_outcome (aCons (oVar 0) (aCons (oVar 1) aNil)))))) (sSeq (sRaise 3 1 (aCons (oVar 1) aNil)) sSkip) sSkip) sSkip))
def m_check_outcome : Mir := runF 2 [] b_check_outcome
theorem ok_check_outcome (T : Txt K mg) (h_check_wishes : Fn P w mg base T.G 5 T.a_check_wishes T.d_check_wishes ["wishes"] [] m_check_wishes) (h_is_outcome : Fn P w mg base T.G 4 T.a_is_outcome T.d_is_outcome ["wishes", "value"] [] m_is_outcome) : Fn P w mg base T.G 6 T.a_check_outcome T.d_check_outcome ["wishes", "outcome"] [] m_check_outcome :=
  fnX (k := 5) T.F_check_outcome S_check_outcome fun cdv A ou s H E o hc nd tk po => (ss_cons (exps (cF (P := P) h_check_wishes tk o hc T.g_check_wishes T.k_check_wishes T.b_check_wishes (aC (vO 0) sa_nil))) (ss_cons (ss_if (tNot (tTru o (O (cF (P := P) h_is_outcome tk o hc T.g_is_outcome T.k_is_outcome T.b_is_outcome (aC (vO 0) (aC (vO 1) sa_nil)))))) (ss_cons (raises tk o 3 hc (T.x_InvalidTable _ _ _) T.g_InvalidTable (aC (vO 1) sa_nil)) ss_nil) ss_nil) ss_nil))
/-! ### liked -/
theorem S_liked : FnScope ["wishes", "person", "row"] ["wishes", "person"] (defScope (top 20)) := ⟨rfl, rfl, rfl, by decide +kernel, rfl, by decide +kernel, by decide +kernel⟩
def b_liked : FS := (sSeq (sSet [] 2 (eIdx (oVar 0) (oVar 1))) (sSeq (sIf (tCmp' inD (oVar 1) (oVar 2)) (sSeq (sRet (eSlc (oVar 2) iNone (iSome (oOf (eBin addD (oOf (eTIdx (oVar 2) (aCons (oVar 1) aNil))) (oOf (eC (.int 1)))))))) sSkip) sSkip) (sSeq (sRet (eBin addD (oVar 2) (oOf (eTup (dCons (eVar 1) dNil))))) sSkip)))
def m_liked : Mir := runF 3 [] b_liked
theorem ok_liked (T : Txt K mg) : Fn P w mg base T.G 1 T.a_liked T.d_liked ["wishes", "person"] [] m_liked :=
  fnX (k := 0) T.F_liked S_liked fun cdv A ou s H E o hc nd tk po => (ss_cons (sets 2 nd (eIdx' o (vO 0) (vO 1))) (ss_cons (ss_if (tC1 (kIn o) (vO 1) (vO 2)) (ss_cons (ss_ret (eSlc' o (vO 2) si_none (si_some (O (bAdd o (O (tIdx' o (vO 2) (aC (vO 1) sa_nil))) (O (cI 1))))))) ss_nil) ss_nil) (ss_cons (ss_ret (bAdd o (vO 2) (O (se_tup (dC (vE 1) sd_nil))))) ss_nil)))
/-! ### place_for -/
theorem S_place_for : FnScope ["wishes", "person", "thing", "row"] ["wishes", "person", "thing"] (defScope (top 21)) := ⟨rfl, rfl, rfl, by decide +kernel, rfl, by decide +kernel, by decide +kernel⟩
def b_place_for : FS := (sSeq (sSet [] 3 (eCallN 2 [] m_liked (aCons (oVar 0) (aCons (oVar 1) aNil)))) (sSeq (sIf (tCmp' inD (oVar 2) (oVar 3)) (sSeq (sRet (eTIdx (oVar 3) (aCons (oVar 2) aNil))) sSkip) sSkip) (sSeq (sRet (eCall lenF (aCons (oVar 3) aNil))) sSkip)))
def m_place_for : Mir := runF 4 [] b_place_for
theorem ok_place_for (T : Txt K mg) (h_liked : Fn P w mg base T.G 1 T.a_liked T.d_liked ["wishes", "person"] [] m_liked) : Fn P w mg base T.G 2 T.a_place_for T.d_place_for ["wishes", "person", "thing"] [] m_place_for :=
  fnX (k := 1) T.F_place_for S_place_for fun cdv A ou s H E o hc nd tk po => (ss_cons (sets 3 nd (cF (P := P) h_liked tk o hc T.g_liked T.k_liked T.b_liked (aC (vO 0) (aC (vO 1) sa_nil)))) (ss_cons (ss_if (tC1 (kIn o) (vO 2) (vO 3)) (ss_cons (ss_ret (tIdx' o (vO 3) (aC (vO 2) sa_nil))) ss_nil) ss_nil) (ss_cons (ss_ret (cB' (cs_len o.K) T.n_len boot_len' (aC (vO 3) sa_nil))) ss_nil)))
/-! ### likes_better -/
theorem S_likes_better : FnScope ["wishes", "person", "thing", "other"] ["wishes", "person", "thing", "other"] (defScope (top 22)) := ⟨rfl, rfl, rfl, by decide +kernel, rfl, by decide +kernel, by decide +kernel⟩
def b_likes_better : FS := (sSeq (sRet (eOfT (tCmp' ltD (oOf (eCallN 3 [] m_place_for (aCons (oVar 0) (aCons (oVar 1) (aCons (oVar 2) aNil))))) (oOf (eCallN 3 [] m_place_for (aCons (oVar 0) (aCons (oVar 1) (aCons (oVar 3) aNil)))))))) sSkip)
def m_likes_better : Mir := runF 4 [] b_likes_better
theorem ok_likes_better (T : Txt K mg) (h_place_for : Fn P w mg base T.G 2 T.a_place_for T.d_place_for ["wishes", "person", "thing"] [] m_place_for) : Fn P w mg base T.G 3 T.a_likes_better T.d_likes_better ["wishes", "person", "thing", "other"] [] m_likes_better :=
  fnX (k := 2) T.F_likes_better S_likes_better fun cdv A ou s H E o hc nd tk po => (ss_cons (ss_ret (eC1 (kLt o) (O (cF (P := P) h_place_for tk o hc T.g_place_for T.k_place_for T.b_place_for (aC (vO 0) (aC (vO 1) (aC (vO 2) sa_nil))))) (O (cF (P := P) h_place_for tk o hc T.g_place_for T.k_place_for T.b_place_for (aC (vO 0) (aC (vO 1) (aC (vO 3) sa_nil))))))) ss_nil)
/-! ### pointed -/
theorem S_pointed : FnScope ["wishes", "there", "found", "person", "thing"] ["wishes", "there"] (defScope (top 23)) := ⟨rfl, rfl, rfl, by decide +kernel, rfl, by decide +kernel, by decide +kernel⟩
def b_pointed : FS := (sSeq (sSet [] 2 eDic) (sSeq (sFor (gNm 3) (wSeq (eVar 1)) (sSeq (sPut 2 (oVar 3) (eIdx (oOf (eCmp [4] (wSeq (eCallN 2 [] m_liked (aCons (oVar 0) (aCons (oVar 3) aNil)))) (gNm 4) (tCmp' inD (oVar 4) (oVar 1)) (eVar 4))) (oOf (eC (.int 0))))) sSkip)) (sSeq (sRet (eMove 2)) sSkip)))
def m_pointed : Mir := runF 5 [] b_pointed
theorem ok_pointed (T : Txt K mg) (h_liked : Fn P w mg base T.G 1 T.a_liked T.d_liked ["wishes", "person"] [] m_liked) : Fn P w mg base T.G 2 T.a_pointed T.d_pointed ["wishes", "there"] [] m_pointed :=
  fnX (k := 1) T.F_pointed S_pointed fun cdv A ou s H E o hc nd tk po => (ss_cons (sets 2 nd se_dic) (ss_cons (fors po hc (wS o (vE 1)) (gN 3 nd) (ss_cons (puts 2 o (vO 3) (eIdx' o (O (cmp1 [("thing", 4)] hc nd (wS o (cF (P := P) h_liked tk o hc T.g_liked T.k_liked T.b_liked (aC (vO 0) (aC (vO 3) sa_nil)))) (fun _ _ _ _ _ => (gM (vs := [4]) (gN 4 nd) (by decide))) (fun _ _ _ _ _ => (sts_one (tC1 (kIn (XO.b o)) (vO 4) (vO 1)))) (fun _ _ _ _ _ => (vE 4)))) (O (cI 0)))) ss_nil)) (ss_cons (ss_ret (vM 2)) ss_nil)))
/-! ### ring_from -/
theorem S_ring_from : FnScope ["pointing", "start", "row"] ["pointing", "start"] (defScope (top 24)) := ⟨rfl, rfl, rfl, by decide +kernel, rfl, by decide +kernel, by decide +kernel⟩
def b_ring_from : FS := (sSeq (sSet [] 2 (eLst (mCons (eVar 1) mNil))) (sSeq (whF (tCmp' ninD (oOf (eIdx (oVar 0) (oOf (eIdx (oVar 2) (oOf (eNegF (oOf (eC (.int 1))))))))) (oVar 2)) (sSeq (sExpr (eApp 2 (eIdx (oVar 0) (oOf (eIdx (oVar 2) (oOf (eNegF (oOf (eC (.int 1)))))))))) sSkip) 40) (sSeq (sRet (eCall tupF (aCons (oVar 2) aNil))) sSkip)))
def m_ring_from : Mir := runF 3 [] b_ring_from
theorem ok_ring_from (T : Txt K mg) : Fn P w mg base T.G 1 T.a_ring_from T.d_ring_from ["pointing", "start"] [] m_ring_from :=
  fnX (k := 0) T.F_ring_from S_ring_from fun cdv A ou s H E o hc nd tk po => (ss_cons (sets 2 nd (se_lst (mC (vE 1) sm_nil))) (ss_cons (ss_while (n := 40) po (tC1 (kNin o) (O (eIdx' o (vO 0) (O (eIdx' o (vO 2) (O (eNeg (O (cI 1)))))))) (vO 2)) (ss_cons (exps (app 2 (eIdx' o (vO 0) (O (eIdx' o (vO 2) (O (eNeg (O (cI 1))))))))) ss_nil)) (ss_cons (ss_ret (cT' (cs_tuple o.K) T.n_tuple boot_tuple' (aC (vO 2) sa_nil))) ss_nil)))
/-! ### rings_of -/
theorem S_rings_of : FnScope ["pointing", "found", "start", "ring"] ["pointing"] (defScope (top 25)) := ⟨rfl, rfl, rfl, by decide +kernel, rfl, by decide +kernel, by decide +kernel⟩
def b_rings_of : FS := (sSeq (sSet [] 1 (eLst mNil)) (sSeq (sFor (gNm 2) (wSeq (eCall sortedDF (aCons (oVar 0) aNil))) (sSeq (sSet [] 3 (eCallN 2 [] m_ring_from (aCons (oVar 0) (aCons (oVar 2) aNil)))) (sSeq (sIf (tAndF (tCmp' eqD (oOf (eIdx (oVar 0) (oOf (eIdx (oVar 3) (oOf (eNegF (oOf (eC (.int 1))))))))) (oVar 2)) (tCmp' eqD (oVar 2) (oOf (eCall minF (aCons (oVar 3) aNil))))) (sSeq (sExpr (eApp 1 (eVar 3))) sSkip) sSkip) sSkip))) (sSeq (sRet (eCall tupF (aCons (oVar 1) aNil))) sSkip)))
def m_rings_of : Mir := runF 4 [] b_rings_of
theorem ok_rings_of (T : Txt K mg) (h_ring_from : Fn P w mg base T.G 1 T.a_ring_from T.d_ring_from ["pointing", "start"] [] m_ring_from) : Fn P w mg base T.G 2 T.a_rings_of T.d_rings_of ["pointing"] [] m_rings_of :=
  fnX (k := 1) T.F_rings_of S_rings_of fun cdv A ou s H E o hc nd tk po => (ss_cons (sets 1 nd (se_lst sm_nil)) (ss_cons (fors po hc (wS o (cB' (cs_sortedD hc) T.n_sorted boot_sorted' (aC (vO 0) sa_nil))) (gN 2 nd) (ss_cons (sets 3 nd (cF (P := P) h_ring_from tk o hc T.g_ring_from T.k_ring_from T.b_ring_from (aC (vO 0) (aC (vO 2) sa_nil)))) (ss_cons (ss_if (L2.PW.pt (sw_and (tC1 (kEq o) (O (eIdx' o (vO 0) (O (eIdx' o (vO 3) (O (eNeg (O (cI 1)))))))) (vO 2)) (sw_one (tC1 (kEq o) (vO 2) (O (cB' (cs_min o.K hc o.u) T.n_min boot_min' (aC (vO 3) sa_nil))))))) (ss_cons (exps (app 1 (vE 3))) ss_nil) ss_nil) ss_nil))) (ss_cons (ss_ret (cT' (cs_tuple o.K) T.n_tuple boot_tuple' (aC (vO 1) sa_nil))) ss_nil)))
/-! ### all_rounds -/
theorem S_all_rounds : FnScope ["wishes", "found", "there", "rings", "gone", "ring", "person"] ["wishes"] (defScope (top 26)) := ⟨rfl, rfl, rfl, by decide +kernel, rfl, by decide +kernel, by decide +kernel⟩
def b_all_rounds : FS := (sSeq (sSet [] 1 (eLst mNil)) (sSeq (sSet [] 2 (eTRg (rRng1 (oOf (eCall lenF (aCons (oVar 0) aNil)))))) (sSeq (whF (tCmp' gtD (oOf (eCall lenF (aCons (oVar 2) aNil))) (oOf (eC (.int 0)))) (sSeq (sSet [] 3 (eCallN 1 [] m_rings_of (aCons (oOf (eCallN 2 [] m_pointed (aCons (oVar 0) (aCons (oVar 2) aNil)))) aNil))) (sSeq (sExpr (eApp 1 (eVar 3))) (sSeq (sSet [] 4 (eCmp2 [5, 6] (wSeq (eVar 3)) (gNm 5) tYesF (wSeq (eVar 5)) [6] (gNm 6) tYesF (eVar 6))) (sSeq (sSet [] 2 (eCall tupF (aCons (oOf (eCmp [6] (wSeq (eVar 2)) (gNm 6) (tCmp' ninD (oVar 6) (oVar 4)) (eVar 6))) aNil))) sSkip)))) 40) (sSeq (sRet (eCall tupF (aCons (oVar 1) aNil))) sSkip))))
def m_all_rounds : Mir := runF 7 [] b_all_rounds
theorem ok_all_rounds (T : Txt K mg) (h_pointed : Fn P w mg base T.G 2 T.a_pointed T.d_pointed ["wishes", "there"] [] m_pointed) (h_rings_of : Fn P w mg base T.G 2 T.a_rings_of T.d_rings_of ["pointing"] [] m_rings_of) : Fn P w mg base T.G 3 T.a_all_rounds T.d_all_rounds ["wishes"] [] m_all_rounds :=
  fnX (k := 2) T.F_all_rounds S_all_rounds fun cdv A ou s H E o hc nd tk po => (ss_cons (sets 1 nd (se_lst sm_nil)) (ss_cons (sets 2 nd (tRg hc T.n_tuple (rg1 T.n_range (O (cB' (cs_len o.K) T.n_len boot_len' (aC (vO 0) sa_nil)))))) (ss_cons (ss_while (n := 40) po (tC1 (kGt o) (O (cB' (cs_len o.K) T.n_len boot_len' (aC (vO 2) sa_nil))) (O (cI 0))) (ss_cons (sets 3 nd (cF (P := P) h_rings_of tk o hc T.g_rings_of T.k_rings_of T.b_rings_of (aC (O (cF (P := P) h_pointed tk o hc T.g_pointed T.k_pointed T.b_pointed (aC (vO 0) (aC (vO 2) sa_nil)))) sa_nil))) (ss_cons (exps (app 1 (vE 3))) (ss_cons (sets 4 nd (cmp2 [("ring", 5), ("person", 6)] [6] hc nd (wS o (vE 3)) (fun _ _ _ _ _ => (gM (vs := [5]) (gN 5 nd) (by decide))) (fun _ _ _ _ _ => sts_nil) (fun _ _ _ _ _ => (wS (XO.b o) (vE 5))) (fun _ _ _ _ _ => (gM (vs := [6]) (gN 6 nd) (by decide))) (fun _ _ _ _ _ => sts_nil) (fun _ _ _ _ _ => (vE 6)))) (ss_cons (sets 2 nd (cT' (cs_tuple o.K) T.n_tuple boot_tuple' (aC (O (cmp1 [("person", 6)] hc nd (wS o (vE 2)) (fun _ _ _ _ _ => (gM (vs := [6]) (gN 6 nd) (by decide))) (fun _ _ _ _ _ => (sts_one (tC1 (kNin (XO.b o)) (vO 6) (vO 4)))) (fun _ _ _ _ _ => (vE 6)))) sa_nil))) ss_nil))))) (ss_cons (ss_ret (cT' (cs_tuple o.K) T.n_tuple boot_tuple' (aC (vO 1) sa_nil))) ss_nil))))
/-! ### shared_in -/
theorem S_shared_in : FnScope ["ring", "person", "thing"] ["ring"] (defScope (top 27)) := ⟨rfl, rfl, rfl, by decide +kernel, rfl, by decide +kernel, by decide +kernel⟩
def b_shared_in : FS := (sSeq (sRet (eCall tupF (aCons (oOf (eCall sortedPF (aCons (oOf (eCmp [1, 2] (wZip (aCons (oVar 0) (aCons (oOf (eBin addD (oOf (eSlc (oVar 0) (iSome (oOf (eC (.int 1)))) iNone)) (oOf (eSlc (oVar 0) iNone (iSome (oOf (eC (.int 1)))))))) aNil))) (gTp 2 (gsCons (gNm 1) (gsCons (gNm 2) gsNil))) tYesF (eTup (dCons (eVar 1) (dCons (eVar 2) dNil))))) aNil))) aNil))) sSkip)
def m_shared_in : Mir := runF 3 [] b_shared_in
theorem ok_shared_in (T : Txt K mg) : Fn P w mg base T.G 1 T.a_shared_in T.d_shared_in ["ring"] [] m_shared_in :=
  fnX (k := 0) T.F_shared_in S_shared_in fun cdv A ou s H E o hc nd tk po => (ss_cons (ss_ret (cT' (cs_tuple o.K) T.n_tuple boot_tuple' (aC (O (cB' (cs_sortedP o.K) T.n_sorted boot_sorted' (aC (O (cmp1 [("person", 1), ("thing", 2)] hc nd (wZ o T.n_zip (aC (vO 0) (aC (O (bAdd o (O (eSlc' o (vO 0) (si_some (O (cI 1))) si_none)) (O (eSlc' o (vO 0) si_none (si_some (O (cI 1))))))) sa_nil))) (fun _ _ _ _ _ => (gM (vs := ([1] ++ ([2] ++ []))) (gT (XO.b o) hc (gC (gN 1 nd) (gC (gN 2 nd) sgs_nil))) (by decide))) (fun _ _ _ _ _ => sts_nil) (fun _ _ _ _ _ => (se_tup (dC (vE 1) (dC (vE 2) sd_nil)))))) sa_nil))) sa_nil))) ss_nil)
/-! ### swapped -/
theorem S_swapped : FnScope ["wishes", "given", "rings", "ring", "person", "thing"] ["wishes"] (defScope (top 28)) := ⟨rfl, rfl, rfl, by decide +kernel, rfl, by decide +kernel, by decide +kernel⟩
def b_swapped : FS := (sSeq (sSet [] 1 eDic) (sSeq (sFor (gNm 2) (wSeq (eCallN 1 [] m_all_rounds (aCons (oVar 0) aNil))) (sSeq (sFor (gNm 3) (wSeq (eVar 2)) (sSeq (sFor (gTp 2 (gsCons (gNm 4) (gsCons (gNm 5) gsNil))) (wSeq (eCallN 1 [] m_shared_in (aCons (oVar 3) aNil))) (sSeq (sPut 1 (oVar 4) (eVar 5)) sSkip)) sSkip)) sSkip)) (sSeq (sRet (eCall tupF (aCons (oOf (eCmp [4] (wRng1 (oOf (eCall lenF (aCons (oVar 0) aNil)))) (gNm 4) tYesF (eIdx (oVar 1) (oVar 4)))) aNil))) sSkip)))
def m_swapped : Mir := runF 6 [] b_swapped
theorem ok_swapped (T : Txt K mg) (h_all_rounds : Fn P w mg base T.G 3 T.a_all_rounds T.d_all_rounds ["wishes"] [] m_all_rounds) (h_shared_in : Fn P w mg base T.G 1 T.a_shared_in T.d_shared_in ["ring"] [] m_shared_in) : Fn P w mg base T.G 4 T.a_swapped T.d_swapped ["wishes"] [] m_swapped :=
  fnX (k := 3) T.F_swapped S_swapped fun cdv A ou s H E o hc nd tk po => (ss_cons (sets 1 nd se_dic) (ss_cons (fors po hc (wS o (cF (P := P) h_all_rounds tk o hc T.g_all_rounds T.k_all_rounds T.b_all_rounds (aC (vO 0) sa_nil))) (gN 2 nd) (ss_cons (fors po hc (wS o (vE 2)) (gN 3 nd) (ss_cons (fors po hc (wS o (cF (P := P) h_shared_in tk o hc T.g_shared_in T.k_shared_in T.b_shared_in (aC (vO 3) sa_nil))) (gT o hc (gC (gN 4 nd) (gC (gN 5 nd) sgs_nil))) (ss_cons (puts 1 o (vO 4) (vE 5)) ss_nil)) ss_nil)) ss_nil)) (ss_cons (ss_ret (cT' (cs_tuple o.K) T.n_tuple boot_tuple' (aC (O (cmp1 [("person", 4)] hc nd (wR1 T.n_range (O (cB' (cs_len o.K) T.n_len boot_len' (aC (vO 0) sa_nil)))) (fun _ _ _ _ _ => (gM (vs := [4]) (gN 4 nd) (by decide))) (fun _ _ _ _ _ => sts_nil) (fun _ _ _ _ _ => (eIdx' (XO.b o) (vO 1) (vO 4))))) sa_nil))) ss_nil)))
/-! ### swap -/
theorem S_swap : FnScope ["wishes"] ["wishes"] (defScope (top 29)) := ⟨rfl, rfl, rfl, by decide +kernel, rfl, by decide +kernel, by decide +kernel⟩
def b_swap : FS := (sSeq (sExpr (eCallN 1 [] m_check_wishes (aCons (oVar 0) aNil))) (sSeq (sRet (eCallN 1 [] m_swapped (aCons (oVar 0) aNil))) sSkip))
def m_swap : Mir := runF 1 [] b_swap
theorem ok_swap (T : Txt K mg) (h_check_wishes : Fn P w mg base T.G 5 T.a_check_wishes T.d_check_wishes ["wishes"] [] m_check_wishes) (h_swapped : Fn P w mg base T.G 4 T.a_swapped T.d_swapped ["wishes"] [] m_swapped) : Fn P w mg base T.G 6 T.a_swap T.d_swap ["wishes"] [] m_swap :=
  fnX (k := 5) T.F_swap S_swap fun cdv A ou s H E o hc nd tk po => (ss_cons (exps (cF (P := P) h_check_wishes tk o hc T.g_check_wishes T.k_check_wishes T.b_check_wishes (aC (vO 0) sa_nil))) (ss_cons (ss_ret (cF (P := P) h_swapped tk o hc T.g_swapped T.k_swapped T.b_swapped (aC (vO 0) sa_nil))) ss_nil))
/-! ### is_sharing -/
theorem S_is_sharing : FnScope ["lot", "shared", "persons", "things", "pair", "one"] ["lot", "shared"] (defScope (top 30)) := ⟨rfl, rfl, rfl, by decide +kernel, rfl, by decide +kernel, by decide +kernel⟩
def b_is_sharing : FS := (sSeq (sIf (tOrF (tNotF (tTru' (oOf (eIsi [.tup] (oVar 1))))) (tNotF (tTru' (oOf (eCall allF (aCons (oOf (eCmp [4] (wSeq (eVar 1)) (gNm 4) tYesF (eCallN 1 [] m_is_pair (aCons (oVar 4) aNil)))) aNil)))))) (sSeq (sRet (eC (.bl false))) sSkip) sSkip) (sSeq (sSet [] 2 (eCmp [4] (wSeq (eVar 1)) (gNm 4) tYesF (eIdx (oVar 4) (oOf (eC (.int 0)))))) (sSeq (sSet [] 3 (eCmp [4] (wSeq (eVar 1)) (gNm 4) tYesF (eIdx (oVar 4) (oOf (eC (.int 1)))))) (sSeq (sIf (tNotF (tTru' (oOf (eCall allF (aCons (oOf (eCmp [5] (wSeq (eBin addD (oVar 2) (oVar 3))) (gNm 5) tYesF (eCallN 3 [] m_is_from_to (aCons (oVar 5) (aCons (oOf (eC (.int 0))) (aCons (oOf (eBin subD (oOf (eC (.int 10))) (oOf (eC (.int 1))))) aNil)))))) aNil))))) (sSeq (sRet (eC (.bl false))) sSkip) sSkip) (sSeq (sRet (eAndF (eOfT (tCmp' eqD (oVar 2) (oOf (eCall listF (aCons (oVar 0) aNil))))) (eOfT (tCmp' eqD (oOf (eCall sortedAF (aCons (oVar 3) aNil))) (oOf (eCall listF (aCons (oVar 0) aNil))))))) sSkip)))))
def m_is_sharing : Mir := runF 6 [] b_is_sharing
theorem ok_is_sharing (T : Txt K mg) (h_is_from_to : Fn P w mg base T.G 2 T.a_is_from_to T.d_is_from_to ["value", "least", "most"] [] m_is_from_to) (h_is_pair : Fn P w mg base T.G 1 T.a_is_pair T.d_is_pair ["value"] [] m_is_pair) : Fn P w mg base T.G 3 T.a_is_sharing T.d_is_sharing ["lot", "shared"] [] m_is_sharing :=
  fnX (k := 2) T.F_is_sharing S_is_sharing fun cdv A ou s H E o hc nd tk po => (ss_cons (ss_if (L2.PW.pt (sw_or (tNot (tTru o (O (isi .tup o (vO 1) T.n_isinstance T.n_tuple boot_tuple')))) (sw_one' (tNot (tTru o (O (cB' (cs_all hc) T.n_all boot_all' (aC (O (cmp1 [("pair", 4)] hc nd (wS o (vE 1)) (fun _ _ _ _ _ => (gM (vs := [4]) (gN 4 nd) (by decide))) (fun _ _ _ _ _ => sts_nil) (fun _ _ _ _ _ => (cF (P := P) h_is_pair takes0 (XO.b o) hc T.g_is_pair T.k_is_pair T.b_is_pair (aC (vO 4) sa_nil))))) sa_nil)))))))) (ss_cons (ss_ret (cB false)) ss_nil) ss_nil) (ss_cons (setCmp 2 [("pair", 4)] hc nd (wS o (vE 1)) (fun _ _ _ _ _ => (gM (vs := [4]) (gN 4 nd) (by decide))) (fun _ _ _ _ _ => sts_nil) (fun _ _ _ _ _ => (eIdx' (XO.b o) (vO 4) (O (cI 0))))) (ss_cons (setCmp 3 [("pair", 4)] hc nd (wS o (vE 1)) (fun _ _ _ _ _ => (gM (vs := [4]) (gN 4 nd) (by decide))) (fun _ _ _ _ _ => sts_nil) (fun _ _ _ _ _ => (eIdx' (XO.b o) (vO 4) (O (cI 1))))) (ss_cons (ss_if (tNot (tTru o (O (cB' (cs_all hc) T.n_all boot_all' (aC (O (cmp1 [("one", 5)] hc nd (wS o (bAdd o (vO 2) (vO 3))) (fun _ _ _ _ _ => (gM (vs := [5]) (gN 5 nd) (by decide))) (fun _ _ _ _ _ => sts_nil) (fun _ _ _ _ _ => (cF (P := P) h_is_from_to takes0 (XO.b o) hc T.g_is_from_to T.k_is_from_to T.b_is_from_to (aC (vO 5) (aC (O (cI 0)) (aC (O (bSub (XO.b o) (O (cGI 10 T.c_MOST_PERSONS)) (O (cI 1)))) sa_nil))))))) sa_nil))))) (ss_cons (ss_ret (cB false)) ss_nil) ss_nil) (ss_cons (ss_ret (eAnd o (eC1 (kEq o) (vO 2) (O (cT' (cs_list o.K) T.n_list boot_list' (aC (vO 0) sa_nil)))) (se_one (eC1 (kEq o) (O (cB' (cs_sortedA o.K) T.n_sorted boot_sorted' (aC (vO 3) sa_nil))) (O (cT' (cs_list o.K) T.n_list boot_list' (aC (vO 0) sa_nil))))))) ss_nil)))))
/-! ### blocks -/
theorem S_blocks : FnScope ["wishes", "outcome", "lot", "shared", "some", "person", "thing"] ["wishes", "outcome", "lot", "shared"] (defScope (top 31)) := ⟨rfl, rfl, rfl, by decide +kernel, rfl, by decide +kernel, by decide +kernel⟩
def b_blocks : FS := (sSeq (sExpr (eCallN 2 [] m_check_outcome (aCons (oVar 0) (aCons (oVar 1) aNil)))) (sSeq (sIf (tNotF (tTru' (oOf (eCallN 2 [] m_is_rising (aCons (oVar 2) (aCons (oOf (eCall lenF (aCons (oVar 0) aNil))) aNil)))))) (sSeq (sRaise 2 1 (aCons (oVar 2) aNil)) sSkip) sSkip) (sSeq (sIf (tNotF (tTru' (oOf (eCallN 2 [] m_is_sharing (aCons (oVar 2) (aCons (oVar 3) aNil)))))) (sSeq (sRet (eC (.bl false))) sSkip) sSkip) (sSeq (sSet [] 4 (eC (.bl false))) (sSeq (sFor (gTp 2 (gsCons (gNm 5) (gsCons (gNm 6) gsNil))) (wSeq (eVar 3)) (sSeq (sIf (tTru' (oOf (eCallN 4 [] m_likes_better (aCons (oVar 0) (aCons (oVar 5) (aCons (oVar 6) (aCons (oOf (eIdx (oVar 1) (oVar 5))) aNil))))))) (sSeq (sSet [] 4 (eC (.bl true))) sSkip) (sSeq (sIf (tCmp' neD (oVar 6) (oOf (eIdx (oVar 1) (oVar 5)))) (sSeq (sRet (eC (.bl false))) sSkip) sSkip) sSkip)) sSkip)) (sSeq (sRet (eMove 4)) sSkip))))))
def m_blocks : Mir := runF 7 [] b_blocks
theorem ok_blocks (T : Txt K mg) (h_check_outcome : Fn P w mg base T.G 6 T.a_check_outcome T.d_check_outcome ["wishes", "outcome"] [] m_check_outcome) (h_is_rising : Fn P w mg base T.G 4 T.a_is_rising T.d_is_rising ["value", "bound"] [] m_is_rising) (h_is_sharing : Fn P w mg base T.G 3 T.a_is_sharing T.d_is_sharing ["lot", "shared"] [] m_is_sharing) (h_likes_better : Fn P w mg base T.G 3 T.a_likes_better T.d_likes_better ["wishes", "person", "thing", "other"] [] m_likes_better) : Fn P w mg base T.G 7 T.a_blocks T.d_blocks ["wishes", "outcome", "lot", "shared"] [] m_blocks :=
  fnX (k := 6) T.F_blocks S_blocks fun cdv A ou s H E o hc nd tk po => (ss_cons (exps (cF (P := P) h_check_outcome tk o hc T.g_check_outcome T.k_check_outcome T.b_check_outcome (aC (vO 0) (aC (vO 1) sa_nil)))) (ss_cons (ss_if (tNot (tTru o (O (cF (P := P) h_is_rising tk o hc T.g_is_rising T.k_is_rising T.b_is_rising (aC (vO 2) (aC (O (cB' (cs_len o.K) T.n_len boot_len' (aC (vO 0) sa_nil))) sa_nil)))))) (ss_cons (raises tk o 2 hc (T.x_InvalidLot _ _ _) T.g_InvalidLot (aC (vO 2) sa_nil)) ss_nil) ss_nil) (ss_cons (ss_if (tNot (tTru o (O (cF (P := P) h_is_sharing tk o hc T.g_is_sharing T.k_is_sharing T.b_is_sharing (aC (vO 2) (aC (vO 3) sa_nil)))))) (ss_cons (ss_ret (cB false)) ss_nil) ss_nil) (ss_cons (sets 4 nd (cB false)) (ss_cons (fors po hc (wS o (vE 3)) (gT o hc (gC (gN 5 nd) (gC (gN 6 nd) sgs_nil))) (ss_cons (ss_if (tTru o (O (cF (P := P) h_likes_better tk o hc T.g_likes_better T.k_likes_better T.b_likes_better (aC (vO 0) (aC (vO 5) (aC (vO 6) (aC (O (eIdx' o (vO 1) (vO 5))) sa_nil))))))) (ss_cons (sets 4 nd (cB true)) ss_nil) (ss_cons (ss_if (tC1 (kNe o) (vO 6) (O (eIdx' o (vO 1) (vO 5)))) (ss_cons (ss_ret (cB false)) ss_nil) ss_nil) ss_nil)) ss_nil)) (ss_cons (ss_ret (vM 4)) ss_nil))))))
/-! ### blocking_lot -/
theorem S_blocking_lot : FnScope ["wishes", "outcome", "rings", "ring", "shared", "person", "thing"] ["wishes", "outcome"] (defScope (top 32)) := ⟨rfl, rfl, rfl, by decide +kernel, rfl, by decide +kernel, by decide +kernel⟩
def b_blocking_lot : FS := (sSeq (sExpr (eCallN 2 [] m_check_outcome (aCons (oVar 0) (aCons (oVar 1) aNil)))) (sSeq (sFor (gNm 2) (wSeq (eCallN 1 [] m_all_rounds (aCons (oVar 0) aNil))) (sSeq (sFor (gNm 3) (wSeq (eVar 2)) (sSeq (sSet [] 4 (eCallN 1 [] m_shared_in (aCons (oVar 3) aNil))) (sSeq (sIf (tTru' (oOf (eCall anyF (aCons (oOf (eCmp [5, 6] (wSeq (eVar 4)) (gTp 2 (gsCons (gNm 5) (gsCons (gNm 6) gsNil))) tYesF (eOfT (tCmp' neD (oOf (eIdx (oVar 1) (oVar 5))) (oVar 6))))) aNil)))) (sSeq (sRet (eTup (dCons (eCall tupF (aCons (oOf (eCall sortedAF (aCons (oVar 3) aNil))) aNil)) (dCons (eVar 4) dNil)))) sSkip) sSkip) sSkip))) sSkip)) (sSeq (sRet (eC .non)) sSkip)))
def m_blocking_lot : Mir := runF 7 [] b_blocking_lot
theorem ok_blocking_lot (T : Txt K mg) (h_all_rounds : Fn P w mg base T.G 3 T.a_all_rounds T.d_all_rounds ["wishes"] [] m_all_rounds) (h_check_outcome : Fn P w mg base T.G 6 T.a_check_outcome T.d_check_outcome ["wishes", "outcome"] [] m_check_outcome) (h_shared_in : Fn P w mg base T.G 1 T.a_shared_in T.d_shared_in ["ring"] [] m_shared_in) : Fn P w mg base T.G 7 T.a_blocking_lot T.d_blocking_lot ["wishes", "outcome"] [] m_blocking_lot :=
  fnX (k := 6) T.F_blocking_lot S_blocking_lot fun cdv A ou s H E o hc nd tk po => (ss_cons (exps (cF (P := P) h_check_outcome tk o hc T.g_check_outcome T.k_check_outcome T.b_check_outcome (aC (vO 0) (aC (vO 1) sa_nil)))) (ss_cons (fors po hc (wS o (cF (P := P) h_all_rounds tk o hc T.g_all_rounds T.k_all_rounds T.b_all_rounds (aC (vO 0) sa_nil))) (gN 2 nd) (ss_cons (fors po hc (wS o (vE 2)) (gN 3 nd) (ss_cons (sets 4 nd (cF (P := P) h_shared_in tk o hc T.g_shared_in T.k_shared_in T.b_shared_in (aC (vO 3) sa_nil))) (ss_cons (ss_if (tTru o (O (cB' (cs_any hc) T.n_any boot_any' (aC (O (cmp1 [("person", 5), ("thing", 6)] hc nd (wS o (vE 4)) (fun _ _ _ _ _ => (gM (vs := ([5] ++ ([6] ++ []))) (gT (XO.b o) hc (gC (gN 5 nd) (gC (gN 6 nd) sgs_nil))) (by decide))) (fun _ _ _ _ _ => sts_nil) (fun _ _ _ _ _ => (eC1 (kNe (XO.b o)) (O (eIdx' (XO.b o) (vO 1) (vO 5))) (vO 6))))) sa_nil)))) (ss_cons (ss_ret (se_tup (dC (cT' (cs_tuple o.K) T.n_tuple boot_tuple' (aC (O (cB' (cs_sortedA o.K) T.n_sorted boot_sorted' (aC (vO 3) sa_nil))) sa_nil)) (dC (vE 4) sd_nil)))) ss_nil) ss_nil) ss_nil))) ss_nil)) (ss_cons (ss_ret cN) ss_nil)))
/-! ### _law_stir -/
theorem S__law_stir : FnScope ["pot", "cell", "turn", "mixed"] ["pot", "cell"] (defScope (top 34)) := ⟨rfl, rfl, rfl, by decide +kernel, rfl, by decide +kernel, by decide +kernel⟩
def b__law_stir : FS := (sSeq (sFor (gNm 2) (wRng1 (oOf (eC (.int 2)))) (sSeq (sSet [0] 3 (eBin modD (oOf (eCall intF (aCons (oOf (eBin addD (oOf (eBin addD (oOf (eBin addD (oOf (eAt 0 0)) (oOf (eBin mulD (oVar 1) (oOf (eC (.int 2))))))) (oVar 2))) (oOf (eC (.int 1))))) aNil))) (oOf (eC (.int 1000000000000000003))))) (sSeq (sPut 0 (oOf (eC (.int 0))) (eBin modD (oOf (eCall intF (aCons (oOf (eBin addD (oOf (eBin mulD (oVar 3) (oVar 3))) (oOf (eC (.int 1442695040888963407))))) aNil))) (oOf (eC (.int 1000000000000000003))))) sSkip))) sSkip)
def m__law_stir : Mir := runF 4 [0] b__law_stir
theorem ok__law_stir (T : Txt K mg) : Fn P w mg base T.G 1 T.a__law_stir T.d__law_stir ["pot", "cell"] [0] m__law_stir :=
  fnX (k := 0) T.F__law_stir S__law_stir fun cdv A ou s H E o hc nd tk po => (ss_cons (fors po hc (wR1 T.n_range (O (cI 2))) (gN 2 nd) (ss_cons (sets 3 nd (bMod o (O (cT' (cs_int) T.n_int boot_int' (aC (O (bAdd o (O (bAdd o (O (bAdd o (O (atN 0 0)) (O (bMul o (vO 1) (O (cI 2)))))) (vO 2))) (O (cI 1)))) sa_nil))) (O (cI 1000000000000000003)))) (ss_cons (puts 0 o (O (cI 0)) (bMod o (O (cT' (cs_int) T.n_int boot_int' (aC (O (bAdd o (O (bMul o (vO 3) (vO 3))) (O (cI 1442695040888963407)))) sa_nil))) (O (cI 1000000000000000003)))) ss_nil))) ss_nil)
/-! ### _law_pot -/
theorem S__law_pot : FnScope ["script", "pot", "cell"] ["script"] (defScope (top 35)) := ⟨rfl, rfl, rfl, by decide +kernel, rfl, by decide +kernel, by decide +kernel⟩
def b__law_pot : FS := (sSeq (sSet [] 1 (eLst (mCons (eC (.int 314159265358979323)) (mCons (eLst mNil) mNil)))) (sSeq (sFor (gNm 2) (wSeq (eSlc (oVar 0) iNone (iSome (oOf (eC (.int 63)))))) (sSeq (sExpr (eCallN 2 [0] m__law_stir (aCons (oVar 1) (aCons (oVar 2) aNil)))) (sSeq (sIf (tCmp' geD (oVar 2) (oOf (eC (.int 1000000000000000000)))) (sSeq (sExpr (eAppN 1 1 2)) sSkip) sSkip) sSkip))) (sSeq (sRet (eMove 1)) sSkip)))
def m__law_pot : Mir := runF 3 [] b__law_pot
theorem ok__law_pot (T : Txt K mg) (h__law_stir : Fn P w mg base T.G 1 T.a__law_stir T.d__law_stir ["pot", "cell"] [0] m__law_stir) : Fn P w mg base T.G 2 T.a__law_pot T.d__law_pot ["script"] [] m__law_pot :=
  fnX (k := 1) T.F__law_pot S__law_pot fun cdv A ou s H E o hc nd tk po => (ss_cons (sets 1 nd (se_lst (mC (cI 314159265358979323) (mC (se_lst sm_nil) sm_nil)))) (ss_cons (fors po hc (wS o (eSlc' o (vO 0) si_none (si_some (O (cI 63))))) (gN 2 nd) (ss_cons (exps (cF (P := P) h__law_stir tk o hc T.g__law_stir T.k__law_stir T.b__law_stir (aC (vO 1) (aC (vO 2) sa_nil)))) (ss_cons (ss_if (tC1 (kGe o) (vO 2) (O (cI 1000000000000000000))) (ss_cons (exps (appN 1 1 2)) ss_nil) ss_nil) ss_nil))) (ss_cons (ss_ret (vM 1)) ss_nil)))
/-! ### _law_draw -/
theorem S__law_draw : FnScope ["pot", "many", "cell"] ["pot", "many"] (defScope (top 36)) := ⟨rfl, rfl, rfl, by decide +kernel, rfl, by decide +kernel, by decide +kernel⟩
def b__law_draw : FS := (sSeq (sIf (tTruN 0 1) (sSeq (sSet [0] 2 (eAt2 0 1 0)) (sSeq (sPutN 0 1 0 (eBin divD (oVar 2) (oVar 1))) (sSeq (sIf (tCmp' eqD (oOf (eAt2 0 1 0)) (oOf (eC (.int 0)))) (sSeq (sExpr (ePopN 0 1)) sSkip) sSkip) (sSeq (sRet (eBin modD (oOf (eCall intF (aCons (oVar 2) aNil))) (oVar 1))) sSkip)))) sSkip) (sSeq (sExpr (eCallN 2 [0] m__law_stir (aCons (oVar 0) (aCons (oVar 1) aNil)))) (sSeq (sRet (eBin modD (oOf (eCall intF (aCons (oOf (eBin divD (oOf (eAt 0 0)) (oOf (eC (.int 1009))))) aNil))) (oVar 1))) sSkip)))
def m__law_draw : Mir := runF 3 [0] b__law_draw
theorem ok__law_draw (T : Txt K mg) (h__law_stir : Fn P w mg base T.G 1 T.a__law_stir T.d__law_stir ["pot", "cell"] [0] m__law_stir) : Fn P w mg base T.G 2 T.a__law_draw T.d__law_draw ["pot", "many"] [0] m__law_draw :=
  fnX (k := 1) T.F__law_draw S__law_draw fun cdv A ou s H E o hc nd tk po => (ss_cons (ss_if (truN o 0 1) (ss_cons (sets 2 nd (at2 0 1 0)) (ss_cons (putN 0 1 0 (bDiv o (vO 2) (vO 1))) (ss_cons (ss_if (tC1 (kEq o) (O (at2 0 1 0)) (O (cI 0))) (ss_cons (exps (popN 0 1)) ss_nil) ss_nil) (ss_cons (ss_ret (bMod o (O (cT' (cs_int) T.n_int boot_int' (aC (vO 2) sa_nil))) (vO 1))) ss_nil)))) ss_nil) (ss_cons (exps (cF (P := P) h__law_stir tk o hc T.g__law_stir T.k__law_stir T.b__law_stir (aC (vO 0) (aC (vO 1) sa_nil)))) (ss_cons (ss_ret (bMod o (O (cT' (cs_int) T.n_int boot_int' (aC (O (bDiv o (O (atN 0 0)) (O (cI 1009)))) sa_nil))) (vO 1))) ss_nil)))
/-! ### _law_alike -/
theorem S__law_alike : FnScope ["answer", "due", "k"] ["answer", "due"] (defScope (top 37)) := ⟨rfl, rfl, rfl, by decide +kernel, rfl, by decide +kernel, by decide +kernel⟩
def b__law_alike (m__law_alike : Nat → Mir) (n : Nat) : FS := (sSeq (sIf (tCmp' isD (oVar 1) (oOf (eC .non))) (sSeq (sRet (eOfT (tCmp' isD (oVar 0) (oOf (eC .non))))) sSkip) sSkip) (sSeq (sIf (tCmp' isD (oVar 1) (oOf (eC (.bl true)))) (sSeq (sRet (eOfT (tCmp' isD (oVar 0) (oOf (eC (.bl true)))))) sSkip) sSkip) (sSeq (sIf (tCmp' isD (oVar 1) (oOf (eC (.bl false)))) (sSeq (sRet (eOfT (tCmp' isD (oVar 0) (oOf (eC (.bl false)))))) sSkip) sSkip) (sSeq (sIf (tTru' (oOf (eIsi [.tup] (oVar 1)))) (sSeq (sIf (tOrF (tNotF (tTru' (oOf (eIsi [.tup] (oVar 0))))) (tCmp' neD (oOf (eCall lenF (aCons (oVar 0) aNil))) (oOf (eCall lenF (aCons (oVar 1) aNil))))) (sSeq (sRet (eC (.bl false))) sSkip) sSkip) (sSeq (sFor (gNm 2) (wRng1 (oOf (eCall lenF (aCons (oVar 1) aNil)))) (sSeq (sIf (tNotF (tTru' (oOf (eCallN 2 [] (m__law_alike n) (aCons (oOf (eIdx (oVar 0) (oVar 2))) (aCons (oOf (eIdx (oVar 1) (oVar 2))) aNil)))))) (sSeq (sRet (eC (.bl false))) sSkip) sSkip) sSkip)) (sSeq (sRet (eC (.bl true))) sSkip))) sSkip) (sSeq (sIf (tTru' (oOf (eIsi [.str] (oVar 1)))) (sSeq (sRet (eAndF (eIsi [.str] (oVar 0)) (eOfT (tCmp' eqD (oVar 0) (oVar 1))))) sSkip) sSkip) (sSeq (sRet (eAndF (eIsi [.int] (oVar 0)) (eAndF (eNotF (oOf (eIsi [.bool] (oVar 0)))) (eOfT (tCmp' eqD (oVar 0) (oVar 1)))))) sSkip))))))
def m__law_alike : Nat → Mir
  | 0 => fun _ => .bad
  | n + 1 => runF 3 [] (b__law_alike (fun _ => m__law_alike n) n)
theorem ok__law_alike (T : Txt K mg) : ∀ n, Fn P w mg base T.G (1 + n) T.a__law_alike T.d__law_alike ["answer", "due"] [] (m__law_alike n)
  | 0 => Fn.bad
  | n + 1 => by
    have h__law_alike := ok__law_alike T n
    exact fnX (k := 1 + n) T.F__law_alike S__law_alike fun cdv A ou s H E o hc nd tk po => (ss_cons (ss_if (tC1 (kIs o) (vO 1) (O cN)) (ss_cons (ss_ret (eC1 (kIs o) (vO 0) (O cN))) ss_nil) ss_nil) (ss_cons (ss_if (tC1 (kIs o) (vO 1) (O (cB true))) (ss_cons (ss_ret (eC1 (kIs o) (vO 0) (O (cB true)))) ss_nil) ss_nil) (ss_cons (ss_if (tC1 (kIs o) (vO 1) (O (cB false))) (ss_cons (ss_ret (eC1 (kIs o) (vO 0) (O (cB false)))) ss_nil) ss_nil) (ss_cons (ss_if (tTru o (O (isi .tup o (vO 1) T.n_isinstance T.n_tuple boot_tuple'))) (ss_cons (ss_if (L2.PW.pt (sw_or (tNot (tTru o (O (isi .tup o (vO 0) T.n_isinstance T.n_tuple boot_tuple')))) (sw_one' (tC1 (kNe o) (O (cB' (cs_len o.K) T.n_len boot_len' (aC (vO 0) sa_nil))) (O (cB' (cs_len o.K) T.n_len boot_len' (aC (vO 1) sa_nil))))))) (ss_cons (ss_ret (cB false)) ss_nil) ss_nil) (ss_cons (fors po hc (wR1 T.n_range (O (cB' (cs_len o.K) T.n_len boot_len' (aC (vO 1) sa_nil)))) (gN 2 nd) (ss_cons (ss_if (tNot (tTru o (O (cF (P := P) (hle := Nat.le_refl _) h__law_alike tk o hc T.g__law_alike T.k__law_alike T.b__law_alike (aC (O (eIdx' o (vO 0) (vO 2))) (aC (O (eIdx' o (vO 1) (vO 2))) sa_nil)))))) (ss_cons (ss_ret (cB false)) ss_nil) ss_nil) ss_nil)) (ss_cons (ss_ret (cB true)) ss_nil))) ss_nil) (ss_cons (ss_if (tTru o (O (isi .str o (vO 1) T.n_isinstance T.n_str boot_str'))) (ss_cons (ss_ret (eAnd o (isi .str o (vO 0) T.n_isinstance T.n_str boot_str') (se_one (eC1 (kEq o) (vO 0) (vO 1))))) ss_nil) ss_nil) (ss_cons (ss_ret (eAnd o (isi .int o (vO 0) T.n_isinstance T.n_int boot_int') (eAnd o (eNot o (O (isi .bool o (vO 0) T.n_isinstance T.n_bool boot_bool'))) (se_one (eC1 (kEq o) (vO 0) (vO 1)))))) ss_nil))))))
/-! ### _law_error -/
theorem S__law_error : FnScope ["e", "told"] ["e"] (defScope (top 38)) := ⟨rfl, rfl, rfl, by decide +kernel, rfl, by decide +kernel, by decide +kernel⟩
def b__law_error (ad d : Addr) (cc : Nat) : FS := (sSeq (sSet [] 1 (eLst mNil)) (sSeq (sIf (tTru' (oOf (eIsE ad d cc (subT cc 3)))) (sSeq (sExpr (eApp 1 (eTup (dCons (eC (.str "InvalidTable")) (dCons (eCall reprF (aCons (oOf (eFldE ad d cc (fldT cc) "value")) aNil)) dNil))))) sSkip) sSkip) (sSeq (sIf (tTru' (oOf (eIsE ad d cc (subT cc 2)))) (sSeq (sExpr (eApp 1 (eTup (dCons (eC (.str "InvalidLot")) (dCons (eCall reprF (aCons (oOf (eFldE ad d cc (fldT cc) "value")) aNil)) dNil))))) sSkip) sSkip) (sSeq (sIf (tTru' (oOf (eIsE ad d cc (subT cc 1)))) (sSeq (sExpr (eApp 1 (eTup (dCons (eC (.str "InvalidNumber")) (dCons (eCall reprF (aCons (oOf (eFldE ad d cc (fldT cc) "value")) aNil)) dNil))))) sSkip) sSkip) (sSeq (sIf (tTru' (oOf (eIsE ad d cc (subT cc 4)))) (sSeq (sExpr (eApp 1 (eTup (dCons (eC (.str "TooMany")) (dCons (eCall reprF (aCons (oOf (eFldE ad d cc (fldT cc) "what")) aNil)) dNil))))) sSkip) sSkip) (sSeq (sIf (tCmp' neD (oOf (eCall lenF (aCons (oVar 1) aNil))) (oOf (eC (.int 1)))) (sSeq (sRet (eTup (dCons (eC (.str "unclear")) (dCons (eCall strF (aCons (oOf (eCall lenF (aCons (oVar 1) aNil))) aNil)) dNil)))) sSkip) sSkip) (sSeq (sRet (eIdx (oVar 1) (oOf (eC (.int 0))))) sSkip)))))))
def m__law_error : Nat → List D → Option D
  | 1, [x] => (reprF [x]).map fun m => .tup [.str "InvalidNumber", frz m]
  | 2, [x] => (reprF [x]).map fun m => .tup [.str "InvalidLot", frz m]
  | 3, [x] => (reprF [x]).map fun m => .tup [.str "InvalidTable", frz m]
  | 4, [x] => (reprF [x]).map fun m => .tup [.str "TooMany", frz m]
  | _, _ => none
theorem lk (z : Str) (x : D) (l : List (Str × D)) : List.lookup z ((z, x) :: l) = some x := by simp [List.lookup]
theorem mir__law_error : ∀ c fs m, m__law_error c fs = some m → ∀ a d, ∃ m' env', b__law_error a d c (some (.im (.exn a d c fs)) :: List.replicate (2 - 1) none) = .ok (.rt m', env') ∧ frz m' = m := by
  intro c fs m h a d
  unfold m__law_error at h
  split at h
  case h_5 => cases h
  case h_1 x =>
    cases hr : reprF [x] with
    | none => rw [hr] at h; cases h
    | some mm =>
      rw [hr] at h
      cases h
      refine ⟨.im (.tup [.str "InvalidNumber", frz mm]), [some (.im (.exn a d 1 [x])), some (.ls [.im (.tup [.str "InvalidNumber", frz mm])])], ?_, rfl⟩
      simp [b__law_error, sSeq, sSet, sIf, sExpr, sSkip, sRet, eLst, mNil, tTru', oOf, eIsE, exAt, Eng.res, truD, eApp, eTup, dCons, dNil, eC, eCall, aCons, aNil, eFldE, fldT, lk, Eng.resAll, hr, tCmp', two, oVar, flat, ims, lenF, neD, eqD, eIdx, idxD, subT, Rs.of, frz, L2.atI, L2.ixN, sizeLine_eq]
  case h_2 x =>
    cases hr : reprF [x] with
    | none => rw [hr] at h; cases h
    | some mm =>
      rw [hr] at h
      cases h
      refine ⟨.im (.tup [.str "InvalidLot", frz mm]), [some (.im (.exn a d 2 [x])), some (.ls [.im (.tup [.str "InvalidLot", frz mm])])], ?_, rfl⟩
      simp [b__law_error, sSeq, sSet, sIf, sExpr, sSkip, sRet, eLst, mNil, tTru', oOf, eIsE, exAt, Eng.res, truD, eApp, eTup, dCons, dNil, eC, eCall, aCons, aNil, eFldE, fldT, lk, Eng.resAll, hr, tCmp', two, oVar, flat, ims, lenF, neD, eqD, eIdx, idxD, subT, Rs.of, frz, L2.atI, L2.ixN, sizeLine_eq]
  case h_3 x =>
    cases hr : reprF [x] with
    | none => rw [hr] at h; cases h
    | some mm =>
      rw [hr] at h
      cases h
      refine ⟨.im (.tup [.str "InvalidTable", frz mm]), [some (.im (.exn a d 3 [x])), some (.ls [.im (.tup [.str "InvalidTable", frz mm])])], ?_, rfl⟩
      simp [b__law_error, sSeq, sSet, sIf, sExpr, sSkip, sRet, eLst, mNil, tTru', oOf, eIsE, exAt, Eng.res, truD, eApp, eTup, dCons, dNil, eC, eCall, aCons, aNil, eFldE, fldT, lk, Eng.resAll, hr, tCmp', two, oVar, flat, ims, lenF, neD, eqD, eIdx, idxD, subT, Rs.of, frz, L2.atI, L2.ixN, sizeLine_eq]
  case h_4 x =>
    cases hr : reprF [x] with
    | none => rw [hr] at h; cases h
    | some mm =>
      rw [hr] at h
      cases h
      refine ⟨.im (.tup [.str "TooMany", frz mm]), [some (.im (.exn a d 4 [x])), some (.ls [.im (.tup [.str "TooMany", frz mm])])], ?_, rfl⟩
      simp [b__law_error, sSeq, sSet, sIf, sExpr, sSkip, sRet, eLst, mNil, tTru', oOf, eIsE, exAt, Eng.res, truD, eApp, eTup, dCons, dNil, eC, eCall, aCons, aNil, eFldE, fldT, lk, Eng.resAll, hr, tCmp', two, oVar, flat, ims, lenF, neD, eqD, eIdx, idxD, subT, Rs.of, frz, L2.atI, L2.ixN, sizeLine_eq]
theorem ok__law_error (T : Txt K mg) : FnE P w mg base T.G 5 1 T.a__law_error T.d__law_error "e" m__law_error :=
  fnXE (k := 0) T.F__law_error S__law_error mir__law_error fun cdv A ou s H E ad d cc oe o nd hh => (ss_cons (sets 1 nd (se_lst sm_nil)) (ss_cons (ss_if (tTru o (O (isE 3 o T.ecs hh T.n_isinstance T.g_InvalidTable))) (ss_cons (exps (app 1 (se_tup (dC (cS "InvalidTable") (dC (cB' (cs_repr o.K o.r.gd o.u) T.n_repr boot_repr' (aC (O (fldE (fl := "value") o T.ecs hh)) sa_nil)) sd_nil))))) ss_nil) ss_nil) (ss_cons (ss_if (tTru o (O (isE 2 o T.ecs hh T.n_isinstance T.g_InvalidLot))) (ss_cons (exps (app 1 (se_tup (dC (cS "InvalidLot") (dC (cB' (cs_repr o.K o.r.gd o.u) T.n_repr boot_repr' (aC (O (fldE (fl := "value") o T.ecs hh)) sa_nil)) sd_nil))))) ss_nil) ss_nil) (ss_cons (ss_if (tTru o (O (isE 1 o T.ecs hh T.n_isinstance T.g_InvalidNumber))) (ss_cons (exps (app 1 (se_tup (dC (cS "InvalidNumber") (dC (cB' (cs_repr o.K o.r.gd o.u) T.n_repr boot_repr' (aC (O (fldE (fl := "value") o T.ecs hh)) sa_nil)) sd_nil))))) ss_nil) ss_nil) (ss_cons (ss_if (tTru o (O (isE 4 o T.ecs hh T.n_isinstance T.g_TooMany))) (ss_cons (exps (app 1 (se_tup (dC (cS "TooMany") (dC (cB' (cs_repr o.K o.r.gd o.u) T.n_repr boot_repr' (aC (O (fldE (fl := "what") o T.ecs hh)) sa_nil)) sd_nil))))) ss_nil) ss_nil) (ss_cons (ss_if (tC1 (kNe o) (O (cB' (cs_len o.K) T.n_len boot_len' (aC (vO 1) sa_nil))) (O (cI 1))) (ss_cons (ss_ret (se_tup (dC (cS "unclear") (dC (cT' (cs_str) T.n_str boot_str' (aC (O (cB' (cs_len o.K) T.n_len boot_len' (aC (vO 1) sa_nil))) sa_nil)) sd_nil)))) ss_nil) ss_nil) (ss_cons (ss_ret (eIdx' o (vO 1) (O (cI 0)))) ss_nil)))))))
/-! ### _law_shuffled -/
theorem S__law_shuffled : FnScope ["pot", "many", "rest", "row", "k"] ["pot", "many"] (defScope (top 39)) := ⟨rfl, rfl, rfl, by decide +kernel, rfl, by decide +kernel, by decide +kernel⟩
def b__law_shuffled : FS := (sSeq (sSet [0] 2 (eLRg (rRng1 (oVar 1)))) (sSeq (sSet [0] 3 (eLst mNil)) (sSeq (sFor (gNm 4) (wRng1 (oVar 1)) (sSeq (sExpr (eApp 3 (ePop 2 (eCallN 2 [0] m__law_draw (aCons (oVar 0) (aCons (oOf (eCall lenF (aCons (oVar 2) aNil))) aNil)))))) sSkip)) (sSeq (sRet (eMove 3)) sSkip))))
def m__law_shuffled : Mir := runF 5 [0] b__law_shuffled
theorem ok__law_shuffled (T : Txt K mg) (h__law_draw : Fn P w mg base T.G 2 T.a__law_draw T.d__law_draw ["pot", "many"] [0] m__law_draw) : Fn P w mg base T.G 3 T.a__law_shuffled T.d__law_shuffled ["pot", "many"] [0] m__law_shuffled :=
  fnX (k := 2) T.F__law_shuffled S__law_shuffled fun cdv A ou s H E o hc nd tk po => (ss_cons (sets 2 nd (lRg hc T.n_list (rg1 T.n_range (vO 1)))) (ss_cons (sets 3 nd (se_lst sm_nil)) (ss_cons (fors po hc (wR1 T.n_range (vO 1)) (gN 4 nd) (ss_cons (exps (app 3 (pop 2 (cF (P := P) h__law_draw tk o hc T.g__law_draw T.k__law_draw T.b__law_draw (aC (vO 0) (aC (O (cB' (cs_len o.K) T.n_len boot_len' (aC (vO 2) sa_nil))) sa_nil)))))) ss_nil)) (ss_cons (ss_ret (vM 3)) ss_nil))))
/-! ### _law_rows -/
theorem S__law_rows : FnScope ["pot", "many", "common", "turn", "style", "rows", "k", "way", "row", "first", "one"] ["pot", "many"] (defScope (top 40)) := ⟨rfl, rfl, rfl, by decide +kernel, rfl, by decide +kernel, by decide +kernel⟩
def b__law_rows : FS := (sSeq (sSet [0] 2 (eCallN 2 [0] m__law_shuffled (aCons (oVar 0) (aCons (oVar 1) aNil)))) (sSeq (sSet [0] 3 (eBin addD (oOf (eC (.int 1))) (oOf (eCallN 2 [0] m__law_draw (aCons (oVar 0) (aCons (oVar 1) aNil)))))) (sSeq (sSet [0] 4 (eCallN 2 [0] m__law_draw (aCons (oVar 0) (aCons (oOf (eC (.int 6))) aNil)))) (sSeq (sSet [0] 5 (eLst mNil)) (sSeq (sFor (gNm 6) (wRng1 (oVar 1)) (sSeq (sSet [0] 7 (eVar 4)) (sSeq (sIf (tCmp' eqD (oVar 4) (oOf (eC (.int 5)))) (sSeq (sSet [0] 7 (eCallN 2 [0] m__law_draw (aCons (oVar 0) (aCons (oOf (eC (.int 5))) aNil)))) sSkip) sSkip) (sSeq (sSet [0] 8 (eCallN 2 [0] m__law_shuffled (aCons (oVar 0) (aCons (oVar 1) aNil)))) (sSeq (sIf (tCmp' eqD (oVar 7) (oOf (eC (.int 0)))) (sSeq (sSet [0] 8 (eSlc (oVar 8) iNone (iSome (oOf (eCallN 2 [0] m__law_draw (aCons (oVar 0) (aCons (oOf (eBin addD (oVar 1) (oOf (eC (.int 1))))) aNil))))))) sSkip) (sSeq (sIf (tCmp' eqD (oVar 7) (oOf (eC (.int 1)))) (sSeq (sSet [0] 8 (eSlc (oVar 8) iNone (iSome (oOf (eCallN 2 [0] m__law_draw (aCons (oVar 0) (aCons (oOf (eC (.int 3))) aNil))))))) sSkip) (sSeq (sIf (tCmp' eqD (oVar 7) (oOf (eC (.int 2)))) (sSeq (sSet [0] 8 (eSlc (oVar 2) iNone (iSome (oOf (eCall maxF (aCons (oOf (eC (.int 1))) (aCons (oOf (eBin subD (oVar 1) (oOf (eCallN 2 [0] m__law_draw (aCons (oVar 0) (aCons (oOf (eC (.int 3))) aNil)))))) aNil))))))) sSkip) (sSeq (sIf (tCmp' eqD (oVar 7) (oOf (eC (.int 3)))) (sSeq (sSet [0] 9 (eBin modD (oOf (eCall intF (aCons (oOf (eBin addD (oVar 6) (oVar 3))) aNil))) (oVar 1))) (sSeq (sSet [0] 8 (eBin addD (oOf (eLst (mCons (eVar 9) mNil))) (oOf (eSlc (oOf (eCmp [10] (wSeq (eVar 8)) (gNm 10) (tCmp' neD (oVar 10) (oVar 9)) (eVar 10))) iNone (iSome (oOf (eCallN 2 [0] m__law_draw (aCons (oVar 0) (aCons (oVar 1) aNil))))))))) sSkip)) (sSeq (sSet [0] 8 (eCmp [10] (wSeq (eVar 8)) (gNm 10) (tCmp' neD (oVar 10) (oVar 6)) (eVar 10))) sSkip)) sSkip)) sSkip)) sSkip)) (sSeq (sExpr (eApp 5 (eCall tupF (aCons (oVar 8) aNil)))) sSkip)))))) (sSeq (sRet (eCall tupF (aCons (oVar 5) aNil))) sSkip))))))
def m__law_rows : Mir := runF 11 [0] b__law_rows
theorem ok__law_rows (T : Txt K mg) (h__law_draw : Fn P w mg base T.G 2 T.a__law_draw T.d__law_draw ["pot", "many"] [0] m__law_draw) (h__law_shuffled : Fn P w mg base T.G 3 T.a__law_shuffled T.d__law_shuffled ["pot", "many"] [0] m__law_shuffled) : Fn P w mg base T.G 4 T.a__law_rows T.d__law_rows ["pot", "many"] [0] m__law_rows :=
  fnX (k := 3) T.F__law_rows S__law_rows fun cdv A ou s H E o hc nd tk po => (ss_cons (sets 2 nd (cF (P := P) h__law_shuffled tk o hc T.g__law_shuffled T.k__law_shuffled T.b__law_shuffled (aC (vO 0) (aC (vO 1) sa_nil)))) (ss_cons (sets 3 nd (bAdd o (O (cI 1)) (O (cF (P := P) h__law_draw tk o hc T.g__law_draw T.k__law_draw T.b__law_draw (aC (vO 0) (aC (vO 1) sa_nil)))))) (ss_cons (sets 4 nd (cF (P := P) h__law_draw tk o hc T.g__law_draw T.k__law_draw T.b__law_draw (aC (vO 0) (aC (O (cI 6)) sa_nil)))) (ss_cons (sets 5 nd (se_lst sm_nil)) (ss_cons (fors po hc (wR1 T.n_range (vO 1)) (gN 6 nd) (ss_cons (sets 7 nd (vE 4)) (ss_cons (ss_if (tC1 (kEq o) (vO 4) (O (cI 5))) (ss_cons (sets 7 nd (cF (P := P) h__law_draw tk o hc T.g__law_draw T.k__law_draw T.b__law_draw (aC (vO 0) (aC (O (cI 5)) sa_nil)))) ss_nil) ss_nil) (ss_cons (sets 8 nd (cF (P := P) h__law_shuffled tk o hc T.g__law_shuffled T.k__law_shuffled T.b__law_shuffled (aC (vO 0) (aC (vO 1) sa_nil)))) (ss_cons (ss_if (tC1 (kEq o) (vO 7) (O (cI 0))) (ss_cons (sets 8 nd (eSlc' o (vO 8) si_none (si_some (O (cF (P := P) h__law_draw tk o hc T.g__law_draw T.k__law_draw T.b__law_draw (aC (vO 0) (aC (O (bAdd o (vO 1) (O (cI 1)))) sa_nil))))))) ss_nil) (ss_cons (ss_if (tC1 (kEq o) (vO 7) (O (cI 1))) (ss_cons (sets 8 nd (eSlc' o (vO 8) si_none (si_some (O (cF (P := P) h__law_draw tk o hc T.g__law_draw T.k__law_draw T.b__law_draw (aC (vO 0) (aC (O (cI 3)) sa_nil))))))) ss_nil) (ss_cons (ss_if (tC1 (kEq o) (vO 7) (O (cI 2))) (ss_cons (sets 8 nd (eSlc' o (vO 2) si_none (si_some (O (cB' (cs_max o.K hc o.u) T.n_max boot_max' (aC (O (cI 1)) (aC (O (bSub o (vO 1) (O (cF (P := P) h__law_draw tk o hc T.g__law_draw T.k__law_draw T.b__law_draw (aC (vO 0) (aC (O (cI 3)) sa_nil)))))) sa_nil))))))) ss_nil) (ss_cons (ss_if (tC1 (kEq o) (vO 7) (O (cI 3))) (ss_cons (sets 9 nd (bMod o (O (cT' (cs_int) T.n_int boot_int' (aC (O (bAdd o (vO 6) (vO 3))) sa_nil))) (vO 1))) (ss_cons (sets 8 nd (bAdd o (O (se_lst (mC (vE 9) sm_nil))) (O (eSlc' o (O (cmp1 [("one", 10)] hc nd (wS o (vE 8)) (fun _ _ _ _ _ => (gM (vs := [10]) (gN 10 nd) (by decide))) (fun _ _ _ _ _ => (sts_one (tC1 (kNe (XO.b o)) (vO 10) (vO 9)))) (fun _ _ _ _ _ => (vE 10)))) si_none (si_some (O (cF (P := P) h__law_draw tk o hc T.g__law_draw T.k__law_draw T.b__law_draw (aC (vO 0) (aC (vO 1) sa_nil))))))))) ss_nil)) (ss_cons (setCmp 8 [("one", 10)] hc nd (wS o (vE 8)) (fun _ _ _ _ _ => (gM (vs := [10]) (gN 10 nd) (by decide))) (fun _ _ _ _ _ => (sts_one (tC1 (kNe (XO.b o)) (vO 10) (vO 6)))) (fun _ _ _ _ _ => (vE 10))) ss_nil)) ss_nil)) ss_nil)) ss_nil)) (ss_cons (exps (app 5 (cT' (cs_tuple o.K) T.n_tuple boot_tuple' (aC (vO 8) sa_nil)))) ss_nil)))))) (ss_cons (ss_ret (cT' (cs_tuple o.K) T.n_tuple boot_tuple' (aC (vO 5) sa_nil))) ss_nil))))))
/-! ### _law_rounds -/
theorem S__law_rounds : FnScope ["rows", "there", "told", "turn", "points", "k", "named", "rings", "ring", "step", "after", "one"] ["rows"] (defScope (top 41)) := ⟨rfl, rfl, rfl, by decide +kernel, rfl, by decide +kernel, by decide +kernel⟩
def b__law_rounds : FS := (sSeq (sSet [] 1 (eLRg (rRng1 (oOf (eCall lenF (aCons (oVar 0) aNil)))))) (sSeq (sSet [] 2 (eLst mNil)) (sSeq (sFor (gNm 3) (wRng1 (oOf (eCall lenF (aCons (oVar 0) aNil)))) (sSeq (sIf (tNotF (tTru' (oVar 1))) (sSeq sBreak sSkip) sSkip) (sSeq (sSet [] 4 (eLRg (rRng1 (oOf (eCall lenF (aCons (oVar 0) aNil)))))) (sSeq (sFor (gNm 5) (wSeq (eVar 1)) (sSeq (sSet [] 6 (eCmp [11] (wSeq (eIdx (oVar 0) (oVar 5))) (gNm 11) (tCmp' inD (oVar 11) (oVar 1)) (eVar 11))) (sSeq (sIf (tTru' (oVar 6)) (sSeq (sPut 4 (oVar 5) (eIdx (oVar 6) (oOf (eC (.int 0))))) sSkip) sSkip) sSkip))) (sSeq (sSet [] 7 (eLst mNil)) (sSeq (sFor (gNm 5) (wSeq (eVar 1)) (sSeq (sSet [] 8 (eLst (mCons (eVar 5) mNil))) (sSeq (sFor (gNm 9) (wRng1 (oOf (eCall lenF (aCons (oVar 1) aNil)))) (sSeq (sSet [] 10 (eIdx (oVar 4) (oOf (eIdx (oVar 8) (oOf (eNegF (oOf (eC (.int 1))))))))) (sSeq (sIf (tCmp' eqD (oVar 10) (oVar 5)) (sSeq sBreak sSkip) sSkip) (sSeq (sExpr (eApp 8 (eVar 10))) sSkip)))) (sSeq (sIf (tAndF (tCmp' eqD (oOf (eIdx (oVar 4) (oOf (eIdx (oVar 8) (oOf (eNegF (oOf (eC (.int 1))))))))) (oVar 5)) (tCmp' eqD (oOf (eCall minF (aCons (oVar 8) aNil))) (oVar 5))) (sSeq (sExpr (eApp 7 (eCall tupF (aCons (oVar 8) aNil)))) sSkip) sSkip) sSkip)))) (sSeq (sExpr (eApp 2 (eCall tupF (aCons (oVar 7) aNil)))) (sSeq (sFor (gNm 8) (wSeq (eVar 7)) (sSeq (sSet [] 1 (eCmp [5] (wSeq (eVar 1)) (gNm 5) (tCmp' ninD (oVar 5) (oVar 8)) (eVar 5))) sSkip)) sSkip)))))))) (sSeq (sRet (eCall tupF (aCons (oVar 2) aNil))) sSkip))))
def m__law_rounds : Mir := runF 12 [] b__law_rounds
theorem ok__law_rounds (T : Txt K mg) : Fn P w mg base T.G 1 T.a__law_rounds T.d__law_rounds ["rows"] [] m__law_rounds :=
  fnX (k := 0) T.F__law_rounds S__law_rounds fun cdv A ou s H E o hc nd tk po => (ss_cons (sets 1 nd (lRg hc T.n_list (rg1 T.n_range (O (cB' (cs_len o.K) T.n_len boot_len' (aC (vO 0) sa_nil)))))) (ss_cons (sets 2 nd (se_lst sm_nil)) (ss_cons (fors po hc (wR1 T.n_range (O (cB' (cs_len o.K) T.n_len boot_len' (aC (vO 0) sa_nil)))) (gN 3 nd) (ss_cons (ss_if (tNot (tTru o (vO 1))) (ss_cons ss_break ss_nil) ss_nil) (ss_cons (sets 4 nd (lRg hc T.n_list (rg1 T.n_range (O (cB' (cs_len o.K) T.n_len boot_len' (aC (vO 0) sa_nil)))))) (ss_cons (fors po hc (wS o (vE 1)) (gN 5 nd) (ss_cons (setCmp 6 [("one", 11)] hc nd (wS o (eIdx' o (vO 0) (vO 5))) (fun _ _ _ _ _ => (gM (vs := [11]) (gN 11 nd) (by decide))) (fun _ _ _ _ _ => (sts_one (tC1 (kIn (XO.b o)) (vO 11) (vO 1)))) (fun _ _ _ _ _ => (vE 11))) (ss_cons (ss_if (tTru o (vO 6)) (ss_cons (puts 4 o (vO 5) (eIdx' o (vO 6) (O (cI 0)))) ss_nil) ss_nil) ss_nil))) (ss_cons (sets 7 nd (se_lst sm_nil)) (ss_cons (fors po hc (wS o (vE 1)) (gN 5 nd) (ss_cons (sets 8 nd (se_lst (mC (vE 5) sm_nil))) (ss_cons (fors po hc (wR1 T.n_range (O (cB' (cs_len o.K) T.n_len boot_len' (aC (vO 1) sa_nil)))) (gN 9 nd) (ss_cons (sets 10 nd (eIdx' o (vO 4) (O (eIdx' o (vO 8) (O (eNeg (O (cI 1)))))))) (ss_cons (ss_if (tC1 (kEq o) (vO 10) (vO 5)) (ss_cons ss_break ss_nil) ss_nil) (ss_cons (exps (app 8 (vE 10))) ss_nil)))) (ss_cons (ss_if (L2.PW.pt (sw_and (tC1 (kEq o) (O (eIdx' o (vO 4) (O (eIdx' o (vO 8) (O (eNeg (O (cI 1)))))))) (vO 5)) (sw_one (tC1 (kEq o) (O (cB' (cs_min o.K hc o.u) T.n_min boot_min' (aC (vO 8) sa_nil))) (vO 5))))) (ss_cons (exps (app 7 (cT' (cs_tuple o.K) T.n_tuple boot_tuple' (aC (vO 8) sa_nil)))) ss_nil) ss_nil) ss_nil)))) (ss_cons (exps (app 2 (cT' (cs_tuple o.K) T.n_tuple boot_tuple' (aC (vO 7) sa_nil)))) (ss_cons (fors po hc (wS o (vE 7)) (gN 8 nd) (ss_cons (sets 1 nd (cmp1 [("k", 5)] hc nd (wS o (vE 1)) (fun _ _ _ _ _ => (gM (vs := [5]) (gN 5 nd) (by decide))) (fun _ _ _ _ _ => (sts_one (tC1 (kNin (XO.b o)) (vO 5) (vO 8)))) (fun _ _ _ _ _ => (vE 5)))) ss_nil)) ss_nil)))))))) (ss_cons (ss_ret (cT' (cs_tuple o.K) T.n_tuple boot_tuple' (aC (vO 2) sa_nil))) ss_nil))))
/-! ### _law_outcome -/
theorem S__law_outcome : FnScope ["rows", "got", "rings", "ring", "k"] ["rows"] (defScope (top 42)) := ⟨rfl, rfl, rfl, by decide +kernel, rfl, by decide +kernel, by decide +kernel⟩
def b__law_outcome : FS := (sSeq (sSet [] 1 (eLRg (rRng1 (oOf (eCall lenF (aCons (oVar 0) aNil)))))) (sSeq (sFor (gNm 2) (wSeq (eCallN 1 [] m__law_rounds (aCons (oVar 0) aNil))) (sSeq (sFor (gNm 3) (wSeq (eVar 2)) (sSeq (sFor (gNm 4) (wRng1 (oOf (eCall lenF (aCons (oVar 3) aNil)))) (sSeq (sPut 1 (oOf (eIdx (oVar 3) (oVar 4))) (eIdx (oVar 3) (oOf (eBin modD (oOf (eCall intF (aCons (oOf (eBin addD (oVar 4) (oOf (eC (.int 1))))) aNil))) (oOf (eCall lenF (aCons (oVar 3) aNil))))))) sSkip)) sSkip)) sSkip)) (sSeq (sRet (eCall tupF (aCons (oVar 1) aNil))) sSkip)))
def m__law_outcome : Mir := runF 5 [] b__law_outcome
theorem ok__law_outcome (T : Txt K mg) (h__law_rounds : Fn P w mg base T.G 1 T.a__law_rounds T.d__law_rounds ["rows"] [] m__law_rounds) : Fn P w mg base T.G 2 T.a__law_outcome T.d__law_outcome ["rows"] [] m__law_outcome :=
  fnX (k := 1) T.F__law_outcome S__law_outcome fun cdv A ou s H E o hc nd tk po => (ss_cons (sets 1 nd (lRg hc T.n_list (rg1 T.n_range (O (cB' (cs_len o.K) T.n_len boot_len' (aC (vO 0) sa_nil)))))) (ss_cons (fors po hc (wS o (cF (P := P) h__law_rounds tk o hc T.g__law_rounds T.k__law_rounds T.b__law_rounds (aC (vO 0) sa_nil))) (gN 2 nd) (ss_cons (fors po hc (wS o (vE 2)) (gN 3 nd) (ss_cons (fors po hc (wR1 T.n_range (O (cB' (cs_len o.K) T.n_len boot_len' (aC (vO 3) sa_nil)))) (gN 4 nd) (ss_cons (puts 1 o (O (eIdx' o (vO 3) (vO 4))) (eIdx' o (vO 3) (O (bMod o (O (cT' (cs_int) T.n_int boot_int' (aC (O (bAdd o (vO 4) (O (cI 1)))) sa_nil))) (O (cB' (cs_len o.K) T.n_len boot_len' (aC (vO 3) sa_nil))))))) ss_nil)) ss_nil)) ss_nil)) (ss_cons (ss_ret (cT' (cs_tuple o.K) T.n_tuple boot_tuple' (aC (vO 1) sa_nil))) ss_nil)))
/-! ### _law_rank -/
theorem S__law_rank : FnScope ["rows", "person", "thing", "row"] ["rows", "person", "thing"] (defScope (top 43)) := ⟨rfl, rfl, rfl, by decide +kernel, rfl, by decide +kernel, by decide +kernel⟩
def b__law_rank : FS := (sSeq (sSet [] 3 (eCall listF (aCons (oOf (eIdx (oVar 0) (oVar 1))) aNil))) (sSeq (sIf (tCmp' ninD (oVar 1) (oVar 3)) (sSeq (sExpr (eApp 3 (eVar 1))) sSkip) sSkip) (sSeq (sSet [] 3 (eSlc (oVar 3) iNone (iSome (oOf (eBin addD (oOf (eMeth "list" idxOfF (oVar 3) (aCons (oVar 1) aNil))) (oOf (eC (.int 1)))))))) (sSeq (sIf (tCmp' inD (oVar 2) (oVar 3)) (sSeq (sRet (eMeth "list" idxOfF (oVar 3) (aCons (oVar 2) aNil))) sSkip) sSkip) (sSeq (sRet (eCall lenF (aCons (oVar 3) aNil))) sSkip)))))
def m__law_rank : Mir := runF 4 [] b__law_rank
theorem ok__law_rank (T : Txt K mg) : Fn P w mg base T.G 1 T.a__law_rank T.d__law_rank ["rows", "person", "thing"] [] m__law_rank :=
  fnX (k := 0) T.F__law_rank S__law_rank fun cdv A ou s H E o hc nd tk po => (ss_cons (sets 3 nd (cT' (cs_list o.K) T.n_list boot_list' (aC (O (eIdx' o (vO 0) (vO 1))) sa_nil))) (ss_cons (ss_if (tC1 (kNin o) (vO 1) (vO 3)) (ss_cons (exps (app 3 (vE 1))) ss_nil) ss_nil) (ss_cons (sets 3 nd (eSlc' o (vO 3) si_none (si_some (O (bAdd o (O (lIdx' o (vO 3) (aC (vO 1) sa_nil))) (O (cI 1))))))) (ss_cons (ss_if (tC1 (kIn o) (vO 2) (vO 3)) (ss_cons (ss_ret (lIdx' o (vO 3) (aC (vO 2) sa_nil))) ss_nil) ss_nil) (ss_cons (ss_ret (cB' (cs_len o.K) T.n_len boot_len' (aC (vO 3) sa_nil))) ss_nil)))))
/-! ### _law_ask -/
theorem S__law_ask : FnScope ["which", "rows", "got", "lot", "thing", "e"] ["which", "rows", "got", "lot", "thing"] (defScope (top 44)) := ⟨rfl, rfl, rfl, by decide +kernel, rfl, by decide +kernel, by decide +kernel⟩
def b__law_ask : FS := (sSeq (sTry 5 (sSeq (sIf (tCmp' eqD (oVar 0) (oOf (eC (.int 0)))) (sSeq (sRet (eTup (dCons (eC (.str "told")) (dCons (eCallN 2 [] m_blocking_lot (aApp (aCons (oVar 1) aNil) (oVar 2))) dNil)))) sSkip) sSkip) (sSeq (sRet (eTup (dCons (eC (.str "told")) (dCons (eCallN 4 [] m_blocks (aApp (aCons (oVar 1) (aCons (oVar 2) (aCons (oVar 3) aNil))) (oVar 4))) dNil)))) sSkip)) 5 subT 0 m__law_error) sSkip)
def m__law_ask : Mir := runF 6 [] b__law_ask
theorem ok__law_ask (T : Txt K mg) (h__law_error : FnE P w mg base T.G 5 1 T.a__law_error T.d__law_error "e" m__law_error) (h_blocking_lot : Fn P w mg base T.G 7 T.a_blocking_lot T.d_blocking_lot ["wishes", "outcome"] [] m_blocking_lot) (h_blocks : Fn P w mg base T.G 7 T.a_blocks T.d_blocks ["wishes", "outcome", "lot", "shared"] [] m_blocks) : Fn P w mg base T.G 8 T.a__law_ask T.d__law_ask ["which", "rows", "got", "lot", "thing"] [] m__law_ask :=
  fnX (k := 7) T.F__law_ask S__law_ask fun cdv A ou s H E o hc nd tk po => (ss_cons (tryE 0 5 o h__law_error T.exm_HandError nd T.g_HandError tk T.g__law_error T.k__law_error T.b__law_error (fun _ _ _ tk2 po => (ss_cons (ss_if (tC1 (kEq (XO.tt o)) (vO 0) (O (cI 0))) (ss_cons (ss_ret (se_tup (dC (cS "told") (dC (cKw2 h_blocking_lot tk2 (XO.tt o) hc T.g_blocking_lot T.k_blocking_lot T.kv_blocking_lot (aC (vO 1) sa_nil) (vO 2)) sd_nil)))) ss_nil) ss_nil) (ss_cons (ss_ret (se_tup (dC (cS "told") (dC (cKw2 h_blocks tk2 (XO.tt o) hc T.g_blocks T.k_blocks T.kv_blocks (aC (vO 1) (aC (vO 2) (aC (vO 3) sa_nil))) (vO 4)) sd_nil)))) ss_nil)))) ss_nil)
/-! ### _law_is_number -/
theorem S__law_is_number : FnScope ["thing"] ["thing"] (defScope (top 45)) := ⟨rfl, rfl, rfl, by decide +kernel, rfl, by decide +kernel, by decide +kernel⟩
def b__law_is_number : FS := (sSeq (sRet (eAndF (eIsi [.int] (oVar 0)) (eAndF (eNotF (oOf (eIsi [.bool] (oVar 0)))) (eOfT (tCmp' geD (oVar 0) (oOf (eC (.int 0)))))))) sSkip)
def m__law_is_number : Mir := runF 1 [] b__law_is_number
theorem ok__law_is_number (T : Txt K mg) : Fn P w mg base T.G 1 T.a__law_is_number T.d__law_is_number ["thing"] [] m__law_is_number :=
  fnX (k := 0) T.F__law_is_number S__law_is_number fun cdv A ou s H E o hc nd tk po => (ss_cons (ss_ret (eAnd o (isi .int o (vO 0) T.n_isinstance T.n_int boot_int') (eAnd o (eNot o (O (isi .bool o (vO 0) T.n_isinstance T.n_bool boot_bool'))) (se_one (eC1 (kGe o) (vO 0) (O (cI 0))))))) ss_nil)
/-! ### _law_is_lot -/
theorem S__law_is_lot : FnScope ["thing", "count", "k"] ["thing", "count"] (defScope (top 46)) := ⟨rfl, rfl, rfl, by decide +kernel, rfl, by decide +kernel, by decide +kernel⟩
def b__law_is_lot : FS := (sSeq (sIf (tNotF (tTru' (oOf (eIsi [.tup] (oVar 0))))) (sSeq (sRet (eC (.bl false))) sSkip) sSkip) (sSeq (sFor (gNm 2) (wRng1 (oOf (eCall lenF (aCons (oVar 0) aNil)))) (sSeq (sIf (tOrF (tNotF (tTru' (oOf (eCallN 1 [] m__law_is_number (aCons (oOf (eIdx (oVar 0) (oVar 2))) aNil))))) (tOrF (tCmp' geD (oOf (eIdx (oVar 0) (oVar 2))) (oVar 1)) (tAndF (tCmp' gtD (oVar 2) (oOf (eC (.int 0)))) (tCmp' leD (oOf (eIdx (oVar 0) (oVar 2))) (oOf (eIdx (oVar 0) (oOf (eBin subD (oVar 2) (oOf (eC (.int 1))))))))))) (sSeq (sRet (eC (.bl false))) sSkip) sSkip) sSkip)) (sSeq (sRet (eC (.bl true))) sSkip)))
def m__law_is_lot : Mir := runF 3 [] b__law_is_lot
theorem ok__law_is_lot (T : Txt K mg) (h__law_is_number : Fn P w mg base T.G 1 T.a__law_is_number T.d__law_is_number ["thing"] [] m__law_is_number) : Fn P w mg base T.G 2 T.a__law_is_lot T.d__law_is_lot ["thing", "count"] [] m__law_is_lot :=
  fnX (k := 1) T.F__law_is_lot S__law_is_lot fun cdv A ou s H E o hc nd tk po => (ss_cons (ss_if (tNot (tTru o (O (isi .tup o (vO 0) T.n_isinstance T.n_tuple boot_tuple')))) (ss_cons (ss_ret (cB false)) ss_nil) ss_nil) (ss_cons (fors po hc (wR1 T.n_range (O (cB' (cs_len o.K) T.n_len boot_len' (aC (vO 0) sa_nil)))) (gN 2 nd) (ss_cons (ss_if (L2.PW.pt (sw_or (tNot (tTru o (O (cF (P := P) h__law_is_number tk o hc T.g__law_is_number T.k__law_is_number T.b__law_is_number (aC (O (eIdx' o (vO 0) (vO 2))) sa_nil))))) (sw_or (tC1 (kGe o) (O (eIdx' o (vO 0) (vO 2))) (vO 1)) (sw_one' (L2.PW.pt (sw_and (tC1 (kGt o) (vO 2) (O (cI 0))) (sw_one (tC1 (kLe o) (O (eIdx' o (vO 0) (vO 2))) (O (eIdx' o (vO 0) (O (bSub o (vO 2) (O (cI 1)))))))))))))) (ss_cons (ss_ret (cB false)) ss_nil) ss_nil) ss_nil)) (ss_cons (ss_ret (cB true)) ss_nil)))
/-! ### _law_blocks -/
theorem S__law_blocks : FnScope ["ranks", "got", "lot", "thing", "used", "gain", "k", "pair", "now", "past"] ["ranks", "got", "lot", "thing"] (defScope (top 47)) := ⟨rfl, rfl, rfl, by decide +kernel, rfl, by decide +kernel, by decide +kernel⟩
def b__law_blocks : FS := (sSeq (sIf (tOrF (tNotF (tTru' (oOf (eIsi [.tup] (oVar 3))))) (tCmp' neD (oOf (eCall lenF (aCons (oVar 3) aNil))) (oOf (eCall lenF (aCons (oVar 2) aNil))))) (sSeq (sRet (eC (.bl false))) sSkip) sSkip) (sSeq (sSet [] 4 (eLst mNil)) (sSeq (sSet [] 5 (eC (.int 0))) (sSeq (sFor (gNm 6) (wRng1 (oOf (eCall lenF (aCons (oVar 2) aNil)))) (sSeq (sSet [] 7 (eIdx (oVar 3) (oVar 6))) (sSeq (sIf (tOrF (tNotF (tTru' (oOf (eIsi [.tup] (oVar 7))))) (tCmp' neD (oOf (eCall lenF (aCons (oVar 7) aNil))) (oOf (eC (.int 2))))) (sSeq (sRet (eC (.bl false))) sSkip) sSkip) (sSeq (sIf (tOrF (tNotF (tTru' (oOf (eCallN 1 [] m__law_is_number (aCons (oOf (eIdx (oVar 7) (oOf (eC (.int 0))))) aNil))))) (tNotF (tTru' (oOf (eCallN 1 [] m__law_is_number (aCons (oOf (eIdx (oVar 7) (oOf (eC (.int 1))))) aNil)))))) (sSeq (sRet (eC (.bl false))) sSkip) sSkip) (sSeq (sIf (tOrF (tCmp' neD (oOf (eIdx (oVar 7) (oOf (eC (.int 0))))) (oOf (eIdx (oVar 2) (oVar 6)))) (tOrF (tCmp' ninD (oOf (eIdx (oVar 7) (oOf (eC (.int 1))))) (oVar 2)) (tCmp' inD (oOf (eIdx (oVar 7) (oOf (eC (.int 1))))) (oVar 4)))) (sSeq (sRet (eC (.bl false))) sSkip) sSkip) (sSeq (sExpr (eApp 4 (eIdx (oVar 7) (oOf (eC (.int 1)))))) (sSeq (sSet [] 8 (eIdx (oOf (eIdx (oVar 0) (oOf (eIdx (oVar 2) (oVar 6))))) (oOf (eIdx (oVar 7) (oOf (eC (.int 1))))))) (sSeq (sSet [] 9 (eIdx (oOf (eIdx (oVar 0) (oOf (eIdx (oVar 2) (oVar 6))))) (oOf (eIdx (oVar 1) (oOf (eIdx (oVar 2) (oVar 6))))))) (sSeq (sIf (tOrF (tCmp' gtD (oVar 8) (oVar 9)) (tAndF (tCmp' eqD (oVar 8) (oVar 9)) (tCmp' neD (oOf (eIdx (oVar 7) (oOf (eC (.int 1))))) (oOf (eIdx (oVar 1) (oOf (eIdx (oVar 2) (oVar 6)))))))) (sSeq (sRet (eC (.bl false))) sSkip) sSkip) (sSeq (sSet [] 5 (eBin addD (oVar 5) (oOf (eCall intF (aCons (oOf (eOfT (tCmp' ltD (oVar 8) (oVar 9)))) aNil))))) sSkip)))))))))) (sSeq (sRet (eOfT (tCmp' gtD (oVar 5) (oOf (eC (.int 0)))))) sSkip)))))
def m__law_blocks : Mir := runF 10 [] b__law_blocks
theorem ok__law_blocks (T : Txt K mg) (h__law_is_number : Fn P w mg base T.G 1 T.a__law_is_number T.d__law_is_number ["thing"] [] m__law_is_number) : Fn P w mg base T.G 2 T.a__law_blocks T.d__law_blocks ["ranks", "got", "lot", "thing"] [] m__law_blocks :=
  fnX (k := 1) T.F__law_blocks S__law_blocks fun cdv A ou s H E o hc nd tk po => (ss_cons (ss_if (L2.PW.pt (sw_or (tNot (tTru o (O (isi .tup o (vO 3) T.n_isinstance T.n_tuple boot_tuple')))) (sw_one' (tC1 (kNe o) (O (cB' (cs_len o.K) T.n_len boot_len' (aC (vO 3) sa_nil))) (O (cB' (cs_len o.K) T.n_len boot_len' (aC (vO 2) sa_nil))))))) (ss_cons (ss_ret (cB false)) ss_nil) ss_nil) (ss_cons (sets 4 nd (se_lst sm_nil)) (ss_cons (sets 5 nd (cI 0)) (ss_cons (fors po hc (wR1 T.n_range (O (cB' (cs_len o.K) T.n_len boot_len' (aC (vO 2) sa_nil)))) (gN 6 nd) (ss_cons (sets 7 nd (eIdx' o (vO 3) (vO 6))) (ss_cons (ss_if (L2.PW.pt (sw_or (tNot (tTru o (O (isi .tup o (vO 7) T.n_isinstance T.n_tuple boot_tuple')))) (sw_one' (tC1 (kNe o) (O (cB' (cs_len o.K) T.n_len boot_len' (aC (vO 7) sa_nil))) (O (cI 2)))))) (ss_cons (ss_ret (cB false)) ss_nil) ss_nil) (ss_cons (ss_if (L2.PW.pt (sw_or (tNot (tTru o (O (cF (P := P) h__law_is_number tk o hc T.g__law_is_number T.k__law_is_number T.b__law_is_number (aC (O (eIdx' o (vO 7) (O (cI 0)))) sa_nil))))) (sw_one' (tNot (tTru o (O (cF (P := P) h__law_is_number tk o hc T.g__law_is_number T.k__law_is_number T.b__law_is_number (aC (O (eIdx' o (vO 7) (O (cI 1)))) sa_nil)))))))) (ss_cons (ss_ret (cB false)) ss_nil) ss_nil) (ss_cons (ss_if (L2.PW.pt (sw_or (tC1 (kNe o) (O (eIdx' o (vO 7) (O (cI 0)))) (O (eIdx' o (vO 2) (vO 6)))) (sw_or (tC1 (kNin o) (O (eIdx' o (vO 7) (O (cI 1)))) (vO 2)) (sw_one' (tC1 (kIn o) (O (eIdx' o (vO 7) (O (cI 1)))) (vO 4)))))) (ss_cons (ss_ret (cB false)) ss_nil) ss_nil) (ss_cons (exps (app 4 (eIdx' o (vO 7) (O (cI 1))))) (ss_cons (sets 8 nd (eIdx' o (O (eIdx' o (vO 0) (O (eIdx' o (vO 2) (vO 6))))) (O (eIdx' o (vO 7) (O (cI 1)))))) (ss_cons (sets 9 nd (eIdx' o (O (eIdx' o (vO 0) (O (eIdx' o (vO 2) (vO 6))))) (O (eIdx' o (vO 1) (O (eIdx' o (vO 2) (vO 6))))))) (ss_cons (ss_if (L2.PW.pt (sw_or (tC1 (kGt o) (vO 8) (vO 9)) (sw_one' (L2.PW.pt (sw_and (tC1 (kEq o) (vO 8) (vO 9)) (sw_one (tC1 (kNe o) (O (eIdx' o (vO 7) (O (cI 1)))) (O (eIdx' o (vO 1) (O (eIdx' o (vO 2) (vO 6)))))))))))) (ss_cons (ss_ret (cB false)) ss_nil) ss_nil) (ss_cons (sets 5 nd (bAdd o (vO 5) (O (cT' (cs_int) T.n_int boot_int' (aC (O (eC1 (kLt o) (vO 8) (vO 9))) sa_nil))))) ss_nil)))))))))) (ss_cons (ss_ret (eC1 (kGt o) (vO 5) (O (cI 0)))) ss_nil)))))
/-! ### _law_back -/
theorem S__law_back : FnScope ["ranks", "got", "start", "goal", "queue", "ahead", "step", "at", "road", "back", "turn", "j"] ["ranks", "got", "start", "goal"] (defScope (top 48)) := ⟨rfl, rfl, rfl, by decide +kernel, rfl, by decide +kernel, by decide +kernel⟩
def b__law_back : FS := (sSeq (sSet [] 4 (eLst (mCons (eVar 2) mNil))) (sSeq (sSet [] 5 (eLst (mCons (eC .non) mNil))) (sSeq (sFor (gNm 6) (wRng1 (oOf (eCall lenF (aCons (oVar 1) aNil)))) (sSeq (sIf (tCmp' geD (oVar 6) (oOf (eCall lenF (aCons (oVar 4) aNil)))) (sSeq sBreak sSkip) sSkip) (sSeq (sSet [] 7 (eIdx (oVar 4) (oVar 6))) (sSeq (sIf (tCmp' eqD (oVar 7) (oVar 3)) (sSeq (sSet [] 8 (eLst (mCons (eVar 7) mNil))) (sSeq (sSet [] 9 (eIdx (oVar 5) (oVar 6))) (sSeq (sFor (gNm 10) (wRng1 (oOf (eCall lenF (aCons (oVar 1) aNil)))) (sSeq (sIf (tCmp' isD (oVar 9) (oOf (eC .non))) (sSeq sBreak sSkip) sSkip) (sSeq (sExpr (eApp 8 (eIdx (oVar 4) (oVar 9)))) (sSeq (sSet [] 9 (eIdx (oVar 5) (oVar 9))) sSkip)))) (sSeq (sRet (eRevL (oVar 8))) sSkip)))) sSkip) (sSeq (sFor (gNm 11) (wRng1 (oOf (eCall lenF (aCons (oVar 1) aNil)))) (sSeq (sIf (tAndF (tCmp' ninD (oVar 11) (oVar 4)) (tOrF (tCmp' eqD (oVar 11) (oOf (eIdx (oVar 1) (oVar 7)))) (tCmp' ltD (oOf (eIdx (oOf (eIdx (oVar 0) (oVar 7))) (oVar 11))) (oOf (eIdx (oOf (eIdx (oVar 0) (oVar 7))) (oOf (eIdx (oVar 1) (oVar 7)))))))) (sSeq (sExpr (eApp 4 (eVar 11))) (sSeq (sExpr (eApp 5 (eVar 6))) sSkip)) sSkip) sSkip)) sSkip))))) (sSeq (sRet (eC .non)) sSkip))))
def m__law_back : Mir := runF 12 [] b__law_back
theorem ok__law_back (T : Txt K mg) : Fn P w mg base T.G 1 T.a__law_back T.d__law_back ["ranks", "got", "start", "goal"] [] m__law_back :=
  fnX (k := 0) T.F__law_back S__law_back fun cdv A ou s H E o hc nd tk po => (ss_cons (sets 4 nd (se_lst (mC (vE 2) sm_nil))) (ss_cons (sets 5 nd (se_lst (mC cN sm_nil))) (ss_cons (fors po hc (wR1 T.n_range (O (cB' (cs_len o.K) T.n_len boot_len' (aC (vO 1) sa_nil)))) (gN 6 nd) (ss_cons (ss_if (tC1 (kGe o) (vO 6) (O (cB' (cs_len o.K) T.n_len boot_len' (aC (vO 4) sa_nil)))) (ss_cons ss_break ss_nil) ss_nil) (ss_cons (sets 7 nd (eIdx' o (vO 4) (vO 6))) (ss_cons (ss_if (tC1 (kEq o) (vO 7) (vO 3)) (ss_cons (sets 8 nd (se_lst (mC (vE 7) sm_nil))) (ss_cons (sets 9 nd (eIdx' o (vO 5) (vO 6))) (ss_cons (fors po hc (wR1 T.n_range (O (cB' (cs_len o.K) T.n_len boot_len' (aC (vO 1) sa_nil)))) (gN 10 nd) (ss_cons (ss_if (tC1 (kIs o) (vO 9) (O cN)) (ss_cons ss_break ss_nil) ss_nil) (ss_cons (exps (app 8 (eIdx' o (vO 4) (vO 9)))) (ss_cons (sets 9 nd (eIdx' o (vO 5) (vO 9))) ss_nil)))) (ss_cons (ss_ret (eRevL' o (vO 8))) ss_nil)))) ss_nil) (ss_cons (fors po hc (wR1 T.n_range (O (cB' (cs_len o.K) T.n_len boot_len' (aC (vO 1) sa_nil)))) (gN 11 nd) (ss_cons (ss_if (L2.PW.pt (sw_and (tC1 (kNin o) (vO 11) (vO 4)) (sw_one (L2.PW.pt (sw_or (tC1 (kEq o) (vO 11) (O (eIdx' o (vO 1) (vO 7)))) (sw_one' (tC1 (kLt o) (O (eIdx' o (O (eIdx' o (vO 0) (vO 7))) (vO 11))) (O (eIdx' o (O (eIdx' o (vO 0) (vO 7))) (O (eIdx' o (vO 1) (vO 7)))))))))))) (ss_cons (exps (app 4 (vE 11))) (ss_cons (exps (app 5 (vE 6))) ss_nil)) ss_nil) ss_nil)) ss_nil))))) (ss_cons (ss_ret cN) ss_nil))))
/-! ### _law_ring -/
theorem S__law_ring : FnScope ["ranks", "got", "k", "j", "road"] ["ranks", "got"] (defScope (top 49)) := ⟨rfl, rfl, rfl, by decide +kernel, rfl, by decide +kernel, by decide +kernel⟩
def b__law_ring : FS := (sSeq (sFor (gNm 2) (wRng1 (oOf (eCall lenF (aCons (oVar 1) aNil)))) (sSeq (sFor (gNm 3) (wRng1 (oOf (eCall lenF (aCons (oVar 1) aNil)))) (sSeq (sIf (tCmp' ltD (oOf (eIdx (oOf (eIdx (oVar 0) (oVar 2))) (oVar 3))) (oOf (eIdx (oOf (eIdx (oVar 0) (oVar 2))) (oOf (eIdx (oVar 1) (oVar 2)))))) (sSeq (sSet [] 4 (eCallN 4 [] m__law_back (aCons (oVar 0) (aCons (oVar 1) (aCons (oVar 3) (aCons (oVar 2) aNil)))))) (sSeq (sIf (tCmp' isntD (oVar 4) (oOf (eC .non))) (sSeq (sRet (eMove 4)) sSkip) sSkip) sSkip)) sSkip) sSkip)) sSkip)) (sSeq (sRet (eC .non)) sSkip))
def m__law_ring : Mir := runF 5 [] b__law_ring
theorem ok__law_ring (T : Txt K mg) (h__law_back : Fn P w mg base T.G 1 T.a__law_back T.d__law_back ["ranks", "got", "start", "goal"] [] m__law_back) : Fn P w mg base T.G 2 T.a__law_ring T.d__law_ring ["ranks", "got"] [] m__law_ring :=
  fnX (k := 1) T.F__law_ring S__law_ring fun cdv A ou s H E o hc nd tk po => (ss_cons (fors po hc (wR1 T.n_range (O (cB' (cs_len o.K) T.n_len boot_len' (aC (vO 1) sa_nil)))) (gN 2 nd) (ss_cons (fors po hc (wR1 T.n_range (O (cB' (cs_len o.K) T.n_len boot_len' (aC (vO 1) sa_nil)))) (gN 3 nd) (ss_cons (ss_if (tC1 (kLt o) (O (eIdx' o (O (eIdx' o (vO 0) (vO 2))) (vO 3))) (O (eIdx' o (O (eIdx' o (vO 0) (vO 2))) (O (eIdx' o (vO 1) (vO 2)))))) (ss_cons (sets 4 nd (cF (P := P) h__law_back tk o hc T.g__law_back T.k__law_back T.b__law_back (aC (vO 0) (aC (vO 1) (aC (vO 3) (aC (vO 2) sa_nil)))))) (ss_cons (ss_if (tC1 (kIsnt o) (vO 4) (O cN)) (ss_cons (ss_ret (vM 4)) ss_nil) ss_nil) ss_nil)) ss_nil) ss_nil)) ss_nil)) (ss_cons (ss_ret cN) ss_nil))
/-! ### _law_pairs_of -/
theorem S__law_pairs_of : FnScope ["road", "pairs", "k"] ["road"] (defScope (top 50)) := ⟨rfl, rfl, rfl, by decide +kernel, rfl, by decide +kernel, by decide +kernel⟩
def b__law_pairs_of : FS := (sSeq (sSet [] 1 (eCmp [2] (wRng1 (oOf (eCall lenF (aCons (oVar 0) aNil)))) (gNm 2) tYesF (eTup (dCons (eIdx (oVar 0) (oVar 2)) (dCons (eIdx (oVar 0) (oOf (eBin modD (oOf (eCall intF (aCons (oOf (eBin addD (oVar 2) (oOf (eC (.int 1))))) aNil))) (oOf (eCall lenF (aCons (oVar 0) aNil)))))) dNil))))) (sSeq (sRet (eCall tupF (aCons (oOf (eCall sortedAF (aCons (oVar 1) aNil))) aNil))) sSkip))
def m__law_pairs_of : Mir := runF 3 [] b__law_pairs_of
theorem ok__law_pairs_of (T : Txt K mg) : Fn P w mg base T.G 1 T.a__law_pairs_of T.d__law_pairs_of ["road"] [] m__law_pairs_of :=
  fnX (k := 0) T.F__law_pairs_of S__law_pairs_of fun cdv A ou s H E o hc nd tk po => (ss_cons (setCmp 1 [("k", 2)] hc nd (wR1 T.n_range (O (cB' (cs_len o.K) T.n_len boot_len' (aC (vO 0) sa_nil)))) (fun _ _ _ _ _ => (gM (vs := [2]) (gN 2 nd) (by decide))) (fun _ _ _ _ _ => sts_nil) (fun _ _ _ _ _ => (se_tup (dC (eIdx' (XO.b o) (vO 0) (vO 2)) (dC (eIdx' (XO.b o) (vO 0) (O (bMod (XO.b o) (O (cT' (cs_int) T.n_int boot_int' (aC (O (bAdd (XO.b o) (vO 2) (O (cI 1)))) sa_nil))) (O (cB' (cs_len (XO.b o).K) T.n_len boot_len' (aC (vO 0) sa_nil)))))) sd_nil))))) (ss_cons (ss_ret (cT' (cs_tuple o.K) T.n_tuple boot_tuple' (aC (O (cB' (cs_sortedA o.K) T.n_sorted boot_sorted' (aC (vO 1) sa_nil))) sa_nil))) ss_nil))
/-! ### _law_orders -/
theorem S__law_orders : FnScope ["lot", "rows", "k", "more", "row", "j"] ["lot"] (defScope (top 51)) := ⟨rfl, rfl, rfl, by decide +kernel, rfl, by decide +kernel, by decide +kernel⟩
def b__law_orders : FS := (sSeq (sSet [] 1 (eLst (mCons (eTup dNil) mNil))) (sSeq (sFor (gNm 2) (wSeq (eVar 0)) (sSeq (sSet [] 3 (eLst mNil)) (sSeq (sFor (gNm 4) (wSeq (eVar 1)) (sSeq (sFor (gNm 5) (wSeq (eVar 0)) (sSeq (sIf (tCmp' ninD (oVar 5) (oVar 4)) (sSeq (sExpr (eApp 3 (eBin addD (oVar 4) (oOf (eTup (dCons (eVar 5) dNil)))))) sSkip) sSkip) sSkip)) sSkip)) (sSeq (sSet [] 1 (eVar 3)) sSkip)))) (sSeq (sRet (eMove 1)) sSkip)))
def m__law_orders : Mir := runF 6 [] b__law_orders
theorem ok__law_orders (T : Txt K mg) : Fn P w mg base T.G 1 T.a__law_orders T.d__law_orders ["lot"] [] m__law_orders :=
  fnX (k := 0) T.F__law_orders S__law_orders fun cdv A ou s H E o hc nd tk po => (ss_cons (sets 1 nd (se_lst (mC (se_tup sd_nil) sm_nil))) (ss_cons (fors po hc (wS o (vE 0)) (gN 2 nd) (ss_cons (sets 3 nd (se_lst sm_nil)) (ss_cons (fors po hc (wS o (vE 1)) (gN 4 nd) (ss_cons (fors po hc (wS o (vE 0)) (gN 5 nd) (ss_cons (ss_if (tC1 (kNin o) (vO 5) (vO 4)) (ss_cons (exps (app 3 (bAdd o (vO 4) (O (se_tup (dC (vE 5) sd_nil)))))) ss_nil) ss_nil) ss_nil)) ss_nil)) (ss_cons (sets 1 nd (vE 3)) ss_nil)))) (ss_cons (ss_ret (vM 1)) ss_nil)))
/-! ### _law_sharings -/
theorem S__law_sharings : FnScope ["many", "lots", "k", "told", "lot", "row"] ["many"] (defScope (top 52)) := ⟨rfl, rfl, rfl, by decide +kernel, rfl, by decide +kernel, by decide +kernel⟩
def b__law_sharings : FS := (sSeq (sSet [] 1 (eLst (mCons (eTup dNil) mNil))) (sSeq (sFor (gNm 2) (wRng1 (oVar 0)) (sSeq (sSet [] 1 (eBin addD (oVar 1) (oOf (eCmp [4] (wSeq (eVar 1)) (gNm 4) tYesF (eBin addD (oVar 4) (oOf (eTup (dCons (eVar 2) dNil)))))))) sSkip)) (sSeq (sSet [] 3 (eLst mNil)) (sSeq (sFor (gNm 4) (wSeq (eVar 1)) (sSeq (sFor (gNm 5) (wSeq (eCallN 1 [] m__law_orders (aCons (oVar 4) aNil))) (sSeq (sExpr (eApp 3 (eTup (dCons (eVar 4) (dCons (eCall tupF (aCons (oOf (eCmp [2] (wRng1 (oOf (eCall lenF (aCons (oVar 4) aNil)))) (gNm 2) tYesF (eTup (dCons (eIdx (oVar 4) (oVar 2)) (dCons (eIdx (oVar 5) (oVar 2)) dNil))))) aNil)) dNil))))) sSkip)) sSkip)) (sSeq (sRet (eMove 3)) sSkip)))))
def m__law_sharings : Mir := runF 6 [] b__law_sharings
theorem ok__law_sharings (T : Txt K mg) (h__law_orders : Fn P w mg base T.G 1 T.a__law_orders T.d__law_orders ["lot"] [] m__law_orders) : Fn P w mg base T.G 2 T.a__law_sharings T.d__law_sharings ["many"] [] m__law_sharings :=
  fnX (k := 1) T.F__law_sharings S__law_sharings fun cdv A ou s H E o hc nd tk po => (ss_cons (sets 1 nd (se_lst (mC (se_tup sd_nil) sm_nil))) (ss_cons (fors po hc (wR1 T.n_range (vO 0)) (gN 2 nd) (ss_cons (sets 1 nd (bAdd o (vO 1) (O (cmp1 [("lot", 4)] hc nd (wS o (vE 1)) (fun _ _ _ _ _ => (gM (vs := [4]) (gN 4 nd) (by decide))) (fun _ _ _ _ _ => sts_nil) (fun _ _ _ _ _ => (bAdd (XO.b o) (vO 4) (O (se_tup (dC (vE 2) sd_nil))))))))) ss_nil)) (ss_cons (sets 3 nd (se_lst sm_nil)) (ss_cons (fors po hc (wS o (vE 1)) (gN 4 nd) (ss_cons (fors po hc (wS o (cF (P := P) h__law_orders tk o hc T.g__law_orders T.k__law_orders T.b__law_orders (aC (vO 4) sa_nil))) (gN 5 nd) (ss_cons (exps (app 3 (se_tup (dC (vE 4) (dC (cT' (cs_tuple o.K) T.n_tuple boot_tuple' (aC (O (cmp1 [("k", 2)] hc nd (wR1 T.n_range (O (cB' (cs_len o.K) T.n_len boot_len' (aC (vO 4) sa_nil)))) (fun _ _ _ _ _ => (gM (vs := [2]) (gN 2 nd) (by decide))) (fun _ _ _ _ _ => sts_nil) (fun _ _ _ _ _ => (se_tup (dC (eIdx' (XO.b o) (vO 4) (vO 2)) (dC (eIdx' (XO.b o) (vO 5) (vO 2)) sd_nil)))))) sa_nil)) sd_nil))))) ss_nil)) ss_nil)) (ss_cons (ss_ret (vM 3)) ss_nil)))))
/-! ### _law_spoilt -/
theorem S__law_spoilt : FnScope ["pot", "lot", "thing", "many", "k", "i", "pair", "other", "some", "ways", "row"] ["pot", "lot", "thing", "many"] (defScope (top 53)) := ⟨rfl, rfl, rfl, by decide +kernel, rfl, by decide +kernel, by decide +kernel⟩
def b__law_spoilt : FS := (sSeq (sSet [0] 4 (eCallN 2 [0] m__law_draw (aCons (oVar 0) (aCons (oOf (eCall lenF (aCons (oVar 1) aNil))) aNil)))) (sSeq (sSet [0] 5 (eCallN 2 [0] m__law_draw (aCons (oVar 0) (aCons (oVar 3) aNil)))) (sSeq (sSet [0] 6 (eIdx (oVar 2) (oVar 4))) (sSeq (sSet [0] 7 (eIdx (oVar 2) (oOf (eBin modD (oOf (eCall intF (aCons (oOf (eBin addD (oVar 4) (oOf (eC (.int 1))))) aNil))) (oOf (eCall lenF (aCons (oVar 2) aNil))))))) (sSeq (sSet [0] 8 (eTup (dCons (eIdx (oVar 1) (oVar 4)) (dCons (eIdx (oVar 7) (oOf (eC (.int 1)))) dNil)))) (sSeq (sSet [0] 9 (eLst (mCons (eBin addD (oOf (eSlc (oVar 2) iNone (iSome (oVar 4)))) (oOf (eSlc (oVar 2) (iSome (oOf (eBin addD (oVar 4) (oOf (eC (.int 1)))))) iNone))) (mCons (eRev (oVar 2)) (mCons (eCall listF (aCons (oVar 2) aNil)) (mCons (eC .non) (mCons (eTup dNil) (mCons (eBin addD (oOf (eBin addD (oOf (eSlc (oVar 2) iNone (iSome (oVar 4)))) (oOf (eTup (dCons (eTup (dCons (eIdx (oVar 6) (oOf (eC (.int 0)))) (dCons (eVar 5) dNil))) dNil))))) (oOf (eSlc (oVar 2) (iSome (oOf (eBin addD (oVar 4) (oOf (eC (.int 1)))))) iNone))) (mCons (eBin addD (oOf (eBin addD (oOf (eSlc (oVar 2) iNone (iSome (oVar 4)))) (oOf (eTup (dCons (eCall listF (aCons (oVar 6) aNil)) dNil))))) (oOf (eSlc (oVar 2) (iSome (oOf (eBin addD (oVar 4) (oOf (eC (.int 1)))))) iNone))) (mCons (eBin addD (oOf (eBin addD (oOf (eSlc (oVar 2) iNone (iSome (oVar 4)))) (oOf (eTup (dCons (eVar 8) dNil))))) (oOf (eSlc (oVar 2) (iSome (oOf (eBin addD (oVar 4) (oOf (eC (.int 1)))))) iNone))) (mCons (eBin addD (oVar 2) (oOf (eTup (dCons (eIdx (oVar 2) (oOf (eNegF (oOf (eC (.int 1)))))) dNil)))) (mCons (eCall tupF (aCons (oOf (eCmp [10] (wSeq (eVar 2)) (gNm 10) tYesF (eTup (dCons (eOrF (eOfT (tCmp' eqD (oOf (eIdx (oVar 10) (oOf (eC (.int 0))))) (oOf (eC (.int 1))))) (eIdx (oVar 10) (oOf (eC (.int 0))))) (dCons (eIdx (oVar 10) (oOf (eC (.int 1)))) dNil))))) aNil)) (mCons (eCall tupF (aCons (oOf (eCmp [10] (wSeq (eVar 1)) (gNm 10) tYesF (eTup (dCons (eVar 10) (dCons (eVar 10) dNil))))) aNil)) (mCons (eCall tupF (aCons (oOf (eCmp [10] (wSeq (eVar 2)) (gNm 10) tYesF (eTup (dCons (eIdx (oVar 10) (oOf (eC (.int 0)))) (dCons (eOrF (eOfT (tCmp' eqD (oOf (eIdx (oVar 10) (oOf (eC (.int 1))))) (oOf (eC (.int 1))))) (eIdx (oVar 10) (oOf (eC (.int 1))))) dNil))))) aNil)) (mCons (eBin addD (oOf (eBin addD (oOf (eSlc (oVar 2) iNone (iSome (oVar 4)))) (oOf (eTup (dCons (eBin addD (oVar 6) (oOf (eTup (dCons (eC (.int 0)) dNil)))) dNil))))) (oOf (eSlc (oVar 2) (iSome (oOf (eBin addD (oVar 4) (oOf (eC (.int 1)))))) iNone))) (mCons (eBin addD (oOf (eBin addD (oOf (eSlc (oVar 2) iNone (iSome (oVar 4)))) (oOf (eTup (dCons (eTup (dCons (eIdx (oVar 6) (oOf (eC (.int 0)))) (dCons (eVar 3) dNil))) dNil))))) (oOf (eSlc (oVar 2) (iSome (oOf (eBin addD (oVar 4) (oOf (eC (.int 1)))))) iNone))) (mCons (eCall tupF (aCons (oOf (eCmp [10] (wSeq (eVar 2)) (gNm 10) tYesF (eTup (dCons (eIdx (oVar 10) (oOf (eC (.int 1)))) (dCons (eIdx (oVar 10) (oOf (eC (.int 0)))) dNil))))) aNil)) (mCons (eC (.bl true)) (mCons (eVar 6) mNil))))))))))))))))))) (sSeq (sRet (eIdx (oOf (eVar 9)) (oOf (eCallN 2 [0] m__law_draw (aCons (oVar 0) (aCons (oOf (eCall lenF (aCons (oVar 9) aNil))) aNil)))))) sSkip)))))))
def m__law_spoilt : Mir := runF 11 [0] b__law_spoilt
theorem ok__law_spoilt (T : Txt K mg) (h__law_draw : Fn P w mg base T.G 2 T.a__law_draw T.d__law_draw ["pot", "many"] [0] m__law_draw) : Fn P w mg base T.G 3 T.a__law_spoilt T.d__law_spoilt ["pot", "lot", "thing", "many"] [0] m__law_spoilt :=
  fnX (k := 2) T.F__law_spoilt S__law_spoilt fun cdv A ou s H E o hc nd tk po => (ss_cons (sets 4 nd (cF (P := P) h__law_draw tk o hc T.g__law_draw T.k__law_draw T.b__law_draw (aC (vO 0) (aC (O (cB' (cs_len o.K) T.n_len boot_len' (aC (vO 1) sa_nil))) sa_nil)))) (ss_cons (sets 5 nd (cF (P := P) h__law_draw tk o hc T.g__law_draw T.k__law_draw T.b__law_draw (aC (vO 0) (aC (vO 3) sa_nil)))) (ss_cons (sets 6 nd (eIdx' o (vO 2) (vO 4))) (ss_cons (sets 7 nd (eIdx' o (vO 2) (O (bMod o (O (cT' (cs_int) T.n_int boot_int' (aC (O (bAdd o (vO 4) (O (cI 1)))) sa_nil))) (O (cB' (cs_len o.K) T.n_len boot_len' (aC (vO 2) sa_nil))))))) (ss_cons (sets 8 nd (se_tup (dC (eIdx' o (vO 1) (vO 4)) (dC (eIdx' o (vO 7) (O (cI 1))) sd_nil)))) (ss_cons (sets 9 nd (se_lst (mC (bAdd o (O (eSlc' o (vO 2) si_none (si_some (vO 4)))) (O (eSlc' o (vO 2) (si_some (O (bAdd o (vO 4) (O (cI 1))))) si_none))) (mC (eRev' o (vO 2)) (mC (cT' (cs_list o.K) T.n_list boot_list' (aC (vO 2) sa_nil)) (mC cN (mC (se_tup sd_nil) (mC (bAdd o (O (bAdd o (O (eSlc' o (vO 2) si_none (si_some (vO 4)))) (O (se_tup (dC (se_tup (dC (eIdx' o (vO 6) (O (cI 0))) (dC (vE 5) sd_nil))) sd_nil))))) (O (eSlc' o (vO 2) (si_some (O (bAdd o (vO 4) (O (cI 1))))) si_none))) (mC (bAdd o (O (bAdd o (O (eSlc' o (vO 2) si_none (si_some (vO 4)))) (O (se_tup (dC (cT' (cs_list o.K) T.n_list boot_list' (aC (vO 6) sa_nil)) sd_nil))))) (O (eSlc' o (vO 2) (si_some (O (bAdd o (vO 4) (O (cI 1))))) si_none))) (mC (bAdd o (O (bAdd o (O (eSlc' o (vO 2) si_none (si_some (vO 4)))) (O (se_tup (dC (vE 8) sd_nil))))) (O (eSlc' o (vO 2) (si_some (O (bAdd o (vO 4) (O (cI 1))))) si_none))) (mC (bAdd o (vO 2) (O (se_tup (dC (eIdx' o (vO 2) (O (eNeg (O (cI 1))))) sd_nil)))) (mC (cT' (cs_tuple o.K) T.n_tuple boot_tuple' (aC (O (cmp1 [("row", 10)] hc nd (wS o (vE 2)) (fun _ _ _ _ _ => (gM (vs := [10]) (gN 10 nd) (by decide))) (fun _ _ _ _ _ => sts_nil) (fun _ _ _ _ _ => (se_tup (dC (eOr (XO.b o) (eC1 (kEq (XO.b o)) (O (eIdx' (XO.b o) (vO 10) (O (cI 0)))) (O (cI 1))) (se_one (eIdx' (XO.b o) (vO 10) (O (cI 0))))) (dC (eIdx' (XO.b o) (vO 10) (O (cI 1))) sd_nil)))))) sa_nil)) (mC (cT' (cs_tuple o.K) T.n_tuple boot_tuple' (aC (O (cmp1 [("row", 10)] hc nd (wS o (vE 1)) (fun _ _ _ _ _ => (gM (vs := [10]) (gN 10 nd) (by decide))) (fun _ _ _ _ _ => sts_nil) (fun _ _ _ _ _ => (se_tup (dC (vE 10) (dC (vE 10) sd_nil)))))) sa_nil)) (mC (cT' (cs_tuple o.K) T.n_tuple boot_tuple' (aC (O (cmp1 [("row", 10)] hc nd (wS o (vE 2)) (fun _ _ _ _ _ => (gM (vs := [10]) (gN 10 nd) (by decide))) (fun _ _ _ _ _ => sts_nil) (fun _ _ _ _ _ => (se_tup (dC (eIdx' (XO.b o) (vO 10) (O (cI 0))) (dC (eOr (XO.b o) (eC1 (kEq (XO.b o)) (O (eIdx' (XO.b o) (vO 10) (O (cI 1)))) (O (cI 1))) (se_one (eIdx' (XO.b o) (vO 10) (O (cI 1))))) sd_nil)))))) sa_nil)) (mC (bAdd o (O (bAdd o (O (eSlc' o (vO 2) si_none (si_some (vO 4)))) (O (se_tup (dC (bAdd o (vO 6) (O (se_tup (dC (cI 0) sd_nil)))) sd_nil))))) (O (eSlc' o (vO 2) (si_some (O (bAdd o (vO 4) (O (cI 1))))) si_none))) (mC (bAdd o (O (bAdd o (O (eSlc' o (vO 2) si_none (si_some (vO 4)))) (O (se_tup (dC (se_tup (dC (eIdx' o (vO 6) (O (cI 0))) (dC (vE 3) sd_nil))) sd_nil))))) (O (eSlc' o (vO 2) (si_some (O (bAdd o (vO 4) (O (cI 1))))) si_none))) (mC (cT' (cs_tuple o.K) T.n_tuple boot_tuple' (aC (O (cmp1 [("row", 10)] hc nd (wS o (vE 2)) (fun _ _ _ _ _ => (gM (vs := [10]) (gN 10 nd) (by decide))) (fun _ _ _ _ _ => sts_nil) (fun _ _ _ _ _ => (se_tup (dC (eIdx' (XO.b o) (vO 10) (O (cI 1))) (dC (eIdx' (XO.b o) (vO 10) (O (cI 0))) sd_nil)))))) sa_nil)) (mC (cB true) (mC (vE 6) sm_nil))))))))))))))))))) (ss_cons (ss_ret (eIdx' o (O (vE 9)) (O (cF (P := P) h__law_draw tk o hc T.g__law_draw T.k__law_draw T.b__law_draw (aC (vO 0) (aC (O (cB' (cs_len o.K) T.n_len boot_len' (aC (vO 9) sa_nil))) sa_nil)))))) ss_nil)))))))
/-! ### _law_judged -/
theorem S__law_judged : FnScope ["pot", "rows", "ranks", "got", "road", "many", "thing", "lot", "turn", "other", "rest", "k", "more"] ["pot", "rows", "ranks", "got", "road"] (defScope (top 54)) := ⟨rfl, rfl, rfl, by decide +kernel, rfl, by decide +kernel, by decide +kernel⟩
def b__law_judged : FS := (sSeq (sSet [0] 5 (eCall lenF (aCons (oVar 1) aNil))) (sSeq (sSet [0] 6 (eCallN 1 [] m__law_pairs_of (aCons (oVar 4) aNil))) (sSeq (sSet [0] 7 (eCall tupF (aCons (oOf (eCall sortedAF (aCons (oVar 4) aNil))) aNil))) (sSeq (sIf (tNotF (tTru' (oOf (eCallN 2 [] (m__law_alike 8) (aCons (oOf (eCallN 5 [] m__law_ask (aCons (oOf (eC (.int 1))) (aCons (oVar 1) (aCons (oVar 3) (aCons (oVar 7) (aCons (oVar 6) aNil))))))) (aCons (oOf (eTup (dCons (eC (.str "told")) (dCons (eCallN 4 [] m__law_blocks (aCons (oVar 2) (aCons (oVar 3) (aCons (oVar 7) (aCons (oVar 6) aNil))))) dNil)))) aNil)))))) (sSeq (sRet (eC (.bl false))) sSkip) sSkip) (sSeq (sFor (gNm 8) (wRng1 (oOf (eC (.int 5)))) (sSeq (sSet [0] 9 (eCallN 4 [0] m__law_spoilt (aCons (oVar 0) (aCons (oVar 7) (aCons (oVar 6) (aCons (oVar 5) aNil)))))) (sSeq (sIf (tNotF (tTru' (oOf (eCallN 2 [] (m__law_alike 8) (aCons (oOf (eCallN 5 [] m__law_ask (aCons (oOf (eC (.int 1))) (aCons (oVar 1) (aCons (oVar 3) (aCons (oVar 7) (aCons (oVar 9) aNil))))))) (aCons (oOf (eTup (dCons (eC (.str "told")) (dCons (eCallN 4 [] m__law_blocks (aCons (oVar 2) (aCons (oVar 3) (aCons (oVar 7) (aCons (oVar 9) aNil))))) dNil)))) aNil)))))) (sSeq (sRet (eC (.bl false))) sSkip) sSkip) sSkip))) (sSeq (sSet [0] 10 (eCmp [11] (wRng1 (oVar 5)) (gNm 11) (tCmp' ninD (oVar 11) (oVar 7)) (eVar 11))) (sSeq (sIf (tTru' (oVar 10)) (sSeq (sSet [0] 11 (eIdx (oVar 10) (oOf (eCallN 2 [0] m__law_draw (aCons (oVar 0) (aCons (oOf (eCall lenF (aCons (oVar 10) aNil))) aNil)))))) (sSeq (sSet [0] 12 (eCall tupF (aCons (oOf (eCall sortedAF (aCons (oOf (eBin addD (oVar 7) (oOf (eTup (dCons (eVar 11) dNil))))) aNil))) aNil))) (sSeq (sIf (tNotF (tTru' (oOf (eCallN 2 [] (m__law_alike 8) (aCons (oOf (eCallN 5 [] m__law_ask (aCons (oOf (eC (.int 1))) (aCons (oVar 1) (aCons (oVar 3) (aCons (oVar 12) (aCons (oVar 6) aNil))))))) (aCons (oOf (eTup (dCons (eC (.str "told")) (dCons (eC (.bl false)) dNil)))) aNil)))))) (sSeq (sRet (eC (.bl false))) sSkip) sSkip) (sSeq (sSet [0] 9 (eCall tupF (aCons (oOf (eCall sortedAF (aCons (oOf (eBin addD (oVar 6) (oOf (eTup (dCons (eTup (dCons (eVar 11) (dCons (eVar 11) dNil))) dNil))))) aNil))) aNil))) (sSeq (sIf (tNotF (tTru' (oOf (eCallN 2 [] (m__law_alike 8) (aCons (oOf (eCallN 5 [] m__law_ask (aCons (oOf (eC (.int 1))) (aCons (oVar 1) (aCons (oVar 3) (aCons (oVar 12) (aCons (oVar 9) aNil))))))) (aCons (oOf (eTup (dCons (eC (.str "told")) (dCons (eCallN 4 [] m__law_blocks (aCons (oVar 2) (aCons (oVar 3) (aCons (oVar 12) (aCons (oVar 9) aNil))))) dNil)))) aNil)))))) (sSeq (sRet (eC (.bl false))) sSkip) sSkip) sSkip))))) sSkip) (sSeq (sRet (eC (.bl true))) sSkip))))))))
def m__law_judged : Mir := runF 13 [0] b__law_judged
theorem ok__law_judged (T : Txt K mg) (h__law_alike : Fn P w mg base T.G 9 T.a__law_alike T.d__law_alike ["answer", "due"] [] (m__law_alike 8)) (h__law_ask : Fn P w mg base T.G 8 T.a__law_ask T.d__law_ask ["which", "rows", "got", "lot", "thing"] [] m__law_ask) (h__law_blocks : Fn P w mg base T.G 2 T.a__law_blocks T.d__law_blocks ["ranks", "got", "lot", "thing"] [] m__law_blocks) (h__law_draw : Fn P w mg base T.G 2 T.a__law_draw T.d__law_draw ["pot", "many"] [0] m__law_draw) (h__law_pairs_of : Fn P w mg base T.G 1 T.a__law_pairs_of T.d__law_pairs_of ["road"] [] m__law_pairs_of) (h__law_spoilt : Fn P w mg base T.G 3 T.a__law_spoilt T.d__law_spoilt ["pot", "lot", "thing", "many"] [0] m__law_spoilt) : Fn P w mg base T.G 10 T.a__law_judged T.d__law_judged ["pot", "rows", "ranks", "got", "road"] [0] m__law_judged :=
  fnX (k := 9) T.F__law_judged S__law_judged fun cdv A ou s H E o hc nd tk po => (ss_cons (sets 5 nd (cB' (cs_len o.K) T.n_len boot_len' (aC (vO 1) sa_nil))) (ss_cons (sets 6 nd (cF (P := P) h__law_pairs_of tk o hc T.g__law_pairs_of T.k__law_pairs_of T.b__law_pairs_of (aC (vO 4) sa_nil))) (ss_cons (sets 7 nd (cT' (cs_tuple o.K) T.n_tuple boot_tuple' (aC (O (cB' (cs_sortedA o.K) T.n_sorted boot_sorted' (aC (vO 4) sa_nil))) sa_nil))) (ss_cons (ss_if (tNot (tTru o (O (cF (P := P) h__law_alike tk o hc T.g__law_alike T.k__law_alike T.b__law_alike (aC (O (cF (P := P) h__law_ask tk o hc T.g__law_ask T.k__law_ask T.b__law_ask (aC (O (cI 1)) (aC (vO 1) (aC (vO 3) (aC (vO 7) (aC (vO 6) sa_nil))))))) (aC (O (se_tup (dC (cS "told") (dC (cF (P := P) h__law_blocks tk o hc T.g__law_blocks T.k__law_blocks T.b__law_blocks (aC (vO 2) (aC (vO 3) (aC (vO 7) (aC (vO 6) sa_nil))))) sd_nil)))) sa_nil)))))) (ss_cons (ss_ret (cB false)) ss_nil) ss_nil) (ss_cons (fors po hc (wR1 T.n_range (O (cI 5))) (gN 8 nd) (ss_cons (sets 9 nd (cF (P := P) h__law_spoilt tk o hc T.g__law_spoilt T.k__law_spoilt T.b__law_spoilt (aC (vO 0) (aC (vO 7) (aC (vO 6) (aC (vO 5) sa_nil)))))) (ss_cons (ss_if (tNot (tTru o (O (cF (P := P) h__law_alike tk o hc T.g__law_alike T.k__law_alike T.b__law_alike (aC (O (cF (P := P) h__law_ask tk o hc T.g__law_ask T.k__law_ask T.b__law_ask (aC (O (cI 1)) (aC (vO 1) (aC (vO 3) (aC (vO 7) (aC (vO 9) sa_nil))))))) (aC (O (se_tup (dC (cS "told") (dC (cF (P := P) h__law_blocks tk o hc T.g__law_blocks T.k__law_blocks T.b__law_blocks (aC (vO 2) (aC (vO 3) (aC (vO 7) (aC (vO 9) sa_nil))))) sd_nil)))) sa_nil)))))) (ss_cons (ss_ret (cB false)) ss_nil) ss_nil) ss_nil))) (ss_cons (setCmp 10 [("k", 11)] hc nd (wR1 T.n_range (vO 5)) (fun _ _ _ _ _ => (gM (vs := [11]) (gN 11 nd) (by decide))) (fun _ _ _ _ _ => (sts_one (tC1 (kNin (XO.b o)) (vO 11) (vO 7)))) (fun _ _ _ _ _ => (vE 11))) (ss_cons (ss_if (tTru o (vO 10)) (ss_cons (sets 11 nd (eIdx' o (vO 10) (O (cF (P := P) h__law_draw tk o hc T.g__law_draw T.k__law_draw T.b__law_draw (aC (vO 0) (aC (O (cB' (cs_len o.K) T.n_len boot_len' (aC (vO 10) sa_nil))) sa_nil)))))) (ss_cons (sets 12 nd (cT' (cs_tuple o.K) T.n_tuple boot_tuple' (aC (O (cB' (cs_sortedA o.K) T.n_sorted boot_sorted' (aC (O (bAdd o (vO 7) (O (se_tup (dC (vE 11) sd_nil))))) sa_nil))) sa_nil))) (ss_cons (ss_if (tNot (tTru o (O (cF (P := P) h__law_alike tk o hc T.g__law_alike T.k__law_alike T.b__law_alike (aC (O (cF (P := P) h__law_ask tk o hc T.g__law_ask T.k__law_ask T.b__law_ask (aC (O (cI 1)) (aC (vO 1) (aC (vO 3) (aC (vO 12) (aC (vO 6) sa_nil))))))) (aC (O (se_tup (dC (cS "told") (dC (cB false) sd_nil)))) sa_nil)))))) (ss_cons (ss_ret (cB false)) ss_nil) ss_nil) (ss_cons (sets 9 nd (cT' (cs_tuple o.K) T.n_tuple boot_tuple' (aC (O (cB' (cs_sortedA o.K) T.n_sorted boot_sorted' (aC (O (bAdd o (vO 6) (O (se_tup (dC (se_tup (dC (vE 11) (dC (vE 11) sd_nil))) sd_nil))))) sa_nil))) sa_nil))) (ss_cons (ss_if (tNot (tTru o (O (cF (P := P) h__law_alike tk o hc T.g__law_alike T.k__law_alike T.b__law_alike (aC (O (cF (P := P) h__law_ask tk o hc T.g__law_ask T.k__law_ask T.b__law_ask (aC (O (cI 1)) (aC (vO 1) (aC (vO 3) (aC (vO 12) (aC (vO 9) sa_nil))))))) (aC (O (se_tup (dC (cS "told") (dC (cF (P := P) h__law_blocks tk o hc T.g__law_blocks T.k__law_blocks T.b__law_blocks (aC (vO 2) (aC (vO 3) (aC (vO 12) (aC (vO 9) sa_nil))))) sd_nil)))) sa_nil)))))) (ss_cons (ss_ret (cB false)) ss_nil) ss_nil) ss_nil))))) ss_nil) (ss_cons (ss_ret (cB true)) ss_nil))))))))
/-! ### _law_wrongs -/
theorem S__law_wrongs : FnScope ["pot", "rows", "got", "lot", "many", "k", "wrong", "bad", "row"] ["pot", "rows", "got", "lot"] (defScope (top 55)) := ⟨rfl, rfl, rfl, by decide +kernel, rfl, by decide +kernel, by decide +kernel⟩
def b__law_wrongs : FS := (sSeq (sSet [0] 4 (eCall lenF (aCons (oVar 1) aNil))) (sSeq (sSet [0] 5 (eCallN 2 [0] m__law_draw (aCons (oVar 0) (aCons (oVar 4) aNil)))) (sSeq (sSet [0] 6 (eIdx (oOf (eLst (mCons (eCall listF (aCons (oVar 2) aNil)) (mCons (eSlc (oVar 2) iNone (iSome (oOf (eNegF (oOf (eC (.int 1))))))) (mCons (eBin addD (oVar 2) (oOf (eTup (dCons (eVar 4) dNil)))) (mCons (eBin addD (oOf (eBin addD (oOf (eSlc (oVar 2) iNone (iSome (oVar 5)))) (oOf (eTup (dCons (eIdx (oVar 2) (oOf (eBin subD (oVar 5) (oOf (eC (.int 1)))))) dNil))))) (oOf (eSlc (oVar 2) (iSome (oOf (eBin addD (oVar 5) (oOf (eC (.int 1)))))) iNone))) (mCons (eC .non) (mCons (eTup dNil) (mCons (eBin addD (oOf (eBin addD (oOf (eSlc (oVar 2) iNone (iSome (oVar 5)))) (oOf (eTup (dCons (eVar 4) dNil))))) (oOf (eSlc (oVar 2) (iSome (oOf (eBin addD (oVar 5) (oOf (eC (.int 1)))))) iNone))) (mCons (eCall tupF (aCons (oOf (eCmp [8] (wSeq (eVar 2)) (gNm 8) tYesF (eOrF (eOfT (tCmp' eqD (oVar 8) (oOf (eC (.int 1))))) (eVar 8)))) aNil)) (mCons (eBin addD (oOf (eBin addD (oOf (eSlc (oVar 2) iNone (iSome (oVar 5)))) (oOf (eTup (dCons (eNegF (oOf (eC (.int 1)))) dNil))))) (oOf (eSlc (oVar 2) (iSome (oOf (eBin addD (oVar 5) (oOf (eC (.int 1)))))) iNone))) (mCons (eC (.int 0)) mNil)))))))))))) (oOf (eCallN 2 [0] m__law_draw (aCons (oVar 0) (aCons (oOf (eC (.int 10))) aNil)))))) (sSeq (sSet [0] 7 (eIdx (oOf (eLst (mCons (eCall listF (aCons (oVar 3) aNil)) (mCons (eBin addD (oVar 3) (oOf (eTup (dCons (eVar 4) dNil)))) (mCons (eBin addD (oOf (eTup (dCons (eNegF (oOf (eC (.int 1)))) dNil))) (oVar 3)) (mCons (eTup (dCons (eVar 5) (dCons (eVar 5) dNil))) (mCons (eTup (dCons (eC (.int 1)) (dCons (eC (.int 0)) dNil))) (mCons (eC .non) (mCons (eTup (dCons (eC (.int 0)) (dCons (eC (.bl true)) dNil))) (mCons (eC (.int 0)) (mCons (eC (.str "0")) mNil))))))))))) (oOf (eCallN 2 [0] m__law_draw (aCons (oVar 0) (aCons (oOf (eC (.int 9))) aNil)))))) (sSeq (sIf (tNotF (tTru' (oOf (eCallN 2 [] (m__law_alike 8) (aCons (oOf (eCallN 5 [] m__law_ask (aCons (oOf (eC (.int 0))) (aCons (oVar 1) (aCons (oVar 6) (aCons (oVar 3) (aCons (oOf (eTup dNil)) aNil))))))) (aCons (oOf (eTup (dCons (eC (.str "InvalidTable")) (dCons (eCall reprF (aCons (oVar 6) aNil)) dNil)))) aNil)))))) (sSeq (sRet (eC (.bl false))) sSkip) sSkip) (sSeq (sIf (tNotF (tTru' (oOf (eCallN 2 [] (m__law_alike 8) (aCons (oOf (eCallN 5 [] m__law_ask (aCons (oOf (eC (.int 1))) (aCons (oVar 1) (aCons (oVar 6) (aCons (oVar 7) (aCons (oOf (eTup dNil)) aNil))))))) (aCons (oOf (eTup (dCons (eC (.str "InvalidTable")) (dCons (eCall reprF (aCons (oVar 6) aNil)) dNil)))) aNil)))))) (sSeq (sRet (eC (.bl false))) sSkip) sSkip) (sSeq (sIf (tNotF (tTru' (oOf (eCallN 2 [] (m__law_alike 8) (aCons (oOf (eCallN 5 [] m__law_ask (aCons (oOf (eC (.int 1))) (aCons (oVar 1) (aCons (oVar 2) (aCons (oVar 7) (aCons (oOf (eC .non)) aNil))))))) (aCons (oOf (eTup (dCons (eC (.str "InvalidLot")) (dCons (eCall reprF (aCons (oVar 7) aNil)) dNil)))) aNil)))))) (sSeq (sRet (eC (.bl false))) sSkip) sSkip) (sSeq (sRet (eCallN 2 [] (m__law_alike 8) (aCons (oOf (eCallN 5 [] m__law_ask (aCons (oOf (eC (.int 1))) (aCons (oVar 1) (aCons (oVar 2) (aCons (oOf (eTup dNil)) (aCons (oOf (eTup dNil)) aNil))))))) (aCons (oOf (eTup (dCons (eC (.str "told")) (dCons (eC (.bl false)) dNil)))) aNil)))) sSkip))))))))
def m__law_wrongs : Mir := runF 9 [0] b__law_wrongs
theorem ok__law_wrongs (T : Txt K mg) (h__law_alike : Fn P w mg base T.G 9 T.a__law_alike T.d__law_alike ["answer", "due"] [] (m__law_alike 8)) (h__law_ask : Fn P w mg base T.G 8 T.a__law_ask T.d__law_ask ["which", "rows", "got", "lot", "thing"] [] m__law_ask) (h__law_draw : Fn P w mg base T.G 2 T.a__law_draw T.d__law_draw ["pot", "many"] [0] m__law_draw) : Fn P w mg base T.G 10 T.a__law_wrongs T.d__law_wrongs ["pot", "rows", "got", "lot"] [0] m__law_wrongs :=
  fnX (k := 9) T.F__law_wrongs S__law_wrongs fun cdv A ou s H E o hc nd tk po => (ss_cons (sets 4 nd (cB' (cs_len o.K) T.n_len boot_len' (aC (vO 1) sa_nil))) (ss_cons (sets 5 nd (cF (P := P) h__law_draw tk o hc T.g__law_draw T.k__law_draw T.b__law_draw (aC (vO 0) (aC (vO 4) sa_nil)))) (ss_cons (sets 6 nd (eIdx' o (O (se_lst (mC (cT' (cs_list o.K) T.n_list boot_list' (aC (vO 2) sa_nil)) (mC (eSlc' o (vO 2) si_none (si_some (O (eNeg (O (cI 1)))))) (mC (bAdd o (vO 2) (O (se_tup (dC (vE 4) sd_nil)))) (mC (bAdd o (O (bAdd o (O (eSlc' o (vO 2) si_none (si_some (vO 5)))) (O (se_tup (dC (eIdx' o (vO 2) (O (bSub o (vO 5) (O (cI 1))))) sd_nil))))) (O (eSlc' o (vO 2) (si_some (O (bAdd o (vO 5) (O (cI 1))))) si_none))) (mC cN (mC (se_tup sd_nil) (mC (bAdd o (O (bAdd o (O (eSlc' o (vO 2) si_none (si_some (vO 5)))) (O (se_tup (dC (vE 4) sd_nil))))) (O (eSlc' o (vO 2) (si_some (O (bAdd o (vO 5) (O (cI 1))))) si_none))) (mC (cT' (cs_tuple o.K) T.n_tuple boot_tuple' (aC (O (cmp1 [("row", 8)] hc nd (wS o (vE 2)) (fun _ _ _ _ _ => (gM (vs := [8]) (gN 8 nd) (by decide))) (fun _ _ _ _ _ => sts_nil) (fun _ _ _ _ _ => (eOr (XO.b o) (eC1 (kEq (XO.b o)) (vO 8) (O (cI 1))) (se_one (vE 8)))))) sa_nil)) (mC (bAdd o (O (bAdd o (O (eSlc' o (vO 2) si_none (si_some (vO 5)))) (O (se_tup (dC (eNeg (O (cI 1))) sd_nil))))) (O (eSlc' o (vO 2) (si_some (O (bAdd o (vO 5) (O (cI 1))))) si_none))) (mC (cI 0) sm_nil)))))))))))) (O (cF (P := P) h__law_draw tk o hc T.g__law_draw T.k__law_draw T.b__law_draw (aC (vO 0) (aC (O (cI 10)) sa_nil)))))) (ss_cons (sets 7 nd (eIdx' o (O (se_lst (mC (cT' (cs_list o.K) T.n_list boot_list' (aC (vO 3) sa_nil)) (mC (bAdd o (vO 3) (O (se_tup (dC (vE 4) sd_nil)))) (mC (bAdd o (O (se_tup (dC (eNeg (O (cI 1))) sd_nil))) (vO 3)) (mC (se_tup (dC (vE 5) (dC (vE 5) sd_nil))) (mC (se_tup (dC (cI 1) (dC (cI 0) sd_nil))) (mC cN (mC (se_tup (dC (cI 0) (dC (cB true) sd_nil))) (mC (cI 0) (mC (cS "0") sm_nil))))))))))) (O (cF (P := P) h__law_draw tk o hc T.g__law_draw T.k__law_draw T.b__law_draw (aC (vO 0) (aC (O (cI 9)) sa_nil)))))) (ss_cons (ss_if (tNot (tTru o (O (cF (P := P) h__law_alike tk o hc T.g__law_alike T.k__law_alike T.b__law_alike (aC (O (cF (P := P) h__law_ask tk o hc T.g__law_ask T.k__law_ask T.b__law_ask (aC (O (cI 0)) (aC (vO 1) (aC (vO 6) (aC (vO 3) (aC (O (se_tup sd_nil)) sa_nil))))))) (aC (O (se_tup (dC (cS "InvalidTable") (dC (cB' (cs_repr o.K o.r.gd o.u) T.n_repr boot_repr' (aC (vO 6) sa_nil)) sd_nil)))) sa_nil)))))) (ss_cons (ss_ret (cB false)) ss_nil) ss_nil) (ss_cons (ss_if (tNot (tTru o (O (cF (P := P) h__law_alike tk o hc T.g__law_alike T.k__law_alike T.b__law_alike (aC (O (cF (P := P) h__law_ask tk o hc T.g__law_ask T.k__law_ask T.b__law_ask (aC (O (cI 1)) (aC (vO 1) (aC (vO 6) (aC (vO 7) (aC (O (se_tup sd_nil)) sa_nil))))))) (aC (O (se_tup (dC (cS "InvalidTable") (dC (cB' (cs_repr o.K o.r.gd o.u) T.n_repr boot_repr' (aC (vO 6) sa_nil)) sd_nil)))) sa_nil)))))) (ss_cons (ss_ret (cB false)) ss_nil) ss_nil) (ss_cons (ss_if (tNot (tTru o (O (cF (P := P) h__law_alike tk o hc T.g__law_alike T.k__law_alike T.b__law_alike (aC (O (cF (P := P) h__law_ask tk o hc T.g__law_ask T.k__law_ask T.b__law_ask (aC (O (cI 1)) (aC (vO 1) (aC (vO 2) (aC (vO 7) (aC (O cN) sa_nil))))))) (aC (O (se_tup (dC (cS "InvalidLot") (dC (cB' (cs_repr o.K o.r.gd o.u) T.n_repr boot_repr' (aC (vO 7) sa_nil)) sd_nil)))) sa_nil)))))) (ss_cons (ss_ret (cB false)) ss_nil) ss_nil) (ss_cons (ss_ret (cF (P := P) h__law_alike tk o hc T.g__law_alike T.k__law_alike T.b__law_alike (aC (O (cF (P := P) h__law_ask tk o hc T.g__law_ask T.k__law_ask T.b__law_ask (aC (O (cI 1)) (aC (vO 1) (aC (vO 2) (aC (O (se_tup sd_nil)) (aC (O (se_tup sd_nil)) sa_nil))))))) (aC (O (se_tup (dC (cS "told") (dC (cB false) sd_nil)))) sa_nil)))) ss_nil))))))))
/-! ### _law_outcomes -/
theorem S__law_outcomes : FnScope ["pot", "rows", "best", "many", "k", "j", "other", "told"] ["pot", "rows", "best"] (defScope (top 56)) := ⟨rfl, rfl, rfl, by decide +kernel, rfl, by decide +kernel, by decide +kernel⟩
def b__law_outcomes : FS := (sSeq (sSet [0] 3 (eCall lenF (aCons (oVar 1) aNil))) (sSeq (sIf (tCmp' leD (oVar 3) (oOf (eC (.int 4)))) (sSeq (sRet (eCallN 1 [] m__law_orders (aCons (oOf (eTRg (rRng1 (oVar 3)))) aNil))) sSkip) sSkip) (sSeq (sSet [0] 4 (eCallN 2 [0] m__law_draw (aCons (oVar 0) (aCons (oVar 3) aNil)))) (sSeq (sSet [0] 5 (eBin modD (oOf (eCall intF (aCons (oOf (eBin addD (oOf (eBin addD (oVar 4) (oOf (eC (.int 1))))) (oOf (eCallN 2 [0] m__law_draw (aCons (oVar 0) (aCons (oOf (eBin subD (oVar 3) (oOf (eC (.int 1))))) aNil)))))) aNil))) (oVar 3))) (sSeq (sSet [0] 6 (eCall listF (aCons (oVar 2) aNil))) (sSeq (sPut 6 (oVar 4) (eIdx (oVar 2) (oVar 5))) (sSeq (sPut 6 (oVar 5) (eIdx (oVar 2) (oVar 4))) (sSeq (sIf (tCmp' gtD (oVar 3) (oOf (eC (.int 6)))) (sSeq (sRet (eLst (mCons (eVar 2) (mCons (eCall tupF (aCons (oVar 6) aNil)) mNil)))) sSkip) sSkip) (sSeq (sSet [0] 7 (eLst (mCons (eCall tupF (aCons (oVar 6) aNil)) (mCons (eTRg (rRng1 (oVar 3))) (mCons (eCall tupF (aCons (oOf (eCallN 2 [0] m__law_shuffled (aCons (oVar 0) (aCons (oVar 3) aNil)))) aNil)) (mCons (eCall tupF (aCons (oOf (eCallN 2 [0] m__law_shuffled (aCons (oVar 0) (aCons (oVar 3) aNil)))) aNil)) mNil)))))) (sSeq (sExpr (eIns 7 (oOf (eCallN 2 [0] m__law_draw (aCons (oVar 0) (aCons (oOf (eC (.int 5))) aNil)))) (eVar 2))) (sSeq (sRet (eMove 7)) sSkip)))))))))))
def m__law_outcomes : Mir := runF 8 [0] b__law_outcomes
theorem ok__law_outcomes (T : Txt K mg) (h__law_draw : Fn P w mg base T.G 2 T.a__law_draw T.d__law_draw ["pot", "many"] [0] m__law_draw) (h__law_orders : Fn P w mg base T.G 1 T.a__law_orders T.d__law_orders ["lot"] [] m__law_orders) (h__law_shuffled : Fn P w mg base T.G 3 T.a__law_shuffled T.d__law_shuffled ["pot", "many"] [0] m__law_shuffled) : Fn P w mg base T.G 4 T.a__law_outcomes T.d__law_outcomes ["pot", "rows", "best"] [0] m__law_outcomes :=
  fnX (k := 3) T.F__law_outcomes S__law_outcomes fun cdv A ou s H E o hc nd tk po => (ss_cons (sets 3 nd (cB' (cs_len o.K) T.n_len boot_len' (aC (vO 1) sa_nil))) (ss_cons (ss_if (tC1 (kLe o) (vO 3) (O (cI 4))) (ss_cons (ss_ret (cF (P := P) h__law_orders tk o hc T.g__law_orders T.k__law_orders T.b__law_orders (aC (O (tRg hc T.n_tuple (rg1 T.n_range (vO 3)))) sa_nil))) ss_nil) ss_nil) (ss_cons (sets 4 nd (cF (P := P) h__law_draw tk o hc T.g__law_draw T.k__law_draw T.b__law_draw (aC (vO 0) (aC (vO 3) sa_nil)))) (ss_cons (sets 5 nd (bMod o (O (cT' (cs_int) T.n_int boot_int' (aC (O (bAdd o (O (bAdd o (vO 4) (O (cI 1)))) (O (cF (P := P) h__law_draw tk o hc T.g__law_draw T.k__law_draw T.b__law_draw (aC (vO 0) (aC (O (bSub o (vO 3) (O (cI 1)))) sa_nil)))))) sa_nil))) (vO 3))) (ss_cons (sets 6 nd (cT' (cs_list o.K) T.n_list boot_list' (aC (vO 2) sa_nil))) (ss_cons (puts 6 o (vO 4) (eIdx' o (vO 2) (vO 5))) (ss_cons (puts 6 o (vO 5) (eIdx' o (vO 2) (vO 4))) (ss_cons (ss_if (tC1 (kGt o) (vO 3) (O (cI 6))) (ss_cons (ss_ret (se_lst (mC (vE 2) (mC (cT' (cs_tuple o.K) T.n_tuple boot_tuple' (aC (vO 6) sa_nil)) sm_nil)))) ss_nil) ss_nil) (ss_cons (sets 7 nd (se_lst (mC (cT' (cs_tuple o.K) T.n_tuple boot_tuple' (aC (vO 6) sa_nil)) (mC (tRg hc T.n_tuple (rg1 T.n_range (vO 3))) (mC (cT' (cs_tuple o.K) T.n_tuple boot_tuple' (aC (O (cF (P := P) h__law_shuffled tk o hc T.g__law_shuffled T.k__law_shuffled T.b__law_shuffled (aC (vO 0) (aC (vO 3) sa_nil)))) sa_nil)) (mC (cT' (cs_tuple o.K) T.n_tuple boot_tuple' (aC (O (cF (P := P) h__law_shuffled tk o hc T.g__law_shuffled T.k__law_shuffled T.b__law_shuffled (aC (vO 0) (aC (vO 3) sa_nil)))) sa_nil)) sm_nil)))))) (ss_cons (exps (ins 7 (O (cF (P := P) h__law_draw tk o hc T.g__law_draw T.k__law_draw T.b__law_draw (aC (vO 0) (aC (O (cI 5)) sa_nil)))) (vE 2))) (ss_cons (ss_ret (vM 7)) ss_nil)))))))))))
/-! ### _law_tried -/
theorem S__law_tried : FnScope ["ranks", "got", "shares", "row"] ["ranks", "got", "shares"] (defScope (top 57)) := ⟨rfl, rfl, rfl, by decide +kernel, rfl, by decide +kernel, by decide +kernel⟩
def b__law_tried : FS := (sSeq (sFor (gNm 3) (wSeq (eVar 2)) (sSeq (sIf (tTru' (oOf (eCallN 4 [] m__law_blocks (aCons (oVar 0) (aCons (oVar 1) (aCons (oOf (eIdx (oVar 3) (oOf (eC (.int 0))))) (aCons (oOf (eIdx (oVar 3) (oOf (eC (.int 1))))) aNil))))))) (sSeq (sRet (eC (.bl true))) sSkip) sSkip) sSkip)) (sSeq (sRet (eC (.bl false))) sSkip))
def m__law_tried : Mir := runF 4 [] b__law_tried
theorem ok__law_tried (T : Txt K mg) (h__law_blocks : Fn P w mg base T.G 2 T.a__law_blocks T.d__law_blocks ["ranks", "got", "lot", "thing"] [] m__law_blocks) : Fn P w mg base T.G 3 T.a__law_tried T.d__law_tried ["ranks", "got", "shares"] [] m__law_tried :=
  fnX (k := 2) T.F__law_tried S__law_tried fun cdv A ou s H E o hc nd tk po => (ss_cons (fors po hc (wS o (vE 2)) (gN 3 nd) (ss_cons (ss_if (tTru o (O (cF (P := P) h__law_blocks tk o hc T.g__law_blocks T.k__law_blocks T.b__law_blocks (aC (vO 0) (aC (vO 1) (aC (O (eIdx' o (vO 3) (O (cI 0)))) (aC (O (eIdx' o (vO 3) (O (cI 1)))) sa_nil))))))) (ss_cons (ss_ret (cB true)) ss_nil) ss_nil) ss_nil)) (ss_cons (ss_ret (cB false)) ss_nil))
/-! ### law -/
theorem S_law : FnScope ["script", "pot", "many", "rows", "best", "ranks", "shares", "roads", "got", "road", "told", "pair", "turn", "row", "due", "rings", "picked", "k", "j"] ["script"] (defScope (top 58)) := ⟨rfl, rfl, rfl, by decide +kernel, rfl, by decide +kernel, by decide +kernel⟩
def b_law : FS := (sSeq (sSet [] 1 (eCallN 1 [] m__law_pot (aCons (oVar 0) aNil))) (sSeq (sSet [] 2 (eIdx (oOf (eLst (mCons (eC (.int 2)) (mCons (eC (.int 3)) (mCons (eC (.int 4)) (mCons (eC (.int 3)) (mCons (eC (.int 4)) (mCons (eC (.int 4)) mNil)))))))) (oOf (eCallN 2 [0] m__law_draw (aCons (oVar 1) (aCons (oOf (eC (.int 6))) aNil)))))) (sSeq (sIf (tCmp' eqD (oOf (eCallN 2 [0] m__law_draw (aCons (oVar 1) (aCons (oOf (eC (.int 3))) aNil)))) (oOf (eC (.int 0)))) (sSeq (sSet [] 2 (eBin addD (oOf (eC (.int 5))) (oOf (eCallN 2 [0] m__law_draw (aCons (oVar 1) (aCons (oOf (eC (.int 2))) aNil)))))) sSkip) sSkip) (sSeq (sIf (tCmp' eqD (oOf (eCallN 2 [0] m__law_draw (aCons (oVar 1) (aCons (oOf (eC (.int 12))) aNil)))) (oOf (eC (.int 0)))) (sSeq (sSet [] 2 (eBin addD (oOf (eC (.int 7))) (oOf (eCallN 2 [0] m__law_draw (aCons (oVar 1) (aCons (oOf (eC (.int 4))) aNil)))))) sSkip) sSkip) (sSeq (sSet [] 3 (eCallN 2 [0] m__law_rows (aCons (oVar 1) (aCons (oVar 2) aNil)))) (sSeq (sSet [] 4 (eCallN 1 [] m__law_outcome (aCons (oVar 3) aNil))) (sSeq (sSet [] 5 (eCmp [17] (wRng1 (oVar 2)) (gNm 17) tYesF (eFrz (eCmp [18] (wRng1 (oVar 2)) (gNm 18) tYesF (eCallN 3 [] m__law_rank (aCons (oVar 3) (aCons (oVar 17) (aCons (oVar 18) aNil)))))))) (sSeq (sSet [] 6 (eLst mNil)) (sSeq (sIf (tCmp' leD (oVar 2) (oOf (eC (.int 4)))) (sSeq (sSet [] 6 (eCallN 1 [] m__law_sharings (aCons (oVar 2) aNil))) sSkip) sSkip) (sSeq (sSet [] 7 (eLst mNil)) (sSeq (sFor (gNm 8) (wSeq (eCallN 3 [0] m__law_outcomes (aCons (oVar 1) (aCons (oVar 3) (aCons (oVar 4) aNil))))) (sSeq (sSet [] 9 (eCallN 2 [] m__law_ring (aCons (oVar 5) (aCons (oVar 8) aNil)))) (sSeq (sIf (tCmp' neD (oOf (eOfT (tCmp' isD (oVar 9) (oOf (eC .non))))) (oOf (eOfT (tCmp' eqD (oVar 8) (oVar 4))))) (sSeq (sRet (eC (.bl false))) sSkip) sSkip) (sSeq (sIf (tAndF (tCmp' leD (oVar 2) (oOf (eC (.int 4)))) (tCmp' neD (oOf (eCallN 3 [] m__law_tried (aCons (oVar 5) (aCons (oVar 8) (aCons (oVar 6) aNil))))) (oOf (eOfT (tCmp' isntD (oVar 9) (oOf (eC .non))))))) (sSeq (sRet (eC (.bl false))) sSkip) sSkip) (sSeq (sSet [] 10 (eCallN 5 [] m__law_ask (aCons (oOf (eC (.int 0))) (aCons (oVar 3) (aCons (oVar 8) (aCons (oOf (eTup dNil)) (aCons (oOf (eTup dNil)) aNil))))))) (sSeq (sIf (tCmp' isD (oVar 9) (oOf (eC .non))) (sSeq (sIf (tNotF (tTru' (oOf (eCallN 2 [] (m__law_alike 8) (aCons (oVar 10) (aCons (oOf (eTup (dCons (eC (.str "told")) (dCons (eC .non) dNil)))) aNil)))))) (sSeq (sRet (eC (.bl false))) sSkip) sSkip) sSkip) (sSeq (sExpr (eApp 7 (eTup (dCons (eVar 8) (dCons (eVar 9) dNil))))) (sSeq (sIf (tOrF (tCmp' neD (oOf (eIdx (oVar 10) (oOf (eC (.int 0))))) (oOf (eC (.str "told")))) (tOrF (tNotF (tTru' (oOf (eIsi [.tup] (oOf (eIdx (oVar 10) (oOf (eC (.int 1))))))))) (tCmp' neD (oOf (eCall lenF (aCons (oOf (eIdx (oVar 10) (oOf (eC (.int 1))))) aNil))) (oOf (eC (.int 2)))))) (sSeq (sRet (eC (.bl false))) sSkip) sSkip) (sSeq (sSet [] 11 (eIdx (oVar 10) (oOf (eC (.int 1))))) (sSeq (sIf (tOrF (tNotF (tTru' (oOf (eCallN 2 [] m__law_is_lot (aCons (oOf (eIdx (oVar 11) (oOf (eC (.int 0))))) (aCons (oVar 2) aNil)))))) (tNotF (tTru' (oOf (eCallN 4 [] m__law_blocks (aCons (oVar 5) (aCons (oVar 8) (aCons (oOf (eIdx (oVar 11) (oOf (eC (.int 0))))) (aCons (oOf (eIdx (oVar 11) (oOf (eC (.int 1))))) aNil))))))))) (sSeq (sRet (eC (.bl false))) sSkip) sSkip) (sSeq (sIf (tNotF (tTru' (oOf (eCallN 2 [] (m__law_alike 8) (aCons (oOf (eCallN 5 [] m__law_ask (aCons (oOf (eC (.int 1))) (aCons (oVar 3) (aCons (oVar 8) (aCons (oOf (eIdx (oVar 11) (oOf (eC (.int 0))))) (aCons (oOf (eIdx (oVar 11) (oOf (eC (.int 1))))) aNil))))))) (aCons (oOf (eTup (dCons (eC (.str "told")) (dCons (eC (.bl true)) dNil)))) aNil)))))) (sSeq (sRet (eC (.bl false))) sSkip) sSkip) sSkip)))))) sSkip)))))) (sSeq (sFor (gNm 12) (wRng1 (oOf (eBin mulD (oOf (eC (.int 10))) (oOf (eCall intF (aCons (oOf (eOfT (tCmp' leD (oVar 2) (oOf (eC (.int 4)))))) aNil)))))) (sSeq (sSet [] 8 (eCall tupF (aCons (oOf (eCallN 2 [0] m__law_shuffled (aCons (oVar 1) (aCons (oVar 2) aNil)))) aNil))) (sSeq (sSet [] 13 (eIdx (oVar 6) (oOf (eCallN 2 [0] m__law_draw (aCons (oVar 1) (aCons (oOf (eCall lenF (aCons (oVar 6) aNil))) aNil)))))) (sSeq (sSet [] 14 (eCallN 4 [] m__law_blocks (aCons (oVar 5) (aCons (oVar 8) (aCons (oOf (eIdx (oVar 13) (oOf (eC (.int 0))))) (aCons (oOf (eIdx (oVar 13) (oOf (eC (.int 1))))) aNil)))))) (sSeq (sIf (tNotF (tTru' (oOf (eCallN 2 [] (m__law_alike 8) (aCons (oOf (eCallN 5 [] m__law_ask (aCons (oOf (eC (.int 1))) (aCons (oVar 3) (aCons (oVar 8) (aCons (oOf (eIdx (oVar 13) (oOf (eC (.int 0))))) (aCons (oOf (eIdx (oVar 13) (oOf (eC (.int 1))))) aNil))))))) (aCons (oOf (eTup (dCons (eC (.str "told")) (dCons (eVar 14) dNil)))) aNil)))))) (sSeq (sRet (eC (.bl false))) sSkip) sSkip) sSkip))))) (sSeq (sIf (tNotF (tTru' (oOf (eCallN 2 [] (m__law_alike 8) (aCons (oOf (eCallN 1 [] m_swap (aCons (oVar 3) aNil))) (aCons (oVar 4) aNil)))))) (sSeq (sRet (eC (.bl false))) sSkip) sSkip) (sSeq (sFor (gNm 15) (wSeq (eCallN 1 [] m__law_rounds (aCons (oVar 3) aNil))) (sSeq (sIf (tNotF (tTru' (oOf (eCallN 5 [0] m__law_judged (aCons (oVar 1) (aCons (oVar 3) (aCons (oVar 5) (aCons (oVar 4) (aCons (oOf (eCall listF (aCons (oOf (eIdx (oVar 15) (oOf (eC (.int 0))))) aNil))) aNil))))))))) (sSeq (sRet (eC (.bl false))) sSkip) sSkip) sSkip)) (sSeq (sIf (tTru' (oVar 7)) (sSeq (sSet [] 16 (eIdx (oVar 7) (oOf (eCallN 2 [0] m__law_draw (aCons (oVar 1) (aCons (oOf (eCall lenF (aCons (oVar 7) aNil))) aNil)))))) (sSeq (sIf (tNotF (tTru' (oOf (eCallN 5 [0] m__law_judged (aCons (oVar 1) (aCons (oVar 3) (aCons (oVar 5) (aCons (oOf (eIdx (oVar 16) (oOf (eC (.int 0))))) (aCons (oOf (eIdx (oVar 16) (oOf (eC (.int 1))))) aNil))))))))) (sSeq (sRet (eC (.bl false))) sSkip) sSkip) sSkip)) sSkip) (sSeq (sRet (eCallN 4 [0] m__law_wrongs (aCons (oVar 1) (aCons (oVar 3) (aCons (oVar 4) (aCons (oOf (eCall tupF (aCons (oOf (eCall sortedAF (aCons (oOf (eIdx (oOf (eIdx (oOf (eCallN 1 [] m__law_rounds (aCons (oVar 3) aNil))) (oOf (eC (.int 0))))) (oOf (eC (.int 0))))) aNil))) aNil))) aNil)))))) sSkip))))))))))))))))
def m_law : Mir := runF 19 [] b_law
theorem ok_law (T : Txt K mg) (h__law_alike : Fn P w mg base T.G 9 T.a__law_alike T.d__law_alike ["answer", "due"] [] (m__law_alike 8)) (h__law_ask : Fn P w mg base T.G 8 T.a__law_ask T.d__law_ask ["which", "rows", "got", "lot", "thing"] [] m__law_ask) (h__law_blocks : Fn P w mg base T.G 2 T.a__law_blocks T.d__law_blocks ["ranks", "got", "lot", "thing"] [] m__law_blocks) (h__law_draw : Fn P w mg base T.G 2 T.a__law_draw T.d__law_draw ["pot", "many"] [0] m__law_draw) (h__law_is_lot : Fn P w mg base T.G 2 T.a__law_is_lot T.d__law_is_lot ["thing", "count"] [] m__law_is_lot) (h__law_judged : Fn P w mg base T.G 10 T.a__law_judged T.d__law_judged ["pot", "rows", "ranks", "got", "road"] [0] m__law_judged) (h__law_outcome : Fn P w mg base T.G 2 T.a__law_outcome T.d__law_outcome ["rows"] [] m__law_outcome) (h__law_outcomes : Fn P w mg base T.G 4 T.a__law_outcomes T.d__law_outcomes ["pot", "rows", "best"] [0] m__law_outcomes) (h__law_pot : Fn P w mg base T.G 2 T.a__law_pot T.d__law_pot ["script"] [] m__law_pot) (h__law_rank : Fn P w mg base T.G 1 T.a__law_rank T.d__law_rank ["rows", "person", "thing"] [] m__law_rank) (h__law_ring : Fn P w mg base T.G 2 T.a__law_ring T.d__law_ring ["ranks", "got"] [] m__law_ring) (h__law_rounds : Fn P w mg base T.G 1 T.a__law_rounds T.d__law_rounds ["rows"] [] m__law_rounds) (h__law_rows : Fn P w mg base T.G 4 T.a__law_rows T.d__law_rows ["pot", "many"] [0] m__law_rows) (h__law_sharings : Fn P w mg base T.G 2 T.a__law_sharings T.d__law_sharings ["many"] [] m__law_sharings) (h__law_shuffled : Fn P w mg base T.G 3 T.a__law_shuffled T.d__law_shuffled ["pot", "many"] [0] m__law_shuffled) (h__law_tried : Fn P w mg base T.G 3 T.a__law_tried T.d__law_tried ["ranks", "got", "shares"] [] m__law_tried) (h__law_wrongs : Fn P w mg base T.G 10 T.a__law_wrongs T.d__law_wrongs ["pot", "rows", "got", "lot"] [0] m__law_wrongs) (h_swap : Fn P w mg base T.G 6 T.a_swap T.d_swap ["wishes"] [] m_swap) : Fn P w mg base T.G 11 T.a_law T.d_law ["script"] [] m_law :=
  fnX (k := 10) T.F_law S_law fun cdv A ou s H E o hc nd tk po => (ss_cons (sets 1 nd (cF (P := P) h__law_pot tk o hc T.g__law_pot T.k__law_pot T.b__law_pot (aC (vO 0) sa_nil))) (ss_cons (sets 2 nd (eIdx' o (O (se_lst (mC (cI 2) (mC (cI 3) (mC (cI 4) (mC (cI 3) (mC (cI 4) (mC (cI 4) sm_nil)))))))) (O (cF (P := P) h__law_draw tk o hc T.g__law_draw T.k__law_draw T.b__law_draw (aC (vO 1) (aC (O (cI 6)) sa_nil)))))) (ss_cons (ss_if (tC1 (kEq o) (O (cF (P := P) h__law_draw tk o hc T.g__law_draw T.k__law_draw T.b__law_draw (aC (vO 1) (aC (O (cI 3)) sa_nil)))) (O (cI 0))) (ss_cons (sets 2 nd (bAdd o (O (cI 5)) (O (cF (P := P) h__law_draw tk o hc T.g__law_draw T.k__law_draw T.b__law_draw (aC (vO 1) (aC (O (cI 2)) sa_nil)))))) ss_nil) ss_nil) (ss_cons (ss_if (tC1 (kEq o) (O (cF (P := P) h__law_draw tk o hc T.g__law_draw T.k__law_draw T.b__law_draw (aC (vO 1) (aC (O (cI 12)) sa_nil)))) (O (cI 0))) (ss_cons (sets 2 nd (bAdd o (O (cI 7)) (O (cF (P := P) h__law_draw tk o hc T.g__law_draw T.k__law_draw T.b__law_draw (aC (vO 1) (aC (O (cI 4)) sa_nil)))))) ss_nil) ss_nil) (ss_cons (sets 3 nd (cF (P := P) h__law_rows tk o hc T.g__law_rows T.k__law_rows T.b__law_rows (aC (vO 1) (aC (vO 2) sa_nil)))) (ss_cons (sets 4 nd (cF (P := P) h__law_outcome tk o hc T.g__law_outcome T.k__law_outcome T.b__law_outcome (aC (vO 3) sa_nil))) (ss_cons (setCmp 5 [("k", 17)] hc nd (wR1 T.n_range (vO 2)) (fun _ _ _ _ _ => (gM (vs := [17]) (gN 17 nd) (by decide))) (fun _ _ _ _ _ => sts_nil) (fun _ _ _ _ _ => (se_frz (cmp1 [("j", 18)] hc nd (wR1 T.n_range (vO 2)) (fun _ _ _ _ _ => (gM (vs := [18]) (gN 18 nd) (by decide))) (fun _ _ _ _ _ => sts_nil) (fun _ _ _ _ _ => (cF (P := P) h__law_rank takes0 (XO.b o) hc T.g__law_rank T.k__law_rank T.b__law_rank (aC (vO 3) (aC (vO 17) (aC (vO 18) sa_nil))))))))) (ss_cons (sets 6 nd (se_lst sm_nil)) (ss_cons (ss_if (tC1 (kLe o) (vO 2) (O (cI 4))) (ss_cons (sets 6 nd (cF (P := P) h__law_sharings tk o hc T.g__law_sharings T.k__law_sharings T.b__law_sharings (aC (vO 2) sa_nil))) ss_nil) ss_nil) (ss_cons (sets 7 nd (se_lst sm_nil)) (ss_cons (fors po hc (wS o (cF (P := P) h__law_outcomes tk o hc T.g__law_outcomes T.k__law_outcomes T.b__law_outcomes (aC (vO 1) (aC (vO 3) (aC (vO 4) sa_nil))))) (gN 8 nd) (ss_cons (sets 9 nd (cF (P := P) h__law_ring tk o hc T.g__law_ring T.k__law_ring T.b__law_ring (aC (vO 5) (aC (vO 8) sa_nil)))) (ss_cons (ss_if (tC1 (kNe o) (O (eC1 (kIs o) (vO 9) (O cN))) (O (eC1 (kEq o) (vO 8) (vO 4)))) (ss_cons (ss_ret (cB false)) ss_nil) ss_nil) (ss_cons (ss_if (L2.PW.pt (sw_and (tC1 (kLe o) (vO 2) (O (cI 4))) (sw_one (tC1 (kNe o) (O (cF (P := P) h__law_tried tk o hc T.g__law_tried T.k__law_tried T.b__law_tried (aC (vO 5) (aC (vO 8) (aC (vO 6) sa_nil))))) (O (eC1 (kIsnt o) (vO 9) (O cN))))))) (ss_cons (ss_ret (cB false)) ss_nil) ss_nil) (ss_cons (sets 10 nd (cF (P := P) h__law_ask tk o hc T.g__law_ask T.k__law_ask T.b__law_ask (aC (O (cI 0)) (aC (vO 3) (aC (vO 8) (aC (O (se_tup sd_nil)) (aC (O (se_tup sd_nil)) sa_nil))))))) (ss_cons (ss_if (tC1 (kIs o) (vO 9) (O cN)) (ss_cons (ss_if (tNot (tTru o (O (cF (P := P) h__law_alike tk o hc T.g__law_alike T.k__law_alike T.b__law_alike (aC (vO 10) (aC (O (se_tup (dC (cS "told") (dC cN sd_nil)))) sa_nil)))))) (ss_cons (ss_ret (cB false)) ss_nil) ss_nil) ss_nil) (ss_cons (exps (app 7 (se_tup (dC (vE 8) (dC (vE 9) sd_nil))))) (ss_cons (ss_if (L2.PW.pt (sw_or (tC1 (kNe o) (O (eIdx' o (vO 10) (O (cI 0)))) (O (cS "told"))) (sw_or (tNot (tTru o (O (isi .tup o (O (eIdx' o (vO 10) (O (cI 1)))) T.n_isinstance T.n_tuple boot_tuple')))) (sw_one' (tC1 (kNe o) (O (cB' (cs_len o.K) T.n_len boot_len' (aC (O (eIdx' o (vO 10) (O (cI 1)))) sa_nil))) (O (cI 2))))))) (ss_cons (ss_ret (cB false)) ss_nil) ss_nil) (ss_cons (sets 11 nd (eIdx' o (vO 10) (O (cI 1)))) (ss_cons (ss_if (L2.PW.pt (sw_or (tNot (tTru o (O (cF (P := P) h__law_is_lot tk o hc T.g__law_is_lot T.k__law_is_lot T.b__law_is_lot (aC (O (eIdx' o (vO 11) (O (cI 0)))) (aC (vO 2) sa_nil)))))) (sw_one' (tNot (tTru o (O (cF (P := P) h__law_blocks tk o hc T.g__law_blocks T.k__law_blocks T.b__law_blocks (aC (vO 5) (aC (vO 8) (aC (O (eIdx' o (vO 11) (O (cI 0)))) (aC (O (eIdx' o (vO 11) (O (cI 1)))) sa_nil))))))))))) (ss_cons (ss_ret (cB false)) ss_nil) ss_nil) (ss_cons (ss_if (tNot (tTru o (O (cF (P := P) h__law_alike tk o hc T.g__law_alike T.k__law_alike T.b__law_alike (aC (O (cF (P := P) h__law_ask tk o hc T.g__law_ask T.k__law_ask T.b__law_ask (aC (O (cI 1)) (aC (vO 3) (aC (vO 8) (aC (O (eIdx' o (vO 11) (O (cI 0)))) (aC (O (eIdx' o (vO 11) (O (cI 1)))) sa_nil))))))) (aC (O (se_tup (dC (cS "told") (dC (cB true) sd_nil)))) sa_nil)))))) (ss_cons (ss_ret (cB false)) ss_nil) ss_nil) ss_nil)))))) ss_nil)))))) (ss_cons (fors po hc (wR1 T.n_range (O (bMul o (O (cI 10)) (O (cT' (cs_int) T.n_int boot_int' (aC (O (eC1 (kLe o) (vO 2) (O (cI 4)))) sa_nil)))))) (gN 12 nd) (ss_cons (sets 8 nd (cT' (cs_tuple o.K) T.n_tuple boot_tuple' (aC (O (cF (P := P) h__law_shuffled tk o hc T.g__law_shuffled T.k__law_shuffled T.b__law_shuffled (aC (vO 1) (aC (vO 2) sa_nil)))) sa_nil))) (ss_cons (sets 13 nd (eIdx' o (vO 6) (O (cF (P := P) h__law_draw tk o hc T.g__law_draw T.k__law_draw T.b__law_draw (aC (vO 1) (aC (O (cB' (cs_len o.K) T.n_len boot_len' (aC (vO 6) sa_nil))) sa_nil)))))) (ss_cons (sets 14 nd (cF (P := P) h__law_blocks tk o hc T.g__law_blocks T.k__law_blocks T.b__law_blocks (aC (vO 5) (aC (vO 8) (aC (O (eIdx' o (vO 13) (O (cI 0)))) (aC (O (eIdx' o (vO 13) (O (cI 1)))) sa_nil)))))) (ss_cons (ss_if (tNot (tTru o (O (cF (P := P) h__law_alike tk o hc T.g__law_alike T.k__law_alike T.b__law_alike (aC (O (cF (P := P) h__law_ask tk o hc T.g__law_ask T.k__law_ask T.b__law_ask (aC (O (cI 1)) (aC (vO 3) (aC (vO 8) (aC (O (eIdx' o (vO 13) (O (cI 0)))) (aC (O (eIdx' o (vO 13) (O (cI 1)))) sa_nil))))))) (aC (O (se_tup (dC (cS "told") (dC (vE 14) sd_nil)))) sa_nil)))))) (ss_cons (ss_ret (cB false)) ss_nil) ss_nil) ss_nil))))) (ss_cons (ss_if (tNot (tTru o (O (cF (P := P) h__law_alike tk o hc T.g__law_alike T.k__law_alike T.b__law_alike (aC (O (cF (P := P) h_swap tk o hc T.g_swap T.k_swap T.b_swap (aC (vO 3) sa_nil))) (aC (vO 4) sa_nil)))))) (ss_cons (ss_ret (cB false)) ss_nil) ss_nil) (ss_cons (fors po hc (wS o (cF (P := P) h__law_rounds tk o hc T.g__law_rounds T.k__law_rounds T.b__law_rounds (aC (vO 3) sa_nil))) (gN 15 nd) (ss_cons (ss_if (tNot (tTru o (O (cF (P := P) h__law_judged tk o hc T.g__law_judged T.k__law_judged T.b__law_judged (aC (vO 1) (aC (vO 3) (aC (vO 5) (aC (vO 4) (aC (O (cT' (cs_list o.K) T.n_list boot_list' (aC (O (eIdx' o (vO 15) (O (cI 0)))) sa_nil))) sa_nil))))))))) (ss_cons (ss_ret (cB false)) ss_nil) ss_nil) ss_nil)) (ss_cons (ss_if (tTru o (vO 7)) (ss_cons (sets 16 nd (eIdx' o (vO 7) (O (cF (P := P) h__law_draw tk o hc T.g__law_draw T.k__law_draw T.b__law_draw (aC (vO 1) (aC (O (cB' (cs_len o.K) T.n_len boot_len' (aC (vO 7) sa_nil))) sa_nil)))))) (ss_cons (ss_if (tNot (tTru o (O (cF (P := P) h__law_judged tk o hc T.g__law_judged T.k__law_judged T.b__law_judged (aC (vO 1) (aC (vO 3) (aC (vO 5) (aC (O (eIdx' o (vO 16) (O (cI 0)))) (aC (O (eIdx' o (vO 16) (O (cI 1)))) sa_nil))))))))) (ss_cons (ss_ret (cB false)) ss_nil) ss_nil) ss_nil)) ss_nil) (ss_cons (ss_ret (cF (P := P) h__law_wrongs tk o hc T.g__law_wrongs T.k__law_wrongs T.b__law_wrongs (aC (vO 1) (aC (vO 3) (aC (vO 4) (aC (O (cT' (cs_tuple o.K) T.n_tuple boot_tuple' (aC (O (cB' (cs_sortedA o.K) T.n_sorted boot_sorted' (aC (O (eIdx' o (O (eIdx' o (O (cF (P := P) h__law_rounds tk o hc T.g__law_rounds T.k__law_rounds T.b__law_rounds (aC (vO 3) sa_nil))) (O (cI 0)))) (O (cI 0)))) sa_nil))) sa_nil))) sa_nil)))))) ss_nil))))))))))))))))
end
end K88
end
section
set_option Elab.async false
set_option linter.all false
set_option maxRecDepth 100000
namespace TTC
open Eng (nth nth_mem get_nth nth_eq mem_nth)
/-! ### lists without doubles -/
theorem nodup_len {l T : List Nat} (h : l.Nodup) (s : ∀ x ∈ l, x ∈ T) : l.length ≤ T.length := by
  induction l generalizing T with
  | nil => simp
  | cons a l ih =>
    rw [List.nodup_cons] at h
    have ha : a ∈ T := s a (by simp)
    have := ih (T := T.erase a) h.2 fun x hx => by
      have hne : x ≠ a := fun e => h.1 (e ▸ hx)
      exact (List.mem_erase_of_ne hne).mpr (s x (by simp [hx]))
    rw [List.length_erase_of_mem ha] at this
    have : 0 < T.length := List.length_pos_of_mem ha
    simp; omega
theorem sorted_ext {l m : List Nat} (hl : l.Pairwise (· < ·)) (hm : m.Pairwise (· < ·)) (h : ∀ x, x ∈ l ↔ x ∈ m) : l = m := by
  induction l generalizing m with
  | nil =>
    cases m with
    | nil => rfl
    | cons b m => exact absurd ((h b).mpr (by simp)) (by simp)
  | cons a l ih =>
    cases m with
    | nil => exact absurd ((h a).mp (by simp)) (by simp)
    | cons b m =>
      rw [List.pairwise_cons] at hl hm
      have e : a = b := by
        have h1 := (h a).mp (by simp)
        have h2 := (h b).mpr (by simp)
        rw [List.mem_cons] at h1 h2
        rcases h1 with h1 | h1
        · exact h1
        · rcases h2 with h2 | h2
          · exact h2.symm
          · have := hl.1 b h2; have := hm.1 a h1; omega
      subst e
      congr 1
      refine ih hl.2 hm.2 fun x => ⟨fun hx => ?_, fun hx => ?_⟩
      · have h1 := (h x).mp (by simp [hx])
        rw [List.mem_cons] at h1
        rcases h1 with h1 | h1
        · have := hl.1 x hx; omega
        · exact h1
      · have h1 := (h x).mpr (by simp [hx])
        rw [List.mem_cons] at h1
        rcases h1 with h1 | h1
        · have := hm.1 x hx; omega
        · exact h1
theorem lt_nodup {l : List Nat} (h : l.Pairwise (· < ·)) : l.Nodup := h.imp (by intro a b; omega)
/-! ### walking on: the path from s -/
def it (f : Nat → Nat) : Nat → Nat → Nat
  | 0, s => s
  | n + 1, s => f (it f n s)
theorem it_add (f : Nat → Nat) (a b s : Nat) : it f (a + b) s = it f a (it f b s) := by
  induction a with
  | zero => simp [it]
  | succ a ih => rw [Nat.succ_add, it, it, ih]
def path (f : Nat → Nat) (s : Nat) (m : Nat) : List Nat := (List.range (m + 1)).map fun i => it f i s
theorem path_succ (f : Nat → Nat) (s m : Nat) : path f s (m + 1) = path f s m ++ [it f (m + 1) s] := by
  unfold path; rw [List.range_succ, List.map_append]; rfl
theorem path_zero (f : Nat → Nat) (s : Nat) : path f s 0 = [s] := rfl
@[simp] theorem path_len (f : Nat → Nat) (s m : Nat) : (path f s m).length = m + 1 := by simp [path]
theorem nth_path (f : Nat → Nat) (s m : Nat) {i : Nat} (h : i ≤ m) : nth (path f s m) i = it f i s := by
  have : i < m + 1 := by omega
  simp [nth, path, this]
theorem mem_path {f : Nat → Nat} {s m x : Nat} : x ∈ path f s m ↔ ∃ i, i ≤ m ∧ it f i s = x := by
  simp only [path, List.mem_map, List.mem_range]
  constructor
  · rintro ⟨i, h, e⟩; exact ⟨i, by omega, e⟩
  · rintro ⟨i, h, e⟩; exact ⟨i, by omega, e⟩
theorem it_mem {f : Nat → Nat} {T : List Nat} (hf : ∀ x ∈ T, f x ∈ T) {s : Nat} (hs : s ∈ T) : ∀ n, it f n s ∈ T
  | 0 => hs
  | n + 1 => hf _ (it_mem hf hs n)
/-- c is how many steps it takes to come back to s -/
structure Cl (f : Nat → Nat) (s c : Nat) : Prop where
  pos : 1 ≤ c
  back : it f c s = s
  least : ∀ j, 1 ≤ j → j < c → it f j s ≠ s
def On (f : Nat → Nat) (s : Nat) : Prop := ∃ c, 1 ≤ c ∧ it f c s = s
theorem On.cl {f : Nat → Nat} {s : Nat} (h : On f s) : ∃ c, Cl f s c := by
  obtain ⟨c, h1, h2⟩ := h
  induction c using Nat.strongRecOn with
  | _ c ih =>
    by_cases h : ∃ j, 1 ≤ j ∧ j < c ∧ it f j s = s
    · obtain ⟨j, a, b, e⟩ := h
      exact ih j b a e
    · exact ⟨c, h1, h2, fun j a b e => h ⟨j, a, b, e⟩⟩
theorem Cl.inj {f : Nat → Nat} {s c : Nat} (h : Cl f s c) {i j : Nat} (hi : i < j) (hj : j < c) : it f i s ≠ it f j s := fun e => by
  refine h.least (c - j + i) (by omega) (by omega) ?_
  rw [it_add, e, ← it_add, show c - j + j = c by omega, h.back]
theorem Cl.nodup {f : Nat → Nat} {s c : Nat} (h : Cl f s c) {m : Nat} (hm : m < c) : (path f s m).Nodup := by
  unfold path
  rw [List.nodup_iff_pairwise_ne, List.pairwise_map]
  refine List.pairwise_lt_range.imp_of_mem fun {i j} hi hj hij => ?_
  rw [List.mem_range] at hj
  exact h.inj hij (by omega)
theorem Cl.le {f : Nat → Nat} {T : List Nat} (hf : ∀ x ∈ T, f x ∈ T) {s c : Nat} (hs : s ∈ T) (h : Cl f s c) : c ≤ T.length := by
  have h1 := h.pos
  have := nodup_len (h.nodup (m := c - 1) (by omega)) fun x hx => by
    obtain ⟨i, _, rfl⟩ := mem_path.mp hx
    exact it_mem hf hs i
  rw [path_len] at this; omega
theorem On.step {f : Nat → Nat} {s : Nat} (h : On f s) : On f (f s) := by
  obtain ⟨c, h1, h2⟩ := h
  refine ⟨c, h1, ?_⟩
  show it f c (it f 1 s) = it f 1 s
  rw [← it_add, Nat.add_comm, it_add, h2]
theorem On.it {f : Nat → Nat} {s : Nat} (h : On f s) : ∀ n, On f (it f n s)
  | 0 => h
  | n + 1 => (On.it h n).step
/-- the program's ring: until the next one stands in the row -/
def ringP (f : Nat → Nat) (s : Nat) : Nat → Nat → Nat
  | 0, m => m
  | n + 1, m => if it f (m + 1) s ∈ path f s m then m else ringP f s n (m + 1)
/-- the law's ring: until the next one is s -/
def ringQ (f : Nat → Nat) (s : Nat) : Nat → Nat → Nat
  | 0, m => m
  | n + 1, m => if it f (m + 1) s = s then m else ringQ f s n (m + 1)
theorem ringP_cl {f : Nat → Nat} {s c : Nat} (h : Cl f s c) : ∀ n m, m < c → c ≤ m + 1 + n → ringP f s n m = c - 1
  | 0, m, h1, h2 => by unfold ringP; omega
  | n + 1, m, h1, h2 => by
    unfold ringP
    by_cases hm : m + 1 = c
    · rw [if_pos (by rw [hm, h.back]; exact mem_path.mpr ⟨0, by omega, rfl⟩)]; omega
    · rw [if_neg, ringP_cl h n (m + 1) (by omega) (by omega)]
      intro e
      obtain ⟨i, hi, e⟩ := mem_path.mp e
      exact h.inj (i := i) (j := m + 1) (by omega) (by omega) e
theorem ringQ_cl {f : Nat → Nat} {s c : Nat} (h : Cl f s c) : ∀ n m, m < c → c ≤ m + 1 + n → ringQ f s n m = c - 1
  | 0, m, h1, h2 => by unfold ringQ; omega
  | n + 1, m, h1, h2 => by
    unfold ringQ
    by_cases hm : m + 1 = c
    · rw [if_pos (by rw [hm, h.back])]; omega
    · rw [if_neg (h.least (m + 1) (by omega) (by omega)), ringQ_cl h n (m + 1) (by omega) (by omega)]
theorem ring_same {f : Nat → Nat} {T : List Nat} (hf : ∀ x ∈ T, f x ∈ T) {s : Nat} (hs : s ∈ T) :
    (it f (ringP f s T.length 0 + 1) s = s ↔ On f s) ∧ (it f (ringQ f s T.length 0 + 1) s = s ↔ On f s) ∧ ∀ c, Cl f s c → ringP f s T.length 0 = c - 1 ∧ ringQ f s T.length 0 = c - 1 := by
  have key : ∀ c, Cl f s c → ringP f s T.length 0 = c - 1 ∧ ringQ f s T.length 0 = c - 1 := fun c h => by
    have h1 := h.le hf hs
    have h2 := h.pos
    exact ⟨ringP_cl h _ _ (by omega) (by omega), ringQ_cl h _ _ (by omega) (by omega)⟩
  refine ⟨⟨fun e => ⟨_, by omega, e⟩, fun h => ?_⟩, ⟨fun e => ⟨_, by omega, e⟩, fun h => ?_⟩, key⟩
  · obtain ⟨c, h⟩ := h.cl
    rw [(key c h).1, Nat.sub_add_cancel h.pos, h.back]
  · obtain ⟨c, h⟩ := h.cl
    rw [(key c h).2, Nat.sub_add_cancel h.pos, h.back]
/-- the rings, each from its least on -/
def ringAt (f : Nat → Nat) (T : List Nat) (s : Nat) : Option (List Nat) :=
  let m := ringP f s T.length 0
  if it f (m + 1) s = s ∧ (path f s m).min? = some s then some (path f s m) else none
def ringsL (f : Nat → Nat) (T : List Nat) : List (List Nat) := T.filterMap (ringAt f T)
theorem ringAt_some {f : Nat → Nat} {T : List Nat} (hf : ∀ x ∈ T, f x ∈ T) {s : Nat} (hs : s ∈ T) {r : List Nat} : ringAt f T s = some r ↔ ∃ c, Cl f s c ∧ r = path f s (c - 1) ∧ r.min? = some s := by
  obtain ⟨h1, h2, h3⟩ := ring_same hf hs
  unfold ringAt
  constructor
  · intro h
    simp only at h
    split at h
    · rename_i hh
      cases h
      obtain ⟨c, hc⟩ := (h1.mp hh.1).cl
      exact ⟨c, hc, by rw [(h3 c hc).1], hh.2⟩
    · cases h
  · rintro ⟨c, hc, rfl, hm⟩
    simp only
    rw [(h3 c hc).1, if_pos ⟨by rw [Nat.sub_add_cancel hc.pos, hc.back], hm⟩]
theorem Cl.shift {f : Nat → Nat} {s c : Nat} (h : Cl f s c) (i : Nat) : Cl f (it f i s) c := by
  induction i with
  | zero => exact h
  | succ i ih =>
    refine ⟨ih.pos, ?_, fun j h1 h2 e => ?_⟩
    · show it f c (it f 1 (it f i s)) = it f 1 (it f i s)
      rw [← it_add, Nat.add_comm, it_add, ih.back]
    · refine ih.least j h1 h2 ?_
      have e : it f j (it f 1 (it f i s)) = it f 1 (it f i s) := e
      generalize it f i s = x at ih e ⊢
      have e2 : it f (c - 1) (it f j (it f 1 x)) = it f (c - 1) (it f 1 x) := by rw [e]
      rw [← it_add, ← it_add, ← it_add, show c - 1 + 1 = c from Nat.sub_add_cancel ih.pos, ih.back, show c - 1 + j + 1 = j + c by have := ih.pos; omega, it_add, ih.back] at e2
      exact e2
theorem min_path {f : Nat → Nat} {s m : Nat} : ∃ i, i ≤ m ∧ ∀ j, j ≤ m → it f i s ≤ it f j s := by
  induction m with
  | zero => exact ⟨0, by omega, fun j hj => by rw [show j = 0 by omega]; exact Nat.le_refl _⟩
  | succ m ih =>
    obtain ⟨i, h1, h2⟩ := ih
    by_cases h : it f i s ≤ it f (m + 1) s
    · exact ⟨i, by omega, fun j hj => by
        by_cases e : j = m + 1
        · subst e; exact h
        · exact h2 j (by omega)⟩
    · exact ⟨m + 1, by omega, fun j hj => by
        by_cases e : j = m + 1
        · subst e; exact Nat.le_refl _
        · have := h2 j (by omega); omega⟩
theorem min_is {l : List Nat} {a : Nat} (h : a ∈ l) (hl : ∀ b ∈ l, a ≤ b) : l.min? = some a := by
  rw [List.min?_eq_some_iff]
  exact ⟨h, hl⟩
/-- who stands on a ring -/
theorem mem_rings {f : Nat → Nat} {T : List Nat} (hf : ∀ x ∈ T, f x ∈ T) {x : Nat} : x ∈ (ringsL f T).flatten ↔ x ∈ T ∧ On f x := by
  simp only [List.mem_flatten, ringsL, List.mem_filterMap]
  constructor
  · rintro ⟨r, ⟨s, hs, e⟩, hx⟩
    obtain ⟨c, hc, rfl, _⟩ := (ringAt_some hf hs).mp e
    obtain ⟨i, _, rfl⟩ := mem_path.mp hx
    exact ⟨it_mem hf hs i, On.it ⟨c, hc.pos, hc.back⟩ i⟩
  · rintro ⟨hx, ho⟩
    obtain ⟨c, hc⟩ := ho.cl
    obtain ⟨i, h1, h2⟩ := min_path (f := f) (s := x) (m := c - 1)
    have hp := hc.pos
    have hc' := hc.shift i
    have mod : ∀ j, ∃ j', j' ≤ c - 1 ∧ it f j x = it f j' x := by
      intro j
      induction j using Nat.strongRecOn with
      | _ j ih =>
        by_cases hj : j ≤ c - 1
        · exact ⟨j, hj, rfl⟩
        · obtain ⟨j', a, b⟩ := ih (j - c) (by omega)
          refine ⟨j', a, ?_⟩
          rw [← b]
          conv => lhs; rw [show j = (j - c) + c by omega, it_add, hc.back]
    refine ⟨path f (it f i x) (c - 1), ⟨it f i x, it_mem hf hx i, (ringAt_some hf (it_mem hf hx i)).mpr ⟨c, hc', rfl, min_is (mem_path.mpr ⟨0, by omega, rfl⟩) fun b hb => ?_⟩⟩, mem_path.mpr ?_⟩
    · obtain ⟨j, _, rfl⟩ := mem_path.mp hb
      rw [← it_add]
      obtain ⟨j', a, e⟩ := mod (j + i)
      rw [e]; exact h2 j' a
    · by_cases h0 : i = 0
      · subst h0
        exact ⟨0, by omega, rfl⟩
      · refine ⟨c - i, by omega, ?_⟩
        rw [← it_add, show c - i + i = c by omega, hc.back]
theorem some_ring {f : Nat → Nat} {T : List Nat} (hf : ∀ x ∈ T, f x ∈ T) (hT : T ≠ []) : ∃ x ∈ T, On f x := by
  obtain ⟨s, hs⟩ := List.exists_mem_of_ne_nil T hT
  have h : ¬ (path f s T.length).Nodup := fun h => by
    have := nodup_len h fun x hx => by
      obtain ⟨i, _, rfl⟩ := mem_path.mp hx
      exact it_mem hf hs i
    rw [path_len] at this; omega
  have : ∃ i j, i < j ∧ it f i s = it f j s := by
    by_cases hh : ∃ i j, i < j ∧ it f i s = it f j s
    · exact hh
    · exfalso
      apply h
      unfold path
      rw [List.nodup_iff_pairwise_ne, List.pairwise_map]
      exact List.pairwise_lt_range.imp fun {i j} hij e => hh ⟨i, j, hij, e⟩
  obtain ⟨i, j, hij, e⟩ := this
  refine ⟨it f i s, it_mem hf hs i, j - i, by omega, ?_⟩
  rw [← it_add, show j - i + i = j by omega, e]
/-- a ring's next ones -/
theorem path_zip {f : Nat → Nat} {s c : Nat} (h : Cl f s c) : (path f s (c - 1)).drop 1 ++ (path f s (c - 1)).take 1 = (path f s (c - 1)).map f := by
  have hp := h.pos
  apply Eng.ext_nth
  · simp
  · intro k hk
    simp at hk
    rw [Eng.nth_map f (by simp; omega), nth_path _ _ _ (by omega)]
    by_cases hk1 : k < c - 1
    · rw [Eng.nth_app_l (by simp; omega), Eng.nth_drop, nth_path _ _ _ (by omega), Nat.add_comm]; rfl
    · have : k = c - 1 := by omega
      subst this
      rw [Eng.nth_app_r (by simp)]
      simp
      show _ = it f (c - 1 + 1) s
      rw [Nat.sub_add_cancel hp, h.back]
      simp [nth, path, it]

/-! ### wishes -/
def likedL (rs : List (List Nat)) (p : Nat) : List Nat :=
  if p ∈ nth rs p then (nth rs p).take ((nth rs p).idxOf p + 1) else nth rs p ++ [p]
theorem self_liked (rs : List (List Nat)) (p : Nat) : p ∈ likedL rs p := by
  unfold likedL
  split
  · rename_i h
    have h1 := List.idxOf_lt_length_of_mem h
    rw [List.mem_take_iff_getElem]
    exact ⟨(nth rs p).idxOf p, by omega, List.getElem_idxOf h1⟩
  · simp
def point (rs : List (List Nat)) (T : List Nat) (p : Nat) : Nat := ((likedL rs p).filter fun t => decide (t ∈ T)).headD p
/-- the place of a thing -/
def rank (rs : List (List Nat)) (p t : Nat) : Nat := (likedL rs p).idxOf t
theorem head_filter {l : List Nat} {q : Nat → Bool} {d : Nat} (h : ∃ x ∈ l, q x = true) : (l.filter q).headD d ∈ l ∧ q ((l.filter q).headD d) = true ∧ ∀ t, q t = true → l.idxOf ((l.filter q).headD d) ≤ l.idxOf t := by
  induction l with
  | nil => obtain ⟨x, hx, _⟩ := h; simp at hx
  | cons a l ih =>
    by_cases ha : q a = true
    · rw [List.filter_cons, if_pos ha]
      refine ⟨by simp, by simpa using ha, fun t _ => by simp⟩
    · rw [List.filter_cons, if_neg ha]
      obtain ⟨h1, h2, h3⟩ := ih (by
        obtain ⟨x, hx, hq⟩ := h
        rcases List.mem_cons.mp hx with rfl | hx
        · exact absurd hq ha
        · exact ⟨x, hx, hq⟩)
      refine ⟨List.mem_cons.mpr (.inr h1), h2, fun t ht => ?_⟩
      have e1 : a ≠ (l.filter q).headD d := fun e => ha (e ▸ h2)
      have e2 : a ≠ t := fun e => ha (e ▸ ht)
      have f1 : (a == (l.filter q).headD d) = false := by simpa using e1
      have f2 : (a == t) = false := by simpa using e2
      rw [List.idxOf_cons, List.idxOf_cons, f1, f2]
      exact Nat.succ_le_succ (h3 t ht)
theorem point_best {rs : List (List Nat)} {T : List Nat} {p : Nat} (hp : p ∈ T) : point rs T p ∈ T ∧ ∀ t ∈ T, rank rs p (point rs T p) ≤ rank rs p t := by
  obtain ⟨h1, h2, h3⟩ := head_filter (l := likedL rs p) (q := fun t => decide (t ∈ T)) (d := p) ⟨p, self_liked rs p, by simpa using hp⟩
  exact ⟨of_decide_eq_true h2, fun t ht => h3 t (by simpa using ht)⟩
theorem point_liked {rs : List (List Nat)} {T : List Nat} {p : Nat} (hp : p ∈ T) : point rs T p ∈ likedL rs p := (head_filter (l := likedL rs p) (q := fun t => decide (t ∈ T)) (d := p) ⟨p, self_liked rs p, by simpa using hp⟩).1
theorem idx_inj {l : List Nat} {a b : Nat} (ha : a ∈ l) (h : l.idxOf a = l.idxOf b) : a = b := by
  have h1 := List.idxOf_lt_length_of_mem ha
  have h2 : b ∈ l := by
    by_cases hb : b ∈ l
    · exact hb
    · rw [List.idxOf_eq_length hb] at h; omega
  have h3 := List.idxOf_lt_length_of_mem h2
  have e1 := List.getElem_idxOf h1
  have e2 := List.getElem_idxOf h3
  rw [← e1, ← e2]
  congr 1
/-- who points to t at T still points to it at a part that holds it -/
theorem point_sub {rs : List (List Nat)} {T T' : List Nat} {p : Nat} (s : ∀ x ∈ T', x ∈ T) (hp : p ∈ T') (h : point rs T p ∈ T') : point rs T' p = point rs T p := by
  obtain ⟨a1, a2⟩ := point_best (rs := rs) hp
  obtain ⟨b1, b2⟩ := point_best (rs := rs) (s p hp)
  exact idx_inj (point_liked hp) (Nat.le_antisymm (a2 _ h) (b2 _ (s _ a1)))
def nextT (rs : List (List Nat)) (T : List Nat) : List Nat := T.filter fun p => decide (p ∉ (ringsL (point rs T) T).flatten)
theorem point_in (rs : List (List Nat)) (T : List Nat) : ∀ x ∈ T, point rs T x ∈ T := fun _ h => (point_best h).1
theorem mem_next {rs : List (List Nat)} {T : List Nat} {x : Nat} : x ∈ nextT rs T ↔ x ∈ T ∧ ¬ On (point rs T) x := by
  unfold nextT
  rw [List.mem_filter, decide_eq_true_iff, mem_rings (point_in rs T)]
  constructor
  · rintro ⟨a, b⟩; exact ⟨a, fun o => b ⟨a, o⟩⟩
  · rintro ⟨a, b⟩; exact ⟨a, fun o => b o.2⟩
theorem filter_lt {l : List Nat} {q : Nat → Bool} {x : Nat} (hx : x ∈ l) (hq : q x = false) : (l.filter q).length < l.length := by
  induction l with
  | nil => simp at hx
  | cons a l ih =>
    rw [List.filter_cons]
    rcases List.mem_cons.mp hx with rfl | hx
    · rw [if_neg (by simp [hq])]
      have := List.length_filter_le q l
      simp; omega
    · have := ih hx
      split
      · rw [List.length_cons, List.length_cons]; omega
      · rw [List.length_cons]; omega
theorem next_lt {rs : List (List Nat)} {T : List Nat} (h : T ≠ []) : (nextT rs T).length < T.length := by
  obtain ⟨x, hx, ho⟩ := some_ring (point_in rs T) h
  exact filter_lt hx (by rw [decide_eq_false_iff_not, Decidable.not_not, mem_rings (point_in rs T)]; exact ⟨hx, ho⟩)
def roundsL (rs : List (List Nat)) : Nat → List Nat → List (List (List Nat))
  | 0, _ => []
  | n + 1, T => if T = [] then [] else ringsL (point rs T) T :: roundsL rs n (nextT rs T)
/-- what each gets -/
def outR (rs : List (List Nat)) : Nat → List Nat → Nat → Nat
  | 0, _, p => p
  | n + 1, T, p => if p ∈ (ringsL (point rs T) T).flatten then point rs T p else outR rs n (nextT rs T) p
theorem outR_mem {rs : List (List Nat)} : ∀ {n : Nat} {T : List Nat} {p : Nat}, p ∈ T → T.length ≤ n → outR rs n T p ∈ T
  | 0, T, p, h, hn => by have := List.length_pos_of_mem h; omega
  | n + 1, T, p, h, hn => by
    unfold outR
    split
    · exact point_in rs T p h
    · rename_i hh
      have hl := next_lt (rs := rs) (List.ne_nil_of_mem h)
      have := outR_mem (rs := rs) (n := n) (T := nextT rs T) (p := p) (by unfold nextT; rw [List.mem_filter]; exact ⟨h, by simpa using hh⟩) (by omega)
      exact (mem_next.mp this).1
theorem outR_on {rs : List (List Nat)} {n : Nat} {T : List Nat} {p : Nat} (h : p ∈ T) (ho : On (point rs T) p) : outR rs (n + 1) T p = point rs T p := by
  unfold outR; rw [if_pos ((mem_rings (point_in rs T)).mpr ⟨h, ho⟩)]
theorem outR_off {rs : List (List Nat)} {n : Nat} {T : List Nat} {p : Nat} (ho : ¬ On (point rs T) p) : outR rs (n + 1) T p = outR rs n (nextT rs T) p := by
  conv => lhs; unfold outR
  rw [if_neg fun h => ho ((mem_rings (point_in rs T)).mp h).2]
/-- what reaches k by pointing is not out of k's reach -/
theorem reach {rs : List (List Nat)} {k : Nat} : ∀ {n : Nat} {T : List Nat} {g m : Nat}, k ∈ T → g ∈ T → T.length ≤ n → it (point rs T) m g = k → rank rs k (outR rs n T k) ≤ rank rs k g
  | 0, T, g, m, hk, _, hn, _ => by have := List.length_pos_of_mem hk; omega
  | n + 1, T, g, m, hk, hg, hn, hm => by
    by_cases ho : On (point rs T) k
    · rw [outR_on hk ho]
      exact (point_best hk).2 g hg
    · rw [outR_off ho]
      have off : ∀ i, i ≤ m → ¬ On (point rs T) (it (point rs T) i g) := fun i hi o => ho (by
        have := o.it (m - i)
        rwa [← it_add, show m - i + i = m by omega, hm] at this)
      have inT : ∀ i, i ≤ m → it (point rs T) i g ∈ nextT rs T := fun i hi => mem_next.mpr ⟨it_mem (point_in rs T) hg i, off i hi⟩
      have same : ∀ i, i ≤ m → it (point rs (nextT rs T)) i g = it (point rs T) i g := by
        intro i
        induction i with
        | zero => intro _; rfl
        | succ i ih =>
          intro hi
          show point rs (nextT rs T) (it (point rs (nextT rs T)) i g) = point rs T (it (point rs T) i g)
          rw [ih (by omega)]
          exact point_sub (fun x hx => (mem_next.mp hx).1) (inT i (by omega)) (inT (i + 1) hi)
      have hl := next_lt (rs := rs) (List.ne_nil_of_mem hk)
      exact reach (m := m) (mem_next.mpr ⟨hk, ho⟩) (inT 0 (by omega)) (by omega) (by rw [same m (Nat.le_refl _), hm])
theorem it_same {f f' : Nat → Nat} {k g : Nat} (h : ∀ p, p ≠ k → f p = f' p) : ∀ m, (∀ i, i < m → it f' i g ≠ k) → it f m g = it f' m g
  | 0, _ => rfl
  | m + 1, hh => by
    show f (it f m g) = f' (it f' m g)
    rw [it_same h m fun i hi => hh i (by omega), h _ (hh m (by omega))]
/-- telling other wishes gains nothing -/
theorem proof {rs rs' : List (List Nat)} {k : Nat} (hl : ∀ p, p ≠ k → likedL rs p = likedL rs' p) : ∀ {n : Nat} {T : List Nat}, k ∈ T → T.length ≤ n → rank rs k (outR rs n T k) ≤ rank rs k (outR rs' n T k)
  | 0, T, hk, hn => by have := List.length_pos_of_mem hk; omega
  | n + 1, T, hk, hn => by
    have same : ∀ p, p ≠ k → point rs T p = point rs' T p := fun p hp => by unfold point; rw [hl p hp]
    by_cases ho : On (point rs T) k
    · rw [outR_on hk ho]
      exact (point_best hk).2 _ (outR_mem hk hn)
    · by_cases ho' : On (point rs' T) k
      · rw [outR_on hk ho']
        obtain ⟨c, hc⟩ := ho'.cl
        have hp := hc.pos
        refine reach (m := c - 1) hk (point_in rs' T k hk) hn ?_
        have e : ∀ i, it (point rs' T) i (point rs' T k) = it (point rs' T) (i + 1) k := fun i => (it_add (point rs' T) i 1 k).symm
        rw [it_same same (c - 1) fun i hi => by rw [e]; exact hc.least (i + 1) (by omega) (by omega), e, Nat.sub_add_cancel hp, hc.back]
      · rw [outR_off ho, outR_off ho']
        have nx : nextT rs T = nextT rs' T := by
          unfold nextT
          apply List.filter_congr
          intro x hx
          have : On (point rs T) x ↔ On (point rs' T) x := by
            have one : ∀ {f f' : Nat → Nat}, (∀ p, p ≠ k → f p = f' p) → ¬ On f' k → On f' x → On f x := fun {f f'} hs ho' ⟨c, h1, h2⟩ => by
              refine ⟨c, h1, ?_⟩
              rw [it_same hs c fun i _ e => ho' (e ▸ On.it ⟨c, h1, h2⟩ i), h2]
            exact ⟨one (fun p hp => (same p hp).symm) ho, one same ho'⟩
          rw [decide_eq_decide, mem_rings (point_in rs T), mem_rings (point_in rs' T), this]
        rw [nx]
        have hlt := next_lt (rs := rs') (List.ne_nil_of_mem hk)
        exact proof hl (mem_next.mpr ⟨hk, ho'⟩) (by omega)
end TTC
end
section
set_option Elab.async false
set_option linter.all false
set_option maxRecDepth 100000
open Eng
local macro_rules
  | `(Ev $r $q $x) => `(@Ev _ $r (CQ.mk $q) (CX.mk $x))
  | `(Mv $r $q $x) => `(@Mv $r (CM.mk $q) (CY.mk $x))
  | `(Of $r $q) => `(@Of _ $r (CO.mk $q))
  | `(Br $r $p $q) => `(@Br $r (CP.mk $p) (CP.mk $q))
  | `(NX $s $p $e) => `(@NX _ $e (CN.mk $s $p))
namespace K88
open PySem Eng TTC
section
variable {Q : M → List M → Prop} {X : Nat → List D → Prop}
/-! what a value is -/
def isInt : D → Bool
  | .int _ => true
  | _ => false
/-- values that the tests of kinds look at -/
def pl : D → Bool
  | .non => true | .bl _ => true | .int _ => true | .str _ => true | .tup _ => true | .lst _ => true
  | _ => false
theorem is_integer_e {d : D} (h : pl d = true) : m_is_integer [.im d] = .ok (.im (.bl (isInt d)), []) := by
  apply eq_of_mv
  unfold m_is_integer b_is_integer
  cases d <;> simp [pl] at h <;> simp [mv_runF, isInt, isiF]
def inFT : D → Int → Int → Bool
  | .int i, lo, hi => decide (lo ≤ i) && decide (i ≤ hi)
  | _, _, _ => false
theorem is_from_to_e {d : D} {lo hi : Int} (h : pl d = true) : m_is_from_to [.im d, .im (.int lo), .im (.int hi)] = .ok (.im (.bl (inFT d lo hi)), []) := by
  apply eq_of_mv
  unfold m_is_from_to b_is_from_to
  simp [mv_runF, is_integer_e h]
  cases d <;> simp [isInt, inFT]
  rename_i i
  by_cases h1 : lo ≤ i <;> simp [h1, inFT]
def thingsB : D → Int → Bool
  | .tup ds, many => ds.all (fun d => inFT d 0 (many - 1)) && (match intsD ds with | some ns => decide (ns.Nodup) | none => false)
  | _, _ => false
def plT (d : D) : Prop := pl d = true ∧ match d with | .tup ds => (∀ e ∈ ds, pl e = true) ∧ ds.length < 60 | _ => True
theorem ints_of_ft {ds : List D} {many : Int} (h : ds.all (fun d => inFT d 0 (many - 1)) = true) : ∃ ns, intsD ds = some ns := by
  induction ds with
  | nil => exact ⟨[], rfl⟩
  | cons d ds ih =>
    rw [List.all_cons, Bool.and_eq_true] at h
    obtain ⟨ns, e⟩ := ih h.2
    cases d <;> simp [inFT] at h
    rename_i i
    exact ⟨i :: ns, by simp [intsD, e]⟩
theorem ints_len : ∀ {ds : List D} {ns : List Int}, intsD ds = some ns → ns.length = ds.length
  | [], ns, e => by simp [intsD] at e; subst e; rfl
  | .int i :: ds, ns, e => by
    simp [intsD] at e
    obtain ⟨ms, e, rfl⟩ := e
    simp [ints_len e]
theorem are_things_e {d : D} {many : Int} (h : plT d) : m_are_things [.im d, .im (.int many)] = .ok (.im (.bl (thingsB d many)), []) := by
  apply eq_of_mv
  unfold m_are_things b_are_things
  obtain ⟨h1, h2⟩ := h
  cases d with
  | tup ds =>
    obtain ⟨h3, h4⟩ := h2
    simp [mv_runF]
    refine ev_cmp id (fun _ => true) (M.im ∘ (D.bl ∘ fun d => inFT d 0 (many - 1))) (xs := ds) (by simp) (by omega) (fun d hd => ?_) ?_
    · simp [is_from_to_e (h3 d hd)]
    · simp [thingsB]
      refine Br.introB (fun h => ?_) (fun h => ?_)
      · obtain ⟨ns, en⟩ := ints_of_ft h
        have hl := ints_len en
        have := dd_lenI ns
        simp [en, h4, hl, h]
        rw [hl] at this
        have e2 : ((dd ns).length : Int) = (ds.length : Int) ↔ (dd ns).length = ds.length := by omega
        simp only [e2, this, thingsB, h, en, Bool.true_and]
      · simp [thingsB, -Bool.and_eq_false_imp, h]
  | _ => simp [mv_runF, isiF, thingsB, pl] at h1 ⊢
def wishesB : D → Bool
  | .tup ds => (decide (1 ≤ ds.length) && decide (ds.length ≤ 10)) && ds.all fun d => thingsB d ds.length
  | _ => false
def plW (d : D) : Prop := pl d = true ∧ match d with | .tup ds => ∀ e ∈ ds, plT e | _ => True
theorem is_wishes_e {d : D} (h : plW d) : m_is_wishes [.im d] = .ok (.im (.bl (wishesB d)), []) := by
  apply eq_of_mv
  unfold m_is_wishes b_is_wishes
  obtain ⟨h1, h2⟩ := h
  cases d with
  | tup ds =>
    simp [mv_runF]
    refine Br.intro (c := 1 ≤ (ds.length : Int)) (fun c1 => ?_) fun c1 => ?_
    · simp
      refine Br.intro (c := (ds.length : Int) ≤ 10) (fun c2 => ?_) fun c2 => ?_
      · simp
        refine ev_cmp id (fun _ => true) (M.im ∘ (D.bl ∘ fun d => thingsB d ds.length)) (xs := ds) (by simp) (by omega) (fun d hd => ?_) ?_
        · simp [are_things_e (h2 d hd)]
        · have e1 : 1 ≤ ds.length := by omega
          have e2 : ds.length ≤ 10 := by omega
          simp [e1, e2, wishesB]
      · have e2 : ¬ (ds.length ≤ 10) := by omega
        simp [e2, wishesB]
    · have e2 : ds = [] := List.length_eq_zero_iff.mp (by omega)
      subst e2
      simp [wishesB]
  | _ => simp [mv_runF, isiF, wishesB, pl] at h1 ⊢
/-- wishes -/
structure Wi (rs : List (List Nat)) : Prop where
  one : 1 ≤ rs.length
  ten : rs.length ≤ 10
  nd : ∀ r ∈ rs, r.Nodup
  lt : ∀ r ∈ rs, ∀ t ∈ r, t < rs.length
theorem row_len {rs : List (List Nat)} (h : Wi rs) {r : List Nat} (hr : r ∈ rs) : r.length ≤ 10 := by
  have := nodup_len (T := List.range rs.length) (h.nd r hr) fun x hx => List.mem_range.mpr (h.lt r hr x hx)
  rw [List.length_range] at this
  have := h.ten; omega
theorem thingsB_row {r : List Nat} {n : Nat} (h1 : r.Nodup) (h2 : ∀ t ∈ r, t < n) : thingsB (rowD r) n = true := by
  show ((r.map nD).all _ && match intsD (r.map nD) with | some ns => decide ns.Nodup | none => false) = true
  rw [intsD_nat]
  simp only [Bool.and_eq_true, decide_eq_true_eq, nodup_cast]
  refine ⟨?_, h1⟩
  rw [List.all_eq_true]
  intro d hd
  obtain ⟨t, ht, rfl⟩ := List.mem_map.mp hd
  have := h2 t ht
  simp [inFT]; omega
theorem pl_row (r : List Nat) (h : r.length < 60) : plT (rowD r) := by
  refine ⟨rfl, ?_⟩
  show (∀ e ∈ r.map nD, _) ∧ _
  refine ⟨fun e he => ?_, by simpa using h⟩
  obtain ⟨t, _, rfl⟩ := List.mem_map.mp he
  rfl
theorem Wi.plW {rs : List (List Nat)} (h : Wi rs) : plW (rowsD rs) := by
  refine ⟨rfl, ?_⟩
  show ∀ e ∈ rs.map rowD, _
  intro e he
  obtain ⟨r, hr, rfl⟩ := List.mem_map.mp he
  have := row_len h hr
  exact pl_row r (by omega)
theorem Wi.wishesB {rs : List (List Nat)} (h : Wi rs) : wishesB (rowsD rs) = true := by
  have h1 := h.one
  have h2 := h.ten
  unfold rowsD K88.wishesB
  simp only [List.length_map, h1, h2, decide_true, Bool.true_and, List.all_eq_true]
  intro d hd
  obtain ⟨r, hr, rfl⟩ := List.mem_map.mp hd
  exact thingsB_row (h.nd r hr) (h.lt r hr)
theorem check_wishes_ok {d : D} (h : plW d) (hw : wishesB d = true) : m_check_wishes [.im d] = .ok (.im .non, []) := by
  apply eq_of_mv
  unfold m_check_wishes b_check_wishes
  simp [mv_runF, is_wishes_e h, hw]
theorem check_wishes_ex {d : D} (h : plW d) (hw : wishesB d = false) : exr (m_check_wishes [.im d]) 3 [d] := by
  apply exr_of_mv
  unfold m_check_wishes b_check_wishes
  simp [mv_runF, is_wishes_e h, hw]
theorem liked_e {rs : List (List Nat)} {p : Nat} (hp : p < rs.length) (hz : (nth rs p).length ≤ 100) : m_liked [.im (.tup (rs.map rowD)), .im (.int (p : Int))] = .ok (.im (rowD (likedL rs p)), []) := by
  apply eq_of_mv
  unfold m_liked b_liked
  simp [mv_runF, hp]
  refine Br.intro (c := p ∈ nth rs p) (fun h => ?_) (fun h => ?_)
  · simp [likedL, h]
  · simp [likedL, h]; omega
theorem liked_len {rs : List (List Nat)} (h : Wi rs) {p : Nat} (hp : p < rs.length) : (likedL rs p).length ≤ 11 := by
  have := row_len h (nth_mem hp)
  unfold likedL
  split <;> simp <;> omega
theorem place_for_e {rs : List (List Nat)} (h : Wi rs) {p t : Nat} (hp : p < rs.length) : m_place_for [.im (.tup (rs.map rowD)), .im (.int (p : Int)), .im (.int (t : Int))] = .ok (.im (.int (rank rs p t : Nat)), []) := by
  apply eq_of_mv
  unfold m_place_for b_place_for
  have := row_len h (nth_mem hp)
  simp [mv_runF, liked_e hp (by omega)]
  refine Br.intro (c := t ∈ likedL rs p) (fun h => ?_) (fun h => ?_)
  · simp [rank, h]
  · simp [rank, List.idxOf_eq_length h]
theorem likes_better_e {rs : List (List Nat)} (h : Wi rs) {p t o : Nat} (hp : p < rs.length) : m_likes_better [.im (.tup (rs.map rowD)), .im (.int (p : Int)), .im (.int (t : Int)), .im (.int (o : Int))] = .ok (.im (.bl (decide (rank rs p t < rank rs p o))), []) := by
  apply eq_of_mv
  unfold m_likes_better b_likes_better
  simp [mv_runF, place_for_e h hp]
theorem inFT_nat {p n : Nat} (h : p < n) : inFT (.int (p : Int)) 0 ((n : Int) - 1) = true := by
  simp [inFT]; omega
/-- who points to whose thing -/
def pkv (rs : List (List Nat)) (T : List Nat) (U : List Nat) : List (Nat × Nat) := U.map fun p => (p, point rs T p)
theorem nth0 {l : List Nat} {d : Nat} (h : 0 < l.length) : nth l 0 = l.headD d := by
  cases l with
  | nil => simp at h
  | cons a l => rfl
theorem pointed_e {rs : List (List Nat)} (h : Wi rs) {T : List Nat} (hT : ∀ p ∈ T, p < rs.length) (hl : T.length ≤ 100) (nd : T.Nodup) : m_pointed [.im (.tup (rs.map rowD)), .im (.tup (T.map nD))] = .ok (dcN nD (pkv rs T T), []) := by
  apply eq_of_mv
  unfold m_pointed b_pointed
  simp [mv_runF]
  refine ev_loop (xs := T) nD (fun s : Option M × List (Nat × Nat) => [some (.im (.tup (rs.map rowD))), some (.im (.tup (T.map nD))), some (dcN nD s.2), s.1, none])
    (fun pre _ s => s.2 = pkv rs T pre) (none, []) (by simp) (by simp [dcN_nil nD]) rfl ?_ ?_
  · rintro pre p post ⟨o, kv⟩ e1 rfl
    have hpT : p ∈ T := by simp [e1]
    have hp := hT p hpT
    have h1 := row_len h (nth_mem hp)
    simp [liked_e hp (show (nth rs p).length ≤ 100 by omega)]
    have h2 := liked_len h hp
    refine ev_cmp nD (fun t => decide (t ∈ T)) (M.im ∘ nD) (xs := likedL rs p) rfl (by omega) (fun t ht => ?_) ?_
    · simp
      by_cases hh : t ∈ T <;> simp [hh]
    · have hpos : 0 < ((likedL rs p).filter fun t => decide (t ∈ T)).length := List.length_pos_of_mem (List.mem_filter.mpr ⟨self_liked rs p, by simpa using hpT⟩)
      have hkl : (pkv rs T pre).length < 16777216 := by
        have : pre.length ≤ T.length := by rw [e1]; simp
        simp [pkv]; omega
      simp [hpos, hkl]
      refine NX.mk (_, kvPut (pkv rs T pre) p (nth ((likedL rs p).filter fun t => decide (t ∈ T)) 0)) rfl ?_
      rw [nth0 (d := p) hpos]
      show kvPut _ _ (point rs T p) = _
      unfold kvPut
      rw [if_neg]
      · simp [pkv]
      · rw [e1, List.nodup_append] at nd
        simp only [pkv, List.map_map, List.mem_map, Function.comp]
        rintro ⟨q, hq, e⟩
        exact nd.2.2 q hq p (by simp) e
  · rintro ⟨o, kv⟩ rfl
    simp
end
end K88
end
section
set_option Elab.async false
set_option linter.all false
set_option maxRecDepth 100000
open Eng
local macro_rules
  | `(Ev $r $q $x) => `(@Ev _ $r (CQ.mk $q) (CX.mk $x))
  | `(Mv $r $q $x) => `(@Mv $r (CM.mk $q) (CY.mk $x))
  | `(Of $r $q) => `(@Of _ $r (CO.mk $q))
  | `(Br $r $p $q) => `(@Br $r (CP.mk $p) (CP.mk $q))
  | `(NX $s $p $e) => `(@NX _ $e (CN.mk $s $p))
namespace K88
open PySem Eng TTC
theorem kvGet_fun {f : Nat → Nat} {T : List Nat} {x : Nat} (h : x ∈ T) : kvGet (T.map fun p => (p, f p)) x = some (f x) := by
  induction T with
  | nil => simp at h
  | cons a T ih =>
    rw [List.map_cons, kvGet_cons]
    by_cases e : a = x
    · simp [e]
    · rw [if_neg e]
      rcases List.mem_cons.mp h with h | h
      · exact absurd h.symm e
      · exact ih h
theorem kvGet_pkv {rs : List (List Nat)} {T : List Nat} {x : Nat} (h : x ∈ T) : kvGet (pkv rs T T) x = some (point rs T x) := kvGet_fun h
/-- who is still there -/
structure Th (N : Nat) (T : List Nat) : Prop where
  lt : T.Pairwise (· < ·)
  up : ∀ x ∈ T, x < N
theorem Th.len {N : Nat} {T : List Nat} (h : Th N T) : T.length ≤ N := by
  have := nodup_len (T := List.range N) (lt_nodup h.lt) fun x hx => List.mem_range.mpr (h.up x hx)
  rwa [List.length_range] at this
theorem ring_from_e {rs : List (List Nat)} {T : List Nat} (hT : T.length ≤ 10) {s : Nat} (hs : s ∈ T) : m_ring_from [.im (dctN nD (pkv rs T T)), .im (.int (s : Int))] = .ok (.im (rowD (path (point rs T) s (ringP (point rs T) s T.length 0))), []) := by
  apply eq_of_mv
  unfold m_ring_from b_ring_from
  simp [mv_runF]
  let f := point rs T
  have hf := point_in rs T
  refine ev_while (fun m : Nat => [some (.im (dctN nD (pkv rs T T))), some (.im (.int (s : Int))), some (.ls ((path f s m).map (M.im ∘ nD)))])
    (fun m => (path f s m).Nodup ∧ ringP f s (T.length - m) m = ringP f s T.length 0) (fun m => 20 - m) 0 (by simp [path_zero]) ⟨by simp [path_zero], by simp⟩ (by omega) ?_
  rintro m ⟨h1, h2⟩
  have hl := nodup_len h1 fun x hx => by
    obtain ⟨i, _, rfl⟩ := mem_path.mp hx
    exact it_mem hf hs i
  rw [path_len] at hl
  have hk : kvGet (pkv rs T T) (it f m s) = some (it f (m + 1) s) := kvGet_pkv (it_mem hf hs m)
  obtain ⟨n, hn⟩ : ∃ n, T.length - m = n + 1 := ⟨T.length - m - 1, by omega⟩
  rw [hn] at h2
  rw [show ringP f s (n + 1) m = if it f (m + 1) s ∈ path f s m then m else ringP f s n (m + 1) from rfl] at h2
  simp [nth_path, hk]
  refine Br.intro (c := it f (m + 1) s ∈ path f s m) (fun h => ?_) fun h => ?_
  · rw [if_pos h] at h2
    simp [h2]
    rfl
  · rw [if_neg h] at h2
    simp [nth_path, hk]
    refine ⟨by omega, NX.mk (m + 1) (by simp [path_succ]) ⟨⟨?_, ?_⟩, by omega⟩⟩
    · rw [path_succ, List.nodup_append]
      exact ⟨h1, by simp, by simp; intro a ha e; exact h (e ▸ ha)⟩
    · rw [← h2]; show ringP f s (T.length - (m + 1)) (m + 1) = _; rw [show T.length - (m + 1) = n by omega]
theorem rings_of_e {rs : List (List Nat)} {N : Nat} {T : List Nat} (h : Th N T) (hN : N ≤ 10) : m_rings_of [.im (dctN nD (pkv rs T T))] = .ok (.im (rowsD (ringsL (point rs T) T)), []) := by
  apply eq_of_mv
  unfold m_rings_of b_rings_of
  have hl := h.len
  have hs : (pkv rs T T).map (·.1) = T := by simp [pkv, Function.comp_def]
  have hs2 : (pkv rs T T).length < 64 := by simp [pkv]; omega
  have hms : T.mergeSort (fun a b => decide (a ≤ b)) = T := msort_sorted (h.lt.imp (by intro a b; omega))
  simp [mv_runF, sortedDF_kv, hs2, hs, hms]
  refine ev_loop (xs := T) nD (fun s : Option M × Option M × List (List Nat) => [some (.im (dctN nD (pkv rs T T))), some (.ls (s.2.2.map (M.im ∘ rowD))), s.1, s.2.1])
    (fun pre _ s => s.2.2 = pre.filterMap (ringAt (point rs T) T)) (none, none, []) rfl (by simp) rfl ?_ ?_
  · rintro pre s post ⟨o1, o2, R0⟩ e hR
    have hR : R0 = _ := hR
    have hsT : s ∈ T := by simp [e]
    have hf := point_in rs T
    have hrl : R0.length ≤ 10 := by
      have h1 := List.length_filterMap_le (ringAt (point rs T) T) pre
      have h2 : pre.length ≤ T.length := by rw [e]; simp
      rw [hR]; omega
    simp [ring_from_e (by omega) hsT]
    generalize hm : ringP (point rs T) s T.length 0 = m
    have hk : kvGet (pkv rs T T) (it (point rs T) m s) = some (it (point rs T) (m + 1) s) := kvGet_pkv (it_mem hf hsT m)
    simp [nth_path, hk]
    have e1 : ringAt (point rs T) T s = if it (point rs T) (m + 1) s = s ∧ (path (point rs T) s m).min? = some s then some (path (point rs T) s m) else none := by
      unfold ringAt; rw [hm]
    refine Br.intro (c := (it (point rs T) (m + 1) s : Int) = s) (fun h1 => ?_) fun h1 => ?_
    · simp
      obtain ⟨mn, hmn⟩ : ∃ mn, (path (point rs T) s m).min? = some mn := by
        cases hh : (path (point rs T) s m).min? with
        | none => rw [List.min?_eq_none_iff] at hh; have := path_len (point rs T) s m; rw [hh] at this; simp at this
        | some mn => exact ⟨mn, rfl⟩
      have h1' : it (point rs T) (m + 1) s = s := by omega
      simp [hmn]
      refine Br.intro (c := (s : Int) = mn) (fun h2 => ?_) fun h2 => ?_
      · have h2' : mn = s := by omega
        simp
        refine ⟨by omega, NX.mk (_, _, R0 ++ [path (point rs T) s m]) (by simp; exact ⟨rfl, rfl⟩) ?_⟩
        show _ = List.filterMap _ (pre ++ [s])
        rw [List.filterMap_append, ← hR]
        simp [e1, h1', hmn, h2']
      · have h2' : ¬ (mn = s) := by omega
        simp
        refine NX.mk (_, _, R0) rfl ?_
        show _ = List.filterMap _ (pre ++ [s])
        rw [List.filterMap_append, ← hR]
        simp [e1, hmn, h2']
    · have h1' : ¬ (it (point rs T) (m + 1) s = s) := by omega
      simp
      refine NX.mk (_, _, R0) rfl ?_
      show _ = List.filterMap _ (pre ++ [s])
      rw [List.filterMap_append, ← hR]
      simp [e1, h1']
  · rintro ⟨o1, o2, R⟩ rfl
    simp [ringsL]
end K88
end
section
set_option Elab.async false
set_option linter.all false
set_option maxRecDepth 100000
open Eng
local macro_rules
  | `(Ev $r $q $x) => `(@Ev _ $r (CQ.mk $q) (CX.mk $x))
  | `(Mv $r $q $x) => `(@Mv $r (CM.mk $q) (CY.mk $x))
  | `(Of $r $q) => `(@Of _ $r (CO.mk $q))
  | `(Br $r $p $q) => `(@Br $r (CP.mk $p) (CP.mk $q))
  | `(NX $s $p $e) => `(@NX _ $e (CN.mk $s $p))
namespace TTC
theorem rounds_fuel {rs : List (List Nat)} : ∀ {n m : Nat} {T : List Nat}, T.length ≤ n → T.length ≤ m → roundsL rs n T = roundsL rs m T
  | 0, 0, _, _, _ => rfl
  | 0, m + 1, T, h, _ => by
    have : T = [] := List.length_eq_zero_iff.mp (by omega)
    subst this; rfl
  | n + 1, 0, T, _, h => by
    have : T = [] := List.length_eq_zero_iff.mp (by omega)
    subst this; rfl
  | n + 1, m + 1, T, h1, h2 => by
    by_cases e : T = []
    · subst e; rfl
    · have := next_lt (rs := rs) e
      simp only [roundsL, if_neg e]
      rw [rounds_fuel (n := n) (m := m) (T := nextT rs T) (by omega) (by omega)]
end TTC
namespace K88
open PySem Eng TTC
theorem Th.next {N : Nat} {rs : List (List Nat)} {T : List Nat} (h : Th N T) : Th N (nextT rs T) :=
  ⟨h.lt.sublist List.filter_sublist, fun x hx => h.up x (mem_next.mp hx).1⟩
theorem Th.range (N : Nat) : Th N (List.range N) := ⟨List.pairwise_lt_range, fun x hx => List.mem_range.mp hx⟩
theorem rings_len {f : Nat → Nat} {T : List Nat} : (ringsL f T).length ≤ T.length := List.length_filterMap_le _ _
theorem ring_len {f : Nat → Nat} {T : List Nat} (hf : ∀ x ∈ T, f x ∈ T) {r : List Nat} (h : r ∈ ringsL f T) : r.length ≤ T.length := by
  obtain ⟨s, hs, e⟩ := List.mem_filterMap.mp h
  obtain ⟨c, hc, rfl, _⟩ := (ringAt_some hf hs).mp e
  have := hc.le hf hs
  have := hc.pos
  simp; omega
theorem flat_nD (R : List (List Nat)) : (R.flatMap fun x => x.map fun (y : Nat) => M.im (D.int (y : Int))) = R.flatten.map (M.im ∘ nD) := by
  rw [List.map_flatten, List.flatMap_def]; rfl
theorem all_rounds_e {rs : List (List Nat)} (h : Wi rs) : m_all_rounds [.im (.tup (rs.map rowD))] = .ok (.im (.tup ((roundsL rs rs.length (List.range rs.length)).map rowsD)), []) := by
  apply eq_of_mv
  have h10 := h.ten
  unfold m_all_rounds b_all_rounds
  simp [mv_runF]
  refine ⟨by omega, ?_⟩
  refine ev_while (fun s : List (List (List Nat)) × List Nat × Option M × Option M => [some (.im (.tup (rs.map rowD))), some (.ls (s.1.map (M.im ∘ rowsD))), some (.im (.tup (s.2.1.map nD))), s.2.2.1, s.2.2.2, none, none])
    (fun s => Th rs.length s.2.1 ∧ s.1 ++ roundsL rs s.2.1.length s.2.1 = roundsL rs rs.length (List.range rs.length) ∧ s.1.length + s.2.1.length ≤ rs.length) (fun s => s.2.1.length) ([], List.range rs.length, none, none) (by simp) ⟨Th.range _, by simp, by simp⟩ (by simp; omega) ?_
  rintro ⟨R, T, o3, o4⟩ ⟨hT, hR, hl⟩
  have hT : Th rs.length T := hT
  have hR : R ++ roundsL rs T.length T = _ := hR
  have hl : R.length + T.length ≤ rs.length := hl
  have hlT := hT.len
  simp
  refine Br.intro (c := 0 < T.length) (fun hc => ?_) fun hc => ?_
  · have hpe : m_pointed [.im (.tup (rs.map rowD)), .im (.tup (T.map nD))] = _ := pointed_e h hT.up (by omega) (lt_nodup hT.lt)
    simp [hpe, rings_of_e hT h10]
    refine ⟨by omega, ?_⟩
    have hf := point_in rs T
    refine ev_cmp2 rowD (fun _ => true) id nD (fun _ _ => true) (fun _ y => .im (nD y)) 10 (xs := ringsL (point rs T) T) rfl (by have := rings_len (f := point rs T) (T := T); omega) (fun r hr => by have := ring_len hf hr; simp; omega) (fun r hr => ?_) ?_
    · simp
    · simp [flat_nD, -List.map_flatten]
      generalize hG : (ringsL (point rs T) T).flatten = G
      refine ev_cmp nD (fun p => decide (p ∉ G)) (M.im ∘ nD) (xs := T) rfl (by omega) (fun p hp => ?_) ?_
      · by_cases hh : p ∈ G <;> simp [hh]
      · simp
        have hn : T ≠ [] := fun e => by subst e; simp at hc
        have hlt := next_lt (rs := rs) hn
        have e1 : roundsL rs T.length T = ringsL (point rs T) T :: roundsL rs (nextT rs T).length (nextT rs T) := by
          obtain ⟨n, hn'⟩ : ∃ n, T.length = n + 1 := ⟨T.length - 1, by omega⟩
          rw [hn', roundsL, if_neg hn, rounds_fuel (by omega) (Nat.le_refl _)]
        refine NX.mk (R ++ [ringsL (point rs T) T], nextT rs T, _, _) (by simp only [nextT, hG]; simp; exact ⟨rfl, rfl⟩) ⟨⟨hT.next, ?_, ?_⟩, ?_⟩
        · show R ++ [_] ++ roundsL rs (nextT rs T).length (nextT rs T) = _
          rw [← hR, e1]; simp
        · show (R ++ [_]).length + (nextT rs T).length ≤ _
          simp; omega
        · exact hlt
  · have : T = [] := List.length_eq_zero_iff.mp (by omega)
    subst this
    simp [← hR, roundsL]
/-- what each gets at the end -/
def out (rs : List (List Nat)) (p : Nat) : Nat := outR rs rs.length (List.range rs.length) p
theorem ring_ok {rs : List (List Nat)} {N : Nat} : ∀ {n : Nat} {T : List Nat}, Th N T → T.length ≤ n → ∀ R ∈ roundsL rs n T, ∀ r ∈ R,
    ∃ f s c, Cl f s c ∧ r = path f s (c - 1) ∧ r.length ≤ N ∧ ∀ x ∈ r, f x = outR rs n T x ∧ x < N ∧ f x < N ∧ x ∈ T
  | 0, T, _, _, R, hR, _, _ => by simp [roundsL] at hR
  | n + 1, T, hT, hn, R, hR, r, hr => by
    unfold roundsL at hR
    split at hR
    · simp at hR
    · rename_i hne
      have hf := point_in rs T
      rcases List.mem_cons.mp hR with rfl | hR
      · obtain ⟨s, hs, e⟩ := List.mem_filterMap.mp hr
        obtain ⟨c, hc, e2, _⟩ := (ringAt_some hf hs).mp e
        refine ⟨point rs T, s, c, hc, e2, Nat.le_trans (ring_len hf hr) hT.len, fun x hx => ?_⟩
        have hx' := (mem_rings hf).mp (List.mem_flatten.mpr ⟨r, hr, hx⟩)
        exact ⟨(outR_on hx'.1 hx'.2).symm, hT.up x hx'.1, hT.up _ (hf x hx'.1), hx'.1⟩
      · have hl := next_lt (rs := rs) hne
        obtain ⟨f, s, c, h1, h2, h3, h4⟩ := ring_ok hT.next (by omega) R hR r hr
        refine ⟨f, s, c, h1, h2, h3, fun x hx => ?_⟩
        obtain ⟨a, b, c', d⟩ := h4 x hx
        obtain ⟨e1, e2⟩ := mem_next.mp d
        exact ⟨by rw [outR_off e2]; exact a, b, c', e1⟩
theorem cover {rs : List (List Nat)} : ∀ {n : Nat} {T : List Nat}, T.length ≤ n → ∀ x ∈ T, ∃ R ∈ roundsL rs n T, ∃ r ∈ R, x ∈ r
  | 0, T, hn, x, hx => by have := List.length_pos_of_mem hx; omega
  | n + 1, T, hn, x, hx => by
    have hne := List.ne_nil_of_mem hx
    rw [roundsL, if_neg hne]
    by_cases ho : On (point rs T) x
    · obtain ⟨r, hr, hxr⟩ := List.mem_flatten.mp ((mem_rings (point_in rs T)).mpr ⟨hx, ho⟩)
      exact ⟨_, by simp, r, hr, hxr⟩
    · have hl := next_lt (rs := rs) hne
      obtain ⟨R, hR, r, hr, hxr⟩ := cover (rs := rs) (n := n) (T := nextT rs T) (by omega) x (mem_next.mpr ⟨hx, ho⟩)
      exact ⟨R, by simp [hR], r, hr, hxr⟩
theorem pairsD_ps {ps : List (Nat × Nat)} (h : ∀ p ∈ ps, p.1 < 64 ∧ p.2 < 64) : pairsD (ps.map pairD) = some ps := by
  induction ps with
  | nil => rfl
  | cons p ps ih =>
    obtain ⟨h1, h2⟩ := h p (by simp)
    rw [List.map_cons]
    show pairsD (.tup [.int p.1, .int p.2] :: _) = _
    rw [pairsD, if_pos ⟨by omega, by omega, by omega, by omega⟩, ih fun q hq => h q (by simp [hq])]
    simp
theorem sortedPF_ps {ps : List (Nat × Nat)} (h : ∀ p ∈ ps, p.1 < 64 ∧ p.2 < 64) (hl : ps.length < 64) : sortedPF [.lst (ps.map pairD)] = some (.ls ((ps.mergeSort pairLe).map (M.im ∘ pairD))) := by
  show (pairsD (ps.map pairD)).bind _ = _
  rw [pairsD_ps h]
  simp [hl, Function.comp_def]
/-- the pairs of a ring -/
def prs (f : Nat → Nat) (r : List Nat) : List (Nat × Nat) := (r.map fun x => (x, f x)).mergeSort pairLe
theorem mem_prs {f : Nat → Nat} {r : List Nat} {p : Nat × Nat} : p ∈ prs f r ↔ p.1 ∈ r ∧ p.2 = f p.1 := by
  unfold prs
  rw [List.mem_mergeSort]
  simp only [List.mem_map]
  constructor
  · rintro ⟨x, hx, rfl⟩; exact ⟨hx, rfl⟩
  · rintro ⟨h1, h2⟩; exact ⟨p.1, h1, by rw [← h2]⟩
theorem zip_two {α β γ : Type} (a : α → β) (b : α → γ) (xs : List α) : (xs.map a).zip (xs.map b) = xs.map fun x => (a x, b x) := by
  induction xs with
  | nil => rfl
  | cons x xs ih => simp [ih]
theorem shared_in_e {f : Nat → Nat} {s c N : Nat} (h : Cl f s c) (hN : N ≤ 10) (hl : (path f s (c - 1)).length ≤ N) (hx : ∀ x ∈ path f s (c - 1), x < N ∧ f x < N) :
    m_shared_in [.im (rowD (path f s (c - 1)))] = .ok (.im (.tup ((prs f (path f s (c - 1))).map pairD)), []) := by
  apply eq_of_mv
  have hz := path_zip h
  generalize hr : path f s (c - 1) = r at *
  unfold m_shared_in b_shared_in
  simp [mv_runF]
  have e1 : (List.map nD r).tail ++ List.take 1 (List.map nD r) = (r.map f).map nD := by
    rw [← hz]; simp
  have e2 : zipD (r.map nD) ((r.map f).map nD) = r.map fun x => .tup [.int (x : Nat), .int (f x : Nat)] := by
    unfold zipD
    rw [List.map_map, zip_two, List.map_map]; rfl
  rw [e1, e2]
  refine ⟨by omega, ?_⟩
  refine ev_cmp (fun x => .tup [.int (x : Nat), .int (f x : Nat)]) (fun _ => true) (M.im ∘ (pairD ∘ fun x => (x, f x))) (xs := r) rfl (by omega) (fun x hx => ?_) ?_
  · simp [pairD]
  · have e3 := sortedPF_ps (ps := r.map fun x => (x, f x)) (by
      intro p hp
      obtain ⟨x, hx', rfl⟩ := List.mem_map.mp hp
      have := hx x hx'
      exact ⟨by show x < 64; omega, by show f x < 64; omega⟩) (by simp; omega)
    rw [List.map_map] at e3
    simp [e3, prs]
/-- the dict of what is given -/
structure KV (N : Nat) (o : Nat → Nat) (done : List Nat) (kv : List (Nat × Nat)) : Prop where
  nd : (kv.map (·.1)).Nodup
  up : ∀ k ∈ kv.map (·.1), k < N
  get : ∀ x ∈ done, kvGet kv x = some (o x)
theorem KV.len {N : Nat} {o : Nat → Nat} {done : List Nat} {kv : List (Nat × Nat)} (h : KV N o done kv) : kv.length ≤ N := by
  have := nodup_len (T := List.range N) h.nd fun x hx => List.mem_range.mpr (h.up x hx)
  rwa [List.length_map, List.length_range] at this
theorem KV.put {N : Nat} {o : Nat → Nat} {done : List Nat} {kv : List (Nat × Nat)} (h : KV N o done kv) {x : Nat} (hx : x < N) : KV N o (done ++ [x]) (kvPut kv x (o x)) := by
  refine ⟨?_, ?_, fun y hy => ?_⟩
  · rw [kvPut_keys]
    split
    · exact h.nd
    · rename_i hh
      rw [List.nodup_append]
      exact ⟨h.nd, by simp, by intro a ha b hb e; simp at hb; subst hb; subst e; exact hh ha⟩
  · rw [kvPut_keys]
    split
    · exact h.up
    · intro k hk
      rcases List.mem_append.mp hk with hk | hk
      · exact h.up k hk
      · simp at hk; omega
  · rw [kvGet_put]
    by_cases e : y = x
    · subst e; simp
    · rw [if_neg e]
      rcases List.mem_append.mp hy with hy | hy
      · exact h.get y hy
      · simp at hy; exact absurd hy e
def outL (rs : List (List Nat)) : List Nat := (List.range rs.length).map (out rs)
theorem swapped_e {rs : List (List Nat)} (h : Wi rs) : m_swapped [.im (.tup (rs.map rowD))] = .ok (.im (rowD (outL rs)), []) := by
  apply eq_of_mv
  have h10 := h.ten
  unfold m_swapped b_swapped
  simp [mv_runF, all_rounds_e h]
  let N := rs.length
  let S : (Option M × Option M × Option M × Option M) × List (Nat × Nat) → Env := fun s => [some (.im (.tup (rs.map rowD))), some (dcN nD s.2), s.1.1, s.1.2.1, s.1.2.2.1, s.1.2.2.2]
  refine ev_loop (xs := roundsL rs N (List.range N)) rowsD S (fun pre _ s => KV N (out rs) pre.flatten.flatten s.2) ((none, none, none, none), []) rfl rfl ⟨by simp, by simp, by simp⟩ ?_ ?_
  · rintro pre R post ⟨⟨o2, o3, o4, o5⟩, kv⟩ e hkv
    have hR : R ∈ roundsL rs N (List.range N) := by simp [e]
    simp [S]
    refine ev_loop (xs := R) rowD S (fun pre' _ s => KV N (out rs) (pre.flatten.flatten ++ pre'.flatten) s.2) ((_, o3, o4, o5), kv) rfl rfl (by simpa using hkv) ?_ ?_
    · rintro pre' r post' ⟨⟨o2, o3, o4, o5⟩, kv⟩ e' hkv
      have hr : r ∈ R := by simp [e']
      obtain ⟨f, s, c, hc, hp, hl, hx⟩ := ring_ok (Th.range N) (by simp) R hR r hr
      subst hp
      have hs : m_shared_in [.im (.tup ((path f s (c - 1)).map nD))] = _ := shared_in_e hc h10 hl fun x hx' => ⟨(hx x hx').2.1, (hx x hx').2.2.1⟩
      simp [S, hs]
      refine ev_loop (xs := prs f (path f s (c - 1))) pairD S (fun pre'' _ s' => KV N (out rs) (pre.flatten.flatten ++ pre'.flatten ++ pre''.map (·.1)) s'.2) ((_, _, o4, o5), kv) rfl rfl (by simpa using hkv) ?_ ?_
      · rintro pre'' ⟨x, y⟩ post'' ⟨⟨o2, o3, o4, o5⟩, kv⟩ e'' hkv
        obtain ⟨hx1, hx2⟩ := mem_prs.mp (show (x, y) ∈ prs f (path f s (c - 1)) by simp [e''])
        have hx1 : x ∈ path f s (c - 1) := hx1
        have hx2 : y = f x := hx2
        have hkl := hkv.len
        have hkl : kv.length ≤ N := hkl
        obtain ⟨hx3, hx4, _⟩ := hx x hx1
        simp [S, pairD]
        refine ⟨by omega, NX.mk ((_, _, _, _), kvPut kv x (out rs x)) (by rw [hx2, hx3]; rfl) ?_⟩
        have := hkv.put hx4
        simpa using this
      · rintro ⟨⟨o2, o3, o4, o5⟩, kv⟩ hkv
        simp [S]
        refine NX.mk ((_, _, _, _), kv) rfl ⟨hkv.nd, hkv.up, fun x hx' => hkv.get x ?_⟩
        simp only [List.flatten_append, List.flatten_cons, List.flatten_nil, List.append_nil, List.mem_append] at hx' ⊢
        rcases hx' with hx' | hx' | hx'
        · exact .inl (.inl hx')
        · exact .inl (.inr hx')
        · exact .inr (List.mem_map.mpr ⟨(x, f x), mem_prs.mpr ⟨hx', rfl⟩, rfl⟩)
    · rintro ⟨⟨o2, o3, o4, o5⟩, kv⟩ hkv
      simp [S]
      exact NX.mk ((_, _, _, _), kv) rfl (by simpa using hkv)
  · rintro ⟨⟨o2, o3, o4, o5⟩, kv⟩ hkv
    simp [S]
    refine ⟨by omega, ?_⟩
    refine ev_cmp nD (fun _ => true) (M.im ∘ (nD ∘ out rs)) (xs := List.range N) rfl (by simp; omega) (fun x hx => ?_) ?_
    · obtain ⟨R, hR, r, hr, hxr⟩ := cover (rs := rs) (n := N) (T := List.range N) (by simp) x hx
      have hg := hkv.get x (by simp only [List.mem_flatten]; exact ⟨r, ⟨R, hR, hr⟩, hxr⟩)
      have hg : kvGet kv x = _ := hg
      simp [hg]
    · simp [outL, Function.comp_def, N]
end K88
end
section
set_option Elab.async false
set_option linter.all false
set_option maxRecDepth 100000
open Eng
local macro_rules
  | `(Ev $r $q $x) => `(@Ev _ $r (CQ.mk $q) (CX.mk $x))
  | `(Mv $r $q $x) => `(@Mv $r (CM.mk $q) (CY.mk $x))
  | `(Of $r $q) => `(@Of _ $r (CO.mk $q))
  | `(Br $r $p $q) => `(@Br $r (CP.mk $p) (CP.mk $q))
  | `(NX $s $p $e) => `(@NX _ $e (CN.mk $s $p))
namespace TTC
theorem head_app {a b : List Nat} {d : Nat} (h : a ≠ []) : (a ++ b).headD d = a.headD d := by
  cases a with
  | nil => exact absurd rfl h
  | cons x a => rfl
/-- the law's own pointing -/
theorem point_named {rs : List (List Nat)} {T : List Nat} {k : Nat} (hk : k ∈ T) : point rs T k = ((nth rs k).filter fun t => decide (t ∈ T)).headD k := by
  unfold point likedL
  split
  · rename_i h
    have h1 := List.idxOf_lt_length_of_mem h
    conv => rhs; rw [← List.take_append_drop ((nth rs k).idxOf k + 1) (nth rs k), List.filter_append]
    rw [head_app]
    apply List.ne_nil_of_mem (a := k)
    rw [List.mem_filter]
    refine ⟨?_, by simpa using hk⟩
    rw [List.mem_take_iff_getElem]
    exact ⟨(nth rs k).idxOf k, by omega, List.getElem_idxOf h1⟩
  · rw [List.filter_append]
    by_cases e : (nth rs k).filter (fun t => decide (t ∈ T)) = []
    · rw [e]; simp [hk]
    · rw [head_app e]
theorem ringAt_Q {f : Nat → Nat} {T : List Nat} (hf : ∀ x ∈ T, f x ∈ T) {s m : Nat} (hs : s ∈ T) (hm : ringQ f s T.length 0 = m) :
    ringAt f T s = if it f (m + 1) s = s ∧ (path f s m).min? = some s then some (path f s m) else none := by
  obtain ⟨h1, h2, h3⟩ := ring_same hf hs
  rw [hm] at h2 h3
  by_cases ho : On f s
  · obtain ⟨c, hc⟩ := ho.cl
    obtain ⟨e1, e2⟩ := h3 c hc
    unfold ringAt
    rw [e1, e2]
  · unfold ringAt
    rw [if_neg fun h => ho (h1.mp h.1), if_neg fun h => ho (h2.mp h.1)]
end TTC
namespace K88
open PySem Eng TTC
/-- a list of numbers, frozen or not -/
def IsL (m : M) (xs : List Nat) : Prop := frz m = .lst (xs.map nD) ∧ flat m = some (.lst (xs.map nD))
theorem IsL.ls (xs : List Nat) : IsL (.ls (xs.map (M.im ∘ nD))) xs := ⟨by simp, by simp⟩
theorem IsL.im (xs : List Nat) : IsL (.im (.lst (xs.map nD))) xs := ⟨by simp, by simp⟩
theorem msn_set {pts : List Nat} {k v : Nat} : (pts.map (M.im ∘ nD)).set k (.im (.int (v : Int))) = (pts.set k v).map (M.im ∘ nD) := by
  rw [List.map_set]; rfl
theorem law_rounds_e {rs : List (List Nat)} (h : Wi rs) : m__law_rounds [.im (.tup (rs.map rowD))] = .ok (.im (.tup ((roundsL rs rs.length (List.range rs.length)).map rowsD)), []) := by
  apply eq_of_mv
  have h10 := h.ten
  unfold m__law_rounds b__law_rounds
  simp [mv_runF]
  refine ⟨by omega, by omega, ?_⟩
  let S : (M × List Nat × List (List (List Nat))) × (Option M × Option M × Option M × Option M × Option M × Option M × Option M × Option M) → Env := fun s => [some (.im (.tup (rs.map rowD))), some s.1.1, some (.ls (s.1.2.2.map (M.im ∘ rowsD))), s.2.1, s.2.2.1, s.2.2.2.1, s.2.2.2.2.1, s.2.2.2.2.2.1, s.2.2.2.2.2.2.1, s.2.2.2.2.2.2.2.1, s.2.2.2.2.2.2.2.2, none]
  refine ev_loop (xs := List.range rs.length) nD S (fun _ post s => IsL s.1.1 s.1.2.1 ∧ Th rs.length s.1.2.1 ∧ s.1.2.2 ++ roundsL rs s.1.2.1.length s.1.2.1 = roundsL rs rs.length (List.range rs.length) ∧ s.1.2.1.length ≤ post.length ∧ s.1.2.2.length + s.1.2.1.length ≤ rs.length)
    ((.ls ((List.range rs.length).map (M.im ∘ nD)), List.range rs.length, []), (none, none, none, none, none, none, none, none)) rfl (by simp [S]) ⟨IsL.ls _, Th.range _, by simp, by simp, by simp⟩ ?_ ?_
  · rintro pre turn post ⟨⟨m1, T, R⟩, ⟨o3, o4, o5, o6, o7, o8, o9, o10⟩⟩ e0 ⟨⟨hI1, hI2⟩, hT, hR, hl, hl2⟩
    have hI1 : frz m1 = .lst (T.map nD) := hI1
    have hI2 : flat m1 = some (.lst (T.map nD)) := hI2
    have hT : Th rs.length T := hT
    have hR : R ++ roundsL rs T.length T = _ := hR
    have hl : T.length ≤ post.length + 1 := hl
    have hl2 : R.length + T.length ≤ rs.length := hl2
    have hlT := hT.len
    simp [S, hI2]
    refine Br.introB (fun hc => ?_) fun hc => ?_
    · simp at hc
      subst hc
      simp [← hR, roundsL]
    · have hn : T ≠ [] := by simpa using hc
      simp [hI1]
      refine ⟨by omega, ?_⟩
      -- the pointing
      let f := point rs T
      have hf : ∀ x ∈ T, f x ∈ T := point_in rs T
      let S1 : (List Nat) × (Option M × Option M) → Env := fun s => [some (.im (.tup (rs.map rowD))), some (.im (.lst (T.map nD))), some (.ls (R.map (M.im ∘ rowsD))), some (.im (.int (turn : Int))), some (.ls (s.1.map (M.im ∘ nD))), s.2.1, s.2.2, o7, o8, o9, o10, none]
      refine ev_loop (xs := T) nD S1 (fun pre _ s => s.1.length = rs.length ∧ (∀ k ∈ pre, nth s.1 k = f k) ∧ ∀ k, k < rs.length → k ∉ pre → nth s.1 k = k) (List.range rs.length, (o5, o6)) rfl (by simp [S1]) ⟨by simp, by simp, fun k hk _ => nth_range hk⟩ ?_ ?_
      · rintro pre k post ⟨pts, ⟨o5, o6⟩⟩ e1 ⟨g1, g2, g3⟩
        have g1 : pts.length = rs.length := g1
        have g2 : ∀ k ∈ pre, nth pts k = f k := g2
        have g3 : ∀ k, k < rs.length → k ∉ pre → nth pts k = k := g3
        have hkT : k ∈ T := by simp [e1]
        have hkp : k ∉ pre := fun hh => by
          have := lt_nodup hT.lt
          rw [e1, List.nodup_append] at this
          exact this.2.2 k hh k (by simp) rfl
        have hk := hT.up k hkT
        have hrow := row_len h (nth_mem hk)
        have hkN : k < pts.length := by omega
        have key : ∀ v, v = f k → (∀ j ∈ pre ++ [k], nth (pts.set k v) j = f j) ∧ ∀ j, j < rs.length → j ∉ pre ++ [k] → nth (pts.set k v) j = j := fun v hv => by
          refine ⟨fun j hj => ?_, fun j hj hj2 => ?_⟩
          · by_cases ej : k = j
            · subst ej; rw [nth_set_eq hkN, hv]
            · rw [nth_set_ne ej]
              rcases List.mem_append.mp hj with hj | hj
              · exact g2 j hj
              · simp at hj; exact absurd hj.symm ej
          · simp at hj2
            rw [nth_set_ne (fun e => hj2.2 e.symm)]
            exact g3 j hj hj2.1
        simp [S1, hk]
        refine ev_cmp nD (fun t => decide (t ∈ T)) (M.im ∘ nD) (xs := nth rs k) rfl (by omega) (fun t ht => ?_) ?_
        · by_cases hh : t ∈ T <;> simp [hh]
        · have hpn := point_named (rs := rs) hkT
          simp
          generalize hG : (nth rs k).filter (fun t => decide (t ∈ T)) = G at *
          refine Br.introB (fun hb => ?_) fun hb => ?_
          · have hG0 : G = [] := by
              cases G with
              | nil => rfl
              | cons => simp at hb
            subst hG0
            have hfk : f k = k := hpn
            simp
            refine NX.mk (pts, (_, _)) rfl ⟨g1, ?_⟩
            have := key k hfk.symm
            have es : pts.set k k = pts := by
              apply ext_nth (by simp)
              intro j hj
              by_cases ej : k = j
              · subst ej; rw [nth_set_eq hkN, g3 k hk hkp]
              · rw [nth_set_ne ej]
            rwa [es] at this
          · have hpos : 0 < G.length := by
              cases G with
              | nil => simp at hb
              | cons => simp
            simp [hpos]
            refine ⟨by omega, ?_⟩
            refine NX.mk (pts.set k (nth G 0), (_, _)) (by simp [S1, List.map_set]; exact ⟨rfl, rfl⟩) ⟨by simpa using g1, key _ ?_⟩
            rw [nth0 (d := k) hpos]; exact hpn.symm
      · rintro ⟨pts, ⟨o5, o6⟩⟩ ⟨g1, g2, _⟩
        have g1 : pts.length = rs.length := g1
        have g2 : ∀ k ∈ T, nth pts k = f k := g2
        simp [S1]
        -- the rings
        let S2 : (List (List Nat)) × (Option M × Option M × Option M × Option M) → Env := fun s => [some (.im (.tup (rs.map rowD))), some (.im (.lst (T.map nD))), some (.ls (R.map (M.im ∘ rowsD))), some (.im (.int (turn : Int))), some (.ls (pts.map (M.im ∘ nD))), s.2.1, o6, some (.ls (s.1.map (M.im ∘ rowD))), s.2.2.1, s.2.2.2.1, s.2.2.2.2, none]
        refine ev_loop (xs := T) nD S2 (fun pre _ s => s.1 = pre.filterMap (ringAt f T)) ([], (o5, o8, o9, o10)) rfl (by simp [S2]) rfl ?_ ?_
        · rintro pre k post ⟨G, ⟨o5, o8, o9, o10⟩⟩ e1 hG
          have hG : G = pre.filterMap (ringAt f T) := hG
          have hkT : k ∈ T := by simp [e1]
          have hGl : G.length ≤ T.length := by
            have h1 := List.length_filterMap_le (ringAt f T) pre
            have h2 : pre.length ≤ T.length := by rw [e1]; simp
            rw [hG]; omega
          simp [S2]
          refine ⟨by omega, ?_⟩
          let S3 : Nat × (Option M × Option M) → Env := fun s => [some (.im (.tup (rs.map rowD))), some (.im (.lst (T.map nD))), some (.ls (R.map (M.im ∘ rowsD))), some (.im (.int (turn : Int))), some (.ls (pts.map (M.im ∘ nD))), some (.im (.int (k : Int))), o6, some (.ls (G.map (M.im ∘ rowD))), some (.ls ((path f k s.1).map (M.im ∘ nD))), s.2.1, s.2.2, none]
          have nxt : ∀ m, it f m k < pts.length ∧ nth pts (it f m k) = it f (m + 1) k := fun m => by
            have := it_mem hf hkT m
            exact ⟨by have := hT.up _ this; omega, g2 _ this⟩
          -- the ring is told or not
          have fin : ∀ m, ringQ f k T.length 0 = m → ∀ (Q : Fl → Env → Prop) a b, (∀ G' o8, G' = (pre ++ [k]).filterMap (ringAt f T) → Q .nx (S2 (G', (some (.im (.int (k : Int))), o8, a, b)))) →
              Ev ((sSeq (sIf (tAndF (tCmp' eqD (oOf (eIdx (oVar 4) (oOf (eIdx (oVar 8) (oOf (eNegF (oOf (eC (.int 1))))))))) (oVar 5)) (tCmp' eqD (oOf (eCall minF (aCons (oVar 8) aNil))) (oVar 5))) (sSeq (sExpr (eApp 7 (eCall tupF (aCons (oVar 8) aNil)))) sSkip) sSkip) sSkip) (S3 (m, a, b))) Q (fun _ _ _ => False) := fun m hm Q a b hq => by
            have e2 := ringAt_Q hf hkT hm
            have ef : (pre ++ [k]).filterMap (ringAt f T) = G ++ [k].filterMap (ringAt f T) := by rw [List.filterMap_append, ← hG]
            obtain ⟨n1, n2⟩ := nxt m
            obtain ⟨mn, hmn⟩ : ∃ mn, (path f k m).min? = some mn := by
              cases hh : (path f k m).min? with
              | none => rw [List.min?_eq_none_iff] at hh; have := path_len f k m; rw [hh] at this; simp at this
              | some mn => exact ⟨mn, rfl⟩
            simp [S3, nth_path, n1, n2]
            refine Br.intro (c := (it f (m + 1) k : Int) = k) (fun h1 => ?_) fun h1 => ?_
            · have h1' : it f (m + 1) k = k := by omega
              simp [hmn, S3]
              refine Br.intro (c := (mn : Int) = k) (fun h2 => ?_) fun h2 => ?_
              · have h2' : mn = k := by omega
                simp [S3]
                refine ⟨by omega, ?_⟩
                have := hq (G ++ [path f k m]) (some (.ls ((path f k m).map (M.im ∘ nD)))) (by rw [ef]; simp [e2, h1', hmn, h2'])
                simpa [S2] using this
              · have h2' : ¬ (mn = k) := by omega
                simp
                exact hq G _ (by rw [ef]; simp [e2, hmn, h2'])
            · have h1' : ¬ (it f (m + 1) k = k) := by omega
              simp
              exact hq G _ (by rw [ef]; simp [e2, h1'])
          refine ev_loop (xs := List.range T.length) nD S3 (fun _ post s => ringQ f k post.length s.1 = ringQ f k T.length 0 ∧ s.1 + post.length ≤ T.length) (0, (o9, o10)) rfl (by simp [S3, path_zero]) ⟨by simp, by simp⟩ ?_ ?_
          · rintro pre' step post' ⟨m, ⟨o9, o10⟩⟩ e2 ⟨h1, h2⟩
            have h1 : ringQ f k (post'.length + 1) m = ringQ f k T.length 0 := h1
            have h2 : m + (post'.length + 1) ≤ T.length := h2
            obtain ⟨n1, n2⟩ := nxt m
            rw [show ringQ f k (post'.length + 1) m = if it f (m + 1) k = k then m else ringQ f k post'.length (m + 1) from rfl] at h1
            simp [S3, nth_path, n1, n2]
            refine Br.intro (c := (it f (m + 1) k : Int) = k) (fun h3 => ?_) fun h3 => ?_
            · have h3' : it f (m + 1) k = k := by omega
              rw [if_pos h3'] at h1
              refine (ev_sSeq _ _).mpr (ev_sBreak.mpr ?_)
              refine fin m h1.symm _ _ _ fun G' o8 hG' => ?_
              exact NX.mk (G', _, _, _, _) rfl hG'
            · have h3' : ¬ (it f (m + 1) k = k) := by omega
              rw [if_neg h3'] at h1
              simp
              exact ⟨by omega, NX.mk (m + 1, _, _) (by simp [S3, path_succ, n2]; exact ⟨rfl, rfl⟩) ⟨h1, by show m + 1 + post'.length ≤ _; omega⟩⟩
          · rintro ⟨m, ⟨o9, o10⟩⟩ ⟨h1, _⟩
            have h1 : m = ringQ f k T.length 0 := h1
            refine fin m h1.symm _ _ _ fun G' o8 hG' => ?_
            exact NX.mk (G', _, _, _, _) rfl hG'
        · rintro ⟨G, ⟨o5, o8, o9, o10⟩⟩ hG
          have hG : G = ringsL f T := hG
          have hGl : G.length ≤ T.length := by rw [hG]; exact rings_len
          simp [S2]
          refine ⟨by omega, ?_⟩
          -- who is left
          let S4 : M × (Option M × Option M) → Env := fun s => [some (.im (.tup (rs.map rowD))), some s.1, some (.ls ((R ++ [G]).map (M.im ∘ rowsD))), some (.im (.int (turn : Int))), some (.ls (pts.map (M.im ∘ nD))), s.2.1, o6, some (.im (.lst (G.map rowD))), s.2.2, o9, o10, none]
          refine ev_loop (xs := G) rowD S4 (fun pre _ s => IsL s.1 (T.filter fun x => decide (x ∉ pre.flatten))) (.im (.lst (T.map nD)), (o5, o8)) rfl (by simp [S4]) (by simpa using IsL.im T) ?_ ?_
          · rintro pre r post ⟨m1, ⟨o5, o8⟩⟩ e2 ⟨k1, k2⟩
            generalize hU : T.filter (fun x => decide (x ∉ pre.flatten)) = U at k1 k2
            have k1 : frz m1 = .lst (U.map nD) := k1
            have hUl : U.length ≤ T.length := by rw [← hU]; exact List.length_filter_le _ _
            simp [S4, k1]
            refine ev_cmp nD (fun x => decide (x ∉ r)) (M.im ∘ nD) (xs := U) rfl (by omega) (fun x hx => ?_) ?_
            · by_cases hh : x ∈ r <;> simp [hh]
            · simp
              have e3 : T.filter (fun x => decide (x ∉ (pre ++ [r]).flatten)) = U.filter fun x => decide (x ∉ r) := by
                rw [← hU, List.filter_filter]
                apply List.filter_congr
                intro x _
                simp only [List.flatten_append, List.flatten_cons, List.flatten_nil, List.append_nil, List.mem_append, not_or]
                by_cases u : x ∈ pre.flatten <;> by_cases v : x ∈ r <;> simp only [u, v, not_true, not_false_iff, decide_true, decide_false, and_self, and_true, and_false, true_and, false_and, Bool.and_true, Bool.and_false, Bool.true_and, Bool.false_and]
              refine NX.mk (.ls ((U.filter fun x => decide (x ∉ r)).map (M.im ∘ nD)), (_, _)) (by simp [S4]; exact ⟨rfl, rfl⟩) ?_
              show IsL _ _
              rw [e3]
              exact IsL.ls _
          · rintro ⟨m1, ⟨o5, o8⟩⟩ hI
            have hI : IsL m1 (T.filter fun x => decide (x ∉ G.flatten)) := hI
            have hlt := next_lt (rs := rs) hn
            have e1 : roundsL rs T.length T = ringsL (point rs T) T :: roundsL rs (nextT rs T).length (nextT rs T) := by
              have hpos := List.length_pos_iff.mpr hn
              obtain ⟨n, hn'⟩ : ∃ n, T.length = n + 1 := ⟨T.length - 1, by omega⟩
              rw [hn', roundsL, if_neg hn, rounds_fuel (by omega) (Nat.le_refl _)]
            have en : nextT rs T = T.filter fun x => decide (x ∉ G.flatten) := by rw [hG]; rfl
            simp only [SQ_nx, ev_sSkip, LQ_nx]
            refine NX.mk ((m1, nextT rs T, R ++ [G]), (_, _, _, _, _, _, _, _)) rfl ⟨en ▸ hI, hT.next, ?_, ?_, ?_⟩
            · show R ++ [G] ++ roundsL rs (nextT rs T).length (nextT rs T) = _
              rw [← hR, e1, hG]; simp [f]
            · show (nextT rs T).length ≤ _; omega
            · show (R ++ [G]).length + (nextT rs T).length ≤ _; simp; omega
  · rintro ⟨⟨m1, T, R⟩, ⟨o3, o4, o5, o6, o7, o8, o9, o10⟩⟩ ⟨_, hT, hR, hl, _⟩
    have hl : T.length ≤ 0 := hl
    have hR : R ++ roundsL rs T.length T = _ := hR
    have : T = [] := List.length_eq_zero_iff.mp (by omega)
    subst this
    simp [S, ← hR, roundsL]
end K88
end
section
set_option Elab.async false
set_option linter.all false
set_option maxRecDepth 100000
open Eng
local macro_rules
  | `(Ev $r $q $x) => `(@Ev _ $r (CQ.mk $q) (CX.mk $x))
  | `(Mv $r $q $x) => `(@Mv $r (CM.mk $q) (CY.mk $x))
  | `(Of $r $q) => `(@Of _ $r (CO.mk $q))
  | `(Br $r $p $q) => `(@Br $r (CP.mk $p) (CP.mk $q))
  | `(NX $s $p $e) => `(@NX _ $e (CN.mk $s $p))
namespace K88
open PySem Eng TTC
theorem ring_next {rs : List (List Nat)} {R : List (List Nat)} (hR : R ∈ roundsL rs rs.length (List.range rs.length)) {r : List Nat} (hr : r ∈ R) :
    r.length ≤ rs.length ∧ ∀ i, i < r.length → nth r i < rs.length ∧ nth r ((i + 1) % r.length) = out rs (nth r i) := by
  obtain ⟨f, s, c, hc, hp, hl, hx⟩ := ring_ok (Th.range rs.length) (by simp) R hR r hr
  have hcp := hc.pos
  have hrl : r.length = c := by rw [hp]; simp; omega
  have hni : ∀ i, i < c → nth r i = it f i s := fun i hi => by rw [hp, nth_path _ _ _ (by omega)]
  refine ⟨hl, fun i hi => ?_⟩
  have hmi : nth r i ∈ r := nth_mem hi
  obtain ⟨hf1, hf2, _⟩ := hx _ hmi
  refine ⟨hf2, ?_⟩
  have hni2 := hni i (by omega)
  have e5 : f (nth r i) = it f (i + 1) s := by rw [hni2]; rfl
  have e6 : out rs (nth r i) = f (nth r i) := hf1.symm
  rw [e6, e5]
  by_cases hlast : i + 1 = c
  · rw [hrl, hlast, Nat.mod_self, hni 0 (by omega), hc.back]; rfl
  · rw [hrl, Nat.mod_eq_of_lt (by omega), hni _ (by omega)]
theorem law_outcome_e {rs : List (List Nat)} (h : Wi rs) : m__law_outcome [.im (.tup (rs.map rowD))] = .ok (.im (rowD (outL rs)), []) := by
  apply eq_of_mv
  have h10 := h.ten
  unfold m__law_outcome b__law_outcome
  simp [mv_runF, law_rounds_e h]
  refine ⟨by omega, ?_⟩
  let N := rs.length
  let S : List Nat × (Option M × Option M × Option M) → Env := fun s => [some (.im (.tup (rs.map rowD))), some (.ls (s.1.map (M.im ∘ nD))), s.2.1, s.2.2.1, s.2.2.2]
  refine ev_loop (xs := roundsL rs N (List.range N)) rowsD S (fun pre _ s => s.1.length = N ∧ ∀ x ∈ pre.flatten.flatten, nth s.1 x = out rs x) (List.range N, (none, none, none)) rfl (by simp [S, N]) ⟨by simp, by simp⟩ ?_ ?_
  · rintro pre R post ⟨got, ⟨o2, o3, o4⟩⟩ e ⟨g1, g2⟩
    have hR : R ∈ roundsL rs N (List.range N) := by simp [e]
    have g1 : got.length = N := g1
    have g2 : ∀ x ∈ pre.flatten.flatten, nth got x = out rs x := g2
    simp [S]
    refine ev_loop (xs := R) rowD S (fun pre' _ s => s.1.length = N ∧ ∀ x ∈ pre.flatten.flatten ++ pre'.flatten, nth s.1 x = out rs x) (got, (_, o3, o4)) rfl rfl ⟨g1, by simpa using g2⟩ ?_ ?_
    · rintro pre' r post' ⟨got, ⟨o2, o3, o4⟩⟩ e' hP
      have hP : got.length = N ∧ ∀ x ∈ pre.flatten.flatten ++ pre'.flatten, nth got x = out rs x := hP
      have g1 := hP.1
      have g2 := hP.2
      have hr : r ∈ R := by simp [e']
      have hrn := ring_next hR hr
      have hl := hrn.1
      simp [S]
      refine ⟨by omega, ?_⟩
      let S' : List Nat × Option M → Env := fun s => [some (.im (.tup (rs.map rowD))), some (.ls (s.1.map (M.im ∘ nD))), o2, some (.im (rowD r)), s.2]
      refine ev_loop (xs := List.range r.length) nD S' (fun pre'' _ s' => s'.1.length = N ∧ ∀ x, x ∈ pre.flatten.flatten ++ pre'.flatten ∨ (∃ i ∈ pre'', nth r i = x) → nth s'.1 x = out rs x) (got, o4) rfl rfl ⟨g1, fun x hx' => g2 x (by simpa using hx')⟩ ?_ ?_
      · rintro pre'' i post'' ⟨got, o4⟩ e'' ⟨g1, g2⟩
        have hi : i < r.length := List.mem_range.mp (by rw [e'']; simp)
        have g1 : got.length = N := g1
        have g2 : ∀ x, x ∈ pre.flatten.flatten ++ pre'.flatten ∨ (∃ i ∈ pre'', nth r i = x) → nth got x = out rs x := g2
        have hf2 := (hrn.2 i hi).1
        have hnx := (hrn.2 i hi).2
        have hpos : (0 : Int) < r.length := by omega
        have hmod : ((i : Int) + 1) % (r.length : Int) = ((i + 1) % r.length : Nat) := by norm_cast
        have hlt : (i + 1) % r.length < r.length := Nat.mod_lt _ (by omega)
        generalize (i + 1) % r.length = j at hmod hlt hnx
        simp [S', hi, hpos, hmod, hlt, g1, hf2]
        refine ⟨by omega, hf2, ?_⟩
        refine NX.mk (got.set (nth r i) (out rs (nth r i)), some (.im (.int (i : Int)))) (by simp [S', List.map_set, hnx]) ⟨by simpa using g1, fun x hx' => ?_⟩
        show nth (got.set _ _) x = _
        by_cases ex : nth r i = x
        · subst ex; rw [nth_set_eq (by omega)]
        · rw [nth_set_ne ex]
          refine g2 x ?_
          rcases hx' with hx' | ⟨j, hj, hj2⟩
          · exact .inl hx'
          · rcases List.mem_append.mp hj with hj | hj
            · exact .inr ⟨j, hj, hj2⟩
            · simp at hj; subst hj; exact absurd hj2 ex
      · rintro ⟨got, o4⟩ ⟨g1, g2⟩
        simp only [SQ_nx, ev_sSkip, LQ_nx]
        refine NX.mk (got, (_, _, _)) rfl ⟨g1, fun x hx' => g2 x ?_⟩
        simp only [List.flatten_append, List.flatten_cons, List.flatten_nil, List.append_nil, List.mem_append] at hx' ⊢
        rcases hx' with hx' | hx' | hx'
        · exact .inl (.inl hx')
        · exact .inl (.inr hx')
        · obtain ⟨i, h1, h2⟩ := mem_nth hx'
          exact .inr ⟨i, List.mem_range.mpr h1, h2⟩
    · rintro ⟨got, ⟨o2, o3, o4⟩⟩ ⟨g1, g2⟩
      simp only [SQ_nx, ev_sSkip, LQ_nx]
      exact NX.mk (got, (_, _, _)) rfl ⟨g1, by simpa using g2⟩
  · rintro ⟨got, ⟨o2, o3, o4⟩⟩ ⟨g1, g2⟩
    have g1 : got.length = N := g1
    have : got = outL rs := by
      apply ext_nth
      · simp [outL, g1, N]
      · intro x hx
        obtain ⟨R, hR, r, hr, hxr⟩ := cover (rs := rs) (n := N) (T := List.range N) (by simp) x (List.mem_range.mpr (by omega))
        have e := g2 x (by simp only [List.mem_flatten]; exact ⟨r, ⟨R, hR, hr⟩, hxr⟩)
        have hx2 : x < rs.length := by have : N = rs.length := rfl; omega
        unfold outL
        rw [nth_map _ (by simpa using hx2), nth_range hx2]
        exact e
    simp [S, this]
theorem law_rank_e {rs : List (List Nat)} (h : Wi rs) {p t : Nat} (hp : p < rs.length) : m__law_rank [.im (.tup (rs.map rowD)), .im (.int (p : Int)), .im (.int (t : Int))] = .ok (.im (.int (rank rs p t : Nat)), []) := by
  apply eq_of_mv
  have hrow := row_len h (nth_mem hp)
  unfold m__law_rank b__law_rank
  simp [mv_runF, hp]
  -- the last part, at the row as it stands
  have fin : ∀ (l : List Nat), p ∈ l → l.length ≤ 20 → likedL rs p = l.take (l.idxOf p + 1) → Ev ((sSeq (sSet [] 3 (eSlc (oVar 3) iNone (iSome (oOf (eBin addD (oOf (eMeth "list" idxOfF (oVar 3) (aCons (oVar 1) aNil))) (oOf (eC (.int 1)))))))) (sSeq (sIf (tCmp' inD (oVar 2) (oVar 3)) (sSeq (sRet (eMeth "list" idxOfF (oVar 3) (aCons (oVar 2) aNil))) sSkip) sSkip) (sSeq (sRet (eCall lenF (aCons (oVar 3) aNil))) sSkip))) [some (.im (.tup (rs.map rowD))), some (.im (.int (p : Int))), some (.im (.int (t : Int))), some (.ls (l.map (M.im ∘ nD)))]) (fun fl e => RQ [] fl e fun m o => m = .im (.int (rank rs p t : Nat)) ∧ o = []) (fun _ _ _ => False) := fun l hpl hl hk => by
    simp [hpl, -ims_take]
    rw [← List.map_take, ← hk]
    simp
    refine Br.intro (c := t ∈ likedL rs p) (fun hh => ?_) fun hh => ?_
    · simp [hh, rank]
    · simp [rank, List.idxOf_eq_length hh]
  refine Br.intro (c := p ∈ nth rs p) (fun hh => ?_) fun hh => ?_
  · refine ev_sSkip.mpr ?_
    exact fin (nth rs p) hh (by omega) (by simp [likedL, hh])
  · have step : ∀ Q : Fl → Env → Prop, Q .nx [some (.im (.tup (rs.map rowD))), some (.im (.int (p : Int))), some (.im (.int (t : Int))), some (.ls ((nth rs p ++ [p]).map (M.im ∘ nD)))] → Ev (sSeq (sExpr (eApp 3 (eVar 1))) sSkip [some (.im (.tup (rs.map rowD))), some (.im (.int (p : Int))), some (.im (.int (t : Int))), some (.ls ((nth rs p).map (M.im ∘ nD)))]) Q (fun _ _ _ => False) := fun Q hq => by
      simp at hq ⊢
      exact ⟨by omega, hq⟩
    refine step _ ?_
    exact fin (nth rs p ++ [p]) (by simp) (by simp; omega) (by
      rw [likedL, if_neg hh, List.idxOf_append, if_neg hh]
      simp
      rw [List.take_of_length_le (by simp)])
end K88
end
section
set_option Elab.async false
set_option linter.all false
set_option maxRecDepth 100000
open Eng
local macro_rules
  | `(Ev $r $q $x) => `(@Ev _ $r (CQ.mk $q) (CX.mk $x))
  | `(Mv $r $q $x) => `(@Mv $r (CM.mk $q) (CY.mk $x))
  | `(Of $r $q) => `(@Of _ $r (CO.mk $q))
  | `(Br $r $p $q) => `(@Br $r (CP.mk $p) (CP.mk $q))
  | `(NX $s $p $e) => `(@NX _ $e (CN.mk $s $p))
namespace TTC
/-! ### who may be better off -/
/-- a gives its thing on: got's own or a better one -/
def Strict (rs : List (List Nat)) (got : List Nat) (a b : Nat) : Prop := rank rs a b < rank rs a (nth got a)
def Edge (rs : List (List Nat)) (got : List Nat) (a b : Nat) : Prop := b = nth got a ∨ Strict rs got a b
inductive Rch (E : Nat → Nat → Prop) (N : Nat) : Nat → Nat → Prop
  | refl (a : Nat) : Rch E N a a
  | step {a b c : Nat} : Rch E N a b → E b c → c < N → Rch E N a c
theorem Rch.closed {E : Nat → Nat → Prop} {N : Nat} {S : Nat → Prop} (h : ∀ a b, S a → E a b → b < N → S b) {a b : Nat} (r : Rch E N a b) : S a → S b := by
  induction r with
  | refl => exact id
  | step _ e l ih => exact fun s => h _ _ (ih s) e l
def Imp (rs : List (List Nat)) (got : List Nat) (N : Nat) : Prop := ∃ k j, k < N ∧ j < N ∧ Strict rs got k j ∧ Rch (Edge rs got) N j k
/-- no closed walk is better than the rounds -/
theorem no_walk {rs : List (List Nat)} {w : Nat → Nat} {m : Nat} (hm : 0 < m) (per : ∀ i, w (i + m) = w i) : ∀ {n : Nat} {T : List Nat}, T.length ≤ n → (∀ i, w i ∈ T) →
    (∀ i, w (i + 1) = outR rs n T (w i) ∨ rank rs (w i) (w (i + 1)) < rank rs (w i) (outR rs n T (w i))) → ∀ i, ¬ rank rs (w i) (w (i + 1)) < rank rs (w i) (outR rs n T (w i))
  | 0, T, hn, hT, _, i => by have := List.length_pos_of_mem (hT 0); omega
  | n + 1, T, hn, hT, he, i => by
    have perk : ∀ q i, w (i + q * m) = w i := by
      intro q
      induction q with
      | zero => intro i; simp
      | succ q ih => intro i; rw [Nat.succ_mul, ← Nat.add_assoc, per, ih]
    by_cases hon : ∃ i0, On (point rs T) (w i0)
    · obtain ⟨i0, h0⟩ := hon
      have nx : ∀ i, On (point rs T) (w i) → w (i + 1) = point rs T (w i) := fun i hi => by
        rcases he i with h | h
        · rw [outR_on (hT i) hi] at h; exact h
        · rw [outR_on (hT i) hi] at h
          have := (point_best (rs := rs) (hT i)).2 _ (hT (i + 1))
          omega
      have all : ∀ d, On (point rs T) (w (i0 + d)) := by
        intro d
        induction d with
        | zero => exact h0
        | succ d ih =>
          have := nx _ ih
          rw [← Nat.add_assoc, this]
          exact ih.step
      have hoi : On (point rs T) (w i) := by
        have := all (i + i0 * m - i0)
        have hle : i0 ≤ i + i0 * m := by
          have : i0 ≤ i0 * m := Nat.le_mul_of_pos_right _ hm
          omega
        rw [show i0 + (i + i0 * m - i0) = i + i0 * m by omega, perk] at this
        exact this
      rw [outR_on (hT i) hoi, nx i hoi]
      omega
    · have off : ∀ i, ¬ On (point rs T) (w i) := fun i h => hon ⟨i, h⟩
      have hne := List.ne_nil_of_mem (hT 0)
      have hl := next_lt (rs := rs) hne
      have e : ∀ i, outR rs (n + 1) T (w i) = outR rs n (nextT rs T) (w i) := fun i => outR_off (off i)
      rw [e]
      exact no_walk hm per (n := n) (T := nextT rs T) (by omega) (fun i => mem_next.mpr ⟨hT i, off i⟩) (fun i => by have := he i; rw [e] at this; exact this) i
theorem rank_lt {rs : List (List Nat)} {p a b : Nat} (ha : a ∈ likedL rs p) (h : rank rs p a ≤ rank rs p b) (hne : a ≠ b) : rank rs p a < rank rs p b := by
  by_cases e : rank rs p a = rank rs p b
  · exact absurd (idx_inj ha e) hne
  · omega
/-- a ring at T, where got keeps T -/
theorem ring_edge {rs : List (List Nat)} {got : List Nat} {T : List Nat} (hg : ∀ y ∈ T, nth got y ∈ T) {x : Nat} (hx : x ∈ T) : Edge rs got x (point rs T x) ∧ (point rs T x ≠ nth got x → Strict rs got x (point rs T x)) := by
  have hb := point_best (rs := rs) hx
  have hs : point rs T x ≠ nth got x → Strict rs got x (point rs T x) := fun hne => rank_lt (point_liked hx) (hb.2 _ (hg x hx)) hne
  refine ⟨?_, hs⟩
  by_cases e : point rs T x = nth got x
  · exact .inl e
  · exact .inr (hs e)
theorem keep_next {rs : List (List Nat)} {got : List Nat} {T : List Nat} (hg : ∀ y ∈ T, nth got y ∈ T) (inj : ∀ a ∈ T, ∀ b ∈ T, nth got a = nth got b → a = b) (hon : ∀ x ∈ T, On (point rs T) x → nth got x = point rs T x) : ∀ y ∈ nextT rs T, nth got y ∈ nextT rs T := fun y hy => by
  obtain ⟨h1, h2⟩ := mem_next.mp hy
  refine mem_next.mpr ⟨hg y h1, fun ho => h2 ?_⟩
  obtain ⟨c, hc⟩ := ho.cl
  have hp := hc.pos
  -- the one ahead of got y on the ring
  have hx := it_mem (point_in rs T) (hg y h1) (c - 1)
  have hox := ho.it (c - 1)
  have e : point rs T (it (point rs T) (c - 1) (nth got y)) = nth got y := by
    show it (point rs T) (c - 1 + 1) (nth got y) = nth got y
    rw [Nat.sub_add_cancel hp, hc.back]
  have := inj _ hx y h1 ((hon _ hx hox).trans e)
  exact this ▸ hox
theorem outR_fuel {rs : List (List Nat)} : ∀ {n m : Nat} {T : List Nat} {x : Nat}, T.length ≤ n → T.length ≤ m → x ∈ T → outR rs n T x = outR rs m T x
  | 0, m, T, x, h, _, hx => by have := List.length_pos_of_mem hx; omega
  | n + 1, 0, T, x, _, h, hx => by have := List.length_pos_of_mem hx; omega
  | n + 1, m + 1, T, x, h1, h2, hx => by
    by_cases ho : On (point rs T) x
    · rw [outR_on hx ho, outR_on hx ho]
    · have := next_lt (rs := rs) (List.ne_nil_of_mem hx)
      rw [outR_off ho, outR_off ho, outR_fuel (n := n) (m := m) (by omega) (by omega) (mem_next.mpr ⟨hx, ho⟩)]
theorem rch_it {E : Nat → Nat → Prop} {N : Nat} {f : Nat → Nat} {a : Nat} (h : ∀ i, E (it f i a) (it f (i + 1) a) ∧ it f (i + 1) a < N) : ∀ n, Rch E N a (it f n a)
  | 0 => .refl a
  | n + 1 => (rch_it h n).step (h n).1 (h n).2
/-- where it differs from the rounds, some are better off -/
theorem imp_of_ne {rs : List (List Nat)} {got : List Nat} {N : Nat} : ∀ {n : Nat} {T : List Nat}, T.length ≤ n → (∀ x ∈ T, x < N) → (∀ y ∈ T, nth got y ∈ T) → (∀ a ∈ T, ∀ b ∈ T, nth got a = nth got b → a = b) → (∃ x ∈ T, nth got x ≠ outR rs n T x) → Imp rs got N
  | 0, T, hn, _, _, _, ⟨x, hx, _⟩ => by have := List.length_pos_of_mem hx; omega
  | n + 1, T, hn, hN, hg, inj, ⟨x, hx, hne⟩ => by
    by_cases h : ∃ y ∈ T, On (point rs T) y ∧ nth got y ≠ point rs T y
    · obtain ⟨y, hy, ho, hyne⟩ := h
      obtain ⟨c, hc⟩ := ho.cl
      have hp := hc.pos
      have hf := point_in rs T
      refine ⟨y, point rs T y, hN y hy, hN _ (hf y hy), (ring_edge hg hy).2 (fun e => hyne e.symm), ?_⟩
      have := rch_it (E := Edge rs got) (N := N) (f := point rs T) (a := point rs T y) (fun i => by
        have hm := it_mem hf (hf y hy) i
        exact ⟨(ring_edge hg hm).1, hN _ (hf _ hm)⟩) (c - 1)
      have e : it (point rs T) (c - 1) (point rs T y) = y := by
        show it (point rs T) (c - 1) (it (point rs T) 1 y) = y
        rw [← it_add, Nat.sub_add_cancel hp, hc.back]
      rwa [e] at this
    · have hon : ∀ y ∈ T, On (point rs T) y → nth got y = point rs T y := fun y hy ho => by
        by_cases e : nth got y = point rs T y
        · exact e
        · exact absurd ⟨y, hy, ho, e⟩ h
      have hoff : ¬ On (point rs T) x := fun ho => hne (by rw [outR_on hx ho]; exact hon x hx ho)
      have hl := next_lt (rs := rs) (List.ne_nil_of_mem hx)
      refine imp_of_ne (n := n) (T := nextT rs T) (by omega) (fun y hy => hN y (mem_next.mp hy).1) (keep_next hg inj hon) (fun a ha b hb => inj a (mem_next.mp ha).1 b (mem_next.mp hb).1) ⟨x, mem_next.mpr ⟨hx, hoff⟩, ?_⟩
      rw [outR_off hoff] at hne; exact hne
/-! ### a road, closed by a better one -/
structure Road (rs : List (List Nat)) (got : List Nat) (N : Nat) (j k : Nat) (r : List Nat) : Prop where
  pos : 0 < r.length
  nd : r.Nodup
  lt : ∀ x ∈ r, x < N
  st : nth r 0 = j
  fin : nth r (r.length - 1) = k
  ed : ∀ i, i + 1 < r.length → Edge rs got (nth r i) (nth r (i + 1))
theorem Road.rch {rs : List (List Nat)} {got : List Nat} {N j k : Nat} {r : List Nat} (h : Road rs got N j k r) : Rch (Edge rs got) N j k := by
  have : ∀ i, i < r.length → Rch (Edge rs got) N j (nth r i) := by
    intro i
    induction i with
    | zero => intro _; rw [h.st]; exact .refl j
    | succ i ih => intro hi; exact (ih (by omega)).step (h.ed i hi) (h.lt _ (nth_mem hi))
  rw [← h.fin]
  exact this _ (by have := h.pos; omega)
/-- a periodic walk out of a closed road -/
theorem rch_walk {E : Nat → Nat → Prop} {N j k : Nat} (hj : j < N) (h : Rch E N j k) : ∃ (l : List Nat), 0 < l.length ∧ nth l 0 = j ∧ nth l (l.length - 1) = k ∧ (∀ x ∈ l, x < N) ∧ ∀ i, i + 1 < l.length → E (nth l i) (nth l (i + 1)) := by
  induction h with
  | refl => exact ⟨[j], by simp, rfl, rfl, by simpa using hj, fun i hi => by simp at hi⟩
  | step h e hc ih =>
    rename_i b c
    obtain ⟨l, h1, h2, h3, h4, h5⟩ := ih
    refine ⟨l ++ [c], by simp, by rw [Eng.nth_app_l h1]; exact h2, by simp, fun x hx => ?_, fun i hi => ?_⟩
    · rcases List.mem_append.mp hx with hx | hx
      · exact h4 x hx
      · simp at hx; subst hx; exact hc
    · simp at hi
      by_cases hil : i + 1 < l.length
      · rw [Eng.nth_app_l (by omega), Eng.nth_app_l hil]; exact h5 i hil
      · have : i + 1 = l.length := by omega
        rw [Eng.nth_app_l (by omega), this, Eng.nth_concat]
        rw [show i = l.length - 1 by omega, h3]; exact e
theorem no_imp {rs : List (List Nat)} {N : Nat} (hN : rs.length = N) {got : List Nat} (hg : ∀ x, x < N → nth got x = outR rs N (List.range N) x) : ¬ Imp rs got N := by
  rintro ⟨k, j, hk, hj, hs, hr⟩
  obtain ⟨l, h1, h2, h3, h4, h5⟩ := rch_walk hj hr
  let w : Nat → Nat := fun i => nth l (i % l.length)
  have hw : ∀ i, w i < N := fun i => h4 _ (nth_mem (Nat.mod_lt _ h1))
  have ed : ∀ i, Edge rs got (w i) (w (i + 1)) ∧ (i % l.length = l.length - 1 → Strict rs got (w i) (w (i + 1))) := fun i => by
    have hlt := Nat.mod_lt i h1
    by_cases hi : i % l.length = l.length - 1
    · have e1 : (i + 1) % l.length = 0 := by
        rw [Nat.add_mod, hi]
        by_cases h1l : l.length = 1
        · rw [h1l]
        · rw [Nat.mod_eq_of_lt (show 1 < l.length by omega), Nat.sub_add_cancel (by omega), Nat.mod_self]
      have : Strict rs got (w i) (w (i + 1)) := by
        show Strict rs got (nth l (i % l.length)) (nth l ((i + 1) % l.length))
        rw [hi, e1, h2, h3]; exact hs
      exact ⟨.inr this, fun _ => this⟩
    · have e1 : (i + 1) % l.length = i % l.length + 1 := by
        rw [Nat.add_mod]
        by_cases h1l : l.length = 1
        · omega
        · rw [Nat.mod_eq_of_lt (show 1 < l.length by omega), Nat.mod_eq_of_lt (by omega)]
      refine ⟨?_, fun h => absurd h hi⟩
      show Edge rs got (nth l (i % l.length)) (nth l ((i + 1) % l.length))
      rw [e1]
      exact h5 _ (by omega)
  have key := no_walk (rs := rs) (w := w) (m := l.length) h1 (fun i => by show nth l _ = nth l _; rw [Nat.add_mod_right]) (n := N) (T := List.range N) (by simp) (fun i => List.mem_range.mpr (hw i)) (fun i => by
    rcases (ed i).1 with h | h
    · exact .inl (by rw [h, hg _ (hw i)])
    · exact .inr (by unfold Strict at h; rw [hg _ (hw i)] at h; exact h)) (l.length - 1)
  have hst := (ed (l.length - 1)).2 (Nat.mod_eq_of_lt (by omega))
  unfold Strict at hst
  rw [hg _ (hw _)] at hst
  exact key hst
end TTC
end
section
set_option Elab.async false
set_option linter.all false
set_option maxRecDepth 100000
open Eng
local macro_rules
  | `(Ev $r $q $x) => `(@Ev _ $r (CQ.mk $q) (CX.mk $x))
  | `(Mv $r $q $x) => `(@Mv $r (CM.mk $q) (CY.mk $x))
  | `(Of $r $q) => `(@Of _ $r (CO.mk $q))
  | `(Br $r $p $q) => `(@Br $r (CP.mk $p) (CP.mk $q))
  | `(NX $s $p $e) => `(@NX _ $e (CN.mk $s $p))
namespace K88
open PySem Eng TTC
/-! ### the program's own, at wishes -/
theorem cw_ok {rs : List (List Nat)} (h : Wi rs) : m_check_wishes [.im (.tup (rs.map rowD))] = .ok (.im .non, []) := check_wishes_ok h.plW h.wishesB
theorem swap_e {rs : List (List Nat)} (h : Wi rs) : m_swap [.im (.tup (rs.map rowD))] = .ok (.im (rowD (outL rs)), []) := by
  apply eq_of_mv
  unfold m_swap b_swap
  simp [mv_runF, cw_ok h, swapped_e h]
def allR (rs : List (List Nat)) : List (List (List Nat)) := roundsL rs rs.length (List.range rs.length)
theorem outL_len (rs : List (List Nat)) : (outL rs).length = rs.length := by simp [outL]
theorem nth_outL {rs : List (List Nat)} {k : Nat} (hk : k < rs.length) : nth (outL rs) k = out rs k := by unfold outL; rw [nth_map _ (by simpa using hk), nth_range hk]
end K88
end
section
set_option Elab.async false
set_option linter.all false
set_option maxRecDepth 100000
open Eng
local macro_rules
  | `(Ev $r $q $x) => `(@Ev _ $r (CQ.mk $q) (CX.mk $x))
  | `(Mv $r $q $x) => `(@Mv $r (CM.mk $q) (CY.mk $x))
  | `(Of $r $q) => `(@Of _ $r (CO.mk $q))
  | `(Br $r $p $q) => `(@Br $r (CP.mk $p) (CP.mk $q))
  | `(NX $s $p $e) => `(@NX _ $e (CN.mk $s $p))
namespace K88
open PySem Eng TTC
/-! ### alike -/
def okA : Nat → D → Prop
  | 0, _ => False
  | n + 1, d => match d with
    | .non => True | .bl _ => True | .int _ => True | .str _ => True
    | .tup ds => ds.length ≤ 1000000 ∧ ∀ e ∈ ds, okA n e
    | _ => False
theorem alike_e : ∀ (n : Nat) (d : D), okA n d → m__law_alike n [.im d, .im d] = .ok (.im (.bl true), [])
  | 0, d, h => h.elim
  | n + 1, d, h => by
    apply eq_of_mv
    rw [m__law_alike]
    unfold b__law_alike
    cases d with
    | non => simp [mv_runF]
    | bl b => cases b <;> simp [mv_runF]
    | int i => simp [mv_runF]
    | str z => simp [mv_runF]
    | tup ds =>
      obtain ⟨h1, h2⟩ := h
      simp [mv_runF]
      refine ⟨by omega, ?_⟩
      refine ev_loop (xs := List.range ds.length) nD (fun o : Option M => [some (.im (.tup ds)), some (.im (.tup ds)), o]) (fun _ _ _ => True) none rfl rfl trivial ?_ ?_
      · rintro pre k post o e _
        have hk : k < ds.length := List.mem_range.mp (by rw [e]; simp)
        have ih := alike_e n (nth ds k) (h2 _ (nth_mem hk))
        simp [hk, ih]
        exact NX.mk _ rfl trivial
      · rintro o _
        simp
    | _ => exact h.elim
theorem okA_mono : ∀ {n m : Nat} {d : D}, okA n d → n ≤ m → okA m d
  | 0, _, _, h, _ => h.elim
  | n + 1, 0, _, _, hm => by omega
  | n + 1, m + 1, d, h, hm => by
    cases d <;> simp only [okA] at h ⊢
    exact ⟨h.1, fun e he => okA_mono (h.2 e he) (by omega)⟩
theorem okA_int {n : Nat} {i : Int} : okA (n + 1) (.int i) := trivial
theorem okA_row {n : Nat} {r : List Nat} (h : r.length ≤ 1000000) : okA (n + 2) (rowD r) := by
  refine ⟨by simpa using h, fun e he => ?_⟩
  obtain ⟨t, _, rfl⟩ := List.mem_map.mp he
  exact trivial
theorem okA_rows {n : Nat} {rs : List (List Nat)} (h : rs.length ≤ 1000000) (h2 : ∀ r ∈ rs, r.length ≤ 1000000) : okA (n + 3) (rowsD rs) := by
  refine ⟨by simpa using h, fun e he => ?_⟩
  obtain ⟨t, ht, rfl⟩ := List.mem_map.mp he
  exact okA_row (h2 t ht)
theorem okA_tup1 {n : Nat} {z : Str} {d : D} (h : okA (n + 1) d) : okA (n + 2) (.tup [.str z, d]) := by
  refine ⟨by simp, fun e he => ?_⟩
  simp at he
  rcases he with rfl | rfl
  · exact trivial
  · exact h
/-! ### drawing -/
theorem draw_eq : m__law_draw = mDraw := rfl
theorem pot_eq : m__law_pot = mPot := rfl
section
variable {Q : M → List M → Prop} {X : Nat → List D → Prop}
theorem law_pot_w {ns : List Int} (hq : ∀ p : Pot, Q p.m []) : Mv (m__law_pot [.im (.scr ns)]) Q X := pot_w hq
theorem law_draw_w {p : Pot} {c : Int} (h1 : 0 < c) (h2 : c < 1073741824) (hq : ∀ (r : Nat) (q : Pot), (r : Int) < c → Q (.im (.int (r : Int))) [q.m]) : Mv (m__law_draw [p.m, .im (.int c)]) Q X := draw_w h1 h2 hq
theorem er_map {α β : Type} (f : α → β) : ∀ (xs : List α) (k : Nat), (xs.map f).eraseIdx k = (xs.eraseIdx k).map f
  | [], _ => rfl
  | _ :: _, 0 => rfl
  | x :: xs, k + 1 => by simp [List.eraseIdx_cons_succ, er_map f xs k]
theorem perm_erIdx0 {α : Type} : ∀ (l : List α) (k : Nat) (h : k < l.length), (l[k] :: l.eraseIdx k).Perm l
  | a :: l, 0, _ => .refl _
  | a :: l, k + 1, h => by
    simp only [List.getElem_cons_succ, List.eraseIdx_cons_succ]
    exact (List.Perm.swap a _ _).trans ((perm_erIdx0 l k (by simpa using h)).cons a)
theorem perm_erIdx {l : List Nat} {k : Nat} (h : k < l.length) : (nth l k :: l.eraseIdx k).Perm l := by
  rw [nth_eq h]
  exact perm_erIdx0 l k h
theorem shuffled_w {p : Pot} {n : Nat} (hn : n ≤ 60) (hq : ∀ (row : List Nat) (q : Pot), row.Perm (List.range n) → Q (.ls (row.map (M.im ∘ nD))) [q.m]) : Mv (m__law_shuffled [p.m, .im (.int (n : Int))]) Q X := by
  unfold m__law_shuffled b__law_shuffled
  simp [mv_runF]
  refine ⟨by omega, by omega, ?_⟩
  refine ev_loop (xs := List.range n) nD (fun s : Pot × List Nat × List Nat × Option M => [some s.1.m, some (.im (.int (n : Int))), some (.ls (s.2.1.map (M.im ∘ nD))), some (.ls (s.2.2.1.map (M.im ∘ nD))), s.2.2.2]) (fun _ post s => (s.2.2.1 ++ s.2.1).Perm (List.range n) ∧ s.2.1.length = post.length) (p, List.range n, [], none) rfl (by simp) ⟨by simp, by simp⟩ ?_ ?_
  · rintro pre k post ⟨p, rest, row, o⟩ e ⟨h1, h2⟩
    have h1 : (row ++ rest).Perm (List.range n) := h1
    have h2 : rest.length = post.length + 1 := h2
    have hlen := h1.length_eq
    simp only [List.length_append, List.length_range] at hlen
    simp
    refine law_draw_w (by omega) (by omega) fun r q hr => ?_
    have hr' : r < rest.length := by omega
    simp [hr', er_map]
    refine ⟨by omega, by omega, NX.mk (q, rest.eraseIdx r, row ++ [nth rest r], _) (by simp [nth_map nD hr']; rfl) ⟨?_, ?_⟩⟩
    · show (row ++ [nth rest r] ++ rest.eraseIdx r).Perm _
      refine List.Perm.trans ?_ h1
      rw [List.append_assoc]
      exact List.Perm.append_left row (perm_erIdx hr')
    · show (rest.eraseIdx r).length = _
      rw [List.length_eraseIdx_of_lt hr']; omega
  · rintro ⟨p, rest, row, o⟩ ⟨h1, h2⟩
    have h2 : rest = [] := List.length_eq_zero_iff.mp h2
    subst h2
    simp
    exact hq row p (by simpa using h1)
end
end K88
end
section
set_option Elab.async false
set_option linter.all false
set_option maxRecDepth 100000
open Eng
local macro_rules
  | `(Ev $r $q $x) => `(@Ev _ $r (CQ.mk $q) (CX.mk $x))
  | `(Mv $r $q $x) => `(@Mv $r (CM.mk $q) (CY.mk $x))
  | `(Of $r $q) => `(@Of _ $r (CO.mk $q))
  | `(Br $r $p $q) => `(@Br $r (CP.mk $p) (CP.mk $q))
  | `(NX $s $p $e) => `(@NX _ $e (CN.mk $s $p))
namespace K88
open PySem Eng TTC
section
variable {Q : M → List M → Prop} {X : Nat → List D → Prop}
/-- a row of unlike things below n -/
structure Gr (n : Nat) (r : List Nat) : Prop where
  nd : r.Nodup
  lt : ∀ t ∈ r, t < n
theorem Gr.len {n : Nat} {r : List Nat} (h : Gr n r) : r.length ≤ n := by
  have := nodup_len (T := List.range n) h.nd fun x hx => List.mem_range.mpr (h.lt x hx)
  rwa [List.length_range] at this
theorem Gr.perm {n : Nat} {r : List Nat} (h : r.Perm (List.range n)) : Gr n r := ⟨h.nodup_iff.mpr List.nodup_range, fun t ht => List.mem_range.mp (h.mem_iff.mp ht)⟩
theorem Gr.sub {n : Nat} {r r' : List Nat} (h : Gr n r) (s : r'.Sublist r) : Gr n r' := ⟨h.nd.sublist s, fun t ht => h.lt t (s.subset ht)⟩
theorem Gr.take {n k : Nat} {r : List Nat} (h : Gr n r) : Gr n (r.take k) := h.sub (List.take_sublist _ _)
theorem Gr.filter {n : Nat} {q : Nat → Bool} {r : List Nat} (h : Gr n r) : Gr n (r.filter q) := h.sub List.filter_sublist
theorem Gr.wi {rs : List (List Nat)} (h1 : 1 ≤ rs.length) (h2 : rs.length ≤ 10) (h : ∀ r ∈ rs, Gr rs.length r) : Wi rs := ⟨h1, h2, fun r hr => (h r hr).nd, fun r hr => (h r hr).lt⟩
theorem Wi.gr {rs : List (List Nat)} (h : Wi rs) {r : List Nat} (hr : r ∈ rs) : Gr rs.length r := ⟨h.nd r hr, h.lt r hr⟩
theorem rows_w {p : Pot} {n : Nat} (h1 : 1 ≤ n) (hn : n ≤ 10) (hq : ∀ (rs : List (List Nat)) (q : Pot), Wi rs → rs.length = n → Q (.im (.tup (rs.map rowD))) [q.m]) : Mv (m__law_rows [p.m, .im (.int (n : Int))]) Q X := by
  unfold m__law_rows b__law_rows
  simp [mv_runF]
  refine shuffled_w (by omega) fun common p hcom => ?_
  simp
  refine law_draw_w (by omega) (by omega) fun turn p ht => ?_
  simp
  refine law_draw_w (by omega) (by omega) fun style p hs => ?_
  simp
  refine ⟨by omega, ?_⟩
  let E : Pot → List (List Nat) → Option M → Option M → Option M → Option M → Env := fun p rows o6 o7 o8 o9 => [some p.m, some (.im (.int (n : Int))), some (.ls (common.map (M.im ∘ nD))), some (.im (.int (1 + (turn : Int)))), some (.im (.int (style : Int))), some (.ls (rows.map (M.im ∘ rowD))), o6, o7, o8, o9, none]
  let S : (Pot × List (List Nat)) × (Option M × Option M × Option M × Option M) → Env := fun s => E s.1.1 s.1.2 s.2.1 s.2.2.1 s.2.2.2.1 s.2.2.2.2
  refine ev_loop (xs := List.range n) nD S (fun pre _ s => s.1.2.length = pre.length ∧ ∀ r ∈ s.1.2, Gr n r) ((p, []), (none, none, none, none)) rfl (by simp [S, E]) ⟨rfl, by simp⟩ ?_ ?_
  · rintro pre k post ⟨⟨p, rows⟩, ⟨o6, o7, o8, o9⟩⟩ e ⟨g1, g2⟩
    have g1 : rows.length = pre.length := g1
    have g2 : ∀ r ∈ rows, Gr n r := g2
    have hlen : pre.length + (post.length + 1) = n := by
      have := congrArg List.length e
      simp at this; omega
    have hk : k < n := List.mem_range.mp (by rw [e]; simp)
    have ifs : ∀ (p : Pot) (w : Nat) (row : List Nat) (o9 : Option M), Gr n row → Ev ((sIf (tCmp' eqD (oVar 7) (oOf (eC (.int 0)))) (sSeq (sSet [0] 8 (eSlc (oVar 8) iNone (iSome (oOf (eCallN 2 [0] m__law_draw (aCons (oVar 0) (aCons (oOf (eBin addD (oVar 1) (oOf (eC (.int 1))))) aNil))))))) sSkip) (sSeq (sIf (tCmp' eqD (oVar 7) (oOf (eC (.int 1)))) (sSeq (sSet [0] 8 (eSlc (oVar 8) iNone (iSome (oOf (eCallN 2 [0] m__law_draw (aCons (oVar 0) (aCons (oOf (eC (.int 3))) aNil))))))) sSkip) (sSeq (sIf (tCmp' eqD (oVar 7) (oOf (eC (.int 2)))) (sSeq (sSet [0] 8 (eSlc (oVar 2) iNone (iSome (oOf (eCall maxF (aCons (oOf (eC (.int 1))) (aCons (oOf (eBin subD (oVar 1) (oOf (eCallN 2 [0] m__law_draw (aCons (oVar 0) (aCons (oOf (eC (.int 3))) aNil)))))) aNil))))))) sSkip) (sSeq (sIf (tCmp' eqD (oVar 7) (oOf (eC (.int 3)))) (sSeq (sSet [0] 9 (eBin modD (oOf (eCall intF (aCons (oOf (eBin addD (oVar 6) (oVar 3))) aNil))) (oVar 1))) (sSeq (sSet [0] 8 (eBin addD (oOf (eLst (mCons (eVar 9) mNil))) (oOf (eSlc (oOf (eCmp [10] (wSeq (eVar 8)) (gNm 10) (tCmp' neD (oVar 10) (oVar 9)) (eVar 10))) iNone (iSome (oOf (eCallN 2 [0] m__law_draw (aCons (oVar 0) (aCons (oVar 1) aNil))))))))) sSkip)) (sSeq (sSet [0] 8 (eCmp [10] (wSeq (eVar 8)) (gNm 10) (tCmp' neD (oVar 10) (oVar 6)) (eVar 10))) sSkip)) sSkip)) sSkip)) sSkip)) (E p rows (some (.im (.int (k : Int)))) (some (.im (.int (w : Int)))) (some (.ls (row.map (M.im ∘ nD)))) o9))
        (fun fl e => fl = .nx ∧ NX (fun s : Pot × List Nat × Option M => E s.1 rows (some (.im (.int (k : Int)))) (some (.im (.int (w : Int)))) (some (.ls (s.2.1.map (M.im ∘ nD)))) s.2.2) (fun s => Gr n s.2.1) e) (fun _ _ _ => False) := fun p w row o9 hg => by
      have hcg := Gr.perm hcom
      have hrl := hg.len
      simp [E]
      refine Br.intro (c := w = 0) (fun c0 => ?_) fun c0 => ?_
      · simp [E]
        refine law_draw_w (by omega) (by omega) fun r p hr => ?_
        simp
        rw [← List.map_take]
        exact NX.mk (p, _, _) rfl hg.take
      · simp [E]
        refine Br.intro (c := (w : Int) = 1) (fun c0 => ?_) fun c0 => ?_
        · simp [E]
          refine law_draw_w (by omega) (by omega) fun r p hr => ?_
          simp
          rw [← List.map_take]
          exact NX.mk (p, _, _) rfl hg.take
        · simp [E]
          refine Br.intro (c := (w : Int) = 2) (fun c0 => ?_) fun c0 => ?_
          · simp [E]
            refine law_draw_w (by omega) (by omega) fun r p hr => ?_
            generalize hm : (if (n : Int) - r > 1 then (n : Int) - r else 1) = m'
            have hm2 : ((m'.toNat : Nat) : Int) = m' := by
              rw [← hm]; split <;> omega
            generalize m'.toNat = m at hm2
            rw [← hm2] at hm
            simp [hm]
            rw [← List.map_take]
            exact NX.mk (p, _, _) rfl hcg.take
          · simp [E]
            refine Br.intro (c := (w : Int) = 3) (fun c0 => ?_) fun c0 => ?_
            · simp [E]
              have hf1 := Int.emod_nonneg ((k : Int) + (1 + (turn : Int))) (b := (n : Int)) (by omega)
              have hf2 := Int.emod_lt_of_pos ((k : Int) + (1 + (turn : Int))) (b := (n : Int)) (by omega)
              generalize ((k : Int) + (1 + (turn : Int))) % (n : Int) = f' at hf1 hf2
              have hf3 : ((f'.toNat : Nat) : Int) = f' := by omega
              generalize f'.toNat = f at hf3
              subst hf3
              have hfn : f < n := by omega
              refine ⟨by omega, ?_⟩
              refine ev_cmp nD (fun t => decide (t ≠ f)) (M.im ∘ nD) (xs := row) rfl (by omega) (fun t ht => ?_) ?_
              · by_cases hh : t = f
                · simp [hh]
                · have hh' : ¬ ((t : Int) = f) := by omega
                  simp [hh, hh']
              · simp [E]
                refine law_draw_w (by omega) (by omega) fun r p hr => ?_
                simp
                have hfl := List.length_filter_le (fun t => decide (t ≠ f)) row
                simp at hfl
                refine ⟨by omega, ?_⟩
                rw [← List.map_take]
                refine NX.mk (p, f :: (row.filter fun t => !decide (t = f)).take r, _) (by simp [E]; rfl) ⟨List.nodup_cons.mpr ⟨fun hm => by
                  have := List.mem_of_mem_take hm
                  simp at this, (hg.filter.take).nd⟩, fun t ht => by
                  rcases List.mem_cons.mp ht with rfl | ht
                  · exact hfn
                  · exact hg.filter.take.lt t ht⟩
            · simp [E]
              refine ev_cmp nD (fun t => decide (t ≠ k)) (M.im ∘ nD) (xs := row) rfl (by omega) (fun t ht => ?_) ?_
              · by_cases hh : t = k
                · simp [hh]
                · have hh' : ¬ ((t : Int) = k) := by omega
                  simp [hh, hh']
              · simp [E]
                exact NX.mk (p, _, _) rfl hg.filter
    have nx : ∀ p row o7 o8 o9, Gr n row → NX S (fun s => s.1.2.length = (pre ++ [k]).length ∧ ∀ r ∈ s.1.2, Gr n r) (E p (rows ++ [row]) (some (.im (.int (k : Int)))) o7 o8 o9) := fun p row o7 o8 o9 hr => by
      refine NX.mk ((p, rows ++ [row]), (_, _, _, _)) rfl ⟨by show (rows ++ [row]).length = _; simp [g1], fun r hr' => ?_⟩
      rcases List.mem_append.mp hr' with h | h
      · exact g2 r h
      · simp at h; exact h ▸ hr
    have body : ∀ (p : Pot) (w : Nat) (o8 o9 : Option M), Ev ((sSeq (sSet [0] 8 (eCallN 2 [0] m__law_shuffled (aCons (oVar 0) (aCons (oVar 1) aNil)))) (sSeq (sIf (tCmp' eqD (oVar 7) (oOf (eC (.int 0)))) (sSeq (sSet [0] 8 (eSlc (oVar 8) iNone (iSome (oOf (eCallN 2 [0] m__law_draw (aCons (oVar 0) (aCons (oOf (eBin addD (oVar 1) (oOf (eC (.int 1))))) aNil))))))) sSkip) (sSeq (sIf (tCmp' eqD (oVar 7) (oOf (eC (.int 1)))) (sSeq (sSet [0] 8 (eSlc (oVar 8) iNone (iSome (oOf (eCallN 2 [0] m__law_draw (aCons (oVar 0) (aCons (oOf (eC (.int 3))) aNil))))))) sSkip) (sSeq (sIf (tCmp' eqD (oVar 7) (oOf (eC (.int 2)))) (sSeq (sSet [0] 8 (eSlc (oVar 2) iNone (iSome (oOf (eCall maxF (aCons (oOf (eC (.int 1))) (aCons (oOf (eBin subD (oVar 1) (oOf (eCallN 2 [0] m__law_draw (aCons (oVar 0) (aCons (oOf (eC (.int 3))) aNil)))))) aNil))))))) sSkip) (sSeq (sIf (tCmp' eqD (oVar 7) (oOf (eC (.int 3)))) (sSeq (sSet [0] 9 (eBin modD (oOf (eCall intF (aCons (oOf (eBin addD (oVar 6) (oVar 3))) aNil))) (oVar 1))) (sSeq (sSet [0] 8 (eBin addD (oOf (eLst (mCons (eVar 9) mNil))) (oOf (eSlc (oOf (eCmp [10] (wSeq (eVar 8)) (gNm 10) (tCmp' neD (oVar 10) (oVar 9)) (eVar 10))) iNone (iSome (oOf (eCallN 2 [0] m__law_draw (aCons (oVar 0) (aCons (oVar 1) aNil))))))))) sSkip)) (sSeq (sSet [0] 8 (eCmp [10] (wSeq (eVar 8)) (gNm 10) (tCmp' neD (oVar 10) (oVar 6)) (eVar 10))) sSkip)) sSkip)) sSkip)) sSkip)) (sSeq (sExpr (eApp 5 (eCall tupF (aCons (oVar 8) aNil)))) sSkip))) (E p rows (some (.im (.int (k : Int)))) (some (.im (.int (w : Int)))) o8 o9)) (fun fl e => LQ fl e (fun e => NX S (fun s => s.1.2.length = (pre ++ [k]).length ∧ ∀ r ∈ s.1.2, Gr n r) e) (fun fl e => SQ fl (sSeq (sRet (eCall tupF (aCons (oVar 5) aNil))) sSkip) e (fun fl e => RQ [0] fl e Q) (fun c fs _ => X c fs))) (fun c fs _ => X c fs) := fun p w o8 o9 => by
      refine ev_seq (fun e => NX (fun s : Pot × List Nat => E s.1 rows (some (.im (.int (k : Int)))) (some (.im (.int (w : Int)))) (some (.ls (s.2.map (M.im ∘ nD)))) o9) (fun s => Gr n s.2) e) ?_ ?_
      · simp [E]
        refine shuffled_w (by omega) fun row p hrow => ?_
        simp
        exact NX.mk (p, row) rfl (Gr.perm hrow)
      · rintro e ⟨⟨p, row⟩, rfl, hg⟩
        refine ev_seq _ (ev_exf (ifs p w row o9 hg)) ?_
        rintro e ⟨⟨p, row, o9⟩, rfl, hg⟩
        simp [E]
        refine ⟨by omega, ?_⟩
        have := nx p row (some (.im (.int (w : Int)))) (some (.ls (row.map (M.im ∘ nD)))) o9 hg
        simpa [E] using this
    simp [S, E]
    refine Br.intro (c := (style : Int) = 5) (fun c5 => ?_) fun c5 => ?_
    · have h5 : Ev (sSeq (sSet [0] 7 (eCallN 2 [0] m__law_draw (aCons (oVar 0) (aCons (oOf (eC (.int 5))) aNil)))) sSkip (E p rows (some (.im (.int (k : Int)))) (some (.im (.int (style : Int)))) o8 o9)) (fun fl e => fl = .nx ∧ NX (fun s : Pot × Nat => E s.1 rows (some (.im (.int (k : Int)))) (some (.im (.int (s.2 : Int)))) o8 o9) (fun _ => True) e) (fun c fs _ => X c fs) := by
        simp [E]
        refine law_draw_w (by omega) (by omega) fun w p hw => ?_
        simp
        exact NX.mk (p, w) rfl trivial
      refine Ev.mono h5 ?_ (fun _ _ _ h => h)
      rintro fl e ⟨rfl, ⟨p, w⟩, rfl, _⟩
      exact body p w o8 o9
    · refine ev_sSkip.mpr ?_
      exact body p style o8 o9
  · rintro ⟨⟨p, rows⟩, ⟨o6, o7, o8, o9⟩⟩ ⟨g1, g2⟩
    have g1 : rows.length = n := by simpa using g1
    have g2 : ∀ r ∈ rows, Gr n r := g2
    simp [S, E]
    exact hq rows p (Gr.wi (by omega) (by omega) (by rw [g1]; exact g2)) g1
end
end K88
end
section
set_option Elab.async false
set_option linter.all false
set_option maxRecDepth 100000
open Eng
local macro_rules
  | `(Ev $r $q $x) => `(@Ev _ $r (CQ.mk $q) (CX.mk $x))
  | `(Mv $r $q $x) => `(@Mv $r (CM.mk $q) (CY.mk $x))
  | `(Of $r $q) => `(@Of _ $r (CO.mk $q))
  | `(Br $r $p $q) => `(@Br $r (CP.mk $p) (CP.mk $q))
  | `(NX $s $p $e) => `(@NX _ $e (CN.mk $s $p))
namespace K88
open PySem Eng TTC
section
variable {Q : M → List M → Prop} {X : Nat → List D → Prop}
theorem range_split {n x : Nat} {pre post : List Nat} (e : List.range n = pre ++ x :: post) : x = pre.length ∧ pre.length + (post.length + 1) = n := by
  have h1 := congrArg List.length e
  simp at h1
  have h2 : (List.range n)[pre.length]? = some x := by rw [e]; simp
  rw [List.getElem?_range (by omega)] at h2
  injection h2 with h2
  exact ⟨h2.symm, h1.symm⟩
theorem range_pre {n : Nat} {pre post : List Nat} (e : List.range n = pre ++ post) : pre = List.range pre.length := by
  have := congrArg (List.take pre.length) e
  rw [List.take_left, List.take_range] at this
  have h2 := congrArg List.length e
  simp at h2
  rw [← this, Nat.min_eq_left (by omega)]
  simp
@[simp] theorem isD_ln (ds : List D) : isD (.lst ds) .non = some false := rfl
@[simp] theorem isntD_ln (ds : List D) : isntD (.lst ds) .non = some true := rfl
def rkD (rs : List (List Nat)) (N k : Nat) : D := .lst ((List.range N).map fun j => nD (rank rs k j))
def ranksD (rs : List (List Nat)) (N : Nat) : D := .lst ((List.range N).map (rkD rs N))
theorem idx_ranks {rs : List (List Nat)} {N k : Nat} (h : k < N) : idxD (ranksD rs N) (.int (k : Int)) = some (rkD rs N k) := by
  unfold ranksD
  rw [idxD_l, atI_nat]
  simp [gtO, h]
theorem idx_rk {rs : List (List Nat)} {N k j : Nat} (h : j < N) : idxD (rkD rs N k) (.int (j : Int)) = some (.int (rank rs k j : Nat)) := by
  unfold rkD
  rw [idxD_l, atI_nat]
  simp [gtO, h]
def opD : Option Nat → D
  | none => .non
  | some n => .int (n : Int)
@[simp] theorem opD_none : opD none = .non := rfl
@[simp] theorem opD_some (n : Nat) : opD (some n) = .int (n : Int) := rfl
/-- an outcome -/
structure Oc (N : Nat) (got : List Nat) : Prop where
  len : got.length = N
  nd : got.Nodup
  lt : ∀ x ∈ got, x < N
theorem Oc.at {N : Nat} {got : List Nat} (h : Oc N got) {k : Nat} (hk : k < N) : nth got k < N := h.lt _ (nth_mem (by rw [h.len]; exact hk))
/-- the search: the queue, and who stands ahead of whom -/
structure Bs (rs : List (List Nat)) (got : List Nat) (N start : Nat) (q : List Nat) (ah : List (Option Nat)) : Prop where
  nd : q.Nodup
  lt : ∀ x ∈ q, x < N
  st : nth q 0 = start
  pos : 0 < q.length
  len : ah.length = q.length
  top : nth ah 0 = none
  up : ∀ i, 0 < i → i < q.length → ∃ p, nth ah i = some p ∧ p < i ∧ Edge rs got (nth q p) (nth q i)
theorem Bs.qlen {rs : List (List Nat)} {got : List Nat} {N start : Nat} {q : List Nat} {ah : List (Option Nat)} (h : Bs rs got N start q ah) : q.length ≤ N := by
  have := nodup_len (T := List.range N) h.nd fun x hx => List.mem_range.mpr (h.lt x hx)
  rwa [List.length_range] at this
theorem Bs.snoc {rs : List (List Nat)} {got : List Nat} {N start : Nat} {q : List Nat} {ah : List (Option Nat)} (h : Bs rs got N start q ah) {j i : Nat} (hj : j < N) (hn : j ∉ q) (hi : i < q.length) (he : Edge rs got (nth q i) j) : Bs rs got N start (q ++ [j]) (ah ++ [some i]) := by
  refine ⟨?_, fun x hx => ?_, by rw [nth_app_l h.pos]; exact h.st, by simp, by simp [h.len], by rw [nth_app_l (by rw [h.len]; exact h.pos)]; exact h.top, fun i' h1 h2 => ?_⟩
  · rw [List.nodup_append]
    exact ⟨h.nd, by simp, by intro a ha b hb e; simp at hb; subst hb; subst e; exact hn ha⟩
  · rcases List.mem_append.mp hx with hx | hx
    · exact h.lt x hx
    · simp at hx; omega
  · simp at h2
    by_cases e : i' < q.length
    · obtain ⟨p, a, b, c⟩ := h.up i' h1 e
      refine ⟨p, by rw [nth_app_l (by rw [h.len]; exact e)]; exact a, b, ?_⟩
      rw [nth_app_l (by omega), nth_app_l e]; exact c
    · have e2 : i' = q.length := by omega
      subst e2
      refine ⟨i, by rw [← h.len, nth_concat], by omega, ?_⟩
      rw [nth_app_l hi, nth_concat]; exact he
/-- the road found so far, from the place h on up to the place s -/
structure Rd (rs : List (List Nat)) (got : List Nat) (q : List Nat) (s h : Nat) (ix : List Nat) : Prop where
  pos : 0 < ix.length
  hd : nth ix 0 = h
  fin : nth ix (ix.length - 1) = s
  asc : ix.Pairwise (· < ·)
  up : ∀ i ∈ ix, i < q.length
  ed : ∀ i, i + 1 < ix.length → Edge rs got (nth q (nth ix i)) (nth q (nth ix (i + 1)))
theorem Rd.road {rs : List (List Nat)} {got : List Nat} {N start : Nat} {q : List Nat} {ah : List (Option Nat)} (b : Bs rs got N start q ah) {s : Nat} {ix : List Nat} (r : Rd rs got q s 0 ix) : Road rs got N start (nth q s) (ix.map fun i => nth q i) := by
  have hp := r.pos
  refine ⟨by simpa using hp, ?_, fun x hx => ?_, by rw [nth_map _ hp, r.hd]; exact b.st, by simp; rw [nth_map _ (by omega), r.fin], fun i hi => ?_⟩
  · rw [List.nodup_iff_pairwise_ne, List.pairwise_map]
    refine r.asc.imp_of_mem fun {i j} hi hj hij e => ?_
    have h1 := r.up i hi
    have h2 := r.up j hj
    rw [nth_eq h1, nth_eq h2] at e
    have := (List.nodup_iff_pairwise_ne.mp b.nd)
    rw [List.pairwise_iff_getElem] at this
    exact this i j h1 h2 hij e
  · obtain ⟨i, hi, rfl⟩ := List.mem_map.mp hx
    exact b.lt _ (nth_mem (r.up i hi))
  · simp at hi
    rw [nth_map _ (by omega), nth_map _ hi]
    exact r.ed i hi
theorem back_w {rs : List (List Nat)} {got : List Nat} {start goal N : Nat} (hN : N ≤ 10) (ho : Oc N got) (hs : start < N)
    (hq1 : ¬ Rch (Edge rs got) N start goal → Q (.im .non) []) (hq2 : ∀ r : List Nat, Road rs got N start goal r → Q (.ls (r.map (M.im ∘ nD))) []) :
    Mv (m__law_back [.im (ranksD rs N), .im (.tup (got.map nD)), .im (.int (start : Int)), .im (.int (goal : Int))]) Q X := by
  have hgl := ho.len
  unfold m__law_back b__law_back
  simp [mv_runF, hgl]
  let S : (List Nat × List (Option Nat)) × (Option M × Option M × Option M) → Env := fun s => [some (.im (ranksD rs N)), some (.im (.tup (got.map nD))), some (.im (.int (start : Int))), some (.im (.int (goal : Int))), some (.ls (s.1.1.map (M.im ∘ nD))), some (.ls (s.1.2.map (M.im ∘ opD))), s.2.1, s.2.2.1, none, none, none, s.2.2.2]
  refine ⟨by omega, ?_⟩
  refine ev_loop (xs := List.range N) nD S (fun pre _ s => Bs rs got N start s.1.1 s.1.2 ∧ pre.length ≤ s.1.1.length ∧ ∀ i, i < pre.length → nth s.1.1 i ≠ goal ∧ ∀ b, b < N → Edge rs got (nth s.1.1 i) b → b ∈ s.1.1) (([start], [none]), (none, none, none)) rfl (by simp [S]) ⟨⟨by simp, by simpa using hs, rfl, by simp, rfl, rfl, fun i h1 h2 => by simp at h2; omega⟩, by simp, by simp⟩ ?_ ?_
  · rintro pre i post ⟨⟨q, ah⟩, ⟨o6, o7, o11⟩⟩ e ⟨hb, hl, hc⟩
    obtain ⟨hi, hn⟩ := range_split e
    have hb : Bs rs got N start q ah := hb
    have hl : pre.length ≤ q.length := hl
    have hc : ∀ i, i < pre.length → nth q i ≠ goal ∧ ∀ b, b < N → Edge rs got (nth q i) b → b ∈ q := hc
    have hql := hb.qlen
    have hal := hb.len
    -- what is not reached
    have never : ∀ (q : List Nat) (ah : List (Option Nat)), Bs rs got N start q ah → (∀ i, i < q.length → nth q i ≠ goal ∧ ∀ b, b < N → Edge rs got (nth q i) b → b ∈ q) → ¬ Rch (Edge rs got) N start goal := fun q ah hb hc hr => by
      have := hr.closed (S := fun x => x ∈ q) (fun a b ha he hbN => by
        obtain ⟨i, h1, h2⟩ := mem_nth ha
        exact (hc i h1).2 b hbN (h2 ▸ he)) (by rw [← hb.st]; exact nth_mem hb.pos)
      obtain ⟨i, h1, h2⟩ := mem_nth this
      exact (hc i h1).1 h2
    simp [S]
    refine Br.intro (c := q.length ≤ i) (fun h1 => ?_) fun h1 => ?_
    · simp
      exact hq1 (never q ah hb fun i' hi' => hc i' (by omega))
    · have hiq : i < q.length := by omega
      have hatN : nth q i < N := hb.lt _ (nth_mem hiq)
      simp [hiq]
      refine Br.intro (c := ((nth q i : Nat) : Int) = (goal : Int)) (fun h2 => ?_) fun h2 => ?_
      · have h2' : nth q i = goal := by omega
        simp [hiq, hal]
        refine ⟨by omega, ?_⟩
        let S2 : Nat × List Nat × List Nat × Option M → Env := fun s => [some (.im (ranksD rs N)), some (.im (.tup (got.map nD))), some (.im (.int (start : Int))), some (.im (.int (goal : Int))), some (.ls (q.map (M.im ∘ nD))), some (.ls (ah.map (M.im ∘ opD))), some (.im (.int (i : Int))), some (.im (.int (nth q i : Nat))), some (.ls (s.2.2.1.map (M.im ∘ nD))), some (.im (opD (nth ah s.1))), s.2.2.2, o11]
        refine ev_loop (xs := List.range N) nD S2 (fun pre _ s => s.2.2.1 = (s.2.1.map fun j => nth q j).reverse ∧ Rd rs got q i s.1 s.2.1 ∧ s.1 + pre.length ≤ i) (i, [i], [nth q i], none) (by rw [hgl]) (by simp [S2]) ⟨rfl, ⟨by simp, rfl, rfl, by simp, by simpa using hiq, fun i' h' => by simp at h'⟩, by simp⟩ ?_ ?_
        · rintro pre' t post' ⟨h, ix, r, o10⟩ e' ⟨hrr, hr, hle⟩
          obtain ⟨ht, hn'⟩ := range_split e'
          have hr : Rd rs got q i h ix := hr
          have hr2 : r = (ix.map fun j => nth q j).reverse := hrr
          have hle : h + pre'.length ≤ i := hle
          by_cases h0 : h = 0
          · subst h0
            simp [S2, hb.top]
            have := hq2 _ (h2' ▸ hr.road hb)
            have e9 : (ix.map fun j => nth q j) = r.reverse := by rw [hr2, List.reverse_reverse]
            rw [e9] at this
            simpa using this
          · obtain ⟨p, hp1, hp2, hp3⟩ := hb.up h (by omega) (by omega)
            have hixl : ix.length ≤ 20 := by
              have := nodup_len (T := List.range q.length) (lt_nodup hr.asc) fun x hx => List.mem_range.mpr (hr.up x hx)
              rw [List.length_range] at this
              omega
            have hpq : p < q.length := by omega
            have hrl : r.length = ix.length := by rw [hr2]; simp
            simp [S2, hp1, hpq, hal]
            refine ⟨by omega, NX.mk (p, p :: ix, r ++ [nth q p], _) (by simp [S2]; rfl) ⟨by show r ++ [nth q p] = _; rw [hr2]; simp, ⟨by simp, rfl, ?_, ?_, ?_, ?_⟩, ?_⟩⟩
            · have := hr.pos
              show nth (p :: ix) ((p :: ix).length - 1) = i
              rw [List.length_cons, Nat.add_sub_cancel]
              obtain ⟨m, hm⟩ : ∃ m, ix.length = m + 1 := ⟨ix.length - 1, by omega⟩
              rw [hm, nth_cons_succ, ← hr.fin, hm, Nat.add_sub_cancel]
            · refine List.pairwise_cons.mpr ⟨fun a ha => ?_, hr.asc⟩
              obtain ⟨n, h3, h4⟩ := mem_nth ha
              have : h ≤ a := by
                by_cases n0 : n = 0
                · subst n0; rw [hr.hd] at h4; omega
                · have := hr.asc
                  rw [List.pairwise_iff_getElem] at this
                  have := this 0 n hr.pos h3 (by omega)
                  rw [← nth_eq hr.pos, ← nth_eq h3, hr.hd, h4] at this
                  omega
              omega
            · intro a ha
              rcases List.mem_cons.mp ha with rfl | ha
              · exact hpq
              · exact hr.up a ha
            · intro n hn2
              show Edge rs got (nth q (nth (p :: ix) n)) (nth q (nth (p :: ix) (n + 1)))
              cases n with
              | zero => rw [nth_cons_zero, nth_cons_succ, hr.hd]; exact hp3
              | succ n => rw [nth_cons_succ, nth_cons_succ]; exact hr.ed n (by have : n + 1 + 1 < (p :: ix).length := hn2; simp at this; omega)
            · show p + (pre' ++ [t]).length ≤ i
              simp; omega
        · rintro ⟨h, ix, r, o10⟩ ⟨_, hr, hle⟩
          have hle : h + (List.range N).length ≤ i := hle
          simp at hle
          omega
      · have h2' : nth q i ≠ goal := by omega
        simp
        refine ⟨by omega, ?_⟩
        let S3 : (List Nat × List (Option Nat)) × Option M → Env := fun s => S (s.1, (some (.im (.int (i : Int))), some (.im (.int (nth q i : Nat))), s.2))
        refine ev_loop (xs := List.range N) nD S3 (fun pre' _ s => Bs rs got N start s.1.1 s.1.2 ∧ (∃ ext, s.1.1 = q ++ ext) ∧ ∀ b ∈ pre', Edge rs got (nth q i) b → b ∈ s.1.1) ((q, ah), o11) (by rw [hgl]) rfl ⟨hb, ⟨[], by simp⟩, by simp⟩ ?_ ?_
        · rintro pre' j post' ⟨⟨q', ah'⟩, o11⟩ e' ⟨hb', ⟨ext, hx⟩, hc'⟩
          obtain ⟨hj, hn'⟩ := range_split e'
          have hb' : Bs rs got N start q' ah' := hb'
          have hx : q' = q ++ ext := hx
          have hc' : ∀ b ∈ pre', Edge rs got (nth q i) b → b ∈ q' := hc'
          have hq'l := hb'.qlen
          have ha'l := hb'.len
          have hjN : j < N := by omega
          have hgN := ho.at hatN
          have nat' : nth q' i = nth q i := by rw [hx, nth_app_l hiq]
          have hiq' : i < q'.length := by rw [hx]; simp; omega
          have skip : (Edge rs got (nth q i) j → j ∈ q') → NX S3 (fun s => Bs rs got N start s.1.1 s.1.2 ∧ (∃ ext, s.1.1 = q ++ ext) ∧ ∀ b ∈ pre' ++ [j], Edge rs got (nth q i) b → b ∈ s.1.1) (S3 ((q', ah'), some (.im (.int (j : Int))))) := fun hh =>
            NX.mk ((q', ah'), _) rfl ⟨hb', ⟨ext, hx⟩, fun b hb he => by
              rcases List.mem_append.mp hb with hb | hb
              · exact hc' b hb he
              · simp at hb; subst hb; exact hh he⟩
          have more : j ∉ q' → Edge rs got (nth q i) j → NX S3 (fun s => Bs rs got N start s.1.1 s.1.2 ∧ (∃ ext, s.1.1 = q ++ ext) ∧ ∀ b ∈ pre' ++ [j], Edge rs got (nth q i) b → b ∈ s.1.1) (S3 ((q' ++ [j], ah' ++ [some i]), some (.im (.int (j : Int))))) := fun hn he =>
            NX.mk ((q' ++ [j], ah' ++ [some i]), _) rfl ⟨hb'.snoc hjN hn hiq' (nat'.symm ▸ he), ⟨ext ++ [j], by show q' ++ [j] = _; rw [hx, List.append_assoc]⟩, fun b hb he => by
              show b ∈ q' ++ [j]
              rcases List.mem_append.mp hb with hb | hb
              · exact List.mem_append.mpr (.inl (hc' b hb he))
              · exact List.mem_append.mpr (.inr hb)⟩
          simp [S3, S]
          refine Br.intro (c := j ∈ q') (fun h3 => ?_) fun h3 => ?_
          · simp
            simpa [S3, S] using skip fun _ => h3
          · simp [hatN, hgl]
            refine Br.intro (c := (j : Int) = ((nth got (nth q i) : Nat) : Int)) (fun h4 => ?_) fun h4 => ?_
            · have he : Edge rs got (nth q i) j := .inl (by omega)
              simp
              refine ⟨by omega, by omega, ?_⟩
              simpa [S3, S] using more h3 he
            · simp [idx_ranks hatN, idx_rk hjN, hatN, hgl, idx_rk hgN]
              refine Br.intro (c := rank rs (nth q i) j < rank rs (nth q i) (nth got (nth q i))) (fun h5 => ?_) fun h5 => ?_
              · simp
                refine ⟨by omega, by omega, ?_⟩
                simpa [S3, S] using more h3 (.inr h5)
              · simp
                simpa [S3, S] using skip fun he => by
                  rcases he with he | he
                  · omega
                  · exact absurd he h5
        · rintro ⟨⟨q', ah'⟩, o11⟩ ⟨hb', ⟨ext, hx⟩, hc'⟩
          have hb' : Bs rs got N start q' ah' := hb'
          have hx : q' = q ++ ext := hx
          have hc' : ∀ b ∈ List.range N, Edge rs got (nth q i) b → b ∈ q' := hc'
          simp only [SQ_nx, ev_sSkip, LQ_nx]
          refine NX.mk ((q', ah'), (_, _, _)) rfl ⟨hb', ?_, fun i' hi' => ?_⟩
          · show (pre ++ [i]).length ≤ q'.length
            rw [hx]; simp; omega
          · simp at hi'
            show nth q' i' ≠ goal ∧ ∀ b, b < N → Edge rs got (nth q' i') b → b ∈ q'
            have e1 : nth q' i' = nth q i' := by rw [hx, nth_app_l (by omega)]
            rw [e1]
            by_cases h6 : i' < pre.length
            · obtain ⟨a, b⟩ := hc i' h6
              exact ⟨a, fun x hx' he => by rw [hx]; exact List.mem_append.mpr (.inl (b x hx' he))⟩
            · have : i' = i := by omega
              subst this
              exact ⟨h2', fun b hb he => hc' b (List.mem_range.mpr hb) he⟩
  · rintro ⟨⟨q, ah⟩, ⟨o6, o7, o11⟩⟩ ⟨hb, hl, hc⟩
    have hb : Bs rs got N start q ah := hb
    have hl : (List.range N).length ≤ q.length := hl
    have hc : ∀ i, i < (List.range N).length → nth q i ≠ goal ∧ ∀ b, b < N → Edge rs got (nth q i) b → b ∈ q := hc
    simp at hl hc
    have hql := hb.qlen
    simp [S]
    refine hq1 fun hr => ?_
    have := hr.closed (S := fun x => x ∈ q) (fun a b ha he hbN => by
      obtain ⟨i, h1, h2⟩ := mem_nth ha
      exact (hc i (by omega)).2 b hbN (h2 ▸ he)) (by rw [← hb.st]; exact nth_mem hb.pos)
    obtain ⟨i, h1, h2⟩ := mem_nth this
    exact (hc i (by omega)).1 h2
end
end K88
end
section
set_option Elab.async false
set_option linter.all false
set_option maxRecDepth 100000
open Eng
local macro_rules
  | `(Ev $r $q $x) => `(@Ev _ $r (CQ.mk $q) (CX.mk $x))
  | `(Mv $r $q $x) => `(@Mv $r (CM.mk $q) (CY.mk $x))
  | `(Of $r $q) => `(@Of _ $r (CO.mk $q))
  | `(Br $r $p $q) => `(@Br $r (CP.mk $p) (CP.mk $q))
  | `(NX $s $p $e) => `(@NX _ $e (CN.mk $s $p))
namespace K88
open PySem Eng TTC
section
variable {Q : M → List M → Prop} {X : Nat → List D → Prop}
theorem ring_w {rs : List (List Nat)} {got : List Nat} {N : Nat} (hN : N ≤ 10) (ho : Oc N got)
    (hq1 : ¬ Imp rs got N → Q (.im .non) []) (hq2 : ∀ (k j : Nat) (r : List Nat), k < N → Strict rs got k j → Road rs got N j k r → Q (.ls (r.map (M.im ∘ nD))) []) :
    Mv (m__law_ring [.im (ranksD rs N), .im (.tup (got.map nD))]) Q X := by
  have hgl := ho.len
  unfold m__law_ring b__law_ring
  simp [mv_runF, hgl]
  refine ⟨by omega, ?_⟩
  let S : Option M × Option M × Option M → Env := fun s => [some (.im (ranksD rs N)), some (.im (.tup (got.map nD))), s.1, s.2.1, s.2.2]
  refine ev_loop (xs := List.range N) nD S (fun pre _ _ => ∀ k ∈ pre, ∀ j, j < N → Strict rs got k j → ¬ Rch (Edge rs got) N j k) (none, none, none) rfl rfl (by simp) ?_ ?_
  · rintro pre k post ⟨o2, o3, o4⟩ e hP
    obtain ⟨hk, hn⟩ := range_split e
    have hP : ∀ k ∈ pre, ∀ j, j < N → Strict rs got k j → ¬ Rch (Edge rs got) N j k := hP
    have hkN : k < N := by omega
    have hgk := ho.at hkN
    simp [S, hgl]
    refine ⟨by omega, ?_⟩
    let S2 : Option M × Option M → Env := fun s => [some (.im (ranksD rs N)), some (.im (.tup (got.map nD))), some (.im (.int (k : Int))), s.1, s.2]
    refine ev_loop (xs := List.range N) nD S2 (fun pre' _ _ => ∀ j ∈ pre', Strict rs got k j → ¬ Rch (Edge rs got) N j k) (o3, o4) rfl rfl (by simp) ?_ ?_
    · rintro pre' j post' ⟨o3, o4⟩ e' hP'
      obtain ⟨hj, hn'⟩ := range_split e'
      have hP' : ∀ j ∈ pre', Strict rs got k j → ¬ Rch (Edge rs got) N j k := hP'
      have hjN : j < N := by omega
      have keep : (Strict rs got k j → ¬ Rch (Edge rs got) N j k) → ∀ i ∈ pre' ++ [j], Strict rs got k i → ¬ Rch (Edge rs got) N i k := fun hh i hi => by
        rcases List.mem_append.mp hi with hi | hi
        · exact hP' i hi
        · simp at hi; subst hi; exact hh
      simp [S2, idx_ranks hkN, idx_rk hjN, hgl, hkN, idx_rk hgk]
      refine Br.intro (c := rank rs k j < rank rs k (nth got k)) (fun h1 => ?_) fun h1 => ?_
      · simp
        refine back_w hN ho hjN (fun hr => ?_) fun r hr => ?_
        · simp
          exact NX.mk (_, _) rfl (keep fun _ => hr)
        · simp
          exact hq2 k j r hkN h1 hr
      · simp
        exact NX.mk (_, _) rfl (keep fun hs => absurd hs h1)
    · rintro ⟨o3, o4⟩ hP'
      have hP' : ∀ j ∈ List.range N, Strict rs got k j → ¬ Rch (Edge rs got) N j k := hP'
      simp only [SQ_nx, ev_sSkip, LQ_nx]
      refine NX.mk (_, _, _) rfl fun i hi j hj => ?_
      rcases List.mem_append.mp hi with hi | hi
      · exact hP i hi j hj
      · simp at hi; subst hi; exact hP' j (List.mem_range.mpr hj)
  · rintro ⟨o2, o3, o4⟩ hP
    have hP : ∀ k ∈ List.range N, ∀ j, j < N → Strict rs got k j → ¬ Rch (Edge rs got) N j k := hP
    simp [S]
    refine hq1 ?_
    rintro ⟨k, j, hk, hj, h1, h2⟩
    exact hP k (List.mem_range.mpr hk) j hj h1 h2
/-! ### what blocks -/
def isNum : D → Bool
  | .int i => decide (0 ≤ i)
  | _ => false
theorem is_number_e {d : D} (h : pl d = true) : m__law_is_number [.im d] = .ok (.im (.bl (isNum d)), []) := by
  apply eq_of_mv
  unfold m__law_is_number b__law_is_number
  cases d <;> simp [pl] at h <;> simp [mv_runF, isNum, isiF]
def pairOf : D → Option (Nat × Nat)
  | .tup [.int a, .int b] => if 0 ≤ a ∧ 0 ≤ b then some (a.toNat, b.toNat) else none
  | _ => none
instance (rs : List (List Nat)) (got : List Nat) (a b : Nat) : Decidable (Strict rs got a b) := by unfold Strict; infer_instance
instance (rs : List (List Nat)) (got : List Nat) (a b : Nat) : Decidable (Edge rs got a b) := by unfold Edge; infer_instance
def blkR (rs : List (List Nat)) (got lot0 : List Nat) : List Nat → List D → List Nat → Option Nat
  | [], [], _ => some 0
  | l :: lot, d :: ds, used => (pairOf d).bind fun p => if p.1 = l ∧ p.2 ∈ lot0 ∧ p.2 ∉ used ∧ Edge rs got l p.2 then (blkR rs got lot0 lot ds (used ++ [p.2])).map fun g => g + (if Strict rs got l p.2 then 1 else 0) else none
  | _, _, _ => none
def blkB (rs : List (List Nat)) (got lot : List Nat) : D → Bool
  | .tup ds => match blkR rs got lot lot ds [] with
    | some g => decide (0 < g)
    | none => false
  | _ => false
/-- shallow enough to be looked at -/
def Spl (d : D) : Prop := pl d = true ∧ match d with | .tup ds => ds.length ≤ 30 ∧ ∀ e ∈ ds, pl e = true ∧ (match e with | .tup fs => fs.length ≤ 30 ∧ ∀ f ∈ fs, pl f = true | _ => True) | _ => True
/-- a lot of persons -/
structure Lt (N : Nat) (lot : List Nat) : Prop where
  asc : lot.Pairwise (· < ·)
  lt : ∀ x ∈ lot, x < N
theorem Lt.len {N : Nat} {lot : List Nat} (h : Lt N lot) : lot.length ≤ N := by
  have := nodup_len (T := List.range N) (lt_nodup h.asc) fun x hx => List.mem_range.mpr (h.lt x hx)
  rwa [List.length_range] at this
theorem blkR_len {rs : List (List Nat)} {got lot0 : List Nat} : ∀ {lot : List Nat} {ds : List D} {used : List Nat}, ds.length ≠ lot.length → blkR rs got lot0 lot ds used = none
  | [], [], _, h => absurd rfl h
  | [], _ :: _, _, _ => rfl
  | _ :: _, [], _, _ => rfl
  | l :: lot, d :: ds, used, h => by
    have ih := fun u => blkR_len (rs := rs) (got := got) (lot0 := lot0) (lot := lot) (ds := ds) (used := u) (by simpa using h)
    unfold blkR
    cases pairOf d with
    | none => rfl
    | some p =>
      simp only [Option.bind_some, ih, Option.map_none]
      split <;> rfl
theorem drop_nth {α : Type} [Inhabited α] {l : List α} {k : Nat} (h : k < l.length) : l.drop k = nth l k :: l.drop (k + 1) := by
  rw [List.drop_eq_getElem_cons h, nth_eq h]
theorem law_blocks_e {rs : List (List Nat)} {got lot : List Nat} {N : Nat} (hN : N ≤ 10) (ho : Oc N got) (hl : Lt N lot) {d : D} (hd : Spl d) :
    m__law_blocks [.im (ranksD rs N), .im (.tup (got.map nD)), .im (.tup (lot.map nD)), .im d] = .ok (.im (.bl (blkB rs got lot d)), []) := by
  apply eq_of_mv
  have hgl := ho.len
  have hll := hl.len
  unfold m__law_blocks b__law_blocks
  obtain ⟨hp, hd2⟩ := hd
  cases d with
  | tup ds =>
    obtain ⟨hd3, hd4⟩ := hd2
    simp [mv_runF]
    refine Br.intro (c := (ds.length : Int) = lot.length) (fun c1 => ?_) fun c1 => ?_
    · have c1' : ds.length = lot.length := by omega
      simp
      refine ⟨by omega, ?_⟩
      let S : (List Nat × Nat) × (Option M × Option M × Option M × Option M) → Env := fun s => [some (.im (ranksD rs N)), some (.im (.tup (got.map nD))), some (.im (.tup (lot.map nD))), some (.im (.tup ds)), some (.ls (s.1.1.map (M.im ∘ nD))), some (.im (.int (s.1.2 : Int))), s.2.1, s.2.2.1, s.2.2.2.1, s.2.2.2.2]
      refine ev_loop (xs := List.range lot.length) nD S (fun pre _ s => s.1.1.length = pre.length ∧ blkR rs got lot lot ds [] = (blkR rs got lot (lot.drop pre.length) (ds.drop pre.length) s.1.1).map fun g => g + s.1.2) (([], 0), (none, none, none, none)) rfl (by simp [S]) ⟨rfl, by simp⟩ ?_ ?_
      · rintro pre k post ⟨⟨used, gain⟩, ⟨o6, o7, o8, o9⟩⟩ e ⟨hu, hP⟩
        obtain ⟨hk, hn⟩ := range_split e
        have hu : used.length = pre.length := hu
        have hkl : k < lot.length := by omega
        have hkd : k < ds.length := by omega
        have hP : blkR rs got lot lot ds [] = (blkR rs got lot (lot.drop pre.length) (ds.drop pre.length) used).map fun g => g + gain := hP
        rw [← hk, drop_nth hkl, drop_nth hkd] at hP
        have hlN := hl.lt _ (nth_mem hkl)
        obtain ⟨hpe, hpe2⟩ := hd4 _ (nth_mem hkd)
        have fail : blkR rs got lot (nth lot k :: lot.drop (k + 1)) (nth ds k :: ds.drop (k + 1)) used = none → blkB rs got lot (.tup ds) = false := fun hh => by
          show (match blkR rs got lot lot ds [] with | some g => decide (0 < g) | none => false) = false
          rw [hP, hh]; rfl
        generalize hde : nth ds k = de at hP hpe hpe2 fail
        simp [S, hkd]
        rw [hde]
        cases de with
        | tup fs =>
          obtain ⟨hf1, hf2⟩ := hpe2
          simp
          refine Br.intro (c := (fs.length : Int) = 2) (fun c2 => ?_) fun c2 => ?_
          · obtain ⟨a, b, rfl⟩ : ∃ a b, fs = [a, b] := by
              match fs, c2 with
              | [a, b], _ => exact ⟨a, b, rfl⟩
              | [], h => simp at h
              | [_], h => simp at h
              | _ :: _ :: _ :: _, h => simp at h; omega
            have ha := hf2 a (by simp)
            have hb := hf2 b (by simp)
            simp [is_number_e ha]
            refine Br.introB (fun h1 => ?_) fun h1 => ?_
            · simp [is_number_e hb]
              refine Br.introB (fun h2 => ?_) fun h2 => ?_
              · cases a <;> simp [isNum] at h1
                cases b <;> simp [isNum] at h2
                rename_i ai bi
                obtain ⟨a, rfl⟩ : ∃ a : Nat, ai = a := ⟨ai.toNat, by omega⟩
                obtain ⟨b, rfl⟩ : ∃ b : Nat, bi = b := ⟨bi.toNat, by omega⟩
                have hpo : pairOf (.tup [.int (a : Int), .int (b : Int)]) = some (a, b) := by simp [pairOf]
                have hun : blkR rs got lot (nth lot k :: lot.drop (k + 1)) (.tup [.int (a : Int), .int (b : Int)] :: ds.drop (k + 1)) used = if a = nth lot k ∧ b ∈ lot ∧ b ∉ used ∧ Edge rs got (nth lot k) b then (blkR rs got lot (lot.drop (k + 1)) (ds.drop (k + 1)) (used ++ [b])).map fun g => g + (if Strict rs got (nth lot k) b then 1 else 0) else none := by
                  rw [blkR, hpo]; rfl
                rw [hun] at hP fail
                simp [hkl]
                refine Br.intro (c := (a : Int) = ((nth lot k : Nat) : Int)) (fun h3 => ?_) fun h3 => ?_
                · have h3' : a = nth lot k := by omega
                  simp
                  refine Br.intro (c := b ∈ lot) (fun h4 => ?_) fun h4 => ?_
                  · simp
                    refine Br.intro (c := b ∈ used) (fun h5 => ?_) fun h5 => ?_
                    · simp
                      exact fail (if_neg fun hh => hh.2.2.1 h5)
                    · have hbN := hl.lt b h4
                      have hgl2 := ho.at hlN
                      simp
                      refine ⟨by omega, ?_⟩
                      simp [hkl, idx_ranks hlN, idx_rk hbN, hgl, hlN, idx_rk hgl2]
                      have eg : Edge rs got (nth lot k) b ↔ b = nth got (nth lot k) ∨ rank rs (nth lot k) b < rank rs (nth lot k) (nth got (nth lot k)) := Iff.rfl
                      refine Br.intro (c := rank rs (nth lot k) (nth got (nth lot k)) < rank rs (nth lot k) b) (fun h6 => ?_) fun h6 => ?_
                      · simp
                        refine fail (if_neg fun hh => ?_)
                        rcases eg.mp hh.2.2.2 with e1 | e1
                        · rw [← e1] at h6; omega
                        · omega
                      · simp
                        refine Br.intro (c := ((rank rs (nth lot k) b : Nat) : Int) = ((rank rs (nth lot k) (nth got (nth lot k)) : Nat) : Int)) (fun h7 => ?_) fun h7 => ?_
                        · simp [hkl, hgl, hlN]
                          refine Br.intro (c := (b : Int) = ((nth got (nth lot k) : Nat) : Int)) (fun h8 => ?_) fun h8 => ?_
                          · have h8' : b = nth got (nth lot k) := by omega
                            have hns : ¬ Strict rs got (nth lot k) b := by unfold Strict; omega
                            rw [if_pos ⟨h3', h4, h5, .inl h8'⟩, if_neg hns] at hP
                            have hlt : ¬ (rank rs (nth lot k) b < rank rs (nth lot k) (nth got (nth lot k))) := hns
                            simp [hlt]
                            refine NX.mk ((used ++ [b], gain), (_, _, _, _)) (by simp [S]; exact ⟨rfl, rfl, rfl, rfl⟩) ⟨by simp [hu], ?_⟩
                            show blkR rs got lot lot ds [] = (blkR rs got lot (lot.drop (pre ++ [k]).length) (ds.drop (pre ++ [k]).length) (used ++ [b])).map fun g => g + gain
                            rw [hP, List.length_append, List.length_singleton, ← hk]
                            cases blkR rs got lot (lot.drop (k + 1)) (ds.drop (k + 1)) (used ++ [b]) <;> simp
                          · simp
                            refine fail (if_neg fun hh => ?_)
                            rcases eg.mp hh.2.2.2 with e1 | e1 <;> omega
                        · have hs : Strict rs got (nth lot k) b := by unfold Strict; omega
                          rw [if_pos ⟨h3', h4, h5, .inr hs⟩, if_pos hs] at hP
                          have hlt : rank rs (nth lot k) b < rank rs (nth lot k) (nth got (nth lot k)) := hs
                          simp [hlt]
                          refine NX.mk ((used ++ [b], gain + 1), (_, _, _, _)) (by simp [S]; exact ⟨rfl, rfl, rfl, rfl⟩) ⟨by simp [hu], ?_⟩
                          show blkR rs got lot lot ds [] = (blkR rs got lot (lot.drop (pre ++ [k]).length) (ds.drop (pre ++ [k]).length) (used ++ [b])).map fun g => g + (gain + 1)
                          rw [hP, List.length_append, List.length_singleton, ← hk]
                          cases blkR rs got lot (lot.drop (k + 1)) (ds.drop (k + 1)) (used ++ [b]) <;> simp
                          omega
                  · simp
                    exact fail (if_neg fun hh => h4 hh.2.1)
                · simp
                  exact fail (if_neg fun hh => h3 (by rw [hh.1]))
              · simp
                refine fail ?_
                unfold blkR
                cases b <;> simp [isNum] at h2 <;> cases a <;> simp [pairOf]
                rename_i x y
                intro u v h; omega
              
            · simp
              refine fail ?_
              unfold blkR
              cases a <;> simp [isNum] at h1 <;> simp [pairOf]
              rename_i x
              cases b <;> simp [pairOf]
              intro u v h; omega
          · simp
            refine fail ?_
            unfold blkR
            have : pairOf (.tup fs) = none := by
              unfold pairOf
              split
              · rename_i heq; cases heq; simp at c2
              · rfl
            rw [this]; rfl
        | _ => 
          simp [pl] at hpe <;> simp [isiF] <;> exact fail (by unfold blkR; rfl)
      · rintro ⟨⟨used, gain⟩, ⟨o6, o7, o8, o9⟩⟩ ⟨hu, hP⟩
        have hP : blkR rs got lot lot ds [] = (blkR rs got lot (lot.drop (List.range lot.length).length) (ds.drop (List.range lot.length).length) used).map fun g => g + gain := hP
        rw [List.length_range, List.drop_length, List.drop_of_length_le (by omega)] at hP
        simp [S, blkB, hP, blkR]
    · have := blkR_len (rs := rs) (got := got) (lot0 := lot) (lot := lot) (ds := ds) (used := []) (by omega)
      simp [blkB, this]
  | _ => simp [mv_runF, isiF, blkB, pl] at hp ⊢
end
end K88
end
section
set_option Elab.async false
set_option linter.all false
set_option maxRecDepth 100000
open Eng
local macro_rules
  | `(Ev $r $q $x) => `(@Ev _ $r (CQ.mk $q) (CX.mk $x))
  | `(Mv $r $q $x) => `(@Mv $r (CM.mk $q) (CY.mk $x))
  | `(Of $r $q) => `(@Of _ $r (CO.mk $q))
  | `(Br $r $p $q) => `(@Br $r (CP.mk $p) (CP.mk $q))
  | `(NX $s $p $e) => `(@NX _ $e (CN.mk $s $p))
namespace K88
open PySem Eng TTC
def dInt : D → Int
  | .int i => i
  | _ => 0
def risesB : List D → Int → Int → Bool
  | [], _, _ => true
  | d :: ds, l, b => inFT d l (b - 1) && risesB ds (dInt d + 1) b
theorem rises_e {ds : List D} {b : Int} (h : ∀ e ∈ ds, pl e = true) : m_rises [.im (.tup ds), .im (.int b)] = .ok (.im (.bl (risesB ds 0 b)), []) := by
  apply eq_of_mv
  unfold m_rises b_rises
  simp [mv_runF]
  let S : Int × Option M → Env := fun s => [some (.im (.tup ds)), some (.im (.int b)), some (.im (.int s.1)), s.2]
  refine ev_loop (xs := ds) id S (fun _ post s => risesB ds 0 b = risesB post s.1 b) (0, none) (by simp) rfl rfl ?_ ?_
  · rintro pre d post ⟨l, o⟩ e hP
    have hP : risesB ds 0 b = (inFT d l (b - 1) && risesB post (dInt d + 1) b) := hP
    have hd := h d (by simp [e])
    simp [S, is_from_to_e hd]
    refine Br.introB (fun h1 => ?_) fun h1 => ?_
    · cases d with
      | int i =>
        simp
        refine NX.mk (i + 1, _) rfl ?_
        show risesB ds 0 b = risesB post (i + 1) b
        rw [hP, h1]
        simp [dInt]
      | _ => simp [inFT] at h1
    · rw [h1] at hP
      simp at hP
      simp [hP]
  · rintro ⟨l, o⟩ hP
    have hP : risesB ds 0 b = true := hP
    simp [S, hP]
def risingB : D → Int → Bool
  | .tup ds, b => risesB ds 0 b
  | _, _ => false
theorem is_rising_e {d : D} {b : Int} (h : plT d) : m_is_rising [.im d, .im (.int b)] = .ok (.im (.bl (risingB d b)), []) := by
  apply eq_of_mv
  unfold m_is_rising b_is_rising
  obtain ⟨h1, h2⟩ := h
  cases d with
  | tup ds => simp [mv_runF, rises_e h2.1, risingB]
  | _ => simp [mv_runF, isiF, risingB, pl] at h1 ⊢
def isPr : D → Bool
  | .tup ds => decide (ds.length = 2)
  | _ => false
theorem is_pair_e {d : D} (h : pl d = true) (h2 : ∀ ds, d = .tup ds → ds.length ≤ 1000000) : m_is_pair [.im d] = .ok (.im (.bl (isPr d)), []) := by
  apply eq_of_mv
  unfold m_is_pair b_is_pair
  cases d with
  | tup ds =>
    have := h2 ds rfl
    simp [mv_runF, isPr]
    norm_cast
  | _ => simp [mv_runF, isiF, isPr, pl] at h ⊢
def lenB (d : D) (n : Nat) : Bool := match d with | .tup ds => decide (ds.length = n) | _ => false
def outcomeB (n : Nat) (d : D) : Bool := thingsB d n && lenB d n
theorem is_outcome_e {rs : List (List Nat)} {d : D} (hn : rs.length ≤ 10) (h : plT d) : m_is_outcome [.im (.tup (rs.map rowD)), .im d] = .ok (.im (.bl (outcomeB rs.length d)), []) := by
  apply eq_of_mv
  unfold m_is_outcome b_is_outcome
  simp [mv_runF, are_things_e h]
  cases d with
  | tup ds =>
    have := h.2.2
    cases ht : thingsB (.tup ds) rs.length <;> simp [lenB, outcomeB, ht]
    norm_cast
  | _ => simp [thingsB, outcomeB]
theorem check_outcome_ok {rs : List (List Nat)} (hw : Wi rs) {d : D} (h : plT d) (ho : outcomeB rs.length d = true) : m_check_outcome [.im (.tup (rs.map rowD)), .im d] = .ok (.im .non, []) := by
  apply eq_of_mv
  unfold m_check_outcome b_check_outcome
  simp [mv_runF, cw_ok hw, is_outcome_e hw.ten h, ho]
theorem check_outcome_ex {rs : List (List Nat)} (hw : Wi rs) {d : D} (h : plT d) (ho : outcomeB rs.length d = false) : exr (m_check_outcome [.im (.tup (rs.map rowD)), .im d]) 3 [d] := by
  apply exr_of_mv
  unfold m_check_outcome b_check_outcome
  simp [mv_runF, cw_ok hw, is_outcome_e hw.ten h, ho]
def pD (p : Nat × Nat) : D := .tup [.int (p.1 : Int), .int (p.2 : Int)]
def psO : List D → Option (List (Nat × Nat))
  | [] => some []
  | d :: ds => (pairOf d).bind fun p => if p.1 < 10 ∧ p.2 < 10 then (psO ds).map (p :: ·) else none
theorem pairOf_pD (p : Nat × Nat) : pairOf (pD p) = some p := by simp [pD, pairOf]
theorem psO_pD : ∀ {ps : List (Nat × Nat)}, (∀ p ∈ ps, p.1 < 10 ∧ p.2 < 10) → psO (ps.map pD) = some ps
  | [], _ => rfl
  | p :: ps, h => by
    have := psO_pD (ps := ps) fun q hq => h q (by simp [hq])
    simp [psO, pairOf_pD, h p (by simp), this]
theorem psO_none {ds : List D} {d : D} (h : d ∈ ds) (hn : ∀ p, pairOf d = some p → ¬ (p.1 < 10 ∧ p.2 < 10)) : psO ds = none := by
  induction ds with
  | nil => cases h
  | cons e ds ih =>
    unfold psO
    rcases List.mem_cons.mp h with rfl | h
    · cases hp : pairOf d with
      | none => rfl
      | some p => simp [hn p hp]
    · cases hp : pairOf e with
      | none => rfl
      | some p => simp [ih h]
def natsD (ns : List Nat) : List Nat := ns.mergeSort fun a b => decide (a ≤ b)
def shB (lot : List Nat) : D → Bool
  | .tup ds => match psO ds with
    | some ps => decide (ps.map (·.1) = lot) && decide (natsD (ps.map (·.2)) = lot)
    | none => false
  | _ => false
theorem prs_of {ds : List D} (h : ds.all isPr = true) : ∃ ab : List (D × D), ds = ab.map fun p => .tup [p.1, p.2] := by
  induction ds with
  | nil => exact ⟨[], rfl⟩
  | cons d ds ih =>
    rw [List.all_cons, Bool.and_eq_true] at h
    obtain ⟨ab, e⟩ := ih h.2
    have h1 := h.1
    cases d <;> simp [isPr] at h1
    rename_i l
    match l, h1 with
    | [a, b], _ => exact ⟨(a, b) :: ab, by simp [e]⟩
theorem nats_of {ab : List (D × D)} (h : ∀ p ∈ ab, inFT p.1 0 9 = true ∧ inFT p.2 0 9 = true) : ∃ ps : List (Nat × Nat), ab = ps.map (fun p => (nD p.1, nD p.2)) ∧ ∀ p ∈ ps, p.1 < 10 ∧ p.2 < 10 := by
  induction ab with
  | nil => exact ⟨[], rfl, by simp⟩
  | cons q ab ih =>
    obtain ⟨ps, e, h2⟩ := ih fun p hp => h p (by simp [hp])
    obtain ⟨a, b⟩ := q
    have h1 := h (a, b) (by simp)
    obtain ⟨ha, hb⟩ := h1
    have ha : inFT a 0 9 = true := ha
    have hb : inFT b 0 9 = true := hb
    obtain ⟨i, rfl⟩ : ∃ i, a = .int i := by cases a <;> simp [inFT] at ha ⊢
    obtain ⟨j, rfl⟩ : ∃ i, b = .int i := by cases b <;> simp [inFT] at hb ⊢
    simp [inFT] at ha hb
    refine ⟨(i.toNat, j.toNat) :: ps, ?_, ?_⟩
    · have h1 : ((i.toNat : Nat) : Int) = i := by omega
      have h2 : ((j.toNat : Nat) : Int) = j := by omega
      simp [e, h1, h2]
    · intro p hp
      rcases List.mem_cons.mp hp with rfl | hp
      · show i.toNat < 10 ∧ j.toNat < 10
        omega
      · exact h2 p hp
theorem is_sharing_e {lot : List Nat} (hl : lot.length ≤ 10) {d : D} (hd : Spl d) : m_is_sharing [.im (.tup (lot.map nD)), .im d] = .ok (.im (.bl (shB lot d)), []) := by
  apply eq_of_mv
  unfold m_is_sharing b_is_sharing
  obtain ⟨hp, hd2⟩ := hd
  cases d with
  | tup ds =>
    obtain ⟨h3, h4⟩ := hd2
    simp [mv_runF]
    refine ev_cmp id (fun _ => true) (M.im ∘ (D.bl ∘ isPr)) (xs := ds) (by simp) (by omega) (fun d hd => ?_) ?_
    · obtain ⟨p1, p2⟩ := h4 d hd
      have p3 : ∀ es, d = .tup es → es.length ≤ 1000000 := fun es ee => by
        subst ee
        have := p2.1; omega
      simp [is_pair_e p1 p3]
    · simp
      refine Br.introB (fun h => ?_) (fun h => ?_)
      · obtain ⟨ab, rfl⟩ := prs_of h
        have hab : ∀ p ∈ ab, pl p.1 = true ∧ pl p.2 = true := fun p hp => by
          have := (h4 _ (List.mem_map.mpr ⟨p, hp, rfl⟩)).2.2
          exact ⟨this _ (by simp), this _ (by simp)⟩
        have hz : ab.length ≤ 30 := by simpa using h3
        simp
        refine ev_cmp (fun p : D × D => D.tup [p.1, p.2]) (fun _ => true) (M.im ∘ Prod.fst) (xs := ab) rfl (by omega) (fun d hd => ?_) ?_
        · simp
        · simp
          refine ev_cmp (fun p : D × D => D.tup [p.1, p.2]) (fun _ => true) (M.im ∘ Prod.snd) (xs := ab) rfl (by omega) (fun d hd => ?_) ?_
          · simp
          · simp
            refine ⟨by omega, ?_⟩
            refine ev_cmp id (fun _ => true) (M.im ∘ (D.bl ∘ fun e => inFT e 0 9)) (xs := ab.map Prod.fst ++ ab.map Prod.snd) (by simp) (by simp; omega) (fun e he => ?_) ?_
            · have hpe : pl e = true := by
                rcases List.mem_append.mp he with h | h
                · obtain ⟨p, hp, rfl⟩ := List.mem_map.mp h; exact (hab p hp).1
                · obtain ⟨p, hp, rfl⟩ := List.mem_map.mp h; exact (hab p hp).2
              simp [is_from_to_e hpe]
            · simp
              rw [show (List.map (frz ∘ (M.im ∘ D.bl ∘ fun e => inFT e 0 9) ∘ Prod.fst) ab ++ List.map (frz ∘ (M.im ∘ D.bl ∘ fun e => inFT e 0 9) ∘ Prod.snd) ab) = (ab.map Prod.fst ++ ab.map Prod.snd).map (D.bl ∘ fun e => inFT e 0 9) by simp [Function.comp_def], boolsD_comp]
              generalize hbs : (ab.map Prod.fst ++ ab.map Prod.snd).map (fun e => inFT e 0 9) = bs
              simp
              refine Br.introB (fun h6 => ?_) (fun h6 => ?_)
              · have hq : ∀ p ∈ ab, inFT p.1 0 9 = true ∧ inFT p.2 0 9 = true := fun p hp => by
                  rw [← hbs] at h6
                  simp at h6
                  exact ⟨h6.1 _ _ hp, h6.2 _ _ hp⟩
                obtain ⟨ps, rfl, hps⟩ := nats_of hq
                have e1 : psO (List.map (fun p : D × D => D.tup [p.1, p.2]) (ps.map fun p => (nD p.1, nD p.2))) = some ps := by
                  rw [← psO_pD hps, List.map_map]; rfl
                rw [show shB lot (D.tup (List.map (fun p : D × D => D.tup [p.1, p.2]) (ps.map fun p => (nD p.1, nD p.2)))) = (decide (ps.map (·.1) = lot) && decide (natsD (ps.map (·.2)) = lot)) by simp only [shB, e1]]
                rw [show List.map (M.im ∘ Prod.fst) (ps.map fun p => (nD p.1, nD p.2)) = (ps.map (·.1)).map (M.im ∘ nD) by simp [Function.comp_def], show List.map (M.im ∘ Prod.snd) (ps.map fun p => (nD p.1, nD p.2)) = (ps.map (·.2)).map (M.im ∘ nD) by simp [Function.comp_def]]
                generalize ps.map (·.1) = as
                generalize ps.map (·.2) = bs
                simp
                by_cases c1 : as = lot
                · simp [c1]
                  rfl
                · simp [c1]
              · obtain ⟨p, hpa, hpn⟩ : ∃ p ∈ ab, ¬ (inFT p.1 0 9 = true ∧ inFT p.2 0 9 = true) := by
                  refine Classical.byContradiction fun hh => ?_
                  have : bs.all id = true := by
                    rw [← hbs]
                    simp
                    refine ⟨fun a b hab' => ?_, fun b a hab' => ?_⟩
                    · exact (Classical.byContradiction fun h8 => hh ⟨_, hab', h8⟩ : inFT a 0 9 = true ∧ inFT b 0 9 = true).1
                    · exact (Classical.byContradiction fun h8 => hh ⟨_, hab', h8⟩ : inFT b 0 9 = true ∧ inFT a 0 9 = true).2
                  rw [h6] at this; cases this
                have e1 : psO (List.map (fun p : D × D => D.tup [p.1, p.2]) ab) = none := by
                  refine psO_none (List.mem_map.mpr ⟨p, hpa, rfl⟩) fun q hq hlt => hpn ?_
                  obtain ⟨a, b⟩ := p
                  cases a <;> cases b <;> simp [pairOf] at hq
                  obtain ⟨hq0, hq⟩ := hq
                  subst hq
                  have hlt1 := hlt.1
                  have hlt2 := hlt.2
                  simp at hlt1 hlt2
                  simp [inFT]
                  omega
                simp [shB, e1]
      · have : ∃ d ∈ ds, isPr d = false := by simpa using h
        obtain ⟨d, hd, h5⟩ := this
        have : psO ds = none := psO_none hd fun p hp => by
          unfold pairOf at hp
          split at hp
          · simp [isPr] at h5
          · cases hp
        simp [shB, this]
  | _ => simp [mv_runF, isiF, shB, pl] at hp ⊢
end K88
end
section
set_option Elab.async false
set_option linter.all false
set_option maxRecDepth 100000
open Eng
local macro_rules
  | `(Ev $r $q $x) => `(@Ev _ $r (CQ.mk $q) (CX.mk $x))
  | `(Mv $r $q $x) => `(@Mv $r (CM.mk $q) (CY.mk $x))
  | `(Of $r $q) => `(@Of _ $r (CO.mk $q))
  | `(Br $r $p $q) => `(@Br $r (CP.mk $p) (CP.mk $q))
  | `(NX $s $p $e) => `(@NX _ $e (CN.mk $s $p))
namespace K88
open PySem Eng TTC
section
variable {rs : List (List Nat)} {got : List Nat}
theorem psO_eq : ∀ {ds : List D} {ps : List (Nat × Nat)}, psO ds = some ps → ds = ps.map pD ∧ ∀ p ∈ ps, p.1 < 10 ∧ p.2 < 10
  | [], ps, h => by simp [psO] at h; subst h; simp
  | d :: ds, ps, h => by
    unfold psO at h
    cases hp : pairOf d with
    | none => simp [hp] at h
    | some p =>
      simp only [hp, Option.bind_some] at h
      split at h
      · rename_i hlt
        obtain ⟨qs, e, rfl⟩ := Option.map_eq_some_iff.mp h
        obtain ⟨h1, h2⟩ := psO_eq e
        have : d = pD p := by
          unfold pairOf at hp
          split at hp
          · split at hp
            · rename_i a b hh
              cases hp
              simp [pD, Int.toNat_of_nonneg hh.1, Int.toNat_of_nonneg hh.2]
            · cases hp
          · cases hp
        refine ⟨by rw [List.map_cons, ← h1, this], fun q hq => ?_⟩
        rcases List.mem_cons.mp hq with rfl | hq
        · exact hlt
        · exact h2 q hq
      · cases h
theorem blkR_ps {lot0 : List Nat} (h0 : ∀ x ∈ lot0, x < 10) : ∀ {lot : List Nat} {ds : List D} {used : List Nat} {g : Nat}, (∀ x ∈ lot, x < 10) → blkR rs got lot0 lot ds used = some g → ∃ ps, psO ds = some ps
  | [], [], _, _, _, _ => ⟨[], rfl⟩
  | [], _ :: _, _, _, _, h => by simp [blkR] at h
  | _ :: _, [], _, _, _, h => by simp [blkR] at h
  | l :: lot, d :: ds, used, g, hl, h => by
    unfold blkR at h
    cases hp : pairOf d with
    | none => simp [hp] at h
    | some p =>
      simp only [hp, Option.bind_some] at h
      split at h
      · rename_i hc
        obtain ⟨g', e, _⟩ := Option.map_eq_some_iff.mp h
        obtain ⟨ps, e2⟩ := blkR_ps h0 (fun x hx => hl x (by simp [hx])) e
        have h1 : p.1 < 10 := by rw [hc.1]; exact hl l (by simp)
        exact ⟨p :: ps, by simp [psO, hp, h1, h0 _ hc.2.1, e2]⟩
      · cases h
theorem blkR_iff {lot0 : List Nat} : ∀ {lot : List Nat} {ps : List (Nat × Nat)} {used : List Nat} {g : Nat},
    blkR rs got lot0 lot (ps.map pD) used = some g ↔ ((ps.map (·.1) = lot ∧ (∀ p ∈ ps, p.2 ∈ lot0 ∧ p.2 ∉ used ∧ Edge rs got p.1 p.2) ∧ (ps.map (·.2)).Nodup) ∧ g = ps.countP fun p => decide (Strict rs got p.1 p.2))
  | [], [], used, g => by simp [blkR, eq_comm]
  | [], p :: ps, used, g => by simp [blkR]
  | l :: lot, [], used, g => by simp [blkR]
  | l :: lot, p :: ps, used, g => by
    have ih := fun g => blkR_iff (lot0 := lot0) (lot := lot) (ps := ps) (used := used ++ [p.2]) (g := g)
    rw [List.map_cons, blkR, pairOf_pD]
    simp only [Option.bind_some]
    constructor
    · intro h
      split at h
      · rename_i hc
        obtain ⟨g', e, hg⟩ := Option.map_eq_some_iff.mp h
        obtain ⟨⟨h1, h2, h3⟩, h4⟩ := (ih g').mp e
        refine ⟨⟨by simp [h1, hc.1], fun q hq => ?_, ?_⟩, ?_⟩
        · rcases List.mem_cons.mp hq with rfl | hq
          · exact ⟨hc.2.1, hc.2.2.1, hc.1 ▸ hc.2.2.2⟩
          · obtain ⟨a, b, c⟩ := h2 q hq
            exact ⟨a, fun hh => b (by simp [hh]), c⟩
        · rw [List.map_cons, List.nodup_cons]
          refine ⟨fun hm => ?_, h3⟩
          obtain ⟨q, hq, e5⟩ := List.mem_map.mp hm
          exact (h2 q hq).2.1 (by rw [e5]; simp)
        · rw [List.countP_cons, ← h4, ← hg, ← hc.1]; simp
      · cases h
    · rintro ⟨⟨h1, h2, h3⟩, h4⟩
      simp only [List.map_cons, List.cons.injEq] at h1
      obtain ⟨h1, h1'⟩ := h1
      obtain ⟨a, b, c⟩ := h2 p (by simp)
      rw [List.map_cons, List.nodup_cons] at h3
      rw [if_pos ⟨h1, a, b, h1 ▸ c⟩]
      have := (ih (ps.countP fun p => decide (Strict rs got p.1 p.2))).mpr ⟨⟨h1', fun q hq => ?_, h3.2⟩, rfl⟩
      · rw [this, h4, List.countP_cons, ← h1]; simp
      · obtain ⟨a, b, c⟩ := h2 q (by simp [hq])
        refine ⟨a, fun hm => ?_, c⟩
        rcases List.mem_append.mp hm with hm | hm
        · exact b hm
        · simp at hm
          exact h3.1 (hm ▸ List.mem_map.mpr ⟨q, hq, rfl⟩)
theorem nats_perm (l : List Nat) : (natsD l).Perm l := List.mergeSort_perm _ _
theorem nats_le (l : List Nat) : (natsD l).Pairwise (· ≤ ·) := by
  have := List.pairwise_mergeSort (le := fun a b : Nat => decide (a ≤ b)) (fun a b c h1 h2 => by simp at *; omega) (fun a b => by simp; omega) l
  exact this.imp (by simp)
theorem nats_asc {l : List Nat} (h : l.Nodup) : (natsD l).Pairwise (· < ·) := by
  have h1 := nats_le l
  have h2 : (natsD l).Nodup := (nats_perm l).nodup_iff.mpr h
  exact (h1.and h2).imp (by rintro a b ⟨h1, h2⟩; omega)
theorem nats_is {l lot : List Nat} (hl : lot.Pairwise (· < ·)) (nd : l.Nodup) (h : ∀ x, x ∈ l ↔ x ∈ lot) : natsD l = lot :=
  sorted_ext (nats_asc nd) hl fun x => (nats_perm l).mem_iff.trans (h x)
theorem sub_all {l lot : List Nat} (nd : l.Nodup) (hs : ∀ x ∈ l, x ∈ lot) (hlen : lot.length ≤ l.length) : ∀ x ∈ lot, x ∈ l := fun x hx => by
  refine Classical.byContradiction fun hn => ?_
  have := nodup_len (l := x :: l) (T := lot) (List.nodup_cons.mpr ⟨hn, nd⟩) fun y hy => by
    rcases List.mem_cons.mp hy with rfl | hy
    · exact hx
    · exact hs y hy
  simp at this; omega
theorem nats_iff {l lot : List Nat} (hl : lot.Pairwise (· < ·)) (hlen : l.length = lot.length) : natsD l = lot ↔ l.Nodup ∧ ∀ x ∈ l, x ∈ lot := by
  constructor
  · rintro rfl
    exact ⟨(nats_perm l).nodup_iff.mp (lt_nodup hl), fun x hx => (nats_perm l).mem_iff.mpr hx⟩
  · rintro ⟨h1, h2⟩
    exact nats_is hl h1 fun x => ⟨h2 x, sub_all h1 h2 (by omega) x⟩
/-- what blocks, in pairs -/
theorem blkB_iff {lot : List Nat} {ps : List (Nat × Nat)} (hl : lot.Pairwise (· < ·)) : blkB rs got lot (.tup (ps.map pD)) = true ↔ (ps.map (·.1) = lot ∧ natsD (ps.map (·.2)) = lot ∧ (∀ p ∈ ps, Edge rs got p.1 p.2)) ∧ ∃ p ∈ ps, Strict rs got p.1 p.2 := by
  show (match blkR rs got lot lot (ps.map pD) [] with | some g => decide (0 < g) | none => false) = true ↔ _
  constructor
  · intro h
    split at h
    · rename_i g e
      obtain ⟨⟨h1, h2, h3⟩, h4⟩ := blkR_iff.mp e
      have hlen : (ps.map (·.2)).length = lot.length := by rw [← h1]; simp
      refine ⟨⟨h1, (nats_iff hl hlen).mpr ⟨h3, fun x hx => ?_⟩, fun p hp => (h2 p hp).2.2⟩, ?_⟩
      · obtain ⟨p, hp, rfl⟩ := List.mem_map.mp hx
        exact (h2 p hp).1
      · have : 0 < g := by simpa using h
        rw [h4, List.countP_pos_iff] at this
        obtain ⟨p, hp, hs⟩ := this
        exact ⟨p, hp, by simpa using hs⟩
    · cases h
  · rintro ⟨⟨h1, h2, h3⟩, p, hp, hs⟩
    have hlen : (ps.map (·.2)).length = lot.length := by rw [← h1]; simp
    obtain ⟨h5, h6⟩ := (nats_iff hl hlen).mp h2
    have := (blkR_iff (rs := rs) (got := got) (lot0 := lot) (lot := lot) (ps := ps) (used := []) (g := _)).mpr ⟨⟨h1, fun p hp => ⟨h6 _ (List.mem_map.mpr ⟨p, hp, rfl⟩), by simp, h3 p hp⟩, h5⟩, rfl⟩
    rw [this]
    have h9 : 0 < ps.countP fun p => decide (Strict rs got p.1 p.2) := List.countP_pos_iff.mpr ⟨p, hp, by simpa using hs⟩
    simpa using h9
theorem blkB_sh {lot : List Nat} (hl : lot.Pairwise (· < ·)) (h10 : ∀ x ∈ lot, x < 10) {d : D} (h : shB lot d = false) : blkB rs got lot d = false := by
  cases hb : blkB rs got lot d with
  | false => rfl
  | true =>
    exfalso
    cases d with
    | tup ds =>
      have : ∃ g, blkR rs got lot lot ds [] = some g := by
        have hb' : (match blkR rs got lot lot ds [] with | some g => decide (0 < g) | none => false) = true := hb
        cases e : blkR rs got lot lot ds [] with
        | some g => exact ⟨g, rfl⟩
        | none => rw [e] at hb'; cases hb'
      obtain ⟨g, e⟩ := this
      obtain ⟨ps, e2⟩ := blkR_ps h10 h10 e
      obtain ⟨rfl, h3⟩ := psO_eq e2
      obtain ⟨⟨h5, h6, _⟩, _⟩ := (blkB_iff hl).mp hb
      simp [shB, e2, h5, h6] at h
    | _ => simp [blkB] at hb
end
end K88
end
section
set_option Elab.async false
set_option linter.all false
set_option maxRecDepth 100000
open Eng
local macro_rules
  | `(Ev $r $q $x) => `(@Ev _ $r (CQ.mk $q) (CX.mk $x))
  | `(Mv $r $q $x) => `(@Mv $r (CM.mk $q) (CY.mk $x))
  | `(Of $r $q) => `(@Of _ $r (CO.mk $q))
  | `(Br $r $p $q) => `(@Br $r (CP.mk $p) (CP.mk $q))
  | `(NX $s $p $e) => `(@NX _ $e (CN.mk $s $p))
namespace K88
open PySem Eng TTC
section
variable {rs : List (List Nat)} {got : List Nat}
theorem Spl.plT {d : D} (h : Spl d) : plT d := by
  obtain ⟨h1, h2⟩ := h
  refine ⟨h1, ?_⟩
  cases d with
  | tup ds => exact ⟨fun e he => (h2.2 e he).1, by have := h2.1; omega⟩
  | _ => trivial
theorem risesB_nat : ∀ {lot : List Nat} {l b : Nat}, risesB (lot.map nD) l b = true ↔ lot.Pairwise (· < ·) ∧ ∀ x ∈ lot, l ≤ x ∧ x < b
  | [], l, b => by simp [risesB]
  | x :: lot, l, b => by
    have ih := risesB_nat (lot := lot) (l := x + 1) (b := b)
    show (inFT (.int (x : Int)) l (b - 1) && risesB (lot.map nD) ((x : Int) + 1) b) = true ↔ _
    rw [Bool.and_eq_true]
    rw [show ((x : Int) + 1) = ((x + 1 : Nat) : Int) by omega, ih]
    rw [List.pairwise_cons]
    simp only [inFT, Bool.and_eq_true, decide_eq_true_eq]
    constructor
    · rintro ⟨h1, h2, h3⟩
      refine ⟨⟨fun y hy => by have := h3 y hy; omega, h2⟩, fun y hy => ?_⟩
      rcases List.mem_cons.mp hy with rfl | hy
      · omega
      · have := h3 y hy; omega
    · rintro ⟨⟨h1, h2⟩, h3⟩
      have := h3 x (by simp)
      exact ⟨by omega, h2, fun y hy => by have := h1 y hy; have := h3 y (by simp [hy]); omega⟩
theorem Lt.rising {N : Nat} {lot : List Nat} (h : Lt N lot) : risingB (.tup (lot.map nD)) N = true :=
  risesB_nat (l := 0).mpr ⟨h.asc, fun x hx => ⟨by omega, h.lt x hx⟩⟩
theorem plT_row {r : List Nat} (h : r.length ≤ 30) : plT (.tup (r.map nD)) := pl_row r (by omega)
theorem Oc.outB {N : Nat} {got : List Nat} (h : Oc N got) : outcomeB N (.tup (got.map nD)) = true := by
  have h1 : thingsB (rowD got) N = true := thingsB_row h.nd h.lt
  show (thingsB (.tup (got.map nD)) N && lenB (.tup (got.map nD)) N) = true
  rw [show thingsB (.tup (got.map nD)) N = true from h1]
  simp [lenB, h.len]
theorem check_outcome_oc (hw : Wi rs) (ho : Oc rs.length got) : m_check_outcome [.im (.tup (rs.map rowD)), .im (.tup (got.map nD))] = .ok (.im .non, []) :=
  check_outcome_ok hw (plT_row (by have := ho.len; have := hw.ten; omega)) ho.outB
theorem blocks_e (hw : Wi rs) (ho : Oc rs.length got) {lot : List Nat} (hl : Lt rs.length lot) {d : D} (hd : Spl d) :
    m_blocks [.im (.tup (rs.map rowD)), .im (.tup (got.map nD)), .im (.tup (lot.map nD)), .im d] = .ok (.im (.bl (blkB rs got lot d)), []) := by
  apply eq_of_mv
  have h10 := hw.ten
  have hll := hl.len
  have hgl := ho.len
  unfold m_blocks b_blocks
  simp [mv_runF, check_outcome_oc hw ho, is_rising_e (plT_row (r := lot) (by omega)), hl.rising, is_sharing_e (lot := lot) (by omega) hd]
  refine Br.introB (fun h => ?_) (fun h => ?_)
  · cases d with
    | tup ds =>
      cases hps : psO ds with
      | none => simp [shB, hps] at h
      | some ps =>
        obtain ⟨rfl, hlt⟩ := psO_eq hps
        have h' : ps.map (·.1) = lot ∧ natsD (ps.map (·.2)) = lot := by simpa [shB, hps] using h
        obtain ⟨h1, h2⟩ := h'
        have hps1 : ∀ p ∈ ps, p.1 < rs.length := fun p hp => hl.lt _ (h1 ▸ List.mem_map.mpr ⟨p, hp, rfl⟩)
        simp
        let S : Bool × (Option M × Option M) → Env := fun s => [some (.im (.tup (rs.map rowD))), some (.im (.tup (got.map nD))), some (.im (.tup (lot.map nD))), some (.im (.tup (ps.map pD))), some (.im (.bl s.1)), s.2.1, s.2.2]
        refine ev_loop (xs := ps) pD S (fun pre _ s => (∀ p ∈ pre, Edge rs got p.1 p.2) ∧ (s.1 = true ↔ ∃ p ∈ pre, Strict rs got p.1 p.2)) (false, (none, none)) rfl rfl ⟨by simp, by simp⟩ ?_ ?_
        · rintro pre ⟨x, y⟩ post ⟨b, ⟨o1, o2⟩⟩ e ⟨hP1, hP2⟩
          have hP1 : ∀ p ∈ pre, Edge rs got p.1 p.2 := hP1
          have hP2 : b = true ↔ ∃ p ∈ pre, Strict rs got p.1 p.2 := hP2
          have hx : x < rs.length := hps1 (x, y) (by simp [e])
          have hgx := ho.at hx
          simp [S, pD, hgl, hx, likes_better_e hw hx]
          refine Br.intro (c := rank rs x y < rank rs x (nth got x)) (fun h3 => ?_) (fun h3 => ?_)
          · have hs : Strict rs got x y := h3
            simp
            refine NX.mk (true, (_, _)) rfl ⟨fun p hp => ?_, ?_⟩
            · rcases List.mem_append.mp hp with hp | hp
              · exact hP1 p hp
              · simp at hp; subst hp; exact .inr hs
            · exact ⟨fun _ => ⟨(x, y), by simp, hs⟩, fun _ => rfl⟩
          · have hs : ¬ Strict rs got x y := h3
            simp [hgl, hx]
            refine Br.intro (c := ((y : Int) = ((nth got x : Nat) : Int))) (fun h4 => ?_) (fun h4 => ?_)
            · have h4' : y = nth got x := by
                omega
              simp
              refine NX.mk (b, (_, _)) rfl ⟨fun p hp => ?_, ?_⟩
              · rcases List.mem_append.mp hp with hp | hp
                · exact hP1 p hp
                · simp at hp; subst hp; exact .inl h4'
              · constructor
                · intro hb
                  obtain ⟨p, hp, hq⟩ := hP2.mp hb
                  exact ⟨p, by simp [hp], hq⟩
                · rintro ⟨p, hp, hq⟩
                  rcases List.mem_append.mp hp with hp | hp
                  · exact hP2.mpr ⟨p, hp, hq⟩
                  · simp at hp; subst hp; exact absurd hq hs
            · have hb : blkB rs got lot (.tup (ps.map pD)) = false := by
                cases hb : blkB rs got lot (.tup (ps.map pD)) with
                | false => rfl
                | true =>
                  obtain ⟨⟨_, _, h5⟩, _⟩ := (blkB_iff hl.asc).mp hb
                  rcases h5 (x, y) (by simp [e]) with h6 | h6
                  · exact absurd (by have : y = nth got x := h6; rw [this]) h4
                  · exact absurd h6 hs
              simp [hb]
        · rintro ⟨b, ⟨o1, o2⟩⟩ ⟨hP1, hP2⟩
          have hP1 : ∀ p ∈ ps, Edge rs got p.1 p.2 := hP1
          have hP2 : b = true ↔ ∃ p ∈ ps, Strict rs got p.1 p.2 := hP2
          have : blkB rs got lot (.tup (ps.map pD)) = b := by
            have h9 := blkB_iff (rs := rs) (got := got) (ps := ps) hl.asc
            cases b with
            | true => exact h9.mpr ⟨⟨h1, h2, hP1⟩, hP2.mp rfl⟩
            | false =>
              cases hb : blkB rs got lot (.tup (ps.map pD)) with
              | false => rfl
              | true => exact absurd (hP2.mpr (h9.mp hb).2) (by simp)
          simp [S, this]
    | _ => simp [shB] at h
  · have := blkB_sh (rs := rs) (got := got) hl.asc (fun x hx => by have := hl.lt x hx; omega) h
    simp [this]
/-- an outcome that is none -/
theorem blocks_ex3 (hw : Wi rs) {d : D} (h : plT d) (ho : outcomeB rs.length d = false) (x y : M) : exr (m_blocks [.im (.tup (rs.map rowD)), .im d, x, y]) 3 [d] := by
  apply exr_of_mv
  unfold m_blocks b_blocks
  simp [mv_runF]
  exact mv_of_exr (check_outcome_ex hw h ho) ⟨rfl, rfl⟩
theorem blocks_ex2 (hw : Wi rs) (ho : Oc rs.length got) {l : D} (h : plT l) (hr : risingB l rs.length = false) (y : M) : exr (m_blocks [.im (.tup (rs.map rowD)), .im (.tup (got.map nD)), .im l, y]) 2 [l] := by
  apply exr_of_mv
  have h10 := hw.ten
  unfold m_blocks b_blocks
  simp [mv_runF, check_outcome_oc hw ho, is_rising_e h, hr]
theorem lot_ex3 (hw : Wi rs) {d : D} (h : plT d) (ho : outcomeB rs.length d = false) : exr (m_blocking_lot [.im (.tup (rs.map rowD)), .im d]) 3 [d] := by
  apply exr_of_mv
  unfold m_blocking_lot b_blocking_lot
  simp [mv_runF]
  exact mv_of_exr (check_outcome_ex hw h ho) ⟨rfl, rfl⟩
end
end K88
end
section
set_option Elab.async false
set_option linter.all false
set_option maxRecDepth 100000
open Eng
local macro_rules
  | `(Ev $r $q $x) => `(@Ev _ $r (CQ.mk $q) (CX.mk $x))
  | `(Mv $r $q $x) => `(@Mv $r (CM.mk $q) (CY.mk $x))
  | `(Of $r $q) => `(@Of _ $r (CO.mk $q))
  | `(Br $r $p $q) => `(@Br $r (CP.mk $p) (CP.mk $q))
  | `(NX $s $p $e) => `(@NX _ $e (CN.mk $s $p))
namespace K88
open PySem Eng TTC
section
variable {rs : List (List Nat)} {got : List Nat} {Q : M → List M → Prop} {X : Nat → List D → Prop}
def srt (P : List (Nat × Nat)) : List (Nat × Nat) := P.mergeSort pairLe
theorem srt_perm (P : List (Nat × Nat)) : (srt P).Perm P := List.mergeSort_perm _ _
theorem nats_nats {l m : List Nat} (h : l.Perm m) (nd : m.Nodup) : natsD l = natsD m :=
  nats_is (nats_asc nd) (h.nodup_iff.mpr nd) fun x => h.mem_iff.trans (nats_perm m).mem_iff.symm
theorem srt_fst {P : List (Nat × Nat)} (hlt : ∀ p ∈ P, p.1 < 64 ∧ p.2 < 64) (nd : (P.map (·.1)).Nodup) : (srt P).map (·.1) = natsD (P.map (·.1)) := by
  have hp := (srt_perm P).map (·.1)
  have h1 : (srt P).Pairwise fun a b => pairLe a b = true := List.pairwise_mergeSort (le := pairLe) (fun a b c h1 h2 => by simp [pairLe] at *; omega) (fun a b => by simp [pairLe]; omega) P
  have h2 : ((srt P).map (·.1)).Nodup := hp.nodup_iff.mpr nd
  have h3 : (srt P).Pairwise fun a b => a.1 < b.1 := by
    have h2' : (srt P).Pairwise fun a b => a.1 ≠ b.1 := List.pairwise_map.mp h2
    refine ((h1.and h2').imp_of_mem ?_)
    rintro a b ha hb ⟨h5, h6⟩
    have := hlt a ((srt_perm P).mem_iff.mp ha)
    have := hlt b ((srt_perm P).mem_iff.mp hb)
    simp [pairLe] at h5
    omega
  have h4 : ((srt P).map (·.1)).Pairwise (· < ·) := List.pairwise_map.mpr h3
  exact (nats_is h4 nd fun x => hp.symm.mem_iff).symm
theorem ring_blk {r : List Nat} {P : List (Nat × Nat)} (nd : r.Nodup) (h1 : (P.map (·.1)).Perm r) (h2 : (P.map (·.2)).Perm r) (hlt : ∀ p ∈ P, p.1 < 64 ∧ p.2 < 64) (he : ∀ p ∈ P, Edge rs got p.1 p.2) (hs : ∃ p ∈ P, Strict rs got p.1 p.2) :
    blkB rs got (natsD r) (.tup ((srt P).map pD)) = true := by
  have hm : ∀ p, p ∈ srt P ↔ p ∈ P := fun p => (srt_perm P).mem_iff
  refine (blkB_iff (nats_asc nd)).mpr ⟨⟨?_, ?_, fun p hp => he p ((hm p).mp hp)⟩, ?_⟩
  · rw [srt_fst hlt (h1.nodup_iff.mpr nd)]
    exact nats_nats h1 nd
  · exact nats_nats (((srt_perm P).map _).trans h2) nd
  · obtain ⟨p, hp, h⟩ := hs
    exact ⟨p, (hm p).mpr hp, h⟩
theorem nth_inj {l : List Nat} (nd : l.Nodup) {a b : Nat} (ha : a < l.length) (hb : b < l.length) (e : nth l a = nth l b) : a = b := by
  rw [nth_eq ha, nth_eq hb] at e
  rcases Nat.lt_trichotomy a b with h | h | h
  · exact absurd e (List.pairwise_iff_getElem.mp nd a b ha hb h)
  · exact h
  · exact absurd e.symm (List.pairwise_iff_getElem.mp nd b a hb ha h)
theorem nats_Lt {r : List Nat} {N : Nat} (nd : r.Nodup) (h : ∀ x ∈ r, x < N) : Lt N (natsD r) := ⟨nats_asc nd, fun x hx => h x ((nats_perm r).mem_iff.mp hx)⟩
theorem rot_perm (r : List Nat) : (r.drop 1 ++ r.take 1).Perm r := by
  refine List.perm_append_comm.trans ?_
  rw [List.take_append_drop]
theorem lot_w (hw : Wi rs) (ho : Oc rs.length got) (hq1 : got = outL rs → Q (.im .non) [])
    (hq2 : ∀ (lot : List Nat) (ps : List (Nat × Nat)), got ≠ outL rs → Lt rs.length lot → ps.length ≤ 10 → (∀ p ∈ ps, p.1 < 10 ∧ p.2 < 10) → blkB rs got lot (.tup (ps.map pD)) = true → Q (.im (.tup [.tup (lot.map nD), .tup (ps.map pD)])) []) :
    Mv (m_blocking_lot [.im (.tup (rs.map rowD)), .im (.tup (got.map nD))]) Q X := by
  have h10 := hw.ten
  have hgl := ho.len
  unfold m_blocking_lot b_blocking_lot
  simp [mv_runF, check_outcome_oc hw ho, all_rounds_e hw]
  let S : Option M × Option M × Option M × Option M × Option M → Env := fun s => [some (.im (.tup (rs.map rowD))), some (.im (.tup (got.map nD))), s.1, s.2.1, s.2.2.1, s.2.2.2.1, s.2.2.2.2]
  let I : List (List (List Nat)) → Prop := fun post => ∃ n T, post = roundsL rs n T ∧ T.length ≤ n ∧ Th rs.length T ∧ (∀ y ∈ T, nth got y ∈ T) ∧ (∀ x, x < rs.length → x ∉ T → nth got x = out rs x) ∧ ∀ x ∈ T, out rs x = outR rs n T x
  refine ev_loop (xs := roundsL rs rs.length (List.range rs.length)) rowsD S (fun _ post _ => I post) (none, none, none, none, none) rfl rfl ?_ ?_ ?_
  · exact ⟨rs.length, List.range rs.length, rfl, by simp, Th.range _, fun y hy => List.mem_range.mpr (ho.at (List.mem_range.mp hy)), fun x hx hn => absurd (List.mem_range.mpr hx) hn, fun x _ => rfl⟩
  · rintro pre R post ⟨o2, o3, o4, o5, o6⟩ e hI
    obtain ⟨n, T, hR, hTn, hTh, hgT, hout, hin⟩ := hI
    obtain ⟨n, rfl⟩ : ∃ m, n = m + 1 := by
      cases n with
      | zero => simp [roundsL] at hR
      | succ n => exact ⟨n, rfl⟩
    unfold roundsL at hR
    split at hR
    · cases hR
    rename_i hne
    injection hR with hR1 hR2
    have hf := point_in rs T
    have hTN : ∀ x ∈ T, x < rs.length := hTh.up
    simp [S]
    refine ev_loop (xs := R) rowD S (fun pre' _ _ => ∀ x ∈ pre'.flatten, nth got x = point rs T x) (_, o3, o4, o5, o6) rfl rfl (by simp) ?_ ?_
    · rintro pre' r post' ⟨o2, o3, o4, o5, o6⟩ e' hP
      have hP : ∀ x ∈ pre'.flatten, nth got x = point rs T x := hP
      have hr : r ∈ ringsL (point rs T) T := by rw [← hR1, e']; simp
      obtain ⟨s, hs, e3⟩ := List.mem_filterMap.mp hr
      obtain ⟨c, hc, hrp, _⟩ := (ringAt_some hf hs).mp e3
      have hrT : ∀ x ∈ r, x ∈ T := fun x hx => ((mem_rings hf).mp (List.mem_flatten.mpr ⟨r, hr, hx⟩)).1
      have hnd : r.Nodup := by rw [hrp]; exact hc.nodup (by have := hc.pos; omega)
      have hrl : r.length ≤ rs.length := Nat.le_trans (ring_len hf hr) hTh.len
      have hz := path_zip hc
      have hsh := shared_in_e hc h10 (by rw [← hrp]; exact hrl) fun x hx => by
        rw [← hrp] at hx
        exact ⟨hTN x (hrT x hx), hTN _ (hf x (hrT x hx))⟩
      rw [← hrp] at hsh hz
      have hsh : m_shared_in [.im (.tup (r.map nD))] = .ok (.im (.tup ((prs (point rs T) r).map pairD)), []) := hsh
      have hpl : (prs (point rs T) r).length ≤ 10 := by
        have := ((List.mergeSort_perm (r.map fun x => (x, point rs T x)) pairLe).length_eq)
        simp at this
        unfold prs
        rw [List.length_mergeSort]
        simp; omega
      simp [S, hsh]
      refine ev_cmp pairD (fun _ => true) (M.im ∘ (D.bl ∘ fun p : Nat × Nat => decide (nth got p.1 ≠ p.2))) (xs := prs (point rs T) r) rfl (by omega) (fun p hp => ?_) ?_
      · obtain ⟨x, y⟩ := p
        obtain ⟨hx1, hx2⟩ := mem_prs.mp hp
        have hx1 : x ∈ r := hx1
        have hxN := hTN x (hrT x hx1)
        simp [pairD, hgl, hxN]
        norm_cast
      · simp
        refine Br.introB (fun h => ?_) (fun h => ?_)
        · obtain ⟨⟨x, y⟩, hp, hne2⟩ : ∃ p ∈ prs (point rs T) r, nth got p.1 ≠ p.2 := by simpa using h
          obtain ⟨hx1, hx2⟩ := mem_prs.mp hp
          have hx1 : x ∈ r := hx1
          have hx2 : y = point rs T x := hx2
          have hne2 : nth got x ≠ y := hne2
          have hblk : blkB rs got (natsD r) (.tup ((srt (r.map fun x => (x, point rs T x))).map pD)) = true := by
            refine ring_blk hnd (by rw [List.map_map]; exact List.Perm.of_eq (List.map_id _)) ?_ ?_ ?_ ?_
            · rw [List.map_map]
              show (r.map (point rs T)).Perm r
              rw [← hz]
              exact rot_perm r
            · intro p hp
              obtain ⟨z, hz', rfl⟩ := List.mem_map.mp hp
              have h1 := hTN z (hrT z hz')
              have h2 := hTN _ (hf z (hrT z hz'))
              exact ⟨by show z < 64; omega, by show point rs T z < 64; omega⟩
            · intro p hp
              obtain ⟨z, hz', rfl⟩ := List.mem_map.mp hp
              exact (ring_edge hgT (hrT z hz')).1
            · exact ⟨(x, point rs T x), List.mem_map.mpr ⟨x, hx1, rfl⟩, (ring_edge hgT (hrT x hx1)).2 fun ee => hne2 (by rw [hx2, ee])⟩
          have hneq : got ≠ outL rs := fun ee => by
            refine hne2 ?_
            have hxN := hTN x (hrT x hx1)
            rw [ee, nth_outL hxN, hin x (hrT x hx1), hx2]
            exact outR_on (hrT x hx1) ((mem_rings hf).mp (List.mem_flatten.mpr ⟨r, hr, hx1⟩)).2
          simp
          refine hq2 (natsD r) (prs (point rs T) r) hneq (nats_Lt hnd fun x hx => hTN x (hrT x hx)) hpl (fun p hp => ?_) hblk
          obtain ⟨h1, h2⟩ := mem_prs.mp hp
          have h3 := hTN _ (hrT _ h1)
          have h4 := hTN _ (hf _ (hrT _ h1))
          rw [← h2] at h4
          omega
        · simp
          refine NX.mk (_, _, _, _, _) rfl fun x hx => ?_
          simp only [List.flatten_append, List.flatten_cons, List.flatten_nil, List.append_nil, List.mem_append] at hx
          rcases hx with hx | hx
          · exact hP x hx
          · refine Classical.byContradiction fun hn => ?_
            have h8 := h
            simp at h8
            exact hn (h8 x (point rs T x) (mem_prs.mpr ⟨hx, rfl⟩))
    · rintro ⟨o2, o3, o4, o5, o6⟩ hP
      have hP : ∀ x ∈ R.flatten, nth got x = point rs T x := hP
      have hon : ∀ x ∈ T, On (point rs T) x → nth got x = point rs T x := fun x hx hox => hP x (by rw [hR1]; exact (mem_rings hf).mpr ⟨hx, hox⟩)
      simp only [SQ_nx, ev_sSkip, LQ_nx]
      have hlt := next_lt (rs := rs) hne
      refine NX.mk (_, _, _, _, _) rfl ⟨n, nextT rs T, hR2, by omega, hTh.next, ?_, fun x hx hn => ?_, fun x hx => ?_⟩
      · refine keep_next hgT (fun a ha b hb e => ?_) hon
        exact nth_inj ho.nd (by rw [hgl]; exact hTN a ha) (by rw [hgl]; exact hTN b hb) e
      · by_cases hxT : x ∈ T
        · have hox : On (point rs T) x := Classical.not_not.mp fun hh => hn (mem_next.mpr ⟨hxT, hh⟩)
          rw [hon x hxT hox, hin x hxT, outR_on hxT hox]
        · exact hout x hx hxT
      · obtain ⟨h1, h2⟩ := mem_next.mp hx
        rw [hin x h1, outR_off h2]
  · rintro ⟨o2, o3, o4, o5, o6⟩ hI
    obtain ⟨n, T, hR, hTn, hTh, hgT, hout, hin⟩ := hI
    have hT : T = [] := by
      cases n with
      | zero => exact List.length_eq_zero_iff.mp (by omega)
      | succ n =>
        unfold roundsL at hR
        split at hR
        · assumption
        · cases hR
    simp [S]
    refine hq1 (ext_nth (by rw [outL_len, hgl]) fun x hx => ?_)
    rw [hgl] at hx
    rw [nth_outL hx]
    exact hout x hx (by rw [hT]; simp)
end
end K88
end
section
set_option Elab.async false
set_option linter.all false
set_option maxRecDepth 100000
open Eng
local macro_rules
  | `(Ev $r $q $x) => `(@Ev _ $r (CQ.mk $q) (CX.mk $x))
  | `(Mv $r $q $x) => `(@Mv $r (CM.mk $q) (CY.mk $x))
  | `(Of $r $q) => `(@Of _ $r (CO.mk $q))
  | `(Br $r $p $q) => `(@Br $r (CP.mk $p) (CP.mk $q))
  | `(NX $s $p $e) => `(@NX _ $e (CN.mk $s $p))
namespace K88
open PySem Eng TTC
section
variable {rs : List (List Nat)} {got : List Nat} {Q : M → List M → Prop} {X : Nat → List D → Prop}
theorem alike8 {d : D} (h : okA 8 d) : m__law_alike 8 [.im d, .im d] = .ok (.im (.bl true), []) := alike_e 8 d h
theorem okA_err {z w : Str} : okA 8 (.tup [.str z, .str w]) := okA_tup1 (n := 6) trivial
theorem ask1_e (hw : Wi rs) (ho : Oc rs.length got) {lot : List Nat} (hl : Lt rs.length lot) {d : D} (hd : Spl d) :
    m__law_ask [.im (.int 1), .im (.tup (rs.map rowD)), .im (.tup (got.map nD)), .im (.tup (lot.map nD)), .im d] = .ok (.im (.tup [.str "told", .bl (blkB rs got lot d)]), []) := by
  apply eq_of_mv
  unfold m__law_ask b__law_ask
  simp [mv_runF, blocks_e hw ho hl hd]
theorem ask1_ex3 (hw : Wi rs) {d : D} (h : plT d) (ho : outcomeB rs.length d = false) {z : Str} (hz : reprF [d] = some (.im (.str z))) (x y : D) :
    m__law_ask [.im (.int 1), .im (.tup (rs.map rowD)), .im d, .im x, .im y] = .ok (.im (.tup [.str "InvalidTable", .str z]), []) := by
  apply eq_of_mv
  obtain ⟨e, h⟩ := blocks_ex3 hw h ho (.im x) (.im y)
  unfold m__law_ask b__law_ask
  have hs : subT 3 0 = true := rfl
  have he : m__law_error 3 [d] = some (.tup [.str "InvalidTable", .str z]) := by simp [m__law_error, hz]
  simp [mv_runF, h, hs, he]
theorem ask1_ex2 (hw : Wi rs) (ho : Oc rs.length got) {l : D} (h : plT l) (hr : risingB l rs.length = false) {z : Str} (hz : reprF [l] = some (.im (.str z))) (y : D) :
    m__law_ask [.im (.int 1), .im (.tup (rs.map rowD)), .im (.tup (got.map nD)), .im l, .im y] = .ok (.im (.tup [.str "InvalidLot", .str z]), []) := by
  apply eq_of_mv
  obtain ⟨e, h⟩ := blocks_ex2 hw ho h hr (.im y)
  unfold m__law_ask b__law_ask
  have hs : subT 2 0 = true := rfl
  have he : m__law_error 2 [l] = some (.tup [.str "InvalidLot", .str z]) := by simp [m__law_error, hz]
  simp [mv_runF, h, hs, he]
theorem ask0_ex3 (hw : Wi rs) {d : D} (h : plT d) (ho : outcomeB rs.length d = false) {z : Str} (hz : reprF [d] = some (.im (.str z))) (x y : D) :
    m__law_ask [.im (.int 0), .im (.tup (rs.map rowD)), .im d, .im x, .im y] = .ok (.im (.tup [.str "InvalidTable", .str z]), []) := by
  apply eq_of_mv
  obtain ⟨e, h⟩ := lot_ex3 hw h ho
  unfold m__law_ask b__law_ask
  have hs : subT 3 0 = true := rfl
  have he : m__law_error 3 [d] = some (.tup [.str "InvalidTable", .str z]) := by simp [m__law_error, hz]
  simp [mv_runF, h, hs, he]
theorem ask0_w (hw : Wi rs) (ho : Oc rs.length got) (x y : D) (hq1 : got = outL rs → Q (.im (.tup [.str "told", .non])) [])
    (hq2 : ∀ (lot : List Nat) (ps : List (Nat × Nat)), got ≠ outL rs → Lt rs.length lot → ps.length ≤ 10 → (∀ p ∈ ps, p.1 < 10 ∧ p.2 < 10) → blkB rs got lot (.tup (ps.map pD)) = true → Q (.im (.tup [.str "told", .tup [.tup (lot.map nD), .tup (ps.map pD)]])) []) :
    Mv (m__law_ask [.im (.int 0), .im (.tup (rs.map rowD)), .im (.tup (got.map nD)), .im x, .im y]) Q X := by
  unfold m__law_ask b__law_ask
  simp [mv_runF]
  refine lot_w hw ho (fun h => ?_) fun lot ps h1 h2 h3 h4 h5 => ?_
  · simp
    exact hq1 h
  · simp
    exact hq2 lot ps h1 h2 h3 h4 h5
theorem is_lot_e {lot : List Nat} {N : Nat} (hN : N ≤ 10) (hl : Lt N lot) : m__law_is_lot [.im (.tup (lot.map nD)), .im (.int (N : Int))] = .ok (.im (.bl true), []) := by
  apply eq_of_mv
  have hll := hl.len
  unfold m__law_is_lot b__law_is_lot
  simp [mv_runF]
  refine ⟨by omega, ?_⟩
  let S : Option M → Env := fun o => [some (.im (.tup (lot.map nD))), some (.im (.int (N : Int))), o]
  refine ev_loop (xs := List.range lot.length) nD S (fun _ _ _ => True) none rfl rfl trivial ?_ ?_
  · rintro pre k post o e _
    obtain ⟨hk, hn⟩ := range_split e
    have hkl : k < lot.length := by omega
    have hlN := hl.lt _ (nth_mem hkl)
    have hp : pl (.int ((nth lot k : Nat) : Int)) = true := rfl
    simp [S, hkl, is_number_e hp, isNum]
    refine Br.intro (c := N ≤ nth lot k) (fun h => by omega) fun _ => ?_
    simp [S]
    refine Br.intro (c := 0 < k) (fun h => ?_) fun h => ?_
    · obtain ⟨j, hjk⟩ : ∃ j, k = j + 1 := ⟨k - 1, by omega⟩
      have hj : j < lot.length := by omega
      have hasc : nth lot j < nth lot k := by
        have := List.pairwise_iff_getElem.mp hl.asc j k hj hkl (by omega)
        rw [nth_eq hj, nth_eq hkl]; exact this
      have e1 : ((k : Int) - 1) = ((j : Nat) : Int) := by omega
      simp [hkl, hj, e1]
      refine Br.intro (c := nth lot k ≤ nth lot j) (fun h => by omega) fun _ => ?_
      simp
      exact NX.mk _ rfl trivial
    · simp
      exact NX.mk _ rfl trivial
  · rintro o _
    simp [S]
/-! ### the pairs of a road -/
def rpairs (r : List Nat) : List (Nat × Nat) := (List.range r.length).map fun k => (nth r k, nth r ((k + 1) % r.length))
theorem rpairs_fst (r : List Nat) : (rpairs r).map (·.1) = r := by
  unfold rpairs
  rw [List.map_map]
  refine ext_nth (by simp) fun k hk => ?_
  have hk : k < r.length := by simpa using hk
  rw [nth_map _ (by simpa using hk), nth_range hk]
  rfl
theorem rpairs_snd (r : List Nat) : (rpairs r).map (·.2) = r.drop 1 ++ r.take 1 := by
  unfold rpairs
  rw [List.map_map]
  refine ext_nth (by simp; omega) fun k hk => ?_
  have hk : k < r.length := by simpa using hk
  rw [nth_map _ (by simpa using hk), nth_range hk]
  show nth r ((k + 1) % r.length) = _
  by_cases h : k + 1 < r.length
  · rw [Nat.mod_eq_of_lt h, Eng.nth_app_l (by simp; omega), nth_eq h, nth_eq (by simp; omega), List.getElem_drop]
    simp [Nat.add_comm]
  · have h1 : k + 1 = r.length := by omega
    rw [h1, Nat.mod_self]
    cases r with
    | nil => simp at hk
    | cons x r =>
      simp at h1
      subst h1
      simp [nth]
theorem mem_rpairs {r : List Nat} {p : Nat × Nat} : p ∈ rpairs r ↔ ∃ k, k < r.length ∧ p = (nth r k, nth r ((k + 1) % r.length)) := by
  unfold rpairs
  rw [List.mem_map]
  constructor
  · rintro ⟨k, hk, rfl⟩; exact ⟨k, List.mem_range.mp hk, rfl⟩
  · rintro ⟨k, hk, rfl⟩; exact ⟨k, List.mem_range.mpr hk, rfl⟩
theorem rpairs_lt {r : List Nat} {N : Nat} (h : ∀ x ∈ r, x < N) : ∀ p ∈ rpairs r, p.1 < N ∧ p.2 < N := fun p hp => by
  obtain ⟨k, hk, rfl⟩ := mem_rpairs.mp hp
  exact ⟨h _ (nth_mem hk), h _ (nth_mem (Nat.mod_lt _ (by omega)))⟩
theorem pairs_of_e {r : List Nat} (hp : 0 < r.length) (hl : r.length ≤ 10) (h : ∀ x ∈ r, x < 10) : m__law_pairs_of [.im (.lst (r.map nD))] = .ok (.im (.tup ((srt (rpairs r)).map pD)), []) := by
  apply eq_of_mv
  unfold m__law_pairs_of b__law_pairs_of
  simp [mv_runF]
  refine ⟨by omega, ?_⟩
  refine ev_cmp nD (fun _ => true) (M.im ∘ (pairD ∘ fun k => (nth r k, nth r ((k + 1) % r.length)))) (xs := List.range r.length) rfl (by simp; omega) (fun k hk => ?_) ?_
  · have hk : k < r.length := List.mem_range.mp hk
    have hpos : (0 : Int) < r.length := by omega
    have hmod : ((k : Int) + 1) % (r.length : Int) = ((k + 1) % r.length : Nat) := by norm_cast
    have hlt : (k + 1) % r.length < r.length := Nat.mod_lt _ (by omega)
    obtain ⟨j, hj⟩ : ∃ j, j = (k + 1) % r.length := ⟨_, rfl⟩
    rw [← hj] at hmod hlt
    simp [hk, hpos, hmod, hlt, pairD, ← hj]
    omega
  · have e3 := sortedAF_lP (ps := rpairs r) (by
      intro e
      have := congrArg List.length e
      simp [rpairs] at this
      subst this; simp at hp) (fun p hp' => by have := rpairs_lt h p hp'; omega) (by simp [rpairs]; omega)
    simp
    rw [← List.map_map]
    rw [show (List.range r.length).map (fun k => (nth r k, nth r ((k + 1) % r.length))) = rpairs r from rfl, e3]
    simp
    rfl
end
end K88
end
section
set_option Elab.async false
set_option linter.all false
set_option maxRecDepth 100000
open Eng
local macro_rules
  | `(Ev $r $q $x) => `(@Ev _ $r (CQ.mk $q) (CX.mk $x))
  | `(Mv $r $q $x) => `(@Mv $r (CM.mk $q) (CY.mk $x))
  | `(Of $r $q) => `(@Of _ $r (CO.mk $q))
  | `(Br $r $p $q) => `(@Br $r (CP.mk $p) (CP.mk $q))
  | `(NX $s $p $e) => `(@NX _ $e (CN.mk $s $p))
namespace K88
open PySem Eng TTC
section
variable {rs : List (List Nat)} {got : List Nat} {Q : M → List M → Prop} {X : Nat → List D → Prop}
theorem it_can {f : Nat → Nat} {T : List Nat} (hf : ∀ x ∈ T, f x ∈ T) (inj : ∀ a ∈ T, ∀ b ∈ T, f a = f b → a = b) : ∀ {i : Nat} {a b : Nat}, a ∈ T → b ∈ T → it f i a = it f i b → a = b
  | 0, a, b, _, _, e => e
  | i + 1, a, b, ha, hb, e => it_can hf inj (i := i) ha hb (inj _ (it_mem hf ha i) _ (it_mem hf hb i) e)
theorem on_inj {f : Nat → Nat} {T : List Nat} (hf : ∀ x ∈ T, f x ∈ T) (inj : ∀ a ∈ T, ∀ b ∈ T, f a = f b → a = b) {s : Nat} (hs : s ∈ T) : On f s := by
  have h : ¬ (path f s T.length).Nodup := fun h => by
    have := nodup_len h fun x hx => by
      obtain ⟨i, _, rfl⟩ := mem_path.mp hx
      exact it_mem hf hs i
    rw [path_len] at this; omega
  have : ∃ i j, i < j ∧ it f i s = it f j s := by
    refine Classical.byContradiction fun hh => h ?_
    rw [path]
    refine List.pairwise_map.mpr (List.pairwise_lt_range.imp ?_)
    intro a b hab e
    exact hh ⟨a, b, hab, e⟩
  obtain ⟨i, j, hij, e⟩ := this
  refine ⟨j - i, by omega, ?_⟩
  have e2 : it f i s = it f i (it f (j - i) s) := by
    rw [← it_add, show i + (j - i) = j by omega]; exact e
  exact (it_can hf inj hs (it_mem hf hs _) e2).symm
/-- who blocks, has a ring -/
theorem blk_imp {N : Nat} {lot : List Nat} {ps : List (Nat × Nat)} (hl : Lt N lot) (h : blkB rs got lot (.tup (ps.map pD)) = true) : Imp rs got N := by
  obtain ⟨⟨h1, h2, h3⟩, p, hp, hs⟩ := (blkB_iff hl.asc).mp h
  have hlen : (ps.map (·.2)).length = lot.length := by rw [← h1]; simp
  obtain ⟨h5, h6⟩ := (nats_iff hl.asc hlen).mp h2
  have hnd : (ps.map (·.1)).Nodup := by rw [h1]; exact lt_nodup hl.asc
  let f : Nat → Nat := fun x => (ps.find? fun p => decide (p.1 = x)).elim x (·.2)
  have hfp : ∀ p ∈ ps, f p.1 = p.2 := fun p hp => by
    show (ps.find? fun q => decide (q.1 = p.1)).elim p.1 (·.2) = p.2
    cases hq : ps.find? fun q => decide (q.1 = p.1) with
    | none =>
      have := List.find?_eq_none.mp hq p hp
      simp at this
    | some q =>
      have hqm := List.mem_of_find?_eq_some hq
      have hq1 : q.1 = p.1 := by simpa using List.find?_some hq
      obtain ⟨i, hi, e1⟩ := mem_nth hqm
      obtain ⟨j, hj, e2⟩ := mem_nth hp
      have : i = j := nth_inj hnd (by simpa using hi) (by simpa using hj) (by rw [nth_map _ hi, nth_map _ hj, e1, e2]; exact hq1)
      subst this
      rw [← e1, e2]; rfl
  have hmem : ∀ x ∈ lot, ∃ p ∈ ps, p.1 = x := fun x hx => by
    rw [← h1] at hx
    obtain ⟨p, hp, e⟩ := List.mem_map.mp hx
    exact ⟨p, hp, e⟩
  have hf : ∀ x ∈ lot, f x ∈ lot := fun x hx => by
    obtain ⟨p, hp, rfl⟩ := hmem x hx
    rw [hfp p hp]
    exact h6 _ (List.mem_map.mpr ⟨p, hp, rfl⟩)
  have inj : ∀ a ∈ lot, ∀ b ∈ lot, f a = f b → a = b := fun a ha b hb e => by
    obtain ⟨p, hp, rfl⟩ := hmem a ha
    obtain ⟨q, hq, rfl⟩ := hmem b hb
    rw [hfp p hp, hfp q hq] at e
    obtain ⟨i, hi, e1⟩ := mem_nth hp
    obtain ⟨j, hj, e2⟩ := mem_nth hq
    have : i = j := nth_inj h5 (by simpa using hi) (by simpa using hj) (by rw [nth_map _ hi, nth_map _ hj, e1, e2]; exact e)
    subst this
    rw [← e1, e2]
  have hE : ∀ x ∈ lot, Edge rs got x (f x) := fun x hx => by
    obtain ⟨p, hp, rfl⟩ := hmem x hx
    rw [hfp p hp]
    exact h3 p hp
  have hx : p.1 ∈ lot := h1 ▸ List.mem_map.mpr ⟨p, hp, rfl⟩
  obtain ⟨c, hc⟩ := (on_inj hf inj hx).cl
  have hcp := hc.pos
  have hfx := hf _ hx
  refine ⟨p.1, f p.1, hl.lt _ hx, hl.lt _ hfx, by rw [hfp p hp]; exact hs, ?_⟩
  have := rch_it (E := Edge rs got) (N := N) (f := f) (a := f p.1) (fun i => by
    have hm := it_mem hf hfx i
    exact ⟨hE _ hm, hl.lt _ (hf _ hm)⟩) (c - 1)
  have e : it f (c - 1) (f p.1) = p.1 := by
    show it f (c - 1) (it f 1 p.1) = p.1
    rw [← it_add, Nat.sub_add_cancel hcp, hc.back]
  rwa [e] at this
theorem road_blk {N j k : Nat} {r : List Nat} (hN : N ≤ 10) (h : Road rs got N j k r) (hs : Strict rs got k j) : blkB rs got (natsD r) (.tup ((srt (rpairs r)).map pD)) = true := by
  have hp := h.pos
  have hlast : ∀ i, i < r.length → i + 1 < r.length ∨ ((i + 1) % r.length = 0 ∧ i = r.length - 1) := fun i hi => by
    by_cases hh : i + 1 < r.length
    · exact .inl hh
    · exact .inr ⟨by rw [show i + 1 = r.length by omega, Nat.mod_self], by omega⟩
  refine ring_blk h.nd (by rw [rpairs_fst]) (by rw [rpairs_snd]; exact rot_perm r) (fun p hp => by have := rpairs_lt h.lt p hp; omega) (fun p hp => ?_) ?_
  · obtain ⟨i, hi, rfl⟩ := mem_rpairs.mp hp
    rcases hlast i hi with hh | ⟨h1, h2⟩
    · show Edge rs got (nth r i) (nth r ((i + 1) % r.length))
      rw [Nat.mod_eq_of_lt hh]
      exact h.ed i hh
    · show Edge rs got (nth r i) (nth r ((i + 1) % r.length))
      rw [h1, h2, h.fin, h.st]
      exact .inr hs
  · refine ⟨_, mem_rpairs.mpr ⟨r.length - 1, by omega, rfl⟩, ?_⟩
    show Strict rs got (nth r (r.length - 1)) (nth r ((r.length - 1 + 1) % r.length))
    rw [Nat.sub_add_cancel hp, Nat.mod_self, h.fin, h.st]
    exact hs
/-! ### all sharings -/
def ordL (lot : List Nat) : Nat → List (List Nat)
  | 0 => [[]]
  | n + 1 => (ordL lot n).flatMap fun row => (lot.filter fun j => decide (j ∉ row)).map fun j => row ++ [j]
theorem mem_ordL {lot : List Nat} : ∀ {n : Nat} {row : List Nat}, row ∈ ordL lot n ↔ row.length = n ∧ row.Nodup ∧ ∀ x ∈ row, x ∈ lot
  | 0, row => by
    simp only [ordL, List.mem_singleton]
    constructor
    · rintro rfl; simp
    · rintro ⟨h, _⟩; exact List.length_eq_zero_iff.mp h
  | n + 1, row => by
    unfold ordL
    rw [List.mem_flatMap]
    constructor
    · rintro ⟨r, hr, hm⟩
      obtain ⟨h1, h2, h3⟩ := mem_ordL.mp hr
      obtain ⟨j, hj, rfl⟩ := List.mem_map.mp hm
      rw [List.mem_filter] at hj
      have hjn : j ∉ r := by simpa using hj.2
      refine ⟨by simp [h1], ?_, fun x hx => ?_⟩
      · rw [List.nodup_append]
        exact ⟨h2, by simp, fun a ha b hb => by simp at hb; subst hb; exact fun e => hjn (e ▸ ha)⟩
      · rcases List.mem_append.mp hx with hx | hx
        · exact h3 x hx
        · simp at hx; subst hx; exact hj.1
    · rintro ⟨h1, h2, h3⟩
      have hne : row ≠ [] := fun e => by subst e; simp at h1
      have e := List.dropLast_concat_getLast hne
      rw [← e] at h2 h3
      rw [List.nodup_append] at h2
      refine ⟨row.dropLast, mem_ordL.mpr ⟨by simp [h1], h2.1, fun x hx => h3 x (by simp [hx])⟩, List.mem_map.mpr ⟨row.getLast hne, ?_, e⟩⟩
      rw [List.mem_filter]
      refine ⟨h3 _ (by simp), ?_⟩
      simp only [decide_eq_true_eq]
      exact fun hm => h2.2.2 _ hm _ (by simp) rfl
def subL : Nat → List (List Nat)
  | 0 => [[]]
  | n + 1 => subL n ++ (subL n).map fun l => l ++ [n]
theorem mem_subL : ∀ {n : Nat} {lot : List Nat}, lot ∈ subL n ↔ Lt n lot
  | 0, lot => by
    simp only [subL, List.mem_singleton]
    constructor
    · rintro rfl; exact ⟨List.Pairwise.nil, by simp⟩
    · intro h
      cases lot with
      | nil => rfl
      | cons x l => exact absurd (h.lt x (by simp)) (by omega)
  | n + 1, lot => by
    unfold subL
    rw [List.mem_append, mem_subL, List.mem_map]
    constructor
    · rintro (h | ⟨l, hl, rfl⟩)
      · exact ⟨h.asc, fun x hx => by have := h.lt x hx; omega⟩
      · have h := mem_subL.mp hl
        refine ⟨?_, fun x hx => ?_⟩
        · rw [List.pairwise_append]
          exact ⟨h.asc, by simp, fun a ha b hb => by simp at hb; subst hb; exact h.lt a ha⟩
        · rcases List.mem_append.mp hx with hx | hx
          · have := h.lt x hx; omega
          · simp at hx; omega
    · intro h
      by_cases hn : n ∈ lot
      · right
        have hne : lot ≠ [] := List.ne_nil_of_mem hn
        have e := List.dropLast_concat_getLast hne
        have ha := h.asc
        have hlt := h.lt
        rw [← e] at ha hlt hn
        rw [List.pairwise_append] at ha
        have hlast : lot.getLast hne = n := by
          have h1 := hlt (lot.getLast hne) (by simp)
          rcases List.mem_append.mp hn with h2 | h2
          · have := ha.2.2 n h2 (lot.getLast hne) (by simp); omega
          · simp at h2; omega
        refine ⟨lot.dropLast, mem_subL.mpr ⟨ha.1, fun x hx => ?_⟩, by rw [← hlast]; exact e⟩
        have := ha.2.2 x hx (lot.getLast hne) (by simp)
        omega
      · left
        refine ⟨h.asc, fun x hx => ?_⟩
        have := h.lt x hx
        have : x ≠ n := fun e => hn (e ▸ hx)
        omega
def shs (n : Nat) : List (List Nat × List (Nat × Nat)) := (subL n).flatMap fun lot => (ordL lot lot.length).map fun row => (lot, lot.zip row)
theorem mem_shs {n : Nat} {s : List Nat × List (Nat × Nat)} (h : s ∈ shs n) : Lt n s.1 ∧ s.2.length ≤ s.1.length ∧ ∀ p ∈ s.2, p.1 < n ∧ p.2 < n := by
  unfold shs at h
  obtain ⟨lot, hl, hm⟩ := List.mem_flatMap.mp h
  obtain ⟨row, hr, rfl⟩ := List.mem_map.mp hm
  have hl := mem_subL.mp hl
  obtain ⟨h1, h2, h3⟩ := mem_ordL.mp hr
  refine ⟨hl, by simp; omega, fun p hp => ?_⟩
  obtain ⟨a, b⟩ := p
  have := List.of_mem_zip hp
  exact ⟨hl.lt a this.1, hl.lt b (h3 b this.2)⟩
theorem in_shs {n : Nat} {lot : List Nat} {ps : List (Nat × Nat)} (hl : Lt n lot) (h1 : ps.map (·.1) = lot) (h2 : natsD (ps.map (·.2)) = lot) : (lot, ps) ∈ shs n := by
  have hlen : (ps.map (·.2)).length = lot.length := by rw [← h1]; simp
  obtain ⟨h5, h6⟩ := (nats_iff hl.asc hlen).mp h2
  unfold shs
  refine List.mem_flatMap.mpr ⟨lot, mem_subL.mpr hl, List.mem_map.mpr ⟨ps.map (·.2), mem_ordL.mpr ⟨hlen, h5, h6⟩, ?_⟩⟩
  rw [← h1, zip_two]
  simp
theorem shs_blk {n : Nat} {got : List Nat} : (∃ s ∈ shs n, blkB rs got s.1 (.tup (s.2.map pD)) = true) → Imp rs got n := fun ⟨s, hs, h⟩ => blk_imp (mem_shs hs).1 h
theorem road_shs {N j k : Nat} {r : List Nat} (hN : N ≤ 10) (h : Road rs got N j k r) (hs : Strict rs got k j) : ∃ s ∈ shs N, blkB rs got s.1 (.tup (s.2.map pD)) = true := by
  have hb := road_blk hN h hs
  have hl : Lt N (natsD r) := nats_Lt h.nd h.lt
  obtain ⟨⟨h1, h2, _⟩, _⟩ := (blkB_iff hl.asc).mp hb
  exact ⟨_, in_shs hl h1 h2, hb⟩
end
end K88
end
section
set_option Elab.async false
set_option linter.all false
set_option maxRecDepth 100000
open Eng
local macro_rules
  | `(Ev $r $q $x) => `(@Ev _ $r (CQ.mk $q) (CX.mk $x))
  | `(Mv $r $q $x) => `(@Mv $r (CM.mk $q) (CY.mk $x))
  | `(Of $r $q) => `(@Of _ $r (CO.mk $q))
  | `(Br $r $p $q) => `(@Br $r (CP.mk $p) (CP.mk $q))
  | `(NX $s $p $e) => `(@NX _ $e (CN.mk $s $p))
namespace K88
open PySem Eng TTC
section
variable {rs : List (List Nat)} {got : List Nat} {Q : M → List M → Prop} {X : Nat → List D → Prop}
theorem flatMap_len {α β : Type} {f : α → List β} {B : Nat} : ∀ {l : List α}, (∀ x ∈ l, (f x).length ≤ B) → (l.flatMap f).length ≤ l.length * B
  | [], _ => by simp
  | x :: l, h => by
    have := flatMap_len (f := f) (l := l) fun y hy => h y (by simp [hy])
    have := h x (by simp)
    rw [List.flatMap_cons, List.length_append, List.length_cons, Nat.succ_mul]
    omega
def grow (lot row : List Nat) : List (List Nat) := (lot.filter fun j => decide (j ∉ row)).map fun j => row ++ [j]
theorem grow_len (lot row : List Nat) : (grow lot row).length ≤ lot.length := by
  unfold grow
  rw [List.length_map]; exact List.length_filter_le _ _
theorem ordL_len (lot : List Nat) : ∀ n, (ordL lot n).length ≤ lot.length ^ n
  | 0 => by simp [ordL]
  | n + 1 => by
    have := flatMap_len (f := grow lot) (l := ordL lot n) (B := lot.length) fun r _ => grow_len lot r
    have ih := Nat.mul_le_mul_right lot.length (ordL_len lot n)
    show ((ordL lot n).flatMap (grow lot)).length ≤ _
    rw [Nat.pow_succ]; omega
theorem ordL4 {lot : List Nat} (h : lot.length ≤ 4) {n : Nat} (hn : n ≤ 4) : (ordL lot n).length ≤ 256 := by
  have h1 := ordL_len lot n
  have h2 : lot.length ^ n ≤ 4 ^ n := Nat.pow_le_pow_left h n
  have h3 : 4 ^ n ≤ 4 ^ 4 := Nat.pow_le_pow_right (by omega) hn
  omega
def IsG {α : Type} (f : α → D) (m : M) (xs : List α) : Prop := frz m = .lst (xs.map f) ∧ flat m = some (.lst (xs.map f))
theorem IsG.ls {α : Type} (f : α → D) (xs : List α) : IsG f (.ls (xs.map (M.im ∘ f))) xs := ⟨by simp, by simp⟩
theorem IsG.im {α : Type} (f : α → D) (xs : List α) : IsG f (.im (.lst (xs.map f))) xs := ⟨by simp, by simp⟩
theorem orders_w {lot : List Nat} (hl : lot.length ≤ 4) (hq : ∀ m, IsG rowD m (ordL lot lot.length) → Q m []) : Mv (m__law_orders [.im (.tup (lot.map nD))]) Q X := by
  unfold m__law_orders b__law_orders
  simp [mv_runF]
  let S : M × (Option M × Option M × Option M × Option M) → Env := fun s => [some (.im (.tup (lot.map nD))), some s.1, s.2.1, s.2.2.1, s.2.2.2.1, s.2.2.2.2]
  refine ev_loop (xs := lot) nD S (fun pre _ s => IsG rowD s.1 (ordL lot pre.length)) (.ls [.im (.tup [])], (none, none, none, none)) rfl (by simp [S]) (IsG.ls rowD [[]]) ?_ ?_
  · rintro pre k post ⟨m1, ⟨o2, o3, o4, o5⟩⟩ e hI
    have hI : IsG rowD m1 (ordL lot pre.length) := hI
    generalize hP : ordL lot pre.length = rows at hI
    have hP := hP.symm
    have hpl : pre.length + 1 ≤ lot.length := by
      have := congrArg List.length e
      simp at this; omega
    have hrl : rows.length ≤ 256 := by rw [hP]; exact ordL4 hl (by omega)
    simp [S, hI.1, hI.2]
    let S2 : List (List Nat) × (Option M × Option M) → Env := fun s => [some (.im (.tup (lot.map nD))), some (.im (.lst (rows.map rowD))), some (.im (.int (k : Int))), some (.ls (s.1.map (M.im ∘ rowD))), s.2.1, s.2.2]
    refine ev_loop (xs := rows) rowD S2 (fun pre' _ s => s.1 = pre'.flatMap (grow lot)) ([], (o4, o5)) rfl (by simp [S2]) rfl ?_ ?_
    · rintro pre' row post' ⟨more, ⟨o4, o5⟩⟩ e' hP'
      have hP' : more = pre'.flatMap (grow lot) := hP'
      have hp'l : pre'.length + 1 ≤ rows.length := by
        have := congrArg List.length e'
        simp at this; omega
      have hml : more.length ≤ pre'.length * lot.length := by rw [hP']; exact flatMap_len fun r _ => grow_len lot r
      have hml2 : more.length ≤ 256 * 4 := Nat.le_trans hml (Nat.mul_le_mul (by omega) hl)
      have hrow : row.length ≤ 100 := by
        have hm : row ∈ ordL lot pre.length := by rw [← hP, e']; simp
        have := (mem_ordL.mp hm).1
        omega
      simp [S2]
      let S3 : List (List Nat) × Option M → Env := fun s => [some (.im (.tup (lot.map nD))), some (.im (.lst (rows.map rowD))), some (.im (.int (k : Int))), some (.ls (s.1.map (M.im ∘ rowD))), some (.im (rowD row)), s.2]
      refine ev_loop (xs := lot) nD S3 (fun pre'' _ s => s.1 = more ++ grow pre'' row) (more, o5) rfl rfl (by simp [grow]) ?_ ?_
      · rintro pre'' j post'' ⟨m2, o5⟩ e'' hP''
        have hP'' : m2 = more ++ grow pre'' row := hP''
        have hp2 : pre''.length + 1 ≤ lot.length := by
          have := congrArg List.length e''
          simp at this; omega
        have hm2 : m2.length ≤ 2000 := by
          rw [hP'', List.length_append]
          have := grow_len pre'' row
          omega
        simp [S3]
        refine Br.intro (c := j ∈ row) (fun h => ?_) (fun h => ?_)
        · simp
          refine NX.mk (m2, _) rfl ?_
          show m2 = _
          rw [hP'']; simp [grow, List.filter_append, h]
        · simp
          refine ⟨by omega, by omega, NX.mk (m2 ++ [row ++ [j]], _) (by simp [S3]; rfl) ?_⟩
          show m2 ++ [row ++ [j]] = _
          rw [hP'']; simp [grow, List.filter_append, h]
      · rintro ⟨m2, o5⟩ hP''
        have hP'' : m2 = more ++ grow lot row := hP''
        simp [S3]
        refine NX.mk (m2, (_, _)) rfl ?_
        show m2 = _
        rw [hP'', hP']; simp
    · rintro ⟨more, ⟨o4, o5⟩⟩ hP'
      have hP' : more = rows.flatMap (grow lot) := hP'
      simp [S2]
      have e9 : more = ordL lot (pre ++ [k]).length := by
        rw [hP', hP, List.length_append]; rfl
      refine NX.mk (.im (.lst (more.map rowD)), (_, _, _, _)) rfl ?_
      rw [← e9]
      exact IsG.im rowD more
  · rintro ⟨m1, ⟨o2, o3, o4, o5⟩⟩ hI
    have hI : IsG rowD m1 (ordL lot lot.length) := hI
    simp [S]
    exact hq m1 hI
def shD (s : List Nat × List (Nat × Nat)) : D := .tup [.tup (s.1.map nD), .tup (s.2.map pD)]
theorem subL_len : ∀ n, (subL n).length = 2 ^ n
  | 0 => rfl
  | n + 1 => by
    unfold subL
    rw [List.length_append, List.length_map, subL_len n, Nat.pow_succ]; omega
theorem sharings_e {n : Nat} (hn : n ≤ 4) : m__law_sharings [.im (.int (n : Int))] = .ok (.ls ((shs n).map (M.im ∘ shD)), []) := by
  apply eq_of_mv
  unfold m__law_sharings b__law_sharings
  simp [mv_runF]
  refine ⟨by omega, ?_⟩
  let S : List (List Nat) × Option M → Env := fun s => [some (.im (.int (n : Int))), some (.ls (s.1.map (M.im ∘ rowD))), s.2, none, none, none]
  refine ev_loop (xs := List.range n) nD S (fun pre _ s => s.1 = subL pre.length) ([[]], none) rfl (by simp [S]) rfl ?_ ?_
  · rintro pre k post ⟨lots, o2⟩ e hP
    obtain ⟨hk, hnn⟩ := range_split e
    have hP : lots = subL pre.length := hP
    have hll : lots.length ≤ 16 := by
      rw [hP, subL_len]
      have : 2 ^ pre.length ≤ 2 ^ 4 := Nat.pow_le_pow_right (by omega) (by omega)
      omega
    simp [S]
    refine ev_cmp rowD (fun _ => true) (M.im ∘ (rowD ∘ fun l => l ++ [k])) (xs := lots) rfl (by omega) (fun l hl => ?_) ?_
    · have hz : l.length ≤ 10 := by
        rw [hP] at hl
        have := (mem_subL.mp hl).len
        omega
      simp
      omega
    · simp
      refine ⟨by omega, NX.mk (lots ++ lots.map fun l => l ++ [k], _) (by simp [S, Function.comp_def]; rfl) ?_⟩
      show lots ++ lots.map (fun l => l ++ [k]) = subL (pre ++ [k]).length
      rw [hP, hk, List.length_append]; rfl
  · rintro ⟨lots, o2⟩ hP
    have hP : lots = subL n := by
      have : lots = subL (List.range n).length := hP
      simpa using this
    subst hP
    have hll : (subL n).length ≤ 16 := by
      rw [subL_len]
      have : 2 ^ n ≤ 2 ^ 4 := Nat.pow_le_pow_right (by omega) hn
      omega
    simp [S]
    let G : List Nat → List (List Nat × List (Nat × Nat)) := fun lot => (ordL lot lot.length).map fun row => (lot, lot.zip row)
    have hG : ∀ lot ∈ subL n, (G lot).length ≤ 256 := fun lot hl => by
      have := (mem_subL.mp hl).len
      simp only [G, List.length_map]
      exact ordL4 (by omega) (by omega)
    let S2 : List (List Nat × List (Nat × Nat)) × (Option M × Option M × Option M) → Env := fun s => [some (.im (.int (n : Int))), some (.im (.lst ((subL n).map rowD))), s.2.1, some (.ls (s.1.map (M.im ∘ shD))), s.2.2.1, s.2.2.2]
    refine ev_loop (xs := subL n) rowD S2 (fun pre _ s => s.1 = pre.flatMap G) ([], (o2, none, none)) rfl (by simp [S2]) rfl ?_ ?_
    · rintro pre lot post ⟨told, ⟨o2, o4, o5⟩⟩ e hP
      have hP : told = pre.flatMap G := hP
      have hl := mem_subL.mp (show lot ∈ subL n by rw [e]; simp)
      have hlen := hl.len
      have hpl : pre.length + 1 ≤ 16 := by
        have := congrArg List.length e
        simp at this; omega
      have htl : told.length ≤ 16 * 256 := by
        have := flatMap_len (f := G) (l := pre) (B := 256) fun x hx => hG x (by rw [e]; simp [hx])
        rw [hP]; exact Nat.le_trans this (Nat.mul_le_mul_right _ (by omega))
      simp [S2]
      refine orders_w (lot := lot) (by omega) fun m9 hI => ?_
      simp [hI.1, hI.2]
      let S3 : List (List Nat × List (Nat × Nat)) × (Option M × Option M) → Env := fun s => [some (.im (.int (n : Int))), some (.im (.lst ((subL n).map rowD))), s.2.1, some (.ls (s.1.map (M.im ∘ shD))), some (.im (rowD lot)), s.2.2]
      refine ev_loop (xs := ordL lot lot.length) rowD S3 (fun pre' _ s => s.1 = told ++ pre'.map fun row => (lot, lot.zip row)) (told, (o2, o5)) rfl rfl (by simp) ?_ ?_
      · rintro pre' row post' ⟨t2, ⟨o2, o5⟩⟩ e' hP'
        have hP' : t2 = told ++ pre'.map fun row => (lot, lot.zip row) := hP'
        have hrow := (mem_ordL.mp (show row ∈ ordL lot lot.length by rw [e']; simp)).1
        have ht2 : t2.length ≤ 5000 := by
          have h1 := hG lot (by rw [e]; simp)
          have h2 := congrArg List.length e'
          simp [G] at h1 h2
          rw [hP', List.length_append, List.length_map]
          omega
        simp [S3]
        refine ⟨by omega, ?_⟩
        refine ev_cmp nD (fun _ => true) (M.im ∘ (pD ∘ fun k => (nth lot k, nth row k))) (xs := List.range lot.length) rfl (by simp; omega) (fun k hk => ?_) ?_
        · have hk : k < lot.length := List.mem_range.mp hk
          simp [hk, hrow, pD]
        · simp
          have hz : (List.range lot.length).map (fun k => (nth lot k, nth row k)) = lot.zip row := by
            refine ext_nth (by simp [hrow]) fun k hk => ?_
            have hk : k < lot.length := by simpa using hk
            rw [nth_map _ (by simpa using hk), nth_range hk]
            rw [nth_eq (show k < (lot.zip row).length by rw [List.length_zip, hrow]; omega), List.getElem_zip, nth_eq hk, nth_eq (by rw [hrow]; exact hk)]
          rw [← List.map_map (f := fun k => (nth lot k, nth row k)) (g := pD), hz]
          refine ⟨by omega, NX.mk (t2 ++ [(lot, lot.zip row)], (none, some (.im (rowD row)))) (by simp [S3, shD]) ?_⟩
          show t2 ++ [(lot, lot.zip row)] = _
          rw [hP']; simp
      · rintro ⟨t2, ⟨o2, o5⟩⟩ hP'
        have hP' : t2 = told ++ G lot := hP'
        simp [S3]
        refine NX.mk (t2, (_, _, _)) rfl ?_
        show t2 = _
        rw [hP', hP]; simp
    · rintro ⟨told, ⟨o2, o4, o5⟩⟩ hP
      have hP : told = shs n := hP
      simp [S2, hP]
theorem Spl_ps {ps : List (Nat × Nat)} (h : ps.length ≤ 30) : Spl (.tup (ps.map pD)) := by
  refine ⟨rfl, by simpa using h, fun e he => ?_⟩
  obtain ⟨p, hp, rfl⟩ := List.mem_map.mp he
  refine ⟨rfl, by simp, fun f hf => ?_⟩
  simp at hf
  rcases hf with rfl | rfl <;> rfl
theorem tried_e {n : Nat} (hn : n ≤ 4) (ho : Oc n got) : m__law_tried [.im (ranksD rs n), .im (.tup (got.map nD)), .im (.lst ((shs n).map shD))] = .ok (.im (.bl ((shs n).any fun s => blkB rs got s.1 (.tup (s.2.map pD)))), []) := by
  apply eq_of_mv
  unfold m__law_tried b__law_tried
  simp [mv_runF]
  let S : Option M → Env := fun o => [some (.im (ranksD rs n)), some (.im (.tup (got.map nD))), some (.im (.lst ((shs n).map shD))), o]
  refine ev_loop (xs := shs n) shD S (fun pre _ _ => ∀ s ∈ pre, blkB rs got s.1 (.tup (s.2.map pD)) = false) none rfl rfl (by simp) ?_ ?_
  · rintro pre ⟨lot, ps⟩ post o e hP
    have hP : ∀ s ∈ pre, blkB rs got s.1 (.tup (s.2.map pD)) = false := hP
    have hm := mem_shs (show (lot, ps) ∈ shs n by rw [e]; simp)
    have hl : Lt n lot := hm.1
    have hl2 := hl.len
    have hpl : ps.length ≤ lot.length := hm.2.1
    have hb := law_blocks_e (rs := rs) (by omega) ho hl (Spl_ps (ps := ps) (by omega))
    simp [S, shD, hb]
    refine Br.introB (fun h => ?_) (fun h => ?_)
    · have : ((shs n).any fun s => blkB rs got s.1 (.tup (s.2.map pD))) = true := List.any_eq_true.mpr ⟨(lot, ps), by rw [e]; simp, h⟩
      simp [this]
    · simp
      refine NX.mk _ rfl fun s hs => ?_
      rcases List.mem_append.mp hs with hs | hs
      · exact hP s hs
      · simp at hs; subst hs; exact h
  · rintro o hP
    have hP : ∀ s ∈ shs n, blkB rs got s.1 (.tup (s.2.map pD)) = false := hP
    have : ((shs n).any fun s => blkB rs got s.1 (.tup (s.2.map pD))) = false := by
      rw [List.any_eq_false]
      intro s hs
      rw [hP s hs]; simp
    simp [S, this]
end
end K88
end
section
set_option Elab.async false
set_option linter.all false
set_option maxRecDepth 100000
open Eng
local macro_rules
  | `(Ev $r $q $x) => `(@Ev _ $r (CQ.mk $q) (CX.mk $x))
  | `(Mv $r $q $x) => `(@Mv $r (CM.mk $q) (CY.mk $x))
  | `(Of $r $q) => `(@Of _ $r (CO.mk $q))
  | `(Br $r $p $q) => `(@Br $r (CP.mk $p) (CP.mk $q))
  | `(NX $s $p $e) => `(@NX _ $e (CN.mk $s $p))
namespace K88
open PySem Eng TTC
section
variable {rs : List (List Nat)} {got : List Nat} {Q : M → List M → Prop} {X : Nat → List D → Prop}
def SplE (e : D) : Prop := pl e = true ∧ (match e with | .tup fs => fs.length ≤ 30 ∧ ∀ f ∈ fs, pl f = true | _ => True)
theorem Spl.tup {ds : List D} (h : ∀ e ∈ ds, SplE e) (hl : ds.length ≤ 30) : Spl (.tup ds) := ⟨rfl, hl, h⟩
theorem SplE.pD (p : Nat × Nat) : SplE (pD p) := ⟨rfl, by simp, fun f hf => by simp at hf; rcases hf with rfl | rfl <;> rfl⟩
theorem SplE.two {a b : D} (ha : pl a = true) (hb : pl b = true) : SplE (.tup [a, b]) := ⟨rfl, by simp, fun f hf => by simp at hf; rcases hf with rfl | rfl <;> assumption⟩
theorem SplE.ps {ps : List (Nat × Nat)} : ∀ e ∈ ps.map K88.pD, SplE e := fun e he => by
  obtain ⟨p, _, rfl⟩ := List.mem_map.mp he
  exact SplE.pD p
theorem SplE.app {a b : List D} (ha : ∀ e ∈ a, SplE e) (hb : ∀ e ∈ b, SplE e) : ∀ e ∈ a ++ b, SplE e := fun e he => by
  rcases List.mem_append.mp he with h | h
  · exact ha e h
  · exact hb e h
theorem SplE.take {a : List D} {k : Nat} (ha : ∀ e ∈ a, SplE e) : ∀ e ∈ a.take k, SplE e := fun e he => ha e (List.mem_of_mem_take he)
theorem SplE.drop {a : List D} {k : Nat} (ha : ∀ e ∈ a, SplE e) : ∀ e ∈ a.drop k, SplE e := fun e he => ha e (List.mem_of_mem_drop he)
theorem SplE.one {a : D} (ha : SplE a) : ∀ e ∈ [a], SplE e := fun e he => by simp at he; subst he; exact ha
def one1 (x : Nat) : D := if x = 1 then .bl true else .int (x : Int)
theorem pl_one1 (x : Nat) : pl (one1 x) = true := by unfold one1; split <;> rfl
theorem spoilt_w {p : Pot} {lot : List Nat} {ps : List (Nat × Nat)} {n : Nat} (hp : 0 < lot.length) (hpl : ps.length = lot.length) (hl : lot.length ≤ 10) (hn1 : 1 ≤ n) (hn : n ≤ 10) (hq : ∀ (d : D) (q : Pot), Spl d → Q (.im d) [q.m]) :
    Mv (m__law_spoilt [p.m, .im (.tup (lot.map nD)), .im (.tup (ps.map pD)), .im (.int (n : Int))]) Q X := by
  unfold m__law_spoilt b__law_spoilt
  simp [mv_runF]
  refine law_draw_w (by omega) (by omega) fun k p hk => ?_
  simp
  refine law_draw_w (by omega) (by omega) fun i p hi => ?_
  have hkl : k < lot.length := by omega
  have hkp : k < ps.length := by omega
  have hpos : (0 : Int) < ps.length := by omega
  have hmod : ((k : Int) + 1) % (ps.length : Int) = ((k + 1) % ps.length : Nat) := by norm_cast
  have hlt : (k + 1) % ps.length < ps.length := Nat.mod_lt _ (by omega)
  obtain ⟨j, hj⟩ : ∃ j, j = (k + 1) % ps.length := ⟨_, rfl⟩
  rw [← hj] at hmod hlt
  simp [hkl, hkp, hpos, hmod, hlt, pD]
  refine ⟨by omega, by omega, by omega, by omega, by omega, by omega, by omega, by omega, by omega, by omega, ?_⟩
  refine ev_cmp pD (fun _ => true) (M.im ∘ (fun p : Nat × Nat => D.tup [one1 p.1, .int (p.2 : Int)])) (xs := ps) rfl (by omega) (fun p hp => ?_) ?_
  · obtain ⟨a, b⟩ := p
    simp [pD]
    by_cases h : (a : Int) = 1
    · simp [h, one1, show a = 1 by omega]
    · simp [h, one1, show ¬ a = 1 by omega]
  · simp
    refine ev_cmp nD (fun _ => true) (M.im ∘ (fun x : Nat => D.tup [.int (x : Int), .int (x : Int)])) (xs := lot) rfl (by omega) (fun p hp => ?_) ?_
    · simp
    · simp
      refine ev_cmp pD (fun _ => true) (M.im ∘ (fun p : Nat × Nat => D.tup [.int (p.1 : Int), one1 p.2])) (xs := ps) rfl (by omega) (fun p hp => ?_) ?_
      · obtain ⟨a, b⟩ := p
        simp [pD]
        by_cases h : (b : Int) = 1
        · simp [h, one1, show b = 1 by omega]
        · simp [h, one1, show ¬ b = 1 by omega]
      · simp
        refine ⟨by omega, by omega, by omega, by omega, ?_⟩
        refine ev_cmp pD (fun _ => true) (M.im ∘ (fun p : Nat × Nat => D.tup [.int (p.2 : Int), .int (p.1 : Int)])) (xs := ps) rfl (by omega) (fun p hp => ?_) ?_
        · obtain ⟨a, b⟩ := p
          simp [pD]
        · simp
          refine law_draw_w (by omega) (by omega) fun r p hr => ?_
          simp
          have mid : ∀ x : D, SplE x → Spl (.tup (List.take k (List.map pD ps) ++ x :: List.drop (k + 1) (List.map pD ps))) := fun x hx => by
            refine Spl.tup (SplE.app (SplE.take SplE.ps) fun e he => ?_) (by simp; omega)
            rcases List.mem_cons.mp he with rfl | he
            · exact hx
            · exact SplE.drop SplE.ps e he
          have mp : ∀ (f : Nat × Nat → D) (l : List (Nat × Nat)), (∀ p, SplE (f p)) → l.length ≤ 30 → Spl (.tup (l.map f)) := fun f l hf hl => by
            refine Spl.tup (fun e he => ?_) (by simpa using hl)
            obtain ⟨p, _, rfl⟩ := List.mem_map.mp he
            exact hf p
          refine ⟨by omega, hq _ p ?_⟩
          have hh : r = 0 ∨ r = 1 ∨ r = 2 ∨ r = 3 ∨ r = 4 ∨ r = 5 ∨ r = 6 ∨ r = 7 ∨ r = 8 ∨ r = 9 ∨ r = 10 ∨ r = 11 ∨ r = 12 ∨ r = 13 ∨ r = 14 ∨ r = 15 ∨ r = 16 := by omega
          rcases hh with rfl | rfl | rfl | rfl | rfl | rfl | rfl | rfl | rfl | rfl | rfl | rfl | rfl | rfl | rfl | rfl | rfl
          · exact Spl.tup (SplE.app (SplE.take SplE.ps) (SplE.drop SplE.ps)) (by simp; omega)
          · exact Spl.tup (fun e he => SplE.ps (ps := ps) e (List.mem_reverse.mp he)) (by simp; omega)
          · exact ⟨rfl, trivial⟩
          · exact ⟨rfl, trivial⟩
          · exact Spl.tup (by simp) (by simp)
          · exact mid _ (SplE.two rfl rfl)
          · exact mid _ ⟨rfl, trivial⟩
          · exact mid _ (SplE.two rfl rfl)
          · exact Spl.tup (SplE.app SplE.ps (SplE.one (SplE.two rfl rfl))) (by simp; omega)
          · exact mp _ ps (fun p => SplE.two (pl_one1 _) rfl) (by omega)
          · refine Spl.tup (fun e he => ?_) (by simp; omega)
            obtain ⟨x, _, rfl⟩ := List.mem_map.mp he
            exact SplE.two rfl rfl
          · exact mp _ ps (fun p => SplE.two rfl (pl_one1 _)) (by omega)
          · refine mid _ ⟨rfl, by simp, fun f hf => ?_⟩
            simp at hf
            rcases hf with rfl | rfl | rfl <;> rfl
          · exact mid _ (SplE.two rfl rfl)
          · exact mp _ ps (fun p => SplE.two rfl rfl) (by omega)
          · exact ⟨rfl, trivial⟩
          · refine ⟨rfl, by simp, fun e he => ?_⟩
            simp at he
            rcases he with rfl | rfl <;> exact ⟨rfl, trivial⟩
end
end K88
end
section
set_option Elab.async false
set_option linter.all false
set_option maxRecDepth 100000
open Eng
local macro_rules
  | `(Ev $r $q $x) => `(@Ev _ $r (CQ.mk $q) (CX.mk $x))
  | `(Mv $r $q $x) => `(@Mv $r (CM.mk $q) (CY.mk $x))
  | `(Of $r $q) => `(@Of _ $r (CO.mk $q))
  | `(Br $r $p $q) => `(@Br $r (CP.mk $p) (CP.mk $q))
  | `(NX $s $p $e) => `(@NX _ $e (CN.mk $s $p))
namespace K88
open PySem Eng TTC
section
variable {rs : List (List Nat)} {got : List Nat} {Q : M → List M → Prop} {X : Nat → List D → Prop}
theorem okTold (b : Bool) : okA 8 (.tup [.str "told", .bl b]) := okA_tup1 (n := 6) trivial
theorem okToldN : okA 8 (.tup [.str "told", .non]) := okA_tup1 (n := 6) trivial
theorem srt_len (P : List (Nat × Nat)) : (srt P).length = P.length := List.length_mergeSort P
theorem nats_len (l : List Nat) : (natsD l).length = l.length := List.length_mergeSort l
theorem rpairs_len (r : List Nat) : (rpairs r).length = r.length := by simp [rpairs]
theorem blkB_len {lot : List Nat} {ds : List D} (h : ds.length ≠ lot.length) : blkB rs got lot (.tup ds) = false := by
  show (match blkR rs got lot lot ds [] with | some g => decide (0 < g) | none => false) = false
  rw [blkR_len h]
theorem judged_w (hw : Wi rs) (ho : Oc rs.length got) {p : Pot} {r : List Nat} (hr0 : 0 < r.length) (hnd : r.Nodup) (hrN : ∀ x ∈ r, x < rs.length) (hq : ∀ q : Pot, Q (.im (.bl true)) [q.m]) :
    Mv (m__law_judged [p.m, .im (.tup (rs.map rowD)), .im (ranksD rs rs.length), .im (.tup (got.map nD)), .im (.lst (r.map nD))]) Q X := by
  have h10 := hw.ten
  have h1 := hw.one
  have hlot : Lt rs.length (natsD r) := nats_Lt hnd hrN
  have hll := hlot.len
  have hlr := nats_len r
  have hpl := srt_len (rpairs r)
  have hrl := rpairs_len r
  have hpairs := pairs_of_e (r := r) hr0 (by omega) (fun x hx => by have := hrN x hx; omega)
  have hplt : ∀ q ∈ srt (rpairs r), q.1 < rs.length ∧ q.2 < rs.length := fun q hq => rpairs_lt hrN q ((srt_perm _).mem_iff.mp hq)
  generalize hps : srt (rpairs r) = ps at hpl hpairs hplt
  have hs1 : sortedAF [.lst (r.map nD)] = some (.ls ((natsD r).map (M.im ∘ nD))) := sortedAF_lN r
  generalize hlo : natsD r = lot at hlot hll hlr hs1
  have hsp : Spl (.tup (ps.map pD)) := Spl_ps (by omega)
  have hb := fun {d : D} (hd : Spl d) => law_blocks_e (rs := rs) h10 ho hlot hd
  have ha := fun {d : D} (hd : Spl d) => ask1_e hw ho hlot hd
  unfold m__law_judged b__law_judged
  simp [mv_runF, hpairs, hs1, ha hsp, hb hsp, alike8 (okTold _)]
  let E : Pot → Option M → Option M → Env := fun p o8 o9 => [some p.m, some (.im (.tup (rs.map rowD))), some (.im (ranksD rs rs.length)), some (.im (.tup (got.map nD))), some (.im (.lst (r.map nD))), some (.im (.int (rs.length : Int))), some (.im (.tup (ps.map pD))), some (.im (.tup (lot.map nD))), o8, o9, none, none, none]
  let S : Pot × Option M × Option M → Env := fun s => E s.1 s.2.1 s.2.2
  refine ev_loop (xs := List.range 5) nD S (fun _ _ _ => True) (p, none, none) rfl rfl trivial ?_ ?_
  · rintro pre turn post ⟨p, o8, o9⟩ e _
    simp [S, E]
    refine spoilt_w (by omega) (by omega) (by omega) (by omega) (by omega) fun d p hd => ?_
    simp [ha hd, hb hd, alike8 (okTold _)]
    exact NX.mk (p, _, _) rfl trivial
  · rintro ⟨p, o8, o9⟩ _
    simp [S, E]
    refine ⟨by omega, ?_⟩
    refine ev_cmp nD (fun x => decide (x ∉ lot)) (M.im ∘ nD) (xs := List.range rs.length) rfl (by simp; omega) (fun x hx => ?_) ?_
    · by_cases hm : x ∈ lot <;> simp [hm]
    · generalize hrest : (List.range rs.length).filter (fun x => decide (x ∉ lot)) = rest
      have hrm : ∀ x ∈ rest, x < rs.length ∧ x ∉ lot := fun x hx => by
        rw [← hrest, List.mem_filter] at hx
        exact ⟨List.mem_range.mp hx.1, by simpa using hx.2⟩
      have hrl2 : rest.length ≤ rs.length := by
        rw [← hrest]
        have := List.length_filter_le (fun x => decide (x ∉ lot)) (List.range rs.length)
        simpa using this
      clear hrest
      simp
      refine Br.introB (fun h => ?_) fun h => ?_
      · simp
        exact hq p
      · have hpos : 0 < rest.length := by
          cases rest with
          | nil => simp at h
          | cons => simp
        simp
        refine law_draw_w (by omega) (by omega) fun i p hi => ?_
        have hi' : i < rest.length := by omega
        obtain ⟨hkN, hkn⟩ := hrm _ (nth_mem hi')
        have hmore : Lt rs.length (natsD (lot ++ [nth rest i])) := nats_Lt (by
          rw [List.nodup_append]
          exact ⟨lt_nodup hlot.asc, by simp, fun a ha b hb => by simp at hb; subst hb; exact fun e => hkn (e ▸ ha)⟩) (fun x hx => by
          rcases List.mem_append.mp hx with hx | hx
          · exact hlot.lt x hx
          · simp at hx; subst hx; exact hkN)
        have hml := nats_len (lot ++ [nth rest i])
        simp at hml
        have hs2 : sortedAF [.tup ((lot ++ [nth rest i]).map nD)] = some (.ls ((natsD (lot ++ [nth rest i])).map (M.im ∘ nD))) := sortedAF_tN _
        generalize hmo : natsD (lot ++ [nth rest i]) = more at hmore hml hs2
        have e0 : blkB rs got more (.tup (ps.map pD)) = false := blkB_len (by simp; omega)
        have ha2 := ask1_e hw ho hmore hsp
        rw [e0] at ha2
        have e3 := sortedAF_tP (ps := ps ++ [(nth rest i, nth rest i)]) (by simp) (fun q hq => by
          rcases List.mem_append.mp hq with hq | hq
          · have := hplt q hq; omega
          · simp at hq; subst hq; exact ⟨by show nth rest i < 64; omega, by show nth rest i < 64; omega⟩) (by simp; omega)
        have hsl := srt_len (ps ++ [(nth rest i, nth rest i)])
        change sortedAF [.tup ((ps ++ [(nth rest i, nth rest i)]).map pD)] = some (.ls ((srt (ps ++ [(nth rest i, nth rest i)])).map (M.im ∘ pD))) at e3
        generalize srt (ps ++ [(nth rest i, nth rest i)]) = qs at e3 hsl
        have hsq : Spl (.tup (qs.map pD)) := Spl_ps (by simp at hsl; omega)
        have ha3 := ask1_e hw ho hmore hsq
        have hb3 := law_blocks_e (rs := rs) h10 ho hmore hsq
        rw [List.map_append, show [(nth rest i, nth rest i)].map pD = [D.tup [D.int ↑(nth rest i), D.int ↑(nth rest i)]] from rfl] at e3
        simp at hs2
        simp [hi', hs2, ha2, alike8 (okTold _)]
        refine ⟨by omega, by omega, ?_⟩
        simp [e3, ha3, hb3, alike8 (okTold _)]
        exact hq p
end
end K88
end
section
set_option Elab.async false
set_option linter.all false
set_option maxRecDepth 100000
open Eng
local macro_rules
  | `(Ev $r $q $x) => `(@Ev _ $r (CQ.mk $q) (CX.mk $x))
  | `(Mv $r $q $x) => `(@Mv $r (CM.mk $q) (CY.mk $x))
  | `(Of $r $q) => `(@Of _ $r (CO.mk $q))
  | `(Br $r $p $q) => `(@Br $r (CP.mk $p) (CP.mk $q))
  | `(NX $s $p $e) => `(@NX _ $e (CN.mk $s $p))
namespace K88
open PySem Eng TTC
section
variable {rs : List (List Nat)} {got : List Nat} {Q : M → List M → Prop} {X : Nat → List D → Prop}
theorem things_out {ds : List D} {n : Int} {d : D} (hd : d ∈ ds) (h : inFT d 0 (n - 1) = false) : thingsB (.tup ds) n = false := by
  have : (ds.all fun d => inFT d 0 (n - 1)) = false := by
    cases hh : ds.all fun d => inFT d 0 (n - 1) with
    | false => rfl
    | true =>
      rw [List.all_eq_true] at hh
      rw [hh d hd] at h; cases h
  show ((ds.all fun d => inFT d 0 (n - 1)) && _) = false
  rw [this]; rfl
theorem things_dup {ns : List Nat} {n : Int} (h : ¬ ns.Nodup) : thingsB (.tup (ns.map nD)) n = false := by
  show (_ && match intsD (ns.map nD) with | some ns => decide ns.Nodup | none => false) = false
  rw [intsD_nat]
  have : decide (ns.map fun (n : Nat) => (n : Int)).Nodup = false := by
    rw [decide_eq_false_iff_not, nodup_cast]; exact h
  simp only [this, Bool.and_false]
structure Wr (n : Nat) (d : D) : Prop where
  pl : plT d
  no : outcomeB n d = false
  sh : Shw 2 2000 d
structure Bd (n : Nat) (d : D) : Prop where
  pl : plT d
  no : risingB d n = false
  sh : Shw 2 2000 d
theorem sh_row {r : List Nat} (h : ∀ x ∈ r, x < 10) : ∀ d ∈ r.map nD, Shw 1 100 d := by
  intro d hd
  obtain ⟨t, ht, rfl⟩ := List.mem_map.mp hd
  have := h t ht
  exact Shw.nat (by omega) (by omega)
theorem pl_rowD {r : List Nat} : ∀ d ∈ r.map nD, pl d = true := by
  intro d hd
  obtain ⟨t, ht, rfl⟩ := List.mem_map.mp hd
  rfl
theorem no_th {n : Nat} {d : D} (h : thingsB d n = false) : outcomeB n d = false := by
  show (thingsB d n && _) = false
  rw [h]; rfl
theorem no_len {n : Nat} {ds : List D} (h : ds.length ≠ n) : outcomeB n (.tup ds) = false := by
  show (_ && lenB (.tup ds) n) = false
  simp [lenB, h]
theorem Wr.tup {n : Nat} {ds : List D} (h1 : ∀ d ∈ ds, K88.pl d = true) (h2 : ds.length ≤ 15) (h3 : ∀ d ∈ ds, Shw 1 100 d) (h4 : outcomeB n (.tup ds) = false) : Wr n (.tup ds) :=
  ⟨⟨rfl, h1, by omega⟩, h4, Shw.tup h3 h2 (by omega) (by omega)⟩
theorem Bd.tup {n : Nat} {ds : List D} (h1 : ∀ d ∈ ds, K88.pl d = true) (h2 : ds.length ≤ 15) (h3 : ∀ d ∈ ds, Shw 1 100 d) (h4 : risingB (.tup ds) n = false) : Bd n (.tup ds) :=
  ⟨⟨rfl, h1, by omega⟩, h4, Shw.tup h3 h2 (by omega) (by omega)⟩
theorem mem3 {α : Type} {P : α → Prop} {a b : List α} (ha : ∀ x ∈ a, P x) (hb : ∀ x ∈ b, P x) : ∀ x ∈ a ++ b, P x := fun x hx => by
  rcases List.mem_append.mp hx with h | h
  · exact ha x h
  · exact hb x h
theorem ne_rise {lot : List Nat} {n : Nat} (h : ¬ (lot.Pairwise (· < ·) ∧ ∀ x ∈ lot, 0 ≤ x ∧ x < n)) : risingB (.tup (lot.map nD)) n = false := by
  cases hb : risingB (.tup (lot.map nD)) n with
  | false => rfl
  | true => exact absurd (risesB_nat (l := 0).mp hb) h
theorem wrongs_w {p : Pot} (hw : Wi rs) (h2 : 2 ≤ rs.length) (ho : Oc rs.length got) {lot : List Nat} (hlot : Lt rs.length lot) (hq : ∀ q : Pot, Q (.im (.bl true)) [q.m]) :
    Mv (m__law_wrongs [p.m, .im (.tup (rs.map rowD)), .im (.tup (got.map nD)), .im (.tup (lot.map nD))]) Q X := by
  have h10 := hw.ten
  have hgl := ho.len
  have hll := hlot.len
  unfold m__law_wrongs b__law_wrongs
  simp [mv_runF]
  refine law_draw_w (by omega) (by omega) fun k p hk => ?_
  have hkN : k < rs.length := by omega
  obtain ⟨m, hm, hmk, hix⟩ : ∃ m, m < rs.length ∧ m ≠ k ∧ L2.atI (got.map nD) ((k : Int) - 1) = some (nD (nth got m)) := by
    rcases Nat.eq_zero_or_pos k with h0 | h0
    · refine ⟨rs.length - 1, by omega, by omega, ?_⟩
      rw [h0, show ((0 : Nat) : Int) - 1 = -1 from rfl, atI_m1, List.getLast?_eq_getElem?, List.length_map, hgl]
      rw [List.getElem?_map, List.getElem?_eq_getElem (by omega), nth_eq (by omega)]; rfl
    · refine ⟨k - 1, by omega, by omega, ?_⟩
      rw [show (k : Int) - 1 = ((k - 1 : Nat) : Int) by omega, atI_nat]
      have : k - 1 < got.length := by omega
      show (got.map nD)[k - 1]? = _
      rw [List.getElem?_map, List.getElem?_eq_getElem this, nth_eq this]; rfl
  simp [hix]
  refine ⟨by omega, by omega, by omega, by omega, by omega, ?_⟩
  refine ev_cmp nD (fun _ => true) (M.im ∘ one1) (xs := got) rfl (by omega) (fun x hx => ?_) ?_
  · by_cases h : (x : Int) = 1
    · simp [h, one1, show x = 1 by omega]
    · simp [h, one1, show ¬ x = 1 by omega]
  · simp
    refine ⟨by omega, by omega, ?_⟩
    refine law_draw_w (by omega) (by omega) fun r p hr => ?_
    simp
    refine ⟨by omega, by omega, by omega, ?_⟩
    have hgm := ho.at hm
    have gP := pl_rowD (r := got)
    have gS := sh_row (r := got) fun x hx => by have := ho.lt x hx; omega
    have lP := pl_rowD (r := lot)
    have lS := sh_row (r := lot) fun x hx => by have := hlot.lt x hx; omega
    have nS : Shw 1 100 (.int (rs.length : Int)) := Shw.nat (by omega) (by omega)
    have mid : ∀ x : D, pl x = true → Shw 1 100 x → outcomeB rs.length (.tup ((got.map nD).take k ++ x :: (got.map nD).drop (k + 1))) = false → Wr rs.length (.tup ((got.map nD).take k ++ x :: (got.map nD).drop (k + 1))) := fun x hx hx2 hno =>
      Wr.tup (mem3 (fun y hy => gP y (List.mem_of_mem_take hy)) fun y hy => by
        rcases List.mem_cons.mp hy with rfl | hy
        · exact hx
        · exact gP y (List.mem_of_mem_drop hy)) (by simp; omega) (mem3 (fun y hy => gS y (List.mem_of_mem_take hy)) fun y hy => by
        rcases List.mem_cons.mp hy with rfl | hy
        · exact hx2
        · exact gS y (List.mem_of_mem_drop hy)) hno
    have hwr : Wr rs.length (nth [D.lst (got.map nD), D.tup (cutD (got.map nD) none (some (-1))), D.tup (got.map nD ++ [D.int (rs.length : Int)]), D.tup ((got.map nD).take k ++ D.int ((nth got m : Nat) : Int) :: (got.map nD).drop (k + 1)), D.non, D.tup [], D.tup ((got.map nD).take k ++ D.int (rs.length : Int) :: (got.map nD).drop (k + 1)), D.tup (got.map one1), D.tup ((got.map nD).take k ++ D.int (-1) :: (got.map nD).drop (k + 1)), D.int 0] r) := by
      have hh : r = 0 ∨ r = 1 ∨ r = 2 ∨ r = 3 ∨ r = 4 ∨ r = 5 ∨ r = 6 ∨ r = 7 ∨ r = 8 ∨ r = 9 := by omega
      rcases hh with rfl | rfl | rfl | rfl | rfl | rfl | rfl | rfl | rfl | rfl
      · exact ⟨⟨rfl, trivial⟩, rfl, Shw.lst (n := 10) gS (by simp; omega) (by omega) (by omega)⟩
      · have hc : cutD (got.map nD) none (some (-1)) = (got.map nD).take (rs.length - 1) := by
          unfold cutD
          simp [HT.sIx, hgl]
          try omega
        rw [hc]
        exact Wr.tup (fun y hy => gP y (List.mem_of_mem_take hy)) (by simp; omega) (fun y hy => gS y (List.mem_of_mem_take hy)) (no_len (by simp; omega))
      · exact Wr.tup (mem3 gP fun x hx => by simp at hx; subst hx; rfl) (by simp; omega) (mem3 gS fun x hx => by simp at hx; subst hx; exact nS) (no_len (by simp; omega))
      · refine mid _ rfl (Shw.nat (by omega) (by omega)) (no_th ?_)
        have hd := things_dup (ns := got.take k ++ nth got m :: got.drop (k + 1)) (n := (rs.length : Int)) (fun hnd => by
          rw [List.nodup_append, List.nodup_cons] at hnd
          have hmem := nth_mem (show m < got.length by omega)
          by_cases hlt : m < k
          · have : nth got m ∈ got.take k := by
              rw [nth_eq (show m < got.length by omega)]
              rw [List.mem_take_iff_getElem]
              exact ⟨m, by omega, rfl⟩
            exact hnd.2.2 _ this _ (by simp) rfl
          · have : nth got m ∈ got.drop (k + 1) := by
              rw [nth_eq (show m < got.length by omega)]
              rw [List.mem_drop_iff_getElem]
              exact ⟨m - (k + 1), by omega, by congr 1; omega⟩
            exact hnd.2.1.1 this)
        simpa using hd
      · exact ⟨⟨rfl, trivial⟩, rfl, Shw.non (by omega)⟩
      · exact Wr.tup (by simp) (by simp) (by simp) (no_len (by simp; omega))
      · exact mid _ rfl nS (no_th (things_out (d := .int (rs.length : Int)) (by simp) (by simp [inFT]; omega)))
      · refine Wr.tup (fun y hy => ?_) (by simp; omega) (fun y hy => ?_) (no_th (things_out (d := .bl true) ?_ rfl))
        · obtain ⟨x, hx, rfl⟩ := List.mem_map.mp hy; exact pl_one1 x
        · obtain ⟨x, hx, rfl⟩ := List.mem_map.mp hy
          have := ho.lt x hx
          unfold one1
          split
          · exact Shw.bl (by omega)
          · exact Shw.nat (by omega) (by omega)
        · have h1m : 1 ∈ got := sub_all (l := got) (lot := List.range rs.length) ho.nd (fun x hx => List.mem_range.mpr (ho.lt x hx)) (by simp; omega) 1 (List.mem_range.mpr (by omega))
          exact List.mem_map.mpr ⟨1, h1m, rfl⟩
      · exact mid _ rfl (Shw.int (by decide) (by omega)) (no_th (things_out (d := .int (-1)) (by simp) (by simp [inFT])))
      · exact ⟨⟨rfl, trivial⟩, rfl, Shw.int (by decide) (by omega)⟩
    generalize nth [D.lst (got.map nD), D.tup (cutD (got.map nD) none (some (-1))), D.tup (got.map nD ++ [D.int (rs.length : Int)]), D.tup ((got.map nD).take k ++ D.int ((nth got m : Nat) : Int) :: (got.map nD).drop (k + 1)), D.non, D.tup [], D.tup ((got.map nD).take k ++ D.int (rs.length : Int) :: (got.map nD).drop (k + 1)), D.tup (got.map one1), D.tup ((got.map nD).take k ++ D.int (-1) :: (got.map nD).drop (k + 1)), D.int 0] r = wrong at hwr
    refine law_draw_w (by omega) (by omega) fun r2 p hr2 => ?_
    have hbd : Bd rs.length (nth [D.lst (lot.map nD), D.tup (lot.map nD ++ [D.int (rs.length : Int)]), D.tup (D.int (-1) :: lot.map nD), D.tup [D.int (k : Int), D.int (k : Int)], D.tup [D.int 1, D.int 0], D.non, D.tup [D.int 0, D.bl true], D.int 0, D.str (Str.ofString "0")] r2) := by
      have hh : r2 = 0 ∨ r2 = 1 ∨ r2 = 2 ∨ r2 = 3 ∨ r2 = 4 ∨ r2 = 5 ∨ r2 = 6 ∨ r2 = 7 ∨ r2 = 8 := by omega
      rcases hh with rfl | rfl | rfl | rfl | rfl | rfl | rfl | rfl | rfl
      · exact ⟨⟨rfl, trivial⟩, rfl, Shw.lst (n := 10) lS (by simp; omega) (by omega) (by omega)⟩
      · refine Bd.tup (mem3 lP fun x hx => by simp at hx; subst hx; rfl) (by simp; omega) (mem3 lS fun x hx => by simp at hx; subst hx; exact nS) ?_
        have := ne_rise (lot := lot ++ [rs.length]) (n := rs.length) fun h => by
          have := h.2 rs.length (by simp)
          omega
        simpa using this
      · refine Bd.tup (fun x hx => ?_) (by simp; omega) (fun x hx => ?_) ?_
        · rcases List.mem_cons.mp hx with rfl | hx
          · rfl
          · exact lP x hx
        · rcases List.mem_cons.mp hx with rfl | hx
          · exact Shw.int (by decide) (by omega)
          · exact lS x hx
        · show risesB _ _ _ = false
          simp [risesB, inFT]
      · refine Bd.tup (fun x hx => ?_) (by simp) (fun x hx => ?_) ?_
        · simp at hx; subst hx; rfl
        · simp at hx; subst hx; exact Shw.nat (by omega) (by omega)
        · have := ne_rise (lot := [k, k]) (n := rs.length) fun h => by simp at h
          simpa using this
      · refine Bd.tup (fun x hx => ?_) (by simp) (fun x hx => ?_) ?_
        · simp at hx; rcases hx with rfl | rfl <;> rfl
        · simp at hx; rcases hx with rfl | rfl <;> exact Shw.int (by decide) (by omega)
        · have := ne_rise (lot := [1, 0]) (n := rs.length) fun h => by simp at h
          simpa using this
      · exact ⟨⟨rfl, trivial⟩, rfl, Shw.non (by omega)⟩
      · refine Bd.tup (fun x hx => ?_) (by simp) (fun x hx => ?_) ?_
        · simp at hx; rcases hx with rfl | rfl <;> rfl
        · simp at hx; rcases hx with rfl | rfl
          · exact Shw.int (by decide) (by omega)
          · exact Shw.bl (by omega)
        · show risesB _ _ _ = false
          simp [risesB, inFT]
      · exact ⟨⟨rfl, trivial⟩, rfl, Shw.int (by decide) (by omega)⟩
      · exact ⟨⟨rfl, trivial⟩, rfl, Shw.str (by decide +kernel)⟩
    simp
    refine ⟨by omega, ?_⟩
    generalize nth [D.lst (lot.map nD), D.tup (lot.map nD ++ [D.int (rs.length : Int)]), D.tup (D.int (-1) :: lot.map nD), D.tup [D.int (k : Int), D.int (k : Int)], D.tup [D.int 1, D.int 0], D.non, D.tup [D.int 0, D.bl true], D.int 0, D.str (Str.ofString "0")] r2 = bad at hbd
    obtain ⟨z, hz⟩ := hwr.sh.repr (by omega) (by omega)
    obtain ⟨z2, hz2⟩ := hbd.sh.repr (by omega) (by omega)
    have a1 := ask0_ex3 hw hwr.pl hwr.no hz (.tup (lot.map nD)) (.tup [])
    have a2 := ask1_ex3 hw hwr.pl hwr.no hz bad (.tup [])
    have a3 := ask1_ex2 hw ho hbd.pl hbd.no hz2 .non
    have a4 := ask1_e hw ho (lot := []) ⟨List.Pairwise.nil, by simp⟩ (d := .tup []) (Spl.tup (by simp) (by simp))
    have e4 : blkB rs got [] (.tup []) = false := rfl
    rw [e4] at a4
    have a4 : m__law_ask [.im (.int 1), .im (.tup (rs.map rowD)), .im (.tup (got.map nD)), .im (.tup []), .im (.tup [])] = _ := a4
    simp [a1, a2, a3, a4, hz, hz2, alike8 okA_err, alike8 (okTold _)]
    exact hq p
end
end K88
end
section
set_option Elab.async false
set_option linter.all false
set_option maxRecDepth 100000
open Eng
local macro_rules
  | `(Ev $r $q $x) => `(@Ev _ $r (CQ.mk $q) (CX.mk $x))
  | `(Mv $r $q $x) => `(@Mv $r (CM.mk $q) (CY.mk $x))
  | `(Of $r $q) => `(@Of _ $r (CO.mk $q))
  | `(Br $r $p $q) => `(@Br $r (CP.mk $p) (CP.mk $q))
  | `(NX $s $p $e) => `(@NX _ $e (CN.mk $s $p))
namespace K88
open PySem Eng TTC
section
variable {rs : List (List Nat)} {got : List Nat} {Q : M → List M → Prop} {X : Nat → List D → Prop}
theorem nodup_of_inj {l : List Nat} (h : ∀ i j, i < l.length → j < l.length → nth l i = nth l j → i = j) : l.Nodup := by
  refine List.pairwise_iff_getElem.mpr fun i j hi hj hij e => ?_
  rw [← nth_eq hi, ← nth_eq hj] at e
  have := h i j hi hj e
  omega
theorem Oc.perm {N : Nat} {r : List Nat} (h : r.Perm (List.range N)) : Oc N r := by
  have hg := Gr.perm h
  exact ⟨by simpa using h.length_eq, hg.nd, hg.lt⟩
theorem Oc.swap {N : Nat} {g : List Nat} (h : Oc N g) {k j : Nat} (hk : k < N) (hj : j < N) : Oc N ((g.set k (nth g j)).set j (nth g k)) := by
  have hl := h.len
  have val : ∀ i, i < N → nth ((g.set k (nth g j)).set j (nth g k)) i = nth g (if i = j then k else if i = k then j else i) := fun i hi => by
    by_cases e1 : i = j
    · subst e1
      rw [if_pos rfl, nth_set_eq (by simp; omega)]
    · rw [if_neg e1, nth_set_ne (fun e => e1 e.symm)]
      by_cases e2 : i = k
      · subst e2
        rw [if_pos rfl, nth_set_eq (by omega)]
      · rw [if_neg e2, nth_set_ne (fun e => e2 e.symm)]
  have hlen : ((g.set k (nth g j)).set j (nth g k)).length = N := by simp [hl]
  refine ⟨hlen, nodup_of_inj fun a b ha hb e => ?_, fun x hx => ?_⟩
  · rw [hlen] at ha hb
    rw [val a ha, val b hb] at e
    have := nth_inj h.nd (by rw [hl]; split <;> (try split) <;> omega) (by rw [hl]; split <;> (try split) <;> omega) e
    split at this <;> split at this <;> (try split at this) <;> (try split at this) <;> omega
  · obtain ⟨i, hi, rfl⟩ := mem_nth hx
    rw [hlen] at hi
    rw [val i hi]
    exact h.at (by split <;> (try split) <;> omega)
theorem Oc.ord {N : Nat} {g : List Nat} (h : g ∈ ordL (List.range N) (List.range N).length) : Oc N g := by
  obtain ⟨h1, h2, h3⟩ := mem_ordL.mp h
  exact ⟨by simpa using h1, h2, fun x hx => List.mem_range.mp (h3 x hx)⟩
theorem Oc.range (N : Nat) : Oc N (List.range N) := Oc.perm (List.Perm.refl _)
theorem outcomes_w {p : Pot} (hw : Wi rs) (h2 : 2 ≤ rs.length) {best : List Nat} (ho : Oc rs.length best)
    (hq : ∀ (m : M) (gots : List (List Nat)) (q : Pot), IsG rowD m gots → (∀ g ∈ gots, Oc rs.length g) → gots.length ≤ 300 → Q m [q.m]) :
    Mv (m__law_outcomes [p.m, .im (.tup (rs.map rowD)), .im (.tup (best.map nD))]) Q X := by
  have h10 := hw.ten
  have hbl := ho.len
  unfold m__law_outcomes b__law_outcomes
  simp [mv_runF]
  refine Br.intro (c := (rs.length : Int) ≤ 4) (fun h => ?_) fun h => ?_
  · simp
    refine ⟨by omega, ?_⟩
    refine orders_w (lot := List.range rs.length) (by simp; omega) fun m hI => ?_
    simp
    exact hq m _ p hI (fun g hg => Oc.ord hg) (by
      have := ordL4 (lot := List.range rs.length) (by simp; omega) (n := (List.range rs.length).length) (by simp; omega)
      omega)
  · simp
    refine law_draw_w (by omega) (by omega) fun k p hk => ?_
    simp
    refine law_draw_w (by omega) (by omega) fun d p hd => ?_
    have hkN : k < rs.length := by omega
    have hpos : (0 : Int) < rs.length := by omega
    have hmod : ((k : Int) + 1 + (d : Int)) % (rs.length : Int) = ((k + 1 + d) % rs.length : Nat) := by norm_cast
    have hlt : (k + 1 + d) % rs.length < rs.length := Nat.mod_lt _ (by omega)
    generalize (k + 1 + d) % rs.length = j at hmod hlt
    simp [hpos, hmod, hlt, hbl, hkN]
    have hsw := ho.swap hkN hlt
    have hset : ((best.map (M.im ∘ nD)).set k (M.im (D.int ((nth best j : Nat) : Int)))).set j (M.im (D.int ((nth best k : Nat) : Int))) = ((best.set k (nth best j)).set j (nth best k)).map (M.im ∘ nD) := by
      rw [List.map_set, List.map_set]; rfl
    rw [hset]
    generalize (best.set k (nth best j)).set j (nth best k) = other at hsw
    have hol := hsw.len
    refine ⟨by omega, Br.intro (c := (6 < (rs.length : Int))) (fun h6 => ?_) fun h6 => ?_⟩
    · simp
      exact hq _ [best, other] p (IsG.ls rowD [best, other]) (fun g hg => by
        simp at hg
        rcases hg with rfl | rfl <;> assumption) (by simp)
    · simp
      refine ⟨by omega, ?_⟩
      refine shuffled_w (by omega) fun r1 p hr1 => ?_
      simp
      refine shuffled_w (by omega) fun r2 p hr2 => ?_
      simp
      refine law_draw_w (by omega) (by omega) fun r p hr => ?_
      simp
      let L : List (List Nat) := [other, List.range rs.length, r1, r2]
      have hL : ∀ g ∈ L, Oc rs.length g := fun g hg => by
        simp [L] at hg
        rcases hg with rfl | rfl | rfl | rfl
        · exact hsw
        · exact Oc.range _
        · exact Oc.perm hr1
        · exact Oc.perm hr2
      have e9 : ∀ L : List (List Nat), List.take r (L.map (M.im ∘ rowD)) ++ M.im (rowD best) :: List.drop r (L.map (M.im ∘ rowD)) = (L.take r ++ best :: L.drop r).map (M.im ∘ rowD) := fun L => by
        rw [List.map_append, List.map_cons, ← List.map_take, ← List.map_drop]; rfl
      refine ⟨by omega, ?_⟩
      have := hq (.ls ((L.take r ++ best :: L.drop r).map (M.im ∘ rowD))) (L.take r ++ best :: L.drop r) p (IsG.ls rowD _) (fun g hg => by
        rcases List.mem_append.mp hg with hg | hg
        · exact hL g (List.mem_of_mem_take hg)
        · rcases List.mem_cons.mp hg with rfl | hg
          · exact ho
          · exact hL g (List.mem_of_mem_drop hg)) (by simp [L]; omega)
      rw [← e9] at this
      exact this
end
end K88
end
section
set_option Elab.async false
set_option linter.all false
set_option maxRecDepth 100000
open Eng
local macro_rules
  | `(Ev $r $q $x) => `(@Ev _ $r (CQ.mk $q) (CX.mk $x))
  | `(Mv $r $q $x) => `(@Mv $r (CM.mk $q) (CY.mk $x))
  | `(Of $r $q) => `(@Of _ $r (CO.mk $q))
  | `(Br $r $p $q) => `(@Br $r (CP.mk $p) (CP.mk $q))
  | `(NX $s $p $e) => `(@NX _ $e (CN.mk $s $p))
namespace K88
open PySem Eng TTC
def T12 : FS := (sSeq (sFor (gNm 12) (wRng1 (oOf (eBin mulD (oOf (eC (.int 10))) (oOf (eCall intF (aCons (oOf (eOfT (tCmp' leD (oVar 2) (oOf (eC (.int 4)))))) aNil)))))) (sSeq (sSet [] 8 (eCall tupF (aCons (oOf (eCallN 2 [0] m__law_shuffled (aCons (oVar 1) (aCons (oVar 2) aNil)))) aNil))) (sSeq (sSet [] 13 (eIdx (oVar 6) (oOf (eCallN 2 [0] m__law_draw (aCons (oVar 1) (aCons (oOf (eCall lenF (aCons (oVar 6) aNil))) aNil)))))) (sSeq (sSet [] 14 (eCallN 4 [] m__law_blocks (aCons (oVar 5) (aCons (oVar 8) (aCons (oOf (eIdx (oVar 13) (oOf (eC (.int 0))))) (aCons (oOf (eIdx (oVar 13) (oOf (eC (.int 1))))) aNil)))))) (sSeq (sIf (tNotF (tTru' (oOf (eCallN 2 [] (m__law_alike 8) (aCons (oOf (eCallN 5 [] m__law_ask (aCons (oOf (eC (.int 1))) (aCons (oVar 3) (aCons (oVar 8) (aCons (oOf (eIdx (oVar 13) (oOf (eC (.int 0))))) (aCons (oOf (eIdx (oVar 13) (oOf (eC (.int 1))))) aNil))))))) (aCons (oOf (eTup (dCons (eC (.str "told")) (dCons (eVar 14) dNil)))) aNil)))))) (sSeq (sRet (eC (.bl false))) sSkip) sSkip) sSkip))))) (sSeq (sIf (tNotF (tTru' (oOf (eCallN 2 [] (m__law_alike 8) (aCons (oOf (eCallN 1 [] m_swap (aCons (oVar 3) aNil))) (aCons (oVar 4) aNil)))))) (sSeq (sRet (eC (.bl false))) sSkip) sSkip) (sSeq (sFor (gNm 15) (wSeq (eCallN 1 [] m__law_rounds (aCons (oVar 3) aNil))) (sSeq (sIf (tNotF (tTru' (oOf (eCallN 5 [0] m__law_judged (aCons (oVar 1) (aCons (oVar 3) (aCons (oVar 5) (aCons (oVar 4) (aCons (oOf (eCall listF (aCons (oOf (eIdx (oVar 15) (oOf (eC (.int 0))))) aNil))) aNil))))))))) (sSeq (sRet (eC (.bl false))) sSkip) sSkip) sSkip)) (sSeq (sIf (tTru' (oVar 7)) (sSeq (sSet [] 16 (eIdx (oVar 7) (oOf (eCallN 2 [0] m__law_draw (aCons (oVar 1) (aCons (oOf (eCall lenF (aCons (oVar 7) aNil))) aNil)))))) (sSeq (sIf (tNotF (tTru' (oOf (eCallN 5 [0] m__law_judged (aCons (oVar 1) (aCons (oVar 3) (aCons (oVar 5) (aCons (oOf (eIdx (oVar 16) (oOf (eC (.int 0))))) (aCons (oOf (eIdx (oVar 16) (oOf (eC (.int 1))))) aNil))))))))) (sSeq (sRet (eC (.bl false))) sSkip) sSkip) sSkip)) sSkip) (sSeq (sRet (eCallN 4 [0] m__law_wrongs (aCons (oVar 1) (aCons (oVar 3) (aCons (oVar 4) (aCons (oOf (eCall tupF (aCons (oOf (eCall sortedAF (aCons (oOf (eIdx (oOf (eIdx (oOf (eCallN 1 [] m__law_rounds (aCons (oVar 3) aNil))) (oOf (eC (.int 0))))) (oOf (eC (.int 0))))) aNil))) aNil))) aNil)))))) sSkip)))))
def T11 : FS := (sSeq (sFor (gNm 8) (wSeq (eCallN 3 [0] m__law_outcomes (aCons (oVar 1) (aCons (oVar 3) (aCons (oVar 4) aNil))))) (sSeq (sSet [] 9 (eCallN 2 [] m__law_ring (aCons (oVar 5) (aCons (oVar 8) aNil)))) (sSeq (sIf (tCmp' neD (oOf (eOfT (tCmp' isD (oVar 9) (oOf (eC .non))))) (oOf (eOfT (tCmp' eqD (oVar 8) (oVar 4))))) (sSeq (sRet (eC (.bl false))) sSkip) sSkip) (sSeq (sIf (tAndF (tCmp' leD (oVar 2) (oOf (eC (.int 4)))) (tCmp' neD (oOf (eCallN 3 [] m__law_tried (aCons (oVar 5) (aCons (oVar 8) (aCons (oVar 6) aNil))))) (oOf (eOfT (tCmp' isntD (oVar 9) (oOf (eC .non))))))) (sSeq (sRet (eC (.bl false))) sSkip) sSkip) (sSeq (sSet [] 10 (eCallN 5 [] m__law_ask (aCons (oOf (eC (.int 0))) (aCons (oVar 3) (aCons (oVar 8) (aCons (oOf (eTup dNil)) (aCons (oOf (eTup dNil)) aNil))))))) (sSeq (sIf (tCmp' isD (oVar 9) (oOf (eC .non))) (sSeq (sIf (tNotF (tTru' (oOf (eCallN 2 [] (m__law_alike 8) (aCons (oVar 10) (aCons (oOf (eTup (dCons (eC (.str "told")) (dCons (eC .non) dNil)))) aNil)))))) (sSeq (sRet (eC (.bl false))) sSkip) sSkip) sSkip) (sSeq (sExpr (eApp 7 (eTup (dCons (eVar 8) (dCons (eVar 9) dNil))))) (sSeq (sIf (tOrF (tCmp' neD (oOf (eIdx (oVar 10) (oOf (eC (.int 0))))) (oOf (eC (.str "told")))) (tOrF (tNotF (tTru' (oOf (eIsi [.tup] (oOf (eIdx (oVar 10) (oOf (eC (.int 1))))))))) (tCmp' neD (oOf (eCall lenF (aCons (oOf (eIdx (oVar 10) (oOf (eC (.int 1))))) aNil))) (oOf (eC (.int 2)))))) (sSeq (sRet (eC (.bl false))) sSkip) sSkip) (sSeq (sSet [] 11 (eIdx (oVar 10) (oOf (eC (.int 1))))) (sSeq (sIf (tOrF (tNotF (tTru' (oOf (eCallN 2 [] m__law_is_lot (aCons (oOf (eIdx (oVar 11) (oOf (eC (.int 0))))) (aCons (oVar 2) aNil)))))) (tNotF (tTru' (oOf (eCallN 4 [] m__law_blocks (aCons (oVar 5) (aCons (oVar 8) (aCons (oOf (eIdx (oVar 11) (oOf (eC (.int 0))))) (aCons (oOf (eIdx (oVar 11) (oOf (eC (.int 1))))) aNil))))))))) (sSeq (sRet (eC (.bl false))) sSkip) sSkip) (sSeq (sIf (tNotF (tTru' (oOf (eCallN 2 [] (m__law_alike 8) (aCons (oOf (eCallN 5 [] m__law_ask (aCons (oOf (eC (.int 1))) (aCons (oVar 3) (aCons (oVar 8) (aCons (oOf (eIdx (oVar 11) (oOf (eC (.int 0))))) (aCons (oOf (eIdx (oVar 11) (oOf (eC (.int 1))))) aNil))))))) (aCons (oOf (eTup (dCons (eC (.str "told")) (dCons (eC (.bl true)) dNil)))) aNil)))))) (sSeq (sRet (eC (.bl false))) sSkip) sSkip) sSkip)))))) sSkip)))))) T12)
def T5 : FS := (sSeq (sSet [] 3 (eCallN 2 [0] m__law_rows (aCons (oVar 1) (aCons (oVar 2) aNil)))) (sSeq (sSet [] 4 (eCallN 1 [] m__law_outcome (aCons (oVar 3) aNil))) (sSeq (sSet [] 5 (eCmp [17] (wRng1 (oVar 2)) (gNm 17) tYesF (eFrz (eCmp [18] (wRng1 (oVar 2)) (gNm 18) tYesF (eCallN 3 [] m__law_rank (aCons (oVar 3) (aCons (oVar 17) (aCons (oVar 18) aNil)))))))) (sSeq (sSet [] 6 (eLst mNil)) (sSeq (sIf (tCmp' leD (oVar 2) (oOf (eC (.int 4)))) (sSeq (sSet [] 6 (eCallN 1 [] m__law_sharings (aCons (oVar 2) aNil))) sSkip) sSkip) (sSeq (sSet [] 7 (eLst mNil)) T11))))))
theorem split : b_law = (sSeq (sSet [] 1 (eCallN 1 [] m__law_pot (aCons (oVar 0) aNil))) (sSeq (sSet [] 2 (eIdx (oOf (eLst (mCons (eC (.int 2)) (mCons (eC (.int 3)) (mCons (eC (.int 4)) (mCons (eC (.int 3)) (mCons (eC (.int 4)) (mCons (eC (.int 4)) mNil)))))))) (oOf (eCallN 2 [0] m__law_draw (aCons (oVar 1) (aCons (oOf (eC (.int 6))) aNil)))))) (sSeq (sIf (tCmp' eqD (oOf (eCallN 2 [0] m__law_draw (aCons (oVar 1) (aCons (oOf (eC (.int 3))) aNil)))) (oOf (eC (.int 0)))) (sSeq (sSet [] 2 (eBin addD (oOf (eC (.int 5))) (oOf (eCallN 2 [0] m__law_draw (aCons (oVar 1) (aCons (oOf (eC (.int 2))) aNil)))))) sSkip) sSkip) (sSeq (sIf (tCmp' eqD (oOf (eCallN 2 [0] m__law_draw (aCons (oVar 1) (aCons (oOf (eC (.int 12))) aNil)))) (oOf (eC (.int 0)))) (sSeq (sSet [] 2 (eBin addD (oOf (eC (.int 7))) (oOf (eCallN 2 [0] m__law_draw (aCons (oVar 1) (aCons (oOf (eC (.int 4))) aNil)))))) sSkip) sSkip) T5)))) := rfl
def IsK (m : M) (d : D) : Prop := frz m = d ∧ flat m = some d
theorem IsK.im (d : D) : IsK (.im d) d := ⟨by simp, by simp⟩
def rdD (s : List Nat × List Nat) : D := .tup [.tup (s.1.map nD), .lst (s.2.map nD)]
structure Rdk (N : Nat) (s : List Nat × List Nat) : Prop where
  oc : Oc N s.1
  pos : 0 < s.2.length
  nd : s.2.Nodup
  lt : ∀ x ∈ s.2, x < N
theorem shs_len {n : Nat} (hn : n ≤ 4) : (shs n).length ≤ 5000 := by
  have h := flatMap_len (f := fun lot => (ordL lot lot.length).map fun row => (lot, lot.zip row)) (l := subL n) (B := 256) fun lot hl => by
    have := (mem_subL.mp hl).len
    rw [List.length_map]
    exact ordL4 (by omega) (by omega)
  have h2 : (subL n).length ≤ 16 := by
    rw [subL_len]
    have : 2 ^ n ≤ 2 ^ 4 := Nat.pow_le_pow_right (by omega) hn
    omega
  have h3 : (shs n).length ≤ (subL n).length * 256 := h
  omega
theorem shs_pos (n : Nat) : 0 < (shs n).length := by
  refine List.length_pos_of_mem (a := ([], [])) (List.mem_flatMap.mpr ⟨[], mem_subL.mpr ⟨List.Pairwise.nil, by simp⟩, ?_⟩)
  simp [ordL]
theorem rounds_ne {rs : List (List Nat)} : ∀ {n : Nat} {T : List Nat} {R : List (List Nat)}, R ∈ roundsL rs n T → 0 < R.length
  | 0, T, R, h => by simp [roundsL] at h
  | n + 1, T, R, h => by
    unfold roundsL at h
    split at h
    · simp at h
    · rename_i hne
      rcases List.mem_cons.mp h with rfl | h
      · obtain ⟨x, hx, ho⟩ := some_ring (point_in rs T) hne
        have := (mem_rings (point_in rs T)).mpr ⟨hx, ho⟩
        obtain ⟨r, hr, _⟩ := List.mem_flatten.mp this
        exact List.length_pos_of_mem hr
      · exact rounds_ne h
theorem ring_fine {rs : List (List Nat)} {R : List (List Nat)} (hR : R ∈ roundsL rs rs.length (List.range rs.length)) {r : List Nat} (hr : r ∈ R) : 0 < r.length ∧ r.Nodup ∧ ∀ x ∈ r, x < rs.length := by
  obtain ⟨f, s, c, hc, hp, hl, hx⟩ := ring_ok (Th.range rs.length) (by simp) R hR r hr
  have hcp := hc.pos
  refine ⟨by rw [hp, path_len]; omega, by rw [hp]; exact hc.nodup (by omega), fun x h => (hx x h).2.1⟩
theorem rounds_pos {rs : List (List Nat)} (h : 1 ≤ rs.length) : 0 < (roundsL rs rs.length (List.range rs.length)).length := by
  obtain ⟨R, hR, _⟩ := cover (rs := rs) (n := rs.length) (T := List.range rs.length) (by simp) 0 (List.mem_range.mpr (by omega))
  exact List.length_pos_of_mem hR
theorem nodup_of_all {l : List Nat} {N : Nat} (hl : l.length = N) (h : ∀ y, y < N → y ∈ l) : l.Nodup := by
  refine List.pairwise_iff_getElem.mpr fun i j hi hj hij e => ?_
  have hlen : (l.eraseIdx i).length = N - 1 := by rw [List.length_eraseIdx_of_lt hi, hl]
  have := nodup_len (l := List.range N) (T := l.eraseIdx i) List.nodup_range fun y hy => by
    obtain ⟨k, hk, e2⟩ := List.mem_iff_getElem.mp (h y (List.mem_range.mp hy))
    rw [List.mem_eraseIdx_iff_getElem]
    by_cases hki : k = i
    · subst hki
      exact ⟨j, hj, by omega, by rw [← e, e2]⟩
    · exact ⟨k, hk, hki, e2⟩
  rw [List.length_range] at this
  omega
theorem Oc.best {rs : List (List Nat)} (hw : Wi rs) : Oc rs.length (outL rs) := by
  have hlt : ∀ x, x < rs.length → out rs x < rs.length := fun x hx => List.mem_range.mp (outR_mem (List.mem_range.mpr hx) (by simp))
  refine ⟨outL_len rs, nodup_of_all (outL_len rs) fun y hy => ?_, fun x hx => ?_⟩
  · obtain ⟨R, hR, r, hr, hyr⟩ := cover (rs := rs) (n := rs.length) (T := List.range rs.length) (by simp) y (List.mem_range.mpr hy)
    obtain ⟨hl, hn⟩ := ring_next hR hr
    obtain ⟨i, hi, e⟩ := mem_nth hyr
    obtain ⟨j, hj, e2⟩ : ∃ j, j < r.length ∧ (j + 1) % r.length = i := by
      rcases Nat.eq_zero_or_pos i with h0 | h0
      · exact ⟨r.length - 1, by omega, by rw [Nat.sub_add_cancel (by omega), Nat.mod_self, h0]⟩
      · exact ⟨i - 1, by omega, by rw [Nat.sub_add_cancel h0, Nat.mod_eq_of_lt hi]⟩
    obtain ⟨h1, h2⟩ := hn j hj
    rw [e2, e] at h2
    exact List.mem_map.mpr ⟨_, List.mem_range.mpr h1, h2.symm⟩
  · obtain ⟨p, hp, rfl⟩ := List.mem_map.mp hx
    exact hlt p (List.mem_range.mp hp)
section
variable {rs : List (List Nat)} {Q : Fl → Env → Prop} {X : Nat → List D → Env → Prop}
theorem T12_w {z : M} {p : Pot} (hw : Wi rs) (h2 : 2 ≤ rs.length) {m5 : M} (h5 : IsK m5 (ranksD rs rs.length)) {m6 : M} {sh : List (List Nat × List (Nat × Nat))} (h6 : IsG shD m6 sh) (hsh : rs.length ≤ 4 → sh = shs rs.length) {rds : List (List Nat × List Nat)} {m7 : M} (h7 : IsG rdD m7 rds) (hrd : ∀ s ∈ rds, Rdk rs.length s) (hrl : rds.length ≤ 1000)
    (o8 o9 o10 o11 : Option M) (hq : ∀ e, Q (.rt (.im (.bl true))) e) :
    Ev (T12 [some z, some p.m, some (.im (.int (rs.length : Int))), some (.im (.tup (rs.map rowD))), some (.im (.tup ((outL rs).map nD))), some m5, some m6, some m7, o8, o9, o10, o11, none, none, none, none, none, none, none]) Q X := by
  have h10 := hw.ten
  have hb := Oc.best hw
  unfold T12
  let V : Pot → M → M → Option M → Option M → Option M → Option M → Option M → Option M → Option M → Option M → Option M → Env := fun p m5 m6 o8 o9 o10 o11 o12 o13 o14 o15 o16 => [some z, some p.m, some (.im (.int (rs.length : Int))), some (.im (.tup (rs.map rowD))), some (.im (.tup ((outL rs).map nD))), some m5, some m6, some m7, o8, o9, o10, o11, o12, o13, o14, o15, o16, none, none]
  refine ev_seq (fun e => NX (fun s : (Pot × M) × M × (Option M × Option M × Option M × Option M) => V s.1.1 s.1.2 s.2.1 s.2.2.1 o9 o10 o11 s.2.2.2.1 s.2.2.2.2.1 s.2.2.2.2.2 none none) (fun s => IsK s.1.2 (ranksD rs rs.length)) e) ?_ ?_
  · by_cases h4 : rs.length ≤ 4
    · have h4' : (rs.length : Int) ≤ 4 := by omega
      rw [hsh h4] at h6
      have hsl := shs_len h4
      have hsp := shs_pos rs.length
      simp [h4']
      refine ⟨.inl (by decide), ?_⟩
      let S : (Pot × M) × M × (Option M × Option M × Option M × Option M) → Env := fun s => V s.1.1 s.1.2 s.2.1 s.2.2.1 o9 o10 o11 s.2.2.2.1 s.2.2.2.2.1 s.2.2.2.2.2 none none
      refine ev_loop (xs := List.range 10) nD S (fun _ _ s => IsG shD s.2.1 (shs rs.length) ∧ IsK s.1.2 (ranksD rs rs.length)) ((p, m5), m6, o8, none, none, none) (by rfl) rfl ⟨h6, h5⟩ ?_ ?_
      · rintro pre turn post ⟨⟨p, m5⟩, m6, o8, o12, o13, o14⟩ e ⟨h6, h5⟩
        have h6 : IsG shD m6 (shs rs.length) := h6
        have h5 : IsK m5 (ranksD rs rs.length) := h5
        simp [S, V]
        refine shuffled_w (by omega) fun g p hg => ?_
        have hg := Oc.perm hg
        simp [h6.1, h6.2]
        refine law_draw_w (by omega) (by omega) fun i p hi => ?_
        have hi' : i < (shs rs.length).length := by omega
        have hm := mem_shs (nth_mem hi')
        generalize hsi : nth (shs rs.length) i = si at hm
        obtain ⟨lot, ps⟩ := si
        have hl : Lt rs.length lot := hm.1
        have hpl : ps.length ≤ lot.length := hm.2.1
        have hll := hl.len
        have hsp := Spl_ps (ps := ps) (by omega)
        have hb := law_blocks_e (rs := rs) h10 hg hl hsp
        have ha := ask1_e hw hg hl hsp
        simp [hi', h6.1, h6.2, h5.1, h5.2, hsi, shD, hb, ha, alike8 (okTold _)]
        exact NX.mk ((p, _), m6, _, _, _, _) rfl ⟨h6, IsK.im _⟩
      · rintro ⟨⟨p, m5⟩, m6, o8, o12, o13, o14⟩ ⟨h6, h5⟩
        simp
        exact NX.mk ((p, m5), m6, o8, o12, o13, o14) rfl h5
    · have h4' : ¬ (rs.length : Int) ≤ 4 := by omega
      simp [h4']
      refine ⟨.inl (by decide), ?_⟩
      let S : (Pot × M) × M × (Option M × Option M × Option M × Option M) → Env := fun s => V s.1.1 s.1.2 s.2.1 s.2.2.1 o9 o10 o11 s.2.2.2.1 s.2.2.2.2.1 s.2.2.2.2.2 none none
      refine ev_loop (xs := []) nD S (fun _ _ s => IsK s.1.2 (ranksD rs rs.length)) ((p, m5), m6, o8, none, none, none) (by rfl) rfl h5 ?_ ?_
      · rintro pre turn post s e _
        simp at e
      · rintro ⟨⟨p, m5⟩, m6, o8, o12, o13, o14⟩ h5
        simp
        exact NX.mk ((p, m5), m6, o8, o12, o13, o14) rfl h5
  · rintro e ⟨⟨⟨p, m5⟩, m6, o8, o12, o13, o14⟩, rfl, h5⟩
    have h5 : IsK m5 (ranksD rs rs.length) := h5
    have ho := law_rounds_e hw
    have hbl := hb.len
    have hal : m__law_alike 8 [.im (.tup ((outL rs).map nD)), .im (.tup ((outL rs).map nD))] = _ := alike8 (okA_row (n := 6) (r := outL rs) (by omega))
    simp [V, swap_e hw, hal, ho]
    let S : (Pot × M) × Option M → Env := fun s => V s.1.1 s.1.2 m6 o8 o9 o10 o11 o12 o13 o14 s.2 none
    refine ev_loop (xs := roundsL rs rs.length (List.range rs.length)) rowsD S (fun _ _ s => IsK s.1.2 (ranksD rs rs.length)) ((p, m5), none) rfl rfl h5 ?_ ?_
    · rintro pre R post ⟨⟨p, m5⟩, o15⟩ e h5
      have h5 : IsK m5 (ranksD rs rs.length) := h5
      have hR : R ∈ roundsL rs rs.length (List.range rs.length) := by rw [e]; simp
      have hpos := rounds_ne hR
      obtain ⟨f1, f2, f3⟩ := ring_fine hR (nth_mem hpos)
      simp [S, V, hpos, h5.1, h5.2]
      refine judged_w hw hb f1 f2 f3 fun p => ?_
      simp
      exact NX.mk ((p, _), _) rfl (IsK.im _)
    · rintro ⟨⟨p, m5⟩, o15⟩ h5
      have h5 : IsK m5 (ranksD rs rs.length) := h5
      have hpos := rounds_pos (rs := rs) (by omega)
      have hpos2 := rounds_ne (nth_mem hpos)
      obtain ⟨f1, f2, f3⟩ := ring_fine (nth_mem hpos) (nth_mem hpos2)
      have fin : ∀ (p : Pot) (m5 m7 : M) (o16 : Option M), Ev (sSeq (sRet (eCallN 4 [0] m__law_wrongs (aCons (oVar 1) (aCons (oVar 3) (aCons (oVar 4) (aCons (oOf (eCall tupF (aCons (oOf (eCall sortedAF (aCons (oOf (eIdx (oOf (eIdx (oOf (eCallN 1 [] m__law_rounds (aCons (oVar 3) aNil))) (oOf (eC (.int 0))))) (oOf (eC (.int 0))))) aNil))) aNil))) aNil)))))) sSkip [some z, some p.m, some (.im (.int (rs.length : Int))), some (.im (.tup (rs.map rowD))), some (.im (.tup ((outL rs).map nD))), some m5, some m6, some m7, o8, o9, o10, o11, o12, o13, o14, o15, o16, none, none]) Q X := fun p m5 m7 o16 => by
        simp [ho, hpos, hpos2]
        refine wrongs_w hw h2 hb (nats_Lt f2 f3) fun p => ?_
        simp
        exact hq _
      simp [S, V, h7.1, h7.2]
      refine Br.introB (fun hh => ?_) fun hh => ?_
      · refine ev_sSkip.mpr ?_
        exact fin p m5 m7 none
      · have hrp : 0 < rds.length := by
          cases rds with
          | nil => simp at hh
          | cons => simp
        simp [S, V, h7.1, h7.2]
        refine law_draw_w (c := (rds.length : Int)) (by omega) (by omega) fun i p hi => ?_
        have hi' : i < rds.length := by omega
        have hg := hrd _ (nth_mem hi')
        generalize hsi : nth rds i = si at hg
        obtain ⟨g, r⟩ := si
        have hg1 : Oc rs.length g := hg.oc
        simp [h7.1, h7.2, h5.1, h5.2, hi', hsi, rdD]
        refine judged_w hw hg1 hg.pos hg.nd hg.lt fun p => ?_
        simp [ho, hpos, hpos2]
        refine wrongs_w hw h2 hb (nats_Lt f2 f3) fun p => ?_
        simp
        exact hq _
end
end K88
end
section
set_option Elab.async false
set_option linter.all false
set_option maxRecDepth 100000
open Eng
local macro_rules
  | `(Ev $r $q $x) => `(@Ev _ $r (CQ.mk $q) (CX.mk $x))
  | `(Mv $r $q $x) => `(@Mv $r (CM.mk $q) (CY.mk $x))
  | `(Of $r $q) => `(@Of _ $r (CO.mk $q))
  | `(Br $r $p $q) => `(@Br $r (CP.mk $p) (CP.mk $q))
  | `(NX $s $p $e) => `(@NX _ $e (CN.mk $s $p))
namespace K88
open PySem Eng TTC
section
variable {rs : List (List Nat)} {Q : Fl → Env → Prop} {X : Nat → List D → Env → Prop}
theorem best_imp (hw : Wi rs) {got : List Nat} (ho : Oc rs.length got) (h : ¬ Imp rs got rs.length) : got = outL rs := by
  refine Classical.byContradiction fun hne => h ?_
  refine imp_of_ne (n := rs.length) (T := List.range rs.length) (by simp) (fun x hx => List.mem_range.mp hx) (fun y hy => List.mem_range.mpr (ho.at (List.mem_range.mp hy))) (fun a ha b hb e => ?_) ?_
  · exact nth_inj ho.nd (by rw [ho.len]; exact List.mem_range.mp ha) (by rw [ho.len]; exact List.mem_range.mp hb) e
  · refine Classical.byContradiction fun hh => hne (ext_nth (by rw [ho.len, outL_len]) fun x hx => ?_)
    rw [ho.len] at hx
    rw [nth_outL hx]
    exact Classical.byContradiction fun hn => hh ⟨x, List.mem_range.mpr hx, hn⟩
theorem imp_best (hw : Wi rs) {got : List Nat} (h : Imp rs got rs.length) : got ≠ outL rs := fun e => by
  subst e
  exact no_imp rfl (fun x hx => nth_outL hx) h
theorem T11_w {z : M} {p : Pot} (hw : Wi rs) (h2 : 2 ≤ rs.length) {m5 : M} (h5 : IsK m5 (ranksD rs rs.length)) {m6 : M} {sh : List (List Nat × List (Nat × Nat))} (h6 : IsG shD m6 sh) (hsh : rs.length ≤ 4 → sh = shs rs.length)
    (hq : ∀ e, Q (.rt (.im (.bl true))) e) :
    Ev (T11 [some z, some p.m, some (.im (.int (rs.length : Int))), some (.im (.tup (rs.map rowD))), some (.im (.tup ((outL rs).map nD))), some m5, some m6, some (.ls []), none, none, none, none, none, none, none, none, none, none, none]) Q X := by
  have h10 := hw.ten
  have hb := Oc.best hw
  unfold T11
  simp
  refine outcomes_w hw h2 hb fun m gots p hm hgots hgl => ?_
  simp [hm.1, hm.2]
  let S : (M × M) × List (List Nat × List Nat) × (Option M × Option M × Option M × Option M) → Env := fun s => [some z, some p.m, some (.im (.int (rs.length : Int))), some (.im (.tup (rs.map rowD))), some (.im (.tup ((outL rs).map nD))), some s.1.2, some s.1.1, some (.ls (s.2.1.map (M.im ∘ rdD))), s.2.2.1, s.2.2.2.1, s.2.2.2.2.1, s.2.2.2.2.2, none, none, none, none, none, none, none]
  refine ev_loop (xs := gots) rowD S (fun pre _ s => (IsG shD s.1.1 sh ∧ IsK s.1.2 (ranksD rs rs.length)) ∧ s.2.1.length ≤ pre.length ∧ ∀ x ∈ s.2.1, Rdk rs.length x) ((m6, m5), [], (none, none, none, none)) rfl rfl ⟨⟨h6, h5⟩, by simp, by simp⟩ ?_ ?_
  · rintro pre got post ⟨⟨m6, m5⟩, rds, ⟨o8, o9, o10, o11⟩⟩ e ⟨⟨h6, h5⟩, hrl, hrd⟩
    have h6 : IsG shD m6 sh := h6
    have h5 : IsK m5 (ranksD rs rs.length) := h5
    have hrl : rds.length ≤ pre.length := hrl
    have hrd : ∀ x ∈ rds, Rdk rs.length x := hrd
    have ho : Oc rs.length got := hgots got (by rw [e]; simp)
    have hpl : pre.length + 1 ≤ 300 := by
      have := congrArg List.length e
      simp at this; omega
    simp [S, h5.1, h5.2]
    refine ring_w h10 ho (fun hI => ?_) fun k j r hk hs hr => ?_
    · have hbst := best_imp hw ho hI
      subst hbst
      simp
      refine Br.intro (c := (rs.length : Int) ≤ 4) (fun h4 => ?_) (fun h4 => ?_)
      · have h6' := h6
        rw [hsh (by omega)] at h6'
        have ht := tried_e (rs := rs) (show rs.length ≤ 4 by omega) hb
        have hn : ((shs rs.length).any fun s => blkB rs (outL rs) s.1 (.tup (s.2.map pD))) = false := by
          cases hh : (shs rs.length).any fun s => blkB rs (outL rs) s.1 (.tup (s.2.map pD)) with
          | false => rfl
          | true =>
            obtain ⟨s, hs, h⟩ := List.any_eq_true.mp hh
            exact absurd (shs_blk ⟨s, hs, h⟩) hI
        rw [hn] at ht
        simp [h6'.1, h6'.2, ht]
        refine ask0_w hw hb _ _ (fun _ => ?_) (fun lot ps hne _ _ _ _ => absurd rfl hne)
        simp [alike8 okToldN]
        exact NX.mk ((.im (.lst ((shs rs.length).map shD)), .im (ranksD rs rs.length)), rds, (_, _, _, _)) rfl ⟨⟨by rw [hsh (by omega)]; exact IsG.im shD _, IsK.im _⟩, by show rds.length ≤ _; simp; omega, hrd⟩
      · simp
        refine ask0_w hw hb _ _ (fun _ => ?_) (fun lot ps hne _ _ _ _ => absurd rfl hne)
        simp [alike8 okToldN]
        exact NX.mk ((m6, .im (ranksD rs rs.length)), rds, (_, _, _, _)) rfl ⟨⟨h6, IsK.im _⟩, by show rds.length ≤ _; simp; omega, hrd⟩
    · have hI : Imp rs got rs.length := ⟨k, j, hk, hr.st ▸ hr.lt _ (nth_mem hr.pos), hs, hr.rch⟩
      have hbst := imp_best hw hI
      simp [hbst]
      have hrk : Rdk rs.length (got, r) := ⟨ho, hr.pos, hr.nd, hr.lt⟩
      refine Br.intro (c := (rs.length : Int) ≤ 4) (fun h4 => ?_) (fun h4 => ?_)
      · have h6' := h6
        rw [hsh (by omega)] at h6'
        have ht := tried_e (rs := rs) (show rs.length ≤ 4 by omega) ho
        have hn : ((shs rs.length).any fun s => blkB rs got s.1 (.tup (s.2.map pD))) = true := by
          obtain ⟨s, hs, h⟩ := road_shs h10 hr hs
          exact List.any_eq_true.mpr ⟨s, hs, h⟩
        rw [hn] at ht
        simp [h6'.1, h6'.2, ht]
        refine ask0_w hw ho _ _ (fun hh => absurd hh hbst) (fun lot ps hne hl hpl hplt hblk => ?_)
        have hsp := Spl_ps (ps := ps) (by omega)
        have hb := law_blocks_e (rs := rs) h10 ho hl hsp
        have ha := ask1_e hw ho hl hsp
        rw [hblk] at hb ha
        simp
        refine ⟨by omega, ?_⟩
        simp [is_lot_e h10 hl, hb, ha, alike8 (okTold _)]
        exact NX.mk ((.im (.lst ((shs rs.length).map shD)), .im (ranksD rs rs.length)), rds ++ [(got, r)], (_, _, _, _)) (by simp [S, rdD]; exact ⟨rfl, rfl, rfl, rfl⟩) ⟨⟨by rw [hsh (by omega)]; exact IsG.im shD _, IsK.im _⟩, by show (rds ++ [(got, r)]).length ≤ _; simp; omega, fun x hx => by
          rcases List.mem_append.mp hx with hx | hx
          · exact hrd x hx
          · simp at hx; subst hx; exact hrk⟩
      · simp
        refine ask0_w hw ho _ _ (fun hh => absurd hh hbst) (fun lot ps hne hl hpl hplt hblk => ?_)
        have hsp := Spl_ps (ps := ps) (by omega)
        have hb := law_blocks_e (rs := rs) h10 ho hl hsp
        have ha := ask1_e hw ho hl hsp
        rw [hblk] at hb ha
        simp
        refine ⟨by omega, ?_⟩
        simp [is_lot_e h10 hl, hb, ha, alike8 (okTold _)]
        exact NX.mk ((m6, .im (ranksD rs rs.length)), rds ++ [(got, r)], (_, _, _, _)) (by simp [S, rdD]; exact ⟨rfl, rfl, rfl, rfl⟩) ⟨⟨h6, IsK.im _⟩, by show (rds ++ [(got, r)]).length ≤ _; simp; omega, fun x hx => by
          rcases List.mem_append.mp hx with hx | hx
          · exact hrd x hx
          · simp at hx; subst hx; exact hrk⟩
  · rintro ⟨⟨m6, m5⟩, rds, ⟨o8, o9, o10, o11⟩⟩ ⟨⟨h6, h5⟩, hrl, hrd⟩
    have hrl : rds.length ≤ gots.length := hrl
    simp [S]
    exact T12_w hw h2 h5 h6 hsh (IsG.ls rdD rds) hrd (by omega) _ _ _ _ hq
end
end K88
end
section
set_option Elab.async false
set_option linter.all false
set_option maxRecDepth 100000
open Eng
local macro_rules
  | `(Ev $r $q $x) => `(@Ev _ $r (CQ.mk $q) (CX.mk $x))
  | `(Mv $r $q $x) => `(@Mv $r (CM.mk $q) (CY.mk $x))
  | `(Of $r $q) => `(@Of _ $r (CO.mk $q))
  | `(Br $r $p $q) => `(@Br $r (CP.mk $p) (CP.mk $q))
  | `(NX $s $p $e) => `(@NX _ $e (CN.mk $s $p))
namespace K88
open PySem Eng TTC
section
variable {Q : Fl → Env → Prop} {X : Nat → List D → Env → Prop}
theorem T5_w {z : M} {p : Pot} {n : Nat} (h2 : 2 ≤ n) (h10 : n ≤ 10) (hq : ∀ e, Q (.rt (.im (.bl true))) e) :
    Ev (T5 [some z, some p.m, some (.im (.int (n : Int))), none, none, none, none, none, none, none, none, none, none, none, none, none, none, none, none]) Q X := by
  unfold T5
  simp
  refine rows_w (by omega) h10 fun rs p hw hn => ?_
  subst hn
  have hob : m__law_outcome [.im (.tup (rs.map rowD))] = .ok (.im (.tup ((outL rs).map nD)), []) := law_outcome_e hw
  simp [hob]
  refine ⟨by omega, ?_⟩
  refine ev_cmp nD (fun _ => true) (M.im ∘ rkD rs rs.length) (xs := List.range rs.length) rfl (by simp; omega) (fun k hk => ?_) ?_
  · have hk : k < rs.length := List.mem_range.mp hk
    simp
    refine ⟨by omega, ?_⟩
    refine ev_cmp nD (fun _ => true) (M.im ∘ (nD ∘ fun j => rank rs k j)) (xs := List.range rs.length) rfl (by simp; omega) (fun j hj => ?_) ?_
    · simp [law_rank_e hw hk]
    · simp [rkD, Function.comp_def]
  · simp
    have h5 : IsK (M.ls (List.map (M.im ∘ rkD rs rs.length) (List.range rs.length))) (ranksD rs rs.length) := ⟨by simp [ranksD], by simp [ranksD]⟩
    refine Br.intro (c := (rs.length : Int) ≤ 4) (fun h4 => ?_) (fun h4 => ?_)
    · simp [sharings_e (n := rs.length) (by omega)]
      exact T11_w hw h2 h5 (IsG.ls shD _) (fun _ => rfl) hq
    · simp
      exact T11_w hw h2 h5 (IsG.ls shD []) (fun h => absurd h (by omega)) hq
end
theorem law_w {ns : List Int} : Mv (m_law [.im (.scr ns)]) (fun m o => m = .im (.bl true) ∧ o = []) (fun _ _ => False) := by
  unfold m_law
  rw [split]
  simp [mv_runF]
  refine law_pot_w fun p => ?_
  simp
  refine law_draw_w (by omega) (by omega) fun r p hr => ?_
  simp
  have hn : ∃ n : Nat, nth [D.int 2, D.int 3, D.int 4, D.int 3, D.int 4, D.int 4] r = .int (n : Int) ∧ 2 ≤ n ∧ n ≤ 10 := by
    have hh : r = 0 ∨ r = 1 ∨ r = 2 ∨ r = 3 ∨ r = 4 ∨ r = 5 := by omega
    rcases hh with rfl | rfl | rfl | rfl | rfl | rfl
    · exact ⟨2, rfl, by omega, by omega⟩
    · exact ⟨3, rfl, by omega, by omega⟩
    · exact ⟨4, rfl, by omega, by omega⟩
    · exact ⟨3, rfl, by omega, by omega⟩
    · exact ⟨4, rfl, by omega, by omega⟩
    · exact ⟨4, rfl, by omega, by omega⟩
  obtain ⟨n, hn, n2, n10⟩ := hn
  refine ⟨by omega, ?_⟩
  rw [hn]
  have fin : ∀ (p : Pot) (n : Nat), 2 ≤ n → n ≤ 10 → Ev (T5 [some (.im (.scr ns)), some p.m, some (.im (.int (n : Int))), none, none, none, none, none, none, none, none, none, none, none, none, none, none, none, none]) (fun fl e => RQ [] fl e fun m o => m = .im (.bl true) ∧ o = []) (fun _ _ _ => False) := fun p n h1 h2 => T5_w h1 h2 (by simp)
  have c5 : ∀ x : Nat, (5 : Int) + (x : Int) = ((5 + x : Nat) : Int) := fun x => by omega
  have c7 : ∀ x : Nat, (7 : Int) + (x : Int) = ((7 + x : Nat) : Int) := fun x => by omega
  refine law_draw_w (by omega) (by omega) fun a p ha => ?_
  simp
  refine Br.intro (c := a = 0) (fun h => ?_) (fun h => ?_)
  · simp
    refine law_draw_w (by omega) (by omega) fun x p hx => ?_
    simp
    refine law_draw_w (by omega) (by omega) fun b p hb => ?_
    simp
    refine Br.intro (c := b = 0) (fun h => ?_) (fun h => ?_)
    · simp
      refine law_draw_w (by omega) (by omega) fun y p hy => ?_
      simp
      rw [c7]
      exact fin p _ (by omega) (by omega)
    · simp
      rw [c5]
      exact fin p _ (by omega) (by omega)
  · simp
    refine law_draw_w (by omega) (by omega) fun b p hb => ?_
    simp
    refine Br.intro (c := b = 0) (fun h => ?_) (fun h => ?_)
    · simp
      refine law_draw_w (by omega) (by omega) fun y p hy => ?_
      simp
      rw [c7]
      exact fin p _ (by omega) (by omega)
    · simp
      exact fin p _ (by omega) (by omega)
end K88
end
section
set_option Elab.async false
set_option linter.all false
set_option maxRecDepth 100000
set_option maxHeartbeats 4000000
namespace K88
open PySem Eng
open L2 (FnScope Fun defScope Binds takes0)
section
variable {P : Program} {w : World} {K : PySem.W.Frag} {mg : Str → Option Value} {base : Heap}
theorem all_ok (T : Txt K mg) : Fn P w mg base T.G 11 T.a_law T.d_law ["script"] [] m_law := by
  have h__law_alike := ok__law_alike (P := P) (w := w) (base := base) T 8
  have h__law_error := ok__law_error (P := P) (w := w) (base := base) T
  have h_liked := ok_liked (P := P) (w := w) (base := base) T
  have h_pointed := ok_pointed (P := P) (w := w) (base := base) T h_liked
  have h_ring_from := ok_ring_from (P := P) (w := w) (base := base) T
  have h_rings_of := ok_rings_of (P := P) (w := w) (base := base) T h_ring_from
  have h_all_rounds := ok_all_rounds (P := P) (w := w) (base := base) T h_pointed h_rings_of
  have h_is_integer := ok_is_integer (P := P) (w := w) (base := base) T
  have h_is_from_to := ok_is_from_to (P := P) (w := w) (base := base) T h_is_integer
  have h_are_things := ok_are_things (P := P) (w := w) (base := base) T h_is_from_to
  have h_is_wishes := ok_is_wishes (P := P) (w := w) (base := base) T h_are_things
  have h_check_wishes := ok_check_wishes (P := P) (w := w) (base := base) T h_is_wishes
  have h_is_outcome := ok_is_outcome (P := P) (w := w) (base := base) T h_are_things
  have h_check_outcome := ok_check_outcome (P := P) (w := w) (base := base) T h_check_wishes h_is_outcome
  have h_shared_in := ok_shared_in (P := P) (w := w) (base := base) T
  have h_blocking_lot := ok_blocking_lot (P := P) (w := w) (base := base) T h_all_rounds h_check_outcome h_shared_in
  have h_rises := ok_rises (P := P) (w := w) (base := base) T h_is_from_to
  have h_is_rising := ok_is_rising (P := P) (w := w) (base := base) T h_rises
  have h_is_pair := ok_is_pair (P := P) (w := w) (base := base) T
  have h_is_sharing := ok_is_sharing (P := P) (w := w) (base := base) T h_is_from_to h_is_pair
  have h_place_for := ok_place_for (P := P) (w := w) (base := base) T h_liked
  have h_likes_better := ok_likes_better (P := P) (w := w) (base := base) T h_place_for
  have h_blocks := ok_blocks (P := P) (w := w) (base := base) T h_check_outcome h_is_rising h_is_sharing h_likes_better
  have h__law_ask := ok__law_ask (P := P) (w := w) (base := base) T h__law_error h_blocking_lot h_blocks
  have h__law_is_number := ok__law_is_number (P := P) (w := w) (base := base) T
  have h__law_blocks := ok__law_blocks (P := P) (w := w) (base := base) T h__law_is_number
  have h__law_stir := ok__law_stir (P := P) (w := w) (base := base) T
  have h__law_draw := ok__law_draw (P := P) (w := w) (base := base) T h__law_stir
  have h__law_is_lot := ok__law_is_lot (P := P) (w := w) (base := base) T h__law_is_number
  have h__law_pairs_of := ok__law_pairs_of (P := P) (w := w) (base := base) T
  have h__law_spoilt := ok__law_spoilt (P := P) (w := w) (base := base) T h__law_draw
  have h__law_judged := ok__law_judged (P := P) (w := w) (base := base) T h__law_alike h__law_ask h__law_blocks h__law_draw h__law_pairs_of h__law_spoilt
  have h__law_rounds := ok__law_rounds (P := P) (w := w) (base := base) T
  have h__law_outcome := ok__law_outcome (P := P) (w := w) (base := base) T h__law_rounds
  have h__law_orders := ok__law_orders (P := P) (w := w) (base := base) T
  have h__law_shuffled := ok__law_shuffled (P := P) (w := w) (base := base) T h__law_draw
  have h__law_outcomes := ok__law_outcomes (P := P) (w := w) (base := base) T h__law_draw h__law_orders h__law_shuffled
  have h__law_pot := ok__law_pot (P := P) (w := w) (base := base) T h__law_stir
  have h__law_rank := ok__law_rank (P := P) (w := w) (base := base) T
  have h__law_back := ok__law_back (P := P) (w := w) (base := base) T
  have h__law_ring := ok__law_ring (P := P) (w := w) (base := base) T h__law_back
  have h__law_rows := ok__law_rows (P := P) (w := w) (base := base) T h__law_draw h__law_shuffled
  have h__law_sharings := ok__law_sharings (P := P) (w := w) (base := base) T h__law_orders
  have h__law_tried := ok__law_tried (P := P) (w := w) (base := base) T h__law_blocks
  have h__law_wrongs := ok__law_wrongs (P := P) (w := w) (base := base) T h__law_alike h__law_ask h__law_draw
  have h_swapped := ok_swapped (P := P) (w := w) (base := base) T h_all_rounds h_shared_in
  have h_swap := ok_swap (P := P) (w := w) (base := base) T h_check_wishes h_swapped
  have h_law := ok_law (P := P) (w := w) (base := base) T h__law_alike h__law_ask h__law_blocks h__law_draw h__law_is_lot h__law_judged h__law_outcome h__law_outcomes h__law_pot h__law_rank h__law_ring h__law_rounds h__law_rows h__law_sharings h__law_shuffled h__law_tried h__law_wrongs h_swap
  exact h_law
end
def fa : List He.Fa := [.glo "is_integer", .glo "is_from_to", .glo "rises", .glo "is_rising", .glo "is_pair", .glo "are_things", .glo "is_wishes", .glo "check_wishes", .glo "is_outcome", .glo "check_outcome", .glo "liked", .glo "place_for", .glo "likes_better", .glo "pointed", .glo "ring_from", .glo "rings_of", .glo "all_rounds", .glo "shared_in", .glo "swapped", .glo "swap", .glo "is_sharing", .glo "blocks", .glo "blocking_lot", .glo "_law_stir", .glo "_law_pot", .glo "_law_draw", .glo "_law_alike", .glo "_law_error", .glo "_law_shuffled", .glo "_law_rows", .glo "_law_rounds", .glo "_law_outcome", .glo "_law_rank", .glo "_law_ask", .glo "_law_is_number", .glo "_law_is_lot", .glo "_law_blocks", .glo "_law_back", .glo "_law_ring", .glo "_law_pairs_of", .glo "_law_orders", .glo "_law_sharings", .glo "_law_spoilt", .glo "_law_judged", .glo "_law_wrongs", .glo "_law_outcomes", .glo "_law_tried", .glo "law", .glo "HandError", .glo "InvalidNumber", .glo "InvalidLot", .glo "InvalidTable", .glo "TooMany", .free "all", .free "any", .free "bool", .free "int", .free "isinstance", .free "len", .free "list", .free "max", .free "min", .free "range", .free "repr", .free "set", .free "sorted", .free "str", .free "tuple", .free "zip", .int "MOST_PERSONS" 10]
abbrev i_InvalidLot : Stmt := L2.inClass (top 3) 0
theorem Si_InvalidLot : FnScope ["self", "value"] ["self", "value"] (defScope i_InvalidLot) := ⟨rfl, rfl, rfl, by decide +kernel, rfl, by decide +kernel, by decide +kernel⟩
abbrev i_InvalidTable : Stmt := L2.inClass (top 4) 0
theorem Si_InvalidTable : FnScope ["self", "value"] ["self", "value"] (defScope i_InvalidTable) := ⟨rfl, rfl, rfl, by decide +kernel, rfl, by decide +kernel, by decide +kernel⟩
def fn : List He.DefD := [⟨("is_integer", none), "is_integer", "is_integer", L2.defArgs (top 7), L2.defBody (top 7), defScope (top 7), [], []⟩,
  ⟨("is_from_to", none), "is_from_to", "is_from_to", L2.defArgs (top 8), L2.defBody (top 8), defScope (top 8), [], []⟩,
  ⟨("rises", none), "rises", "rises", L2.defArgs (top 9), L2.defBody (top 9), defScope (top 9), [], []⟩,
  ⟨("is_rising", none), "is_rising", "is_rising", L2.defArgs (top 10), L2.defBody (top 10), defScope (top 10), [], []⟩,
  ⟨("is_pair", none), "is_pair", "is_pair", L2.defArgs (top 12), L2.defBody (top 12), defScope (top 12), [], []⟩,
  ⟨("are_things", none), "are_things", "are_things", L2.defArgs (top 15), L2.defBody (top 15), defScope (top 15), [], []⟩,
  ⟨("is_wishes", none), "is_wishes", "is_wishes", L2.defArgs (top 16), L2.defBody (top 16), defScope (top 16), [], []⟩,
  ⟨("check_wishes", none), "check_wishes", "check_wishes", L2.defArgs (top 17), L2.defBody (top 17), defScope (top 17), [], []⟩,
  ⟨("is_outcome", none), "is_outcome", "is_outcome", L2.defArgs (top 18), L2.defBody (top 18), defScope (top 18), [], []⟩,
  ⟨("check_outcome", none), "check_outcome", "check_outcome", L2.defArgs (top 19), L2.defBody (top 19), defScope (top 19), [], []⟩,
  ⟨("liked", none), "liked", "liked", L2.defArgs (top 20), L2.defBody (top 20), defScope (top 20), [], []⟩,
  ⟨("place_for", none), "place_for", "place_for", L2.defArgs (top 21), L2.defBody (top 21), defScope (top 21), [], []⟩,
  ⟨("likes_better", none), "likes_better", "likes_better", L2.defArgs (top 22), L2.defBody (top 22), defScope (top 22), [], []⟩,
  ⟨("pointed", none), "pointed", "pointed", L2.defArgs (top 23), L2.defBody (top 23), defScope (top 23), [], []⟩,
  ⟨("ring_from", none), "ring_from", "ring_from", L2.defArgs (top 24), L2.defBody (top 24), defScope (top 24), [], []⟩,
  ⟨("rings_of", none), "rings_of", "rings_of", L2.defArgs (top 25), L2.defBody (top 25), defScope (top 25), [], []⟩,
  ⟨("all_rounds", none), "all_rounds", "all_rounds", L2.defArgs (top 26), L2.defBody (top 26), defScope (top 26), [], []⟩,
  ⟨("shared_in", none), "shared_in", "shared_in", L2.defArgs (top 27), L2.defBody (top 27), defScope (top 27), [], []⟩,
  ⟨("swapped", none), "swapped", "swapped", L2.defArgs (top 28), L2.defBody (top 28), defScope (top 28), [], []⟩,
  ⟨("swap", none), "swap", "swap", L2.defArgs (top 29), L2.defBody (top 29), defScope (top 29), [], []⟩,
  ⟨("is_sharing", none), "is_sharing", "is_sharing", L2.defArgs (top 30), L2.defBody (top 30), defScope (top 30), [], []⟩,
  ⟨("blocks", none), "blocks", "blocks", L2.defArgs (top 31), L2.defBody (top 31), defScope (top 31), [], []⟩,
  ⟨("blocking_lot", none), "blocking_lot", "blocking_lot", L2.defArgs (top 32), L2.defBody (top 32), defScope (top 32), [], []⟩,
  ⟨("_law_stir", none), "_law_stir", "_law_stir", L2.defArgs (top 34), L2.defBody (top 34), defScope (top 34), [], []⟩,
  ⟨("_law_pot", none), "_law_pot", "_law_pot", L2.defArgs (top 35), L2.defBody (top 35), defScope (top 35), [], []⟩,
  ⟨("_law_draw", none), "_law_draw", "_law_draw", L2.defArgs (top 36), L2.defBody (top 36), defScope (top 36), [], []⟩,
  ⟨("_law_alike", none), "_law_alike", "_law_alike", L2.defArgs (top 37), L2.defBody (top 37), defScope (top 37), [], []⟩,
  ⟨("_law_error", none), "_law_error", "_law_error", L2.defArgs (top 38), L2.defBody (top 38), defScope (top 38), [], []⟩,
  ⟨("_law_shuffled", none), "_law_shuffled", "_law_shuffled", L2.defArgs (top 39), L2.defBody (top 39), defScope (top 39), [], []⟩,
  ⟨("_law_rows", none), "_law_rows", "_law_rows", L2.defArgs (top 40), L2.defBody (top 40), defScope (top 40), [], []⟩,
  ⟨("_law_rounds", none), "_law_rounds", "_law_rounds", L2.defArgs (top 41), L2.defBody (top 41), defScope (top 41), [], []⟩,
  ⟨("_law_outcome", none), "_law_outcome", "_law_outcome", L2.defArgs (top 42), L2.defBody (top 42), defScope (top 42), [], []⟩,
  ⟨("_law_rank", none), "_law_rank", "_law_rank", L2.defArgs (top 43), L2.defBody (top 43), defScope (top 43), [], []⟩,
  ⟨("_law_ask", none), "_law_ask", "_law_ask", L2.defArgs (top 44), L2.defBody (top 44), defScope (top 44), [], []⟩,
  ⟨("_law_is_number", none), "_law_is_number", "_law_is_number", L2.defArgs (top 45), L2.defBody (top 45), defScope (top 45), [], []⟩,
  ⟨("_law_is_lot", none), "_law_is_lot", "_law_is_lot", L2.defArgs (top 46), L2.defBody (top 46), defScope (top 46), [], []⟩,
  ⟨("_law_blocks", none), "_law_blocks", "_law_blocks", L2.defArgs (top 47), L2.defBody (top 47), defScope (top 47), [], []⟩,
  ⟨("_law_back", none), "_law_back", "_law_back", L2.defArgs (top 48), L2.defBody (top 48), defScope (top 48), [], []⟩,
  ⟨("_law_ring", none), "_law_ring", "_law_ring", L2.defArgs (top 49), L2.defBody (top 49), defScope (top 49), [], []⟩,
  ⟨("_law_pairs_of", none), "_law_pairs_of", "_law_pairs_of", L2.defArgs (top 50), L2.defBody (top 50), defScope (top 50), [], []⟩,
  ⟨("_law_orders", none), "_law_orders", "_law_orders", L2.defArgs (top 51), L2.defBody (top 51), defScope (top 51), [], []⟩,
  ⟨("_law_sharings", none), "_law_sharings", "_law_sharings", L2.defArgs (top 52), L2.defBody (top 52), defScope (top 52), [], []⟩,
  ⟨("_law_spoilt", none), "_law_spoilt", "_law_spoilt", L2.defArgs (top 53), L2.defBody (top 53), defScope (top 53), [], []⟩,
  ⟨("_law_judged", none), "_law_judged", "_law_judged", L2.defArgs (top 54), L2.defBody (top 54), defScope (top 54), [], []⟩,
  ⟨("_law_wrongs", none), "_law_wrongs", "_law_wrongs", L2.defArgs (top 55), L2.defBody (top 55), defScope (top 55), [], []⟩,
  ⟨("_law_outcomes", none), "_law_outcomes", "_law_outcomes", L2.defArgs (top 56), L2.defBody (top 56), defScope (top 56), [], []⟩,
  ⟨("_law_tried", none), "_law_tried", "_law_tried", L2.defArgs (top 57), L2.defBody (top 57), defScope (top 57), [], []⟩,
  ⟨("law", none), "law", "law", L2.defArgs (top 58), L2.defBody (top 58), defScope (top 58), [], []⟩,
  ⟨("InvalidLot", some "__init__"), "__init__", "InvalidLot.__init__", L2.defArgs i_InvalidLot, L2.defBody i_InvalidLot, defScope i_InvalidLot, [], []⟩,
  ⟨("InvalidTable", some "__init__"), "__init__", "InvalidTable.__init__", L2.defArgs i_InvalidTable, L2.defBody i_InvalidTable, defScope i_InvalidTable, [], []⟩]
def clsL (K : PySem.W.Frag) : List Addr := [He.ga K "HandError", He.ga K "InvalidNumber", He.ga K "InvalidLot", He.ga K "InvalidTable", He.ga K "TooMany"]
def ex (K : PySem.W.Frag) : Bool := ecsB K (clsL K) fldT subT && (exmB K (clsL K) subT 0 && (oexB K (He.ga K "InvalidLot") && (iniB K (He.ga K "InvalidLot") (He.ma K (He.ga K "InvalidLot") "__init__") && (oexB K (He.ga K "InvalidTable") && (iniB K (He.ga K "InvalidTable") (He.ma K (He.ga K "InvalidTable") "__init__"))))))
theorem txt_of {K : PySem.W.Frag} {h : Heap} {mg : Str → Option Value} (X : K.In h) (G : h.Ns mainGlobals mg) (c : He.SaysD fa fn K) (e : ex K = true) : ∃ T : Txt K mg, T.a_law = He.ga K "law" := by
  obtain ⟨e0, e⟩ := an2 e
  obtain ⟨e1, e⟩ := an2 e
  obtain ⟨e2, e⟩ := an2 e
  obtain ⟨e3, e⟩ := an2 e
  obtain ⟨e4, e⟩ := an2 e
  have e5 := e
  obtain ⟨d0, F0⟩ := c.def_ 0 rfl
  obtain ⟨d1, F1⟩ := c.def_ 1 rfl
  obtain ⟨d2, F2⟩ := c.def_ 2 rfl
  obtain ⟨d3, F3⟩ := c.def_ 3 rfl
  obtain ⟨d4, F4⟩ := c.def_ 4 rfl
  obtain ⟨d5, F5⟩ := c.def_ 5 rfl
  obtain ⟨d6, F6⟩ := c.def_ 6 rfl
  obtain ⟨d7, F7⟩ := c.def_ 7 rfl
  obtain ⟨d8, F8⟩ := c.def_ 8 rfl
  obtain ⟨d9, F9⟩ := c.def_ 9 rfl
  obtain ⟨d10, F10⟩ := c.def_ 10 rfl
  obtain ⟨d11, F11⟩ := c.def_ 11 rfl
  obtain ⟨d12, F12⟩ := c.def_ 12 rfl
  obtain ⟨d13, F13⟩ := c.def_ 13 rfl
  obtain ⟨d14, F14⟩ := c.def_ 14 rfl
  obtain ⟨d15, F15⟩ := c.def_ 15 rfl
  obtain ⟨d16, F16⟩ := c.def_ 16 rfl
  obtain ⟨d17, F17⟩ := c.def_ 17 rfl
  obtain ⟨d18, F18⟩ := c.def_ 18 rfl
  obtain ⟨d19, F19⟩ := c.def_ 19 rfl
  obtain ⟨d20, F20⟩ := c.def_ 20 rfl
  obtain ⟨d21, F21⟩ := c.def_ 21 rfl
  obtain ⟨d22, F22⟩ := c.def_ 22 rfl
  obtain ⟨d23, F23⟩ := c.def_ 23 rfl
  obtain ⟨d24, F24⟩ := c.def_ 24 rfl
  obtain ⟨d25, F25⟩ := c.def_ 25 rfl
  obtain ⟨d26, F26⟩ := c.def_ 26 rfl
  obtain ⟨d27, F27⟩ := c.def_ 27 rfl
  obtain ⟨d28, F28⟩ := c.def_ 28 rfl
  obtain ⟨d29, F29⟩ := c.def_ 29 rfl
  obtain ⟨d30, F30⟩ := c.def_ 30 rfl
  obtain ⟨d31, F31⟩ := c.def_ 31 rfl
  obtain ⟨d32, F32⟩ := c.def_ 32 rfl
  obtain ⟨d33, F33⟩ := c.def_ 33 rfl
  obtain ⟨d34, F34⟩ := c.def_ 34 rfl
  obtain ⟨d35, F35⟩ := c.def_ 35 rfl
  obtain ⟨d36, F36⟩ := c.def_ 36 rfl
  obtain ⟨d37, F37⟩ := c.def_ 37 rfl
  obtain ⟨d38, F38⟩ := c.def_ 38 rfl
  obtain ⟨d39, F39⟩ := c.def_ 39 rfl
  obtain ⟨d40, F40⟩ := c.def_ 40 rfl
  obtain ⟨d41, F41⟩ := c.def_ 41 rfl
  obtain ⟨d42, F42⟩ := c.def_ 42 rfl
  obtain ⟨d43, F43⟩ := c.def_ 43 rfl
  obtain ⟨d44, F44⟩ := c.def_ 44 rfl
  obtain ⟨d45, F45⟩ := c.def_ 45 rfl
  obtain ⟨d46, F46⟩ := c.def_ 46 rfl
  obtain ⟨d47, F47⟩ := c.def_ 47 rfl
  obtain ⟨d48, F48⟩ := c.def_ 48 rfl
  obtain ⟨d49, F49⟩ := c.def_ 49 rfl
  have ecs : ECs ⟨K, fun i => (clsL K).getD i 0, fldT⟩ 5 subT := ecs_of (cls := clsL K) e0
  exact ⟨{
    cls := fun i => (clsL K).getD i 0
    n_all := He.free_ok X G (c.fact 53 rfl)
    n_any := He.free_ok X G (c.fact 54 rfl)
    n_bool := He.free_ok X G (c.fact 55 rfl)
    n_int := He.free_ok X G (c.fact 56 rfl)
    n_isinstance := He.free_ok X G (c.fact 57 rfl)
    n_len := He.free_ok X G (c.fact 58 rfl)
    n_list := He.free_ok X G (c.fact 59 rfl)
    n_max := He.free_ok X G (c.fact 60 rfl)
    n_min := He.free_ok X G (c.fact 61 rfl)
    n_range := He.free_ok X G (c.fact 62 rfl)
    n_repr := He.free_ok X G (c.fact 63 rfl)
    n_set := He.free_ok X G (c.fact 64 rfl)
    n_sorted := He.free_ok X G (c.fact 65 rfl)
    n_str := He.free_ok X G (c.fact 66 rfl)
    n_tuple := He.free_ok X G (c.fact 67 rfl)
    n_zip := He.free_ok X G (c.fact 68 rfl)
    c_MOST_PERSONS := He.int_ok X G (c.fact 69 rfl)
    g_HandError := He.glo_ok X G (c.fact 48 rfl)
    g_InvalidNumber := He.glo_ok X G (c.fact 49 rfl)
    g_InvalidLot := He.glo_ok X G (c.fact 50 rfl)
    g_InvalidTable := He.glo_ok X G (c.fact 51 rfl)
    g_TooMany := He.glo_ok X G (c.fact 52 rfl)
    ecs := ecs
    exm_HandError := exm_of (cls := clsL K) e1
    x_InvalidLot := fun P w base => ⟨oex_of e2, _, d48, ["self", "value"], of_decide_eq_true (an2 e3).1, of_decide_eq_true (an2 e3).2, init1 (fun_of (st := i_InvalidLot) F48) Si_InvalidLot (oex_of e2) (ecs.no 2 (by decide) "value" (by show ("value" : Str) ∈ fldT 2; decide +kernel)) rfl rfl ⟨_, _, _, _, rfl⟩, F48.bindsN fun _ _ _ _ _ _ us hl => match us, hl with | [_, _], _ => rfl⟩
    x_InvalidTable := fun P w base => ⟨oex_of e4, _, d49, ["self", "value"], of_decide_eq_true (an2 e5).1, of_decide_eq_true (an2 e5).2, init1 (fun_of (st := i_InvalidTable) F49) Si_InvalidTable (oex_of e4) (ecs.no 3 (by decide) "value" (by show ("value" : Str) ∈ fldT 3; decide +kernel)) rfl rfl ⟨_, _, _, _, rfl⟩, F49.bindsN fun _ _ _ _ _ _ us hl => match us, hl with | [_, _], _ => rfl⟩
    a_is_integer := _
    d_is_integer := d0
    F_is_integer := fun_of F0
    g_is_integer := He.glo_ok X G (c.fact 0 rfl)
    k_is_integer := F0.kp
    b_is_integer := F0.bindsN fun _ _ _ _ _ _ us hl => match us, hl with | [_], _ => rfl
    a_is_from_to := _
    d_is_from_to := d1
    F_is_from_to := fun_of F1
    g_is_from_to := He.glo_ok X G (c.fact 1 rfl)
    k_is_from_to := F1.kp
    b_is_from_to := F1.bindsN fun _ _ _ _ _ _ us hl => match us, hl with | [_, _, _], _ => rfl
    a_rises := _
    d_rises := d2
    F_rises := fun_of F2
    g_rises := He.glo_ok X G (c.fact 2 rfl)
    k_rises := F2.kp
    b_rises := F2.bindsN fun _ _ _ _ _ _ us hl => match us, hl with | [_, _], _ => rfl
    a_is_rising := _
    d_is_rising := d3
    F_is_rising := fun_of F3
    g_is_rising := He.glo_ok X G (c.fact 3 rfl)
    k_is_rising := F3.kp
    b_is_rising := F3.bindsN fun _ _ _ _ _ _ us hl => match us, hl with | [_, _], _ => rfl
    a_is_pair := _
    d_is_pair := d4
    F_is_pair := fun_of F4
    g_is_pair := He.glo_ok X G (c.fact 4 rfl)
    k_is_pair := F4.kp
    b_is_pair := F4.bindsN fun _ _ _ _ _ _ us hl => match us, hl with | [_], _ => rfl
    a_are_things := _
    d_are_things := d5
    F_are_things := fun_of F5
    g_are_things := He.glo_ok X G (c.fact 5 rfl)
    k_are_things := F5.kp
    b_are_things := F5.bindsN fun _ _ _ _ _ _ us hl => match us, hl with | [_, _], _ => rfl
    a_is_wishes := _
    d_is_wishes := d6
    F_is_wishes := fun_of F6
    g_is_wishes := He.glo_ok X G (c.fact 6 rfl)
    k_is_wishes := F6.kp
    b_is_wishes := F6.bindsN fun _ _ _ _ _ _ us hl => match us, hl with | [_], _ => rfl
    a_check_wishes := _
    d_check_wishes := d7
    F_check_wishes := fun_of F7
    g_check_wishes := He.glo_ok X G (c.fact 7 rfl)
    k_check_wishes := F7.kp
    b_check_wishes := F7.bindsN fun _ _ _ _ _ _ us hl => match us, hl with | [_], _ => rfl
    a_is_outcome := _
    d_is_outcome := d8
    F_is_outcome := fun_of F8
    g_is_outcome := He.glo_ok X G (c.fact 8 rfl)
    k_is_outcome := F8.kp
    b_is_outcome := F8.bindsN fun _ _ _ _ _ _ us hl => match us, hl with | [_, _], _ => rfl
    a_check_outcome := _
    d_check_outcome := d9
    F_check_outcome := fun_of F9
    g_check_outcome := He.glo_ok X G (c.fact 9 rfl)
    k_check_outcome := F9.kp
    b_check_outcome := F9.bindsN fun _ _ _ _ _ _ us hl => match us, hl with | [_, _], _ => rfl
    a_liked := _
    d_liked := d10
    F_liked := fun_of F10
    g_liked := He.glo_ok X G (c.fact 10 rfl)
    k_liked := F10.kp
    b_liked := F10.bindsN fun _ _ _ _ _ _ us hl => match us, hl with | [_, _], _ => rfl
    a_place_for := _
    d_place_for := d11
    F_place_for := fun_of F11
    g_place_for := He.glo_ok X G (c.fact 11 rfl)
    k_place_for := F11.kp
    b_place_for := F11.bindsN fun _ _ _ _ _ _ us hl => match us, hl with | [_, _, _], _ => rfl
    a_likes_better := _
    d_likes_better := d12
    F_likes_better := fun_of F12
    g_likes_better := He.glo_ok X G (c.fact 12 rfl)
    k_likes_better := F12.kp
    b_likes_better := F12.bindsN fun _ _ _ _ _ _ us hl => match us, hl with | [_, _, _, _], _ => rfl
    a_pointed := _
    d_pointed := d13
    F_pointed := fun_of F13
    g_pointed := He.glo_ok X G (c.fact 13 rfl)
    k_pointed := F13.kp
    b_pointed := F13.bindsN fun _ _ _ _ _ _ us hl => match us, hl with | [_, _], _ => rfl
    a_ring_from := _
    d_ring_from := d14
    F_ring_from := fun_of F14
    g_ring_from := He.glo_ok X G (c.fact 14 rfl)
    k_ring_from := F14.kp
    b_ring_from := F14.bindsN fun _ _ _ _ _ _ us hl => match us, hl with | [_, _], _ => rfl
    a_rings_of := _
    d_rings_of := d15
    F_rings_of := fun_of F15
    g_rings_of := He.glo_ok X G (c.fact 15 rfl)
    k_rings_of := F15.kp
    b_rings_of := F15.bindsN fun _ _ _ _ _ _ us hl => match us, hl with | [_], _ => rfl
    a_all_rounds := _
    d_all_rounds := d16
    F_all_rounds := fun_of F16
    g_all_rounds := He.glo_ok X G (c.fact 16 rfl)
    k_all_rounds := F16.kp
    b_all_rounds := F16.bindsN fun _ _ _ _ _ _ us hl => match us, hl with | [_], _ => rfl
    a_shared_in := _
    d_shared_in := d17
    F_shared_in := fun_of F17
    g_shared_in := He.glo_ok X G (c.fact 17 rfl)
    k_shared_in := F17.kp
    b_shared_in := F17.bindsN fun _ _ _ _ _ _ us hl => match us, hl with | [_], _ => rfl
    a_swapped := _
    d_swapped := d18
    F_swapped := fun_of F18
    g_swapped := He.glo_ok X G (c.fact 18 rfl)
    k_swapped := F18.kp
    b_swapped := F18.bindsN fun _ _ _ _ _ _ us hl => match us, hl with | [_], _ => rfl
    a_swap := _
    d_swap := d19
    F_swap := fun_of F19
    g_swap := He.glo_ok X G (c.fact 19 rfl)
    k_swap := F19.kp
    b_swap := F19.bindsN fun _ _ _ _ _ _ us hl => match us, hl with | [_], _ => rfl
    a_is_sharing := _
    d_is_sharing := d20
    F_is_sharing := fun_of F20
    g_is_sharing := He.glo_ok X G (c.fact 20 rfl)
    k_is_sharing := F20.kp
    b_is_sharing := F20.bindsN fun _ _ _ _ _ _ us hl => match us, hl with | [_, _], _ => rfl
    a_blocks := _
    d_blocks := d21
    F_blocks := fun_of F21
    g_blocks := He.glo_ok X G (c.fact 21 rfl)
    k_blocks := F21.kp
    b_blocks := F21.bindsN fun _ _ _ _ _ _ us hl => match us, hl with | [_, _, _, _], _ => rfl
    kv_blocks := kw2_of (x := "blocks") (ql := "blocks") (st := top 31) (fun_of (st := top 31) F21) fun _ _ _ _ _ _ us _ hl => match us, hl with | [_, _, _], _ => rfl
    a_blocking_lot := _
    d_blocking_lot := d22
    F_blocking_lot := fun_of F22
    g_blocking_lot := He.glo_ok X G (c.fact 22 rfl)
    k_blocking_lot := F22.kp
    b_blocking_lot := F22.bindsN fun _ _ _ _ _ _ us hl => match us, hl with | [_, _], _ => rfl
    kv_blocking_lot := kw2_of (x := "blocking_lot") (ql := "blocking_lot") (st := top 32) (fun_of (st := top 32) F22) fun _ _ _ _ _ _ us _ hl => match us, hl with | [_], _ => rfl
    a__law_stir := _
    d__law_stir := d23
    F__law_stir := fun_of F23
    g__law_stir := He.glo_ok X G (c.fact 23 rfl)
    k__law_stir := F23.kp
    b__law_stir := F23.bindsN fun _ _ _ _ _ _ us hl => match us, hl with | [_, _], _ => rfl
    a__law_pot := _
    d__law_pot := d24
    F__law_pot := fun_of F24
    g__law_pot := He.glo_ok X G (c.fact 24 rfl)
    k__law_pot := F24.kp
    b__law_pot := F24.bindsN fun _ _ _ _ _ _ us hl => match us, hl with | [_], _ => rfl
    a__law_draw := _
    d__law_draw := d25
    F__law_draw := fun_of F25
    g__law_draw := He.glo_ok X G (c.fact 25 rfl)
    k__law_draw := F25.kp
    b__law_draw := F25.bindsN fun _ _ _ _ _ _ us hl => match us, hl with | [_, _], _ => rfl
    a__law_alike := _
    d__law_alike := d26
    F__law_alike := fun_of F26
    g__law_alike := He.glo_ok X G (c.fact 26 rfl)
    k__law_alike := F26.kp
    b__law_alike := F26.bindsN fun _ _ _ _ _ _ us hl => match us, hl with | [_, _], _ => rfl
    a__law_error := _
    d__law_error := d27
    F__law_error := fun_of F27
    g__law_error := He.glo_ok X G (c.fact 27 rfl)
    k__law_error := F27.kp
    b__law_error := F27.bindsN fun _ _ _ _ _ _ us hl => match us, hl with | [_], _ => rfl
    a__law_shuffled := _
    d__law_shuffled := d28
    F__law_shuffled := fun_of F28
    g__law_shuffled := He.glo_ok X G (c.fact 28 rfl)
    k__law_shuffled := F28.kp
    b__law_shuffled := F28.bindsN fun _ _ _ _ _ _ us hl => match us, hl with | [_, _], _ => rfl
    a__law_rows := _
    d__law_rows := d29
    F__law_rows := fun_of F29
    g__law_rows := He.glo_ok X G (c.fact 29 rfl)
    k__law_rows := F29.kp
    b__law_rows := F29.bindsN fun _ _ _ _ _ _ us hl => match us, hl with | [_, _], _ => rfl
    a__law_rounds := _
    d__law_rounds := d30
    F__law_rounds := fun_of F30
    g__law_rounds := He.glo_ok X G (c.fact 30 rfl)
    k__law_rounds := F30.kp
    b__law_rounds := F30.bindsN fun _ _ _ _ _ _ us hl => match us, hl with | [_], _ => rfl
    a__law_outcome := _
    d__law_outcome := d31
    F__law_outcome := fun_of F31
    g__law_outcome := He.glo_ok X G (c.fact 31 rfl)
    k__law_outcome := F31.kp
    b__law_outcome := F31.bindsN fun _ _ _ _ _ _ us hl => match us, hl with | [_], _ => rfl
    a__law_rank := _
    d__law_rank := d32
    F__law_rank := fun_of F32
    g__law_rank := He.glo_ok X G (c.fact 32 rfl)
    k__law_rank := F32.kp
    b__law_rank := F32.bindsN fun _ _ _ _ _ _ us hl => match us, hl with | [_, _, _], _ => rfl
    a__law_ask := _
    d__law_ask := d33
    F__law_ask := fun_of F33
    g__law_ask := He.glo_ok X G (c.fact 33 rfl)
    k__law_ask := F33.kp
    b__law_ask := F33.bindsN fun _ _ _ _ _ _ us hl => match us, hl with | [_, _, _, _, _], _ => rfl
    a__law_is_number := _
    d__law_is_number := d34
    F__law_is_number := fun_of F34
    g__law_is_number := He.glo_ok X G (c.fact 34 rfl)
    k__law_is_number := F34.kp
    b__law_is_number := F34.bindsN fun _ _ _ _ _ _ us hl => match us, hl with | [_], _ => rfl
    a__law_is_lot := _
    d__law_is_lot := d35
    F__law_is_lot := fun_of F35
    g__law_is_lot := He.glo_ok X G (c.fact 35 rfl)
    k__law_is_lot := F35.kp
    b__law_is_lot := F35.bindsN fun _ _ _ _ _ _ us hl => match us, hl with | [_, _], _ => rfl
    a__law_blocks := _
    d__law_blocks := d36
    F__law_blocks := fun_of F36
    g__law_blocks := He.glo_ok X G (c.fact 36 rfl)
    k__law_blocks := F36.kp
    b__law_blocks := F36.bindsN fun _ _ _ _ _ _ us hl => match us, hl with | [_, _, _, _], _ => rfl
    a__law_back := _
    d__law_back := d37
    F__law_back := fun_of F37
    g__law_back := He.glo_ok X G (c.fact 37 rfl)
    k__law_back := F37.kp
    b__law_back := F37.bindsN fun _ _ _ _ _ _ us hl => match us, hl with | [_, _, _, _], _ => rfl
    a__law_ring := _
    d__law_ring := d38
    F__law_ring := fun_of F38
    g__law_ring := He.glo_ok X G (c.fact 38 rfl)
    k__law_ring := F38.kp
    b__law_ring := F38.bindsN fun _ _ _ _ _ _ us hl => match us, hl with | [_, _], _ => rfl
    a__law_pairs_of := _
    d__law_pairs_of := d39
    F__law_pairs_of := fun_of F39
    g__law_pairs_of := He.glo_ok X G (c.fact 39 rfl)
    k__law_pairs_of := F39.kp
    b__law_pairs_of := F39.bindsN fun _ _ _ _ _ _ us hl => match us, hl with | [_], _ => rfl
    a__law_orders := _
    d__law_orders := d40
    F__law_orders := fun_of F40
    g__law_orders := He.glo_ok X G (c.fact 40 rfl)
    k__law_orders := F40.kp
    b__law_orders := F40.bindsN fun _ _ _ _ _ _ us hl => match us, hl with | [_], _ => rfl
    a__law_sharings := _
    d__law_sharings := d41
    F__law_sharings := fun_of F41
    g__law_sharings := He.glo_ok X G (c.fact 41 rfl)
    k__law_sharings := F41.kp
    b__law_sharings := F41.bindsN fun _ _ _ _ _ _ us hl => match us, hl with | [_], _ => rfl
    a__law_spoilt := _
    d__law_spoilt := d42
    F__law_spoilt := fun_of F42
    g__law_spoilt := He.glo_ok X G (c.fact 42 rfl)
    k__law_spoilt := F42.kp
    b__law_spoilt := F42.bindsN fun _ _ _ _ _ _ us hl => match us, hl with | [_, _, _, _], _ => rfl
    a__law_judged := _
    d__law_judged := d43
    F__law_judged := fun_of F43
    g__law_judged := He.glo_ok X G (c.fact 43 rfl)
    k__law_judged := F43.kp
    b__law_judged := F43.bindsN fun _ _ _ _ _ _ us hl => match us, hl with | [_, _, _, _, _], _ => rfl
    a__law_wrongs := _
    d__law_wrongs := d44
    F__law_wrongs := fun_of F44
    g__law_wrongs := He.glo_ok X G (c.fact 44 rfl)
    k__law_wrongs := F44.kp
    b__law_wrongs := F44.bindsN fun _ _ _ _ _ _ us hl => match us, hl with | [_, _, _, _], _ => rfl
    a__law_outcomes := _
    d__law_outcomes := d45
    F__law_outcomes := fun_of F45
    g__law_outcomes := He.glo_ok X G (c.fact 45 rfl)
    k__law_outcomes := F45.kp
    b__law_outcomes := F45.bindsN fun _ _ _ _ _ _ us hl => match us, hl with | [_, _, _], _ => rfl
    a__law_tried := _
    d__law_tried := d46
    F__law_tried := fun_of F46
    g__law_tried := He.glo_ok X G (c.fact 46 rfl)
    k__law_tried := F46.kp
    b__law_tried := F46.bindsN fun _ _ _ _ _ _ us hl => match us, hl with | [_, _, _], _ => rfl
    a_law := _
    d_law := d47
    F_law := fun_of F47
    g_law := He.glo_ok X G (c.fact 47 rfl)
    k_law := F47.kp
    b_law := F47.bindsN fun _ _ _ _ _ _ us hl => match us, hl with | [_], _ => rfl }, rfl⟩

end K88
end
section
set_option Elab.async false
set_option linter.all false
set_option maxRecDepth 100000
set_option maxHeartbeats 0
namespace K88
open PySem Eng
abbrev R : PySem.W.OpenRow := PySem.W.OpenLaw.row PySem.Challenge.rw_rightfulhands_k88_whole_swap_unblocked
def loose0 : List Str := ["__name__", "HandError", "InvalidNumber", "InvalidLot", "InvalidTable", "TooMany", "is_integer", "is_from_to", "rises", "is_rising", "is_pair", "MOST_PERSONS", "are_things", "is_wishes", "check_wishes", "is_outcome", "check_outcome", "liked", "place_for", "likes_better", "pointed", "ring_from", "rings_of", "all_rounds", "shared_in", "swapped", "swap", "is_sharing", "blocks", "blocking_lot"]
def loose1 : List Str := ["_law_stir", "_law_pot", "_law_draw", "_law_alike", "_law_error", "_law_shuffled", "_law_rows", "_law_rounds", "_law_outcome", "_law_rank", "_law_ask", "_law_is_number", "_law_is_lot", "_law_blocks", "_law_back", "_law_ring", "_law_pairs_of", "_law_orders", "_law_sharings", "_law_spoilt", "_law_judged", "_law_wrongs", "_law_outcomes", "_law_tried"]

abbrev loose : List Str := loose0 ++ loose1
theorem run (w : World) : HandSHeadRun.RunEq R (PySem.W.view R.prog [58]) (hookE 6 fa fn ex) (obE 6 fa fn ex) 20000 loose w := by
  intro os
  kernel_rfl
end K88
end
set_option Elab.async false
set_option linter.all false
set_option maxRecDepth 100000
set_option maxHeartbeats 0
namespace K88
open PySem Eng
theorem law_true : ∀ ns : List Int, ns.length ≤ 63 → m_law [.im (.scr ns)] = .ok (.im (.bl true), []) := fun ns _ => eq_of_mv law_w
end K88
open PySem PySem.W PySem.Calls PyProof.Rows
theorem PySem.Challenge.cw_rightfulhands_k88_whole_swap_unblocked_holds : PySem.Challenge.rw_rightfulhands_k88_whole_swap_unblocked.Holds := by
  w_on; o_law
  refine HandSHeadRun.head_any (r := K88.R) (q := view K88.R.prog [58]) (H := Eng.hookE 6 K88.fa K88.fn K88.ex) (ob := Eng.obE 6 K88.fa K88.fn K88.ex) (M := 20000) (loose := K88.loose) (d := HandSHeadRun.topDef K88.R.prog 58) (kwd := []) Eng.obE_eq
    (by kernel_rfl) (fun s => by kernel_rfl) K88.run (by kernel_rfl) (by kernel_rfl) (by kernel_rfl) (by rfl) (by first | assumption | decide +kernel) (by decide +kernel) ⟨rfl, rfl, rfl, rfl, rfl, by decide +kernel⟩ ?hw ?hc
  case hw => w_witness2
  case hc =>
    refine Eng.law_walkE (l := PySem.Challenge.rw_rightfulhands_k88_whole_swap_unblocked) (n := 63) (k := 11) (x := "script") (mir := K88.m_law) rfl (by decide) (by kernel_rfl) ⟨by decide, by decide, rfl⟩ ?F K88.law_true
    intro w mg fa h Y G hmg0
    obtain ⟨K, KX, c, e⟩ := Y
    have hmg : mg ("law" : PySem.Str) = some (.ref fa) := by
      have e : (HandSHeadRun.topDef K88.R.prog 58).name = ("law" : PySem.Str) := by kernel_rfl
      rw [← e]
      exact hmg0
    obtain ⟨T, hT⟩ := K88.txt_of KX G c e
    have ea := hmg.symm.trans T.g_law
    cases ea
    refine ⟨T.G, T.d_law, KX, fun s v => ?_, fun base _ _ => K88.all_ok T⟩
    exact Eng.b_one T.F_law (fun _ _ _ _ _ _ _ => rfl) s v
